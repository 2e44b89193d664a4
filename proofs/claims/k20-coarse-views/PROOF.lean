import PyProof.Rows.All
import Wide.All
import OpenK.AllK
import Wide.FinOn
import KE.KStateDown
import Lean
import HandS.Base
import HandS.Call
import HandS.List
import HandS.Comp
import HandS.Ends
import HandS.Dict
import HandS.Iter
import HandS.Text
import HandS.Words
import HandS.WordsList
import HandS.Defaults
import HandS.Evl
import HandS.Conv
import HandS.Deep
import HandS.IsInst
import HandS.TupAny
import HandS.TupLe
import HandS.Wide
import HandS.Zip
import HandS.Rev
import HandS.RevRange
import HandS.Star
import HandS.SortInts
import HandS.Head0
import HandS.Head1
import HandS.Head2
import HandS.HeadEnd
import HandS.HeadHook1
import HandS.HeadHook2
import HandS.ExcInit
import HandS.TupMul
import HandS.ExcOwn
import HandS.CallSlots
import HandS.TryMany
import HandS.Strs
import HandS.More
import HandS.GenBody
import HandS.GenYield
import HandS.GenCall
import HandS.GenList
import KE.GoesEnum
import KE.GoesZip
import KE.GoesMore
import PyProof.ListNew
import PyProof.ListRange
import HandS.ExcField
import HandS.ExcValue
import KE.KExcIs
import HandS.OwnEq
import PySem.Challenge.RW_keptpictures_k20_whole_coarse_views
set_option Elab.async false
set_option linter.all false
set_option maxRecDepth 100000
set_option maxHeartbeats 4000000
/-! The common layer: rules that serve operands of any kind, a def's contract in one piece, one step of a reading at a time. -/
namespace KP
open PySem PySem.Spec PyProof.Rows L2 Evl

/-! ### heaps -/
mutual
theorem dp_ex {K : PySem.W.Frag} {H H' : Hp} (e : Evl.Ex H H') : ∀ {d : PyData} {v : V}, Dp K H v d → Dp K H' v d
  | .none, _, h => by cases h; exact .non
  | .bool b, _, h => by cases h; exact .bl b
  | .int i, _, h => by cases h; exact .int i
  | .str x, _, h => by cases h; exact .str x
  | .list ds, _, h => by
    cases h with
    | lst hs ha => exact .lst (Evl.ex_l e hs) (dpAll_ex e ha)
  | .tuple ds, _, h => by
    cases h with
    | tup hs ha => exact .tup (Evl.ex_t e hs) (dpAll_ex e ha)
  | .dict _, _, h => by cases h
theorem dpAll_ex {K : PySem.W.Frag} {H H' : Hp} (e : Evl.Ex H H') : ∀ {ds : List PyData} {vs : List V}, DpAll K H vs ds → DpAll K H' vs ds
  | [], _, h => by cases h; exact .nil
  | d :: ds, _, h => by
    cases h with
    | cons h1 h2 => exact .cons (dp_ex e h1) (dpAll_ex e h2)
end
/-- a list or a tuple that can be read -/
def Sq (K : PySem.W.Frag) (H : Hp) (a : Addr) (xs : List V) : Prop := SqL K H a xs ∨ SqT K H a xs
theorem Sq.l {K : PySem.W.Frag} {H : Hp} {a : Addr} {xs : List V} (h : SqL K H a xs) : Sq K H a xs := .inl h
theorem Sq.t {K : PySem.W.Frag} {H : Hp} {a : Addr} {xs : List V} (h : SqT K H a xs) : Sq K H a xs := .inr h

/-! ### operators of any kind -/
section
variable {X : Cx}
def rAddG (K : PySem.W.Frag) : R2 := fun x y H Q => match x, y with
  | .int i, .int j => Q (.int (i + j)) H
  | .str i, .str j => i.length + j.length ≤ sizeLine ∧ Q (.str (i ++ j)) H
  | .ref a, .ref b => (∃ xs zs, H a = some (.lst xs) ∧ H b = some (.lst zs) ∧ xs.length + zs.length ≤ sizeLine ∧ ∀ p, H p = none → Q (.ref p) (upd H p (.lst (xs ++ zs)))) ∨
      (∃ xs ys, SqT K H a xs ∧ SqT K H b ys ∧ xs.length + ys.length ≤ sizeLine ∧ ∀ p H', Evl.Ex H H' → SqT K H' p (xs ++ ys) → (H' = H ∨ (H p = none ∧ H' = upd H p (.tup (xs ++ ys)))) → Q (.ref p) H')
  | _, _ => False
theorem op_addG : OpR X (binaryOp .Add) (rAddG X.K) := by
  intro pins s σ H x y v u Q I rx ry h
  cases x <;> cases y <;> try exact (show False from h).elim
  case int.int i j => exact op_add pins s σ H _ _ v u Q I rx ry ⟨i, j, rfl, rfl, h⟩
  case str.str i j => exact op_add_str pins s σ H _ _ v u Q I rx ry ⟨i, j, rfl, rfl, h.1, h.2⟩
  case ref.ref a b =>
    rcases (show _ ∨ _ from h) with ⟨xs, zs, h1, h2, h3, h4⟩ | ⟨xs, ys, h1, h2, h3, h4⟩
    · exact op_cat pins s σ H _ _ v u Q I rx ry ⟨a, b, xs, zs, rfl, rfl, h1, h2, h3, h4⟩
    · refine op_catA pins s σ H _ _ v u Q I rx ry ⟨a, b, xs, ys, rfl, rfl, h1, h2, h3, fun e => ?_, fun _ e => ?_, fun _ _ p hp => ?_⟩
      · subst e; exact h4 b H (Evl.Ex.refl H) h2 (.inl rfl)
      · subst e; exact h4 a H (Evl.Ex.refl H) (by rw [List.append_nil]; exact h1) (.inl rfl)
      · exact h4 p _ (Evl.Ex.new hp) (SqT.of upd_same) (.inr ⟨hp, rfl⟩)
def rIsG : R2 := fun x y H Q => match y with
  | .non => Q (.bl (decide (x = .non))) H
  | .bl b => Q (.bl (decide (x = .bl b))) H
  | _ => False
theorem is_plain {x : V} {v : Value} (r : RelV x v) (b : Bool) : plainIs v (.bool b) = true := by
  cases x <;> first
    | (cases r; rfl)
    | (obtain ⟨t, rfl⟩ := r; rfl)
theorem bool_of {x : V} {b : Bool} (r : RelV x (.bool b)) : x = .bl b := (Option.some.inj (show some (V.bl b) = some x from r.abs)).symm
theorem op_isG : OpR X (compareOp .Is) rIsG := by
  intro pins s σ H x y v u Q I rx ry h
  cases y <;> try exact (show False from h).elim
  case non => exact op_isN pins s σ H _ _ v u Q I rx ry ⟨rfl, h⟩
  case bl b =>
    cases (show u = Value.bool b from ry)
    have q : Q (.bl (decide (x = .bl b))) H := h
    by_cases e : x = .bl b
    · subst e
      cases (show v = Value.bool b from rx)
      exact wpAny_is_self rfl ⟨.bl true, H, I, rfl, by simpa using q⟩
    · exact wpAny_is_other (is_plain rx b) (fun z => e (by subst z; exact bool_of rx)) ⟨.bl false, H, I, rfl, by simpa [e] using q⟩
def rMulG : R2 := fun x y H Q => match x, y with
  | .int i, .int j => (CMul i j ∨ CMulW i j) ∧ Q (.int (i * j)) H
  | .ref a, .int k => ∃ xs, H a = some (.lst xs) ∧ -(2 ^ 63) ≤ k ∧ k < 2 ^ 63 ∧ xs.length * k.toNat ≤ sizeLine ∧ ∀ p, H p = none → Q (.ref p) (upd H p (.lst (List.replicate k.toNat xs).flatten))
  | _, _ => False
theorem op_mulG : OpR X (binaryOp .Mult) rMulG := by
  intro pins s σ H x y v u Q I rx ry h
  cases x <;> cases y <;> try exact (show False from h).elim
  case int.int i j =>
    obtain ⟨hc, h⟩ := (show (CMul i j ∨ CMulW i j) ∧ Q (.int (i * j)) H from h)
    rcases hc with hc | hc
    · exact op_mul pins s σ H _ _ v u Q I rx ry ⟨i, j, rfl, rfl, hc, h⟩
    · exact op_mulW pins s σ H _ _ v u Q I rx ry ⟨i, j, rfl, rfl, hc, h⟩
  case ref.int a k =>
    obtain ⟨xs, h1, h2, h3, h4, h5⟩ := h
    exact op_rep pins s σ H _ _ v u Q I rx ry ⟨a, k, xs, rfl, rfl, h1, h2, h3, h4, h5⟩
/-- order: ints; texts; tuples of ints -/
def rOrdG (K : PySem.W.Frag) (fi : Int → Int → Bool) : R2 := fun x y H Q => match x, y with
  | .int i, .int j => Q (.bl (fi i j)) H
  | _, _ => False
theorem op_ltG : OpR X (compareOp .Lt) (rOrdG X.K fun i j => decide (i < j)) := by
  intro pins s σ H x y v u Q I rx ry h
  cases x <;> cases y <;> try exact (show False from h).elim
  case int.int i j => exact op_lt pins s σ H _ _ v u Q I rx ry ⟨i, j, rfl, rfl, h⟩
theorem op_leG : OpR X (compareOp .LtE) (rOrdG X.K fun i j => decide (i ≤ j)) := by
  intro pins s σ H x y v u Q I rx ry h
  cases x <;> cases y <;> try exact (show False from h).elim
  case int.int i j => exact op_le pins s σ H _ _ v u Q I rx ry ⟨i, j, rfl, rfl, h⟩
theorem op_gtG : OpR X (compareOp .Gt) (rOrdG X.K fun i j => decide (j < i)) := by
  intro pins s σ H x y v u Q I rx ry h
  cases x <;> cases y <;> try exact (show False from h).elim
  case int.int i j => exact op_gt pins s σ H _ _ v u Q I rx ry ⟨i, j, rfl, rfl, h⟩
theorem op_geG : OpR X (compareOp .GtE) (rOrdG X.K fun i j => decide (j ≤ i)) := by
  intro pins s σ H x y v u Q I rx ry h
  cases x <;> cases y <;> try exact (show False from h).elim
  case int.int i j => exact op_ge pins s σ H _ _ v u Q I rx ry ⟨i, j, rfl, rfl, h⟩
/-- == : ints, texts, bools, None; else data of any depth -/
def rEqG (K : PySem.W.Frag) (neg : Bool) : R2 := fun x y H Q => match x, y with
  | .int i, .int j => Q (.bl (if neg then !decide (i = j) else decide (i = j))) H
  | .str i, .str j => Q (.bl (if neg then !decide (i = j) else decide (i = j))) H
  | .bl i, .bl j => Q (.bl (if neg then !decide (i = j) else decide (i = j))) H
  | x, y => ∃ d e, Dp K H x d ∧ Dp K H y e ∧ SeqAt.shaped d = true ∧ SeqAt.shaped e = true ∧ Q (.bl (if neg then !PyData.eqv d e else PyData.eqv d e)) H
theorem dec_V {α : Type} {f : α → V} [DecidableEq α] (inj : ∀ a b, f a = f b → a = b) (i j : α) : decide (f i = f j) = decide (i = j) := by
  by_cases e : i = j
  · rw [decide_eq_true e, decide_eq_true (congrArg f e)]
  · rw [decide_eq_false e, decide_eq_false fun z => e (inj _ _ z)]
theorem op_eqG (hu : X.A.units + 64 < cLine) : OpR X (compareOp .Eq) (rEqG X.K false) := by
  intro pins s σ H x y v u Q I rx ry h
  have gen : (∃ d e, Dp X.K H x d ∧ Dp X.K H y e ∧ SeqAt.shaped d = true ∧ SeqAt.shaped e = true ∧ Q (.bl (PyData.eqv d e)) H) → wpAny (model X.prog X.w) X.A (compareOp .Eq v u) (EP X pins σ Q) X.xe s :=
    fun g => op_eqD hu pins s σ H _ _ v u Q I rx ry g
  have sc : scal x y = true → Q (.bl (decide (x = y))) H → wpAny (model X.prog X.w) X.A (compareOp .Eq v u) (EP X pins σ Q) X.xe s :=
    fun g q => op_eq pins s σ H _ _ v u Q I rx ry ⟨g, q⟩
  cases x <;> cases y <;> first
    | exact gen h
    | (refine sc rfl ?_; rw [dec_V (f := V.int) (fun a b z => V.int.inj z)]; exact h)
    | (refine sc rfl ?_; rw [dec_V (f := V.str) (fun a b z => V.str.inj z)]; exact h)
    | (refine sc rfl ?_; rw [dec_V (f := V.bl) (fun a b z => V.bl.inj z)]; exact h)
theorem op_neG (hu : X.A.units + 64 < cLine) : OpR X (compareOp .NotEq) (rEqG X.K true) := by
  intro pins s σ H x y v u Q I rx ry h
  have gen : (∃ d e, Dp X.K H x d ∧ Dp X.K H y e ∧ SeqAt.shaped d = true ∧ SeqAt.shaped e = true ∧ Q (.bl (!PyData.eqv d e)) H) → wpAny (model X.prog X.w) X.A (compareOp .NotEq v u) (EP X pins σ Q) X.xe s :=
    fun g => op_neD hu pins s σ H _ _ v u Q I rx ry g
  have sc : scal x y = true → Q (.bl (!decide (x = y))) H → wpAny (model X.prog X.w) X.A (compareOp .NotEq v u) (EP X pins σ Q) X.xe s :=
    fun g q => op_ne pins s σ H _ _ v u Q I rx ry ⟨g, q⟩
  cases x <;> cases y <;> first
    | exact gen h
    | (refine sc rfl ?_; rw [dec_V (f := V.int) (fun a b z => V.int.inj z)]; exact h)
    | (refine sc rfl ?_; rw [dec_V (f := V.str) (fun a b z => V.str.inj z)]; exact h)
    | (refine sc rfl ?_; rw [dec_V (f := V.bl) (fun a b z => V.bl.inj z)]; exact h)
/-- x in a list or tuple of flat items; a text in a text -/
def rInG (K : PySem.W.Frag) (neg : Bool) : R2 := fun x y H Q => match y with
  | .ref p => ∃ xs, Sq K H p xs ∧ flatV x = true ∧ xs.all flatV = true ∧ Q (.bl (if neg then !inV x xs else inV x xs)) H
  | .str z => ∃ c : Nat, x = .str ⟨#[c]⟩ ∧ Q (.bl (if neg then !decide (c ∈ z.cps.toList) else decide (c ∈ z.cps.toList))) H
  | _ => False
theorem op_inG (hu : X.A.units + 64 < cLine) : OpR X (compareOp .In) (rInG X.K false) := by
  intro pins s σ H x y v u Q I rx ry h
  cases y <;> try exact (show False from h).elim
  case ref p =>
    obtain ⟨xs, h1, h2, h3, h4⟩ := h
    exact op_in_seq pins s σ H _ _ v u Q I rx ry ⟨p, xs, rfl, h1, h2, h3, h4⟩
  case str z =>
    obtain ⟨c, rfl, q⟩ := h
    exact op_in_sign pins s σ H _ _ v u Q I rx ry ⟨c, z, rfl, rfl, q⟩
theorem op_notInG (hu : X.A.units + 64 < cLine) : OpR X (compareOp .NotIn) (rInG X.K true) := by
  intro pins s σ H x y v u Q I rx ry h
  cases y <;> try exact (show False from h).elim
  case ref p =>
    obtain ⟨xs, h1, h2, h3, h4⟩ := h
    exact op_notIn_seq pins s σ H _ _ v u Q I rx ry ⟨p, xs, rfl, h1, h2, h3, h4⟩
  case str z =>
    obtain ⟨c, rfl, q⟩ := h
    exact op_notIn_sign pins s σ H _ _ v u Q I rx ry ⟨c, z, rfl, rfl, q⟩
def rIsnotG : R2 := fun x y H Q => match y with
  | .non => Q (.bl (!decide (x = .non))) H
  | .bl b => Q (.bl (!decide (x = .bl b))) H
  | _ => False
theorem op_isnotG : OpR X (compareOp .IsNot) rIsnotG := by
  intro pins s σ H x y v u Q I rx ry h
  cases y <;> try exact (show False from h).elim
  case non => exact op_notN pins s σ H _ _ v u Q I rx ry ⟨rfl, h⟩
  case bl b =>
    cases (show u = Value.bool b from ry)
    have q : Q (.bl (!decide (x = .bl b))) H := h
    by_cases e : x = .bl b
    · subst e
      cases (show v = Value.bool b from rx)
      exact wpAny_isNot_self rfl ⟨.bl false, H, I, rfl, by simpa using q⟩
    · exact wpAny_isNot_other (is_plain rx b) (fun z => e (by subst z; exact bool_of rx)) ⟨.bl true, H, I, rfl, by simpa [e] using q⟩
/-! ### subscripts, slices -/
def rIxG (K : PySem.W.Frag) : R2 := fun x y H Q => match x, y with
  | .ref p, .int i => ∃ xs v, Sq K H p xs ∧ atI xs i = some v ∧ Q v H
  | .str z, .int i => ∃ c, z.length ≤ sizeLine ∧ atI z.cps.toList i = some c ∧ Q (.str ⟨#[c]⟩) H
  | _, _ => False
theorem ix_G : IxR X (rIxG X.K) := by
  intro value slice pins s σ H x y v u Q I rx ry h hs
  cases x <;> cases y <;> try exact (show False from h).elim
  case ref.int p i =>
    obtain ⟨xs, w, h1, h2, h3⟩ := h
    rcases h1 with h1 | h1
    · exact ix_list value slice pins s σ H _ _ v u Q I rx ry ⟨p, xs, i, w, rfl, rfl, h1, h2, h3⟩ hs
    · exact ix_tup value slice pins s σ H _ _ v u Q I rx ry ⟨p, xs, i, w, rfl, rfl, h1, h2, h3⟩ hs
  case str.int z i =>
    obtain ⟨c, h1, h2, h3⟩ := h
    exact ix_str value slice pins s σ H _ _ v u Q I rx ry ⟨z, i, c, rfl, rfl, h1, h2, h3⟩ hs
def rSlG (K : PySem.W.Frag) : V → Option Int → Option Int → Hp → VK → Prop := fun x lo hi H Q => match x with
  | .ref a => (∃ xs, SqL K H a xs ∧ ∀ p, H p = none → Q (.ref p) (upd H p (.lst (cutV xs lo hi)))) ∨
      ∃ xs, SqT K H a xs ∧ ∀ p H', Evl.Ex H H' → SqT K H' p (cutV xs lo hi) → (H' = H ∨ (H p = none ∧ H' = upd H p (.tup (cutV xs lo hi)))) → Q (.ref p) H'
  | .str z => z.length ≤ sizeLine ∧ Q (.str (cutS z lo hi)) H
  | _ => False
theorem cutV_whole {xs : List V} {lo hi : Option Int} (h : HT.sIx xs.length 0 lo = 0 ∧ HT.sIx xs.length xs.length hi = xs.length) : cutV xs lo hi = xs := by
  unfold cutV
  rw [h.1, h.2]
  simp
theorem sl_G : SlR X (rSlG X.K) := by
  intro pins s σ H x v vl vu lo hi sl Q I rx hs pl pu h
  cases x <;> try exact (show False from h).elim
  case ref a =>
    rcases (show _ ∨ _ from h) with ⟨xs, h1, h2⟩ | ⟨xs, h1, h2⟩
    · exact sl_list pins s σ H _ v vl vu lo hi sl Q I rx hs pl pu ⟨a, xs, rfl, h1, h2⟩
    · refine sl_tupA pins s σ H _ v vl vu lo hi sl Q I rx hs pl pu ⟨a, xs, rfl, h1, fun e => ?_, fun _ p hp => ?_⟩
      · exact h2 a H (Evl.Ex.refl H) (by rw [cutV_whole e]; exact h1) (.inl rfl)
      · exact h2 p _ (Evl.Ex.new hp) (SqT.of upd_same) (.inr ⟨hp, rfl⟩)
  case str z =>
    obtain ⟨h1, h2⟩ := (show z.length ≤ sizeLine ∧ Q (.str (cutS z lo hi)) H from h)
    exact sl_str pins s σ H _ v vl vu lo hi sl Q I rx hs pl pu ⟨z, rfl, h1, h2⟩
/-! ### what a for walks: a list, a tuple, a text -/
def iGv (K : PySem.W.Frag) (x : V) (H1 : Hp) (R : It → Hp → Prop) : Prop := match x with
  | .ref a => ((∃ xs, SqL K H1 a xs) ∧ R (Itl K a) H1) ∨ ((∃ xs, SqT K H1 a xs) ∧ R (Itt K a) H1)
  | .str z => R (Its z) H1
  | _ => False
def iG (K : PySem.W.Frag) (tl : TE) : TI := fun σ H R => tl σ H fun x H1 => iGv K x H1 R
theorem pi_G {tg l : Expr} {tl : TE} (hl : PE X l tl) : PI X tg l (iG X.K tl) := by
  refine ⟨fun pins s σ H R I h => ?_⟩
  refine thn (hl.run pins s σ H _ I h) fun v s1 ⟨x, H1, I1, r1, q⟩ => ?_
  cases x with
  | ref a =>
    obtain rfl : v = Value.ref a := r1
    rcases (show _ ∨ _ from q) with ⟨⟨xs, hq⟩, q2⟩ | ⟨⟨xs, hq⟩, q2⟩
    · obtain ⟨its, rv, pl, hz⟩ := I1.list hq
      exact wpAny_pyIter_list pl.isList (pi_one (tk := s1.toks) I1 _ (turn_list a _) ⟨_, Heap.get?_push_size _ rfl, rfl, rfl⟩ q2)
    · obtain ⟨its, rv, pl, hz⟩ := I1.tuple hq
      exact wpAny_pyIter_tuple (show s1.heap.IsTuple a its.toArray from pl) (pi_one (tk := s1.toks) I1 _ (turn_tuple a _) ⟨_, Heap.get?_push_size _ rfl, rfl, rfl⟩ q2)
  | str z =>
    obtain ⟨t, rfl⟩ := r1
    cases ha : z.cps.all (· < 128) with
    | false => exact wpAny_pyIter_wide ha (pi_one (tk := s1.toks) I1 _ (turn_str _ z t "str_iterator" (.inr rfl)) ⟨_, Heap.get?_push_size _ rfl, rfl, rfl⟩ q)
    | true => exact wpAny_pyIter_ascii ha (pi_one (tk := s1.toks) I1 _ (turn_str _ z t "str_ascii_iterator" (.inl rfl)) ⟨_, Heap.get?_push_size _ rfl, rfl, rfl⟩ q)
  | _ => exact (show False from q).elim
/-! ### augmented -/
def ipF (f : Int → Int → Int) (C : Int → Int → Prop) : TIp := fun x y H Q => match x, y with
  | .int i, .int j => C i j ∧ Q (.int (f i j)) H
  | _, _ => False
theorem ip_ofI {op : Operator} {f : Int → Int → Int} {C : Int → Int → Prop} (o : OpR X (inplaceOp op) (rI C fun i j => .int (f i j))) : PIp X op (ipF f C) := by
  intro pins s σ H x y v u Q I rx ry h
  cases x <;> cases y <;> try exact (show False from h).elim
  case int.int i j => exact o pins s σ H _ _ v u Q I rx ry ⟨i, j, rfl, rfl, h.1, h.2⟩
theorem ip_ofI0 {op : Operator} {f : Int → Int → Int} (o : OpR X (inplaceOp op) (rI0 fun i j => .int (f i j))) : PIp X op (ipF f fun _ _ => True) := by
  intro pins s σ H x y v u Q I rx ry h
  cases x <;> cases y <;> try exact (show False from h).elim
  case int.int i j => exact o pins s σ H _ _ v u Q I rx ry ⟨i, j, rfl, rfl, h.2⟩
theorem ip_addG : PIp X .Add (ipF (fun i j => i + j) fun _ _ => True) := ip_ofI0 iop_add
theorem ip_subG : PIp X .Sub (ipF (fun i j => i - j) fun _ _ => True) := ip_ofI0 iop_sub
theorem ip_xorG : PIp X .BitXor (ipF (fun i j => Builtin.bitXor i j) fun _ _ => True) := ip_ofI0 iop_xor
theorem ip_mulG : PIp X .Mult (ipF (fun i j => i * j) CMul) := ip_ofI iop_mul
theorem ip_fdivG : PIp X .FloorDiv (ipF (fun i j => i / j) CDiv) := ip_ofI iop_fdiv
theorem ip_modG : PIp X .Mod (ipF (fun i j => i % j) fun _ j => 0 < j) := ip_ofI iop_mod
/-! ### isinstance with one built-in class -/
def tyN (K : PySem.W.Frag) (H : Hp) (x : V) (T : String) : Prop := TyX K H x (.type T)
def isiB (T c : String) : Option Bool := PySem.W.kitOne [] (.type T) (.type c)
theorem call_isiG : CallR X (.builtin "isinstance") (rIsi X.K) := call_isi
theorem hu64 {A : Around} {k : Nat} (hr : Room k A) : A.units + 64 < cLine := hr.units
end
/-! ### a def's contract in one piece -/
structure Cal (P : Program) (w : World) (K : PySem.W.Frag) (mg : Str → Option Value) (base : Heap) (CX : CXT) (k : Nat) (x : Str) (ps : List Str) (sp : Sp) : Prop where
  ex : ∃ (f : Addr) (fd : FuncData), mg x = some (.ref f) ∧ PySem.W.keepIn K (.ref f) = true ∧ Binds K fd ps [] ∧ FnOk P w K mg base CX k f fd ps sp
theorem Cal.mk' {P : Program} {w : World} {K : PySem.W.Frag} {mg : Str → Option Value} {base : Heap} {CX : CXT} {k : Nat} {x : Str} {ps : List Str} {sp : Sp} {f : Addr} {fd : FuncData} (h1 : mg x = some (.ref f)) (h2 : PySem.W.keepIn K (.ref f) = true) (h3 : Binds K fd ps []) (h4 : FnOk P w K mg base CX k f fd ps sp) : Cal P w K mg base CX k x ps sp := ⟨⟨f, fd, h1, h2, h3, h4⟩⟩
def tCal (sp : Sp) (E : XK) (t : TA) : TE := fun σ H Q => t σ H fun vs H1 => sp vs H1 Q E
theorem tCall_nil (sp : Sp) (E : XK) (t : TA) : tCall sp [] E t = tCal sp E t := by
  funext σ H Q
  unfold tCall tCal
  congr 1
  funext vs H1
  rw [List.append_nil]
section
variable {X : Cx} {CX : CXT} {k : Nat} {x : Str} {ps : List Str} {sp : Sp} {E : XK} {e : Expr} {es : List Expr} {t : TA} {p pos : Pos}
theorem pe_cal (C : Cal X.prog X.w X.K X.mg X.base CX k x ps sp) (hr : Room k X.A) (hg : Gl X x) (hx : Passes CX X E) (ha : PA X (e :: es) t) (hdb : (x == ("__debug__" : Str)) = false := by decide)
    (he : starEach (e :: es) X.env = (false, eval e X.env) :: starEach es X.env := by rfl) (hpl : (backTo pos (starEach es X.env)).any (·.1) = false := by rfl) :
    PE X (.Call (.Name x p) (e :: es) [] pos) (tCal sp E t) := by
  obtain ⟨f, fd, h1, h2, h3, h4⟩ := C.ex
  rw [← tCall_nil]
  exact pe_call h4 hr hg h1 h2 h3 .nil hx ha hdb he hpl
theorem pe_cal0 (C : Cal X.prog X.w X.K X.mg X.base CX k x ps sp) (hr : Room k X.A) (hg : Gl X x) (hx : Passes CX X E) (hdb : (x == ("__debug__" : Str)) = false := by decide) :
    PE X (.Call (.Name x p) [] [] pos) (tCal sp E tNil) := by
  obtain ⟨f, fd, h1, h2, h3, h4⟩ := C.ex
  rw [← tCall_nil]
  exact pe_call0 h4 hr hg h1 h2 h3 .nil hx hdb
theorem pe_globD {u : Addr} (hg : Gl X x) (hm : X.mg x = some (.ref u)) (hd : (x == ("__debug__" : Str)) = false := by decide) : PE X (.Name x pos) (tC (.ref u)) := pe_glob hg hm rfl hd
end
/-! ### the head's facts in one piece; ex: what else K says -/
abbrev Ex1 : Type := PySem.W.Frag → Bool
def exAll (ex : List Ex1) (K : PySem.W.Frag) : Bool := ex.all fun f => f K
abbrev AlE : Type := He.AlD × Bool
def obsE (fa : List He.Fa) (fn : List He.DefD) (ex : List Ex1) (K : PySem.W.Frag) : AlE := (He.obsD fa fn K, exAll ex K)
def obsEG (n : Nat) (fa : List He.Fa) (fn : List He.DefD) (ex : List Ex1) (g : Addr → Option Obj) : AlE := obsE fa fn ex (He.frG g (He.asD g n))
def hookE (n : Nat) (fa : List He.Fa) (fn : List He.DefD) (ex : List Ex1) : PySem.W.Hook where
  α := AlE
  obs := fun s => obsEG n fa fn ex s.heap.get?
  val := fun _ => (He.valD fn, true)
  says := fun _ h => ∃ K : PySem.W.Frag, K.In h ∧ He.SaysD fa fn K ∧ exAll ex K = true
  of := fun _ _ e => ⟨_, He.frG_in, congrArg (fun z : AlE => z.1) e, congrArg (fun z : AlE => z.2) e⟩
  keeps := fun _ _ _ ⟨K, hK, c⟩ k => ⟨K, PySem.W.Frag.In.keeps hK k, c⟩
theorem obsEG_eq {n : Nat} {fa : List He.Fa} {fn : List He.DefD} {ex : List Ex1} {g : Addr → Option Obj} {s : Shared} (h : ∀ a, g a = s.heap.get? a) : obsEG n fa fn ex g = (hookE n fa fn ex).obs s := by
  have e : g = s.heap.get? := funext h
  rw [e] <;> rfl
structure Hd (fa : List He.Fa) (fn : List He.DefD) (ex : List Ex1) (K : PySem.W.Frag) (mg : Str → Option Value) : Prop where
  hp : ∃ h : Heap, K.In h ∧ h.Ns mainGlobals mg
  c : He.SaysD fa fn K
  x : exAll ex K = true
section
variable {fa : List He.Fa} {fn : List He.DefD} {ex : List Ex1} {K : PySem.W.Frag} {mg : Str → Option Value}
theorem Hd.free (hd : Hd fa fn ex K mg) {x : Str} (i : Nat) (h : fa[i]? = some (.free x) := by rfl) : mg x = none := by
  obtain ⟨hh, X, G⟩ := hd.hp
  exact He.free_ok X G (hd.c.fact i h)
theorem Hd.glo (hd : Hd fa fn ex K mg) {x : Str} (i : Nat) (h : fa[i]? = some (.glo x) := by rfl) : mg x = some (.ref (He.ga K x)) := by
  obtain ⟨hh, X, G⟩ := hd.hp
  exact He.glo_ok X G (hd.c.fact i h)
theorem Hd.def_ (hd : Hd fa fn ex K mg) (i : Nat) {d : He.DefD} (h : fn[i]? = some d := by rfl) : ∃ fd, FunD K d.name d.qual d.params d.body d.scope (d.dvs K) (d.kws K) (He.fAd K d.at_) fd := hd.c.def_ i h
theorem Hd.more (hd : Hd fa fn ex K mg) (i : Nat) {f : Ex1} (h : ex[i]? = some f := by rfl) : f K = true := List.all_eq_true.mp hd.x f (List.mem_of_getElem? h)
end
/-! ### promises by the number of parameters -/
def sp0 (p : Hp → VK → XK → Prop) : Sp := fun vs H Q E => vs = [] ∧ p H Q E
def sp1 (p : V → Hp → VK → XK → Prop) : Sp := fun vs H Q E => ∃ a, vs = [a] ∧ p a H Q E
def sp2 (p : V → V → Hp → VK → XK → Prop) : Sp := fun vs H Q E => ∃ a b, vs = [a, b] ∧ p a b H Q E
def sp3 (p : V → V → V → Hp → VK → XK → Prop) : Sp := fun vs H Q E => ∃ a b c, vs = [a, b, c] ∧ p a b c H Q E
def sp4 (p : V → V → V → V → Hp → VK → XK → Prop) : Sp := fun vs H Q E => ∃ a b c d, vs = [a, b, c, d] ∧ p a b c d H Q E
def sp5 (p : V → V → V → V → V → Hp → VK → XK → Prop) : Sp := fun vs H Q E => ∃ a b c d e, vs = [a, b, c, d, e] ∧ p a b c d e H Q E
def sp6 (p : V → V → V → V → V → V → Hp → VK → XK → Prop) : Sp := fun vs H Q E => ∃ a b c d e f, vs = [a, b, c, d, e, f] ∧ p a b c d e f H Q E
end KP

/-! One step of a reading at a time: each lemma's conclusion begins with one reading's head. -/
namespace KP
open PySem PySem.Spec PyProof.Rows L2 Evl
section
variable {σ : L2.St} {H : Hp} {D : Ends} {t u tb2 : TS} {ta tb tc te : TE} {c c2 : TT} {g : TG} {i : Nat} {v x y : V} {Q : VK} {K : PySem.W.Frag} {a b cc d : L2.St → Hp → Prop} {r : VK} {tas : TA}
theorem w_seq (h : t ⟨u D, D.rt, D.bk, D.ct⟩ σ H) : tSeq t u D σ H := h
theorem w_cut (Mid : L2.St → Hp → Prop) (h1 : t ⟨Mid, D.rt, D.bk, D.ct⟩ σ H) (h2 : ∀ σ' H', Mid σ' H' → u D σ' H') : Evl.tCut t u D σ H := ⟨Mid, h1, h2⟩
theorem w_nx (h : a σ H) : Ends.nx ⟨a, r, b, cc⟩ σ H := h
theorem w_rt (h : r v H) : Ends.rt ⟨a, r, b, cc⟩ v H := h
theorem w_bk (h : b σ H) : Ends.bk ⟨a, r, b, cc⟩ σ H := h
theorem w_ct (h : cc σ H) : Ends.ct ⟨a, r, b, cc⟩ σ H := h
theorem w_next (h : D.nx σ H) : tNext D σ H := h
theorem w_break (h : D.bk σ H) : tBreak D σ H := h
theorem w_cont (h : D.ct σ H) : tCont D σ H := h
theorem w_asg (h : te σ H fun x H1 => g x σ H1 D.nx) : tAsg te g D σ H := h
theorem w_gname {R : L2.St → Hp → Prop} (h : R (σ.set i (some v)) H) : gName i v σ H R := h
theorem w_drop (h : te σ H fun _ H1 => D.nx σ H1) : tDrop te D σ H := h
theorem w_ret (h : te σ H D.rt) : tRet te D σ H := h
theorem w_retN (h : D.rt .non H) : tRetN D σ H := h
theorem w_if (h : c σ H fun b H1 => if b = true then t D σ H1 else u D σ H1) : tIfS c t u D σ H := h
theorem w_aug {ti : TIp} (h0 : σ[i]? = some (some x)) (h : te σ H fun y H1 => ti x y H1 fun z H2 => D.nx (σ.set i (some z)) H2) : tAug i te ti D σ H := ⟨x, h0, h⟩
theorem w_gsub {to ti : TE} {s : TSet} {R : L2.St → Hp → Prop} (h : to σ H fun o H1 => ti σ H1 fun j H2 => s o j v H2 fun H3 => R σ H3) : gSub to ti s v σ H R := h
theorem w_setL {p : Addr} {xs : List V} {k : Int} {j : Nat} {R : Hp → Prop} (h1 : H p = some (.lst xs)) (h2 : ixN xs.length k = some j) (h : R (upd H p (.lst (xs.set j v)))) : rSetL (.ref p) (.int k) v H R := ⟨p, xs, k, j, rfl, rfl, h1, h2, h⟩
theorem w_gtup {p : Addr} {xs : List V} {n : Nat} {tg : TGs} {R : L2.St → Hp → Prop} (h1 : SqT K H p xs) (h2 : xs.length = n) (h : tg xs σ H R) : gTup K n tg (.ref p) σ H R := ⟨p, xs, rfl, h1, h2, h⟩
theorem w_gcons {tg : TGs} {vs : List V} {R : L2.St → Hp → Prop} (h : g v σ H fun σ' H' => tg vs σ' H' R) : gCons g tg (v :: vs) σ H R := ⟨v, vs, rfl, h⟩
theorem w_gnil {R : L2.St → Hp → Prop} (h : R σ H) : gNil [] σ H R := ⟨rfl, h⟩
/-! expressions -/
theorem w_var (h0 : σ[i]? = some (some v)) (h : Q v H) : tVar i σ H Q := ⟨v, h0, h⟩
theorem w_c (h : Q v H) : tC v σ H Q := h
theorem w_op {r : R2} (h : ta σ H fun x H1 => tb σ H1 fun y H2 => r x y H2 Q) : tOp r ta tb σ H Q := h
theorem w_un {r : V → Hp → VK → Prop} (h : ta σ H fun x H1 => r x H1 Q) : tUn r ta σ H Q := h
theorem w_nil {R : List V → Hp → Prop} (h : R [] H) : tNil σ H R := h
theorem w_cons {R : List V → Hp → Prop} (h : ta σ H fun x H1 => tas σ H1 fun xs H2 => R (x :: xs) H2) : tCons ta tas σ H R := h
theorem w_cb {r : List V → Hp → VK → Prop} (h : tas σ H fun vs H1 => r vs H1 Q) : tCB r tas σ H Q := h
theorem w_cal {sp : Sp} {E : XK} (h : tas σ H fun vs H1 => sp vs H1 Q E) : tCal sp E tas σ H Q := h
/-- the value is a bool, with which R holds -/
def BlOk (x : V) (R : Bool → Prop) : Prop := ∃ k, x = .bl k ∧ R k
/-- the value's truth, with which R holds -/
def TruOk (K : PySem.W.Frag) (x : V) (H : Hp) (R : Bool → Hp → Prop) : Prop := ∃ k, TruV K x H k ∧ R k H
def tTruG (K : PySem.W.Frag) (ta : TE) : TT := fun σ H R => ta σ H fun x H' => TruOk K x H' R
theorem pt_truG {X : Cx} {e : Expr} {te : TE} (he : PE X e te) (hw : ∀ whole, isTrue e X.env whole = (do let v ← whole; standAt e.pos; holding [v] (truthy v))) : PT X e (tTruG X.K te) := pt_truth he hw
theorem w_truG {R : Bool → Hp → Prop} (h : te σ H fun x H' => TruOk K x H' R) : tTruG K te σ H R := h
theorem w_test {R : Bool → Hp → Prop} (h : te σ H fun x H' => BlOk x fun k => R k H') : tTest te σ H R := h
theorem w_tB {R : Bool → Hp → Prop} (h : te σ H fun x H' => BlOk x fun k => R k H') : tB te σ H R := h
theorem w_bl {k : Bool} {R : Bool → Prop} (h : R k) : BlOk (.bl k) R := ⟨k, rfl, h⟩
theorem w_tru {k : Bool} {R : Bool → Hp → Prop} (h : R k H) : TruOk K (.bl k) H R := ⟨k, rfl, h⟩
theorem w_truI {k : Int} {R : Bool → Hp → Prop} (h : R (k != 0) H) : TruOk K (.int k) H R := ⟨_, rfl, h⟩
theorem w_truN {R : Bool → Hp → Prop} (h : R false H) : TruOk K .non H R := ⟨_, rfl, h⟩
theorem w_truL {p : Addr} {xs : List V} {R : Bool → Hp → Prop} (h1 : Sq K H p xs) (h : R (!xs.isEmpty) H) : TruOk K (.ref p) H R := by
  rcases h1 with h1 | h1
  · exact ⟨_, .inl ⟨xs, h1, rfl⟩, h⟩
  · exact ⟨_, .inr (.inl ⟨xs, h1, rfl⟩), h⟩
theorem w_not {R : Bool → Hp → Prop} (h : c σ H fun b H1 => R (!b) H1) : tNot c σ H R := h
theorem w_and {R : Bool → Hp → Prop} (h : c σ H fun b H1 => if b = true then c2 σ H1 R else R false H1) : tAnd c c2 σ H R := h
theorem w_or {R : Bool → Hp → Prop} (h : c σ H fun b H1 => if b = true then R true H1 else c2 σ H1 R) : tOr c c2 σ H R := h
theorem w_andV (h : ta σ H fun x H1 => BlOk x fun b => if b = true then tb σ H1 Q else Q (.bl false) H1) : tAndV ta tb σ H Q := h
theorem w_orV (h : ta σ H fun x H1 => BlOk x fun b => if b = true then Q (.bl true) H1 else tb σ H1 Q) : tOrV ta tb σ H Q := h
theorem w_notV (h : ta σ H fun x H1 => BlOk x fun b => Q (.bl (!b)) H1) : tNotV ta σ H Q := h
theorem w_ife (h : c σ H fun b H1 => if b = true then ta σ H1 Q else tb σ H1 Q) : tIf c ta tb σ H Q := h
theorem w_chain {r1 r2 : R2} (h : ta σ H fun x H1 => tb σ H1 fun y H2 => r1 x y H2 fun z H3 => BlOk z fun k => if k = true then tc σ H3 fun w' H4 => r2 y w' H4 Q else Q (.bl false) H3) : tChain r1 r2 ta tb tc σ H Q := h
theorem w_tup (h : tas σ H fun xs H1 => xs.length ≤ sizeLine ∧ ∀ p, H1 p = none → Q (.ref p) (upd H1 p (.tup xs))) : tTup tas σ H Q := h
theorem w_lst (h : tas σ H fun xs H1 => xs.length ≤ sizeLine ∧ ∀ p, H1 p = none → Q (.ref p) (upd H1 p (.lst xs))) : tLst tas σ H Q := h
theorem w_sl {rr : V → Option Int → Option Int → Hp → VK → Prop} {tl th : TO} (h : te σ H fun x H1 => tl σ H1 fun l H2 => th σ H2 fun u H3 => rr x l u H3 Q) : tSl rr te tl th σ H Q := h
theorem w_nopart {R : Option Int → Hp → Prop} (h : R none H) : tNoPart σ H R := h
/-- the value is an int, with which R holds -/
def IntOk (x : V) (R : Int → Prop) : Prop := ∃ k, x = .int k ∧ R k
theorem w_part {R : Option Int → Hp → Prop} (h : te σ H fun x H1 => IntOk x fun k => R (some k) H1) : tPart te σ H R := h
theorem w_pint {k : Int} {R : Int → Prop} (h : R k) : IntOk (.int k) R := ⟨k, rfl, h⟩
theorem w_bm {T : String} {rr : V → List V → Hp → VK → Prop} (h : te σ H fun x H1 => tyV K T x H1 ∧ tas σ H1 fun xs H2 => rr x xs H2 Q) : tBM K T rr te tas σ H Q := h
theorem w_bm0 {T : String} {rr : V → List V → Hp → VK → Prop} (h : te σ H fun x H1 => tyV K T x H1 ∧ rr x [] H1 Q) : tBM0 K T rr te σ H Q := h
/-! values -/
theorem w_addI {i j : Int} (h : Q (.int (i + j)) H) : rAddG K (.int i) (.int j) H Q := h
theorem w_catL {p q : Addr} {xs zs : List V} (h1 : H p = some (.lst xs)) (h2 : H q = some (.lst zs)) (h3 : xs.length + zs.length ≤ 100000) (h : ∀ n, H n = none → Q (.ref n) (upd H n (.lst (xs ++ zs)))) : rAddG K (.ref p) (.ref q) H Q :=
  .inl ⟨xs, zs, h1, h2, sz_of h3, h⟩
theorem w_catT {p q : Addr} {xs zs : List V} (h1 : SqT K H p xs) (h2 : SqT K H q zs) (h3 : xs.length + zs.length ≤ 100000) (h : ∀ n H', Evl.Ex H H' → SqT K H' n (xs ++ zs) → Q (.ref n) H') : rAddG K (.ref p) (.ref q) H Q :=
  .inr ⟨xs, zs, h1, h2, sz_of h3, fun n H' e s _ => h n H' e s⟩
theorem w_I0 {gg : Int → Int → V} {i j : Int} (h : Q (gg i j) H) : rI0 gg (.int i) (.int j) H Q := ⟨i, j, rfl, rfl, h⟩
theorem w_I {C : Int → Int → Prop} {gg : Int → Int → V} {i j : Int} (hc : C i j) (h : Q (gg i j) H) : rI C gg (.int i) (.int j) H Q := ⟨i, j, rfl, rfl, hc, h⟩
theorem w_U {gg : Int → V} {i : Int} (h : Q (gg i) H) : rU gg (.int i) H Q := ⟨i, rfl, h⟩
theorem w_mulI {i j : Int} (hc : CMul i j ∨ CMulW i j) (h : Q (.int (i * j)) H) : rMulG (.int i) (.int j) H Q := ⟨hc, h⟩
theorem w_ord {f : Int → Int → Bool} {i j : Int} (h : Q (.bl (f i j)) H) : rOrdG K f (.int i) (.int j) H Q := h
theorem w_eqI {i j : Int} (h : Q (.bl (decide (i = j))) H) : rEqG K false (.int i) (.int j) H Q := h
theorem w_neI {i j : Int} (h : Q (.bl (!decide (i = j))) H) : rEqG K true (.int i) (.int j) H Q := h
theorem w_eqS {i j : Str} (h : Q (.bl (decide (i = j))) H) : rEqG K false (.str i) (.str j) H Q := h
theorem w_neS {i j : Str} (h : Q (.bl (!decide (i = j))) H) : rEqG K true (.str i) (.str j) H Q := h
theorem w_eqB {i j : Bool} (h : Q (.bl (decide (i = j))) H) : rEqG K false (.bl i) (.bl j) H Q := h
theorem w_neB {i j : Bool} (h : Q (.bl (!decide (i = j))) H) : rEqG K true (.bl i) (.bl j) H Q := h
theorem w_isN (h : Q (.bl (decide (x = .non))) H) : rIsG x .non H Q := h
theorem w_isB {k : Bool} (h : Q (.bl (decide (x = .bl k))) H) : rIsG x (.bl k) H Q := h
theorem w_isnotN (h : Q (.bl (!decide (x = .non))) H) : rIsnotG x .non H Q := h
theorem w_isnotB {k : Bool} (h : Q (.bl (!decide (x = .bl k))) H) : rIsnotG x (.bl k) H Q := h
theorem w_ix {p : Addr} {xs : List V} {k : Int} (h1 : Sq K H p xs) (h2 : atI xs k = some v) (h : Q v H) : rIxG K (.ref p) (.int k) H Q := ⟨xs, v, h1, h2, h⟩
theorem w_ipF {f : Int → Int → Int} {C : Int → Int → Prop} {i j : Int} (hc : C i j) (h : Q (.int (f i j)) H) : ipF f C (.int i) (.int j) H Q := ⟨hc, h⟩
theorem w_append {l : Addr} {xs : List V} (h1 : H l = some (.lst xs)) (h2 : xs.length < sizeLine) (h : Q .non (upd H l (.lst (xs ++ [y])))) : rAppend (.ref l) [y] H Q := ⟨l, xs, y, rfl, rfl, h1, h2, h⟩
theorem ty_list {p : Addr} {xs : List V} (h : H p = some (.lst xs)) : tyV K "list" (.ref p) H := Or.inl ⟨rfl, xs, SqL.of h⟩
theorem w_tyL {p : Addr} {xs : List V} {R : Prop} (h1 : H p = some (.lst xs)) (h : R) : tyV K "list" (.ref p) H ∧ R := ⟨ty_list h1, h⟩
theorem w_sz {n : Nat} {R : Prop} (h1 : n ≤ 100000) (h : R) : n ≤ sizeLine ∧ R := ⟨sz_of h1, h⟩
/-! promises -/
section
variable {E : XK} {v0 v1 v2 v3 v4 v5 : V}
theorem w_sp0 {p : Hp → VK → XK → Prop} (h : p H Q E) : sp0 p [] H Q E := ⟨rfl, h⟩
theorem w_sp1 {p : V → Hp → VK → XK → Prop} (h : p v0 H Q E) : sp1 p [v0] H Q E := ⟨_, rfl, h⟩
theorem w_sp2 {p : V → V → Hp → VK → XK → Prop} (h : p v0 v1 H Q E) : sp2 p [v0, v1] H Q E := ⟨_, _, rfl, h⟩
theorem w_sp3 {p : V → V → V → Hp → VK → XK → Prop} (h : p v0 v1 v2 H Q E) : sp3 p [v0, v1, v2] H Q E := ⟨_, _, _, rfl, h⟩
theorem w_sp4 {p : V → V → V → V → Hp → VK → XK → Prop} (h : p v0 v1 v2 v3 H Q E) : sp4 p [v0, v1, v2, v3] H Q E := ⟨_, _, _, _, rfl, h⟩
theorem w_sp5 {p : V → V → V → V → V → Hp → VK → XK → Prop} (h : p v0 v1 v2 v3 v4 H Q E) : sp5 p [v0, v1, v2, v3, v4] H Q E := ⟨_, _, _, _, _, rfl, h⟩
theorem w_sp6 {p : V → V → V → V → V → V → Hp → VK → XK → Prop} (h : p v0 v1 v2 v3 v4 v5 H Q E) : sp6 p [v0, v1, v2, v3, v4, v5] H Q E := ⟨_, _, _, _, _, _, rfl, h⟩
end
/-! tests -/
theorem kite_d {p : Prop} [Decidable p] {A B : Prop} (h1 : p → A) (h2 : ¬ p → B) : if decide p = true then A else B := by
  by_cases h : p
  · rw [decide_eq_true h]
    exact h1 h
  · rw [decide_eq_false h]
    exact h2 h
theorem kite_nd {p : Prop} [Decidable p] {A B : Prop} (h1 : ¬ p → A) (h2 : p → B) : if (!decide p) = true then A else B := by
  by_cases h : p
  · rw [decide_eq_true h]
    exact h2 h
  · rw [decide_eq_false h]
    exact h1 h
theorem kite_tt {A B : Prop} {i : Decidable (true = true)} (h : A) : @ite Prop (true = true) i A B := by rw [if_pos rfl]; exact h
theorem kite_ff {A B : Prop} {i : Decidable (false = true)} (h : B) : @ite Prop (false = true) i A B := by rw [if_neg Bool.false_ne_true]; exact h
theorem kite_nt {A B : Prop} {i : Decidable ((!true) = true)} (h : B) : @ite Prop ((!true) = true) i A B := if_neg (c := (!true) = true) Bool.false_ne_true ▸ h
theorem kite_nf {A B : Prop} {i : Decidable ((!false) = true)} (h : A) : @ite Prop ((!false) = true) i A B := if_pos (c := (!false) = true) rfl ▸ h
theorem kite_b {k : Bool} {A B : Prop} (h1 : k = true → A) (h2 : k = false → B) : if k = true then A else B := by
  cases k with
  | true => exact h1 rfl
  | false => exact h2 rfl
theorem kite_nb {k : Bool} {A B : Prop} (h1 : k = false → A) (h2 : k = true → B) : if (!k) = true then A else B := by
  cases k with
  | true => exact h2 rfl
  | false => exact h1 rfl
/-! heaps -/
theorem hp_new {p q : Addr} {o u : HO} (hn : H q = none) (h : H p = some u) : upd H q o p = some u := by rw [upd_ne (ne_of_none h hn)]; exact h
theorem hp_ne {p q : Addr} {o u : HO} (hn : p ≠ q) (h : H p = some u) : upd H q o p = some u := by rw [upd_ne hn]; exact h
end
/-! promises of the built-ins, named -/
theorem hp_ex {H H' : Hp} {p : Addr} {u : HO} (e : Evl.Ex H H') (h : H p = some u) : H' p = some u := e p u h
section
variable {X : Cx}
def rLenG (K : PySem.W.Frag) : List V → Hp → VK → Prop := fun xs H Q => (∃ p ys, xs = [.ref p] ∧ Sq K H p ys ∧ (ys.length ≤ sizeLine → Q (.int ys.length) H)) ∨ ∃ z, xs = [.str z] ∧ z.length ≤ sizeLine ∧ Q (.int z.length) H
def rAbsG : List V → Hp → VK → Prop := fun xs H Q => ∃ i, xs = [.int i] ∧ Q (.int (if i < 0 then -i else i)) H
def rMinG : List V → Hp → VK → Prop := fun xs H Q => ∃ i j, xs = [.int i, .int j] ∧ Q (.int (if j < i then j else i)) H
def rMaxG : List V → Hp → VK → Prop := fun xs H Q => ∃ i j, xs = [.int i, .int j] ∧ Q (.int (if j > i then j else i)) H
def rIntG : List V → Hp → VK → Prop := fun xs H Q => (∃ i, xs = [.int i] ∧ Q (.int i) H) ∨ ∃ k, xs = [.bl k] ∧ Q (.int (if k then 1 else 0)) H
def rListG (K : PySem.W.Frag) : List V → Hp → VK → Prop := fun xs H Q => ∃ p ys, xs = [.ref p] ∧ (SqL K H p ys ∨ SqT K H p ys) ∧ ∀ l, H l = none → Q (.ref l) (upd H l (.lst ys))
def rTupG (K : PySem.W.Frag) : List V → Hp → VK → Prop := fun xs H Q => ∃ p ys, xs = [.ref p] ∧ ((SqL K H p ys ∧ ∀ l, H l = none → Q (.ref l) (upd H l (.tup ys))) ∨ (SqT K H p ys ∧ Q (.ref p) H))
theorem g_len : CallR X (.builtin "len") (rLenG X.K) := by
  intro pins s σ H xs us Q I r h
  rcases h with ⟨p, ys, rfl, hs, q⟩ | ⟨z, rfl, hz, q⟩
  · rcases hs with hs | hs
    · obtain ⟨_, _, _, hz⟩ := I.list hs
      exact call_len pins s σ H _ us Q I r ⟨.ref p, ys.length, rfl, .inl ⟨ys, hs, rfl⟩, q hz⟩
    · obtain ⟨_, _, _, hz⟩ := I.tuple hs
      exact call_len pins s σ H _ us Q I r ⟨.ref p, ys.length, rfl, .inr ⟨ys, hs, rfl⟩, q hz⟩
  · exact call_len pins s σ H _ us Q I r ⟨.str z, z.length, rfl, ⟨hz, rfl⟩, q⟩
theorem g_abs : CallR X (.builtin "abs") rAbsG := call_abs
theorem g_min (hc : X.calm = true) : CallR X (.builtin "min") rMinG := call_min2 hc
theorem g_max (hc : X.calm = true) : CallR X (.builtin "max") rMaxG := call_max2 hc
theorem g_int : CallR X (.type "int") rIntG := call_int1
theorem g_list : CallR X (.type "list") (rListG X.K) := call_list_of
theorem g_tuple : CallR X (.type "tuple") (rTupG X.K) := call_tuple_of
end
section
variable {H : Hp} {Q : VK} {K : PySem.W.Frag}
theorem w_len {p : Addr} {xs : List V} (h1 : Sq K H p xs) (h : Q (.int xs.length) H) : rLenG K [.ref p] H Q := .inl ⟨p, xs, rfl, h1, fun _ => h⟩
/-- .. with the length's bound -/
theorem w_lenB {p : Addr} {xs : List V} (h1 : Sq K H p xs) (h : xs.length ≤ sizeLine → Q (.int xs.length) H) : rLenG K [.ref p] H Q := .inl ⟨p, xs, rfl, h1, h⟩
/-- .. as a number -/
theorem w_lenN {p : Addr} {xs : List V} (h1 : Sq K H p xs) (h : xs.length ≤ 16777216 → Q (.int xs.length) H) : rLenG K [.ref p] H Q := .inl ⟨p, xs, rfl, h1, fun z => h (Nat.le_trans z (Nat.le_of_eq sizeLine_eq))⟩
/-- a starred part of a display -/
def StarOk (K : PySem.W.Frag) (x : V) (H : Hp) (R : List V → Prop) : Prop := ∃ p xs, x = V.ref p ∧ (SqT K H p xs ∨ SqL K H p xs) ∧ R xs
theorem w_star {σ : L2.St} {te : TE} {t : TA} {R : List V → Hp → Prop} (h : te σ H fun x H1 => StarOk K x H1 fun xs => t σ H1 fun ys H2 => R (xs ++ ys) H2) : StX.tStar K te t σ H R := h
theorem w_starR {p : Addr} {xs : List V} {R : List V → Prop} (h1 : Sq K H p xs) (h : R xs) : StarOk K (.ref p) H R := ⟨p, xs, rfl, h1.symm, h⟩
theorem w_in {x : V} {p : Addr} {xs : List V} (h1 : Sq K H p xs) (h2 : flatV x = true) (h3 : xs.all flatV = true) (h : Q (.bl (inV x xs)) H) : rInG K false x (.ref p) H Q := ⟨xs, h1, h2, h3, h⟩
theorem w_notin {x : V} {p : Addr} {xs : List V} (h1 : Sq K H p xs) (h2 : flatV x = true) (h3 : xs.all flatV = true) (h : Q (.bl (!inV x xs)) H) : rInG K true x (.ref p) H Q := ⟨xs, h1, h2, h3, h⟩
theorem w_lenS {z : Str} (h1 : z.length ≤ sizeLine) (h : Q (.int z.length) H) : rLenG K [.str z] H Q := .inr ⟨z, rfl, h1, h⟩
theorem w_ixS {z : Str} {k : Int} {c : Nat} (h1 : z.length ≤ sizeLine) (h2 : atI z.cps.toList k = some c) (h : Q (.str ⟨#[c]⟩) H) : rIxG K (.str z) (.int k) H Q := ⟨c, h1, h2, h⟩
theorem w_abs {i : Int} (h : Q (.int (if i < 0 then -i else i)) H) : rAbsG [.int i] H Q := ⟨i, rfl, h⟩
theorem w_min {i j : Int} (h : Q (.int (if j < i then j else i)) H) : rMinG [.int i, .int j] H Q := ⟨i, j, rfl, h⟩
theorem w_max {i j : Int} (h : Q (.int (if j > i then j else i)) H) : rMaxG [.int i, .int j] H Q := ⟨i, j, rfl, h⟩
theorem w_int {i : Int} (h : Q (.int i) H) : rIntG [.int i] H Q := .inl ⟨i, rfl, h⟩
theorem w_list {p : Addr} {xs : List V} (h1 : Sq K H p xs) (h : ∀ l, H l = none → Q (.ref l) (upd H l (.lst xs))) : rListG K [.ref p] H Q := ⟨p, xs, rfl, h1, h⟩
theorem w_tupL {p : Addr} {xs : List V} (h1 : SqL K H p xs) (h : ∀ l, H l = none → Q (.ref l) (upd H l (.tup xs))) : rTupG K [.ref p] H Q := ⟨p, xs, rfl, .inl ⟨h1, h⟩⟩
theorem w_tupT {p : Addr} {xs : List V} (h1 : SqT K H p xs) (h : Q (.ref p) H) : rTupG K [.ref p] H Q := ⟨p, xs, rfl, .inr ⟨h1, h⟩⟩
/-- isinstance(x, a built-in class): the two classes' names decide -/
theorem w_isi {x : V} {T c : String} {b : Bool} (h1 : TyX K H x (.type T)) (h2 : PySem.W.kitOne K (.type T) (.type c) = some b) (h : Q (.bl b) H) : rIsi K [x, .ty c] H Q := ⟨x, .ty c, .type T, .type c, b, rfl, .ty c, h1, h2, h⟩
end
end KP

/-! Loops, comprehensions, data, drawers. -/
namespace KP
open PySem PySem.Spec PyProof.Rows L2 Evl
/-! ### loops -/
def ForOk (J : It) (g : TG) (tb : TS) (D : Ends) (σ : L2.St) (H1 : Hp) : Prop := ∃ W : Nat → Nat → L2.St → Hp → Prop, (∃ m, W 0 m σ H1) ∧ ∀ i m σ H, W i m σ H →
  (J.stop i H ∧ D.nx σ H) ∨ (J.go i H ∧ ∃ N : L2.St → Hp → Prop, (∀ σ' H', N σ' H' → ∃ m', m' < m ∧ W (i + 1) m' σ' H') ∧ ∀ x H', J.yld i H x H' → g x σ H' fun σ2 H2 => tb { D with nx := N, ct := N, bk := D.nx } σ2 H2)
section
variable {σ : L2.St} {H : Hp} {D : Ends} {tb : TS} {tl : TE} {g : TG} {wi : TI} {K : PySem.W.Frag} {tas : TA}
theorem w_for (h : wi σ H fun J H1 => ForOk J g tb D σ H1) : tFor wi g tb D σ H := h
theorem w_iG {R : It → Hp → Prop} (h : tl σ H fun x H1 => iGv K x H1 R) : iG K tl σ H R := h
def iR1v (vs : List V) (H1 : Hp) (R : It → Hp → Prop) : Prop := ∃ j : Int, vs = [.int j] ∧ -(2 ^ 62) ≤ j ∧ j < 2 ^ 62 ∧ R (Itr 0 j.toNat) H1
def iR2v (vs : List V) (H1 : Hp) (R : It → Hp → Prop) : Prop := ∃ i j : Int, vs = [.int i, .int j] ∧ (-(2 ^ 62) ≤ i ∧ i < 2 ^ 62 ∧ -(2 ^ 62) ≤ j ∧ j < 2 ^ 62) ∧ R (Itr i (j - i).toNat) H1
theorem w_iR1 {R : It → Hp → Prop} (h : tas σ H fun vs H1 => iR1v vs H1 R) : iRng1 tas σ H R := h
theorem w_iR2 {R : It → Hp → Prop} (h : tas σ H fun vs H1 => iR2v vs H1 R) : iRng2 tas σ H R := h
theorem w_forL {p : Addr} {xs : List V} (hS : SqL K H p xs) (Pv : Nat → L2.St → Hp → Prop) (h0 : Pv 0 σ H) (hl : ∀ i σ H, i ≤ xs.length → Pv i σ H → SqL K H p xs)
    (hs : ∀ i x σ H, xs[i]? = some x → Pv i σ H → g x σ H fun σ2 H2 => tb ⟨Pv (i + 1), D.rt, D.nx, Pv (i + 1)⟩ σ2 H2) (hd : ∀ σ H, Pv xs.length σ H → D.nx σ H) : iGv K (.ref p) H fun J H1 => ForOk J g tb D σ H1 :=
  .inl ⟨⟨xs, hS⟩, for_list Pv h0 hl hs hd⟩
theorem w_forT {p : Addr} {xs : List V} (hS : SqT K H p xs) (Pv : Nat → L2.St → Hp → Prop) (h0 : Pv 0 σ H) (hl : ∀ i σ H, i ≤ xs.length → Pv i σ H → SqT K H p xs)
    (hs : ∀ i x σ H, xs[i]? = some x → Pv i σ H → g x σ H fun σ2 H2 => tb ⟨Pv (i + 1), D.rt, D.nx, Pv (i + 1)⟩ σ2 H2) (hd : ∀ σ H, Pv xs.length σ H → D.nx σ H) : iGv K (.ref p) H fun J H1 => ForOk J g tb D σ H1 :=
  .inr ⟨⟨xs, hS⟩, for_tup Pv h0 hl hs hd⟩
/-- over range(n) -/
theorem w_forR1 {n : Int} (hn : n < 2 ^ 62) (hn0 : -(2 ^ 62) ≤ n) (Pv : Nat → L2.St → Hp → Prop) (h0 : Pv 0 σ H)
    (hs : ∀ (i : Nat) σ H, (i : Int) < n → Pv i σ H → g (.int i) σ H fun σ2 H2 => tb ⟨Pv (i + 1), D.rt, D.nx, Pv (i + 1)⟩ σ2 H2) (hd : ∀ σ H, Pv n.toNat σ H → D.nx σ H) : iR1v [.int n] H fun J H1 => ForOk J g tb D σ H1 :=
  ⟨n, rfl, hn0, hn, for_range (lo := 0) Pv h0 (fun i σ H hi p => by rw [Int.zero_add]; exact hs i σ H (by omega) p) hd⟩
theorem w_forR2 {lo n : Int} (hn : -(2 ^ 62) ≤ lo ∧ lo < 2 ^ 62 ∧ -(2 ^ 62) ≤ n ∧ n < 2 ^ 62) (Pv : Nat → L2.St → Hp → Prop) (h0 : Pv 0 σ H)
    (hs : ∀ (i : Nat) σ H, lo + (i : Int) < n → Pv i σ H → g (.int (lo + i)) σ H fun σ2 H2 => tb ⟨Pv (i + 1), D.rt, D.nx, Pv (i + 1)⟩ σ2 H2) (hd : ∀ σ H, Pv (n - lo).toNat σ H → D.nx σ H) : iR2v [.int lo, .int n] H fun J H1 => ForOk J g tb D σ H1 :=
  ⟨lo, n, rfl, hn, for_range (lo := lo) Pv h0 (fun i σ H hi p => hs i σ H (by omega) p) hd⟩
/-- range(hi, lo, -1) -/
def iR3v (vs : List V) (H1 : Hp) (R : It → Hp → Prop) : Prop := ∃ (i j c : Int) (n : Nat), vs = [.int i, .int j, .int c] ∧ RgC i j c n ∧ R (Itc i c n) H1
theorem w_iR3 {R : It → Hp → Prop} (h : tas σ H fun vs H1 => iR3v vs H1 R) : iRng3 tas σ H R := h
theorem w_forDn {hi lo : Int} (b1 : -(2 ^ 62) ≤ hi) (b2 : hi < 2 ^ 62) (b3 : -(2 ^ 62) ≤ lo) (b4 : lo < 2 ^ 62) (Pv : Nat → L2.St → Hp → Prop) (h0 : Pv 0 σ H)
    (hs : ∀ (i : Nat) σ H, (i : Int) < hi - lo → Pv i σ H → g (.int (hi - i)) σ H fun σ2 H2 => tb ⟨Pv (i + 1), D.rt, D.nx, Pv (i + 1)⟩ σ2 H2) (hd : ∀ σ H, Pv (hi - lo).toNat σ H → D.nx σ H) : iR3v [.int hi, .int lo, .int (-1)] H fun J H1 => ForOk J g tb D σ H1 :=
  ⟨hi, lo, -1, _, rfl, RgC.neg b1 b2 b3 b4, for_rangeC Pv h0 (fun i σ H hi' p => by rw [show hi + (i : Int) * -1 = hi - i by omega]; exact hs i σ H (by omega) p) hd⟩
/-! ### comprehensions -/
def LcOk (J : It) (g : TG) (tt : TT) (te : TE) (vs : List Nat) (σ : L2.St) (Q : VK) (H1 : Hp) : Prop := ∀ L, H1 L = none → ∃ W : Nat → Nat → Hp → Prop, (∃ m, W 0 m (upd H1 L (.lst []))) ∧ ∀ k m G, W k m G →
  (J.stop k G ∧ Q (.ref L) G) ∨ (J.go k G ∧ ∃ nxt : Hp → Prop, (∀ G', nxt G' → ∃ m', m' < m ∧ W (k + 1) m' G') ∧ ∀ x G', J.yld k G x G' → g x (wipe σ vs) G' fun τ G2 => wipe τ vs = wipe σ vs ∧ tt τ G2 fun yes G3 =>
    if yes = true then te τ G3 fun y G4 => ∃ made, G4 L = some (.lst made) ∧ made.length < sizeLine ∧ nxt (upd G4 L (.lst (made ++ [y]))) else nxt G3)
theorem w_lc {tt : TT} {te : TE} {vs : List Nat} {Q : VK} (h : wi σ H fun J H1 => LcOk J g tt te vs σ Q H1) : tLc wi g tt te vs σ H Q := h
/-- a turn that always gives, over range(n); Pv: the new list's place, the turn, what is made so far, the heap -/
theorem w_lcR1 {te : TE} {vs : List Nat} {Q : VK} {j : Nat} {n : Int} (hn : n ≤ 100000) (hn0 : -(2 ^ 62) ≤ n) (Pv : Addr → Nat → List V → Hp → Prop) (hw : ∀ v, wipe ((wipe σ vs).set j (some v)) vs = wipe σ vs)
    (h0 : ∀ D, H D = none → Pv D 0 [] (upd H D (.lst [])))
    (hs : ∀ D (i : Nat) acc H' (R : VK), (i : Int) < n → acc.length = i → H D = none → Pv D i acc H' → (∀ y H4, H4 D = some (.lst acc) → Pv D (i + 1) (acc ++ [y]) (upd H4 D (.lst (acc ++ [y]))) → R y H4) → te ((wipe σ vs).set j (some (.int i))) H' R)
    (hd : ∀ D acc H', H D = none → acc.length = n.toNat → Pv D n.toNat acc H' → Q (.ref D) H') : iR1v [.int n] H fun J H1 => LcOk J (gName j) tYes te vs σ Q H1 :=
  ⟨n, rfl, by omega, by omega, fun D hD => ⟨fun i m H' => m = n.toNat - i ∧ i ≤ n.toNat ∧ ∃ acc, acc.length = i ∧ Pv D i acc H', ⟨n.toNat, by simp, Nat.zero_le _, [], rfl, h0 D hD⟩, by
    rintro i m H' ⟨rfl, hi, acc, hl, p⟩
    by_cases hlt : i < n.toNat
    · refine .inr ⟨hlt, fun H4 => ∃ acc, acc.length = i + 1 ∧ Pv D (i + 1) acc H4, fun H4 p4 => ⟨n.toNat - (i + 1), by omega, rfl, hlt, p4⟩, fun x H4 y => ?_⟩
      obtain ⟨e, y⟩ := y
      subst e y
      refine ⟨hw _, ?_⟩
      show te ((wipe σ vs).set j (some (.int ((0 : Int) + (i : Nat))))) _ _
      rw [Int.zero_add]
      refine hs D i acc H4 _ (by omega) hl hD p fun y H5 h5 p5 => ⟨acc, h5, sz_lt (by omega), acc ++ [y], by rw [List.length_append, hl]; rfl, p5⟩
    · have e : i = n.toNat := by omega
      subst e
      exact .inl ⟨Nat.le_refl _, hd D acc H' hD hl p⟩⟩⟩
/-- the same over a list that can be read throughout -/
theorem w_lcL {te : TE} {vs : List Nat} {Q : VK} {j : Nat} {p : Addr} {xs : List V} (hS : SqL K H p xs) (hz : xs.length ≤ 100000) (Pv : Addr → Nat → List V → Hp → Prop) (hw : ∀ v, wipe ((wipe σ vs).set j (some v)) vs = wipe σ vs)
    (h0 : ∀ D, H D = none → Pv D 0 [] (upd H D (.lst []))) (hl : ∀ D i acc H', H D = none → Pv D i acc H' → SqL K H' p xs)
    (hs : ∀ D (i : Nat) x acc H' (R : VK), xs[i]? = some x → acc.length = i → H D = none → Pv D i acc H' → (∀ y H4, H4 D = some (.lst acc) → Pv D (i + 1) (acc ++ [y]) (upd H4 D (.lst (acc ++ [y]))) → R y H4) → te ((wipe σ vs).set j (some x)) H' R)
    (hd : ∀ D acc H', H D = none → acc.length = xs.length → Pv D xs.length acc H' → Q (.ref D) H') : iGv K (.ref p) H fun J H1 => LcOk J (gName j) tYes te vs σ Q H1 :=
  .inl ⟨⟨xs, hS⟩, fun D hD => lc_list (xs := xs) (fun i H' => ∃ acc, acc.length = i ∧ Pv D i acc H') ⟨[], rfl, h0 D hD⟩ (fun i H' _ ⟨acc, _, p⟩ => hl D i acc H' hD p)
    (fun i x H' hx ⟨acc, ha, p⟩ => ⟨hw x, hs D i x acc H' _ hx ha hD p fun y H5 h5 p5 => ⟨acc, h5, sz_lt (by have := (List.getElem?_eq_some_iff.mp hx).1; omega), acc ++ [y], by rw [List.length_append, ha]; rfl, p5⟩⟩)
    fun H' ⟨acc, ha, p⟩ => hd D acc H' hD ha p⟩
theorem w_lcT {te : TE} {vs : List Nat} {Q : VK} {j : Nat} {p : Addr} {xs : List V} (hS : SqT K H p xs) (hz : xs.length ≤ 100000) (Pv : Addr → Nat → List V → Hp → Prop) (hw : ∀ v, wipe ((wipe σ vs).set j (some v)) vs = wipe σ vs)
    (h0 : ∀ D, H D = none → Pv D 0 [] (upd H D (.lst []))) (hl : ∀ D i acc H', H D = none → Pv D i acc H' → SqT K H' p xs)
    (hs : ∀ D (i : Nat) x acc H' (R : VK), xs[i]? = some x → acc.length = i → H D = none → Pv D i acc H' → (∀ y H4, H4 D = some (.lst acc) → Pv D (i + 1) (acc ++ [y]) (upd H4 D (.lst (acc ++ [y]))) → R y H4) → te ((wipe σ vs).set j (some x)) H' R)
    (hd : ∀ D acc H', H D = none → acc.length = xs.length → Pv D xs.length acc H' → Q (.ref D) H') : iGv K (.ref p) H fun J H1 => LcOk J (gName j) tYes te vs σ Q H1 :=
  .inr ⟨⟨xs, hS⟩, fun D hD => lc_tup (xs := xs) (fun i H' => ∃ acc, acc.length = i ∧ Pv D i acc H') ⟨[], rfl, h0 D hD⟩ (fun i H' _ ⟨acc, _, p⟩ => hl D i acc H' hD p)
    (fun i x H' hx ⟨acc, ha, p⟩ => ⟨hw x, hs D i x acc H' _ hx ha hD p fun y H5 h5 p5 => ⟨acc, h5, sz_lt (by have := (List.getElem?_eq_some_iff.mp hx).1; omega), acc ++ [y], by rw [List.length_append, ha]; rfl, p5⟩⟩)
    fun H' ⟨acc, ha, p⟩ => hd D acc H' hD ha p⟩
/-- with a test, over a tuple | a list -/
theorem w_lcTf {tt : TT} {te : TE} {vs : List Nat} {Q : VK} {j : Nat} {p : Addr} {xs : List V} (hS : SqT K H p xs) (hz : xs.length ≤ 100000) (Pv : Addr → Nat → List V → Hp → Prop) (hw : ∀ v, wipe ((wipe σ vs).set j (some v)) vs = wipe σ vs)
    (h0 : ∀ D, H D = none → Pv D 0 [] (upd H D (.lst []))) (hl : ∀ D i acc H', H D = none → Pv D i acc H' → SqT K H' p xs)
    (hs : ∀ D (i : Nat) x acc H' (R : VK) (R0 : Hp → Prop), xs[i]? = some x → acc.length ≤ i → H D = none → Pv D i acc H' → (∀ y H4, H4 D = some (.lst acc) → Pv D (i + 1) (acc ++ [y]) (upd H4 D (.lst (acc ++ [y]))) → R y H4) → (∀ H4, Pv D (i + 1) acc H4 → R0 H4) →
      tt ((wipe σ vs).set j (some x)) H' fun b H3 => if b = true then te ((wipe σ vs).set j (some x)) H3 R else R0 H3)
    (hd : ∀ D acc H', H D = none → Pv D xs.length acc H' → Q (.ref D) H') : iGv K (.ref p) H fun J H1 => LcOk J (gName j) tt te vs σ Q H1 :=
  .inr ⟨⟨xs, hS⟩, fun D hD => lc_tup (xs := xs) (fun i H' => ∃ acc, acc.length ≤ i ∧ Pv D i acc H') ⟨[], Nat.le_refl _, h0 D hD⟩ (fun i H' _ ⟨acc, _, p⟩ => hl D i acc H' hD p)
    (fun i x H' hx ⟨acc, ha, p⟩ => ⟨hw x, hs D i x acc H' _ _ hx ha hD p (fun y H5 h5 p5 => ⟨acc, h5, sz_lt (by have := (List.getElem?_eq_some_iff.mp hx).1; omega), acc ++ [y], by rw [List.length_append]; simp; omega, p5⟩) fun H5 p5 => ⟨acc, by omega, p5⟩⟩)
    fun H' ⟨acc, ha, p⟩ => hd D acc H' hD p⟩
theorem w_lcLf {tt : TT} {te : TE} {vs : List Nat} {Q : VK} {j : Nat} {p : Addr} {xs : List V} (hS : SqL K H p xs) (hz : xs.length ≤ 100000) (Pv : Addr → Nat → List V → Hp → Prop) (hw : ∀ v, wipe ((wipe σ vs).set j (some v)) vs = wipe σ vs)
    (h0 : ∀ D, H D = none → Pv D 0 [] (upd H D (.lst []))) (hl : ∀ D i acc H', H D = none → Pv D i acc H' → SqL K H' p xs)
    (hs : ∀ D (i : Nat) x acc H' (R : VK) (R0 : Hp → Prop), xs[i]? = some x → acc.length ≤ i → H D = none → Pv D i acc H' → (∀ y H4, H4 D = some (.lst acc) → Pv D (i + 1) (acc ++ [y]) (upd H4 D (.lst (acc ++ [y]))) → R y H4) → (∀ H4, Pv D (i + 1) acc H4 → R0 H4) →
      tt ((wipe σ vs).set j (some x)) H' fun b H3 => if b = true then te ((wipe σ vs).set j (some x)) H3 R else R0 H3)
    (hd : ∀ D acc H', H D = none → Pv D xs.length acc H' → Q (.ref D) H') : iGv K (.ref p) H fun J H1 => LcOk J (gName j) tt te vs σ Q H1 :=
  .inl ⟨⟨xs, hS⟩, fun D hD => lc_list (xs := xs) (fun i H' => ∃ acc, acc.length ≤ i ∧ Pv D i acc H') ⟨[], Nat.le_refl _, h0 D hD⟩ (fun i H' _ ⟨acc, _, p⟩ => hl D i acc H' hD p)
    (fun i x H' hx ⟨acc, ha, p⟩ => ⟨hw x, hs D i x acc H' _ _ hx ha hD p (fun y H5 h5 p5 => ⟨acc, h5, sz_lt (by have := (List.getElem?_eq_some_iff.mp hx).1; omega), acc ++ [y], by rw [List.length_append]; simp; omega, p5⟩) fun H5 p5 => ⟨acc, by omega, p5⟩⟩)
    fun H' ⟨acc, ha, p⟩ => hd D acc H' hD p⟩
/-- list(range(..)), tuple(range(..)) -/
theorem w_lstRg {te : L2.St → Hp → (Int → Int → Hp → Prop) → Prop} {Q : VK} (h : te σ H fun a b H1 => RgOk a b ∧ ∀ q, H1 q = none → Q (.ref q) (upd H1 q (.lst (rgV a b)))) : tLstRg te σ H Q := h
theorem w_tupRg {te : L2.St → Hp → (Int → Int → Hp → Prop) → Prop} {Q : VK} (h : te σ H fun a b H1 => RgOk a b ∧ ∀ q, H1 q = none → Q (.ref q) (upd H1 q (.tup (rgV a b)))) : tTupRg te σ H Q := h
theorem w_rg1 {ta : TE} {R : Int → Int → Hp → Prop} (h : ta σ H fun x H1 => IntOk x fun n => R 0 n H1) : tRg1 ta σ H R := h
def IntOk2 (x y : V) (R : Int → Int → Prop) : Prop := ∃ i j, x = .int i ∧ y = .int j ∧ R i j
theorem w_int2 {i j : Int} {R : Int → Int → Prop} (h : R i j) : IntOk2 (.int i) (.int j) R := ⟨i, j, rfl, rfl, h⟩
theorem w_rg2 {ta tb : TE} {R : Int → Int → Hp → Prop} (h : ta σ H fun x H1 => tb σ H1 fun y H2 => IntOk2 x y fun i j => R i j H2) : tRg2 ta tb σ H R := h
/-- sorted(a list of ints) -/
theorem w_sorted {p : Addr} {ns : List Int} {Q : VK} (hS : SqL K H p (ns.map V.int)) (h : ∀ (ns' : List Int) (q : Addr), ns'.Perm ns → ns'.Pairwise (· ≤ ·) → H q = none → Q (.ref q) (upd H q (.lst (ns'.map V.int)))) : rSortedI K [.ref p] H Q := ⟨p, ns, rfl, hS, h⟩
end
/-! ### data -/
section
variable {K : PySem.W.Frag} {H : Hp}
theorem dpAll_ints : ∀ ns : List Int, DpAll K H (ns.map V.int) (ns.map PyData.int)
  | [] => .nil
  | n :: r => .cons (.int n) (dpAll_ints r)
theorem dp_ints {p : Addr} {ns : List Int} (h : SqL K H p (ns.map V.int)) : Dp K H (.ref p) (.list (ns.map PyData.int)) := .lst h (dpAll_ints ns)
theorem dp_intsT {p : Addr} {ns : List Int} (h : SqT K H p (ns.map V.int)) : Dp K H (.ref p) (.tuple (ns.map PyData.int)) := .tup h (dpAll_ints ns)
theorem lay_ints : ∀ ns : List Int, PyData.canLayAll0 (ns.map PyData.int) = true
  | [] => by simp [PyData.canLayAll0]
  | n :: r => by simp [PyData.canLayAll0, PyData.canLay0, lay_ints r]
theorem depth_ints : ∀ ns : List Int, PyData.depthAll (ns.map PyData.int) = 0
  | [] => by simp [PyData.depthAll]
  | n :: r => by simp [PyData.depthAll, PyData.depth, depth_ints r]
theorem sh_ints (ns : List Int) : SeqAt.shaped (.list (ns.map PyData.int)) = true := by
  have h1 := lay_ints ns
  have h2 := depth_ints ns
  simp [SeqAt.shaped, PyData.canLay0, PyData.depth, h1, h2]
theorem sh_intsT (ns : List Int) : SeqAt.shaped (.tuple (ns.map PyData.int)) = true := by
  have h1 := lay_ints ns
  have h2 := depth_ints ns
  simp [SeqAt.shaped, PyData.canLay0, PyData.depth, h1, h2]
theorem eqvAll_ints : ∀ ns ms : List Int, PyData.eqvAll (ns.map PyData.int) (ms.map PyData.int) = decide (ns = ms)
  | [], [] => by simp [PyData.eqvAll]
  | [], m :: ms => by simp [PyData.eqvAll]
  | n :: ns, [] => by simp [PyData.eqvAll]
  | n :: ns, m :: ms => by
    simp only [List.map_cons, PyData.eqvAll, PyData.eqv, eqvAll_ints ns ms, List.cons.injEq]
    by_cases h : n = m <;> simp [h]
theorem eqv_ints (ns ms : List Int) : PyData.eqv (.list (ns.map PyData.int)) (.list (ms.map PyData.int)) = decide (ns = ms) := by
  rw [PyData.eqv, eqvAll_ints]
theorem eqv_intsT (ns ms : List Int) : PyData.eqv (.tuple (ns.map PyData.int)) (.tuple (ms.map PyData.int)) = decide (ns = ms) := by
  rw [PyData.eqv, eqvAll_ints]
/-- == of two lists of ints, of two tuples of ints -/
theorem w_eqL {p q : Addr} {ns ms : List Int} {Q : VK} (h1 : SqL K H p (ns.map V.int)) (h2 : SqL K H q (ms.map V.int)) (h : Q (.bl (decide (ns = ms))) H) : rEqG K false (.ref p) (.ref q) H Q :=
  ⟨_, _, dp_ints h1, dp_ints h2, sh_ints ns, sh_ints ms, by rw [eqv_ints]; exact h⟩
theorem w_neL {p q : Addr} {ns ms : List Int} {Q : VK} (h1 : SqL K H p (ns.map V.int)) (h2 : SqL K H q (ms.map V.int)) (h : Q (.bl (!decide (ns = ms))) H) : rEqG K true (.ref p) (.ref q) H Q :=
  ⟨_, _, dp_ints h1, dp_ints h2, sh_ints ns, sh_ints ms, by rw [eqv_ints]; exact h⟩
theorem w_eqT {p q : Addr} {ns ms : List Int} {Q : VK} (h1 : SqT K H p (ns.map V.int)) (h2 : SqT K H q (ms.map V.int)) (h : Q (.bl (decide (ns = ms))) H) : rEqG K false (.ref p) (.ref q) H Q :=
  ⟨_, _, dp_intsT h1, dp_intsT h2, sh_intsT ns, sh_intsT ms, by rw [eqv_intsT]; exact h⟩
theorem w_neT {p q : Addr} {ns ms : List Int} {Q : VK} (h1 : SqT K H p (ns.map V.int)) (h2 : SqT K H q (ms.map V.int)) (h : Q (.bl (!decide (ns = ms))) H) : rEqG K true (.ref p) (.ref q) H Q :=
  ⟨_, _, dp_intsT h1, dp_intsT h2, sh_intsT ns, sh_intsT ms, by rw [eqv_intsT]; exact h⟩
theorem rgV_eq (n : Int) : rgV 0 n = ((List.range n.toNat).map fun i => ((i : Nat) : Int)).map V.int := by
  unfold rgV
  rw [List.map_map, Int.sub_zero]
  refine List.map_congr_left fun i _ => ?_
  show V.int (0 + (i : Int)) = V.int (i : Int)
  rw [Int.zero_add]
end
/-! ### drawers -/
section
variable {H H1 H2 : Hp} {a b p : Addr} {o : HO}
/-- a drawer stands at a -/
def Dr (H : Hp) (a : Addr) : Prop := ∃ d s c : Int, H a = some (.lst [.int d, .int s, .int c])
/-- what stood stands, but for the drawer at a, which is a drawer still -/
structure Dw (a : Addr) (H H' : Hp) : Prop where
  dr : Dr H' a
  kp : ∀ b o, b ≠ a → H b = some o → H' b = some o
theorem Dw.trans (x : Dw a H H1) (y : Dw a H1 H2) : Dw a H H2 := ⟨y.dr, fun b o n e => y.kp b o n (x.kp b o n e)⟩
theorem Dw.upd {d s c : Int} : Dw a H (L2.upd H a (.lst [.int d, .int s, .int c])) := ⟨⟨d, s, c, upd_same⟩, fun b o n e => by rw [upd_ne n]; exact e⟩
theorem Dw.refl (h : Dr H a) : Dw a H H := ⟨h, fun _ _ _ e => e⟩
/-- a new object -/
theorem Dw.new (h : Dr H a) (hp : H p = none) : Dw a H (L2.upd H p o) := by
  obtain ⟨d, s, c, h⟩ := h
  exact ⟨⟨d, s, c, hp_new hp h⟩, fun b u _ e => hp_new hp e⟩
theorem Dw.ex (h : Dr H a) (e : Evl.Ex H H1) : Dw a H H1 := by
  obtain ⟨d, s, c, h⟩ := h
  exact ⟨⟨d, s, c, e _ _ h⟩, fun b u _ q => e _ _ q⟩
theorem Dr.ne (h : Dr H a) (hp : H p = none) : a ≠ p := by
  obtain ⟨d, s, c, h⟩ := h
  exact ne_of_none h hp
/-- a list that is no drawer stays -/
theorem Dw.sqL {K : PySem.W.Frag} {xs : List V} (x : Dw a H H1) (n : p ≠ a) (h : SqL K H p xs) : SqL K H1 p xs := by
  rcases h with (h | ⟨o, h⟩) | h
  · exact .inl (.inl (x.kp _ _ n h))
  · exact .inl (.inr ⟨o, x.kp _ _ n h⟩)
  · exact .inr h
theorem Dw.sqT {K : PySem.W.Frag} {xs : List V} (x : Dw a H H1) (n : p ≠ a) (h : SqT K H p xs) : SqT K H1 p xs := by
  rcases h with (h | ⟨o, h⟩) | h
  · exact .inl (.inl (x.kp _ _ n h))
  · exact .inl (.inr ⟨o, x.kp _ _ n h⟩)
  · exact .inr h
end
/-! ### the script -/
/-- the law's script: it is known to the world, or stands in the written part; nothing that a law does changes it -/
def Scr (K : PySem.W.Frag) (H : Hp) (a : Addr) (ns : List Int) : Prop := (∃ o, H a = some (.frz o (.lst (ns.map V.int)))) ∨ ∀ H' : Hp, SqL K H' a (ns.map V.int)
section
variable {K : PySem.W.Frag} {H H1 : Hp} {a d p : Addr} {ns : List Int}
theorem Scr.sq (h : Scr K H a ns) : SqL K H a (ns.map V.int) := by
  rcases h with ⟨o, h⟩ | h
  · exact .inl (.inr ⟨o, h⟩)
  · exact h H
theorem Scr.of (hO : Only H) (h : SqL K H a (ns.map V.int)) : Scr K H a ns := by
  rcases h with (h | h) | h
  · rcases hO a with e | ⟨o, xs, e⟩
    · rw [e] at h; cases h
    · rw [e] at h; cases h
  · exact .inl h
  · exact .inr fun _ => .inr h
theorem Scr.dw (h : Scr K H a ns) (hd : Dr H d) (x : Dw d H H1) : Scr K H1 a ns := by
  rcases h with ⟨o, h⟩ | h
  · obtain ⟨d1, s1, c1, hd⟩ := hd
    exact .inl ⟨o, x.kp _ _ (ne_of h hd (by intro z; cases z)) h⟩
  · exact .inr h
theorem Scr.ex (h : Scr K H a ns) (e : Evl.Ex H H1) : Scr K H1 a ns := by
  rcases h with ⟨o, h⟩ | h
  · exact .inl ⟨o, e _ _ h⟩
  · exact .inr h
theorem Scr.new (h : Scr K H a ns) {o : HO} (hp : H p = none) : Scr K (upd H p o) a ns := h.ex (Evl.Ex.new hp)
end
def sp_law (K : PySem.W.Frag) : Sp := sp1 fun x H Q _ => ∃ (a : Addr) (ns : List Int), x = .ref a ∧ Scr K H a ns ∧ ns.length ≤ 63 ∧ ∀ H', Q (.bl true) H'
/-! ### classes of data -/
section
variable {K : PySem.W.Frag} {H : Hp} {p : Addr} {xs : List V}
theorem ty_tup (h : SqT K H p xs) : TyX K H (.ref p) (.type "tuple") := by
  rcases h with (h | ⟨o, h⟩) | ⟨o, its, n, h1, h2, _⟩
  · exact .base (.tup h)
  · exact .fTuple h
  · exact .kTuple h1 h2
theorem ty_lst (h : SqL K H p xs) : TyX K H (.ref p) (.type "list") := by
  rcases h with (h | ⟨o, h⟩) | ⟨o, its, n, h1, h2, _⟩
  · exact .base (.lst h)
  · exact .base (.frz h)
  · exact .kList h1 h2
theorem dpAll_len : ∀ {vs : List V} {ds : List PyData}, DpAll K H vs ds → vs.length = ds.length
  | _, [], h => by cases h; rfl
  | _, d :: ds, h => by
    cases h with
    | cons _ h2 => rw [List.length_cons, List.length_cons, dpAll_len h2]
theorem dpAll_get : ∀ {vs : List V} {ds : List PyData} {i : Nat} {v : V}, DpAll K H vs ds → vs[i]? = some v → ∃ d, ds[i]? = some d ∧ Dp K H v d
  | _, [], i, v, h, e => by cases h; simp at e
  | _, d :: ds, 0, v, h, e => by
    cases h with
    | cons h1 _ =>
      simp at e
      subst e
      exact ⟨d, rfl, h1⟩
  | _, d :: ds, i + 1, v, h, e => by
    cases h with
    | cons _ h2 =>
      obtain ⟨d', e1, e2⟩ := dpAll_get h2 (by simpa using e)
      exact ⟨d', by simpa using e1, e2⟩
theorem depth_get : ∀ {ds : List PyData} {i : Nat} {d : PyData}, ds[i]? = some d → d.depth ≤ PyData.depthAll ds
  | [], i, d, e => by simp at e
  | c :: ds, 0, d, e => by
    simp at e
    subst e
    simp only [PyData.depthAll]
    omega
  | c :: ds, i + 1, d, e => by
    have h := depth_get (ds := ds) (i := i) (d := d) (by simpa using e)
    simp only [PyData.depthAll]
    omega
end
/-! ### slices -/
section
variable {K : PySem.W.Frag} {H : Hp} {p : Addr} {xs : List V} {lo hi : Option Int} {Q : VK}
theorem w_slL (h1 : SqL K H p xs) (h : ∀ q, H q = none → Q (.ref q) (upd H q (.lst (cutV xs lo hi)))) : rSlG K (.ref p) lo hi H Q := .inl ⟨xs, h1, h⟩
theorem w_slT (h1 : SqT K H p xs) (h : ∀ q H', Evl.Ex H H' → SqT K H' q (cutV xs lo hi) → Q (.ref q) H') : rSlG K (.ref p) lo hi H Q := .inr ⟨xs, h1, fun q H' e s _ => h q H' e s⟩
theorem cut_to {k : Nat} : cutV xs none (some (k : Int)) = xs.take k := by
  unfold cutV
  rw [HT.sIx_none, HT.sIx_nat, List.drop_zero, Nat.sub_zero]
  rcases Nat.le_total k xs.length with h | h
  · rw [Nat.min_eq_left h]
  · rw [Nat.min_eq_right h, List.take_length, List.take_of_length_le h]
theorem cut_from {k : Nat} : cutV xs (some (k : Int)) none = xs.drop k := by
  unfold cutV
  rw [HT.sIx_none, HT.sIx_nat]
  rcases Nat.le_total k xs.length with h | h
  · rw [Nat.min_eq_left h, List.take_of_length_le (by rw [List.length_drop]; omega)]
  · rw [Nat.min_eq_right h, List.drop_of_length_le h, List.drop_length, List.take_nil]
theorem cut_both {j k : Nat} (h : j ≤ k) (hk : k ≤ xs.length) : cutV xs (some (j : Int)) (some (k : Int)) = (xs.drop j).take (k - j) := by
  unfold cutV
  rw [HT.sIx_nat, HT.sIx_nat, Nat.min_eq_left hk, Nat.min_eq_left (Nat.le_trans h hk)]
theorem sIx_neg {n d k : Nat} (h0 : 0 < k) (h : k ≤ n) : HT.sIx n d (some (-(k : Int))) = n - k := by
  show (if -(k : Int) < 0 then (-(k : Int) + (n : Int)).toNat else min (-(k : Int)).toNat n) = n - k
  rw [if_pos (by omega)]
  omega
theorem cut_last {k : Nat} (h0 : 0 < k) (h : k ≤ xs.length) : cutV xs (some (-(k : Int))) none = xs.drop (xs.length - k) := by
  unfold cutV
  rw [HT.sIx_none, sIx_neg h0 h, List.take_of_length_le (by rw [List.length_drop]; omega)]
theorem cut_but {k : Nat} (h0 : 0 < k) (h : k ≤ xs.length) : cutV xs none (some (-(k : Int))) = xs.take (xs.length - k) := by
  unfold cutV
  rw [HT.sIx_none, sIx_neg h0 h, List.drop_zero, Nat.sub_zero]
theorem cut_mid {j k : Nat} (h0 : 0 < k) (h : j + k ≤ xs.length) : cutV xs (some (j : Int)) (some (-(k : Int))) = (xs.drop j).take (xs.length - k - j) := by
  unfold cutV
  rw [HT.sIx_nat, sIx_neg h0 (by omega), Nat.min_eq_left (by omega)]
end
/-! ### lists of numbers -/
def nv (l : List Nat) : List V := l.map fun n : Nat => V.int (n : Int)
theorem nv_get {l : List Nat} {i : Nat} {v : V} (h : (nv l)[i]? = some v) : ∃ n, l[i]? = some n ∧ v = .int n := by
  unfold nv at h
  rw [List.getElem?_map] at h
  cases e : l[i]? with
  | none => rw [e] at h; cases h
  | some n => rw [e] at h; exact ⟨n, rfl, (Option.some.inj h).symm⟩
theorem nv_at {l : List Nat} {i n : Nat} (h : l[i]? = some n) : atI (nv l) (i : Int) = some (.int n) := atI_nat (by unfold nv; rw [List.getElem?_map, h]; rfl)
theorem nv_len (l : List Nat) : (nv l).length = l.length := by unfold nv; exact List.length_map ..
theorem nv_ints (l : List Nat) : nv l = (l.map fun n : Nat => (n : Int)).map V.int := by
  unfold nv
  rw [List.map_map]
  rfl
theorem nv_app (a b : List Nat) : nv (a ++ b) = nv a ++ nv b := by unfold nv; exact List.map_append
theorem nv_cons (k : Nat) (c : List Nat) : nv (k :: c) = V.int (k : Int) :: nv c := by unfold nv; rfl
theorem nv_take (l : List Nat) (k : Nat) : (nv l).take k = nv (l.take k) := by unfold nv; exact List.map_take.symm
theorem nv_drop (l : List Nat) (k : Nat) : (nv l).drop k = nv (l.drop k) := by unfold nv; exact List.map_drop.symm
theorem nv_set (l : List Nat) (k n : Nat) : (nv l).set k (.int n) = nv (l.set k n) := by unfold nv; exact List.map_set.symm
theorem flat_nv (l : List Nat) : (nv l).all flatV = true := by
  unfold nv
  rw [List.all_map]
  exact List.all_eq_true.mpr fun _ _ => rfl
theorem inV_nv (a : Nat) (l : List Nat) : inV (V.int a) (nv l) = decide (a ∈ l) := by
  induction l with
  | nil => rfl
  | cons b l ih =>
    have e : inV (V.int a) (nv (b :: l)) = (((b : Int) == (a : Int)) || inV (V.int a) (nv l)) := rfl
    rw [e, ih]
    by_cases h : a = b
    · subst h
      simp
    · have h2 : ¬ (b : Int) = (a : Int) := by omega
      simp [h, h2]
theorem nat_ints_inj : ∀ {a b : List Nat}, a.map (fun n : Nat => (n : Int)) = b.map (fun n : Nat => (n : Int)) → a = b
  | [], [], _ => rfl
  | [], _ :: _, h => nomatch h
  | _ :: _, [], h => nomatch h
  | x :: a, y :: b, h => by
    rw [List.map_cons, List.map_cons] at h
    injection h with h1 h2
    rw [nat_ints_inj h2, Int.ofNat.inj h1]
theorem dec_nv (a b : List Nat) : decide (a.map (fun n : Nat => (n : Int)) = b.map (fun n : Nat => (n : Int))) = decide (a = b) := by
  by_cases h : a = b
  · rw [h, decide_eq_true rfl, decide_eq_true rfl]
  · rw [decide_eq_false h, decide_eq_false fun z => h (nat_ints_inj z)]
theorem w_eqNT {K : PySem.W.Frag} {H : Hp} {p q : Addr} {a b : List Nat} {Q : VK} (h1 : SqT K H p (nv a)) (h2 : SqT K H q (nv b)) (h : Q (.bl (decide (a = b))) H) : rEqG K false (.ref p) (.ref q) H Q :=
  w_eqT (by rw [← nv_ints]; exact h1) (by rw [← nv_ints]; exact h2) (by rw [dec_nv]; exact h)
theorem w_eqNL {K : PySem.W.Frag} {H : Hp} {p q : Addr} {a b : List Nat} {Q : VK} (h1 : SqL K H p (nv a)) (h2 : SqL K H q (nv b)) (h : Q (.bl (decide (a = b))) H) : rEqG K false (.ref p) (.ref q) H Q :=
  w_eqL (by rw [← nv_ints]; exact h1) (by rw [← nv_ints]; exact h2) (by rw [dec_nv]; exact h)
theorem dp_nv {K : PySem.W.Frag} {H : Hp} {p : Addr} {l : List Nat} (h : SqT K H p (nv l)) : Dp K H (.ref p) (.tuple ((l.map fun n : Nat => (n : Int)).map PyData.int)) := dp_intsT (by rw [← nv_ints]; exact h)
theorem depth_nv (l : List Int) : (PyData.tuple (l.map PyData.int)).depth < 8 := by
  simp only [PyData.depth, depth_ints]
  omega
theorem none_ex {H H' : Hp} {t : Addr} (e : Evl.Ex H H') (h : H' t = none) : H t = none := by
  cases q : H t with
  | none => rfl
  | some o => rw [e _ _ q] at h; cases h
theorem none_dw {a p : Addr} {H H' : Hp} (x : Dw a H H') (hD : Dr H a) (h : H' p = none) : H p = none := by
  cases q : H p with
  | none => rfl
  | some o =>
    by_cases e : p = a
    · subst e
      obtain ⟨d, s, c, h2⟩ := x.dr
      rw [h2] at h
      cases h
    · rw [x.kp _ _ e q] at h
      cases h
theorem Dw.fresh {a p : Addr} {H H' : Hp} {o : HO} (x : Dw a H H') (hp : H p = none) (hn : a ≠ p) : Dw a H (L2.upd H' p o) := by
  obtain ⟨⟨d, s, c, h⟩, kp⟩ := x
  exact ⟨⟨d, s, c, by rw [upd_ne hn]; exact h⟩, fun b u n e => by rw [upd_ne (ne_of_none e hp)]; exact kp b u n e⟩
section
variable {K : PySem.W.Frag} {H : Hp} {p : Addr} {l : List Nat} {i : Int} {Q : VK}
theorem w_slToL (k : Nat) (h1 : SqL K H p (nv l)) (e : i = k) (h : ∀ q, H q = none → Q (.ref q) (upd H q (.lst (nv (l.take k))))) : rSlG K (.ref p) none (some i) H Q := by
  subst e
  exact w_slL h1 fun q hq => by rw [cut_to, nv_take]; exact h q hq
theorem w_slFromL (k : Nat) (h1 : SqL K H p (nv l)) (e : i = k) (h : ∀ q, H q = none → Q (.ref q) (upd H q (.lst (nv (l.drop k))))) : rSlG K (.ref p) (some i) none H Q := by
  subst e
  exact w_slL h1 fun q hq => by rw [cut_from, nv_drop]; exact h q hq
theorem w_slToT (k : Nat) (h1 : SqT K H p (nv l)) (e : i = k) (h : ∀ q H', Evl.Ex H H' → SqT K H' q (nv (l.take k)) → Q (.ref q) H') : rSlG K (.ref p) none (some i) H Q := by
  subst e
  exact w_slT h1 fun q H' x hq => h q H' x (by rw [cut_to, nv_take] at hq; exact hq)
theorem w_slFromT (k : Nat) (h1 : SqT K H p (nv l)) (e : i = k) (h : ∀ q H', Evl.Ex H H' → SqT K H' q (nv (l.drop k)) → Q (.ref q) H') : rSlG K (.ref p) (some i) none H Q := by
  subst e
  exact w_slT h1 fun q H' x hq => h q H' x (by rw [cut_from, nv_drop] at hq; exact hq)
theorem w_catNL {q : Addr} {a b : List Nat} (h1 : H p = some (.lst (nv a))) (h2 : H q = some (.lst (nv b))) (h3 : a.length + b.length ≤ 100000) (h : ∀ n, H n = none → Q (.ref n) (upd H n (.lst (nv (a ++ b))))) : rAddG K (.ref p) (.ref q) H Q :=
  w_catL h1 h2 (by rw [nv_len, nv_len]; exact h3) fun n hn => by rw [← nv_app]; exact h n hn
end
end KP

/-! The mirror's ground: data D, owned trees T, what they mean over the abstract heap; states of the mirror. -/
namespace KM
open PySem PySem.Spec PyProof.Rows L2 Evl KP

/-- data, as deep as it goes -/
inductive D where
  | non | bl (b : Bool) | int (i : Int) | str (x : Str) | ty (n : String) | glo (x : Str)
  | tup (ds : List D) | lst (ds : List D) | fro (ds : List D) | dic (ks ds : List D) | obj (c : Str) (ns : List Str) (ds : List D) | exc (c : Str) (ns : List Str) (ds : List D)
  deriving Inhabited
/-- a tree that is owned: its lists, dicts, instances are reached through it alone; leaves are data that nobody changes any more -/
inductive T where
  | val (d : D) | lst (ts : List T) | dic (ks ds : List D) | obj (c : Str) (ns : List Str) (ts : List T)
  deriving Inhabited

/-- a key of a dict -/
def dKey : Key → D
  | .inl i => .int i
  | .inr x => .str x
def dKeyT (k : List Key) : D := .tup (k.map dKey)

section
variable (K : PySem.W.Frag) (H : Hp) (O : List Addr)
def LstK (p : Addr) (xs : List V) : Prop := ∃ (o : Obj) (its : Array Value) (n : Nat), K.lookup p = some o ∧ o.cls = .type "list" ∧ o.dict = none ∧ o.data = .seq its n ∧ its.size ≤ sizeLine ∧ Vals xs its.toList
def TupK (p : Addr) (xs : List V) : Prop := ∃ (o : Obj) (its : Array Value) (n : Nat), K.lookup p = some o ∧ o.cls = .type "tuple" ∧ o.data = .seq its n ∧ its.size ≤ sizeLine ∧ Vals xs its.toList
def LstAt (p : Addr) (xs : List V) : Prop := p ∉ O ∧ H p = some (.lst xs)
/-- a list that nobody can write -/
def FroAt (p : Addr) (xs : List V) : Prop := (p ∉ O ∧ ∃ o, H p = some (.frz o (.lst xs))) ∨ LstK K p xs
def TupAt (p : Addr) (xs : List V) : Prop := (p ∉ O ∧ Rd H p (.tup xs)) ∨ TupK K p xs
/-- a dict with these keys and values -/
def DicH (p : Addr) (ks : List D) (vs : List V) : Prop :=
  (∃ keys : List Key, ks = keys.map dKey ∧ keys.length = vs.length ∧ Rd H p (.dK (keys.zip vs))) ∨ (∃ keys : List (List Key), ks = keys.map dKeyT ∧ keys.length = vs.length ∧ Rd H p (.dT (keys.zip vs)))
/-- at p: an exception of the class at C that was made, not raised; its attributes, the last one first -/
def ExAt (C p : Addr) (fs : List (Str × V)) : Prop := (fs = [] ∧ H p = some (exo p C none)) ∨ ∃ dx, dx ∉ O ∧ H p = some (exo p C (some dx)) ∧ H dx = some (exd dx fs)
mutual
/-- the value v is the data d; nothing of O is reached -/
def Rv : D → V → Prop
  | .non, v => v = .non
  | .bl b, v => v = .bl b
  | .int i, v => v = .int i
  | .str x, v => v = .str x
  | .ty n, v => v = .ty n
  | .glo x, v => v = .ref (He.ga K x)
  | .tup ds, v => ∃ p vs, v = .ref p ∧ TupAt K H O p vs ∧ Rvs ds vs
  | .lst ds, v => ∃ p vs, v = .ref p ∧ LstAt H O p vs ∧ Rvs ds vs
  | .fro ds, v => ∃ p vs, v = .ref p ∧ FroAt K H O p vs ∧ Rvs ds vs
  | .dic ks ds, v => ∃ p vs, v = .ref p ∧ p ∉ O ∧ DicH H p ks vs ∧ Rvs ds vs
  | .obj c ns ds, v => ∃ p dx vs, v = .ref p ∧ p ∉ O ∧ ns.length = vs.length ∧ H p = some (.ins (He.ga K c) dx (ns.zip vs)) ∧ Rvs ds vs
  | .exc c ns ds, v => ∃ p vs, v = .ref p ∧ p ∉ O ∧ ns.length = vs.length ∧ ExAt H O (He.ga K c) p (ns.zip vs) ∧ Rvs ds vs
def Rvs : List D → List V → Prop
  | [], vs => vs = []
  | d :: ds, vs => ∃ v vs', vs = v :: vs' ∧ Rv d v ∧ Rvs ds vs'
end
mutual
/-- the value v is the tree t, whose own objects lie at fp -/
def Ow : T → V → List Addr → Prop
  | .val d, v, fp => fp = [] ∧ Rv K H O d v
  | .lst ts, v, fp => ∃ p vs fq, v = .ref p ∧ fp = p :: fq ∧ H p = some (.lst vs) ∧ Ows ts vs fq
  | .dic ks ds, v, fp => ∃ p vs, v = .ref p ∧ fp = [p] ∧ Mut (H p) ∧ DicH H p ks vs ∧ Rvs K H O ds vs
  | .obj c ns ts, v, fp => ∃ p dx vs fq, v = .ref p ∧ fp = p :: fq ∧ ns.length = vs.length ∧ H p = some (.ins (He.ga K c) dx (ns.zip vs)) ∧ Ows ts vs fq
def Ows : List T → List V → List Addr → Prop
  | [], vs, fp => vs = [] ∧ fp = []
  | t :: ts, vs, fp => ∃ v vs' f1 f2, vs = v :: vs' ∧ fp = f1 ++ f2 ∧ Ow t v f1 ∧ Ows ts vs' f2
end
end
/-- the mirror's state: what each name holds; none: nothing that may be asked -/
abbrev Env := List (Option T)
section
variable (K : PySem.W.Frag) (H : Hp) (O : List Addr)
def Ce : Env → L2.St → List Addr → Prop
  | [], σ, W => σ = [] ∧ W = []
  | none :: env, σ, W => ∃ s σ', σ = s :: σ' ∧ Ce env σ' W
  | some t :: env, σ, W => ∃ v σ' f1 f2, σ = some v :: σ' ∧ W = f1 ++ f2 ∧ Ow K H O t v f1 ∧ Ce env σ' f2
end

/-! ### what stays -/
/-- all of H but what lies in O stays in H'; O' has of H nothing new -/
structure Lv (H : Hp) (O : List Addr) (H' : Hp) (O' : List Addr) : Prop where
  kp : ∀ p o, p ∉ O → H p = some o → H' p = some o
  out : ∀ p, p ∈ O' → p ∈ O ∨ H p = none
section
variable {K : PySem.W.Frag} {H H' : Hp} {O O' : List Addr}
theorem Lv.no (l : Lv H O H' O') {p : Addr} {o : HO} (hn : p ∉ O) (h : H p = some o) : p ∉ O' := fun z => by
  rcases l.out p z with z | z
  · exact hn z
  · rw [h] at z; cases z
theorem Lv.rd (l : Lv H O H' O') {p : Addr} {o : HO} (hn : p ∉ O) (h : Rd H p o) : p ∉ O' ∧ Rd H' p o := by
  rcases h with h | ⟨u, h⟩
  · exact ⟨l.no hn h, .inl (l.kp _ _ hn h)⟩
  · exact ⟨l.no hn h, .inr ⟨u, l.kp _ _ hn h⟩⟩
theorem LstAt.lv (l : Lv H O H' O') {p : Addr} {xs : List V} (h : LstAt H O p xs) : LstAt H' O' p xs := ⟨l.no h.1 h.2, l.kp _ _ h.1 h.2⟩
theorem FroAt.lv (l : Lv H O H' O') {p : Addr} {xs : List V} (h : FroAt K H O p xs) : FroAt K H' O' p xs := by
  rcases h with ⟨hn, o, h⟩ | h
  · exact .inl ⟨l.no hn h, o, l.kp _ _ hn h⟩
  · exact .inr h
theorem TupAt.lv (l : Lv H O H' O') {p : Addr} {xs : List V} (h : TupAt K H O p xs) : TupAt K H' O' p xs := by
  rcases h with ⟨hn, h⟩ | h
  · exact .inl (l.rd hn h)
  · exact .inr h
theorem DicH.at (l : Lv H O H' O') {p : Addr} (hn : p ∉ O) {ks : List D} {vs : List V} (h : DicH H p ks vs) : p ∉ O' ∧ DicH H' p ks vs := by
  rcases h with ⟨keys, e, z, h⟩ | ⟨keys, e, z, h⟩
  · obtain ⟨a, b⟩ := l.rd hn h
    exact ⟨a, .inl ⟨keys, e, z, b⟩⟩
  · obtain ⟨a, b⟩ := l.rd hn h
    exact ⟨a, .inr ⟨keys, e, z, b⟩⟩
theorem ExAt.lv (l : Lv H O H' O') {C p : Addr} {fs : List (Str × V)} (n : p ∉ O) (h : ExAt H O C p fs) : p ∉ O' ∧ ExAt H' O' C p fs := by
  rcases h with ⟨e, h⟩ | ⟨dx, nd, h, hd⟩
  · exact ⟨l.no n h, .inl ⟨e, l.kp _ _ n h⟩⟩
  · exact ⟨l.no n h, .inr ⟨dx, l.no nd hd, l.kp _ _ n h, l.kp _ _ nd hd⟩⟩
mutual
theorem Rv.lv (l : Lv H O H' O') : ∀ {d : D} {v : V}, Rv K H O d v → Rv K H' O' d v
  | .non, _, h => h
  | .bl _, _, h => h
  | .int _, _, h => h
  | .str _, _, h => h
  | .ty _, _, h => h
  | .glo _, _, h => h
  | .tup ds, _, ⟨p, vs, e, a, r⟩ => ⟨p, vs, e, a.lv l, Rvs.lv l r⟩
  | .lst ds, _, ⟨p, vs, e, a, r⟩ => ⟨p, vs, e, a.lv l, Rvs.lv l r⟩
  | .fro ds, _, ⟨p, vs, e, a, r⟩ => ⟨p, vs, e, a.lv l, Rvs.lv l r⟩
  | .dic ks ds, _, ⟨p, vs, e, n, a, r⟩ => ⟨p, vs, e, (a.at l n).1, (a.at l n).2, Rvs.lv l r⟩
  | .obj c ns ds, _, ⟨p, dx, vs, e, n, z, a, r⟩ => ⟨p, dx, vs, e, l.no n a, z, l.kp _ _ n a, Rvs.lv l r⟩
  | .exc c ns ds, _, ⟨p, vs, e, n, z, a, r⟩ => ⟨p, vs, e, (a.lv l n).1, z, (a.lv l n).2, Rvs.lv l r⟩
theorem Rvs.lv (l : Lv H O H' O') : ∀ {ds : List D} {vs : List V}, Rvs K H O ds vs → Rvs K H' O' ds vs
  | [], _, h => h
  | d :: ds, _, ⟨v, vs', e, a, r⟩ => ⟨v, vs', e, Rv.lv l a, Rvs.lv l r⟩
end
/-- H' has what H has at fp -/
def Kp (H H' : Hp) (fp : List Addr) : Prop := ∀ p ∈ fp, H' p = H p
theorem Kp.l {a b : List Addr} (k : Kp H H' (a ++ b)) : Kp H H' a := fun p hp => k p (List.mem_append_left _ hp)
theorem Kp.r {a b : List Addr} (k : Kp H H' (a ++ b)) : Kp H H' b := fun p hp => k p (List.mem_append_right _ hp)
theorem Kp.t {a : Addr} {b : List Addr} (k : Kp H H' (a :: b)) : Kp H H' b := fun p hp => k p (List.mem_cons_of_mem _ hp)
theorem Kp.h {a : Addr} {b : List Addr} (k : Kp H H' (a :: b)) : H' a = H a := k a List.mem_cons_self
mutual
theorem Ow.lv (l : Lv H O H' O') : ∀ {t : T} {v : V} {fp : List Addr}, Kp H H' fp → Ow K H O t v fp → Ow K H' O' t v fp
  | .val d, _, _, _, ⟨e, r⟩ => ⟨e, r.lv l⟩
  | .lst ts, _, _, k, ⟨p, vs, fq, e, ef, h, r⟩ => by
    subst ef
    exact ⟨p, vs, fq, e, rfl, by rw [k.h]; exact h, Ows.lv l k.t r⟩
  | .dic ks ds, _, _, k, ⟨p, vs, e, ef, m, h, r⟩ => by
    subst ef
    refine ⟨p, vs, e, rfl, by rw [k.h]; exact m, ?_, r.lv l⟩
    rcases h with ⟨keys, e, z, h⟩ | ⟨keys, e, z, h⟩
    · refine .inl ⟨keys, e, z, ?_⟩
      unfold Rd
      rw [k.h]
      exact h
    · refine .inr ⟨keys, e, z, ?_⟩
      unfold Rd
      rw [k.h]
      exact h
  | .obj c ns ts, _, _, k, ⟨p, dx, vs, fq, e, ef, z, h, r⟩ => by
    subst ef
    exact ⟨p, dx, vs, fq, e, rfl, z, by rw [k.h]; exact h, Ows.lv l k.t r⟩
theorem Ows.lv (l : Lv H O H' O') : ∀ {ts : List T} {vs : List V} {fp : List Addr}, Kp H H' fp → Ows K H O ts vs fp → Ows K H' O' ts vs fp
  | [], _, _, _, h => h
  | t :: ts, _, _, k, ⟨v, vs', f1, f2, e, ef, a, r⟩ => by
    subst ef
    exact ⟨v, vs', f1, f2, e, rfl, Ow.lv l k.l a, Ows.lv l k.r r⟩
end
theorem Ce.lv (l : Lv H O H' O') : ∀ {env : Env} {σ : L2.St} {W : List Addr}, Kp H H' W → Ce K H O env σ W → Ce K H' O' env σ W
  | [], _, _, _, h => h
  | none :: env, _, _, k, ⟨s, σ', e, r⟩ => ⟨s, σ', e, Ce.lv l k r⟩
  | some t :: env, _, _, k, ⟨v, σ', f1, f2, e, ef, a, r⟩ => by
    subst ef
    exact ⟨v, σ', f1, f2, e, rfl, a.lv l k.l, Ce.lv l k.r r⟩

theorem Mut.ex {p : Addr} (h : Mut (H p)) : ∃ o, H p = some o := by
  cases z : H p with
  | none => rw [z] at h; exact h.elim
  | some o => exact ⟨o, rfl⟩
theorem Mut.of {p : Addr} {o : HO} (e : H p = some o) (h : Mut (some o)) : Mut (H p) := by rw [e]; exact h
mutual
theorem Ow.dom : ∀ {t : T} {v : V} {fp : List Addr}, Ow K H O t v fp → ∀ p ∈ fp, Mut (H p)
  | .val d, _, _, ⟨e, _⟩ => by subst e; simp
  | .lst ts, _, _, ⟨p, vs, fq, e, ef, h, r⟩ => by
    subst ef
    intro q hq
    rcases List.mem_cons.mp hq with rfl | hq
    · exact Mut.of h trivial
    · exact Ows.dom r q hq
  | .dic ks ds, _, _, ⟨p, vs, e, ef, m, h, r⟩ => by
    subst ef
    intro q hq
    obtain rfl : q = p := by simpa using hq
    exact m
  | .obj c ns ts, _, _, ⟨p, dx, vs, fq, e, ef, z, h, r⟩ => by
    subst ef
    intro q hq
    rcases List.mem_cons.mp hq with rfl | hq
    · exact Mut.of h trivial
    · exact Ows.dom r q hq
theorem Ows.dom : ∀ {ts : List T} {vs : List V} {fp : List Addr}, Ows K H O ts vs fp → ∀ p ∈ fp, Mut (H p)
  | [], _, _, ⟨_, e⟩ => by subst e; simp
  | t :: ts, _, _, ⟨v, vs', f1, f2, e, ef, a, r⟩ => by
    subst ef
    intro q hq
    rcases List.mem_append.mp hq with hq | hq
    · exact Ow.dom a q hq
    · exact Ows.dom r q hq
end
theorem Ce.dom : ∀ {env : Env} {σ : L2.St} {W : List Addr}, Ce K H O env σ W → ∀ p ∈ W, Mut (H p)
  | [], _, _, ⟨_, e⟩ => by subst e; simp
  | none :: env, _, _, ⟨s, σ', e, r⟩ => Ce.dom r
  | some t :: env, _, _, ⟨v, σ', f1, f2, e, ef, a, r⟩ => by
    subst ef
    intro q hq
    rcases List.mem_append.mp hq with hq | hq
    · exact a.dom q hq
    · exact Ce.dom r q hq
theorem Ce.len : ∀ {env : Env} {σ : L2.St} {W : List Addr}, Ce K H O env σ W → σ.length = env.length
  | [], _, _, ⟨e, _⟩ => by subst e; rfl
  | none :: env, _, _, ⟨s, σ', e, r⟩ => by subst e; simp [Ce.len r]
  | some t :: env, _, _, ⟨v, σ', f1, f2, e, ef, a, r⟩ => by subst e; simp [Ce.len r]
end
/-! ### a tree becomes data -/
mutual
def toD : T → D
  | .val d => d
  | .lst ts => .lst (toDs ts)
  | .dic ks ds => .dic ks ds
  | .obj c ns ts => .obj c ns (toDs ts)
def toDs : List T → List D
  | [] => []
  | t :: ts => toD t :: toDs ts
end
section
variable {K : PySem.W.Frag} {H H' : Hp} {O O' : List Addr}
theorem Lv.sub (h : ∀ p ∈ O', p ∈ O) : Lv H O H O' := ⟨fun _ _ _ h => h, fun p z => .inl (h p z)⟩
mutual
theorem Ow.toD (hs : ∀ p ∈ O', p ∈ O) : ∀ {t : T} {v : V} {fp : List Addr}, (∀ p ∈ fp, p ∉ O') → Ow K H O t v fp → Rv K H O' (toD t) v
  | .val d, _, _, _, ⟨e, r⟩ => r.lv (Lv.sub hs)
  | .lst ts, _, _, n, ⟨p, vs, fq, e, ef, h, r⟩ => by
    subst ef
    exact ⟨p, vs, e, ⟨n p List.mem_cons_self, h⟩, Ows.toD hs (fun q hq => n q (List.mem_cons_of_mem _ hq)) r⟩
  | .dic ks ds, _, _, n, ⟨p, vs, e, ef, m, h, r⟩ => by
    subst ef
    exact ⟨p, vs, e, n p List.mem_cons_self, h, r.lv (Lv.sub hs)⟩
  | .obj c ns ts, _, _, n, ⟨p, dx, vs, fq, e, ef, z, h, r⟩ => by
    subst ef
    exact ⟨p, dx, vs, e, n p List.mem_cons_self, z, h, Ows.toD hs (fun q hq => n q (List.mem_cons_of_mem _ hq)) r⟩
theorem Ows.toD (hs : ∀ p ∈ O', p ∈ O) : ∀ {ts : List T} {vs : List V} {fp : List Addr}, (∀ p ∈ fp, p ∉ O') → Ows K H O ts vs fp → Rvs K H O' (toDs ts) vs
  | [], _, _, _, ⟨e, _⟩ => e
  | t :: ts, _, _, n, ⟨v, vs', f1, f2, e, ef, a, r⟩ => by
    subst ef
    exact ⟨v, vs', e, Ow.toD hs (fun q hq => n q (List.mem_append_left _ hq)) a, Ows.toD hs (fun q hq => n q (List.mem_append_right _ hq)) r⟩
end
theorem Rvs.len : ∀ {ds : List D} {vs : List V}, Rvs K H O ds vs → vs.length = ds.length
  | [], _, e => by cases (show _ = [] from e); rfl
  | d :: ds, _, ⟨v, vs', e, _, r⟩ => by subst e; simp [Rvs.len r]
theorem Ows.len : ∀ {ts : List T} {vs : List V} {fp : List Addr}, Ows K H O ts vs fp → vs.length = ts.length
  | [], _, _, ⟨e, _⟩ => by subst e; rfl
  | d :: ds, _, _, ⟨v, vs', _, _, e, _, _, r⟩ => by subst e; simp [Ows.len r]
theorem Rvs.get : ∀ {ds : List D} {vs : List V} {i : Nat} {d : D}, Rvs K H O ds vs → ds[i]? = some d → ∃ v, vs[i]? = some v ∧ Rv K H O d v
  | _ :: _, _, 0, _, ⟨v, vs', e, a, r⟩, h => by subst e; simp at h; subst h; exact ⟨v, rfl, a⟩
  | _ :: ds, _, i + 1, d, ⟨v, vs', e, a, r⟩, h => by
    subst e
    obtain ⟨w, h1, h2⟩ := Rvs.get (i := i) r (by simpa using h)
    exact ⟨w, by simpa using h1, h2⟩
theorem Rvs.app : ∀ {ds es : List D} {vs us : List V}, Rvs K H O ds vs → Rvs K H O es us → Rvs K H O (ds ++ es) (vs ++ us)
  | [], _, _, _, e, r => by cases (show _ = [] from e); exact r
  | d :: ds, es, _, us, ⟨v, vs', e, a, r⟩, q => by subst e; exact ⟨v, vs' ++ us, rfl, a, Rvs.app r q⟩
theorem Rvs.take : ∀ (n : Nat) {ds : List D} {vs : List V}, Rvs K H O ds vs → Rvs K H O (ds.take n) (vs.take n)
  | 0, _, _, _ => by simp [Rvs]
  | n + 1, [], _, e => by cases (show _ = [] from e); simp [Rvs]
  | n + 1, d :: ds, _, ⟨v, vs', e, a, r⟩ => by subst e; exact ⟨v, vs'.take n, rfl, a, Rvs.take n r⟩
theorem Rvs.drop : ∀ (n : Nat) {ds : List D} {vs : List V}, Rvs K H O ds vs → Rvs K H O (ds.drop n) (vs.drop n)
  | 0, _, _, r => r
  | n + 1, [], _, e => by cases (show _ = [] from e); simp [Rvs]
  | n + 1, d :: ds, _, ⟨v, vs', e, a, r⟩ => by subst e; exact Rvs.drop n r
theorem Rvs.set : ∀ (i : Nat) {ds : List D} {vs : List V} {d : D} {v : V}, Rvs K H O ds vs → Rv K H O d v → Rvs K H O (ds.set i d) (vs.set i v)
  | _, [], _, _, _, e, _ => by cases (show _ = [] from e); simp [Rvs]
  | 0, _ :: _, _, _, w, ⟨v, vs', e, a, r⟩, q => by subst e; exact ⟨w, vs', rfl, q, r⟩
  | i + 1, _ :: _, _, _, w, ⟨v, vs', e, a, r⟩, q => by subst e; exact ⟨v, vs'.set i w, rfl, a, Rvs.set i r q⟩
end
section
variable {K : PySem.W.Frag} {H : Hp} {O : List Addr}
theorem TupAt.of (hn : ∀ p ∈ O, Mut (H p)) {p : Addr} {xs : List V} (h : SqT K H p xs) : TupAt K H O p xs := by
  rcases h with h | h
  · refine .inl ⟨fun z => ?_, h⟩
    have m := hn p z
    rcases h with h | ⟨o, h⟩ <;> (rw [h] at m; exact m)
  · exact .inr h
end
end KM

/-! The mirror's judgements: operands, places, expressions. -/
namespace KM
open PySem PySem.Spec PyProof.Rows L2 Evl KP

/-! ### results -/
inductive Rs (α : Type) where
  | ok (a : α) (env : Env) | exc (c : Str) (ns : List Str) (ds : List D) (env : Env) | stuck
abbrev M (α : Type) := Env → Rs α
def M.ret {α : Type} (a : α) : M α := fun env => .ok a env
def M.bnd {α β : Type} (m : M α) (k : α → M β) : M β := fun env => match m env with
  | .ok a e => k a e
  | .exc c ns ds e => .exc c ns ds e
  | .stuck => .stuck
def M.opt {α : Type} : Option α → M α
  | some a => fun env => .ok a env
  | none => fun _ => .stuck
def Rs.To {α : Type} (r : Rs α) (Q : α → Env → Prop) (X : Str → List Str → List D → Env → Prop) : Prop := match r with
  | .ok a e => Q a e
  | .exc c ns ds e => X c ns ds e
  | .stuck => False
theorem Rs.To.mono {α : Type} {r : Rs α} {Q Q' : α → Env → Prop} {X X' : Str → List Str → List D → Env → Prop} (h : r.To Q X) (hq : ∀ a e, Q a e → Q' a e) (hx : ∀ c ns ds e, X c ns ds e → X' c ns ds e) : r.To Q' X' := by
  cases r with
  | ok a e => exact hq a e h
  | exc c ns ds e => exact hx c ns ds e h
  | stuck => exact h
theorem M.bnd_to {α β : Type} {m : M α} {k : α → M β} {env : Env} {Q : β → Env → Prop} {X : Str → List Str → List D → Env → Prop} (h : (m.bnd k env).To Q X) : (m env).To (fun a e => (k a e).To Q X) X := by
  unfold M.bnd at h
  cases z : m env with
  | ok a e => rw [z] at h; exact h
  | exc c ns ds e => rw [z] at h; exact h
  | stuck => rw [z] at h; exact h
theorem M.opt_to {α : Type} {o : Option α} {env : Env} {Q : α → Env → Prop} {X : Str → List Str → List D → Env → Prop} (h : (M.opt o env).To Q X) : ∃ a, o = some a ∧ Q a env := by
  cases o with
  | some a => exact ⟨a, rfl, h⟩
  | none => exact h.elim

/-! ### states -/
structure ER (K : PySem.W.Frag) (Oo W : List Addr) (σ : L2.St) (H : Hp) (env : Env) : Prop where
  ce : Ce K H (Oo ++ W) env σ W
  nd : W.Nodup
  dj : ∀ p ∈ W, p ∉ Oo
  dom : ∀ p ∈ Oo, Mut (H p)
section
variable {K : PySem.W.Frag} {H H' H1 H2 : Hp} {O O' Oo W W' W1 W2 fp : List Addr} {σ : L2.St} {env env' : Env}
theorem Lv.refl (H : Hp) (W : List Addr) : Lv H W H W := ⟨fun _ _ _ h => h, fun _ h => .inl h⟩
theorem Lv.trans (a : Lv H W H1 W1) (b : Lv H1 W1 H2 W2) : Lv H W H2 W2 :=
  ⟨fun p o n h => b.kp p o (a.no n h) (a.kp p o n h), fun p hp => by
    rcases b.out p hp with z | z
    · exact a.out p z
    · by_cases hn : p ∈ W
      · exact .inl hn
      · cases q : H p with
        | none => exact .inr rfl
        | some o => rw [a.kp p o hn q] at z; cases z⟩
/-- with others' objects -/
theorem Lv.oo (a : Lv H W H' W') (Oo : List Addr) : Lv H (Oo ++ W) H' (Oo ++ W') :=
  ⟨fun p o n h => a.kp p o (fun z => n (List.mem_append_right _ z)) h, fun p hp => by
    rcases List.mem_append.mp hp with z | z
    · exact .inl (List.mem_append_left _ z)
    · rcases a.out p z with z | z
      · exact .inl (List.mem_append_right _ z)
      · exact .inr z⟩
theorem Lv.ex (e : Evl.Ex H H') : Lv H W H' W := ⟨fun p o _ h => e p o h, fun p h => .inl h⟩
theorem Lv.less (h : ∀ p ∈ W', p ∈ W) : Lv H W H W' := ⟨fun _ _ _ h => h, fun p z => .inl (h p z)⟩
theorem Kp.ex (e : Evl.Ex H H') (d : ∀ p ∈ fp, Mut (H p)) : Kp H H' fp := fun p hp => by
  obtain ⟨o, h⟩ := Mut.ex (d p hp)
  rw [h]
  exact e p o h
/-- new objects -/
theorem ER.ex (E : ER K Oo W σ H env) (e : Evl.Ex H H') : ER K Oo W σ H' env :=
  ⟨E.ce.lv (Lv.ex e) (Kp.ex e E.ce.dom), E.nd, E.dj, fun p hp => by
    obtain ⟨o, h⟩ := Mut.ex (E.dom p hp)
    have m := E.dom p hp
    rw [h] at m
    rw [e p o h]
    exact m⟩
theorem ER.len (E : ER K Oo W σ H env) : σ.length = env.length := E.ce.len
theorem ER.domA (E : ER K Oo W σ H env) : ∀ p ∈ Oo ++ W, Mut (H p) := fun p hp => by
  rcases List.mem_append.mp hp with z | z
  · exact E.dom p z
  · exact E.ce.dom p z
theorem ER.new (E : ER K Oo W σ H env) {p : Addr} (hp : H p = none) : p ∉ Oo ++ W := fun z => by
  obtain ⟨o, h⟩ := Mut.ex (E.domA p z)
  rw [hp] at h; cases h

/-! ### one name's cell -/
theorem Ce.at : ∀ {env : Env} {σ : L2.St} {W : List Addr} {i : Nat} {t : T}, Ce K H O env σ W → env[i]? = some (some t) →
    ∃ v A f B, σ[i]? = some (some v) ∧ W = A ++ f ++ B ∧ Ow K H O t v f ∧
      ∀ {H' : Hp} {O' : List Addr} {c : Option T} {s : Option V} {f' : List Addr}, Lv H O H' O' → Kp H H' (A ++ B) → (∀ t', c = some t' → ∃ v', s = some v' ∧ Ow K H' O' t' v' f') → (c = none → f' = []) → Ce K H' O' (env.set i c) (σ.set i s) (A ++ f' ++ B)
  | [], _, _, _, _, _, h => by simp at h
  | c0 :: env, _, _, 0, t, hc, h => by
    simp at h
    subst h
    obtain ⟨v, σ', f1, f2, e, ef, a, r⟩ := hc
    subst e ef
    refine ⟨v, [], f1, f2, rfl, rfl, a, fun {H' O' c s f'} l k h1 h2 => ?_⟩
    have r' := r.lv l (show Kp H H' f2 from k)
    cases c with
    | none => rw [h2 rfl]; exact ⟨s, σ', rfl, r'⟩
    | some t' =>
      obtain ⟨v', e, o⟩ := h1 t' rfl
      exact ⟨v', σ', f', f2, by rw [← e]; rfl, rfl, o, r'⟩
  | none :: env, _, _, i + 1, t, ⟨s0, σ', e, r⟩, h => by
    subst e
    obtain ⟨v, A, f, B, h1, h2, h3, h4⟩ := Ce.at (i := i) r (by simpa using h)
    exact ⟨v, A, f, B, by simpa using h1, h2, h3, fun l k g1 g2 => ⟨s0, _, rfl, h4 l k g1 g2⟩⟩
  | some t0 :: env, _, _, i + 1, t, ⟨v0, σ', f1, f2, e, ef, a, r⟩, h => by
    subst e ef
    obtain ⟨v, A, f, B, h1, h2, h3, h4⟩ := Ce.at (i := i) r (by simpa using h)
    subst h2
    refine ⟨v, f1 ++ A, f, B, by simpa using h1, by simp, h3, fun {H' O' c s f'} l k g1 g2 => ?_⟩
    have k' : Kp H H' (f1 ++ (A ++ B)) := fun p hp => k p (by simpa using hp)
    exact ⟨v0, _, f1, A ++ f' ++ B, rfl, by simp, a.lv l k'.l, h4 l k'.r g1 g2⟩
/-- any cell is overwritten -/
theorem Ce.put : ∀ {env : Env} {σ : L2.St} {W : List Addr} {i : Nat}, Ce K H O env σ W → i < env.length →
    ∃ A f B, W = A ++ f ++ B ∧ ∀ {H' : Hp} {O' : List Addr} {c : Option T} {s : Option V} {f' : List Addr}, Lv H O H' O' → Kp H H' (A ++ B) → (∀ t', c = some t' → ∃ v', s = some v' ∧ Ow K H' O' t' v' f') → (c = none → f' = []) → Ce K H' O' (env.set i c) (σ.set i s) (A ++ f' ++ B)
  | [], _, _, _, _, h => by simp at h
  | none :: env, _, W, 0, ⟨s0, σ', e, r⟩, _ => by
    subst e
    refine ⟨[], [], W, rfl, fun {H' O' c s f'} l k h1 h2 => ?_⟩
    have r' := r.lv l (show Kp H H' W from k)
    cases c with
    | none => rw [h2 rfl]; exact ⟨s, σ', rfl, r'⟩
    | some t' =>
      obtain ⟨v', e, o⟩ := h1 t' rfl
      exact ⟨v', σ', f', W, by rw [← e]; rfl, rfl, o, r'⟩
  | some t0 :: env, _, _, 0, ⟨v0, σ', f1, f2, e, ef, a, r⟩, _ => by
    subst e ef
    refine ⟨[], f1, f2, rfl, fun {H' O' c s f'} l k h1 h2 => ?_⟩
    have r' := r.lv l (show Kp H H' f2 from k)
    cases c with
    | none => rw [h2 rfl]; exact ⟨s, σ', rfl, r'⟩
    | some t' =>
      obtain ⟨v', e, o⟩ := h1 t' rfl
      exact ⟨v', σ', f', f2, by rw [← e]; rfl, rfl, o, r'⟩
  | none :: env, _, _, i + 1, ⟨s0, σ', e, r⟩, h => by
    subst e
    obtain ⟨A, f, B, h2, h4⟩ := Ce.put (i := i) r (by simpa using h)
    exact ⟨A, f, B, h2, fun l k g1 g2 => ⟨s0, _, rfl, h4 l k g1 g2⟩⟩
  | some t0 :: env, _, _, i + 1, ⟨v0, σ', f1, f2, e, ef, a, r⟩, h => by
    subst e ef
    obtain ⟨A, f, B, h2, h4⟩ := Ce.put (i := i) r (by simpa using h)
    subst h2
    refine ⟨f1 ++ A, f, B, by simp, fun {H' O' c s f'} l k g1 g2 => ?_⟩
    have k' : Kp H H' (f1 ++ (A ++ B)) := fun p hp => k p (by simpa using hp)
    exact ⟨v0, _, f1, A ++ f' ++ B, rfl, by simp, a.lv l k'.l, h4 l k'.r g1 g2⟩
theorem Ce.app : ∀ {env env' : Env} {σ σ' : L2.St} {W W' : List Addr}, Ce K H O env σ W → Ce K H O env' σ' W' → Ce K H O (env ++ env') (σ ++ σ') (W ++ W')
  | [], _, _, _, _, _, ⟨e, e2⟩, h => by subst e e2; exact h
  | none :: env, _, _, _, _, _, ⟨s0, σ', e, r⟩, h => by subst e; exact ⟨s0, _, rfl, Ce.app r h⟩
  | some t0 :: env, _, _, _, _, _, ⟨v0, σ', f1, f2, e, ef, a, r⟩, h => by subst e ef; exact ⟨v0, _, f1, _, rfl, by simp, a, Ce.app r h⟩
theorem Ce.dead : ∀ n : Nat, Ce K H O (List.replicate n none) (List.replicate n none) []
  | 0 => ⟨rfl, rfl⟩
  | n + 1 => ⟨none, _, rfl, Ce.dead n⟩
end

/-! ### places -/
inductive Sg where
  | ix (k : Nat) | fld (f : Str)
def ixOf (f : Str) : List Str → Option Nat
  | [] => none
  | n :: ns => if f = n then some 0 else (ixOf f ns).map (· + 1)
theorem ixOf_lookup {α : Type} {f : Str} : ∀ {ns : List Str} {vs : List α} {k : Nat}, ns.length = vs.length → ixOf f ns = some k → ∃ v, vs[k]? = some v ∧ (ns.zip vs).lookup f = some v
  | [], _, _, _, h => by cases h
  | n :: ns, [], _, e, _ => by simp at e
  | n :: ns, v :: vs, k, e, h => by
    unfold ixOf at h
    rw [List.zip_cons_cons, List.lookup_cons]
    by_cases hf : f = n
    · rw [if_pos hf] at h
      cases h
      subst hf
      exact ⟨v, rfl, by simp⟩
    · rw [if_neg hf] at h
      cases z : ixOf f ns with
      | none => rw [z] at h; cases h
      | some j =>
        rw [z] at h
        cases h
        obtain ⟨w, h1, h2⟩ := ixOf_lookup (vs := vs) (by simpa using e) z
        refine ⟨w, by simpa using h1, ?_⟩
        rw [show (f == n) = false from by simpa using hf]
        exact h2
theorem ixOf_lt {f : Str} : ∀ {ns : List Str} {k : Nat}, ixOf f ns = some k → k < ns.length
  | [], _, h => by cases h
  | n :: ns, k, h => by
    unfold ixOf at h
    by_cases hf : f = n
    · rw [if_pos hf] at h; cases h; simp
    · rw [if_neg hf] at h
      cases z : ixOf f ns with
      | none => rw [z] at h; cases h
      | some j =>
        rw [z] at h; cases h
        have := ixOf_lt z
        simp
        omega
def T.child : T → Sg → Option T
  | .lst ts, .ix k => ts[k]?
  | .obj _ ns ts, .fld f => (ixOf f ns).bind fun k => ts[k]?
  | _, _ => none
def T.chput (t : T) (s : Sg) (u : T) : T := match t, s with
  | .lst ts, .ix k => .lst (ts.set k u)
  | .obj c ns ts, .fld f => match ixOf f ns with
    | some k => .obj c ns (ts.set k u)
    | none => t
  | t, _ => t
def T.at? : T → List Sg → Option T
  | t, [] => some t
  | t, s :: π => (t.child s).bind fun u => u.at? π
def T.put : T → List Sg → T → T
  | _, [], u => u
  | t, s :: π, u => match t.child s with
    | some w => t.chput s (w.put π u)
    | none => t
/-- from v by π one comes to w -/
def Nav (H : Hp) : V → List Sg → V → Prop
  | v, [], w => w = v
  | v, .ix k :: π, w => ∃ p vs u, v = .ref p ∧ H p = some (.lst vs) ∧ vs[k]? = some u ∧ Nav H u π w
  | v, .fld f :: π, w => ∃ p C dx fs u, v = .ref p ∧ H p = some (.ins C dx fs) ∧ fs.lookup f = some u ∧ Nav H u π w
section
variable {K : PySem.W.Frag} {H H' H1 H2 : Hp} {O O' Oo W W' W1 W2 fp : List Addr} {σ : L2.St} {env env' : Env}
theorem Nav.ex (e : Evl.Ex H H') : ∀ {π : List Sg} {v w : V}, Nav H v π w → Nav H' v π w
  | [], _, _, h => h
  | .ix k :: π, _, _, ⟨p, vs, u, a, b, c, d⟩ => ⟨p, vs, u, a, e _ _ b, c, Nav.ex e d⟩
  | .fld f :: π, _, _, ⟨p, C, dx, fs, u, a, b, c, d⟩ => ⟨p, C, dx, fs, u, a, e _ _ b, c, Nav.ex e d⟩
theorem Nav.inj : ∀ {π : List Sg} {v w w' : V}, Nav H v π w → Nav H v π w' → w = w'
  | [], _, _, _, h, h' => by rw [show _ = _ from h, show _ = _ from h']
  | .ix k :: π, _, _, _, ⟨p, vs, u, a, b, c, d⟩, ⟨p', vs', u', a', b', c', d'⟩ => by
    subst a; cases a'
    rw [b] at b'; cases b'
    rw [c] at c'; cases c'
    exact Nav.inj d d'
  | .fld f :: π, _, _, _, ⟨p, C, dx, fs, u, a, b, c, d⟩, ⟨p', C', dx', fs', u', a', b', c', d'⟩ => by
    subst a; cases a'
    rw [b] at b'; cases b'
    rw [c] at c'; cases c'
    exact Nav.inj d d'
theorem Nav.snoc {s : Sg} : ∀ {π : List Sg} {v w u : V}, Nav H v π w → Nav H w [s] u → Nav H v (π ++ [s]) u
  | [], _, _, _, h, g => by rw [show _ = _ from h] at g; exact g
  | .ix k :: π, _, _, _, ⟨p, vs, u, a, b, c, d⟩, g => ⟨p, vs, u, a, b, c, Nav.snoc d g⟩
  | .fld f :: π, _, _, _, ⟨p, C, dx, fs, u, a, b, c, d⟩, g => ⟨p, C, dx, fs, u, a, b, c, Nav.snoc d g⟩
theorem Ows.at : ∀ {ts : List T} {vs : List V} {fp : List Addr} {k : Nat} {t : T}, Ows K H O ts vs fp → ts[k]? = some t →
    ∃ v A f B, vs[k]? = some v ∧ fp = A ++ f ++ B ∧ Ow K H O t v f ∧ ∀ {H' : Hp} {O' : List Addr} {t' : T} {v' : V} {f' : List Addr}, Lv H O H' O' → Kp H H' (A ++ B) → Ow K H' O' t' v' f' → Ows K H' O' (ts.set k t') (vs.set k v') (A ++ f' ++ B)
  | [], _, _, _, _, _, h => by simp at h
  | t0 :: ts, _, _, 0, t, ⟨v0, vs', f1, f2, e, ef, a, r⟩, h => by
    simp at h
    subst h e ef
    exact ⟨v0, [], f1, f2, rfl, rfl, a, fun {H' O' t' v' f'} l k o => ⟨v', vs', f', f2, rfl, rfl, o, r.lv l k⟩⟩
  | t0 :: ts, _, _, k + 1, t, ⟨v0, vs', f1, f2, e, ef, a, r⟩, h => by
    subst e ef
    obtain ⟨v, A, f, B, h1, h2, h3, h4⟩ := Ows.at (k := k) r (by simpa using h)
    subst h2
    refine ⟨v, f1 ++ A, f, B, by simpa using h1, by simp, h3, fun {H' O' t' v' f'} l k o => ?_⟩
    have k' : Kp H H' (f1 ++ (A ++ B)) := fun p hp => k p (by simpa using hp)
    exact ⟨v0, _, f1, A ++ f' ++ B, rfl, by simp, a.lv l k'.l, h4 l k'.r o⟩
theorem set_same {α : Type} : ∀ {l : List α} {k : Nat} {x : α}, l[k]? = some x → l.set k x = l
  | [], _, _, h => by simp at h
  | _ :: _, 0, _, h => by simp at h; subst h; rfl
  | _ :: l, k + 1, x, h => by simp at h; rw [List.set_cons_succ, set_same (l := l) (by simpa using h)]
/-- THE PLACE: a node of an owned tree; what may be put there -/
theorem Ow.node : ∀ {π : List Sg} {t : T} {v : V} {fp : List Addr} {u : T}, Ow K H O t v fp → t.at? π = some u →
    ∃ w A f B, Nav H v π w ∧ fp = A ++ f ++ B ∧ Ow K H O u w f ∧ ∀ {H' : Hp} {O' : List Addr} {u' : T} {f' : List Addr}, Lv H O H' O' → Kp H H' (A ++ B) → Ow K H' O' u' w f' → Ow K H' O' (t.put π u') v (A ++ f' ++ B)
  | [], t, v, fp, u, o, h => by
    cases (show some t = some u from h)
    exact ⟨v, [], fp, [], rfl, by simp, o, fun {H' O' u' f'} l k o' => by simpa [T.put] using o'⟩
  | s :: π, t, v, fp, u, o, h => by
    unfold T.at? at h
    cases hc : t.child s with
    | none => rw [hc] at h; cases h
    | some c =>
      rw [hc] at h
      have h : c.at? π = some u := h
      cases t with
      | val d => cases s <;> cases hc
      | dic ks ds => cases s <;> cases hc
      | lst ts =>
        cases s with
        | fld f => cases hc
        | ix k =>
          have hc' : ts[k]? = some c := hc
          obtain ⟨p, vs, fq, e, ef, hp, r⟩ := o
          subst e ef
          obtain ⟨v1, A, f, B, g1, g2, g3, g4⟩ := r.at hc'
          subst g2
          obtain ⟨w, A', f', B', n1, n2, n3, n4⟩ := Ow.node g3 h
          subst n2
          refine ⟨w, p :: (A ++ A'), f', B' ++ B, ⟨p, vs, v1, rfl, hp, g1, n1⟩, by simp, n3, fun {H' O' u' f''} l k' o' => ?_⟩
          have kp : H' p = H p := k' p (by simp)
          have k1 : Kp H H' (A' ++ B') := fun q hq => k' q (by simp at hq ⊢; rcases hq with z | z <;> simp [z])
          have k2 : Kp H H' (A ++ B) := fun q hq => k' q (by simp at hq ⊢; rcases hq with z | z <;> simp [z])
          have := g4 l k2 (n4 l k1 o')
          rw [set_same g1] at this
          rw [T.put, hc]
          exact ⟨p, vs, _, rfl, by simp, by rw [kp]; exact hp, this⟩
      | obj c0 ns ts =>
        cases s with
        | ix k => cases hc
        | fld f0 =>
          have hc' : (ixOf f0 ns).bind (fun k => ts[k]?) = some c := hc
          cases hi : ixOf f0 ns with
          | none => rw [hi] at hc'; cases hc'
          | some k =>
            rw [hi] at hc'
            have hc' : ts[k]? = some c := hc'
            obtain ⟨p, dx, vs, fq, e, ef, hz, hp, r⟩ := o
            subst e ef
            obtain ⟨v1, A, f, B, g1, g2, g3, g4⟩ := r.at hc'
            subst g2
            obtain ⟨w, A', f', B', n1, n2, n3, n4⟩ := Ow.node g3 h
            subst n2
            obtain ⟨v2, q1, q2⟩ := ixOf_lookup hz hi
            rw [g1] at q1; cases q1
            refine ⟨w, p :: (A ++ A'), f', B' ++ B, ⟨p, _, dx, _, v1, rfl, hp, q2, n1⟩, by simp, n3, fun {H' O' u' f''} l k' o' => ?_⟩
            have kp : H' p = H p := k' p (by simp)
            have k1 : Kp H H' (A' ++ B') := fun q hq => k' q (by simp at hq ⊢; rcases hq with z | z <;> simp [z])
            have k2 : Kp H H' (A ++ B) := fun q hq => k' q (by simp at hq ⊢; rcases hq with z | z <;> simp [z])
            have := g4 l k2 (n4 l k1 o')
            rw [set_same g1] at this
            rw [T.put, hc]
            show Ow K H' O' (T.chput (.obj c0 ns ts) (.fld f0) _) _ _
            unfold T.chput
            dsimp only
            rw [hi]
            exact ⟨p, dx, vs, _, rfl, by simp, hz, by rw [kp]; exact hp, this⟩
end

/-! ### operands -/
inductive Opd where
  | val (d : D) | loc (i : Nat) (π : List Sg)
def unvals : List T → Option (List D)
  | [] => some []
  | .val d :: ts => (unvals ts).map (d :: ·)
  | _ :: _ => none
def shal : T → Option D
  | .val d => some d
  | .lst ts => (unvals ts).map .lst
  | .dic ks ds => some (.dic ks ds)
  | .obj c ns ts => (unvals ts).map (.obj c ns)
def nodeOf (env : Env) (i : Nat) (π : List Sg) : Option T := match env[i]? with
  | some (some t) => t.at? π
  | _ => none
def look (o : Opd) (env : Env) : Option D := match o with
  | .val d => some d
  | .loc i π => (nodeOf env i π).bind shal
/-- as Rv, but the value itself may be owned -/
def RSh (K : PySem.W.Frag) (H : Hp) (O : List Addr) : D → V → Prop
  | .tup ds, v => ∃ p vs, v = .ref p ∧ TupAt K H O p vs ∧ Rvs K H O ds vs
  | .lst ds, v => ∃ p vs, v = .ref p ∧ H p = some (.lst vs) ∧ Rvs K H O ds vs
  | .fro ds, v => ∃ p vs, v = .ref p ∧ SqL K H p vs ∧ Rvs K H O ds vs
  | .dic ks ds, v => ∃ p vs, v = .ref p ∧ DicH H p ks vs ∧ Rvs K H O ds vs
  | .obj c ns ds, v => ∃ p dx vs, v = .ref p ∧ ns.length = vs.length ∧ H p = some (.ins (He.ga K c) dx (ns.zip vs)) ∧ Rvs K H O ds vs
  | d, v => Rv K H O d v
def OpdR (K : PySem.W.Frag) (H : Hp) (O : List Addr) (σ : L2.St) : Opd → V → Prop
  | .val d, v => Rv K H O d v
  | .loc i π, v => ∃ r, σ[i]? = some (some r) ∧ Nav H r π v
section
variable {K : PySem.W.Frag} {H H' H1 H2 : Hp} {O O' Oo W W' W1 W2 fp : List Addr} {σ : L2.St} {env env' : Env}
theorem FroAt.sq {p : Addr} {xs : List V} (h : FroAt K H O p xs) : SqL K H p xs := by
  rcases h with ⟨_, o, h⟩ | h
  · exact .inl (.inr ⟨o, h⟩)
  · exact .inr h
theorem TupAt.sq {p : Addr} {xs : List V} (h : TupAt K H O p xs) : SqT K H p xs := by
  rcases h with ⟨_, h⟩ | h
  · exact .inl h
  · exact .inr h
theorem Rv.sh : ∀ {d : D} {v : V}, Rv K H O d v → RSh K H O d v
  | .non, _, h => h
  | .bl _, _, h => h
  | .int _, _, h => h
  | .str _, _, h => h
  | .ty _, _, h => h
  | .glo _, _, h => h
  | .tup ds, _, ⟨p, vs, e, a, r⟩ => ⟨p, vs, e, a, r⟩
  | .lst ds, _, ⟨p, vs, e, a, r⟩ => ⟨p, vs, e, a.2, r⟩
  | .fro ds, _, ⟨p, vs, e, a, r⟩ => ⟨p, vs, e, a.sq, r⟩
  | .dic ks ds, _, ⟨p, vs, e, n, a, r⟩ => ⟨p, vs, e, a, r⟩
  | .obj c ns ds, _, ⟨p, dx, vs, e, n, z, a, r⟩ => ⟨p, dx, vs, e, z, a, r⟩
  | .exc _ _ _, _, h => h
theorem Ows.vals : ∀ {ts : List T} {vs : List V} {fp : List Addr} {ds : List D}, Ows K H O ts vs fp → unvals ts = some ds → Rvs K H O ds vs ∧ fp = []
  | [], _, _, _, ⟨e, ef⟩, h => by cases h; subst e ef; exact ⟨rfl, rfl⟩
  | .val d :: ts, _, _, ds, ⟨v, vs', f1, f2, e, ef, ⟨e1, a⟩, r⟩, h => by
    unfold unvals at h
    cases z : unvals ts with
    | none => rw [z] at h; cases h
    | some es =>
      rw [z] at h; cases h
      obtain ⟨q1, q2⟩ := Ows.vals r z
      subst e ef e1 q2
      exact ⟨⟨v, vs', rfl, a, q1⟩, rfl⟩
  | .lst _ :: _, _, _, _, _, h => by cases h
  | .dic _ _ :: _, _, _, _, _, h => by cases h
  | .obj _ _ _ :: _, _, _, _, _, h => by cases h
theorem Ow.sh {t : T} {v : V} {d : D} (h : Ow K H O t v fp) (hs : shal t = some d) : RSh K H O d v := by
  cases t with
  | val e => cases hs; exact h.2.sh
  | lst ts =>
    obtain ⟨p, vs, fq, e, ef, hp, r⟩ := h
    have hs : (unvals ts).map D.lst = some d := hs
    cases z : unvals ts with
    | none => rw [z] at hs; cases hs
    | some ds => rw [z] at hs; cases hs; exact ⟨p, vs, e, hp, (r.vals z).1⟩
  | dic ks ds =>
    cases hs
    obtain ⟨p, vs, e, ef, m, a, r⟩ := h
    exact ⟨p, vs, e, a, r⟩
  | obj c ns ts =>
    obtain ⟨p, dx, vs, fq, e, ef, z0, hp, r⟩ := h
    have hs : (unvals ts).map (D.obj c ns) = some d := hs
    cases z : unvals ts with
    | none => rw [z] at hs; cases hs
    | some ds => rw [z] at hs; cases hs; exact ⟨p, dx, vs, e, z0, hp, (r.vals z).1⟩
/-- the node of a place -/
theorem ER.node (E : ER K Oo W σ H env) {i : Nat} {π : List Sg} {u : T} (h : nodeOf env i π = some u) :
    ∃ t r, env[i]? = some (some t) ∧ t.at? π = some u ∧ σ[i]? = some (some r) ∧ ∃ w A f B, Nav H r π w ∧ W = A ++ f ++ B ∧ Ow K H (Oo ++ W) u w f ∧
      ∀ {H' : Hp} {O' : List Addr} {u' : T} {f' : List Addr}, Lv H (Oo ++ W) H' O' → Kp H H' (A ++ B) → Ow K H' O' u' w f' → Ce K H' O' (env.set i (some (t.put π u'))) σ (A ++ f' ++ B) := by
  unfold nodeOf at h
  split at h
  · rename_i t ht
    obtain ⟨r, A, f, B, h1, h2, h3, h4⟩ := E.ce.at ht
    obtain ⟨w, A', f', B', n1, n2, n3, n4⟩ := h3.node h
    refine ⟨t, r, ht, h, h1, w, A ++ A', f', B' ++ B, n1, by rw [h2, n2]; simp, n3, fun {H' O' u' f''} l k o' => ?_⟩
    have k1 : Kp H H' (A' ++ B') := fun q hq => k q (by simp at hq ⊢; rcases hq with z | z <;> simp [z])
    have k2 : Kp H H' (A ++ B) := fun q hq => k q (by simp at hq ⊢; rcases hq with z | z <;> simp [z])
    have := h4 (c := some (t.put π u')) (s := some r) l k2 (fun t' e => by cases e; exact ⟨r, rfl, n4 l k1 o'⟩) (fun z => by cases z)
    rw [set_same h1] at this
    simpa using this
  · cases h
theorem ER.look (E : ER K Oo W σ H env) {o : Opd} {v : V} {d : D} (h : OpdR K H (Oo ++ W) σ o v) (hl : look o env = some d) : RSh K H (Oo ++ W) d v := by
  cases o with
  | val e => cases hl; exact Rv.sh h
  | loc i π =>
    have hl : (nodeOf env i π).bind shal = some d := hl
    cases z : nodeOf env i π with
    | none => rw [z] at hl; cases hl
    | some u =>
      rw [z] at hl
      obtain ⟨t, r, _, _, h1, w, A, f, B, n1, _, n3, _⟩ := E.node z
      obtain ⟨r', h1', n'⟩ := h
      rw [h1] at h1'; cases h1'
      rw [Nav.inj n' n1]
      exact n3.sh hl
theorem OpdR.ex {o : Opd} {v : V} (e : Evl.Ex H H') (h : OpdR K H O σ o v) : OpdR K H' O σ o v := by
  cases o with
  | val d => exact Rv.lv (Lv.ex e) h
  | loc i π => obtain ⟨r, h1, n⟩ := h; exact ⟨r, h1, n.ex e⟩
/-- a name's place is found in any later heap -/
theorem OpdR.name {i : Nat} {v : V} (h : OpdR K H O σ (.loc i []) v) : OpdR K H' O' σ (.loc i []) v := by
  obtain ⟨r, h1, n⟩ := h
  exact ⟨r, h1, n⟩
end
end KM

/-! The mirror's judgements of expressions, tests, argument lists. -/
namespace KM
open PySem PySem.Spec PyProof.Rows L2 Evl KP

/-- an exception's own dict -/
def ExR (K : PySem.W.Frag) (H : Hp) (O : List Addr) (dx : Option Addr) (ns : List Str) (ds : List D) : Prop := match dx with
  | none => ns = [] ∧ ds = []
  | some a => ∃ vs, ns.length = vs.length ∧ H a = some (.xd (ns.zip vs)) ∧ Rvs K H O ds vs
/-- what an exception wants -/
def OkX (K : PySem.W.Frag) (Wx : WX) (Oo W : List Addr) (σ : L2.St) (H : Hp) : Str → List Str → List D → Env → Prop := fun c ns ds env' =>
  ∀ dx H' W', Lv H W H' W' → ER K Oo W' σ H' env' → ExR K H' (Oo ++ W') dx ns ds → Wx (.ref (He.ga K c)) dx σ H'
theorem OkX.lv {K : PySem.W.Frag} {Wx : WX} {Oo W W' : List Addr} {σ : L2.St} {H H' : Hp} {c : Str} {ns : List Str} {ds : List D} {env : Env} (l : Lv H W H' W') (h : OkX K Wx Oo W σ H c ns ds env) : OkX K Wx Oo W' σ H' c ns ds env :=
  fun dx H2 W2 l2 E x => h dx H2 W2 (l.trans l2) E x

/-! ### the judgements -/
/-- pure: a value of its own -/
def IQ (K : PySem.W.Frag) (te : TE) (m : Env → Option D) : Prop := ∀ Oo W σ H env (Q : VK), ER K Oo W σ H env → (∃ d, m env = some d ∧ ∀ v H', Evl.Ex H H' → Rv K H' (Oo ++ W) d v → Q v H') → te σ H Q
/-- pure: an operand, that may be owned -/
def IP (K : PySem.W.Frag) (te : TE) (m : Env → Option D) : Prop := ∀ Oo W σ H env (Q : VK), ER K Oo W σ H env → (∃ d, m env = some d ∧ ∀ v H', Evl.Ex H H' → RSh K H' (Oo ++ W) d v → Q v H') → te σ H Q
/-- pure: a place, or data -/
def IL (K : PySem.W.Frag) (te : TE) (m : Env → Option Opd) : Prop := ∀ Oo W σ H env (Q : VK), ER K Oo W σ H env → (∃ x, m env = some x ∧ ∀ v H', Evl.Ex H H' → OpdR K H' (Oo ++ W) σ x v → Q v H') → te σ H Q
/-- an operand that stays while others are reckoned -/
inductive Ob where
  | val (d : D) | nm (i : Nat)
def Ob.opd : Ob → Opd
  | .val d => .val d
  | .nm i => .loc i []
def lookB (o : Ob) (env : Env) : Option D := look o.opd env
abbrev ObR (K : PySem.W.Frag) (H : Hp) (O : List Addr) (σ : L2.St) (o : Ob) (v : V) : Prop := OpdR K H O σ o.opd v
def IB (K : PySem.W.Frag) (Wx : WX) (te : TE) (m : M Ob) : Prop := ∀ Oo W σ H env (Q : VK), ER K Oo W σ H env →
  (m env).To (fun o env' => ∀ v H' W', Lv H W H' W' → ER K Oo W' σ H' env' → ObR K H' (Oo ++ W') σ o v → Q v H') (OkX K Wx Oo W σ H) → te σ H Q
def IV (K : PySem.W.Frag) (Wx : WX) (te : TE) (m : M D) : Prop := ∀ Oo W σ H env (Q : VK), ER K Oo W σ H env →
  (m env).To (fun d env' => ∀ v H' W', Lv H W H' W' → ER K Oo W' σ H' env' → Rv K H' (Oo ++ W') d v → Q v H') (OkX K Wx Oo W σ H) → te σ H Q
/-- a new tree -/
def IO (K : PySem.W.Frag) (Wx : WX) (te : TE) (m : M T) : Prop := ∀ Oo W σ H env (Q : VK), ER K Oo W σ H env →
  (m env).To (fun t env' => ∀ v H' W' fp, Lv H W H' (W' ++ fp) → ER K (Oo ++ fp) W' σ H' env' → fp.Nodup → (∀ p ∈ fp, p ∉ Oo) → Ow K H' (Oo ++ fp ++ W') t v fp → Q v H') (OkX K Wx Oo W σ H) → te σ H Q
def IT (K : PySem.W.Frag) (Wx : WX) (tt : TT) (m : M Bool) : Prop := ∀ Oo W σ H env (Q : Bool → Hp → Prop), ER K Oo W σ H env →
  (m env).To (fun b env' => ∀ H' W', Lv H W H' W' → ER K Oo W' σ H' env' → Q b H') (OkX K Wx Oo W σ H) → tt σ H Q
def ObsR (K : PySem.W.Frag) (H : Hp) (O : List Addr) (σ : L2.St) : List Ob → List V → Prop
  | [], vs => vs = []
  | o :: os, vs => ∃ v vs', vs = v :: vs' ∧ ObR K H O σ o v ∧ ObsR K H O σ os vs'
def IA (K : PySem.W.Frag) (Wx : WX) (tas : TA) (m : M (List Ob)) : Prop := ∀ Oo W σ H env (Q : List V → Hp → Prop), ER K Oo W σ H env →
  (m env).To (fun os env' => ∀ vs H' W', Lv H W H' W' → ER K Oo W' σ H' env' → ObsR K H' (Oo ++ W') σ os vs → Q vs H') (OkX K Wx Oo W σ H) → tas σ H Q
def RShs (K : PySem.W.Frag) (H : Hp) (O : List Addr) : List D → List V → Prop
  | [], vs => vs = []
  | d :: ds, vs => ∃ v vs', vs = v :: vs' ∧ RSh K H O d v ∧ RShs K H O ds vs'
/-- pure argument list -/
def IAP (K : PySem.W.Frag) (tas : TA) (m : Env → Option (List D)) : Prop := ∀ Oo W σ H env (Q : List V → Hp → Prop), ER K Oo W σ H env →
  (∃ ds, m env = some ds ∧ ∀ vs H', Evl.Ex H H' → RShs K H' (Oo ++ W) ds vs → Q vs H') → tas σ H Q
section
variable {K : PySem.W.Frag} {Wx : WX} {H H' H1 H2 : Hp} {O O' Oo W W' W1 W2 fp : List Addr} {σ : L2.St} {env env' : Env} {te ta tb tc : TE} {tt tu : TT}
theorem RSh.ex (e : Evl.Ex H H') : ∀ {d : D} {v : V}, RSh K H O d v → RSh K H' O d v
  | .non, _, h => h
  | .bl _, _, h => h
  | .int _, _, h => h
  | .str _, _, h => h
  | .ty _, _, h => h
  | .glo _, _, h => h
  | .tup ds, _, ⟨p, vs, q, a, r⟩ => ⟨p, vs, q, a.lv (Lv.ex e), r.lv (Lv.ex e)⟩
  | .lst ds, _, ⟨p, vs, q, a, r⟩ => ⟨p, vs, q, e _ _ a, r.lv (Lv.ex e)⟩
  | .fro ds, _, ⟨p, vs, q, a, r⟩ => ⟨p, vs, q, Evl.ex_l e a, r.lv (Lv.ex e)⟩
  | .dic ks ds, _, ⟨p, vs, q, a, r⟩ => by
    refine ⟨p, vs, q, ?_, r.lv (Lv.ex e)⟩
    rcases a with ⟨keys, h1, h2, h3⟩ | ⟨keys, h1, h2, h3⟩
    · exact .inl ⟨keys, h1, h2, h3.imp (e _ _) fun ⟨o, z⟩ => ⟨o, e _ _ z⟩⟩
    · exact .inr ⟨keys, h1, h2, h3.imp (e _ _) fun ⟨o, z⟩ => ⟨o, e _ _ z⟩⟩
  | .obj c ns ds, _, ⟨p, dx, vs, q, z, a, r⟩ => ⟨p, dx, vs, q, z, e _ _ a, r.lv (Lv.ex e)⟩
  | .exc _ _ _, _, h => Rv.lv (Lv.ex e) h
theorem RShs.ex (e : Evl.Ex H H') : ∀ {ds : List D} {vs : List V}, RShs K H O ds vs → RShs K H' O ds vs
  | [], _, h => h
  | d :: ds, _, ⟨v, vs', q, a, r⟩ => ⟨v, vs', q, a.ex e, RShs.ex e r⟩
theorem ObR.lv {o : Ob} {v : V} (l : Lv H O H' O') (h : ObR K H O σ o v) : ObR K H' O' σ o v := by
  cases o with
  | val d => exact Rv.lv l h
  | nm i => exact OpdR.name h
theorem ObsR.lv (l : Lv H O H' O') : ∀ {os : List Ob} {vs : List V}, ObsR K H O σ os vs → ObsR K H' O' σ os vs
  | [], _, h => h
  | o :: os, _, ⟨v, vs', e, a, r⟩ => ⟨v, vs', e, ObR.lv l a, ObsR.lv l r⟩
/-- from the mirror's answer -/
theorem IV.go (h : IV K Wx te m) (E : ER K Oo W σ H env) {Q : VK} (q : (m env).To (fun d env' => ∀ v H' W', Lv H W H' W' → ER K Oo W' σ H' env' → Rv K H' (Oo ++ W') d v → Q v H') (OkX K Wx Oo W σ H)) : te σ H Q := h Oo W σ H env Q E q

/-! ### from one kind to another -/
theorem iq_ip {m} (h : IQ K te m) : IP K te m := fun Oo W σ H env Q E ⟨d, e, q⟩ => h Oo W σ H env Q E ⟨d, e, fun v H' x r => q v H' x r.sh⟩
def vM (m : Env → Option D) : M D := fun env => M.opt (m env) env
theorem iq_iv {m} (h : IQ K te m) : IV K Wx te (vM m) := fun Oo W σ H env Q E q => by
  obtain ⟨d, e, q⟩ := M.opt_to q
  exact h Oo W σ H env Q E ⟨d, e, fun v H' x r => q v H' W (Lv.ex x) (E.ex x) r⟩
def bV (m : M D) : M Ob := m.bnd fun d => M.ret (.val d)
theorem iv_ib {m} (h : IV K Wx te m) : IB K Wx te (bV m) := fun Oo W σ H env Q E q =>
  h Oo W σ H env Q E ((M.bnd_to q).mono (fun d env' q v H' W' l E' r => q v H' W' l E' r) fun _ _ _ _ x => x)
def oV (m : M D) : M T := m.bnd fun d => M.ret (.val d)
theorem iv_io {m} (h : IV K Wx te m) : IO K Wx te (oV m) := fun Oo W σ H env Q E q =>
  h Oo W σ H env Q E ((M.bnd_to q).mono (fun d env' q v H' W' l E' r => q v H' W' [] (by simpa using l) (by simpa using E') List.nodup_nil (by simp) ⟨rfl, by simpa using r⟩) fun _ _ _ _ x => x)
/-- frozen -/
def vO (m : M T) : M D := m.bnd fun t => M.ret (toD t)
theorem io_iv {m} (h : IO K Wx te m) : IV K Wx te (vO m) := fun Oo W σ H env Q E q =>
  h Oo W σ H env Q E ((M.bnd_to q).mono (fun t env' q v H' W' fp l E' nd nf o => by
    have hs : ∀ p ∈ Oo ++ W', p ∈ Oo ++ fp ++ W' := fun p hp => by simp at hp ⊢; rcases hp with z | z <;> simp [z]
    have hn : ∀ p ∈ fp, p ∉ Oo ++ W' := fun p hp z => by
      rcases List.mem_append.mp z with z | z
      · exact nf p hp z
      · exact E'.dj p z (List.mem_append_right _ hp)
    refine q v H' W' ⟨l.kp, fun p hp => l.out p (List.mem_append_left _ hp)⟩ ⟨?_, E'.nd, fun p hp z => E'.dj p hp (List.mem_append_left _ z), fun p hp => E'.dom p (List.mem_append_left _ hp)⟩ (o.toD hs hn)
    exact E'.ce.lv (Lv.sub hs) fun p _ => rfl) fun _ _ _ _ x => x)
/-- names -/
def nmM (i : Nat) : M Ob := fun env => match env[i]? with
  | some (some _) => .ok (.nm i) env
  | _ => .stuck
theorem nm_ib (i : Nat) : IB K Wx (tVar i) (nmM i) := fun Oo W σ H env Q E q => by
  unfold nmM at q
  split at q
  · rename_i t ht
    obtain ⟨v, A, f, B, h1, _⟩ := E.ce.at ht
    exact ⟨v, h1, q v H W (Lv.refl _ _) E ⟨v, h1, rfl⟩⟩
  · exact q.elim
def pNm (i : Nat) : Env → Option Opd := fun env => match env[i]? with
  | some (some _) => some (.loc i [])
  | _ => none
theorem nm_il (i : Nat) : IL K (tVar i) (pNm i) := fun Oo W σ H env Q E ⟨x, e, q⟩ => by
  unfold pNm at e
  split at e
  · rename_i t ht
    cases e
    obtain ⟨v, A, f, B, h1, _⟩ := E.ce.at ht
    exact ⟨v, h1, q v H (Evl.Ex.refl H) ⟨v, h1, rfl⟩⟩
  · cases e
def pVal (i : Nat) : Env → Option D := fun env => match env[i]? with
  | some (some (.val d)) => some d
  | _ => none
theorem nm_iq (i : Nat) : IQ K (tVar i) (pVal i) := fun Oo W σ H env Q E ⟨d, e, q⟩ => by
  unfold pVal at e
  split at e
  · rename_i d' ht
    cases e
    obtain ⟨v, A, f, B, h1, _, h3, _⟩ := E.ce.at ht
    exact ⟨v, h1, q v H (Evl.Ex.refl H) h3.2⟩
  · cases e
/-- what lies at a place, to be read -/
def pLk (m : Env → Option Opd) : Env → Option D := fun env => (m env).bind fun x => look x env
theorem il_ip {m} (h : IL K te m) : IP K te (pLk m) := fun Oo W σ H env Q E ⟨d, e, q⟩ => by
  unfold pLk at e
  cases z : m env with
  | none => rw [z] at e; cases e
  | some x =>
    rw [z] at e
    exact h Oo W σ H env Q E ⟨x, z, fun v H' ex r => q v H' ex ((E.ex ex).look r e)⟩
def dataAt (x : Opd) (env : Env) : Option D := match x with
  | .val d => some d
  | .loc i π => match nodeOf env i π with
    | some (.val d) => some d
    | _ => none
theorem ER.dataAt (E : ER K Oo W σ H env) {x : Opd} {d : D} {v : V} (e : dataAt x env = some d) (r : OpdR K H (Oo ++ W) σ x v) : Rv K H (Oo ++ W) d v := by
  cases x with
  | val d0 => cases e; exact r
  | loc i π =>
    have e : (match nodeOf env i π with | some (.val d) => some d | _ => none) = some d := e
    split at e
    · rename_i d' hd
      cases e
      obtain ⟨t, r0, _, _, h1, w, A, f, B, n1, _, n3, _⟩ := E.node hd
      obtain ⟨r', h1', n'⟩ := r
      rw [h1] at h1'; cases h1'
      rw [Nav.inj n' n1]
      exact n3.2
    · cases e
/-- .. where it is data already -/
def pAt (m : Env → Option Opd) : Env → Option D := fun env => (m env).bind fun x => dataAt x env
theorem il_iq {m} (h : IL K te m) : IQ K te (pAt m) := fun Oo W σ H env Q E ⟨d, e, q⟩ => by
  unfold pAt at e
  cases z : m env with
  | none => rw [z] at e; cases e
  | some x =>
    rw [z] at e
    exact h Oo W σ H env Q E ⟨x, z, fun v H' ex r => q v H' ex ((E.ex ex).dataAt e r)⟩
/-- what lies at a place is frozen -/
def frz (x : Opd) : M D := fun env => match x with
  | .val d => .ok d env
  | .loc i π => match env[i]? with
    | some (some t) => match t.at? π with
      | some u => .ok (toD u) (env.set i (some (t.put π (.val (toD u)))))
      | none => .stuck
    | _ => .stuck
def vL (m : Env → Option Opd) : M D := fun env => match m env with
  | none => .stuck
  | some x => frz x env
theorem ER.frz (E : ER K Oo W σ H env) {x : Opd} {v : V} (r : OpdR K H (Oo ++ W) σ x v) {Q : D → Env → Prop} {X} (q : (frz x env).To Q X) :
    ∃ d env' W', Q d env' ∧ Lv H W H W' ∧ ER K Oo W' σ H env' ∧ Rv K H (Oo ++ W') d v := by
  cases x with
  | val d => exact ⟨d, env, W, q, Lv.refl _ _, E, r⟩
  | loc i π =>
    unfold KM.frz at q
    dsimp only at q
    split at q
    · rename_i t ht
      split at q
      · rename_i u hu
        have hn : nodeOf env i π = some u := by unfold nodeOf; rw [ht]; exact hu
        obtain ⟨t', r0, ht', _, h1, w, A, f, B, n1, n2, n3, n4⟩ := E.node hn
        rw [ht] at ht'; cases ht'
        obtain ⟨r', h1', n'⟩ := r
        rw [h1] at h1'; cases h1'
        cases Nav.inj n' n1
        have nd := E.nd
        rw [n2] at nd
        have sb : ∀ p ∈ Oo ++ (A ++ [] ++ B), p ∈ Oo ++ W := fun p hp => by rw [n2]; simp at hp ⊢; rcases hp with z | z | z <;> simp [z]
        have nf : ∀ p ∈ f, p ∉ Oo ++ (A ++ [] ++ B) := fun p hp z => by
          rcases List.mem_append.mp z with z | z
          · exact E.dj p (by rw [n2]; simp [hp]) z
          · have nd2 := List.nodup_append.mp nd
            have nd1 := List.nodup_append.mp nd2.1
            simp at z
            rcases z with z | z
            · exact nd1.2.2 p z p hp rfl
            · exact nd2.2.2 p (List.mem_append_right _ hp) p z rfl
        have rv := n3.toD sb nf
        have sw : ∀ p ∈ A ++ [] ++ B, p ∈ W := fun p hp => by rw [n2]; simp at hp ⊢; rcases hp with z | z <;> simp [z]
        refine ⟨_, _, A ++ [] ++ B, q, Lv.less sw, ⟨?_, ?_, fun p hp => E.dj p (sw p hp), E.dom⟩, rv⟩
        · exact n4 (Lv.sub sb) (fun _ _ => rfl) ⟨rfl, rv⟩
        · refine nd.sublist ?_
          simp
      · exact q.elim
    · exact q.elim
theorem il_iv {m} (h : IL K te m) : IV K Wx te (vL m) := fun Oo W σ H env Q E q => by
  unfold vL at q
  cases z : m env with
  | none => rw [z] at q; exact q.elim
  | some x =>
    rw [z] at q
    refine h Oo W σ H env Q E ⟨x, z, fun v H' ex r => ?_⟩
    obtain ⟨d, env', W', g, l, E', rv⟩ := (E.ex ex).frz r q
    exact g v H' W' ((Lv.ex ex).trans l) E' rv
/-- a name's tree is moved out -/
def mvM (i : Nat) : M T := fun env => match env[i]? with
  | some (some t) => .ok t (env.set i none)
  | _ => .stuck
theorem mv_io (i : Nat) : IO K Wx (tVar i) (mvM i) := fun Oo W σ H env Q E q => by
  unfold mvM at q
  split at q
  · rename_i t ht
    obtain ⟨v, A, f, B, h1, h2, h3, h4⟩ := E.ce.at ht
    have nd := E.nd
    rw [h2] at nd
    have nd2 := List.nodup_append.mp nd
    have nd1 := List.nodup_append.mp nd2.1
    have same : ∀ p, p ∈ Oo ++ f ++ (A ++ [] ++ B) ↔ p ∈ Oo ++ W := fun p => by rw [h2]; simp; constructor <;> intro h <;> (rcases h with z | z | z | z <;> simp [z])
    have l : Lv H (Oo ++ W) H (Oo ++ f ++ (A ++ [] ++ B)) := Lv.sub fun p hp => (same p).mp hp
    have c := h4 (c := none) (s := some v) (f' := []) l (fun _ _ => rfl) (fun _ z => by cases z) fun _ => rfl
    rw [set_same h1] at c
    refine ⟨v, h1, q v H (A ++ [] ++ B) f ⟨fun _ _ _ h => h, fun p hp => .inl ?_⟩ ⟨c, ?_, fun p hp z => ?_, fun p hp => ?_⟩ nd1.2.1 (fun p hp => E.dj p (by rw [h2]; simp [hp])) (h3.lv l fun _ _ => rfl)⟩
    · rw [h2]; simp at hp ⊢; rcases hp with z | z | z <;> simp [z]
    · exact nd.sublist (by simp)
    · rcases List.mem_append.mp z with z | z
      · exact E.dj p (by rw [h2]; simp at hp ⊢; rcases hp with z | z <;> simp [z]) z
      · simp at hp
        rcases hp with y | y
        · exact nd1.2.2 p y p z rfl
        · exact nd2.2.2 p (List.mem_append_right _ z) p y rfl
    · rcases List.mem_append.mp hp with z | z
      · exact E.dom p z
      · exact h3.dom p z
  · exact q.elim
/-- constants -/
def pC (d : D) : Env → Option D := fun _ => some d
theorem c_iq {d : D} {v : V} (h : ∀ H O, Rv K H O d v) : IQ K (tC v) (pC d) := fun Oo W σ H env Q E ⟨d', e, q⟩ => by
  cases e
  exact q v H (Evl.Ex.refl H) (h _ _)
theorem c_int {i : Int} : IQ K (tC (.int i)) (pC (.int i)) := c_iq fun _ _ => rfl
theorem c_bl {b : Bool} : IQ K (tC (.bl b)) (pC (.bl b)) := c_iq fun _ _ => rfl
theorem c_str {x : Str} : IQ K (tC (.str x)) (pC (.str x)) := c_iq fun _ _ => rfl
theorem c_non : IQ K (tC .non) (pC .non) := c_iq fun _ _ => rfl
theorem c_glo {x : Str} : IQ K (tC (.ref (He.ga K x))) (pC (.glo x)) := c_iq fun _ _ => rfl
theorem c_ty {n : String} : IQ K (tC (.ty n)) (pC (.ty n)) := c_iq fun _ _ => rfl

/-! ### operators -/
/-- a rule's reading does op; what it gives is new -/
def OpT (K : PySem.W.Frag) (r : R2) (op : D → D → Option T) : Prop := ∀ H O x y d e t (Q : VK), (∀ p ∈ O, Mut (H p)) → RSh K H O d x → RSh K H O e y → op d e = some t →
  (∀ v H' fp, Evl.Ex H H' → (∀ p ∈ fp, H p = none) → fp.Nodup → Ow K H' (O ++ fp) t v fp → Q v H') → r x y H Q
def OpU (K : PySem.W.Frag) (r : V → Hp → VK → Prop) (op : D → Option T) : Prop := ∀ H O x d t (Q : VK), (∀ p ∈ O, Mut (H p)) → RSh K H O d x → op d = some t →
  (∀ v H' fp, Evl.Ex H H' → (∀ p ∈ fp, H p = none) → fp.Nodup → Ow K H' (O ++ fp) t v fp → Q v H') → r x H Q
def OpA (K : PySem.W.Frag) (r : List V → Hp → VK → Prop) (op : List D → Option T) : Prop := ∀ H O xs ds t (Q : VK), (∀ p ∈ O, Mut (H p)) → RShs K H O ds xs → op ds = some t →
  (∀ v H' fp, Evl.Ex H H' → (∀ p ∈ fp, H p = none) → fp.Nodup → Ow K H' (O ++ fp) t v fp → Q v H') → r xs H Q
/-- what a new tree at fp does to the state -/
theorem ER.add (E : ER K Oo W σ H env) (ex : Evl.Ex H H') (hf : ∀ p ∈ fp, H p = none) (hd : ∀ p ∈ fp, Mut (H' p)) : ER K (Oo ++ fp) W σ H' env := by
  have l : Lv H (Oo ++ W) H' (Oo ++ fp ++ W) := ⟨fun p o _ h => ex p o h, fun p hp => by
    simp at hp
    rcases hp with z | z | z
    · exact .inl (by simp [z])
    · exact .inr (hf p z)
    · exact .inl (by simp [z])⟩
  refine ⟨E.ce.lv l (Kp.ex ex E.ce.dom), E.nd, fun p hp z => ?_, fun p hp => ?_⟩
  · rcases List.mem_append.mp z with z | z
    · exact E.dj p hp z
    · obtain ⟨o, h⟩ := Mut.ex (E.ce.dom p hp)
      rw [hf p z] at h; cases h
  · rcases List.mem_append.mp hp with z | z
    · exact (E.ex ex).dom p z
    · exact hd p z
theorem new_io (E : ER K Oo W σ H env) {t : T} {v : V} (ex : Evl.Ex H H') (hf : ∀ p ∈ fp, H p = none) (o : Ow K H' (Oo ++ W ++ fp) t v fp) :
    Lv H W H' (W ++ fp) ∧ ER K (Oo ++ fp) W σ H' env ∧ (∀ p ∈ fp, p ∉ Oo) ∧ Ow K H' (Oo ++ fp ++ W) t v fp := by
  refine ⟨⟨fun p o' _ h => ex p o' h, fun p hp => ?_⟩, E.add ex hf o.dom, fun p hp z => ?_, o.lv (Lv.sub fun p hp => ?_) fun _ _ => rfl⟩
  · rcases List.mem_append.mp hp with z | z
    · exact .inl z
    · exact .inr (hf p z)
  · obtain ⟨o', h⟩ := Mut.ex (E.dom p z)
    rw [hf p hp] at h; cases h
  · simp at hp ⊢
    rcases hp with z | z | z <;> simp [z]
def oOp (op : D → D → Option T) (a b : M Ob) : M T := a.bnd fun x => b.bnd fun y => fun env => M.opt ((lookB x env).bind fun d => (lookB y env).bind fun e => op d e) env
theorem io_op {r : R2} {op} (s : OpT K r op) {ma mb : M Ob} (a : IB K Wx ta ma) (b : IB K Wx tb mb) : IO K Wx (tOp r ta tb) (oOp op ma mb) := fun Oo W σ H env Q E q => by
  refine a Oo W σ H env _ E ((M.bnd_to q).mono (fun x env1 q v H1 W1 l1 E1 r1 => ?_) fun _ _ _ _ x => x)
  refine b Oo W1 σ H1 env1 _ E1 ((M.bnd_to q).mono (fun y env2 q u H2 W2 l2 E2 r2 => ?_) fun _ _ _ _ x => x.lv l1)
  obtain ⟨t, e, q⟩ := M.opt_to q
  cases e1 : lookB x env2 with
  | none => rw [e1] at e; cases e
  | some d =>
    rw [e1] at e
    cases e2 : lookB y env2 with
    | none => rw [e2] at e; cases e
    | some d' =>
      rw [e2] at e
      refine s H2 (Oo ++ W2) v u d d' t Q E2.domA (E2.look (ObR.lv (l2.oo Oo) r1) e1) (E2.look r2 e2) e fun w H3 fp ex hf nd o => ?_
      obtain ⟨k1, k2, k3, k4⟩ := new_io E2 ex hf o
      exact q w H3 W2 fp ((l1.trans l2).trans k1) k2 nd k3 k4
def pOp (op : D → D → Option T) (a b : Env → Option D) : Env → Option D := fun env => (a env).bind fun d => (b env).bind fun e => (op d e).map toD
theorem iq_op {r : R2} {op} (s : OpT K r op) {ma mb} (a : IP K ta ma) (b : IP K tb mb) : IQ K (tOp r ta tb) (pOp op ma mb) := fun Oo W σ H env Q E ⟨z, e, q⟩ => by
  unfold pOp at e
  cases e1 : ma env with
  | none => rw [e1] at e; cases e
  | some d =>
    rw [e1] at e
    cases e2 : mb env with
    | none => rw [e2] at e; cases e
    | some d' =>
      rw [e2] at e
      have e : (op d d').map toD = some z := e
      cases e3 : op d d' with
      | none => rw [e3] at e; cases e
      | some t =>
        rw [e3] at e; cases e
        refine a Oo W σ H env _ E ⟨d, e1, fun v H1 x1 r1 => b Oo W σ H1 env _ (E.ex x1) ⟨d', e2, fun u H2 x2 r2 => ?_⟩⟩
        refine s H2 (Oo ++ W) v u d d' t Q ((E.ex x1).ex x2).domA (r1.ex x2) r2 e3 fun w H3 fp ex hf nd o => q w H3 ((x1.trans x2).trans ex) ?_
        refine o.toD (fun p hp => List.mem_append_left _ hp) fun p hp y => ?_
        obtain ⟨o', h⟩ := Mut.ex (((E.ex x1).ex x2).domA p y)
        rw [hf p hp] at h; cases h
def oU (op : D → Option T) (a : M Ob) : M T := a.bnd fun x => fun env => M.opt ((lookB x env).bind op) env
theorem io_un {r : V → Hp → VK → Prop} {op} (s : OpU K r op) {ma : M Ob} (a : IB K Wx ta ma) : IO K Wx (tUn r ta) (oU op ma) := fun Oo W σ H env Q E q => by
  refine a Oo W σ H env _ E ((M.bnd_to q).mono (fun x env1 q v H1 W1 l1 E1 r1 => ?_) fun _ _ _ _ x => x)
  obtain ⟨t, e, q⟩ := M.opt_to q
  cases e1 : lookB x env1 with
  | none => rw [e1] at e; cases e
  | some d =>
    rw [e1] at e
    refine s H1 (Oo ++ W1) v d t Q E1.domA (E1.look r1 e1) e fun w H3 fp ex hf nd o => ?_
    obtain ⟨k1, k2, k3, k4⟩ := new_io E1 ex hf o
    exact q w H3 W1 fp (l1.trans k1) k2 nd k3 k4
def pU (op : D → Option T) (a : Env → Option D) : Env → Option D := fun env => (a env).bind fun d => (op d).map toD
theorem iq_un {r : V → Hp → VK → Prop} {op} (s : OpU K r op) {ma} (a : IP K ta ma) : IQ K (tUn r ta) (pU op ma) := fun Oo W σ H env Q E ⟨z, e, q⟩ => by
  unfold pU at e
  cases e1 : ma env with
  | none => rw [e1] at e; cases e
  | some d =>
    rw [e1] at e
    have e : (op d).map toD = some z := e
    cases e3 : op d with
    | none => rw [e3] at e; cases e
    | some t =>
      rw [e3] at e; cases e
      refine a Oo W σ H env _ E ⟨d, e1, fun v H1 x1 r1 => ?_⟩
      refine s H1 (Oo ++ W) v d t Q (E.ex x1).domA r1 e3 fun w H3 fp ex hf nd o => q w H3 (x1.trans ex) ?_
      refine o.toD (fun p hp => List.mem_append_left _ hp) fun p hp y => ?_
      obtain ⟨o', h⟩ := Mut.ex ((E.ex x1).domA p y)
      rw [hf p hp] at h; cases h
/-! ### argument lists -/
def aNil : M (List Ob) := M.ret []
def aCons (a : M Ob) (b : M (List Ob)) : M (List Ob) := a.bnd fun x => b.bnd fun xs => M.ret (x :: xs)
theorem ia_nil : IA K Wx tNil aNil := fun Oo W σ H env Q E q => q [] H W (Lv.refl _ _) E rfl
theorem ia_cons {tas : TA} {ma mb} (a : IB K Wx ta ma) (b : IA K Wx tas mb) : IA K Wx (tCons ta tas) (aCons ma mb) := fun Oo W σ H env Q E q => by
  refine a Oo W σ H env _ E ((M.bnd_to q).mono (fun x env1 q v H1 W1 l1 E1 r1 => ?_) fun _ _ _ _ x => x)
  refine b Oo W1 σ H1 env1 _ E1 ((M.bnd_to q).mono (fun xs env2 q vs H2 W2 l2 E2 r2 => ?_) fun _ _ _ _ x => x.lv l1)
  exact q (v :: vs) H2 W2 (l1.trans l2) E2 ⟨v, vs, rfl, ObR.lv (l2.oo Oo) r1, r2⟩
def paNil : Env → Option (List D) := fun _ => some []
def paCons (a : Env → Option D) (b : Env → Option (List D)) : Env → Option (List D) := fun env => (a env).bind fun d => (b env).map (d :: ·)
theorem iap_nil : IAP K tNil paNil := fun Oo W σ H env Q E ⟨ds, e, q⟩ => by
  cases e
  exact q [] H (Evl.Ex.refl H) rfl
theorem iap_cons {tas : TA} {ma mb} (a : IP K ta ma) (b : IAP K tas mb) : IAP K (tCons ta tas) (paCons ma mb) := fun Oo W σ H env Q E ⟨z, e, q⟩ => by
  unfold paCons at e
  cases e1 : ma env with
  | none => rw [e1] at e; cases e
  | some d =>
    rw [e1] at e
    have e : (mb env).map (d :: ·) = some z := e
    cases e2 : mb env with
    | none => rw [e2] at e; cases e
    | some ds =>
      rw [e2] at e; cases e
      exact a Oo W σ H env _ E ⟨d, e1, fun v H1 x1 r1 => b Oo W σ H1 env _ (E.ex x1) ⟨ds, e2, fun vs H2 x2 r2 => q (v :: vs) H2 (x1.trans x2) ⟨v, vs, rfl, r1.ex x2, r2⟩⟩⟩
def lookBs : List Ob → Env → Option (List D)
  | [], _ => some []
  | o :: os, env => (lookB o env).bind fun d => (lookBs os env).map (d :: ·)
theorem ER.looks (E : ER K Oo W σ H env) : ∀ {os : List Ob} {vs : List V} {ds : List D}, ObsR K H (Oo ++ W) σ os vs → lookBs os env = some ds → RShs K H (Oo ++ W) ds vs
  | [], _, _, h, e => by cases e; exact h
  | o :: os, _, z, ⟨v, vs', e, a, r⟩, h => by
    unfold lookBs at h
    cases e1 : lookB o env with
    | none => rw [e1] at h; cases h
    | some d =>
      rw [e1] at h
      have h : (lookBs os env).map (d :: ·) = some z := h
      cases e2 : lookBs os env with
      | none => rw [e2] at h; cases h
      | some ds =>
        rw [e2] at h; cases h
        exact ⟨v, vs', e, E.look a e1, ER.looks E r e2⟩
/-- a built-in's call -/
def oA (op : List D → Option T) (a : M (List Ob)) : M T := a.bnd fun xs => fun env => M.opt ((lookBs xs env).bind op) env
theorem io_cb {r : List V → Hp → VK → Prop} {op} (s : OpA K r op) {tas : TA} {ma} (a : IA K Wx tas ma) : IO K Wx (tCB r tas) (oA op ma) := fun Oo W σ H env Q E q => by
  refine a Oo W σ H env _ E ((M.bnd_to q).mono (fun xs env1 q vs H1 W1 l1 E1 r1 => ?_) fun _ _ _ _ x => x)
  obtain ⟨t, e, q⟩ := M.opt_to q
  cases e1 : lookBs xs env1 with
  | none => rw [e1] at e; cases e
  | some ds =>
    rw [e1] at e
    refine s H1 (Oo ++ W1) vs ds t Q E1.domA (E1.looks r1 e1) e fun w H3 fp ex hf nd o => ?_
    obtain ⟨k1, k2, k3, k4⟩ := new_io E1 ex hf o
    exact q w H3 W1 fp (l1.trans k1) k2 nd k3 k4
def pA (op : List D → Option T) (a : Env → Option (List D)) : Env → Option D := fun env => (a env).bind fun ds => (op ds).map toD
theorem iq_cb {r : List V → Hp → VK → Prop} {op} (s : OpA K r op) {tas : TA} {ma} (a : IAP K tas ma) : IQ K (tCB r tas) (pA op ma) := fun Oo W σ H env Q E ⟨z, e, q⟩ => by
  unfold pA at e
  cases e1 : ma env with
  | none => rw [e1] at e; cases e
  | some ds =>
    rw [e1] at e
    have e : (op ds).map toD = some z := e
    cases e3 : op ds with
    | none => rw [e3] at e; cases e
    | some t =>
      rw [e3] at e; cases e
      refine a Oo W σ H env _ E ⟨ds, e1, fun vs H1 x1 r1 => ?_⟩
      refine s H1 (Oo ++ W) vs ds t Q (E.ex x1).domA r1 e3 fun w H3 fp ex hf nd o => q w H3 (x1.trans ex) ?_
      refine o.toD (fun p hp => List.mem_append_left _ hp) fun p hp y => ?_
      obtain ⟨o', h⟩ := Mut.ex ((E.ex x1).domA p y)
      rw [hf p hp] at h; cases h
end
end KM

/-! Displays, tests, logic, slices, attributes, places. -/
namespace KM
open PySem PySem.Spec PyProof.Rows L2 Evl KP
section
variable {K : PySem.W.Frag} {Wx : WX} {H H' H1 H2 : Hp} {O O' Oo W W' W1 W2 fp : List Addr} {σ : L2.St} {env env' : Env} {te ta tb tc : TE} {tt tu : TT} {tas : TA}
/-! ### displays -/
/-- arguments as data -/
def IAV (K : PySem.W.Frag) (Wx : WX) (tas : TA) (m : M (List D)) : Prop := ∀ Oo W σ H env (Q : List V → Hp → Prop), ER K Oo W σ H env →
  (m env).To (fun ds env' => ∀ vs H' W', Lv H W H' W' → ER K Oo W' σ H' env' → Rvs K H' (Oo ++ W') ds vs → Q vs H') (OkX K Wx Oo W σ H) → tas σ H Q
def IAQ (K : PySem.W.Frag) (tas : TA) (m : Env → Option (List D)) : Prop := ∀ Oo W σ H env (Q : List V → Hp → Prop), ER K Oo W σ H env →
  (∃ ds, m env = some ds ∧ ∀ vs H', Evl.Ex H H' → Rvs K H' (Oo ++ W) ds vs → Q vs H') → tas σ H Q
def vNil : M (List D) := M.ret []
def vCons (a : M D) (b : M (List D)) : M (List D) := a.bnd fun x => b.bnd fun xs => M.ret (x :: xs)
theorem iav_nil : IAV K Wx tNil vNil := fun Oo W σ H env Q E q => q [] H W (Lv.refl _ _) E rfl
theorem iav_cons {ma mb} (a : IV K Wx ta ma) (b : IAV K Wx tas mb) : IAV K Wx (tCons ta tas) (vCons ma mb) := fun Oo W σ H env Q E q => by
  refine a Oo W σ H env _ E ((M.bnd_to q).mono (fun x env1 q v H1 W1 l1 E1 r1 => ?_) fun _ _ _ _ x => x)
  refine b Oo W1 σ H1 env1 _ E1 ((M.bnd_to q).mono (fun xs env2 q vs H2 W2 l2 E2 r2 => ?_) fun _ _ _ _ x => x.lv l1)
  exact q (v :: vs) H2 W2 (l1.trans l2) E2 ⟨v, vs, rfl, Rv.lv (l2.oo Oo) r1, r2⟩
def vqA (m : Env → Option (List D)) : M (List D) := fun env => M.opt (m env) env
theorem iaq_iav {m} (h : IAQ K tas m) : IAV K Wx tas (vqA m) := fun Oo W σ H env Q E q => by
  obtain ⟨d, e, q⟩ := M.opt_to q
  exact h Oo W σ H env Q E ⟨d, e, fun v H' x r => q v H' W (Lv.ex x) (E.ex x) r⟩
theorem iaq_nil : IAQ K tNil paNil := fun Oo W σ H env Q E ⟨ds, e, q⟩ => by
  cases e
  exact q [] H (Evl.Ex.refl H) rfl
theorem iaq_cons {ma mb} (a : IQ K ta ma) (b : IAQ K tas mb) : IAQ K (tCons ta tas) (paCons ma mb) := fun Oo W σ H env Q E ⟨z, e, q⟩ => by
  unfold paCons at e
  cases e1 : ma env with
  | none => rw [e1] at e; cases e
  | some d =>
    rw [e1] at e
    have e : (mb env).map (d :: ·) = some z := e
    cases e2 : mb env with
    | none => rw [e2] at e; cases e
    | some ds =>
      rw [e2] at e; cases e
      exact a Oo W σ H env _ E ⟨d, e1, fun v H1 x1 r1 => b Oo W σ H1 env _ (E.ex x1) ⟨ds, e2, fun vs H2 x2 r2 => q (v :: vs) H2 (x1.trans x2) ⟨v, vs, rfl, r1.lv (Lv.ex x2), r2⟩⟩⟩
/-- *e, .. -/
def items : D → Option (List D)
  | .lst ds => some ds
  | .fro ds => some ds
  | .tup ds => some ds
  | _ => none
def vStar (a : M D) (b : M (List D)) : M (List D) := a.bnd fun x => fun env => match items x with
  | some ds => (b.bnd fun xs => M.ret (ds ++ xs)) env
  | none => .stuck
theorem Rv.items {d : D} {v : V} {ds : List D} (r : Rv K H O d v) (h : items d = some ds) : ∃ p vs, v = .ref p ∧ (SqT K H p vs ∨ SqL K H p vs) ∧ Rvs K H O ds vs := by
  cases d with
  | lst es => obtain ⟨p, vs, e, a, r⟩ := r; cases h; exact ⟨p, vs, e, .inr (SqL.of a.2), r⟩
  | fro es => obtain ⟨p, vs, e, a, r⟩ := r; cases h; exact ⟨p, vs, e, .inr a.sq, r⟩
  | tup es => obtain ⟨p, vs, e, a, r⟩ := r; cases h; exact ⟨p, vs, e, .inl a.sq, r⟩
  | _ => cases h
theorem iav_star {ma mb} (a : IV K Wx ta ma) (b : IAV K Wx tas mb) : IAV K Wx (StX.tStar K ta tas) (vStar ma mb) := fun Oo W σ H env Q E q => by
  refine a Oo W σ H env _ E ((M.bnd_to q).mono (fun x env1 q v H1 W1 l1 E1 r1 => ?_) fun _ _ _ _ x => x)
  cases e : items x with
  | none => rw [e] at q; exact q.elim
  | some ds =>
    rw [e] at q
    obtain ⟨p, vs, ev, s, rs⟩ := r1.items e
    refine ⟨p, vs, ev, s, ?_⟩
    refine b Oo W1 σ H1 env1 _ E1 ((M.bnd_to q).mono (fun xs env2 q us H2 W2 l2 E2 r2 => ?_) fun _ _ _ _ x => x.lv l1)
    exact q (vs ++ us) H2 W2 (l1.trans l2) E2 ((rs.lv (l2.oo Oo)).app r2)
def small (ds : List D) : Bool := decide (ds.length ≤ 16777216)
theorem small_sz {ds : List D} {vs : List V} (h : small ds = true) (r : Rvs K H O ds vs) : vs.length ≤ sizeLine := by
  rw [r.len, sizeLine_eq]
  exact of_decide_eq_true h
def vTup (a : M (List D)) : M D := a.bnd fun ds => fun env => if small ds = true then .ok (.tup ds) env else .stuck
theorem upd_out {p : Addr} {o : HO} (hp : H p = none) : Evl.Ex H (upd H p o) := Evl.Ex.new hp
theorem iv_tup {m} (a : IAV K Wx tas m) : IV K Wx (tTup tas) (vTup m) := fun Oo W σ H env Q E q => by
  refine a Oo W σ H env _ E ((M.bnd_to q).mono (fun ds env1 q vs H1 W1 l1 E1 r1 => ?_) fun _ _ _ _ x => x)
  split at q
  · rename_i hs
    refine ⟨small_sz hs r1, fun p hp => ?_⟩
    have x := Evl.Ex.new (o := .tup vs) hp
    exact q (.ref p) _ W1 (l1.trans (Lv.ex x)) (E1.ex x) ⟨p, vs, rfl, .inl ⟨E1.new hp, .inl upd_same⟩, r1.lv (Lv.ex x)⟩
  · exact q.elim
def pTup (a : Env → Option (List D)) : Env → Option D := fun env => (a env).bind fun ds => if small ds = true then some (.tup ds) else none
theorem iq_tup {m} (a : IAQ K tas m) : IQ K (tTup tas) (pTup m) := fun Oo W σ H env Q E ⟨z, e, q⟩ => by
  unfold pTup at e
  cases e1 : m env with
  | none => rw [e1] at e; cases e
  | some ds =>
    rw [e1] at e
    have e : (if small ds = true then some (D.tup ds) else none) = some z := e
    split at e
    · rename_i hs
      cases e
      refine a Oo W σ H env _ E ⟨ds, e1, fun vs H1 x1 r1 => ⟨small_sz hs r1, fun p hp => ?_⟩⟩
      have x := Evl.Ex.new (o := .tup vs) hp
      exact q (.ref p) _ (x1.trans x) ⟨p, vs, rfl, .inl ⟨(E.ex x1).new hp, .inl upd_same⟩, r1.lv (Lv.ex x)⟩
    · cases e
def leafs (ds : List D) : List T := ds.map T.val
theorem Rvs.leafs : ∀ {ds : List D} {vs : List V}, Rvs K H O ds vs → Ows K H O (leafs ds) vs []
  | [], _, e => ⟨e, rfl⟩
  | d :: ds, _, ⟨v, vs', e, a, r⟩ => ⟨v, vs', [], [], e, rfl, ⟨rfl, a⟩, Rvs.leafs r⟩
/-- a new list of data -/
theorem Ow.list {p : Addr} {ds : List D} {vs : List V} (hp : H p = none) (hn : ∀ q ∈ O, Mut (H q)) (r : Rvs K H O ds vs) : Ow K (upd H p (.lst vs)) (O ++ [p]) (.lst (leafs ds)) (.ref p) [p] := by
  refine ⟨p, vs, [], rfl, rfl, upd_same, (r.lv ⟨fun q o _ h => hp_new hp h, fun q hq => ?_⟩).leafs⟩
  rcases List.mem_append.mp hq with z | z
  · exact .inl z
  · rw [List.mem_singleton.mp z]
    exact .inr hp
def oLst (a : M (List D)) : M T := a.bnd fun ds => fun env => if small ds = true then .ok (.lst (leafs ds)) env else .stuck
theorem io_lst {m} (a : IAV K Wx tas m) : IO K Wx (tLst tas) (oLst m) := fun Oo W σ H env Q E q => by
  refine a Oo W σ H env _ E ((M.bnd_to q).mono (fun ds env1 q vs H1 W1 l1 E1 r1 => ?_) fun _ _ _ _ x => x)
  split at q
  · rename_i hs
    refine ⟨small_sz hs r1, fun p hp => ?_⟩
    obtain ⟨k1, k2, k3, k4⟩ := new_io (fp := [p]) E1 (Evl.Ex.new (o := .lst vs) hp) (fun q hq => by rw [List.mem_singleton.mp hq]; exact hp) (Ow.list hp E1.domA r1)
    exact q (.ref p) _ W1 [p] (l1.trans k1) k2 (by simp) k3 k4
  · exact q.elim

/-! ### tests, logic -/
def unBl (d : D) : M Bool := match d with
  | .bl b => M.ret b
  | _ => fun _ => .stuck
def tst (m : M D) : M Bool := m.bnd unBl
theorem Rv.bl {d : D} {v : V} {Q : Bool → Env → Prop} {X} (r : Rv K H O d v) (q : (unBl d env).To Q X) : ∃ b, v = .bl b ∧ d = .bl b ∧ Q b env := by
  cases d with
  | bl b => exact ⟨b, r, rfl, q⟩
  | _ => exact q.elim
theorem it_test {m} (a : IV K Wx te m) : IT K Wx (tTest te) (tst m) := fun Oo W σ H env Q E q => by
  refine a Oo W σ H env _ E ((M.bnd_to q).mono (fun d env1 q v H1 W1 l1 E1 r1 => ?_) fun _ _ _ _ x => x)
  obtain ⟨b, e, _, q⟩ := r1.bl q
  exact ⟨b, e, q H1 W1 l1 E1⟩
theorem it_B {m} (a : IV K Wx te m) : IT K Wx (tB te) (tst m) := it_test a
def truD : D → Option Bool
  | .non => some false
  | .bl b => some b
  | .int i => some (i != 0)
  | .str y => if y.length ≤ 16777216 then some ((y.length : Int) != 0) else none
  | .lst ds => some (!ds.isEmpty)
  | .fro ds => some (!ds.isEmpty)
  | .tup ds => some (!ds.isEmpty)
  | _ => none
theorem Rvs.empty : ∀ {ds : List D} {vs : List V}, Rvs K H O ds vs → vs.isEmpty = ds.isEmpty
  | [], _, e => by cases (show _ = [] from e); rfl
  | d :: ds, _, ⟨v, vs', e, a, r⟩ => by subst e; rfl
theorem RSh.tru {d : D} {v : V} {b : Bool} (r : RSh K H O d v) (e : truD d = some b) : TruV K v H b := by
  cases d with
  | non => cases (show _ = V.non from r); cases e; rfl
  | bl _ => cases (show _ = V.bl _ from r); cases e; rfl
  | int _ => cases (show _ = V.int _ from r); cases e; rfl
  | str y =>
    cases (show _ = V.str _ from r)
    have e : (if y.length ≤ 16777216 then some ((y.length : Int) != 0) else none) = some b := e
    split at e
    · rename_i hz
      cases e
      exact ⟨by rw [sizeLine_eq]; exact hz, rfl⟩
    · cases e
  | lst ds => obtain ⟨p, vs, q, a, r⟩ := r; subst q; cases e; exact .inl ⟨vs, SqL.of a, by rw [r.empty]⟩
  | fro ds => obtain ⟨p, vs, q, a, r⟩ := r; subst q; cases e; exact .inl ⟨vs, a, by rw [r.empty]⟩
  | tup ds => obtain ⟨p, vs, q, a, r⟩ := r; subst q; cases e; exact .inr (.inl ⟨vs, a.sq, by rw [r.empty]⟩)
  | _ => cases e
def tru (m : M Ob) : M Bool := m.bnd fun x => fun env => M.opt ((lookB x env).bind truD) env
theorem it_tru {m} (a : IB K Wx te m) : IT K Wx (tTruG K te) (tru m) := fun Oo W σ H env Q E q => by
  refine a Oo W σ H env _ E ((M.bnd_to q).mono (fun x env1 q v H1 W1 l1 E1 r1 => ?_) fun _ _ _ _ x => x)
  obtain ⟨b, e, q⟩ := M.opt_to q
  cases e1 : lookB x env1 with
  | none => rw [e1] at e; cases e
  | some d =>
    rw [e1] at e
    exact ⟨b, (E1.look r1 e1).tru e, q H1 W1 l1 E1⟩
def tnot (m : M Bool) : M Bool := m.bnd fun b => M.ret (!b)
theorem it_not {m} (a : IT K Wx tt m) : IT K Wx (tNot tt) (tnot m) := fun Oo W σ H env Q E q =>
  a Oo W σ H env _ E ((M.bnd_to q).mono (fun b env1 q H1 W1 l1 E1 => q H1 W1 l1 E1) fun _ _ _ _ x => x)
def tand (a b : M Bool) : M Bool := a.bnd fun x => if x = true then b else M.ret false
theorem it_and {ma mb} (a : IT K Wx tt ma) (b : IT K Wx tu mb) : IT K Wx (tAnd tt tu) (tand ma mb) := fun Oo W σ H env Q E q => by
  refine a Oo W σ H env _ E ((M.bnd_to q).mono (fun x env1 q H1 W1 l1 E1 => ?_) fun _ _ _ _ x => x)
  cases x with
  | true => exact b Oo W1 σ H1 env1 _ E1 (Rs.To.mono q (fun y env2 q H2 W2 l2 E2 => q H2 W2 (l1.trans l2) E2) fun _ _ _ _ x => x.lv l1)
  | false => exact q H1 W1 l1 E1
def tor (a b : M Bool) : M Bool := a.bnd fun x => if x = true then M.ret true else b
theorem it_or {ma mb} (a : IT K Wx tt ma) (b : IT K Wx tu mb) : IT K Wx (tOr tt tu) (tor ma mb) := fun Oo W σ H env Q E q => by
  refine a Oo W σ H env _ E ((M.bnd_to q).mono (fun x env1 q H1 W1 l1 E1 => ?_) fun _ _ _ _ x => x)
  cases x with
  | false => exact b Oo W1 σ H1 env1 _ E1 (Rs.To.mono q (fun y env2 q H2 W2 l2 E2 => q H2 W2 (l1.trans l2) E2) fun _ _ _ _ x => x.lv l1)
  | true => exact q H1 W1 l1 E1
/-- the same as values -/
def vBl (m : M Bool) : M D := m.bnd fun b => M.ret (.bl b)
theorem iv_andV {ma mb} (a : IV K Wx ta ma) (b : IV K Wx tb mb) : IV K Wx (tAndV ta tb) ((tst ma).bnd fun x => if x = true then mb else M.ret (.bl false)) := fun Oo W σ H env Q E q => by
  refine a Oo W σ H env _ E ((M.bnd_to (M.bnd_to q)).mono (fun d env1 q v H1 W1 l1 E1 r1 => ?_) fun _ _ _ _ x => x)
  obtain ⟨x, e, _, q⟩ := r1.bl q
  refine ⟨x, e, ?_⟩
  cases x with
  | true => exact b Oo W1 σ H1 env1 _ E1 (Rs.To.mono q (fun y env2 q u H2 W2 l2 E2 r2 => q u H2 W2 (l1.trans l2) E2 r2) fun _ _ _ _ x => x.lv l1)
  | false => exact q (.bl false) H1 W1 l1 E1 rfl
theorem iv_orV {ma mb} (a : IV K Wx ta ma) (b : IV K Wx tb mb) : IV K Wx (tOrV ta tb) ((tst ma).bnd fun x => if x = true then M.ret (.bl true) else mb) := fun Oo W σ H env Q E q => by
  refine a Oo W σ H env _ E ((M.bnd_to (M.bnd_to q)).mono (fun d env1 q v H1 W1 l1 E1 r1 => ?_) fun _ _ _ _ x => x)
  obtain ⟨x, e, _, q⟩ := r1.bl q
  refine ⟨x, e, ?_⟩
  cases x with
  | false => exact b Oo W1 σ H1 env1 _ E1 (Rs.To.mono q (fun y env2 q u H2 W2 l2 E2 r2 => q u H2 W2 (l1.trans l2) E2 r2) fun _ _ _ _ x => x.lv l1)
  | true => exact q (.bl true) H1 W1 l1 E1 rfl
def vAnd (a b : M D) : M D := (tst a).bnd fun x => if x = true then b else M.ret (.bl false)
def vOr (a b : M D) : M D := (tst a).bnd fun x => if x = true then M.ret (.bl true) else b
theorem iv_and {ma mb} (a : IV K Wx ta ma) (b : IV K Wx tb mb) : IV K Wx (tAndV ta tb) (vAnd ma mb) := iv_andV a b
theorem iv_or {ma mb} (a : IV K Wx ta ma) (b : IV K Wx tb mb) : IV K Wx (tOrV ta tb) (vOr ma mb) := iv_orV a b
def vNot (a : M D) : M D := (tst a).bnd fun x => M.ret (.bl (!x))
theorem iv_not {ma} (a : IV K Wx ta ma) : IV K Wx (tNotV ta) (vNot ma) := fun Oo W σ H env Q E q => by
  refine a Oo W σ H env _ E ((M.bnd_to (M.bnd_to q)).mono (fun d env1 q v H1 W1 l1 E1 r1 => ?_) fun _ _ _ _ x => x)
  obtain ⟨x, e, _, q⟩ := r1.bl q
  exact ⟨x, e, q (.bl (!x)) H1 W1 l1 E1 rfl⟩
def vIf (c : M Bool) (a b : M D) : M D := c.bnd fun x => if x = true then a else b
theorem iv_if {mc ma mb} (c : IT K Wx tt mc) (a : IV K Wx ta ma) (b : IV K Wx tb mb) : IV K Wx (tIf tt ta tb) (vIf mc ma mb) := fun Oo W σ H env Q E q => by
  refine c Oo W σ H env _ E ((M.bnd_to q).mono (fun x env1 q H1 W1 l1 E1 => ?_) fun _ _ _ _ x => x)
  cases x with
  | true => exact a Oo W1 σ H1 env1 _ E1 (Rs.To.mono q (fun y env2 q u H2 W2 l2 E2 r2 => q u H2 W2 (l1.trans l2) E2 r2) fun _ _ _ _ x => x.lv l1)
  | false => exact b Oo W1 σ H1 env1 _ E1 (Rs.To.mono q (fun y env2 q u H2 W2 l2 E2 r2 => q u H2 W2 (l1.trans l2) E2 r2) fun _ _ _ _ x => x.lv l1)
/-- a op b op' c -/
def oChain (op op' : D → D → Option T) (a b c : M Ob) : M D := a.bnd fun x => b.bnd fun y => fun env =>
  match (lookB x env).bind fun d => (lookB y env).bind fun e => op d e with
  | some (.val (.bl k)) => if k = true then (c.bnd fun z => fun env2 => M.opt (((lookB y env2).bind fun d => (lookB z env2).bind fun e => op' d e).map toD) env2) env else .ok (.bl false) env
  | _ => .stuck
theorem iv_chain {r r' : R2} {op op'} (s : OpT K r op) (s' : OpT K r' op') {ma mb mc : M Ob} (a : IB K Wx ta ma) (b : IB K Wx tb mb) (c : IB K Wx tc mc) : IV K Wx (tChain r r' ta tb tc) (oChain op op' ma mb mc) := fun Oo W σ H env Q E q => by
  refine a Oo W σ H env _ E ((M.bnd_to q).mono (fun x env1 q v H1 W1 l1 E1 r1 => ?_) fun _ _ _ _ x => x)
  refine b Oo W1 σ H1 env1 _ E1 ((M.bnd_to q).mono (fun y env2 q u H2 W2 l2 E2 r2 => ?_) fun _ _ _ _ x => x.lv l1)
  split at q
  · rename_i k hk
    cases e1 : lookB x env2 with
    | none => rw [e1] at hk; cases hk
    | some d =>
      rw [e1] at hk
      cases e2 : lookB y env2 with
      | none => rw [e2] at hk; cases hk
      | some d' =>
        rw [e2] at hk
        refine s H2 (Oo ++ W2) v u d d' _ _ E2.domA (E2.look (ObR.lv (l2.oo Oo) r1) e1) (E2.look r2 e2) hk fun w H3 fp ex hf nd o => ?_
        obtain ⟨hfp, ow⟩ := o
        subst hfp
        have ow : w = V.bl k := ow
        subst ow
        refine ⟨k, rfl, ?_⟩
        have l12 := l1.trans l2
        have l13 := l12.trans (Lv.ex ex)
        cases k with
        | false => exact q (.bl false) H3 W2 l13 (E2.ex ex) rfl
        | true =>
          refine c Oo W2 σ H3 env2 _ (E2.ex ex) ((M.bnd_to q).mono (fun z env3 q t H4 W4 l4 E4 r4 => ?_) fun _ _ _ _ x => x.lv l13)
          obtain ⟨zz, e, q⟩ := M.opt_to q
          cases e3 : lookB y env3 with
          | none => rw [e3] at e; cases e
          | some d3 =>
            rw [e3] at e
            cases e4 : lookB z env3 with
            | none => rw [e4] at e; cases e
            | some d4 =>
              rw [e4] at e
              have e : (op' d3 d4).map toD = some zz := e
              cases e5 : op' d3 d4 with
              | none => rw [e5] at e; cases e
              | some t5 =>
                rw [e5] at e; cases e
                refine s' H4 (Oo ++ W4) u t d3 d4 t5 _ E4.domA (E4.look (ObR.lv (l4.oo Oo) (ObR.lv (Lv.ex ex) r2)) e3) (E4.look r4 e4) e5 fun w5 H5 fp5 ex5 hf5 nd5 o5 => ?_
                refine q w5 H5 W4 ((l13.trans l4).trans (Lv.ex ex5)) (E4.ex ex5) (o5.toD (fun p hp => List.mem_append_left _ hp) fun p hp y => ?_)
                obtain ⟨o', h⟩ := Mut.ex (E4.domA p y)
                rw [hf5 p hp] at h; cases h
  · exact q.elim
/-! ### slices -/
def ITO (K : PySem.W.Frag) (Wx : WX) (to : TO) (m : M (Option Int)) : Prop := ∀ Oo W σ H env (Q : Option Int → Hp → Prop), ER K Oo W σ H env →
  (m env).To (fun b env' => ∀ H' W', Lv H W H' W' → ER K Oo W' σ H' env' → Q b H') (OkX K Wx Oo W σ H) → to σ H Q
def ipNo : M (Option Int) := M.ret none
theorem ito_no : ITO K Wx tNoPart ipNo := fun Oo W σ H env Q E q => q H W (Lv.refl _ _) E
def ipSome (m : M D) : M (Option Int) := m.bnd fun d => fun env => match d with
  | .int i => .ok (some i) env
  | _ => .stuck
theorem ito_some {m} (a : IV K Wx te m) : ITO K Wx (tPart te) (ipSome m) := fun Oo W σ H env Q E q => by
  refine a Oo W σ H env _ E ((M.bnd_to q).mono (fun d env1 q v H1 W1 l1 E1 r1 => ?_) fun _ _ _ _ x => x)
  cases d with
  | int i => exact ⟨i, r1, q H1 W1 l1 E1⟩
  | _ => exact q.elim
theorem dom_ex (e : Evl.Ex H H') (hn : ∀ p ∈ O, Mut (H p)) : ∀ p ∈ O, Mut (H' p) := fun p hp => by
  have m := hn p hp
  obtain ⟨o, h⟩ := Mut.ex m
  rw [h] at m
  rw [e p o h]
  exact m
def cutD (ds : List D) (lo hi : Option Int) : List D := (ds.drop (HT.sIx ds.length 0 lo)).take (HT.sIx ds.length ds.length hi - HT.sIx ds.length 0 lo)
theorem Rvs.cut {ds : List D} {vs : List V} (r : Rvs K H O ds vs) (lo hi : Option Int) : Rvs K H O (cutD ds lo hi) (cutV vs lo hi) := by
  unfold cutD cutV
  rw [r.len]
  exact (r.drop _).take _
def opSl (d : D) (lo hi : Option Int) : Option T := match d with
  | .lst ds => some (.lst (leafs (cutD ds lo hi)))
  | .fro ds => some (.lst (leafs (cutD ds lo hi)))
  | .tup ds => some (.val (.tup (cutD ds lo hi)))
  | .str z => if z.length ≤ 16777216 then some (.val (.str (cutS z lo hi))) else none
  | _ => none
theorem op_sl {x : V} {d : D} {lo hi : Option Int} {t : T} {Q : VK} (hn : ∀ p ∈ O, Mut (H p)) (r : RSh K H O d x) (e : opSl d lo hi = some t)
    (q : ∀ v H' fp, Evl.Ex H H' → (∀ p ∈ fp, H p = none) → fp.Nodup → Ow K H' (O ++ fp) t v fp → Q v H') : rSlG K x lo hi H Q := by
  cases d with
  | lst ds =>
    cases e
    obtain ⟨p, vs, rfl, a, rs⟩ := r
    refine .inl ⟨vs, SqL.of a, fun p' hp => q _ _ [p'] (Evl.Ex.new hp) (fun y hy => by rw [List.mem_singleton.mp hy]; exact hp) (by simp) (Ow.list hp hn (rs.cut lo hi))⟩
  | fro ds =>
    cases e
    obtain ⟨p, vs, rfl, a, rs⟩ := r
    refine .inl ⟨vs, a, fun p' hp => q _ _ [p'] (Evl.Ex.new hp) (fun y hy => by rw [List.mem_singleton.mp hy]; exact hp) (by simp) (Ow.list hp hn (rs.cut lo hi))⟩
  | tup ds =>
    cases e
    obtain ⟨p, vs, rfl, a, rs⟩ := r
    refine .inr ⟨vs, a.sq, fun p' H' ex s _ => q (.ref p') H' [] ex (by simp) List.nodup_nil ?_⟩
    rw [List.append_nil]
    exact ⟨rfl, p', _, rfl, TupAt.of (dom_ex ex hn) s, (rs.cut lo hi).lv (Lv.ex ex)⟩
  | str z =>
    cases (show x = V.str z from r)
    unfold opSl at e
    dsimp only at e
    split at e
    · rename_i hz
      cases e
      exact ⟨by rw [sizeLine_eq]; exact hz, q _ H [] (Evl.Ex.refl H) (by simp) List.nodup_nil ⟨rfl, rfl⟩⟩
    · cases e
  | _ => cases e
def oSl (a : M Ob) (l h : M (Option Int)) : M T := a.bnd fun x => l.bnd fun lo => h.bnd fun hi => fun env => M.opt ((lookB x env).bind fun d => opSl d lo hi) env
theorem io_sl {tl th : TO} {ma ml mh} (a : IB K Wx te ma) (l : ITO K Wx tl ml) (h : ITO K Wx th mh) : IO K Wx (tSl (rSlG K) te tl th) (oSl ma ml mh) := fun Oo W σ H env Q E q => by
  refine a Oo W σ H env _ E ((M.bnd_to q).mono (fun x env1 q v H1 W1 l1 E1 r1 => ?_) fun _ _ _ _ x => x)
  refine l Oo W1 σ H1 env1 _ E1 ((M.bnd_to q).mono (fun lo env2 q H2 W2 l2 E2 => ?_) fun _ _ _ _ x => x.lv l1)
  refine h Oo W2 σ H2 env2 _ E2 ((M.bnd_to q).mono (fun hi env3 q H3 W3 l3 E3 => ?_) fun _ _ _ _ x => x.lv (l1.trans l2))
  obtain ⟨t, e, q⟩ := M.opt_to q
  cases e1 : lookB x env3 with
  | none => rw [e1] at e; cases e
  | some d =>
    rw [e1] at e
    refine op_sl E3.domA (E3.look (ObR.lv ((l2.trans l3).oo Oo) r1) e1) e fun w H4 fp ex hf nd o => ?_
    obtain ⟨k1, k2, k3, k4⟩ := new_io E3 ex hf o
    exact q w H4 W3 fp (((l1.trans l2).trans l3).trans k1) k2 nd k3 k4
/-- pure parts -/
def ITP (K : PySem.W.Frag) (to : TO) (m : Env → Option (Option Int)) : Prop := ∀ Oo W σ H env (Q : Option Int → Hp → Prop), ER K Oo W σ H env → (∃ b, m env = some b ∧ ∀ H', Evl.Ex H H' → Q b H') → to σ H Q
def ppNo : Env → Option (Option Int) := fun _ => some none
theorem itp_no : ITP K tNoPart ppNo := fun Oo W σ H env Q E ⟨b, e, q⟩ => by
  cases e
  exact q H (Evl.Ex.refl H)
def ppSome (m : Env → Option D) : Env → Option (Option Int) := fun env => (m env).bind fun d => match d with
  | .int i => some (some i)
  | _ => none
theorem itp_some {m} (a : IQ K te m) : ITP K (tPart te) (ppSome m) := fun Oo W σ H env Q E ⟨b, e, q⟩ => by
  unfold ppSome at e
  cases e1 : m env with
  | none => rw [e1] at e; cases e
  | some d =>
    rw [e1] at e
    refine a Oo W σ H env _ E ⟨d, e1, fun v H1 x1 r1 => ?_⟩
    cases d with
    | int i => cases e; exact ⟨i, r1, q H1 x1⟩
    | _ => cases e
def pSl (a : Env → Option D) (l h : Env → Option (Option Int)) : Env → Option D := fun env => (a env).bind fun d => (l env).bind fun lo => (h env).bind fun hi => (opSl d lo hi).map toD
theorem iq_sl {tl th : TO} {ma ml mh} (a : IP K te ma) (l : ITP K tl ml) (h : ITP K th mh) : IQ K (tSl (rSlG K) te tl th) (pSl ma ml mh) := fun Oo W σ H env Q E ⟨z, e, q⟩ => by
  unfold pSl at e
  cases e1 : ma env with
  | none => rw [e1] at e; cases e
  | some d =>
    rw [e1] at e
    cases e2 : ml env with
    | none => rw [e2] at e; cases e
    | some lo =>
      rw [e2] at e
      cases e3 : mh env with
      | none => rw [e3] at e; cases e
      | some hi =>
        rw [e3] at e
        have e : (opSl d lo hi).map toD = some z := e
        cases e4 : opSl d lo hi with
        | none => rw [e4] at e; cases e
        | some t =>
          rw [e4] at e; cases e
          refine a Oo W σ H env _ E ⟨d, e1, fun v H1 x1 r1 => l Oo W σ H1 env _ (E.ex x1) ⟨lo, e2, fun H2 x2 => h Oo W σ H2 env _ ((E.ex x1).ex x2) ⟨hi, e3, fun H3 x3 => ?_⟩⟩⟩
          have E3 := ((E.ex x1).ex x2).ex x3
          refine op_sl E3.domA ((r1.ex x2).ex x3) e4 fun w H4 fp ex hf nd o => q w H4 (((x1.trans x2).trans x3).trans ex) ?_
          refine o.toD (fun p hp => List.mem_append_left _ hp) fun p hp y => ?_
          obtain ⟨o', h⟩ := Mut.ex (E3.domA p y)
          rw [hf p hp] at h; cases h
/-! ### attributes, places further in -/
/-- the fields that may be asked: class, name -/
def TabOk (K : PySem.W.Frag) (tab : List (Str × Str)) : Prop := ∀ x ∈ tab, Cls K (He.ga K x.1) ∧ NoAttr K (He.ga K x.1) x.2
def inTab (tab : List (Str × Str)) (c f : Str) : Bool := tab.contains (c, f)
def stepF (tab : List (Str × Str)) (f : Str) (x : Opd) (env : Env) : Option Opd := match x with
  | .val (.obj c ns ds) => if inTab tab c f = true then (ixOf f ns).bind fun k => (ds[k]?).map .val else none
  | .val _ => none
  | .loc i π => match nodeOf env i π with
    | some (.obj c ns ts) => if inTab tab c f = true then (ixOf f ns).bind fun k => (ts[k]?).map fun t => match t with
      | .val d => .val d
      | _ => .loc i (π ++ [.fld f]) else none
    | some (.val (.obj c ns ds)) => if inTab tab c f = true then (ixOf f ns).bind fun k => (ds[k]?).map .val else none
    | _ => none
def pFld (tab : List (Str × Str)) (f : Str) (m : Env → Option Opd) : Env → Option Opd := fun env => (m env).bind fun x => stepF tab f x env
theorem Rvs.fld {ns : List Str} {ds : List D} {vs : List V} {f : Str} {k : Nat} {d : D} (hl : ns.length = vs.length) (r : Rvs K H O ds vs) (h1 : ixOf f ns = some k) (h2 : ds[k]? = some d) : ∃ v, (ns.zip vs).lookup f = some v ∧ Rv K H O d v := by
  obtain ⟨v, e1, e2⟩ := ixOf_lookup hl h1
  obtain ⟨v', e1', rv⟩ := r.get h2
  rw [e1] at e1'; cases e1'
  exact ⟨v, e2, rv⟩
theorem tab_ok {tab : List (Str × Str)} (ht : TabOk K tab) {c f : Str} (h : inTab tab c f = true) : Cls K (He.ga K c) ∧ NoAttr K (He.ga K c) f := ht (c, f) (by unfold inTab at h; simpa using h)
theorem rsh_fld {tab : List (Str × Str)} {c f : Str} {ns : List Str} {ds : List D} {v : V} {y : Opd} (ht : TabOk K tab) (r : RSh K H O (.obj c ns ds) v) (e : (if inTab tab c f = true then (ixOf f ns).bind fun k => (ds[k]?).map Opd.val else none) = some y)
    {Q : V → Prop} (q : ∀ d u, y = .val d → Rv K H O d u → Q u) : ∃ a C dx fs u, v = .ref a ∧ H a = some (.ins C dx fs) ∧ Cls K C ∧ NoAttr K C f ∧ fs.lookup f = some u ∧ Q u := by
  split at e
  · rename_i hi
    obtain ⟨p, dx, vs, e0, hl, hp, rs⟩ := r
    cases e1 : ixOf f ns with
    | none => rw [e1] at e; cases e
    | some k =>
      rw [e1] at e
      have e : (ds[k]?).map Opd.val = some y := e
      cases e2 : ds[k]? with
      | none => rw [e2] at e; cases e
      | some d =>
        rw [e2] at e; cases e
        obtain ⟨u, h1, h2⟩ := Rvs.fld hl rs e1 e2
        exact ⟨p, _, dx, _, u, e0, hp, (tab_ok ht hi).1, (tab_ok ht hi).2, h1, q d u rfl h2⟩
  · cases e
theorem il_fld {tab : List (Str × Str)} {f : Str} {m} (ht : TabOk K tab) (a : IL K te m) : IL K (tFld K te f) (pFld tab f m) := fun Oo W σ H env Q E ⟨y, e, q⟩ => by
  unfold pFld at e
  cases e1 : m env with
  | none => rw [e1] at e; cases e
  | some x =>
    rw [e1] at e
    have e : stepF tab f x env = some y := e
    refine a Oo W σ H env _ E ⟨x, e1, fun v H1 x1 r1 => ?_⟩
    have E1 := E.ex x1
    cases x with
    | val d =>
      cases d with
      | obj c ns ds => exact rsh_fld ht (Rv.sh r1) e fun d u hy rv => q u H1 x1 (by rw [hy]; exact rv)
      | _ => cases e
    | loc i π =>
      unfold stepF at e
      dsimp only at e
      cases e2 : nodeOf env i π with
      | none => rw [e2] at e; cases e
      | some nd =>
        rw [e2] at e
        obtain ⟨t, r0, ht0, _, h1, w, A, f1, B, n1, n2, n3, n4⟩ := E1.node e2
        obtain ⟨r', h1', n'⟩ := r1
        rw [h1] at h1'; cases h1'
        cases Nav.inj n' n1
        cases nd with
        | lst ts => cases e
        | dic ks ds => cases e
        | val d =>
          cases d with
          | obj c ns ds => exact rsh_fld ht (n3.2.sh) e fun d u hy rv => q u H1 x1 (by rw [hy]; exact rv)
          | _ => cases e
        | obj c ns ts =>
          dsimp only at e
          split at e
          · rename_i hi
            obtain ⟨p, dx, vs, fq, e0, ef, hl, hp, rs⟩ := n3
            cases e3 : ixOf f ns with
            | none => rw [e3] at e; cases e
            | some k =>
              rw [e3] at e
              cases e4 : ts[k]? with
              | none => simp [e4] at e
              | some t4 =>
                obtain ⟨u, hu1, hu2⟩ := ixOf_lookup hl e3
                obtain ⟨u', A', f', B', g1, g2, g3, g4⟩ := rs.at e4
                rw [hu1] at g1; cases g1
                refine ⟨p, _, dx, _, u, e0, hp, (tab_ok ht hi).1, (tab_ok ht hi).2, hu2, q u H1 x1 ?_⟩
                have nv : Nav H1 r0 (π ++ [Sg.fld f]) u := n1.snoc ⟨p, _, dx, _, u, e0, hp, hu2, rfl⟩
                cases t4 with
                | val d =>
                  simp [e4] at e
                  subst e
                  exact g3.2
                | lst _ => simp [e4] at e; subst e; exact ⟨r0, h1, nv⟩
                | dic _ _ => simp [e4] at e; subst e; exact ⟨r0, h1, nv⟩
                | obj _ _ _ => simp [e4] at e; subst e; exact ⟨r0, h1, nv⟩
          · cases e
/-- x[k] -/
def stepI (x : Opd) (k : D) (env : Env) : Option Opd := match k with
  | .int j => match x with
    | .val d => (items d).bind fun ds => (atI ds j).map .val
    | .loc i π => match nodeOf env i π with
      | some (.lst ts) => (ixN ts.length j).bind fun n => (ts[n]?).map fun t => match t with
        | .val d => .val d
        | _ => .loc i (π ++ [.ix n])
      | some (.val d) => (items d).bind fun ds => (atI ds j).map .val
      | _ => none
  | _ => none
def pIx (a : Env → Option Opd) (b : Env → Option D) : Env → Option Opd := fun env => (a env).bind fun x => (b env).bind fun k => stepI x k env
theorem Rvs.atI {ds : List D} {vs : List V} {j : Int} {d : D} (r : Rvs K H O ds vs) (h : L2.atI ds j = some d) : ∃ v, L2.atI vs j = some v ∧ Rv K H O d v := by
  unfold L2.atI at h ⊢
  rw [r.len]
  cases e : ixN ds.length j with
  | none => rw [e] at h; cases h
  | some n =>
    rw [e] at h
    exact r.get h
theorem RSh.items {d : D} {v : V} {ds : List D} (r : RSh K H O d v) (h : items d = some ds) : ∃ p vs, v = .ref p ∧ Sq K H p vs ∧ Rvs K H O ds vs := by
  cases d with
  | lst es => obtain ⟨p, vs, e, a, r⟩ := r; cases h; exact ⟨p, vs, e, .inl (SqL.of a), r⟩
  | fro es => obtain ⟨p, vs, e, a, r⟩ := r; cases h; exact ⟨p, vs, e, .inl a, r⟩
  | tup es => obtain ⟨p, vs, e, a, r⟩ := r; cases h; exact ⟨p, vs, e, .inr a.sq, r⟩
  | _ => cases h
theorem rsh_ix {d : D} {v : V} {j : Int} {y : Opd} (r : RSh K H O d v) (e : ((items d).bind fun ds => (atI ds j).map Opd.val) = some y) {Q : VK} (q : ∀ d u, y = .val d → Rv K H O d u → Q u H) : rIxG K v (.int j) H Q := by
  cases e1 : items d with
  | none => rw [e1] at e; cases e
  | some ds =>
    rw [e1] at e
    have e : (L2.atI ds j).map Opd.val = some y := e
    obtain ⟨p, vs, e0, s, rs⟩ := r.items e1
    cases e2 : L2.atI ds j with
    | none => rw [e2] at e; cases e
    | some d2 =>
      rw [e2] at e; cases e
      obtain ⟨u, h1, h2⟩ := rs.atI e2
      subst e0
      exact ⟨vs, u, s, h1, q d2 u rfl h2⟩
theorem il_ix {ma mb} (a : IL K ta ma) (b : IQ K tb mb) : IL K (tOp (rIxG K) ta tb) (pIx ma mb) := fun Oo W σ H env Q E ⟨y, e, q⟩ => by
  unfold pIx at e
  cases e1 : ma env with
  | none => rw [e1] at e; cases e
  | some x =>
    rw [e1] at e
    cases e2 : mb env with
    | none => rw [e2] at e; cases e
    | some k =>
      rw [e2] at e
      have e : stepI x k env = some y := e
      refine a Oo W σ H env _ E ⟨x, e1, fun v H1 x1 r1 => b Oo W σ H1 env _ (E.ex x1) ⟨k, e2, fun u H2 x2 r2 => ?_⟩⟩
      have E2 := (E.ex x1).ex x2
      have r1 := OpdR.ex x2 r1
      unfold stepI at e
      cases k with
      | int j =>
        cases (show u = V.int j from r2)
        dsimp only at e
        cases x with
        | val d => exact rsh_ix (Rv.sh r1) e fun d u hy rv => q u H2 (x1.trans x2) (by rw [hy]; exact rv)
        | loc i π =>
          dsimp only at e
          cases e3 : nodeOf env i π with
          | none => rw [e3] at e; cases e
          | some nd =>
            rw [e3] at e
            obtain ⟨t, r0, ht0, _, h1, w, A, f1, B, n1, n2, n3, n4⟩ := E2.node e3
            obtain ⟨r', h1', n'⟩ := r1
            rw [h1] at h1'; cases h1'
            cases Nav.inj n' n1
            cases nd with
            | val d => exact rsh_ix n3.2.sh e fun d u hy rv => q u H2 (x1.trans x2) (by rw [hy]; exact rv)
            | dic ks ds => cases e
            | obj c ns ts => cases e
            | lst ts =>
              dsimp only at e
              obtain ⟨p, vs, fq, e0, ef, hp, rs⟩ := n3
              cases e4 : ixN ts.length j with
              | none => rw [e4] at e; cases e
              | some n =>
                rw [e4] at e
                cases e5 : ts[n]? with
                | none => simp [e5] at e
                | some t5 =>
                  obtain ⟨u', A', f', B', g1, g2, g3, g4⟩ := rs.at e5
                  subst e0
                  refine ⟨vs, u', .inl (SqL.of hp), ?_, q u' H2 (x1.trans x2) ?_⟩
                  · unfold L2.atI
                    rw [rs.len, e4]
                    exact g1
                  · have nv : Nav H2 r0 (π ++ [Sg.ix n]) u' := n1.snoc ⟨p, vs, u', rfl, hp, g1, rfl⟩
                    cases t5 with
                    | val d => simp [e5] at e; subst e; exact g3.2
                    | lst _ => simp [e5] at e; subst e; exact ⟨r0, h1, nv⟩
                    | dic _ _ => simp [e5] at e; subst e; exact ⟨r0, h1, nv⟩
                    | obj _ _ _ => simp [e5] at e; subst e; exact ⟨r0, h1, nv⟩
      | _ => cases e
def pD (m : Env → Option D) : Env → Option Opd := fun env => (m env).map .val
theorem iq_il {m} (a : IQ K te m) : IL K te (pD m) := fun Oo W σ H env Q E ⟨y, e, q⟩ => by
  unfold pD at e
  cases e1 : m env with
  | none => rw [e1] at e; cases e
  | some d =>
    rw [e1] at e; cases e
    exact a Oo W σ H env _ E ⟨d, e1, fun v H1 x1 r1 => q v H1 x1 r1⟩
/-- what is behind a general value: e.f, e[k] of data -/
def vFld (tab : List (Str × Str)) (f : Str) (m : M D) : M D := m.bnd fun d => fun env => M.opt ((stepF tab f (.val d) env).bind fun x => match x with | .val e => some e | _ => none) env
theorem iv_fld {tab : List (Str × Str)} {f : Str} {m} (ht : TabOk K tab) (a : IV K Wx te m) : IV K Wx (tFld K te f) (vFld tab f m) := fun Oo W σ H env Q E q => by
  refine a Oo W σ H env _ E ((M.bnd_to q).mono (fun d env1 q v H1 W1 l1 E1 r1 => ?_) fun _ _ _ _ x => x)
  obtain ⟨z, e, q2⟩ := M.opt_to q
  cases d with
  | obj c ns ds =>
    cases e1 : stepF tab f (.val (.obj c ns ds)) env1 with
    | none => rw [e1] at e; cases e
    | some x =>
      rw [e1] at e
      refine rsh_fld ht (Rv.sh r1) e1 fun d u hy rv => ?_
      rw [hy] at e
      cases e
      exact q2 u H1 W1 l1 E1 rv
  | _ => cases e
end
end KM

/-! The operators and the built-ins. -/
namespace KM
open PySem PySem.Spec PyProof.Rows L2 Evl KP
section
variable {K : PySem.W.Frag} {H H' : Hp} {O : List Addr}
/-- a plain answer -/
theorem ans {d : D} {v : V} {Q : VK} (h : ∀ v H' fp, Evl.Ex H H' → (∀ p ∈ fp, H p = none) → fp.Nodup → Ow K H' (O ++ fp) (.val d) v fp → Q v H') (r : Rv K H O d v) : Q v H :=
  h v H [] (Evl.Ex.refl H) (by simp) List.nodup_nil ⟨rfl, by simpa using r⟩
/-- a new tuple -/
theorem ansT {p : Addr} {ds : List D} {vs : List V} {Q : VK} (hn : ∀ p ∈ O, Mut (H p)) (ex : Evl.Ex H H') (s : SqT K H' p vs) (r : Rvs K H O ds vs)
    (h : ∀ v H' fp, Evl.Ex H H' → (∀ p ∈ fp, H p = none) → fp.Nodup → Ow K H' (O ++ fp) (.val (.tup ds)) v fp → Q v H') : Q (.ref p) H' :=
  h (.ref p) H' [] ex (by simp) List.nodup_nil ⟨rfl, p, vs, rfl, by rw [List.append_nil]; exact TupAt.of (dom_ex ex hn) s, by rw [List.append_nil]; exact r.lv (Lv.ex ex)⟩
/-- a new list -/
theorem ansL {p : Addr} {ds : List D} {vs : List V} {Q : VK} (hn : ∀ p ∈ O, Mut (H p)) (hp : H p = none) (r : Rvs K H O ds vs)
    (h : ∀ v H' fp, Evl.Ex H H' → (∀ p ∈ fp, H p = none) → fp.Nodup → Ow K H' (O ++ fp) (.lst (leafs ds)) v fp → Q v H') : Q (.ref p) (upd H p (.lst vs)) :=
  h (.ref p) _ [p] (Evl.Ex.new hp) (fun y hy => by rw [List.mem_singleton.mp hy]; exact hp) (by simp) (Ow.list hp hn r)
theorem szl {n : Nat} (h : n ≤ 16777216) : n ≤ sizeLine := by rw [sizeLine_eq]; exact h

def rMulH (K : PySem.W.Frag) : R2 := fun x y H Q => rMulG x y H Q ∨ rRepT K x y H Q
theorem op_mulH {X : Cx} : OpR X (binaryOp .Mult) (rMulH X.K) := by
  intro pins s σ H x y v u Q I rx ry h
  rcases h with h | h
  · exact op_mulG pins s σ H x y v u Q I rx ry h
  · exact op_repT pins s σ H x y v u Q I rx ry h

/-! ### arithmetic -/
def opAdd : D → D → Option T
  | .int i, .int j => some (.val (.int (i + j)))
  | .str a, .str b => if a.length + b.length ≤ 16777216 then some (.val (.str (a ++ b))) else none
  | .lst a, .lst b => if a.length + b.length ≤ 16777216 then some (.lst (leafs (a ++ b))) else none
  | .tup a, .tup b => if a.length + b.length ≤ 16777216 then some (.val (.tup (a ++ b))) else none
  | _, _ => none
theorem s_add : OpT K (rAddG K) opAdd := by
  intro H O x y d e t Q hn r1 r2 h q
  unfold opAdd at h
  split at h
  · cases h; cases (show x = _ from r1); cases (show y = _ from r2)
    exact ans (K := K) q rfl
  · split at h
    · rename_i hz
      cases h; cases (show x = _ from r1); cases (show y = _ from r2)
      exact ⟨szl hz, ans (K := K) q rfl⟩
    · cases h
  · split at h
    · rename_i hz
      cases h
      obtain ⟨p, vs, rfl, a, r1⟩ := r1
      obtain ⟨p', vs', rfl, a', r2⟩ := r2
      exact .inl ⟨vs, vs', a, a', by rw [r1.len, r2.len]; exact szl hz, fun p0 hp => ansL hn hp (r1.app r2) q⟩
    · cases h
  · split at h
    · rename_i hz
      cases h
      obtain ⟨p, vs, rfl, a, r1⟩ := r1
      obtain ⟨p', vs', rfl, a', r2⟩ := r2
      exact .inr ⟨vs, vs', a.sq, a'.sq, by rw [r1.len, r2.len]; exact szl hz, fun p0 H' ex s _ => ansT hn ex s (r1.app r2) q⟩
    · cases h
  · cases h
/-- two ints -/
def opI (C : Int → Int → Bool) (g : Int → Int → Int) : D → D → Option T
  | .int i, .int j => if C i j = true then some (.val (.int (g i j))) else none
  | _, _ => none
theorem s_I {C : Int → Int → Bool} {P : Int → Int → Prop} {g : Int → Int → Int} (hc : ∀ i j, C i j = true → P i j) : OpT K (rI P fun i j => .int (g i j)) (opI C g) := by
  intro H O x y d e t Q hn r1 r2 h q
  unfold opI at h
  split at h
  · split at h
    · rename_i hz
      cases h; cases (show x = _ from r1); cases (show y = _ from r2)
      exact ⟨_, _, rfl, rfl, hc _ _ hz, ans (K := K) q rfl⟩
    · cases h
  · cases h
def opI0 (g : Int → Int → Int) : D → D → Option T
  | .int i, .int j => some (.val (.int (g i j)))
  | _, _ => none
theorem s_I0 {g : Int → Int → Int} : OpT K (rI0 fun i j => .int (g i j)) (opI0 g) := by
  intro H O x y d e t Q hn r1 r2 h q
  unfold opI0 at h
  split at h
  · cases h; cases (show x = _ from r1); cases (show y = _ from r2)
    exact ⟨_, _, rfl, rfl, ans (K := K) q rfl⟩
  · cases h
def opSub := opI0 fun i j => i - j
theorem s_sub : OpT K (rI0 fun i j => .int (i - j)) opSub := s_I0
def opAnd := opI0 Builtin.bitAnd
theorem s_and : OpT K (rI0 fun i j => .int (Builtin.bitAnd i j)) opAnd := s_I0
def opOr := opI0 Builtin.bitOr
theorem s_or : OpT K (rI0 fun i j => .int (Builtin.bitOr i j)) opOr := s_I0
def opXor := opI0 Builtin.bitXor
theorem s_xor : OpT K (rI0 fun i j => .int (Builtin.bitXor i j)) opXor := s_I0
def divOk (i j : Int) : Bool := decide (0 < j) && decide (j.natAbs.log2 < 9000)
def opFdiv := opI divOk fun i j => i / j
theorem s_fdiv : OpT K (rI CDivW fun i j => .int (i / j)) opFdiv := s_I fun i j h => by
  unfold divOk at h
  simp only [Bool.and_eq_true, decide_eq_true_eq] at h
  exact ⟨h.1, h.2⟩
def opMod := opI (fun _ j => decide (0 < j)) fun i j => i % j
theorem s_mod : OpT K (rI (fun _ j => 0 < j) fun i j => .int (i % j)) opMod := s_I fun i j h => of_decide_eq_true h
def powOk (i j : Int) : Bool := decide (0 ≤ j) && (decide (j ≤ 1000000) && decide (i.natAbs < 2 ^ 64))
theorem powOk_of {i j : Int} (h : powOk i j = true) : CPow i j := by
  unfold powOk at h
  simp only [Bool.and_eq_true, decide_eq_true_eq] at h
  exact ⟨h.1, h.2.1, h.2.2⟩
def opPow := opI powOk fun i j => i ^ j.toNat
theorem s_pow : OpT K (rI CPow fun i j => .int (i ^ j.toNat)) opPow := s_I fun i j h => powOk_of h
def opShl := opI powOk fun i j => i * 2 ^ j.toNat
theorem s_shl : OpT K (rI CPow fun i j => .int (i * 2 ^ j.toNat)) opShl := s_I fun i j h => powOk_of h
def opShr := opI (fun _ j => decide (0 ≤ j)) fun i j => i / 2 ^ j.toNat
theorem s_shr : OpT K (rI (fun _ j => 0 ≤ j) fun i j => .int (i / 2 ^ j.toNat)) opShr := s_I fun i j h => of_decide_eq_true h
def mulOk (i j : Int) : Bool := decide (i.natAbs < 2 ^ 64) || (decide (j.natAbs < 2 ^ 64) || decide (i.natAbs.log2 + j.natAbs.log2 < 1000000))
def opMul : D → D → Option T
  | .int i, .int j => if mulOk i j = true then some (.val (.int (i * j))) else none
  | .lst a, .int k => if (decide (-(2 ^ 63) ≤ k) && (decide (k < 2 ^ 63) && decide (a.length * k.toNat ≤ 16777216))) = true then some (.lst (leafs (List.replicate k.toNat a).flatten)) else none
  | .tup a, .int k => if (decide (2 ≤ k) && (decide (k ≤ 1000) && (decide (a.length ≤ 1000) && !a.isEmpty))) = true then some (.val (.tup (List.replicate k.toNat a).flatten)) else none
  | _, _ => none
theorem Rvs.rep {ds : List D} {vs : List V} (r : Rvs K H O ds vs) : ∀ n : Nat, Rvs K H O (List.replicate n ds).flatten (List.replicate n vs).flatten
  | 0 => rfl
  | n + 1 => by
    rw [List.replicate_succ, List.replicate_succ, List.flatten_cons, List.flatten_cons]
    exact r.app (Rvs.rep r n)
theorem s_mul : OpT K (rMulH K) opMul := by
  intro H O x y d e t Q hn r1 r2 h q
  unfold opMul at h
  split at h
  · split at h
    · rename_i hz
      cases h; cases (show x = _ from r1); cases (show y = _ from r2)
      refine .inl ⟨?_, ans (K := K) q rfl⟩
      unfold mulOk at hz
      simp only [Bool.or_eq_true, decide_eq_true_eq] at hz
      rcases hz with h | h | h
      · exact .inl (.inl ⟨by omega, by omega⟩)
      · exact .inl (.inr ⟨by omega, by omega⟩)
      · exact .inr h
    · cases h
  · split at h
    · rename_i hz
      cases h
      simp only [Bool.and_eq_true, decide_eq_true_eq] at hz
      obtain ⟨p, vs, rfl, a, r1⟩ := r1
      cases (show y = _ from r2)
      exact .inl ⟨vs, a, hz.1, hz.2.1, by rw [r1.len]; exact szl hz.2.2, fun p0 hp => ansL hn hp (r1.rep _) q⟩
    · cases h
  · split at h
    · rename_i hz
      cases h
      simp only [Bool.and_eq_true, decide_eq_true_eq] at hz
      obtain ⟨p, vs, rfl, a, r1⟩ := r1
      cases (show y = _ from r2)
      refine .inr ⟨p, _, vs, rfl, rfl, a.sq, fun z => ?_, hz.1, hz.2.1, by rw [r1.len]; exact hz.2.2.1, fun p0 hp => ansT hn (Evl.Ex.new hp) (SqT.of upd_same) (r1.rep _) q⟩
      have := r1.empty
      rw [z] at this
      rw [← this] at hz
      exact absurd hz.2.2.2 (by simp)
    · cases h
  · cases h
def opNeg : D → Option T
  | .int i => some (.val (.int (-i)))
  | _ => none
theorem s_neg : OpU K (rU fun i => .int (-i)) opNeg := by
  intro H O x d t Q hn r1 h q
  unfold opNeg at h
  split at h
  · cases h; cases (show x = _ from r1)
    exact ⟨_, rfl, ans (K := K) q rfl⟩
  · cases h

/-! ### comparisons -/
def opOrd (f : Int → Int → Bool) : D → D → Option T
  | .int i, .int j => some (.val (.bl (f i j)))
  | _, _ => none
theorem s_ord {f : Int → Int → Bool} : OpT K (rOrdG K f) (opOrd f) := by
  intro H O x y d e t Q hn r1 r2 h q
  unfold opOrd at h
  split at h
  · cases h; cases (show x = _ from r1); cases (show y = _ from r2)
    exact ans (K := K) q rfl
  · cases h
def opLt := opOrd fun i j => decide (i < j)
def opLe := opOrd fun i j => decide (i ≤ j)
def opGt := opOrd fun i j => decide (j < i)
def opGe := opOrd fun i j => decide (j ≤ i)
mutual
/-- as the kit's data -/
def toPy : D → PyData
  | .non => .none
  | .bl b => .bool b
  | .int i => .int i
  | .str x => .str x
  | .lst ds => .list (toPys ds)
  | .fro ds => .list (toPys ds)
  | .tup ds => .tuple (toPys ds)
  | .ty _ => .none
  | .glo _ => .none
  | .dic _ _ => .none
  | .obj _ _ _ => .none
  | .exc _ _ _ => .none
def toPys : List D → List PyData
  | [] => []
  | d :: ds => toPy d :: toPys ds
end
mutual
def isPy : D → Bool
  | .non => true
  | .bl _ => true
  | .int _ => true
  | .str _ => true
  | .lst ds => isPys ds
  | .fro ds => isPys ds
  | .tup ds => isPys ds
  | .ty _ => false
  | .glo _ => false
  | .dic _ _ => false
  | .obj _ _ _ => false
  | .exc _ _ _ => false
def isPys : List D → Bool
  | [] => true
  | d :: ds => isPy d && isPys ds
end
mutual
theorem Rv.dp : ∀ {d : D} {v : V}, Rv K H O d v → isPy d = true → Dp K H v (toPy d)
  | .non, _, h, _ => by cases (show _ = _ from h); exact .non
  | .bl _, _, h, _ => by cases (show _ = _ from h); exact .bl _
  | .int _, _, h, _ => by cases (show _ = _ from h); exact .int _
  | .str _, _, h, _ => by cases (show _ = _ from h); exact .str _
  | .lst ds, _, ⟨p, vs, e, a, r⟩, h => by subst e; exact .lst (SqL.of a.2) (Rvs.dp r (by unfold isPy at h; exact h))
  | .fro ds, _, ⟨p, vs, e, a, r⟩, h => by subst e; exact .lst a.sq (Rvs.dp r (by unfold isPy at h; exact h))
  | .tup ds, _, ⟨p, vs, e, a, r⟩, h => by subst e; exact .tup a.sq (Rvs.dp r (by unfold isPy at h; exact h))
  | .ty _, _, _, h => by unfold isPy at h; cases h
  | .glo _, _, _, h => by unfold isPy at h; cases h
  | .dic _ _, _, _, h => by unfold isPy at h; cases h
  | .obj _ _ _, _, _, h => by unfold isPy at h; cases h
  | .exc _ _ _, _, _, h => by unfold isPy at h; cases h
theorem Rvs.dp : ∀ {ds : List D} {vs : List V}, Rvs K H O ds vs → isPys ds = true → DpAll K H vs (toPys ds)
  | [], _, e, _ => by cases (show _ = [] from e); exact .nil
  | d :: ds, _, ⟨v, vs', e, a, r⟩, h => by
    subst e
    unfold isPys at h
    rw [Bool.and_eq_true] at h
    exact .cons (Rv.dp a h.1) (Rvs.dp r h.2)
end
theorem RSh.dp {d : D} {v : V} (r : RSh K H O d v) (h : isPy d = true) : Dp K H v (toPy d) := by
  cases d with
  | non => cases (show _ = _ from r); exact .non
  | bl b => cases (show _ = _ from r); exact .bl _
  | int i => cases (show _ = _ from r); exact .int _
  | str x => cases (show _ = _ from r); exact .str _
  | lst ds => obtain ⟨p, vs, e, a, r⟩ := r; subst e; exact .lst (SqL.of a) (r.dp (by unfold isPy at h; exact h))
  | fro ds => obtain ⟨p, vs, e, a, r⟩ := r; subst e; exact .lst a (r.dp (by unfold isPy at h; exact h))
  | tup ds => obtain ⟨p, vs, e, a, r⟩ := r; subst e; exact .tup a.sq (r.dp (by unfold isPy at h; exact h))
  | _ => unfold isPy at h; cases h
def eqOk (d : D) : Bool := isPy d && SeqAt.shaped (toPy d)
def opEq (neg : Bool) : D → D → Option T
  | .int i, .int j => some (.val (.bl (if neg then !decide (i = j) else decide (i = j))))
  | .str i, .str j => some (.val (.bl (if neg then !decide (i = j) else decide (i = j))))
  | .bl i, .bl j => some (.val (.bl (if neg then !decide (i = j) else decide (i = j))))
  | d, e => if (eqOk d && eqOk e) = true then some (.val (.bl (if neg then !PyData.eqv (toPy d) (toPy e) else PyData.eqv (toPy d) (toPy e)))) else none
theorem rEqG_of {neg : Bool} {x y : V} {d e : PyData} {Q : VK} (h1 : Dp K H x d) (h2 : Dp K H y e) (h3 : SeqAt.shaped d = true) (h4 : SeqAt.shaped e = true) (q : Q (.bl (if neg then !PyData.eqv d e else PyData.eqv d e)) H) : rEqG K neg x y H Q := by
  have g : ∃ d e, Dp K H x d ∧ Dp K H y e ∧ SeqAt.shaped d = true ∧ SeqAt.shaped e = true ∧ Q (.bl (if neg then !PyData.eqv d e else PyData.eqv d e)) H := ⟨d, e, h1, h2, h3, h4, q⟩
  have dc : ∀ {α : Type} [DecidableEq α] [BEq α] [LawfulBEq α] (a b : α), (a == b) = decide (a = b) := fun a b => by
    by_cases h : a = b
    · rw [decide_eq_true h]; simpa using h
    · rw [decide_eq_false h]; simpa using h
  cases x <;> cases y <;> first
    | exact g
    | (cases h1; cases h2
       unfold PyData.eqv at q
       rw [dc] at q
       exact q)
theorem s_eq {neg : Bool} : OpT K (rEqG K neg) (opEq neg) := by
  intro H O x y d e t Q hn r1 r2 h q
  unfold opEq at h
  split at h
  · cases h; cases (show x = _ from r1); cases (show y = _ from r2)
    exact ans (K := K) q rfl
  · cases h; cases (show x = _ from r1); cases (show y = _ from r2)
    exact ans (K := K) q rfl
  · cases h; cases (show x = _ from r1); cases (show y = _ from r2)
    exact ans (K := K) q rfl
  · split at h
    · rename_i hz
      cases h
      unfold eqOk at hz
      simp only [Bool.and_eq_true] at hz
      exact rEqG_of (r1.dp hz.1.1) (r2.dp hz.2.1) hz.1.2 hz.2.2 (ans (K := K) q rfl)
    · cases h
/-- x is None, x is True .. -/
def isD (d e : D) : Option Bool := match e with
  | .non => match d with
    | .non => some true
    | _ => some false
  | .bl b => match d with
    | .bl c => some (decide (c = b))
    | _ => some false
  | _ => none
def opIs (neg : Bool) (d e : D) : Option T := (isD d e).map fun b => .val (.bl (if neg then !b else b))
theorem RSh.isNon {d : D} {v : V} (r : RSh K H O d v) : decide (v = .non) = (match d with | .non => true | _ => false) := by
  cases d with
  | non => cases (show _ = _ from r); rfl
  | bl b => cases (show _ = _ from r); rfl
  | int i => cases (show _ = _ from r); rfl
  | str x => cases (show _ = _ from r); rfl
  | ty n => cases (show _ = _ from r); rfl
  | glo x => cases (show _ = _ from r); rfl
  | tup ds => obtain ⟨p, vs, e, _⟩ := r; subst e; rfl
  | lst ds => obtain ⟨p, vs, e, _⟩ := r; subst e; rfl
  | fro ds => obtain ⟨p, vs, e, _⟩ := r; subst e; rfl
  | dic ks ds => obtain ⟨p, vs, e, _⟩ := r; subst e; rfl
  | obj c ns ds => obtain ⟨p, dx, vs, e, _⟩ := r; subst e; rfl
  | exc c ns ds => obtain ⟨p, vs, e, _⟩ := r; subst e; rfl
theorem RSh.isBl {d : D} {v : V} {b : Bool} (r : RSh K H O d v) : decide (v = .bl b) = (match d with | .bl c => decide (c = b) | _ => false) := by
  cases d with
  | non => cases (show _ = _ from r); rfl
  | bl c =>
    cases (show _ = _ from r)
    by_cases h : c = b
    · subst h; rw [decide_eq_true rfl]; exact (decide_eq_true rfl).symm
    · show _ = decide (c = b)
      rw [decide_eq_false h, decide_eq_false fun z => h (V.bl.inj z)]
  | int i => cases (show _ = _ from r); rfl
  | str x => cases (show _ = _ from r); rfl
  | ty n => cases (show _ = _ from r); rfl
  | glo x => cases (show _ = _ from r); rfl
  | tup ds => obtain ⟨p, vs, e, _⟩ := r; subst e; rfl
  | lst ds => obtain ⟨p, vs, e, _⟩ := r; subst e; rfl
  | fro ds => obtain ⟨p, vs, e, _⟩ := r; subst e; rfl
  | dic ks ds => obtain ⟨p, vs, e, _⟩ := r; subst e; rfl
  | obj c ns ds => obtain ⟨p, dx, vs, e, _⟩ := r; subst e; rfl
  | exc c ns ds => obtain ⟨p, vs, e, _⟩ := r; subst e; rfl
theorem isD_ok {d e : D} {x y : V} {b : Bool} (r1 : RSh K H O d x) (r2 : RSh K H O e y) (h : isD d e = some b) : (y = .non ∧ decide (x = .non) = b) ∨ ∃ c, y = .bl c ∧ decide (x = .bl c) = b := by
  cases e with
  | non =>
    refine .inl ⟨r2, ?_⟩
    rw [r1.isNon]
    cases d <;> cases h <;> rfl
  | bl c =>
    refine .inr ⟨c, r2, ?_⟩
    rw [r1.isBl]
    cases d <;> cases h <;> rfl
  | _ => cases h
theorem s_is : OpT K rIsG (opIs false) := by
  intro H O x y d e t Q hn r1 r2 h q
  unfold opIs at h
  cases e1 : isD d e with
  | none => rw [e1] at h; cases h
  | some b =>
    rw [e1] at h; cases h
    rcases isD_ok r1 r2 e1 with ⟨rfl, z⟩ | ⟨c, rfl, z⟩
    · show Q (.bl (decide (x = .non))) H
      rw [z]; exact ans (K := K) q rfl
    · show Q (.bl (decide (x = .bl c))) H
      rw [z]; exact ans (K := K) q rfl
theorem s_isnot : OpT K rIsnotG (opIs true) := by
  intro H O x y d e t Q hn r1 r2 h q
  unfold opIs at h
  cases e1 : isD d e with
  | none => rw [e1] at h; cases h
  | some b =>
    rw [e1] at h; cases h
    rcases isD_ok r1 r2 e1 with ⟨rfl, z⟩ | ⟨c, rfl, z⟩
    · show Q (.bl (!decide (x = .non))) H
      rw [z]; exact ans (K := K) q rfl
    · show Q (.bl (!decide (x = .bl c))) H
      rw [z]; exact ans (K := K) q rfl
/-- x in xs, flat items; one sign in a text -/
def flatD : D → Option V
  | .non => some .non
  | .bl b => some (.bl b)
  | .int i => some (.int i)
  | .str x => some (.str x)
  | _ => none
def flatDs : List D → Option (List V)
  | [] => some []
  | d :: ds => (flatD d).bind fun v => (flatDs ds).map (v :: ·)
theorem flat_rv {d : D} {x v : V} (r : Rv K H O d x) (h : flatD d = some v) : x = v ∧ flatV v = true := by
  cases d with
  | non => cases h; exact ⟨r, rfl⟩
  | bl b => cases h; exact ⟨r, rfl⟩
  | int i => cases h; exact ⟨r, rfl⟩
  | str s => cases h; exact ⟨r, rfl⟩
  | _ => cases h
theorem flat_rsh {d : D} {x v : V} (r : RSh K H O d x) (h : flatD d = some v) : x = v ∧ flatV v = true := by
  cases d with
  | non => cases h; exact ⟨r, rfl⟩
  | bl b => cases h; exact ⟨r, rfl⟩
  | int i => cases h; exact ⟨r, rfl⟩
  | str s => cases h; exact ⟨r, rfl⟩
  | _ => cases h
theorem flat_rvs : ∀ {ds : List D} {xs vs : List V}, Rvs K H O ds xs → flatDs ds = some vs → xs = vs ∧ vs.all flatV = true
  | [], _, _, e, h => by cases (show _ = [] from e); cases h; exact ⟨rfl, rfl⟩
  | d :: ds, _, zs, ⟨v, vs', e, a, r⟩, h => by
    unfold flatDs at h
    cases e1 : flatD d with
    | none => rw [e1] at h; cases h
    | some w =>
      rw [e1] at h
      have h : (flatDs ds).map (w :: ·) = some zs := h
      cases e2 : flatDs ds with
      | none => rw [e2] at h; cases h
      | some ws =>
        rw [e2] at h; cases h
        obtain ⟨a1, a2⟩ := flat_rv a e1
        obtain ⟨b1, b2⟩ := flat_rvs r e2
        subst e a1 b1
        exact ⟨rfl, by simp [a2, b2]⟩
def signOf (x : Str) : Option Nat := match x.cps.toList with
  | [c] => some c
  | _ => none
theorem signOf_eq {x : Str} {c : Nat} (h : signOf x = some c) : x = ⟨#[c]⟩ := by
  unfold signOf at h
  split at h
  · rename_i c' e
    cases h
    cases x with
    | mk a =>
      have e2 : a.toList = [c] := e
      have e3 : a = #[c] := by rw [← Array.toArray_toList (xs := a), e2]
      rw [e3]
  · cases h
def inD (d e : D) : Option Bool := match e with
  | .str z => match d with
    | .str x => (signOf x).map fun c => decide (c ∈ z.cps.toList)
    | _ => none
  | e => (items e).bind fun ds => (flatD d).bind fun v => (flatDs ds).map fun vs => inV v vs
def opIn (neg : Bool) (d e : D) : Option T := (inD d e).map fun b => .val (.bl (if neg then !b else b))
theorem s_in {neg : Bool} : OpT K (rInG K neg) (opIn neg) := by
  intro H O x y d e t Q hn r1 r2 h q
  unfold opIn at h
  cases e1 : inD d e with
  | none => rw [e1] at h; cases h
  | some b =>
    rw [e1] at h; cases h
    have seq : ((items e).bind fun ds => (flatD d).bind fun v => (flatDs ds).map fun vs => inV v vs) = some b → rInG K neg x y H Q := fun h => by
      cases e2 : items e with
      | none => rw [e2] at h; cases h
      | some ds =>
        rw [e2] at h
        cases e3 : flatD d with
        | none => rw [e3] at h; cases h
        | some v =>
          rw [e3] at h
          have h : (flatDs ds).map (fun vs => inV v vs) = some b := h
          cases e4 : flatDs ds with
          | none => rw [e4] at h; cases h
          | some vs =>
            rw [e4] at h; cases h
            obtain ⟨p, us, rfl, s, rs⟩ := r2.items e2
            obtain ⟨rfl, f1⟩ := flat_rsh r1 e3
            obtain ⟨rfl, f2⟩ := flat_rvs rs e4
            exact ⟨us, s, f1, f2, ans (K := K) q rfl⟩
    cases e with
    | str z =>
      cases (show y = _ from r2)
      unfold inD at e1
      dsimp only at e1
      cases d with
      | str s =>
        dsimp only at e1
        cases e5 : signOf s with
        | none => rw [e5] at e1; cases e1
        | some c =>
          rw [e5] at e1
          cases e1
          cases (show x = _ from r1)
          exact ⟨c, by rw [signOf_eq e5], ans (K := K) q rfl⟩
      | _ => cases e1
    | non => exact seq e1
    | bl b => exact seq e1
    | int i => exact seq e1
    | ty n => exact seq e1
    | glo n => exact seq e1
    | tup ds => exact seq e1
    | lst ds => exact seq e1
    | fro ds => exact seq e1
    | dic ks ds => exact seq e1
    | obj c ns ds => exact seq e1
    | exc c ns ds => exact seq e1
/-! ### subscripts of anything -/
def opIx (d k : D) : Option T := match k with
  | .int j => match d with
    | .str z => if z.length ≤ 16777216 then (L2.atI z.cps.toList j).map fun c => .val (.str ⟨#[c]⟩) else none
    | d => (items d).bind fun ds => (L2.atI ds j).map .val
  | _ => none
theorem s_ix : OpT K (rIxG K) opIx := by
  intro H O x y d e t Q hn r1 r2 h q
  unfold opIx at h
  cases e with
  | int j =>
    cases (show y = _ from r2)
    dsimp only at h
    have seq : ((items d).bind fun ds => (L2.atI ds j).map T.val) = some t → rIxG K x (.int j) H Q := fun h => by
      cases e1 : items d with
      | none => rw [e1] at h; cases h
      | some ds =>
        rw [e1] at h
        have h : (L2.atI ds j).map T.val = some t := h
        obtain ⟨p, vs, e0, s, rs⟩ := r1.items e1
        cases e2 : L2.atI ds j with
        | none => rw [e2] at h; cases h
        | some d2 =>
          rw [e2] at h; cases h
          obtain ⟨u, h1, h2⟩ := rs.atI e2
          subst e0
          exact ⟨vs, u, s, h1, ans (K := K) q h2⟩
    cases d with
    | str z =>
      cases (show x = _ from r1)
      dsimp only at h
      split at h
      · rename_i hz
        cases e2 : L2.atI z.cps.toList j with
        | none => rw [e2] at h; cases h
        | some c => rw [e2] at h; cases h; exact ⟨c, szl hz, e2, ans (K := K) q rfl⟩
      · cases h
    | non => exact seq h
    | bl b => exact seq h
    | int i => exact seq h
    | ty n => exact seq h
    | glo n => exact seq h
    | tup ds => exact seq h
    | lst ds => exact seq h
    | fro ds => exact seq h
    | dic ks ds => exact seq h
    | obj c ns ds => exact seq h
    | exc c ns ds => exact seq h
  | _ => cases h
/-! ### built-ins -/
def bLen : List D → Option T
  | [.str z] => if z.length ≤ 16777216 then some (.val (.int z.length)) else none
  | [d] => (items d).bind fun ds => if ds.length ≤ 16777216 then some (.val (.int ds.length)) else none
  | _ => none
theorem s_len : OpA K (rLenG K) bLen := by
  intro H O xs ds t Q hn r h q
  unfold bLen at h
  split at h
  · obtain ⟨v, vs', rfl, a, e⟩ := r
    cases (show vs' = [] from e)
    cases (show v = _ from a)
    split at h
    · rename_i hz
      cases h
      exact .inr ⟨_, rfl, szl hz, ans (K := K) q rfl⟩
    · cases h
  · rename_i d _
    obtain ⟨v, vs', rfl, a, e⟩ := r
    cases (show vs' = [] from e)
    cases e1 : items d with
    | none => rw [e1] at h; cases h
    | some es =>
      rw [e1] at h
      obtain ⟨p, us, rfl, s, rs⟩ := a.items e1
      have h : (if es.length ≤ 16777216 then some (T.val (.int es.length)) else none) = some t := h
      split at h
      · cases h
        exact .inl ⟨p, us, rfl, s, fun _ => by rw [rs.len]; exact ans (K := K) q rfl⟩
      · cases h
  · cases h
def bAbs : List D → Option T
  | [.int i] => some (.val (.int (if i < 0 then -i else i)))
  | _ => none
theorem s_abs : OpA K rAbsG bAbs := by
  intro H O xs ds t Q hn r h q
  unfold bAbs at h
  split at h
  · obtain ⟨v, vs', rfl, a, e⟩ := r
    cases (show vs' = [] from e)
    cases (show v = _ from a)
    cases h
    exact ⟨_, rfl, ans (K := K) q rfl⟩
  · cases h
def bMin : List D → Option T
  | [.int i, .int j] => some (.val (.int (if j < i then j else i)))
  | _ => none
theorem s_min : OpA K rMinG bMin := by
  intro H O xs ds t Q hn r h q
  unfold bMin at h
  split at h
  · obtain ⟨v, vs', rfl, a, w, vs2, rfl, b, e⟩ := r
    cases (show vs2 = [] from e)
    cases (show v = _ from a)
    cases (show w = _ from b)
    cases h
    exact ⟨_, _, rfl, ans (K := K) q rfl⟩
  · cases h
def bMax : List D → Option T
  | [.int i, .int j] => some (.val (.int (if j > i then j else i)))
  | _ => none
theorem s_max : OpA K rMaxG bMax := by
  intro H O xs ds t Q hn r h q
  unfold bMax at h
  split at h
  · obtain ⟨v, vs', rfl, a, w, vs2, rfl, b, e⟩ := r
    cases (show vs2 = [] from e)
    cases (show v = _ from a)
    cases (show w = _ from b)
    cases h
    exact ⟨_, _, rfl, ans (K := K) q rfl⟩
  · cases h
def bInt : List D → Option T
  | [.int i] => some (.val (.int i))
  | [.bl b] => some (.val (.int (if b then 1 else 0)))
  | _ => none
theorem s_int : OpA K rIntG bInt := by
  intro H O xs ds t Q hn r h q
  unfold bInt at h
  split at h
  · obtain ⟨v, vs', rfl, a, e⟩ := r
    cases (show vs' = [] from e)
    cases (show v = _ from a)
    cases h
    exact .inl ⟨_, rfl, ans (K := K) q rfl⟩
  · obtain ⟨v, vs', rfl, a, e⟩ := r
    cases (show vs' = [] from e)
    cases (show v = _ from a)
    cases h
    exact .inr ⟨_, rfl, ans (K := K) q rfl⟩
  · cases h
def bList : List D → Option T
  | [d] => (items d).map fun ds => .lst (leafs ds)
  | _ => none
theorem s_list : OpA K (rListG K) bList := by
  intro H O xs ds t Q hn r h q
  unfold bList at h
  split at h
  · rename_i d
    obtain ⟨v, vs', rfl, a, e⟩ := r
    cases (show vs' = [] from e)
    cases e1 : items d with
    | none => rw [e1] at h; cases h
    | some es =>
      rw [e1] at h; cases h
      obtain ⟨p, us, rfl, s, rs⟩ := a.items e1
      exact ⟨p, us, rfl, s, fun p0 hp => ansL hn hp rs q⟩
  · cases h
def bTup : List D → Option T
  | [d] => (items d).map fun ds => .val (.tup ds)
  | _ => none
theorem s_tup : OpA K (rTupG K) bTup := by
  intro H O xs ds t Q hn r h q
  unfold bTup at h
  split at h
  · rename_i d
    obtain ⟨v, vs', rfl, a, e⟩ := r
    cases (show vs' = [] from e)
    have lst : ∀ {p es us}, SqL K H p us → Rvs K H O es us → t = T.val (.tup es) → rTupG K [.ref p] H Q := fun {p es us} s rs e => by
      subst e
      exact ⟨p, us, rfl, .inl ⟨s, fun p0 hp => ansT hn (Evl.Ex.new hp) (SqT.of upd_same) rs q⟩⟩
    cases d with
    | lst es =>
      obtain ⟨p, us, rfl, s, rs⟩ := a
      cases h
      exact lst (SqL.of s) rs rfl
    | fro es =>
      obtain ⟨p, us, rfl, s, rs⟩ := a
      cases h
      exact lst s rs rfl
    | tup es =>
      obtain ⟨p, us, rfl, s, rs⟩ := a
      cases h
      exact ⟨p, us, rfl, .inr ⟨s.sq, ansT hn (Evl.Ex.refl H) s.sq rs q⟩⟩
    | _ => cases h
  · cases h
/-- isinstance(x, a built-in class) -/
def tyName : D → Option String
  | .non => some "NoneType"
  | .bl _ => some "bool"
  | .int _ => some "int"
  | .str _ => some "str"
  | .lst _ => some "list"
  | .tup _ => some "tuple"
  | _ => none
def bIsi : List D → Option T
  | [d, .ty c] => (tyName d).bind fun n => (PySem.W.kitOne [] (.type n) (.type c)).map fun b => .val (.bl b)
  | _ => none
theorem RSh.ty {d : D} {v : V} {n : String} (r : RSh K H O d v) (h : tyName d = some n) : TyX K H v (.type n) := by
  cases d with
  | non => cases (show _ = _ from r); cases h; exact .base .non
  | bl b => cases (show _ = _ from r); cases h; exact .base (.bl _)
  | int i => cases (show _ = _ from r); cases h; exact .base (.int _)
  | str x => cases (show _ = _ from r); cases h; exact .base (.str _)
  | lst ds => obtain ⟨p, vs, e, a, _⟩ := r; subst e; cases h; exact .base (.lst a)
  | tup ds => obtain ⟨p, vs, e, a, _⟩ := r; subst e; cases h; exact ty_tup a.sq
  | _ => cases h
theorem s_isi : OpA K (rIsi K) bIsi := by
  intro H O xs ds t Q hn r h q
  unfold bIsi at h
  split at h
  · rename_i d c
    obtain ⟨v, vs', rfl, a, w, vs2, rfl, b, e⟩ := r
    cases (show vs2 = [] from e)
    cases (show w = _ from b)
    cases e1 : tyName d with
    | none => rw [e1] at h; cases h
    | some n =>
      rw [e1] at h
      have h : (PySem.W.kitOne [] (.type n) (.type c)).map (fun b => T.val (.bl b)) = some t := h
      cases e2 : PySem.W.kitOne [] (.type n) (.type c) with
      | none => rw [e2] at h; cases h
      | some b2 =>
        rw [e2] at h; cases h
        exact ⟨v, .ty c, .type n, .type c, b2, rfl, .ty c, a.ty e1, kit_ty e2, ans (K := K) q rfl⟩
  · cases h
def bSum : List D → Option T
  | [d] => (items d).bind fun ds => (intsOf ds).map fun ns => .val (.int ns.sum)
  | _ => none
where intsOf : List D → Option (List Int)
  | [] => some []
  | .int i :: ds => (intsOf ds).map (i :: ·)
  | _ :: _ => none
end
end KM

/-! Statements, loops, comprehensions. -/
namespace KM
open PySem PySem.Spec PyProof.Rows L2 Evl KP
inductive Out where
  | nx (e : Env) | brk (e : Env) | cnt (e : Env) | ret (t : T) (e : Env) | exc (c : Str) (ns : List Str) (ds : List D) (e : Env) | stuck
abbrev SM := Env → Out
/-- the slots that no statement stores -/
def Kept (Fz : List Nat) (σ σ' : L2.St) : Prop := ∀ i ∈ Fz, σ'[i]? = σ[i]?
theorem Kept.refl {Fz : List Nat} (σ : L2.St) : Kept Fz σ σ := fun _ _ => rfl
theorem Kept.trans {Fz : List Nat} {a b c : L2.St} (h : Kept Fz a b) (g : Kept Fz b c) : Kept Fz a c := fun i hi => (g i hi).trans (h i hi)
theorem Kept.set {Fz : List Nat} {σ : L2.St} {i : Nat} {x : Option V} (h : Fz.contains i = false) : Kept Fz σ (σ.set i x) := fun j hj => by
  refine List.getElem?_set_ne fun z => ?_
  subst z
  rw [List.contains_iff_mem.mpr hj] at h
  cases h
/-- what is wanted of a statement's end -/
def SPost (K : PySem.W.Frag) (Wx : WX) (Fz : List Nat) (Oo W : List Addr) (σ : L2.St) (H : Hp) (A : Ends) : Out → Prop
  | .nx e => ∀ σ' H' W', Lv H W H' W' → ER K Oo W' σ' H' e → Kept Fz σ σ' → A.nx σ' H'
  | .brk e => ∀ σ' H' W', Lv H W H' W' → ER K Oo W' σ' H' e → Kept Fz σ σ' → A.bk σ' H'
  | .cnt e => ∀ σ' H' W', Lv H W H' W' → ER K Oo W' σ' H' e → Kept Fz σ σ' → A.ct σ' H'
  | .ret t e => ∀ v σ' H' W' fp, Lv H W H' (W' ++ fp) → ER K (Oo ++ fp) W' σ' H' e → Kept Fz σ σ' → fp.Nodup → (∀ p ∈ fp, p ∉ Oo) → Ow K H' (Oo ++ fp ++ W') t v fp → A.rt v H'
  | .exc c ns ds e => ∀ dx σ' H' W', Lv H W H' W' → ER K Oo W' σ' H' e → Kept Fz σ σ' → ExR K H' (Oo ++ W') dx ns ds → Wx (.ref (He.ga K c)) dx σ' H'
  | .stuck => False
def IS (K : PySem.W.Frag) (Wx : WX) (Fz : List Nat) (ts : TS) (m : SM) : Prop := ∀ Oo W σ H env A, ER K Oo W σ H env → SPost K Wx Fz Oo W σ H A (m env) → ts A σ H
section
variable {K : PySem.W.Frag} {Wx : WX} {Fz : List Nat} {H H' H1 H2 : Hp} {O O' Oo W W' W1 W2 fp : List Addr} {σ σ' : L2.St} {env env' : Env} {te ta tb tc : TE} {tt tu : TT} {tas : TA} {ts us : TS} {A : Ends}
theorem SPost.lv {o : Out} (l : Lv H W H' W') (k : Kept Fz σ σ') (h : SPost K Wx Fz Oo W σ H A o) : SPost K Wx Fz Oo W' σ' H' A o := by
  cases o with
  | nx e => exact fun σ2 H2 W2 l2 E k2 => h σ2 H2 W2 (l.trans l2) E (k.trans k2)
  | brk e => exact fun σ2 H2 W2 l2 E k2 => h σ2 H2 W2 (l.trans l2) E (k.trans k2)
  | cnt e => exact fun σ2 H2 W2 l2 E k2 => h σ2 H2 W2 (l.trans l2) E (k.trans k2)
  | ret t e => exact fun v σ2 H2 W2 fp l2 E k2 => h v σ2 H2 W2 fp (l.trans l2) E (k.trans k2)
  | exc c ns ds e => exact fun dx σ2 H2 W2 l2 E k2 => h dx σ2 H2 W2 (l.trans l2) E (k.trans k2)
  | stuck => exact h
theorem OkX.of {c : Str} {ns : List Str} {ds : List D} {e : Env} (h : SPost K Wx Fz Oo W σ H A (.exc c ns ds e)) : OkX K Wx Oo W σ H c ns ds e := fun dx H' W' l E x => h dx σ H' W' l E (Kept.refl _) x
/-- an expression, then the rest -/
def thenS {α : Type} (m : M α) (k : α → SM) : SM := fun env => match m env with
  | .ok a e => k a e
  | .exc c ns ds e => .exc c ns ds e
  | .stuck => .stuck
theorem thenS_to {α : Type} {m : M α} {k : α → SM} (h : SPost K Wx Fz Oo W σ H A (thenS m k env)) : (m env).To (fun a e => SPost K Wx Fz Oo W σ H A (k a e)) (OkX K Wx Oo W σ H) := by
  unfold thenS at h
  cases z : m env with
  | ok a e => rw [z] at h; exact h
  | exc c ns ds e => rw [z] at h; exact OkX.of h
  | stuck => rw [z] at h; exact h
/-! ### sequences -/
def sNil : SM := fun env => .nx env
def sSeq (a b : SM) : SM := fun env => match a env with
  | .nx e => b e
  | o => o
theorem is_nil : IS K Wx Fz tNext sNil := fun Oo W σ H env A E q => q σ H W (Lv.refl _ _) E (Kept.refl _)
theorem is_seq {ma mb} (a : IS K Wx Fz ts ma) (b : IS K Wx Fz us mb) : IS K Wx Fz (tSeq ts us) (sSeq ma mb) := fun Oo W σ H env A E q => by
  refine a Oo W σ H env ⟨us A, A.rt, A.bk, A.ct⟩ E ?_
  unfold sSeq at q
  cases z : ma env with
  | nx e =>
    rw [z] at q
    exact fun σ1 H1 W1 l1 E1 k1 => b Oo W1 σ1 H1 e A E1 (SPost.lv l1 k1 q)
  | brk e => rw [z] at q; exact q
  | cnt e => rw [z] at q; exact q
  | ret t e => rw [z] at q; exact q
  | exc c ns ds e => rw [z] at q; exact q
  | stuck => rw [z] at q; exact q
def sBrk : SM := fun env => .brk env
theorem is_brk : IS K Wx Fz tBreak sBrk := fun Oo W σ H env A E q => q σ H W (Lv.refl _ _) E (Kept.refl _)
def sCnt : SM := fun env => .cnt env
theorem is_cnt : IS K Wx Fz tCont sCnt := fun Oo W σ H env A E q => q σ H W (Lv.refl _ _) E (Kept.refl _)
/-- an expression's value thrown away -/
def sDrop (m : M T) : SM := thenS m fun _ => sNil
theorem is_drop {m} (a : IO K Wx te m) : IS K Wx Fz (tDrop te) (sDrop m) := fun Oo W σ H env A E q => by
  refine a Oo W σ H env _ E ((thenS_to q).mono (fun t e q v H' W' fp l E' nd nf o => ?_) fun _ _ _ _ x => x)
  have sb : ∀ p ∈ Oo ++ W', p ∈ Oo ++ fp ++ W' := fun p hp => by simp at hp ⊢; rcases hp with z | z <;> simp [z]
  exact q σ H' W' ⟨l.kp, fun p hp => l.out p (List.mem_append_left _ hp)⟩ ⟨E'.ce.lv (Lv.sub sb) fun _ _ => rfl, E'.nd, fun p hp z => E'.dj p hp (List.mem_append_left _ z), fun p hp => E'.dom p (List.mem_append_left _ hp)⟩ (Kept.refl _)
def sRet (m : M T) : SM := thenS m fun t => fun e => .ret t e
theorem is_ret {m} (a : IO K Wx te m) : IS K Wx Fz (tRet te) (sRet m) := fun Oo W σ H env A E q =>
  a Oo W σ H env _ E ((thenS_to q).mono (fun t e q v H' W' fp l E' nd nf o => q v σ H' W' fp l E' (Kept.refl _) nd nf o) fun _ _ _ _ x => x)
def sRetN : SM := fun env => .ret (.val .non) env
theorem is_retN : IS K Wx Fz tRetN sRetN := fun Oo W σ H env A E q =>
  q .non σ H W [] (by simpa using Lv.refl H W) (by simpa using E) (Kept.refl _) List.nodup_nil (by simp) ⟨rfl, rfl⟩
def sIf (c : M Bool) (a b : SM) : SM := thenS c fun x => if x = true then a else b
theorem is_if {mc ma mb} (c : IT K Wx tt mc) (a : IS K Wx Fz ts ma) (b : IS K Wx Fz us mb) : IS K Wx Fz (tIfS tt ts us) (sIf mc ma mb) := fun Oo W σ H env A E q => by
  refine c Oo W σ H env _ E ((thenS_to q).mono (fun x e q H' W' l E' => ?_) fun _ _ _ _ x => x)
  cases x with
  | true => exact a Oo W' σ H' e A E' (SPost.lv l (Kept.refl _) q)
  | false => exact b Oo W' σ H' e A E' (SPost.lv l (Kept.refl _) q)

/-! ### stores -/
/-- a cell gets a tree whose objects were new -/
theorem ER.store {t : T} {v : V} (E : ER K (Oo ++ fp) W σ H env) (nd : fp.Nodup) (nf : ∀ p ∈ fp, p ∉ Oo) (o : Ow K H (Oo ++ fp ++ W) t v fp) (i : Nat) :
    ∃ W', (∀ p ∈ W', p ∈ W ++ fp) ∧ ER K Oo W' (σ.set i (some v)) H (env.set i (some t)) := by
  by_cases hi : i < env.length
  · obtain ⟨A, f, B, h2, h4⟩ := E.ce.put hi
    have nd0 := E.nd
    rw [h2] at nd0
    have nd2 := List.nodup_append.mp nd0
    have nd1 := List.nodup_append.mp nd2.1
    have sub : ∀ p ∈ A ++ fp ++ B, p ∈ W ++ fp := fun p hp => by rw [h2]; simp at hp ⊢; rcases hp with z | z | z <;> simp [z]
    have dj : ∀ p ∈ W, p ∉ fp := fun p hp z => E.dj p hp (List.mem_append_right _ z)
    have l : Lv H (Oo ++ fp ++ W) H (Oo ++ (A ++ fp ++ B)) := Lv.sub fun p hp => by
      rcases List.mem_append.mp hp with z | z
      · simp [z]
      · have := sub p z
        simp at this ⊢
        rcases this with z | z <;> simp [z]
    refine ⟨A ++ fp ++ B, sub, h4 (c := some t) (s := some v) l (fun _ _ => rfl) (fun t' e => by cases e; exact ⟨v, rfl, o.lv l fun _ _ => rfl⟩) (fun z => by cases z), ?_, fun p hp z => ?_, fun p hp => E.dom p (List.mem_append_left _ hp)⟩
    · refine List.nodup_append.mpr ⟨List.nodup_append.mpr ⟨nd1.1, nd, fun a ha b hb z => ?_⟩, nd2.2.1, fun a ha b hb z => ?_⟩
      · subst z; exact dj a (by rw [h2]; simp [ha]) hb
      · subst z
        rcases List.mem_append.mp ha with y | y
        · exact nd2.2.2 a (List.mem_append_left _ y) a hb rfl
        · exact dj a (by rw [h2]; simp [hb]) y
    · rcases List.mem_append.mp (sub p hp) with y | y
      · exact E.dj p y (List.mem_append_left _ z)
      · exact nf p y z
  · have e1 : env.set i (some t) = env := List.set_eq_of_length_le (by omega)
    have e2 : σ.set i (some v) = σ := List.set_eq_of_length_le (by rw [E.len]; omega)
    rw [e1, e2]
    have sb : ∀ p ∈ Oo ++ W, p ∈ Oo ++ fp ++ W := fun p hp => by simp at hp ⊢; rcases hp with z | z <;> simp [z]
    exact ⟨W, fun p hp => List.mem_append_left _ hp, E.ce.lv (Lv.sub sb) fun _ _ => rfl, E.nd, fun p hp z => E.dj p hp (List.mem_append_left _ z), fun p hp => E.dom p (List.mem_append_left _ hp)⟩
theorem ER.storeV {d : D} {v : V} (E : ER K Oo W σ H env) (r : Rv K H (Oo ++ W) d v) (i : Nat) :
    ∃ W', (∀ p ∈ W', p ∈ W) ∧ ER K Oo W' (σ.set i (some v)) H (env.set i (some (.val d))) := by
  obtain ⟨W', h1, h2⟩ := ER.store (fp := []) (t := .val d) (v := v) (by simpa using E) List.nodup_nil (by simp) ⟨rfl, by simpa using r⟩ i
  exact ⟨W', fun p hp => by simpa using h1 p hp, h2⟩
def sAsg (i : Nat) (m : M T) : SM := thenS m fun t => fun e => .nx (e.set i (some t))
theorem is_asg {i : Nat} {m} (hz : Fz.contains i = false) (a : IO K Wx te m) : IS K Wx Fz (tAsg te (gName i)) (sAsg i m) := fun Oo W σ H env A E q => by
  refine a Oo W σ H env _ E ((thenS_to q).mono (fun t e q v H' W' fp l E' nd nf o => ?_) fun _ _ _ _ x => x)
  obtain ⟨W2, s, E2⟩ := ER.store E' nd nf o i
  exact q _ H' W2 (l.trans (Lv.less s)) E2 (Kept.set hz)
/-- targets; gl: the slots that are stored -/
structure Only (gl : List Nat) (σ σ' : L2.St) : Prop where
  len : σ'.length = σ.length
  at_ : ∀ i, i ∉ gl → σ'[i]? = σ[i]?
theorem Only.refl {gl : List Nat} (σ : L2.St) : Only gl σ σ := ⟨rfl, fun _ _ => rfl⟩
theorem Only.trans {gl : List Nat} {a b c : L2.St} (h : Only gl a b) (g : Only gl b c) : Only gl a c := ⟨g.len.trans h.len, fun i hi => (g.at_ i hi).trans (h.at_ i hi)⟩
theorem Only.mono {gl gl' : List Nat} {a b : L2.St} (h : Only gl a b) (s : ∀ i ∈ gl, i ∈ gl') : Only gl' a b := ⟨h.len, fun i hi => h.at_ i fun z => hi (s i z)⟩
theorem Only.set (i : Nat) (x : Option V) : Only [i] σ (σ.set i x) := ⟨by simp, fun j hj => List.getElem?_set_ne fun z => hj (by simp [z])⟩
def apart (gl Fz : List Nat) : Bool := gl.all fun i => !Fz.contains i
theorem Only.kept {gl : List Nat} (h : Only gl σ σ') (a : apart gl Fz = true) : Kept Fz σ σ' := fun i hi => h.at_ i fun z => by
  have := List.all_eq_true.mp a i z
  rw [List.contains_iff_mem.mpr hi] at this
  cases this
def IG (K : PySem.W.Frag) (gl : List Nat) (tg : TG) (g : D → Env → Option Env) : Prop := ∀ Oo W σ H env d x (R : L2.St → Hp → Prop), ER K Oo W σ H env → Rv K H (Oo ++ W) d x →
  (∃ e, g d env = some e ∧ ∀ σ' W', (∀ p ∈ W', p ∈ W) → ER K Oo W' σ' H e → Only gl σ σ' → R σ' H) → tg x σ H R
def IGs (K : PySem.W.Frag) (gl : List Nat) (tg : TGs) (g : List D → Env → Option Env) : Prop := ∀ Oo W σ H env ds xs (R : L2.St → Hp → Prop), ER K Oo W σ H env → Rvs K H (Oo ++ W) ds xs →
  (∃ e, g ds env = some e ∧ ∀ σ' W', (∀ p ∈ W', p ∈ W) → ER K Oo W' σ' H e → Only gl σ σ' → R σ' H) → tg xs σ H R
def gNm (i : Nat) : D → Env → Option Env := fun d env => some (env.set i (some (.val d)))
theorem ig_nm {i : Nat} : IG K [i] (gName i) (gNm i) := fun Oo W σ H env d x R E r ⟨e, h, q⟩ => by
  cases h
  obtain ⟨W', s, E'⟩ := E.storeV r i
  exact q _ W' s E' (Only.set i _)
def gNl : List D → Env → Option Env := fun ds env => match ds with
  | [] => some env
  | _ => none
def gCn (g : D → Env → Option Env) (gs : List D → Env → Option Env) : List D → Env → Option Env := fun ds env => match ds with
  | [] => none
  | d :: ds => (g d env).bind (gs ds)
theorem igs_nil : IGs K [] gNil gNl := fun Oo W σ H env ds xs R E r ⟨e, h, q⟩ => by
  cases ds with
  | nil => cases h; cases (show xs = [] from r); exact ⟨rfl, q σ W (fun _ h => h) E (Only.refl _)⟩
  | cons d ds => cases h
theorem igs_cons {g gs} {g1 g2 : List Nat} {tg : TG} {tgs : TGs} (a : IG K g1 tg g) (b : IGs K g2 tgs gs) : IGs K (g1 ++ g2) (gCons tg tgs) (gCn g gs) := fun Oo W σ H env ds xs R E r ⟨e, h, q⟩ => by
  cases ds with
  | nil => cases h
  | cons d ds =>
    obtain ⟨v, vs', e0, r1, r2⟩ := r
    have h : (g d env).bind (gs ds) = some e := h
    cases z : g d env with
    | none => rw [z] at h; cases h
    | some e1 =>
      rw [z] at h
      refine ⟨v, vs', e0, a Oo W σ H env d v _ E r1 ⟨e1, z, fun σ1 W1 s1 E1 k1 => ?_⟩⟩
      have sb : ∀ p ∈ Oo ++ W1, p ∈ Oo ++ W := fun p hp => by
        rcases List.mem_append.mp hp with y | y
        · exact List.mem_append_left _ y
        · exact List.mem_append_right _ (s1 p y)
      exact b Oo W1 σ1 H e1 ds vs' R E1 (r2.lv (Lv.sub sb)) ⟨e, h, fun σ2 W2 s2 E2 k2 => q σ2 W2 (fun p hp => s1 p (s2 p hp)) E2 ((k1.mono fun i hi => List.mem_append_left _ hi).trans (k2.mono fun i hi => List.mem_append_right _ hi))⟩
def gTp (n : Nat) (gs : List D → Env → Option Env) : D → Env → Option Env := fun d env => match d with
  | .tup ds => if ds.length = n then gs ds env else none
  | _ => none
theorem ig_tup {n : Nat} {gs} {gl : List Nat} {tgs : TGs} (b : IGs K gl tgs gs) : IG K gl (gTup K n tgs) (gTp n gs) := fun Oo W σ H env d x R E r ⟨e, h, q⟩ => by
  cases d with
  | tup ds =>
    obtain ⟨p, vs, e0, a, rs⟩ := r
    have h : (if ds.length = n then gs ds env else none) = some e := h
    split at h
    · rename_i hn
      exact ⟨p, vs, e0, a.sq, rs.len.trans hn, b Oo W σ H env ds vs R E rs ⟨e, h, q⟩⟩
    · cases h
  | _ => cases h
def sGt (m : M D) (g : D → Env → Option Env) : SM := thenS m fun d => fun e => match g d e with
  | some e' => .nx e'
  | none => .stuck
theorem is_gt {m g} {gl : List Nat} {tg : TG} (hz : apart gl Fz = true) (a : IV K Wx te m) (b : IG K gl tg g) : IS K Wx Fz (tAsg te tg) (sGt m g) := fun Oo W σ H env A E q => by
  refine a Oo W σ H env _ E ((thenS_to q).mono (fun d e q v H' W' l E' r => ?_) fun _ _ _ _ x => x)
  cases z : g d e with
  | none => rw [z] at q; exact q.elim
  | some e2 =>
    rw [z] at q
    exact b Oo W' σ H' e d v _ E' r ⟨e2, z, fun σ2 W2 s2 E2 k2 => q σ2 H' W2 (l.trans (Lv.less s2)) E2 (k2.kept hz)⟩
/-- x op= e, ints -/
def IIp (K : PySem.W.Frag) (ti : TIp) (op : D → D → Option D) : Prop := ∀ H O x y d e z (Q : VK), Rv K H O d x → Rv K H O e y → op d e = some z → (∀ v H', Evl.Ex H H' → Rv K H' O z v → Q v H') → ti x y H Q
def ipI (C : Int → Int → Bool) (f : Int → Int → Int) : D → D → Option D
  | .int i, .int j => if C i j = true then some (.int (f i j)) else none
  | _, _ => none
theorem ip_I {C : Int → Int → Bool} {P : Int → Int → Prop} {f : Int → Int → Int} (hc : ∀ i j, C i j = true → P i j) : IIp K (ipF f P) (ipI C f) := by
  intro H O x y d e z Q r1 r2 h q
  unfold ipI at h
  split at h
  · split at h
    · rename_i hz
      cases h; cases (show x = _ from r1); cases (show y = _ from r2)
      exact ⟨hc _ _ hz, q _ H (Evl.Ex.refl H) rfl⟩
    · cases h
  · cases h
def yes2 : Int → Int → Bool := fun _ _ => true
def ipAdd := ipI yes2 fun i j => i + j
theorem i_add : IIp K (ipF (fun i j => i + j) fun _ _ => True) ipAdd := ip_I fun _ _ _ => trivial
def ipSub := ipI yes2 fun i j => i - j
theorem i_sub : IIp K (ipF (fun i j => i - j) fun _ _ => True) ipSub := ip_I fun _ _ _ => trivial
def ipXor := ipI yes2 Builtin.bitXor
theorem i_xor : IIp K (ipF (fun i j => Builtin.bitXor i j) fun _ _ => True) ipXor := ip_I fun _ _ _ => trivial
def sAug (i : Nat) (m : M D) (op : D → D → Option D) : SM := fun env => match env[i]? with
  | some (some (.val d)) => (thenS m fun y => fun e => match op d y with
    | some z => .nx (e.set i (some (.val z)))
    | none => .stuck) env
  | _ => .stuck
theorem is_aug {i : Nat} {m op} {ti : TIp} (hz : Fz.contains i = false) (a : IV K Wx te m) (o : IIp K ti op) : IS K Wx Fz (tAug i te ti) (sAug i m op) := fun Oo W σ H env A E q => by
  unfold sAug at q
  split at q
  · rename_i d hd
    obtain ⟨x, A0, f, B, h1, _, h3, _⟩ := E.ce.at hd
    refine ⟨x, h1, a Oo W σ H env _ E ((thenS_to q).mono (fun y e q v H' W' l E' r => ?_) fun _ _ _ _ x => x)⟩
    cases z : op d y with
    | none => rw [z] at q; exact q.elim
    | some w =>
      rw [z] at q
      refine o H' (Oo ++ W') x v d y w _ (h3.2.lv (l.oo Oo)) r z fun u H2 ex r2 => ?_
      obtain ⟨W2, s2, E2⟩ := (E'.ex ex).storeV r2 i
      exact q _ H2 W2 ((l.trans (Lv.ex ex)).trans (Lv.less s2)) E2 (Kept.set hz)
  · exact q.elim

/-! ### what is changed at a place -/
/-- the tree at a place changes -/
theorem ER.chg (E : ER K (Oo ++ fp) W σ H env) {i : Nat} {π : List Sg} {t : T} {w : V} {Ad f B f' : List Addr} {u' : T} (hW : W = Ad ++ f ++ B)
    (put : ∀ {H' : Hp} {O' : List Addr} {u' : T} {f' : List Addr}, Lv H (Oo ++ fp ++ W) H' O' → Kp H H' (Ad ++ B) → Ow K H' O' u' w f' → Ce K H' O' (env.set i (some (t.put π u'))) σ (Ad ++ f' ++ B))
    (hu : ∀ q o, q ∉ f → H q = some o → H' q = some o) (nf : ∀ p ∈ fp, p ∉ Oo) (hf : ∀ q ∈ f', q ∈ f ∨ q ∈ fp ∨ H q = none) (nd' : f'.Nodup)
    (o : ∀ O', Lv H (Oo ++ fp ++ W) H' O' → (∀ q ∈ f', q ∈ O') → Ow K H' O' u' w f') : ∃ W', Lv H (W ++ fp) H' W' ∧ ER K Oo W' σ H' (env.set i (some (t.put π u'))) := by
  have nd0 := E.nd
  rw [hW] at nd0
  have nd2 := List.nodup_append.mp nd0
  have nd1 := List.nodup_append.mp nd2.1
  have notf : ∀ q, q ∈ Ad ++ B → q ∉ f := fun q hq z => by
    rcases List.mem_append.mp hq with y | y
    · exact nd1.2.2 q y q z rfl
    · exact nd2.2.2 q (List.mem_append_right _ z) q y rfl
  have dW : ∀ q ∈ W, Mut (H q) := E.ce.dom
  have inW : ∀ q, q ∈ Ad ++ B → q ∈ W := fun q hq => by rw [hW]; simp at hq ⊢; rcases hq with y | y <;> simp [y]
  have fW : ∀ q, q ∈ f → q ∈ W := fun q hq => by rw [hW]; simp [hq]
  have k : Kp H H' (Ad ++ B) := fun q hq => by
    obtain ⟨ob, ho⟩ := Mut.ex (dW q (inW q hq))
    rw [ho]
    exact hu q ob (notf q hq) ho
  have l : Lv H (Oo ++ fp ++ W) H' (Oo ++ (Ad ++ f' ++ B)) := ⟨fun p ob hn hp => hu p ob (fun z => hn (List.mem_append_right _ (fW p z))) hp, fun p hp => by
    simp only [List.mem_append] at hp ⊢
    rcases hp with y | (y | y) | y
    · exact .inl (.inl (.inl y))
    · exact .inl (.inr (inW p (List.mem_append_left _ y)))
    · rcases hf p y with y | y | y
      · exact .inl (.inr (fW p y))
      · exact .inl (.inl (.inr y))
      · exact .inr y
    · exact .inl (.inr (inW p (List.mem_append_right _ y)))⟩
  refine ⟨Ad ++ f' ++ B, ⟨fun p ob hn hp => hu p ob (fun z => hn (List.mem_append_left _ (fW p z))) hp, fun p hp => ?_⟩, put l k (o _ l fun q hq => by simp [hq]), ?_, fun p hp z => ?_, fun p hp => ?_⟩
  · simp only [List.mem_append] at hp ⊢
    rcases hp with (y | y) | y
    · exact .inl (.inl (inW p (List.mem_append_left _ y)))
    · rcases hf p y with y | y | y
      · exact .inl (.inl (fW p y))
      · exact .inl (.inr y)
      · exact .inr y
    · exact .inl (.inl (inW p (List.mem_append_right _ y)))
  · have key : ∀ a, a ∈ f' → a ∈ Ad ++ B → False := fun a ha hb => by
      rcases hf a ha with y | y | y
      · exact notf a hb y
      · exact E.dj a (inW a hb) (List.mem_append_right _ y)
      · obtain ⟨ob, ho⟩ := Mut.ex (dW a (inW a hb))
        rw [y] at ho; cases ho
    refine List.nodup_append.mpr ⟨List.nodup_append.mpr ⟨nd1.1, nd', fun a ha b hb z => ?_⟩, nd2.2.1, fun a ha b hb z => ?_⟩
    · subst z; exact key a hb (List.mem_append_left _ ha)
    · subst z
      rcases List.mem_append.mp ha with y | y
      · exact nd2.2.2 a (List.mem_append_left _ y) a hb rfl
      · exact key a y (List.mem_append_right _ hb)
  · simp only [List.mem_append] at hp
    rcases hp with (y | y) | y
    · exact E.dj p (inW p (List.mem_append_left _ y)) (List.mem_append_left _ z)
    · rcases hf p y with y | y | y
      · exact E.dj p (fW p y) (List.mem_append_left _ z)
      · exact nf p y z
      · obtain ⟨ob, ho⟩ := Mut.ex (E.dom p (List.mem_append_left _ z))
        rw [y] at ho; cases ho
    · exact E.dj p (inW p (List.mem_append_right _ y)) (List.mem_append_left _ z)
  · have hn : p ∉ f := fun y => E.dj p (fW p y) (List.mem_append_left _ hp)
    obtain ⟨ob, ho⟩ := Mut.ex (E.dom p (List.mem_append_left _ hp))
    have m := E.dom p (List.mem_append_left _ hp)
    rw [ho] at m
    rw [hu p ob hn ho]
    exact m
def putAt (env : Env) (i : Nat) (π : List Sg) (u : T) : Env := match env[i]? with
  | some (some t) => env.set i (some (t.put π u))
  | _ => env
theorem Ows.snoc {ts : List T} {vs : List V} {fq : List Addr} {t : T} {v : V} : ∀ {ts : List T} {vs : List V} {fq : List Addr}, Ows K H O ts vs fq → Ow K H O t v fp → Ows K H O (ts ++ [t]) (vs ++ [v]) (fq ++ fp)
  | [], _, _, ⟨e, ef⟩, o => by subst e ef; exact ⟨v, [], fp, [], rfl, by simp, o, rfl, rfl⟩
  | t0 :: ts, _, _, ⟨v0, vs', f1, f2, e, ef, a, r⟩, o => by subst e ef; exact ⟨v0, _, f1, f2 ++ fp, rfl, by simp, a, Ows.snoc (ts := ts) (vs := vs') (fq := f2) r o⟩
theorem ow_nodup (E : ER K Oo W σ H env) {Ad f B : List Addr} (hW : W = Ad ++ f ++ B) : f.Nodup := by
  have nd := E.nd
  rw [hW] at nd
  exact (List.nodup_append.mp (List.nodup_append.mp nd).1).2.1
/-- a list at a place: its root p changes -/
theorem ER.chgL (E : ER K (Oo ++ fp) W σ H env) (nf : ∀ p ∈ fp, p ∉ Oo) {i : Nat} {π : List Sg} {ts us : List T} {v : V} (hn : nodeOf env i π = some (.lst ts)) (hv : OpdR K H (Oo ++ fp ++ W) σ (.loc i π) v) :
    ∃ p vs fq, v = .ref p ∧ H p = some (.lst vs) ∧ Ows K H (Oo ++ fp ++ W) ts vs fq ∧ p ∉ fq ∧ fq.Nodup ∧ p ∉ fp ∧ (∀ q ∈ fq, q ∉ fp) ∧ ∀ (us : List T) (ws : List V) (f' : List Addr),
      (∀ q ∈ f', q ∈ fq ∨ q ∈ fp) → f'.Nodup → (∀ O' : List Addr, Lv H (Oo ++ fp ++ W) (upd H p (.lst ws)) O' → (∀ q, q ≠ p → (upd H p (.lst ws)) q = H q) → Ows K (upd H p (.lst ws)) O' us ws f') →
      ∃ W', Lv H (W ++ fp) (upd H p (.lst ws)) W' ∧ ER K Oo W' σ (upd H p (.lst ws)) (putAt env i π (.lst us)) := by
  obtain ⟨t, r, ht, h0, h1, w, Ad, f, B, n1, n2, n3, n4⟩ := E.node hn
  obtain ⟨r', h1', n'⟩ := hv
  rw [h1] at h1'; cases h1'
  cases Nav.inj n' n1
  have ndf := ow_nodup E n2
  obtain ⟨p, vs, fq, e, ef, hp, rs⟩ := n3
  subst ef
  have dj : ∀ q ∈ p :: fq, q ∉ fp := fun q hq z => E.dj q (by rw [n2]; simp at hq ⊢; rcases hq with y | y <;> simp [y]) (List.mem_append_right _ z)
  have nd2 := List.nodup_cons.mp ndf
  refine ⟨p, vs, fq, e, hp, rs, nd2.1, nd2.2, dj p List.mem_cons_self, fun q hq => dj q (List.mem_cons_of_mem _ hq), fun us ws f' hf nd' o => ?_⟩
  have := ER.chg (f' := p :: f') (u' := .lst us) (H' := upd H p (.lst ws)) E n2 n4 (fun q ob hq h => by rw [upd_ne (fun z => hq (by rw [z]; exact List.mem_cons_self))]; exact h) nf
    (fun q hq => by
      rcases List.mem_cons.mp hq with y | y
      · exact .inl (by rw [y]; exact List.mem_cons_self)
      · rcases hf q y with y | y
        · exact .inl (List.mem_cons_of_mem _ y)
        · exact .inr (.inl y)) (List.nodup_cons.mpr ⟨fun y => by
          rcases hf p y with y | y
          · exact nd2.1 y
          · exact dj p List.mem_cons_self y, nd'⟩)
    (fun O' l _ => ⟨p, ws, f', e, rfl, upd_same, o O' l fun q hq => upd_ne hq⟩)
  unfold putAt
  rw [ht]
  exact this
/-- o[k] = e -/
def sPut (m : M T) (pl : Env → Option Opd) (ix : Env → Option D) : SM := thenS m fun t => fun e => match pl e with
  | some (.loc i π) => match ix e with
    | some (.int k) => match nodeOf e i π with
      | some (.lst ts) => match ixN ts.length k with
        | some n => .nx (putAt e i π (.lst (ts.set n t)))
        | none => .stuck
      | _ => .stuck
    | _ => .stuck
  | _ => .stuck
theorem lt_get {α : Type} {l : List α} {n : Nat} (h : n < l.length) : ∃ x, l[n]? = some x := ⟨l[n], List.getElem?_eq_getElem h⟩
theorem is_put {m pl ix} {to ti : TE} (a : IO K Wx te m) (b : IL K to pl) (c : IQ K ti ix) : IS K Wx Fz (tAsg te (gSub to ti rSetL)) (sPut m pl ix) := fun Oo W σ H env A E q => by
  refine a Oo W σ H env _ E ((thenS_to q).mono (fun t e q v H1 W1 fp l1 E1 nd nf o => ?_) fun _ _ _ _ x => x)
  cases e1 : pl e with
  | none => rw [e1] at q; exact q.elim
  | some x =>
    rw [e1] at q
    cases x with
    | val d => exact q.elim
    | loc i π =>
      dsimp only at q
      cases e2 : ix e with
      | none => rw [e2] at q; exact q.elim
      | some kd =>
        rw [e2] at q
        cases kd with
        | int k =>
          dsimp only at q
          cases e3 : nodeOf e i π with
          | none => rw [e3] at q; exact q.elim
          | some u =>
            rw [e3] at q
            cases u with
            | lst ts =>
              dsimp only at q
              cases e4 : ixN ts.length k with
              | none => rw [e4] at q; exact q.elim
              | some n =>
                rw [e4] at q
                dsimp only at q
                refine b (Oo ++ fp) W1 σ H1 e _ E1 ⟨_, e1, fun ov H2 x2 r2 => c (Oo ++ fp) W1 σ H2 e _ (E1.ex x2) ⟨_, e2, fun iv H3 x3 r3 => ?_⟩⟩
                have E3 := (E1.ex x2).ex x3
                cases (show iv = V.int k from r3)
                have l3 := (l1.trans (Lv.ex x2)).trans (Lv.ex x3)
                obtain ⟨p, vs, fq, ev, hp, rs, g1, g2, g3, g4, go⟩ := ER.chgL (us := []) E3 nf e3 (OpdR.ex x3 r2)
                obtain ⟨s1, s2, _, _⟩ := ixN_seq e4
                have ht : ∃ t0, ts[n]? = some t0 := lt_get s2
                obtain ⟨t0, ht⟩ := ht
                obtain ⟨v0, A1, f1, B1, c1, c2, c3, c4⟩ := rs.at ht
                subst c2 ev
                refine ⟨p, vs, k, n, rfl, rfl, hp, by rw [rs.len]; exact e4, ?_⟩
                have ndq := List.nodup_append.mp g2
                have ndq1 := List.nodup_append.mp ndq.1
                obtain ⟨W', lw, Ew⟩ := go (ts.set n t) (vs.set n v) (A1 ++ fp ++ B1) (fun q hq => by simp at hq ⊢; rcases hq with y | y | y <;> simp [y])
                  (List.nodup_append.mpr ⟨List.nodup_append.mpr ⟨ndq1.1, nd, fun a ha b hb z => g4 a (by simp [ha]) (z ▸ hb)⟩, ndq.2.1, fun a ha b hb z => by
                    subst z
                    rcases List.mem_append.mp ha with y | y
                    · exact ndq.2.2 a (List.mem_append_left _ y) a hb rfl
                    · exact g4 a (by simp [hb]) y⟩)
                  fun O' l same => by
                    refine c4 l (fun q hq => same q fun z => g1 ?_) ?_
                    · rw [← z]; simp at hq ⊢; rcases hq with y | y <;> simp [y]
                    · have ex := x2.trans x3
                      have o3 : Ow K H3 (Oo ++ fp ++ W1) t v fp := o.lv (Lv.ex ex) (Kp.ex ex o.dom)
                      exact o3.lv l fun q hq => same q fun z => g3 (z ▸ hq)
                exact q σ _ W' (l3.trans lw) Ew (Kept.refl _)
            | _ => exact q.elim
        | _ => exact q.elim
/-- xs.append(e), as an expression -/
def mApp (i : Nat) (m : M T) : M T := fun env => match env[i]? with
  | some (some (.lst _)) => (m.bnd fun t => fun e => match e[i]? with
    | some (some (.lst ts)) => if ts.length < 16777216 then .ok (.val .non) (putAt e i [] (.lst (ts ++ [t]))) else .stuck
    | _ => .stuck) env
  | _ => .stuck
theorem io_nil_of {d : D} {env : Env} {Q : VK} {v : V} {X} (E : ER K Oo W σ H env) (q : (Rs.ok (T.val d) env).To (fun t env' => ∀ v H' W' fp, Lv H1 W1 H' (W' ++ fp) → ER K (Oo ++ fp) W' σ H' env' → fp.Nodup → (∀ p ∈ fp, p ∉ Oo) → Ow K H' (Oo ++ fp ++ W') t v fp → Q v H') X)
    (l : Lv H1 W1 H W) (r : Rv K H (Oo ++ W) d v) : Q v H := q v H W [] (by simpa using l) (by simpa using E) List.nodup_nil (by simp) ⟨rfl, by simpa using r⟩
theorem io_append {i : Nat} {m} (a : IO K Wx te m) : IO K Wx (tBM K "list" rAppend (tVar i) (tCons te tNil)) (mApp i m) := fun Oo W σ H env Q E q => by
  unfold mApp at q
  split at q
  · rename_i ts0 hts
    obtain ⟨v0, A0, f0, B0, h1, _, h3, _⟩ := E.ce.at hts
    refine ⟨v0, h1, ?_, ?_⟩
    · obtain ⟨p, vs, fq, e, ef, hp, rs⟩ := h3
      subst e
      exact .inl ⟨rfl, vs, SqL.of hp⟩
    · refine a Oo W σ H env _ E ((M.bnd_to q).mono (fun t e q v H1 W1 fp l1 E1 nd nf o => ?_) fun _ _ _ _ x => x)
      split at q
      · rename_i ts hts1
        split at q
        · rename_i hz
          have hn : nodeOf e i [] = some (.lst ts) := by unfold nodeOf; rw [hts1]; rfl
          obtain ⟨p, vs, fq, ev, hp, rs, g1, g2, g3, g4, go⟩ := ER.chgL (us := []) E1 nf hn ⟨v0, h1, rfl⟩
          subst ev
          refine ⟨p, vs, v, rfl, rfl, hp, by rw [rs.len, sizeLine_eq]; exact hz, ?_⟩
          obtain ⟨W', lw, Ew⟩ := go (ts ++ [t]) (vs ++ [v]) (fq ++ fp) (fun q hq => List.mem_append.mp hq) (List.nodup_append.mpr ⟨g2, nd, fun a ha b hb z => g4 a ha (z ▸ hb)⟩)
            fun O' l same => Ows.snoc (ts := ts) (vs := vs) (fq := fq) (rs.lv l fun q hq => same q fun z => g1 (z ▸ hq)) (o.lv l fun q hq => same q fun z => g3 (z ▸ hq))
          exact io_nil_of Ew q (l1.trans lw) rfl
        · exact q.elim
      · exact q.elim
  · exact q.elim
/-! ### loops -/
/-- the iterator J gives the items ds, one by one, whatever happens to other objects -/
def ItR (K : PySem.W.Frag) (J : It) (ds : List D) (Oo W0 : List Addr) (H0 : Hp) : Prop := ∀ H' W', Lv H0 W0 H' W' → (∀ p ∈ Oo ++ W', Mut (H' p)) → ∀ i,
  (∀ d, ds[i]? = some d → J.go i H' ∧ ∀ x H'', J.yld i H' x H'' → Evl.Ex H' H'' ∧ Rv K H'' (Oo ++ W') d x) ∧ (ds.length ≤ i → J.stop i H')
def II (K : PySem.W.Frag) (Wx : WX) (wi : TI) (m : M (List D)) : Prop := ∀ Oo W σ H env (R : It → Hp → Prop), ER K Oo W σ H env →
  (m env).To (fun ds e => ∀ J H' W', Lv H W H' W' → ER K Oo W' σ H' e → ItR K J ds Oo W' H' → R J H') (OkX K Wx Oo W σ H) → wi σ H R
def forM (g : D → Env → Option Env) (body : SM) : List D → SM
  | [] => sNil
  | d :: ds => fun env => match g d env with
    | none => .stuck
    | some e => match body e with
      | .nx e' => forM g body ds e'
      | .cnt e' => forM g body ds e'
      | .brk e' => .nx e'
      | o => o
def sFor (it : M (List D)) (g : D → Env → Option Env) (body : SM) : SM := thenS it fun ds => forM g body ds
theorem is_for {wi : TI} {tg : TG} {gl : List Nat} {it g body} (hz : apart gl Fz = true) (a : II K Wx wi it) (b : IG K gl tg g) (c : IS K Wx Fz ts body) : IS K Wx Fz (tFor wi tg ts) (sFor it g body) := fun Oo W σ H env A E q => by
  refine a Oo W σ H env _ E ((thenS_to q).mono (fun ds e q J H0 W0 l0 E0 ir => ?_) fun _ _ _ _ x => x)
  have q : SPost K Wx Fz Oo W0 σ H0 A (forM g body ds e) := SPost.lv l0 (Kept.refl _) q
  refine ⟨fun i m σ1 H1 => m = ds.length - i ∧ i ≤ ds.length ∧ ∃ W1 e1, Lv H0 W0 H1 W1 ∧ ER K Oo W1 σ1 H1 e1 ∧ Kept Fz σ σ1 ∧ SPost K Wx Fz Oo W0 σ H0 A (forM g body (ds.drop i) e1),
    ⟨ds.length, by simp, Nat.zero_le _, W0, e, Lv.refl _ _, E0, Kept.refl _, q⟩, ?_⟩
  rintro i m σ1 H1 ⟨rfl, hi, W1, e1, l1, E1, k1, q1⟩
  obtain ⟨go, stop⟩ := ir H1 W1 l1 E1.domA i
  by_cases hlt : i < ds.length
  · refine .inr ?_
    obtain ⟨d, hd⟩ := lt_get hlt
    obtain ⟨g1, g2⟩ := go d hd
    refine ⟨g1, fun σ2 H2 => ∃ W2 e2, Lv H0 W0 H2 W2 ∧ ER K Oo W2 σ2 H2 e2 ∧ Kept Fz σ σ2 ∧ SPost K Wx Fz Oo W0 σ H0 A (forM g body (ds.drop (i + 1)) e2), fun σ2 H2 p => ⟨ds.length - (i + 1), by omega, rfl, hlt, p⟩, fun x H2 y => ?_⟩
    obtain ⟨ex, rv⟩ := g2 x H2 y
    have dr : ds.drop i = d :: ds.drop (i + 1) := by
      have := (List.getElem?_eq_some_iff.mp hd).2
      rw [← this]; exact List.drop_eq_getElem_cons hlt
    rw [dr] at q1
    unfold forM at q1
    cases z : g d e1 with
    | none => rw [z] at q1; exact q1.elim
    | some e2 =>
      rw [z] at q1
      dsimp only at q1
      refine b Oo W1 σ1 H2 e1 d x _ (E1.ex ex) rv ⟨e2, z, fun σ2 W2 s2 E2 k2 => ?_⟩
      have l2 : Lv H0 W0 H2 W2 := (l1.trans (Lv.ex ex)).trans (Lv.less s2)
      have k12 := k1.trans (k2.kept hz)
      refine c Oo W2 σ2 H2 e2 _ E2 ?_
      cases zb : body e2 with
      | nx e3 => rw [zb] at q1; exact fun σ3 H3 W3 l3 E3 k3 => ⟨W3, e3, l2.trans l3, E3, k12.trans k3, q1⟩
      | cnt e3 => rw [zb] at q1; exact fun σ3 H3 W3 l3 E3 k3 => ⟨W3, e3, l2.trans l3, E3, k12.trans k3, q1⟩
      | brk e3 => rw [zb] at q1; exact fun σ3 H3 W3 l3 E3 k3 => q1 σ3 H3 W3 (l2.trans l3) E3 (k12.trans k3)
      | ret t e3 => rw [zb] at q1; exact SPost.lv (o := .ret t e3) (A := ⟨_, A.rt, A.nx, _⟩) l2 k12 q1
      | exc c ns ds e3 => rw [zb] at q1; exact SPost.lv (o := .exc c ns ds e3) (A := ⟨_, A.rt, A.nx, _⟩) l2 k12 q1
      | stuck => rw [zb] at q1; exact q1.elim
  · have e : i = ds.length := by omega
    subst e
    refine .inl ⟨stop (Nat.le_refl _), ?_⟩
    rw [List.drop_length] at q1
    exact q1 σ1 H1 W1 l1 E1 k1
def whileM (c : M Bool) (body : SM) : Nat → SM
  | 0 => fun _ => .stuck
  | n + 1 => fun env => match c env with
    | .ok true e => match body e with
      | .nx e' => whileM c body n e'
      | .cnt e' => whileM c body n e'
      | .brk e' => .nx e'
      | o => o
    | .ok false e => .nx e
    | .exc cl ns ds e => .exc cl ns ds e
    | .stuck => .stuck
def fuel : Nat := 4294967296
def sWhile (c : M Bool) (body : SM) : SM := fun env => whileM c body fuel env
theorem is_while {c body} (a : IT K Wx tt c) (b : IS K Wx Fz ts body) : IS K Wx Fz (tWhile tt ts) (sWhile c body) := fun Oo W σ H env A E q => by
  refine ⟨fun m σ1 H1 => ∃ W1 e1, Lv H W H1 W1 ∧ ER K Oo W1 σ1 H1 e1 ∧ Kept Fz σ σ1 ∧ SPost K Wx Fz Oo W σ H A (whileM c body m e1), ⟨fuel, W, env, Lv.refl _ _, E, Kept.refl _, q⟩, ?_⟩
  rintro m σ1 H1 ⟨W1, e1, l1, E1, k1, q1⟩
  cases m with
  | zero => exact q1.elim
  | succ n =>
    unfold whileM at q1
    cases zc : c e1 with
    | ok bb e2 =>
      rw [zc] at q1
      refine a Oo W1 σ1 H1 e1 _ E1 ?_
      rw [zc]
      intro H2 W2 l2 E2
      have l12 := l1.trans l2
      cases bb with
      | false => exact q1 σ1 H2 W2 l12 E2 k1
      | true =>
        dsimp only at q1
        refine ⟨fun σ2 H2 => ∃ W2 e2, Lv H W H2 W2 ∧ ER K Oo W2 σ2 H2 e2 ∧ Kept Fz σ σ2 ∧ SPost K Wx Fz Oo W σ H A (whileM c body n e2), fun σ2 H2 p => ⟨n, Nat.lt_succ_self _, p⟩, ?_⟩
        refine b Oo W2 σ1 H2 e2 _ E2 ?_
        cases zb : body e2 with
        | nx e3 => rw [zb] at q1; exact fun σ3 H3 W3 l3 E3 k3 => ⟨W3, e3, l12.trans l3, E3, k1.trans k3, q1⟩
        | cnt e3 => rw [zb] at q1; exact fun σ3 H3 W3 l3 E3 k3 => ⟨W3, e3, l12.trans l3, E3, k1.trans k3, q1⟩
        | brk e3 => rw [zb] at q1; exact fun σ3 H3 W3 l3 E3 k3 => q1 σ3 H3 W3 (l12.trans l3) E3 (k1.trans k3)
        | ret t e3 => rw [zb] at q1; exact SPost.lv (o := .ret t e3) (A := ⟨_, A.rt, A.nx, _⟩) l12 k1 q1
        | exc c ns ds e3 => rw [zb] at q1; exact SPost.lv (o := .exc c ns ds e3) (A := ⟨_, A.rt, A.nx, _⟩) l12 k1 q1
        | stuck => rw [zb] at q1; exact q1.elim
    | exc cl ns ds e2 =>
      rw [zc] at q1
      refine a Oo W1 σ1 H1 e1 _ E1 ?_
      rw [zc]
      exact OkX.of (SPost.lv (A := A) l1 k1 q1)
    | stuck => rw [zc] at q1; exact q1.elim
end
end KM

/-! What is walked; comprehensions; defs and their calls. -/
namespace KM
open PySem PySem.Spec PyProof.Rows L2 Evl KP
section
variable {K : PySem.W.Frag} {Wx : WX} {Fz : List Nat} {H H' H1 H2 : Hp} {O O' Oo W W' W1 W2 fp : List Addr} {σ σ' ρ : L2.St} {env env' as : Env} {te ta tb tc : TE} {tt tu : TT} {tas : TA} {ts us : TS} {A : Ends}
/-! ### what is walked -/
theorem rvs_ix {ds : List D} {vs : List V} {i : Nat} {d : D} {x : V} (r : Rvs K H O ds vs) (h : ds[i]? = some d) (hx : vs[i]? = some x) : Rv K H O d x := by
  obtain ⟨v, h1, h2⟩ := r.get h
  rw [hx] at h1; cases h1
  exact h2
theorem it_l {p : Addr} {vs : List V} {ds : List D} (s : ∀ H' W', Lv H W H' W' → SqL K H' p vs) (r : Rvs K H (Oo ++ W) ds vs) : ItR K (Itl K p) ds Oo W H := fun H' W' l dm i => by
  have rs := r.lv (l.oo Oo)
  refine ⟨fun d hd => ?_, fun hi => ⟨vs, s H' W' l, by rw [r.len]; exact hi⟩⟩
  obtain ⟨v, h1, h2⟩ := rs.get hd
  exact ⟨⟨vs, v, s H' W' l, h1⟩, fun x H2 ⟨e, y⟩ => ⟨by rw [e]; exact Evl.Ex.refl _, by rw [e]; exact rvs_ix rs hd (y vs (s H' W' l))⟩⟩
theorem it_t {p : Addr} {vs : List V} {ds : List D} (s : ∀ H' W', Lv H W H' W' → SqT K H' p vs) (r : Rvs K H (Oo ++ W) ds vs) : ItR K (Itt K p) ds Oo W H := fun H' W' l dm i => by
  have rs := r.lv (l.oo Oo)
  refine ⟨fun d hd => ?_, fun hi => ⟨vs, s H' W' l, by rw [r.len]; exact hi⟩⟩
  obtain ⟨v, h1, h2⟩ := rs.get hd
  exact ⟨⟨vs, v, s H' W' l, h1⟩, fun x H2 ⟨e, y⟩ => ⟨by rw [e]; exact Evl.Ex.refl _, by rw [e]; exact rvs_ix rs hd (y vs (s H' W' l))⟩⟩
def signs (z : Str) : List D := z.cps.toList.map fun c => .str ⟨#[c]⟩
def iterD : D → Option (List D)
  | .lst ds => some ds
  | .fro ds => some ds
  | .tup ds => some ds
  | .str z => some (signs z)
  | _ => none
theorem it_s {z : Str} : ItR K (Its z) (signs z) Oo W H := fun H' W' l dm i => by
  refine ⟨fun d hd => ?_, fun hi => ?_⟩
  · unfold signs at hd
    rw [List.getElem?_map] at hd
    cases e : z.cps.toList[i]? with
    | none => rw [e] at hd; cases hd
    | some c =>
      rw [e] at hd; cases hd
      have hi : i < z.cps.toList.length := (List.getElem?_eq_some_iff.mp e).1
      refine ⟨(by simpa using hi : i < z.cps.size), fun x H2 ⟨e1, c', e2, e3⟩ => ⟨by rw [e1]; exact Evl.Ex.refl _, ?_⟩⟩
      have : z.cps[i]? = some c := by rw [← Array.getElem?_toList]; exact e
      rw [this] at e2; cases e2
      rw [e3]; rfl
  · unfold signs at hi
    show z.cps.size ≤ i
    simpa using hi
/-- source: what is walked must be known not to change -/
inductive Src (K : PySem.W.Frag) (H : Hp) (Oo W : List Addr) : D → V → Prop where
  | lst {p : Addr} {vs : List V} {ds : List D} (s : ∀ H' W', Lv H W H' W' → SqL K H' p vs) (r : Rvs K H (Oo ++ W) ds vs) (d : D) (h : items d = some ds) : Src K H Oo W d (.ref p)
  | tup {p : Addr} {vs : List V} {ds : List D} (s : ∀ H' W', Lv H W H' W' → SqT K H' p vs) (r : Rvs K H (Oo ++ W) ds vs) (d : D) (h : items d = some ds) : Src K H Oo W d (.ref p)
  | str {z : Str} : Src K H Oo W (.str z) (.str z)
theorem Lv.sqL (l : Lv H W H' W') {p : Addr} {vs : List V} (n : p ∉ W) (h : H p = some (.lst vs)) : SqL K H' p vs := SqL.of (l.kp _ _ n h)
theorem Rv.src {d : D} {v : V} {ds : List D} (r : Rv K H (Oo ++ W) d v) (h : iterD d = some ds) : Src K H Oo W d v := by
  cases d with
  | lst es => obtain ⟨p, vs, e, a, rs⟩ := r; subst e; exact .lst (fun H' W' l => l.sqL (fun z => a.1 (List.mem_append_right _ z)) a.2) rs _ rfl
  | fro es => obtain ⟨p, vs, e, a, rs⟩ := r; subst e; exact .lst (fun H' W' l => (a.lv (l.oo Oo)).sq) rs _ rfl
  | tup es => obtain ⟨p, vs, e, a, rs⟩ := r; subst e; exact .tup (fun H' W' l => (a.lv (l.oo Oo)).sq) rs _ rfl
  | str z => cases (show v = _ from r); exact .str
  | _ => cases h
theorem items_iter {d : D} {ds : List D} (h : items d = some ds) : iterD d = some ds := by
  cases d with
  | lst es => exact h
  | fro es => exact h
  | tup es => exact h
  | _ => cases h
def iIt (m : M D) : M (List D) := m.bnd fun d => fun env => M.opt (iterD d) env
theorem ii_G {m} (a : IV K Wx te m) : II K Wx (iG K te) (iIt m) := fun Oo W σ H env R E q => by
  refine a Oo W σ H env _ E ((M.bnd_to q).mono (fun d env1 q v H1 W1 l1 E1 r1 => ?_) fun _ _ _ _ x => x)
  obtain ⟨ds, e, q⟩ := M.opt_to q
  cases r1.src e with
  | lst s r _ h =>
    rw [items_iter h] at e; cases e
    exact .inl ⟨⟨_, s H1 W1 (Lv.refl _ _)⟩, q _ H1 W1 l1 E1 (it_l s r)⟩
  | tup s r _ h =>
    rw [items_iter h] at e; cases e
    exact .inr ⟨⟨_, s H1 W1 (Lv.refl _ _)⟩, q _ H1 W1 l1 E1 (it_t s r)⟩
  | str => cases e; exact q _ H1 W1 l1 E1 it_s
/-- ranges -/
def rgD (lo : Int) (n : Nat) : List D := (List.range n).map fun (i : Nat) => .int (lo + (i : Int))
def in62 (i : Int) : Bool := decide (-(2 ^ 62) ≤ i) && decide (i < 2 ^ 62)
theorem in62_of {i : Int} (h : in62 i = true) : -(2 ^ 62) ≤ i ∧ i < 2 ^ 62 := by
  unfold in62 at h
  simpa using h
theorem it_r {lo : Int} {n : Nat} : ItR K (Itr lo n) (rgD lo n) Oo W H := fun H' W' l dm i => by
  unfold rgD
  refine ⟨fun d hd => ?_, fun hi => (by simpa using hi : n ≤ i)⟩
  rw [List.getElem?_map] at hd
  cases e : (List.range n)[i]? with
  | none => rw [e] at hd; cases hd
  | some k =>
    rw [e] at hd; cases hd
    obtain ⟨h1, h2⟩ := List.getElem?_eq_some_iff.mp e
    have hn : i < n := by simpa using h1
    have : k = i := by rw [← h2]; simp
    subst this
    exact ⟨hn, fun x H2 ⟨e1, e2⟩ => ⟨by rw [e1]; exact Evl.Ex.refl _, e2⟩⟩
def iR1 (m : M (List D)) : M (List D) := m.bnd fun ds => fun env => match ds with
  | [.int n] => if in62 n = true then .ok (rgD 0 n.toNat) env else .stuck
  | _ => .stuck
theorem ii_R1 {m} (a : IAV K Wx tas m) : II K Wx (iRng1 tas) (iR1 m) := fun Oo W σ H env R E q => by
  refine a Oo W σ H env _ E ((M.bnd_to q).mono (fun ds env1 q vs H1 W1 l1 E1 r1 => ?_) fun _ _ _ _ x => x)
  split at q
  · split at q
    · rename_i hz
      obtain ⟨v, vs', e, r, e2⟩ := r1
      cases (show vs' = [] from e2)
      cases (show v = _ from r)
      exact ⟨_, e, (in62_of hz).1, (in62_of hz).2, q _ H1 W1 l1 E1 it_r⟩
    · exact q.elim
  · exact q.elim
def iR2 (m : M (List D)) : M (List D) := m.bnd fun ds => fun env => match ds with
  | [.int a, .int b] => if (in62 a && in62 b) = true then .ok (rgD a (b - a).toNat) env else .stuck
  | _ => .stuck
theorem ii_R2 {m} (a : IAV K Wx tas m) : II K Wx (iRng2 tas) (iR2 m) := fun Oo W σ H env R E q => by
  refine a Oo W σ H env _ E ((M.bnd_to q).mono (fun ds env1 q vs H1 W1 l1 E1 r1 => ?_) fun _ _ _ _ x => x)
  split at q
  · split at q
    · rename_i hz
      rw [Bool.and_eq_true] at hz
      obtain ⟨v, vs', e, r, w, vs2, e2, r2, e3⟩ := r1
      cases (show vs2 = [] from e3)
      cases (show v = _ from r)
      cases (show w = _ from r2)
      subst e2
      exact ⟨_, _, e, ⟨(in62_of hz.1).1, (in62_of hz.1).2, (in62_of hz.2).1, (in62_of hz.2).2⟩, q _ H1 W1 l1 E1 it_r⟩
    · exact q.elim
  · exact q.elim
def rgC (a c : Int) (n : Nat) : List D := (List.range n).map fun (i : Nat) => .int (a + (i : Int) * c)
theorem it_c {lo c : Int} {n : Nat} : ItR K (Itc lo c n) (rgC lo c n) Oo W H := fun H' W' l dm i => by
  unfold rgC
  refine ⟨fun d hd => ?_, fun hi => (by simpa using hi : n ≤ i)⟩
  rw [List.getElem?_map] at hd
  cases e : (List.range n)[i]? with
  | none => rw [e] at hd; cases hd
  | some k =>
    rw [e] at hd; cases hd
    obtain ⟨h1, h2⟩ := List.getElem?_eq_some_iff.mp e
    have hn : i < n := by simpa using h1
    have : k = i := by rw [← h2]; simp
    subst this
    exact ⟨hn, fun x H2 ⟨e1, e2⟩ => ⟨by rw [e1]; exact Evl.Ex.refl _, e2⟩⟩
def rg3Ok (a b c : Int) : Bool := (decide (c ≠ 0) && decide (c.natAbs < 1073741824)) && Builtin.Range.small a b c
def iR3 (m : M (List D)) : M (List D) := m.bnd fun ds => fun env => match ds with
  | [.int a, .int b, .int c] => if rg3Ok a b c = true then .ok (rgC a c (Builtin.Range.rangeSize a b c).toNat) env else .stuck
  | _ => .stuck
/-! ### comprehensions -/
def wipeE (env : Env) : List Nat → Env
  | [] => env
  | v :: vs => (wipeE env vs).set v none
theorem ER.kill (E : ER K Oo W σ H env) (i : Nat) (s : Option V) : ∃ W', (∀ p ∈ W', p ∈ W) ∧ ER K Oo W' (σ.set i s) H (env.set i none) := by
  by_cases hi : i < env.length
  · obtain ⟨A, f, B, h2, h4⟩ := E.ce.put hi
    have nd0 := E.nd
    rw [h2] at nd0
    have sub : ∀ p ∈ A ++ [] ++ B, p ∈ W := fun p hp => by rw [h2]; simp at hp ⊢; rcases hp with z | z <;> simp [z]
    have l : Lv H (Oo ++ W) H (Oo ++ (A ++ [] ++ B)) := Lv.sub fun p hp => by
      rcases List.mem_append.mp hp with z | z
      · exact List.mem_append_left _ z
      · exact List.mem_append_right _ (sub p z)
    exact ⟨_, sub, h4 (c := none) (s := s) (f' := []) l (fun _ _ => rfl) (fun _ z => by cases z) fun _ => rfl, nd0.sublist (by simp), fun p hp => E.dj p (sub p hp), E.dom⟩
  · have e1 : env.set i none = env := List.set_eq_of_length_le (by omega)
    have e2 : σ.set i s = σ := List.set_eq_of_length_le (by rw [E.len]; omega)
    rw [e1, e2]
    exact ⟨W, fun _ h => h, E⟩
theorem ER.wipe (E : ER K Oo W σ H env) : ∀ vs : List Nat, ∃ W', (∀ p ∈ W', p ∈ W) ∧ ER K Oo W' (wipe σ vs) H (wipeE env vs)
  | [] => ⟨W, fun _ h => h, E⟩
  | v :: vs => by
    obtain ⟨W1, s1, E1⟩ := ER.wipe E vs
    obtain ⟨W2, s2, E2⟩ := E1.kill v none
    exact ⟨W2, fun p hp => s1 p (s2 p hp), E2⟩
/-- the comprehension's own slots as they were -/
def restE (env0 env : Env) : List Nat → Env
  | [] => env
  | v :: vs => (restE env0 env vs).set v (env0[v]?.join)
def restS (σ0 σ : L2.St) : List Nat → L2.St
  | [] => σ
  | v :: vs => (restS σ0 σ vs).set v (σ0[v]?.join)
theorem restS_len (σ0 σ : L2.St) : ∀ vs, (restS σ0 σ vs).length = σ.length
  | [] => rfl
  | v :: vs => by unfold restS; rw [List.length_set, restS_len σ0 σ vs]
theorem restS_get {σ0 σ : L2.St} : ∀ {vs : List Nat} {i : Nat}, i < σ.length → (restS σ0 σ vs)[i]? = if i ∈ vs then some (σ0[i]?.join) else σ[i]?
  | [], i, h => by simp [restS]
  | v :: vs, i, h => by
    unfold restS
    by_cases hv : v = i
    · subst hv
      rw [List.getElem?_set_self (by rw [restS_len]; exact h)]
      simp
    · rw [List.getElem?_set_ne hv, restS_get h]
      have : (i ∈ v :: vs) ↔ i ∈ vs := by simp [Ne.symm hv]
      simp only [this]
theorem wipe_get {σ : L2.St} : ∀ {vs : List Nat} {i : Nat}, i ∉ vs → (wipe σ vs)[i]? = σ[i]?
  | [], i, h => rfl
  | v :: vs, i, h => by
    unfold wipe
    have h1 : v ≠ i := fun z => h (by simp [z])
    have h2 : i ∉ vs := fun z => h (by simp [z])
    rw [List.getElem?_set_ne h1, wipe_get h2]
theorem rest_wipe (σ : L2.St) (vs : List Nat) : restS σ (wipe σ vs) vs = σ := by
  apply List.ext_getElem?
  intro i
  by_cases hi : i < σ.length
  · rw [restS_get (by rw [wipe_length]; exact hi)]
    split
    · rw [List.getElem?_eq_getElem hi]; rfl
    · rename_i h; exact wipe_get h
  · rw [List.getElem?_eq_none (by rw [restS_len, wipe_length]; omega), List.getElem?_eq_none (by omega)]
/-- the own slots hold nothing that could change -/
def okW (env : Env) (vs : List Nat) : Bool := vs.all fun v => match env[v]? with
  | some (some (.val _)) => true
  | some (some _) => false
  | _ => true
theorem ER.rest {σ0 : L2.St} {env0 : Env} {H0 : Hp} {W0 : List Addr} (E0 : ER K Oo W0 σ0 H0 env0) : ∀ {vs : List Nat} {W : List Addr} {σ : L2.St} {H : Hp} {env : Env} {Oo' : List Addr}, okW env0 vs = true → Lv H0 (Oo ++ W0) H (Oo' ++ W) → ER K Oo' W σ H env →
    ∃ W', (∀ p ∈ W', p ∈ W) ∧ ER K Oo' W' (restS σ0 σ vs) H (restE env0 env vs)
  | [], W, _, _, _, _, _, _, E => ⟨W, fun _ h => h, E⟩
  | v :: vs, W, σ, H, env, Oo', ok, l, E => by
    unfold okW at ok
    rw [List.all_cons, Bool.and_eq_true] at ok
    obtain ⟨W1, s1, E1⟩ := ER.rest E0 (vs := vs) ok.2 l E
    have l1 : Lv H0 (Oo ++ W0) H (Oo' ++ W1) := ⟨l.kp, fun p hp => l.out p (by
      rcases List.mem_append.mp hp with z | z
      · exact List.mem_append_left _ z
      · exact List.mem_append_right _ (s1 p z))⟩
    have dead : env0[v]?.join = none → ∃ W', (∀ p ∈ W', p ∈ W) ∧ ER K Oo' W' (restS σ0 σ (v :: vs)) H (restE env0 env (v :: vs)) := fun z => by
      obtain ⟨W2, s2, E2⟩ := E1.kill v (σ0[v]?.join)
      unfold restE restS
      rw [z]
      exact ⟨W2, fun p hp => s1 p (s2 p hp), E2⟩
    cases e : env0[v]? with
    | none => exact dead (by rw [e]; rfl)
    | some c =>
      cases c with
      | none => exact dead (by rw [e]; rfl)
      | some t =>
        rw [e] at ok
        cases t with
        | val d =>
          obtain ⟨u, A0, f, B, h1, _, h3, _⟩ := E0.ce.at e
          obtain ⟨W2, s2, E2⟩ := E1.storeV (h3.2.lv l1) v
          unfold restE restS
          rw [e, h1]
          exact ⟨W2, fun p hp => s1 p (s2 p hp), E2⟩
        | _ => exact absurd ok.1 (by simp)
def lcLoop (vs : List Nat) (g : D → Env → Option Env) (tt : M Bool) (el : M T) : List D → List T → M (List T)
  | [], acc => M.ret acc
  | d :: ds, acc => fun env => match g d env with
    | none => .stuck
    | some e => match tt e with
      | .ok true e2 => match el e2 with
        | .ok t e3 => if acc.length < 16777216 then lcLoop vs g tt el ds (acc ++ [t]) (wipeE e3 vs) else .stuck
        | _ => .stuck
      | .ok false e2 => lcLoop vs g tt el ds acc (wipeE e2 vs)
      | _ => .stuck
def lcM (vs : List Nat) (it : M (List D)) (g : D → Env → Option Env) (tt : M Bool) (el : M T) : M T := it.bnd fun ds => fun env => if okW env vs = true then
    match lcLoop vs g tt el ds [] (wipeE env vs) with
    | .ok acc e => .ok (.lst acc) (restE env e vs)
    | _ => .stuck
  else .stuck
abbrev WF : WX := fun _ _ _ _ => False
def tYesM : M Bool := M.ret true
theorem it_yes : IT K Wx tYes tYesM := fun Oo W σ H env Q E q => q H W (Lv.refl _ _) E
theorem wipe_mem {σ : L2.St} : ∀ {vs : List Nat} {i : Nat}, i ∈ vs → i < σ.length → (wipe σ vs)[i]? = some none
  | v :: vs, i, h, hl => by
    unfold wipe
    by_cases hv : v = i
    · subst hv
      exact List.getElem?_set_self (by rw [wipe_length]; exact hl)
    · rw [List.getElem?_set_ne hv]
      exact wipe_mem (by rcases List.mem_cons.mp h with z | z; exact absurd z.symm hv; exact z) hl
theorem wipe_only {σ σ2 : L2.St} {vs gl : List Nat} (h : Only gl (wipe σ vs) σ2) (s : ∀ i ∈ gl, i ∈ vs) : wipe σ2 vs = wipe σ vs := by
  have hl : σ2.length = σ.length := by rw [h.len, wipe_length]
  apply List.ext_getElem?
  intro i
  by_cases hi : i < σ.length
  · by_cases hm : i ∈ vs
    · rw [wipe_mem hm hi, wipe_mem hm (by omega)]
    · rw [wipe_get hm, h.at_ i fun z => hm (s i z)]
  · rw [List.getElem?_eq_none (by rw [wipe_length]; omega), List.getElem?_eq_none (by rw [wipe_length]; omega)]
def within (gl vs : List Nat) : Bool := gl.all fun i => vs.contains i
theorem within_of {gl vs : List Nat} (h : within gl vs = true) : ∀ i ∈ gl, i ∈ vs := fun i hi => List.contains_iff_mem.mp (List.all_eq_true.mp h i hi)
/-- others' objects too -/
theorem Lv.both {B : List Addr} (a : Lv H W H1 (W1 ++ B)) (b : Lv H1 W1 H2 W2) (dj : ∀ p ∈ B, p ∉ W1) : Lv H W H2 (W2 ++ B) := ⟨fun p o n h => b.kp p o (fun z => a.no n h (List.mem_append_left _ z)) (a.kp p o n h), fun p hp => by
  rcases List.mem_append.mp hp with z | z
  · rcases b.out p z with y | y
    · exact a.out p (List.mem_append_left _ y)
    · by_cases hn : p ∈ W
      · exact .inl hn
      · cases q0 : H p with
        | none => exact .inr rfl
        | some o => rw [a.kp p o hn q0] at y; cases y
  · exact a.out p (List.mem_append_right _ z)⟩
theorem io_lc {vs gl : List Nat} {wi : TI} {tg : TG} {it g mt el} (hgl : within gl vs = true) (a : II K Wx wi it) (b : IG K gl tg g) (c : IT K WF tt mt) (d : IO K WF te el) : IO K Wx (tLc wi tg tt te vs) (lcM vs it g mt el) := fun Oo W σ H env Q E q => by
  refine a Oo W σ H env _ E ((M.bnd_to q).mono (fun ds e q J H0 W0 l0 E0 ir => ?_) fun _ _ _ _ x => x)
  split at q
  · rename_i hok
    intro Dp hD
    cases zl : lcLoop vs g mt el ds [] (wipeE e vs) with
    | exc c ns ds e => rw [zl] at q; exact q.elim
    | stuck => rw [zl] at q; exact q.elim
    | ok accF eF =>
      rw [zl] at q
      dsimp only at q
      obtain ⟨Ww, sw, Ew⟩ := E0.wipe vs
      have exD : Evl.Ex H0 (upd H0 Dp (.lst [])) := Evl.Ex.new hD
      have E1 : ER K (Oo ++ [Dp]) Ww (wipe σ vs) (upd H0 Dp (.lst [])) (wipeE e vs) := Ew.add exD (fun p hp => by rw [List.mem_singleton.mp hp]; exact hD) fun p hp => by
        rw [List.mem_singleton.mp hp]; exact Mut.of upd_same trivial
      have l1 : Lv H0 W0 (upd H0 Dp (.lst [])) (Ww ++ [Dp]) := ⟨fun p o _ h => exD p o h, fun p hp => by
        rcases List.mem_append.mp hp with z | z
        · exact .inl (sw p z)
        · rw [List.mem_singleton.mp z]; exact .inr hD⟩
      refine ⟨fun i m H1 => m = ds.length - i ∧ i ≤ ds.length ∧ ∃ W1 e1 acc vacc fa, Lv H0 W0 H1 (W1 ++ Dp :: fa) ∧ ER K (Oo ++ Dp :: fa) W1 (wipe σ vs) H1 e1 ∧ H1 Dp = some (.lst vacc) ∧ Ows K H1 (Oo ++ Dp :: fa ++ W1) acc vacc fa ∧
          (Dp :: fa).Nodup ∧ (∀ p ∈ Dp :: fa, p ∉ Oo) ∧ lcLoop vs g mt el (ds.drop i) acc e1 = .ok accF eF,
        ⟨ds.length, by simp, Nat.zero_le _, Ww, wipeE e vs, [], [], [], l1, E1, upd_same, ⟨rfl, rfl⟩, by simp, fun p hp z => ?_, zl⟩, ?_⟩
      · rw [List.mem_singleton.mp hp] at z
        obtain ⟨o, h⟩ := Mut.ex (E0.dom _ z)
        rw [hD] at h; cases h
      rintro i m H1 ⟨rfl, hi, W1, e1, acc, vacc, fa, l1, E1, hDp, ro, nd, nf, z1⟩
      obtain ⟨go, stop⟩ := ir H1 (W1 ++ Dp :: fa) l1 (fun p hp => E1.domA p (by simp at hp ⊢; rcases hp with y | y | y | y <;> simp [y])) i
      by_cases hlt : i < ds.length
      · refine .inr ?_
        obtain ⟨d0, hd⟩ := lt_get hlt
        obtain ⟨g1, g2⟩ := go d0 hd
        refine ⟨g1, fun H2 => ∃ W2 e2 acc vacc fa, Lv H0 W0 H2 (W2 ++ Dp :: fa) ∧ ER K (Oo ++ Dp :: fa) W2 (wipe σ vs) H2 e2 ∧ H2 Dp = some (.lst vacc) ∧ Ows K H2 (Oo ++ Dp :: fa ++ W2) acc vacc fa ∧
          (Dp :: fa).Nodup ∧ (∀ p ∈ Dp :: fa, p ∉ Oo) ∧ lcLoop vs g mt el (ds.drop (i + 1)) acc e2 = .ok accF eF, fun H2 p => ⟨ds.length - (i + 1), by omega, rfl, hlt, p⟩, fun x H2 y => ?_⟩
        obtain ⟨ex, rv⟩ := g2 x H2 y
        have dr : ds.drop i = d0 :: ds.drop (i + 1) := by
          have := (List.getElem?_eq_some_iff.mp hd).2
          rw [← this]; exact List.drop_eq_getElem_cons hlt
        rw [dr] at z1
        unfold lcLoop at z1
        cases zg : g d0 e1 with
        | none => rw [zg] at z1; cases z1
        | some e2 =>
          rw [zg] at z1
          dsimp only at z1
          have E1x := E1.ex ex
          have rv' : Rv K H2 (Oo ++ Dp :: fa ++ W1) d0 x := rv.lv (Lv.sub fun p hp => by simp at hp ⊢; rcases hp with y | y | y | y <;> simp [y])
          refine b (Oo ++ Dp :: fa) W1 _ H2 e1 d0 x _ E1x rv' ⟨e2, zg, fun σ2 W2 s2 E2 k2 => ?_⟩
          have ew : wipe σ2 vs = wipe σ vs := wipe_only k2 (within_of hgl)
          refine ⟨ew, ?_⟩
          have l2 : Lv H0 W0 H2 (W2 ++ Dp :: fa) := (l1.trans (Lv.ex ex)).trans (Lv.less fun p hp => by
            rcases List.mem_append.mp hp with y | y
            · exact List.mem_append_left _ (s2 p y)
            · exact List.mem_append_right _ y)
          have ro2 : Ows K H2 (Oo ++ Dp :: fa ++ W2) acc vacc fa := ro.lv ⟨fun p o _ h => ex p o h, fun p hp => .inl (by
            rcases List.mem_append.mp hp with y | y
            · exact List.mem_append_left _ y
            · exact List.mem_append_right _ (s2 p y))⟩ (Kp.ex ex ro.dom)
          have hD2 : H2 Dp = some (.lst vacc) := ex _ _ hDp
          have dj2 : ∀ p ∈ Dp :: fa, p ∉ W2 := fun p hp z => E2.dj p z (List.mem_append_right _ hp)
          refine c (Oo ++ Dp :: fa) W2 σ2 H2 e2 _ E2 ?_
          have stay : ∀ {H3 W3}, Lv H2 W2 H3 W3 → H3 Dp = some (.lst vacc) ∧ Ows K H3 (Oo ++ Dp :: fa ++ W3) acc vacc fa := fun {H3 W3} l => by
            refine ⟨l.kp _ _ (dj2 Dp List.mem_cons_self) hD2, ro2.lv (l.oo _) fun p hp => ?_⟩
            obtain ⟨o, h⟩ := Mut.ex (ro2.dom p hp)
            rw [h]; exact l.kp _ _ (dj2 p (List.mem_cons_of_mem _ hp)) h
          cases zt : mt e2 with
          | exc c ns ds e => rw [zt] at z1; cases z1
          | stuck => rw [zt] at z1; cases z1
          | ok bb e3 =>
            rw [zt] at z1
            intro H3 W3 l3 E3
            cases bb with
            | false =>
              obtain ⟨hD3, ro3⟩ := stay l3
              have l3' := l2.both l3 dj2
              obtain ⟨W4, s4, E4⟩ := E3.wipe vs
              rw [ew] at E4
              refine ⟨W4, wipeE e3 vs, acc, vacc, fa, l3'.trans (Lv.less fun p hp => ?_), E4, hD3, ro3.lv (Lv.sub fun p hp => ?_) (fun _ _ => rfl), nd, nf, z1⟩
              · rcases List.mem_append.mp hp with y | y
                · exact List.mem_append_left _ (s4 p y)
                · exact List.mem_append_right _ y
              · rcases List.mem_append.mp hp with y | y
                · exact List.mem_append_left _ y
                · exact List.mem_append_right _ (s4 p y)
            | true =>
              dsimp only at z1
              refine d (Oo ++ Dp :: fa) W3 σ2 H3 e3 _ E3 ?_
              cases ze : el e3 with
              | exc c ns ds e => rw [ze] at z1; cases z1
              | stuck => rw [ze] at z1; cases z1
              | ok t e4 =>
                rw [ze] at z1
                dsimp only at z1
                intro v H4 W4 fp l4 E4 nd4 nf4 o4
                split at z1
                · rename_i hz
                  have dj3 : ∀ p ∈ Dp :: fa, p ∉ W3 := fun p hp z => E3.dj p z (List.mem_append_right _ hp)
                  obtain ⟨hD3, ro3⟩ := stay l3
                  have hD4 : H4 Dp = some (.lst vacc) := l4.kp _ _ (dj3 Dp List.mem_cons_self) hD3
                  have ro4 : Ows K H4 (Oo ++ Dp :: fa ++ (W4 ++ fp)) acc vacc fa := ro3.lv (l4.oo _) fun p hp => by
                    obtain ⟨o, h⟩ := Mut.ex (ro3.dom p hp)
                    rw [h]; exact l4.kp _ _ (dj3 p (List.mem_cons_of_mem _ hp)) h
                  refine ⟨vacc, hD4, by rw [ro4.len, sizeLine_eq]; exact hz, ?_⟩
                  have l4' : Lv H0 W0 H4 ((W4 ++ fp) ++ Dp :: fa) := (l2.both l3 dj2).both l4 dj3
                  have nDf : Dp ∉ fa := (List.nodup_cons.mp nd).1
                  have nDp : Dp ∉ fp := fun z => nf4 Dp z (by simp)
                  have nDW : ∀ p ∈ W4, p ≠ Dp := fun p hp z => E4.dj p hp (by rw [z]; simp)
                  obtain ⟨W5, s5, E5⟩ := E4.wipe vs
                  rw [ew] at E5
                  -- the list grows
                  have lv5 : Lv H4 ((Oo ++ Dp :: fa) ++ (W4 ++ fp)) (upd H4 Dp (.lst (vacc ++ [v]))) (Oo ++ Dp :: (fa ++ fp) ++ W5) := ⟨fun p o n h => by
                    rw [upd_ne fun z => n (by rw [z]; simp)]; exact h, fun p hp => .inl (by
                      simp at hp ⊢
                      rcases hp with y | y | y | y | y
                      · simp [y]
                      · simp [y]
                      · simp [y]
                      · simp [y]
                      · simp [s5 p y])⟩
                  have keep : ∀ p, p ≠ Dp → (upd H4 Dp (.lst (vacc ++ [v]))) p = H4 p := fun p hp => upd_ne hp
                  refine ⟨W5, wipeE e4 vs, acc ++ [t], vacc ++ [v], fa ++ fp, ⟨fun p o n h => ?_, fun p hp => ?_⟩, ⟨?_, E5.nd, fun p hp z => ?_, fun p hp => ?_⟩, upd_same, ?_, ?_, fun p hp z => ?_, z1⟩
                  · have nD : p ≠ Dp := fun z => l4'.no n h (by rw [z]; simp)
                    rw [keep p nD]; exact l4'.kp p o n h
                  · refine l4'.out p ?_
                    simp at hp ⊢
                    rcases hp with y | y | y | y
                    · simp [s5 p y]
                    · simp [y]
                    · simp [y]
                    · simp [y]
                  · refine E5.ce.lv ⟨fun p o n h => ?_, fun p hp => .inl ?_⟩ fun p hp => keep p (nDW p (s5 p hp))
                    · rw [keep p fun z => n (by rw [z]; simp)]; exact h
                    · simp at hp ⊢
                      rcases hp with y | y | y | y | y
                      · simp [y]
                      · simp [y]
                      · simp [y]
                      · simp [y]
                      · simp [y]
                  · refine E5.dj p hp ?_
                    simp at z ⊢
                    rcases z with y | y | y | y
                    · simp [y]
                    · simp [y]
                    · simp [y]
                    · simp [y]
                  · by_cases hpD : p = Dp
                    · rw [hpD]; exact Mut.of upd_same trivial
                    · rw [keep p hpD]
                      refine E5.dom p ?_
                      simp at hp ⊢
                      rcases hp with y | y | y | y
                      · simp [y]
                      · simp [y]
                      · simp [y]
                      · simp [y]
                  · refine Ows.snoc (ts := acc) (vs := vacc) (fq := fa) (ro4.lv lv5 fun p hp => keep p fun z => nDf (z ▸ hp)) (o4.lv ?_ fun p hp => keep p fun z => nDp (z ▸ hp))
                    exact ⟨fun p o n h => lv5.kp p o (fun z => n (by simp at z ⊢; rcases z with y | y | y | y | y <;> simp [y])) h, fun p hp => by
                      rcases lv5.out p hp with y | y
                      · refine .inl ?_
                        simp at y ⊢
                        rcases y with y | y | y | y | y <;> simp [y]
                      · exact .inr y⟩
                  · refine List.nodup_cons.mpr ⟨fun z => ?_, List.nodup_append.mpr ⟨(List.nodup_cons.mp nd).2, nd4, fun a ha b hb z => nf4 a (z ▸ hb) (by simp [ha])⟩⟩
                    rcases List.mem_append.mp z with y | y
                    · exact nDf y
                    · exact nDp y
                  · simp at hp
                    rcases hp with y | y | y
                    · exact nf p (by rw [y]; exact List.mem_cons_self) z
                    · exact nf p (List.mem_cons_of_mem _ y) z
                    · exact nf4 p y (List.mem_append_left _ z)
                · cases z1
      · have e : i = ds.length := by omega
        subst e
        refine .inl ⟨stop (Nat.le_refl _), ?_⟩
        rw [List.drop_length] at z1
        cases z1
        have lr : Lv H0 (Oo ++ W0) H1 ((Oo ++ Dp :: fa) ++ W1) := ⟨fun p o n h => l1.kp p o (fun z => n (List.mem_append_right _ z)) h, fun p hp => by
          simp at hp
          rcases hp with y | y | y | y
          · exact .inl (List.mem_append_left _ y)
          · exact (l1.out p (by simp [y])).imp (List.mem_append_right _) id
          · exact (l1.out p (by simp [y])).imp (List.mem_append_right _) id
          · exact (l1.out p (by simp [y])).imp (List.mem_append_right _) id⟩
        obtain ⟨W2, s2, E2⟩ := ER.rest E0 hok lr E1
        rw [rest_wipe] at E2
        have l2 : Lv H0 W0 H1 (W2 ++ Dp :: fa) := l1.trans (Lv.less fun p hp => by
          rcases List.mem_append.mp hp with y | y
          · exact List.mem_append_left _ (s2 p y)
          · exact List.mem_append_right _ y)
        refine q (.ref Dp) H1 W2 (Dp :: fa) (l0.trans l2) E2 nd nf ⟨Dp, vacc, fa, rfl, rfl, hDp, ro.lv (Lv.sub fun p hp => ?_) fun _ _ => rfl⟩
        rcases List.mem_append.mp hp with y | y
        · exact List.mem_append_left _ y
        · exact List.mem_append_right _ (s2 p y)
  · exact q.elim
end
end KM

/-! Defs and calls. -/
namespace KM
open PySem PySem.Spec PyProof.Rows L2 Evl KP
inductive RF where
  | ok (t : T) (outs : List T) | exc (c : Str) (ns : List Str) (ds : List D) (outs : List T) | stuck
/-- what a def is worth: the arguments' trees; the answer, and what the arguments are then -/
abbrev MF := List T → RF
def RPost (K : PySem.W.Frag) (vs : List V) (Oo W : List Addr) (H : Hp) (Q : VK) (E : XK) : RF → Prop
  | .ok t outs => ∀ v H' W' fp, Lv H W H' (W' ++ fp) → ER K (Oo ++ fp) W' (vs.map some) H' (outs.map some) → fp.Nodup → (∀ p ∈ fp, p ∉ Oo) → Ow K H' (Oo ++ fp ++ W') t v fp → Q v H'
  | .exc c ns ds outs => ∀ dx H' W', Lv H W H' W' → ER K Oo W' (vs.map some) H' (outs.map some) → ExR K H' (Oo ++ W') dx ns ds → E (.ref (He.ga K c)) dx H'
  | .stuck => False
def spM (K : PySem.W.Frag) (n : Nat) (m : MF) : Sp := fun vs H Q E => vs.length = n ∧ ∃ Oo W args, ER K Oo W (vs.map some) H (args.map some) ∧ RPost K vs Oo W H Q E (m args)
section
variable {K : PySem.W.Frag} {Wx : WX} {Fz : List Nat} {H H' H1 H2 : Hp} {O O' Oo W W' W1 W2 fp : List Addr} {σ σ' ρ : L2.St} {env env' as : Env} {te ta tb tc : TE} {tt tu : TT} {tas : TA} {ts us : TS} {A : Ends}
/-! ### a body keeps the promise -/
def outsOf : List Bool → List T → Env → Option (List T)
  | [], [], _ => some []
  | true :: fl, a :: as, _ :: e => (outsOf fl as e).map (a :: ·)
  | false :: fl, _ :: as, some t :: e => (outsOf fl as e).map (t :: ·)
  | _, _, _ => none
/-- the parameters that the body stores must come as data -/
def okFl : List Bool → List T → Bool
  | [], [] => true
  | true :: fl, .val _ :: as => okFl fl as
  | false :: fl, _ :: as => okFl fl as
  | _, _ => false
/-- the slots of the parameters that it does not store -/
def fzOf : List Bool → Nat → List Nat
  | [], _ => []
  | true :: fl, k => fzOf fl (k + 1)
  | false :: fl, k => k :: fzOf fl (k + 1)
def fnOut (fl : List Bool) (args : List T) (e : Env) (f : List T → RF) : RF := match outsOf fl args e with
  | some outs => f outs
  | none => .stuck
def fnM (fl : List Bool) (k : Nat) (body : SM) : MF := fun args => if okFl fl args = true then
    match body (args.map some ++ List.replicate k none) with
    | .nx e => fnOut fl args e (.ok (.val .non))
    | .ret t e => fnOut fl args e (.ok t)
    | .exc c ns ds e => fnOut fl args e (.exc c ns ds)
    | _ => .stuck
  else .stuck
theorem fz_mem : ∀ {fl : List Bool} {k i : Nat}, fl[i]? = some false → k + i ∈ fzOf fl k
  | true :: fl, k, 0, h => by simp at h
  | false :: fl, k, 0, h => by unfold fzOf; simp
  | true :: fl, k, i + 1, h => by
    unfold fzOf
    have := fz_mem (k := k + 1) (i := i) (by simpa using h)
    rw [show k + 1 + i = k + (i + 1) by omega] at this
    exact this
  | false :: fl, k, i + 1, h => by
    unfold fzOf
    have := fz_mem (k := k + 1) (i := i) (by simpa using h)
    rw [show k + 1 + i = k + (i + 1) by omega] at this
    exact List.mem_cons_of_mem _ this
/-- the arguments behind the body -/
theorem Ce.outs : ∀ {fl : List Bool} {args : List T} {vs : List V} {e : Env} {σ : L2.St} {W : List Addr} {outs : List T}, Ce K H O e σ W → outsOf fl args e = some outs → vs.length = args.length →
    (∀ (i : Nat) (v : V), fl[i]? = some false → vs[i]? = some v → σ[i]? = some (some v)) → (∀ (i : Nat) (a : T) (v : V), fl[i]? = some true → args[i]? = some a → vs[i]? = some v → ∃ d, a = T.val d ∧ Rv K H O d v) →
    ∃ W', W'.Sublist W ∧ Ce K H O (outs.map some) (vs.map some) W'
  | [], [], vs, e, σ, W, outs, c, h, hl, h1, h2 => by
    cases h
    cases vs with
    | nil => exact ⟨[], by simp, rfl, rfl⟩
    | cons v vs => simp at hl
  | true :: fl, a :: args, vs, c0 :: e, σ, W, outs, c, h, hl, h1, h2 => by
    cases vs with
    | nil => simp at hl
    | cons v vs =>
      unfold outsOf at h
      cases z : outsOf fl args e with
      | none => rw [z] at h; cases h
      | some os =>
        rw [z] at h; cases h
        obtain ⟨d, e1, rv⟩ := h2 0 a v (by simp) (by simp) (by simp)
        subst e1
        have rest : ∀ {σ' W2}, Ce K H O e σ' W2 → (∀ i, σ[i + 1]? = σ'[i]?) → ∃ W', W'.Sublist W2 ∧ Ce K H O (os.map some) (vs.map some) W' := fun {σ' W2} c2 hs =>
          Ce.outs c2 z (by simpa using hl) (fun i v hi hv => by rw [← hs]; exact h1 (i + 1) v (by simpa using hi) (by simpa using hv)) fun i a v hi ha hv => h2 (i + 1) a v (by simpa using hi) (by simpa using ha) (by simpa using hv)
        cases c0 with
        | none =>
          obtain ⟨s, σ', es, c2⟩ := c
          obtain ⟨W', s1, c3⟩ := rest c2 fun i => by rw [es]; rfl
          exact ⟨W', s1, v, _, [], W', rfl, rfl, ⟨rfl, rv⟩, c3⟩
        | some t =>
          obtain ⟨u, σ', f1, f2, es, ef, _, c2⟩ := c
          obtain ⟨W', s1, c3⟩ := rest c2 fun i => by rw [es]; rfl
          exact ⟨W', by rw [ef]; exact s1.trans (List.sublist_append_right _ _), v, _, [], W', rfl, rfl, ⟨rfl, rv⟩, c3⟩
  | false :: fl, a :: args, vs, some t :: e, σ, W, outs, ⟨u, σ', f1, f2, es, ef, o, c2⟩, h, hl, h1, h2 => by
    cases vs with
    | nil => simp at hl
    | cons v vs =>
      unfold outsOf at h
      cases z : outsOf fl args e with
      | none => rw [z] at h; cases h
      | some os =>
        rw [z] at h; cases h
        have hv := h1 0 v (by simp) (by simp)
        rw [es] at hv
        have hv : some (some u) = some (some v) := hv
        cases hv
        obtain ⟨W', s1, c3⟩ := Ce.outs c2 z (by simpa using hl) (fun i v hi hv => by
          have := h1 (i + 1) v (by simpa using hi) (by simpa using hv)
          rw [es] at this
          exact this) fun i a v hi ha hv => h2 (i + 1) a v (by simpa using hi) (by simpa using ha) (by simpa using hv)
        exact ⟨f1 ++ W', by rw [ef]; exact List.Sublist.append (List.Sublist.refl _) s1, u, _, f1, W', rfl, rfl, o, c3⟩
theorem okFl_val : ∀ {fl : List Bool} {args : List T} {i : Nat} {a : T}, okFl fl args = true → fl[i]? = some true → args[i]? = some a → ∃ d, a = .val d
  | true :: fl, a :: as, 0, b, h, h1, h2 => by
    simp at h2
    subst h2
    cases a with
    | val d => exact ⟨d, rfl⟩
    | _ => unfold okFl at h; cases h
  | false :: fl, a :: as, 0, b, h, h1, h2 => by simp at h1
  | true :: fl, a :: as, i + 1, b, h, h1, h2 => by
    cases a with
    | val d => unfold okFl at h; exact okFl_val h (by simpa using h1) (by simpa using h2)
    | _ => unfold okFl at h; cases h
  | false :: fl, a :: as, i + 1, b, h, h1, h2 => by unfold okFl at h; exact okFl_val h (by simpa using h1) (by simpa using h2)
  | [], _, _, _, _, h1, _ => by simp at h1
  | _ :: _, [], _, _, _, _, h2 => by simp at h2
theorem okFl_len : ∀ {fl : List Bool} {args : List T}, okFl fl args = true → fl.length = args.length
  | [], [], _ => rfl
  | [], _ :: _, h => by unfold okFl at h; cases h
  | true :: fl, [], h => by unfold okFl at h; cases h
  | false :: fl, [], h => by unfold okFl at h; cases h
  | true :: fl, a :: as, h => by
    cases a with
    | val d => unfold okFl at h; simp [okFl_len h]
    | _ => unfold okFl at h; cases h
  | false :: fl, a :: as, h => by unfold okFl at h; simp [okFl_len h]
theorem ER.vals (E : ER K Oo W (σ) H (env)) {i : Nat} {d : D} {v : V} (h1 : env[i]? = some (some (.val d))) (h2 : σ[i]? = some (some v)) : Rv K H (Oo ++ W) d v := by
  obtain ⟨u, A0, f, B, g1, _, g3, _⟩ := E.ce.at h1
  rw [h2] at g1; cases g1
  exact g3.2
/-- a def's body: from the mirror's answer to the promise -/
theorem fn_body {fl : List Bool} {k : Nat} {body : SM} {vs : List V} {Q : VK} {E : XK} {N : List Str} {n : Nat} (b : IS K (fun c d _ H => E c d H) (fzOf fl 0) ts body) (hN : N.length = n + k) (h : spM K n (fnM fl k body) vs H Q E) :
    ts { nx := fun _ H' => Q .non H', rt := Q } (L2.start N vs) H := by
  obtain ⟨hl, Oo, W, args, E0, q⟩ := h
  have hal : args.length = n := by have := E0.len; simp at this; omega
  unfold fnM at q
  split at q
  · rename_i hok
    have hfl : fl.length = n := (okFl_len hok).trans hal
    have E1 : ER K Oo W (L2.start N vs) H (args.map some ++ List.replicate k none) := by
      unfold L2.start
      rw [hN, hl, show n + k - n = k by omega]
      have c := Ce.app E0.ce (Ce.dead (K := K) (H := H) (O := Oo ++ W) k)
      rw [List.append_nil] at c
      exact ⟨c, E0.nd, E0.dj, E0.dom⟩
    have st : ∀ i v, vs[i]? = some v → (L2.start N vs)[i]? = some (some v) := fun i v hv => by
      unfold L2.start
      rw [List.getElem?_append_left (by simp; exact (List.getElem?_eq_some_iff.mp hv).1), List.getElem?_map, hv]
      rfl
    refine b Oo W _ H _ _ E1 ?_
    have fin : ∀ {e σ' H' W' fp outs}, Lv H W H' (W' ++ fp) → ER K (Oo ++ fp) W' σ' H' e → Kept (fzOf fl 0) (L2.start N vs) σ' → outsOf fl args e = some outs →
        ∃ W2, W2.Sublist W' ∧ ER K (Oo ++ fp) W2 (vs.map some) H' (outs.map some) := fun {e σ' H' W' fp outs} l Ee kp ho => by
      have lo : Lv H (Oo ++ W) H' (Oo ++ fp ++ W') := ⟨fun p o hn h => l.kp p o (fun z => hn (List.mem_append_right _ z)) h, fun p hp => by
        simp at hp
        rcases hp with y | y | y
        · exact .inl (by simp [y])
        · exact (l.out p (by simp [y])).imp (fun z => by simp [z]) id
        · exact (l.out p (by simp [y])).imp (fun z => by simp [z]) id⟩
      obtain ⟨W2, s, c⟩ := Ce.outs (vs := vs) Ee.ce ho (by omega) (fun i v hi hv => by
          have := kp (0 + i) (fz_mem hi)
          rw [Nat.zero_add] at this
          rw [this]; exact st i v hv) (fun i a v hi ha hv => by
          obtain ⟨d, e1⟩ := okFl_val hok hi ha
          subst e1
          exact ⟨d, rfl, (E0.vals (i := i) (by rw [List.getElem?_map, ha]; rfl) (by rw [List.getElem?_map, hv]; rfl)).lv lo⟩)
      refine ⟨W2, s, c.lv (Lv.sub fun p hp => ?_) (fun _ _ => rfl), Ee.nd.sublist s, fun p hp => Ee.dj p (s.subset hp), Ee.dom⟩
      rcases List.mem_append.mp hp with y | y
      · exact List.mem_append_left _ y
      · exact List.mem_append_right _ (s.subset y)
    cases zb : body (args.map some ++ List.replicate k none) with
    | nx e =>
      rw [zb] at q
      unfold fnOut at q
      dsimp only at q
      cases zo : outsOf fl args e with
      | none => rw [zo] at q; exact q.elim
      | some outs =>
        rw [zo] at q
        intro σ' H' W' l Ee kp
        obtain ⟨W2, s, E2⟩ := fin (fp := []) (by simpa using l) (by simpa using Ee) kp zo
        exact q .non H' W2 [] (by simpa using l.trans (Lv.less fun p hp => s.subset hp)) E2 List.nodup_nil (by simp) ⟨rfl, rfl⟩
    | ret t e =>
      rw [zb] at q
      unfold fnOut at q
      dsimp only at q
      cases zo : outsOf fl args e with
      | none => rw [zo] at q; exact q.elim
      | some outs =>
        rw [zo] at q
        intro v σ' H' W' fp l Ee kp nd nf o
        obtain ⟨W2, s, E2⟩ := fin l Ee kp zo
        refine q v H' W2 fp (l.trans (Lv.less fun p hp => ?_)) E2 nd nf (o.lv (Lv.sub fun p hp => ?_) fun _ _ => rfl)
        · rcases List.mem_append.mp hp with y | y
          · exact List.mem_append_left _ (s.subset y)
          · exact List.mem_append_right _ y
        · rcases List.mem_append.mp hp with y | y
          · exact List.mem_append_left _ y
          · exact List.mem_append_right _ (s.subset y)
    | exc c ns ds e =>
      rw [zb] at q
      unfold fnOut at q
      dsimp only at q
      cases zo : outsOf fl args e with
      | none => rw [zo] at q; exact q.elim
      | some outs =>
        rw [zo] at q
        intro dx σ' H' W' l Ee kp x
        obtain ⟨W2, s, E2⟩ := fin (fp := []) (by simpa using l) (by simpa using Ee) kp zo
        rw [List.append_nil] at E2
        refine q dx H' W2 (l.trans (Lv.less fun p hp => s.subset hp)) E2 ?_
        have lv : Lv H' (Oo ++ W') H' (Oo ++ W2) := Lv.sub fun p hp => by
          rcases List.mem_append.mp hp with y | y
          · exact List.mem_append_left _ y
          · exact List.mem_append_right _ (s.subset y)
        cases dx with
        | none => exact x
        | some a => obtain ⟨us, h1, h2, h3⟩ := x; exact ⟨us, h1, h2, h3.lv lv⟩
    | brk e => rw [zb] at q; exact q.elim
    | cnt e => rw [zb] at q; exact q.elim
    | stuck => rw [zb] at q; exact q.elim
  · exact q.elim
/-! ### the call -/
theorem Ce.split : ∀ {env as : Env} {σ ρ : L2.St} {W : List Addr}, env.length = σ.length → Ce K H O (env ++ as) (σ ++ ρ) W → ∃ W1 W2, W = W1 ++ W2 ∧ Ce K H O env σ W1 ∧ Ce K H O as ρ W2
  | [], as, σ, ρ, W, hl, c => by
    cases σ with
    | nil => exact ⟨[], W, rfl, ⟨rfl, rfl⟩, c⟩
    | cons s σ => simp at hl
  | none :: env, as, σ, ρ, W, hl, ⟨s, σ', e, c⟩ => by
    cases σ with
    | nil => simp at hl
    | cons s0 σ =>
      rw [List.cons_append] at e
      injection e with e1 e2
      subst e2
      obtain ⟨W1, W2, h1, h2, h3⟩ := Ce.split (by simpa using hl) c
      exact ⟨W1, W2, h1, ⟨s0, σ, rfl, h2⟩, h3⟩
  | some t :: env, as, σ, ρ, W, hl, ⟨v, σ', f1, f2, e, ef, o, c⟩ => by
    cases σ with
    | nil => simp at hl
    | cons s0 σ =>
      rw [List.cons_append] at e
      injection e with e1 e2
      subst e2 e1
      obtain ⟨W1, W2, h1, h2, h3⟩ := Ce.split (by simpa using hl) c
      exact ⟨f1 ++ W1, W2, by rw [ef, h1, List.append_assoc], ⟨v, σ, f1, W1, rfl, rfl, o, h2⟩, h3⟩
theorem ER.perm (E : ER K Oo W σ H env) (h : Ce K H (Oo ++ W') env' σ' W') (p : W'.Perm W) : ER K Oo W' σ' H env' :=
  ⟨h, p.nodup_iff.mpr E.nd, fun q hq => E.dj q (p.mem_iff.mp hq), E.dom⟩
/-- a name's tree goes to the end of the arguments -/
theorem ER.take (E : ER K Oo W (σ ++ ρ) H (env ++ as)) (hl : env.length = σ.length) {i : Nat} {t : T} (h : env[i]? = some (some t)) :
    ∃ v W', σ[i]? = some (some v) ∧ W'.Perm W ∧ ER K Oo W' (σ ++ (ρ ++ [some v])) H (env.set i none ++ (as ++ [some t])) := by
  obtain ⟨W1, W2, rfl, c1, c2⟩ := Ce.split hl E.ce
  obtain ⟨v, A0, f, B, h1, h2, h3, h4⟩ := c1.at h
  subst h2
  have pm : (A0 ++ [] ++ B ++ (W2 ++ f)).Perm (A0 ++ f ++ B ++ W2) := by
    rw [List.append_nil]
    have : (f ++ (B ++ W2)).Perm (B ++ W2 ++ f) := List.perm_append_comm
    simp only [List.append_assoc] at this ⊢
    exact (List.Perm.append_left A0 this.symm)
  have l : Lv H (Oo ++ (A0 ++ f ++ B ++ W2)) H (Oo ++ (A0 ++ [] ++ B ++ (W2 ++ f))) := Lv.sub fun p hp => by
    rcases List.mem_append.mp hp with y | y
    · exact List.mem_append_left _ y
    · exact List.mem_append_right _ (pm.mem_iff.mp y)
  have c3 := h4 (c := none) (s := some v) (f' := []) l (fun _ _ => rfl) (fun _ z => by cases z) fun _ => rfl
  rw [set_same h1] at c3
  refine ⟨v, _, h1, pm, E.perm (Ce.app c3 (Ce.app (c2.lv l fun _ _ => rfl) ?_)) pm⟩
  exact ⟨v, [], f, [], rfl, by simp, h3.lv l fun _ _ => rfl, rfl, rfl⟩
theorem ER.addV (E : ER K Oo W (σ ++ ρ) H (env ++ as)) (hl : env.length = σ.length) {d : D} {v : V} (r : Rv K H (Oo ++ W) d v) : ER K Oo W (σ ++ (ρ ++ [some v])) H (env ++ (as ++ [some (.val d)])) := by
  have c := Ce.app E.ce (show Ce K H (Oo ++ W) [some (T.val d)] [some v] [] from ⟨v, [], [], [], rfl, rfl, ⟨rfl, r⟩, rfl, rfl⟩)
  rw [List.append_nil, List.append_assoc, List.append_assoc] at c
  exact ⟨c, E.nd, E.dj, E.dom⟩
/-- a dead cell is filled -/
theorem Ce.fill : ∀ {env : Env} {σ : L2.St} {W : List Addr} {i : Nat}, Ce K H O env σ W → env[i]? = some none →
    ∃ A B, W = A ++ B ∧ ∀ {O' : List Addr} {t' : T} {v' : V} {f' : List Addr}, Lv H O H O' → Ow K H O' t' v' f' → Ce K H O' (env.set i (some t')) (σ.set i (some v')) (A ++ f' ++ B)
  | [], _, _, _, _, h => by simp at h
  | none :: env, _, W, 0, ⟨s0, σ', e, r⟩, h => by
    subst e
    exact ⟨[], W, rfl, fun {O' t' v' f'} l o => ⟨v', σ', f', W, rfl, rfl, o, r.lv l fun _ _ => rfl⟩⟩
  | some t0 :: env, _, _, 0, _, h => by simp at h
  | none :: env, _, _, i + 1, ⟨s0, σ', e, r⟩, h => by
    subst e
    obtain ⟨A, B, h2, h4⟩ := Ce.fill (i := i) r (by simpa using h)
    exact ⟨A, B, h2, fun l o => ⟨s0, _, rfl, h4 l o⟩⟩
  | some t0 :: env, _, _, i + 1, ⟨v0, σ', f1, f2, e, ef, a, r⟩, h => by
    subst e ef
    obtain ⟨A, B, h2, h4⟩ := Ce.fill (i := i) r (by simpa using h)
    subst h2
    exact ⟨f1 ++ A, B, by simp, fun {O' t' v' f'} l o => ⟨v0, _, f1, A ++ f' ++ B, rfl, by simp, a.lv l fun _ _ => rfl, h4 l o⟩⟩
/-- the first argument's tree goes back to its name -/
theorem ER.give (hl : env.length = σ.length) {i : Nat} {t : T} {v : V} (E : ER K Oo W (σ ++ (some v :: ρ)) H (env ++ (some t :: as))) (h : env[i]? = some none) (hs : σ[i]? = some (some v)) :
    ∃ W', W'.Perm W ∧ ER K Oo W' (σ ++ ρ) H (env.set i (some t) ++ as) := by
  obtain ⟨W1, W2, rfl, c1, c2⟩ := Ce.split hl E.ce
  obtain ⟨u, ρ', f1, f2, e, ef, o, c3⟩ := c2
  injection e with e1 e2
  cases e1
  subst e2 ef
  obtain ⟨A0, B, h2, h4⟩ := c1.fill h
  subst h2
  have pm : (A0 ++ f1 ++ B ++ f2).Perm (A0 ++ B ++ (f1 ++ f2)) := by
    have : (f1 ++ B).Perm (B ++ f1) := List.perm_append_comm
    have := List.Perm.append_right f2 this
    simp only [List.append_assoc] at this ⊢
    exact List.Perm.append_left A0 this
  have l : Lv H (Oo ++ (A0 ++ B ++ (f1 ++ f2))) H (Oo ++ (A0 ++ f1 ++ B ++ f2)) := Lv.sub fun p hp => by
    rcases List.mem_append.mp hp with y | y
    · exact List.mem_append_left _ y
    · exact List.mem_append_right _ (pm.mem_iff.mp y)
  have c4 := h4 l (o.lv l fun _ _ => rfl)
  rw [set_same hs] at c4
  exact ⟨_, pm, E.perm (Ce.app c4 (c3.lv l fun _ _ => rfl)) pm⟩
/-- the first argument is forgotten -/
theorem ER.drop1 (hl : env.length = σ.length) {c : Option T} {s : Option V} (E : ER K Oo W (σ ++ (s :: ρ)) H (env ++ (c :: as))) : ∃ W', (∀ p ∈ W', p ∈ W) ∧ ER K Oo W' (σ ++ ρ) H (env ++ as) := by
  obtain ⟨W1, W2, rfl, c1, c2⟩ := Ce.split hl E.ce
  have fin : ∀ {f2}, f2.Sublist W2 → Ce K H (Oo ++ (W1 ++ W2)) as ρ f2 → ∃ W', (∀ p ∈ W', p ∈ W1 ++ W2) ∧ ER K Oo W' (σ ++ ρ) H (env ++ as) := fun {f2} s c => by
    have s2 : (W1 ++ f2).Sublist (W1 ++ W2) := List.Sublist.append (List.Sublist.refl _) s
    refine ⟨W1 ++ f2, fun p hp => s2.subset hp, (Ce.app c1 c).lv (Lv.sub fun p hp => ?_) (fun _ _ => rfl), E.nd.sublist s2, fun p hp => E.dj p (s2.subset hp), E.dom⟩
    rcases List.mem_append.mp hp with y | y
    · exact List.mem_append_left _ y
    · exact List.mem_append_right _ (s2.subset y)
  cases c with
  | none =>
    obtain ⟨s0, σ', e, c3⟩ := c2
    injection e with e1 e2
    subst e2
    exact fin (List.Sublist.refl _) c3
  | some t =>
    obtain ⟨u, ρ', f1, f2, e, ef, o, c3⟩ := c2
    injection e with e1 e2
    subst e2 ef
    exact fin (List.sublist_append_right _ _) c3
def takeAs : List Ob → Env → Option (Env × List T)
  | [], env => some (env, [])
  | .val d :: r, env => (takeAs r env).map fun x => (x.1, .val d :: x.2)
  | .nm i :: r, env => match env[i]? with
    | some (some t) => (takeAs r (env.set i none)).map fun x => (x.1, t :: x.2)
    | _ => none
def giveAs : List Ob → Env → List T → Env
  | .val _ :: r, env, _ :: os => giveAs r env os
  | .nm i :: r, env, o :: os => giveAs r (env.set i (some o)) os
  | _, env, _ => env
/-- the names of a list of arguments are there, and dead ahead of the giving back -/
def deadAs : List Ob → Env → Prop
  | [], _ => True
  | .val _ :: r, env => deadAs r env
  | .nm i :: r, env => env[i]? = some none ∧ deadAs r env
theorem ObsR.heap : ∀ {os : List Ob} {vs : List V}, (∀ {d v}, Rv K H O d v → Rv K H' O' d v) → ObsR K H O σ os vs → ObsR K H' O' σ os vs
  | [], _, _, h => h
  | .val d :: os, _, f, ⟨v, vs', e, a, r⟩ => ⟨v, vs', e, f a, ObsR.heap f r⟩
  | .nm i :: os, _, f, ⟨v, vs', e, a, r⟩ => ⟨v, vs', e, OpdR.name a, ObsR.heap f r⟩
theorem takeAs_keep : ∀ {os : List Ob} {env e1 : Env} {ts : List T} {j : Nat}, takeAs os env = some (e1, ts) → env[j]? = some none → e1[j]? = some none
  | [], _, _, _, _, h, hj => by cases h; exact hj
  | .val d :: r, env, e1, ts, j, h, hj => by
    unfold takeAs at h
    cases z : takeAs r env with
    | none => rw [z] at h; cases h
    | some x => rw [z] at h; cases h; exact takeAs_keep (ts := x.2) (by rw [z]) hj
  | .nm i :: r, env, e1, ts, j, h, hj => by
    unfold takeAs at h
    split at h
    · rename_i t ht
      cases z : takeAs r (env.set i none) with
      | none => rw [z] at h; cases h
      | some x =>
        rw [z] at h; cases h
        refine takeAs_keep (ts := x.2) (by rw [z]) ?_
        by_cases hij : i = j
        · subst hij; rw [List.getElem?_set_self (List.getElem?_eq_some_iff.mp hj).1]
        · rw [List.getElem?_set_ne hij]; exact hj
    · cases h
theorem takeAs_len : ∀ {os : List Ob} {env e1 : Env} {ts : List T}, takeAs os env = some (e1, ts) → e1.length = env.length
  | [], _, _, _, h => by cases h; rfl
  | .val d :: r, env, e1, ts, h => by
    unfold takeAs at h
    cases z : takeAs r env with
    | none => rw [z] at h; cases h
    | some x => rw [z] at h; cases h; exact takeAs_len (ts := x.2) (by rw [z])
  | .nm i :: r, env, e1, ts, h => by
    unfold takeAs at h
    split at h
    · cases z : takeAs r (env.set i none) with
      | none => rw [z] at h; cases h
      | some x =>
        rw [z] at h; cases h
        rw [takeAs_len (ts := x.2) (by rw [z]), List.length_set]
    · cases h
theorem takeAs_dead : ∀ {os : List Ob} {env e1 : Env} {ts : List T}, takeAs os env = some (e1, ts) → deadAs os e1
  | [], _, _, _, h => trivial
  | .val d :: r, env, e1, ts, h => by
    unfold takeAs at h
    cases z : takeAs r env with
    | none => rw [z] at h; cases h
    | some x => rw [z] at h; cases h; exact takeAs_dead (os := r) (ts := x.2) (show takeAs r env = some (x.1, x.2) by rw [z])
  | .nm i :: r, env, e1, ts, h => by
    unfold takeAs at h
    split at h
    · rename_i t ht
      cases z : takeAs r (env.set i none) with
      | none => rw [z] at h; cases h
      | some x =>
        rw [z] at h; cases h
        exact ⟨takeAs_keep (ts := x.2) (show takeAs r (env.set i none) = some (x.1, x.2) by rw [z]) (List.getElem?_set_self (List.getElem?_eq_some_iff.mp ht).1), takeAs_dead (ts := x.2) (show takeAs r (env.set i none) = some (x.1, x.2) by rw [z])⟩
    · cases h
/-- no name stands twice -/
theorem takeAs_nodup : ∀ {os : List Ob} {env e1 : Env} {ts : List T} {i : Nat}, takeAs os env = some (e1, ts) → env[i]? = some none → Ob.nm i ∉ os
  | [], _, _, _, _, _, _ => by simp
  | .val d :: r, env, e1, ts, i, h, hi => by
    unfold takeAs at h
    cases z : takeAs r env with
    | none => rw [z] at h; cases h
    | some x =>
      rw [z] at h; cases h
      have := takeAs_nodup (ts := x.2) (show takeAs r env = some (x.1, x.2) by rw [z]) hi
      simpa using this
  | .nm j :: r, env, e1, ts, i, h, hi => by
    unfold takeAs at h
    split at h
    · rename_i t ht
      cases z : takeAs r (env.set j none) with
      | none => rw [z] at h; cases h
      | some x =>
        rw [z] at h; cases h
        have hij : j ≠ i := fun e => by subst e; rw [hi] at ht; cases ht
        have := takeAs_nodup (ts := x.2) (by rw [z]) (i := i) (by rw [List.getElem?_set_ne hij]; exact hi)
        intro hm
        rcases List.mem_cons.mp hm with e | e
        · injection e with e; exact hij e.symm
        · exact this e
    · cases h
theorem ER.takes : ∀ {os : List Ob} {vs : List V} {env e1 : Env} {ts : List T} {W : List Addr} {ρ : L2.St} {as : Env}, ER K Oo W (σ ++ ρ) H (env ++ as) → env.length = σ.length → ObsR K H (Oo ++ W) σ os vs → takeAs os env = some (e1, ts) →
    ∃ W', W'.Perm W ∧ ER K Oo W' (σ ++ (ρ ++ vs.map some)) H (e1 ++ (as ++ ts.map some))
  | [], vs, env, e1, ts, W, ρ, as, E, hl, r, h => by
    cases h
    cases (show vs = [] from r)
    exact ⟨W, List.Perm.refl _, by simpa using E⟩
  | .val d :: os, vs, env, e1, ts, W, ρ, as, E, hl, ⟨v, vs', e, a, r⟩, h => by
    unfold takeAs at h
    cases z : takeAs os env with
    | none => rw [z] at h; cases h
    | some x =>
      rw [z] at h; cases h
      subst e
      obtain ⟨W', p, E'⟩ := ER.takes (ts := x.2) (E.addV hl a) hl r (by rw [z])
      exact ⟨W', p, by simpa [List.append_assoc] using E'⟩
  | .nm i :: os, vs, env, e1, ts, W, ρ, as, E, hl, ⟨v, vs', e, ⟨r0, h1, n⟩, r⟩, h => by
    unfold takeAs at h
    split at h
    · rename_i t ht
      cases z : takeAs os (env.set i none) with
      | none => rw [z] at h; cases h
      | some x =>
        rw [z] at h; cases h
        subst e
        obtain ⟨v', W1, h2, p1, E1⟩ := E.take hl ht
        rw [h1] at h2; cases h2
        cases (show v = r0 from n)
        have sub : ∀ p ∈ Oo ++ W1, p ∈ Oo ++ W := fun p hp => by
          rcases List.mem_append.mp hp with y | y
          · exact List.mem_append_left _ y
          · exact List.mem_append_right _ (p1.mem_iff.mp y)
        obtain ⟨W', p, E'⟩ := ER.takes (ts := x.2) E1 (by rw [List.length_set]; exact hl) (ObsR.heap (fun q => q.lv (Lv.sub sub)) r) (by rw [z])
        exact ⟨W', p.trans p1, by simpa [List.append_assoc] using E'⟩
    · cases h
theorem ER.gives : ∀ {os : List Ob} {vs : List V} {e1 : Env} {outs : List T} {W : List Addr}, ER K Oo W (σ ++ vs.map some) H (e1 ++ outs.map some) → e1.length = σ.length → outs.length = vs.length → ObsR K H' O' σ os vs → deadAs os e1 →
    (os.filterMap fun o => match o with | .nm i => some i | _ => none).Nodup → ∃ W', (∀ p ∈ W', p ∈ W) ∧ ER K Oo W' σ H (giveAs os e1 outs)
  | [], vs, e1, outs, W, E, hl, ho, r, dd, nd => by
    cases (show vs = [] from r)
    cases outs with
    | nil => exact ⟨W, fun _ h => h, by simpa [giveAs] using E⟩
    | cons o outs => simp at ho
  | .val d :: os, vs, e1, outs, W, E, hl, ho, ⟨v, vs', e, a, r⟩, dd, nd => by
    subst e
    cases outs with
    | nil => simp at ho
    | cons o outs =>
      obtain ⟨W1, s1, E1⟩ := ER.drop1 hl E
      obtain ⟨W', s, E'⟩ := ER.gives E1 hl (by simpa using ho) r dd (by simpa using nd)
      exact ⟨W', fun p hp => s1 p (s p hp), E'⟩
  | .nm i :: os, vs, e1, outs, W, E, hl, ho, ⟨v, vs', e, ⟨r0, h1, n⟩, r⟩, ⟨d1, dd⟩, nd => by
    subst e
    cases (show v = r0 from n)
    cases outs with
    | nil => simp at ho
    | cons o outs =>
      obtain ⟨W1, p1, E1⟩ := ER.give hl E d1 h1
      have nd' : (i :: os.filterMap fun o => match o with | .nm i => some i | _ => none).Nodup := by simpa using nd
      have nd2 := List.nodup_cons.mp nd'
      have dd' : deadAs os (e1.set i (some o)) := by
        have gen : ∀ {os : List Ob}, deadAs os e1 → i ∉ (os.filterMap fun o => match o with | .nm i => some i | _ => none) → deadAs os (e1.set i (some o)) := by
          intro os
          induction os with
          | nil => intro _ _; trivial
          | cons x os ih =>
            intro h1 h2
            cases x with
            | val d => exact ih h1 (by simpa using h2)
            | nm j =>
              have h3 : i ∉ j :: (os.filterMap fun o => match o with | .nm i => some i | _ => none) := by simpa using h2
              exact ⟨by rw [List.getElem?_set_ne fun z => h3 (by simp [z])]; exact h1.1, ih h1.2 fun z => h3 (List.mem_cons_of_mem _ z)⟩
        exact gen dd nd2.1
      obtain ⟨W', s, E'⟩ := ER.gives E1 (by rw [List.length_set]; exact hl) (by simpa using ho) r dd' nd2.2
      exact ⟨W', fun p hp => p1.mem_iff.mp (s p hp), E'⟩
theorem takeAs_nms : ∀ {os : List Ob} {env e1 : Env} {ts : List T}, takeAs os env = some (e1, ts) → (os.filterMap fun o => match o with | .nm i => some i | _ => none).Nodup
  | [], _, _, _, _ => by simp
  | .val d :: r, env, e1, ts, h => by
    unfold takeAs at h
    cases z : takeAs r env with
    | none => rw [z] at h; cases h
    | some x =>
      rw [z] at h; cases h
      have := takeAs_nms (ts := x.2) (show takeAs r env = some (x.1, x.2) by rw [z])
      simpa using this
  | .nm j :: r, env, e1, ts, h => by
    unfold takeAs at h
    split at h
    · rename_i t ht
      cases z : takeAs r (env.set j none) with
      | none => rw [z] at h; cases h
      | some x =>
        rw [z] at h; cases h
        have h1 := takeAs_nms (ts := x.2) (show takeAs r (env.set j none) = some (x.1, x.2) by rw [z])
        have h2 := takeAs_nodup (ts := x.2) (show takeAs r (env.set j none) = some (x.1, x.2) by rw [z]) (i := j) (List.getElem?_set_self (List.getElem?_eq_some_iff.mp ht).1)
        have : (j :: r.filterMap fun o => match o with | .nm i => some i | _ => none).Nodup := List.nodup_cons.mpr ⟨fun hm => by
          obtain ⟨o, ho, e⟩ := List.mem_filterMap.mp hm
          cases o with
          | val d => cases e
          | nm k => cases e; exact h2 ho, h1⟩
        simpa using this
    · cases h
theorem ObsR.len : ∀ {os : List Ob} {vs : List V}, ObsR K H O σ os vs → vs.length = os.length
  | [], _, e => by cases (show _ = [] from e); rfl
  | o :: os, _, ⟨v, vs', e, a, r⟩ => by subst e; simp [ObsR.len r]
def callM (mf : MF) (a : M (List Ob)) : M T := a.bnd fun os => fun env => match takeAs os env with
  | none => .stuck
  | some x => match mf x.2 with
    | .ok t outs => .ok t (giveAs os x.1 outs)
    | .exc c ns ds outs => .exc c ns ds (giveAs os x.1 outs)
    | .stuck => .stuck
/-- a call of a def whose promise is the mirror's -/
def tCalX (sp : Sp) (W : WX) (t : TA) : TE := fun σ H Q => t σ H fun vs H1 => sp vs H1 Q (fun c d H' => W c d σ H')
theorem io_call {n : Nat} {mf : MF} {m} (hn : ∀ vs : List V, vs.length = n ∨ True) (a : IA K Wx tas m) (hlen : ∀ env os e, m env = .ok os e → os.length = n) : IO K Wx (tCalX (spM K n mf) Wx tas) (callM mf m) := fun Oo W σ H env Q E q => by
  refine a Oo W σ H env _ E ?_
  have hq := M.bnd_to q
  cases zm : m env with
  | exc c ns ds e => rw [zm] at hq; exact hq
  | stuck => rw [zm] at hq; exact hq
  | ok os e =>
    rw [zm] at hq
    intro vs H1 W1 l1 E1 r1
    have hos := hlen env os e zm
    have hq : Rs.To (match takeAs os e with
      | none => .stuck
      | some x => match mf x.2 with
        | .ok t outs => .ok t (giveAs os x.1 outs)
        | .exc c ns ds outs => .exc c ns ds (giveAs os x.1 outs)
        | .stuck => .stuck : Rs T) _ _ := hq
    cases zt : takeAs os e with
    | none => rw [zt] at hq; exact hq.elim
    | some x =>
      rw [zt] at hq
      dsimp only at hq
      have hl1 : e.length = σ.length := E1.len.symm
      have hx : x.1.length = σ.length := by rw [takeAs_len (ts := x.2) (show takeAs os e = some (x.1, x.2) by rw [zt])]; exact hl1
      obtain ⟨W2, p2, E2⟩ := ER.takes (ρ := []) (as := []) (ts := x.2) (e1 := x.1) (by simpa using E1) hl1 r1 (by rw [zt])
      rw [List.nil_append, List.nil_append] at E2
      obtain ⟨Wd, Wc, hW, c1, c2⟩ := Ce.split hx E2.ce
      subst hW
      have nd2 := List.nodup_append.mp E2.nd
      have Ec : ER K (Oo ++ Wd) Wc (vs.map some) H1 (x.2.map some) := ⟨c2.lv (Lv.sub fun p hp => by simpa using hp) (fun _ _ => rfl), nd2.2.1, fun p hp z => by
        rcases List.mem_append.mp z with y | y
        · exact E2.dj p (List.mem_append_right _ hp) y
        · exact nd2.2.2 p y p hp rfl, fun p hp => by
        rcases List.mem_append.mp hp with y | y
        · exact E2.dom p y
        · exact c1.dom p y⟩
      refine ⟨r1.len.trans hos, Oo ++ Wd, Wc, x.2, Ec, ?_⟩
      have perm : ∀ p, p ∈ W1 ↔ p ∈ Wd ∨ p ∈ Wc := fun p => by rw [← p2.mem_iff, List.mem_append]
      -- behind the call
      have back : ∀ {H' W' fp outs}, Lv H1 Wc H' (W' ++ fp) → ER K (Oo ++ Wd ++ fp) W' (vs.map some) H' (outs.map some) → (∀ p ∈ fp, p ∉ Oo ++ Wd) →
          ∃ W3, (∀ p ∈ W3, p ∈ Wd ++ W') ∧ ER K (Oo ++ fp) W3 σ H' (giveAs os x.1 outs) := fun {H' W' fp outs} l Eo nf => by
        have c1' : Ce K H' (Oo ++ fp ++ (Wd ++ W')) x.1 σ Wd := c1.lv ⟨fun p o hn h => l.kp p o (fun z => hn (by simp [z])) h, fun p hp => by
            simp at hp
            rcases hp with y | y | y | y
            · exact .inl (by simp [y])
            · exact (l.out p (by simp [y])).imp (fun z => by simp [z]) id
            · exact .inl (by simp [y])
            · exact (l.out p (by simp [y])).imp (fun z => by simp [z]) id⟩ fun p hp => by
          obtain ⟨o, h⟩ := Mut.ex (c1.dom p hp)
          rw [h]; exact l.kp p o (fun z => nd2.2.2 p hp p z rfl) h
        have c2' : Ce K H' (Oo ++ fp ++ (Wd ++ W')) (outs.map some) (vs.map some) W' := Eo.ce.lv (Lv.sub fun p hp => by simp at hp ⊢; rcases hp with y | y | y | y <;> simp [y]) fun _ _ => rfl
        have Ej : ER K (Oo ++ fp) (Wd ++ W') (σ ++ vs.map some) H' (x.1 ++ outs.map some) := ⟨Ce.app c1' c2', List.nodup_append.mpr ⟨nd2.1, Eo.nd, fun a ha b hb z => Eo.dj b hb (by rw [← z]; simp [ha])⟩, fun p hp z => by
            rcases List.mem_append.mp hp with y | y
            · rcases List.mem_append.mp z with w | w
              · exact E2.dj p (List.mem_append_left _ y) w
              · exact nf p w (List.mem_append_right _ y)
            · exact Eo.dj p y (by simp at z ⊢; rcases z with w | w <;> simp [w]), fun p hp => Eo.dom p (by simp at hp ⊢; rcases hp with w | w <;> simp [w])⟩
        have ho : outs.length = vs.length := by have := Eo.len; simp at this; exact this.symm
        exact ER.gives Ej hx ho r1 (takeAs_dead (ts := x.2) (show takeAs os e = some (x.1, x.2) by rw [zt])) (takeAs_nms (ts := x.2) (show takeAs os e = some (x.1, x.2) by rw [zt]))
      have lvb : ∀ {H' W' W3 fp}, Lv H1 Wc H' (W' ++ fp) → (∀ p ∈ W3, p ∈ Wd ++ W') → Lv H1 W1 H' (W3 ++ fp) := fun {H' W' W3 fp} l s => ⟨fun p o hn h => l.kp p o (fun z => hn ((perm p).mpr (.inr z))) h, fun p hp => by
        rcases List.mem_append.mp hp with y | y
        · rcases List.mem_append.mp (s p y) with w | w
          · exact .inl ((perm p).mpr (.inl w))
          · exact (l.out p (List.mem_append_left _ w)).imp (fun z => (perm p).mpr (.inr z)) id
        · exact (l.out p (List.mem_append_right _ y)).imp (fun z => (perm p).mpr (.inr z)) id⟩
      cases zf : mf x.2 with
      | ok t outs =>
        rw [zf] at hq
        intro v H' W' fp l Eo nd nf o
        obtain ⟨W3, s3, E3⟩ := back l Eo nf
        refine hq v H' W3 fp (l1.trans (lvb l s3)) E3 nd (fun p hp z => nf p hp (List.mem_append_left _ z)) (o.lv (Lv.sub fun p hp => ?_) fun _ _ => rfl)
        simp at hp ⊢
        rcases hp with y | y | y
        · simp [y]
        · simp [y]
        · rcases List.mem_append.mp (s3 p y) with w | w <;> simp [w]
      | exc c ns ds outs =>
        rw [zf] at hq
        intro dx H' W' l Eo xr
        obtain ⟨W3, s3, E3⟩ := back (fp := []) (by simpa using l) (by simpa using Eo) (by simp)
        rw [List.append_nil] at E3
        refine hq dx H' W3 (l1.trans (by simpa using lvb (fp := []) (by simpa using l) s3)) E3 ?_
        have lv : Lv H' (Oo ++ Wd ++ W') H' (Oo ++ W3) := Lv.sub fun p hp => by
          simp at hp ⊢
          rcases hp with y | y
          · simp [y]
          · rcases List.mem_append.mp (s3 p y) with w | w <;> simp [w]
        cases dx with
        | none => exact xr
        | some a => obtain ⟨us, h1, h2, h3⟩ := xr; exact ⟨us, h1, h2, h3.lv lv⟩
      | stuck => rw [zf] at hq; exact hq.elim
end
end KM

/-! The mirror's calls in the text; the law's end. -/
namespace KM
open PySem PySem.Spec PyProof.Rows L2 Evl KP
theorem aN_len (env : Env) (os : List Ob) (e : Env) (h : aNil env = .ok os e) : os.length = 0 := by
  cases h; rfl
theorem aC_len {n : Nat} {a : M Ob} {b : M (List Ob)} (hb : ∀ env os e, b env = .ok os e → os.length = n) (env : Env) (os : List Ob) (e : Env) (h : aCons a b env = .ok os e) : os.length = n + 1 := by
  unfold aCons M.bnd at h
  cases z : a env with
  | ok x e1 =>
    rw [z] at h
    dsimp only at h
    cases y : b e1 with
    | ok xs e2 =>
      rw [y] at h
      cases h
      simp [hb _ _ _ y]
    | exc c ns ds e2 => rw [y] at h; cases h
    | stuck => rw [y] at h; cases h
  | exc c ns ds e1 => rw [z] at h; cases h
  | stuck => rw [z] at h; cases h
section
variable {P : Program} {w : World} {K : PySem.W.Frag} {mg : Str → Option Value} {base : Heap}
/-- a def of the module that may raise, by its name -/
abbrev CalX (P : Program) (w : World) (K : PySem.W.Frag) (mg : Str → Option Value) (base : Heap) (k : Nat) (x : Str) (ps : List Str) (sp : Sp) : Prop := Cal P w K mg base (L2.CX P w) k x ps sp
end
section
variable {X : Cx} {k : Nat} {x : Str} {ps : List Str} {sp : Sp} {W : WX} {e : Expr} {es : List Expr} {t : TA} {p pos : Pos}
theorem tCalX_eq (sp : Sp) (W : WX) (t : TA) : tCallSD sp [] (WE W) t = tCalX sp W t := by
  funext σ H Q
  unfold tCallSD tCalX
  congr 1
  funext vs H1
  rw [List.append_nil]
theorem pe_calX (C : CalX X.prog X.w X.K X.mg X.base k x ps sp) (hr : Room k X.A) (hg : Gl X x) (tk : Takes X W) (ha : PA X (e :: es) t) (hdb : (x == ("__debug__" : Str)) = false := by decide)
    (he : starEach (e :: es) X.env = (false, eval e X.env) :: starEach es X.env := by rfl) (hpl : (backTo pos (starEach es X.env)).any (·.1) = false := by rfl) :
    PE X (.Call (.Name x p) (e :: es) [] pos) (tCalX sp W t) := by
  obtain ⟨f, fd, h1, h2, h3, h4⟩ := C.ex
  rw [← tCalX_eq]
  exact pe_callSD h4 hr hg h1 h2 h3 .nil (fun σ => passAt tk σ) ha hdb he hpl
theorem pe_calX0 (C : CalX X.prog X.w X.K X.mg X.base k x ps sp) (hr : Room k X.A) (hg : Gl X x) (tk : Takes X W) (hdb : (x == ("__debug__" : Str)) = false := by decide) :
    PE X (.Call (.Name x p) [] [] pos) (tCalX sp W tNil) := by
  obtain ⟨f, fd, h1, h2, h3, h4⟩ := C.ex
  refine ⟨fun pins s σ H Q I h => ?_⟩
  refine wpAny_Call_Name_kw (ld_glob I hg h1 ?_ hdb)
  exact PySem.W.callWith_K0 I.kIn h2 (run_fnSD (us := []) (vs := []) (E := WE W) h4 hr h3 .nil (passAt tk σ) I .nil h)
end
section
variable {P : Program} {w : World} {K : PySem.W.Frag} {mg : Str → Option Value} {base : Heap} {k : Nat} {f : Addr} {fd : FuncData} {ps : List Str}
/-- nothing is promised of a def that is stuck -/
theorem fn_stuck {n : Nat} : FnOk P w K mg base (L2.CX P w) k f fd ps (spM K n fun _ => .stuck) :=
  ⟨fun vs H Q E ⟨_, _, _, _, _, h⟩ => h.elim, fun _ _ _ _ _ _ _ _ _ _ _ _ _ ⟨_, _, _, _, _, h⟩ => h.elim⟩
/-- the law's end -/
theorem law_end {m : MF} (F : FnOk P w K mg base (L2.CX P w) k f fd ["script"] (spM K 1 m)) (h : ∀ ns : List Int, ns.length ≤ 63 → ∃ outs, m [.val (.fro (ns.map D.int))] = .ok (.val (.bl true)) outs) : FnOk P w K mg base CX0 k f fd ["script"] (sp_law K) := by
  refine ⟨fun vs H Q E ⟨x, e, _⟩ => by rw [e]; rfl, fun A outer s H args us vs Q E hr e0 hb r hs => ?_⟩
  obtain ⟨x, rfl, a, ns, rfl, hS, hl, q⟩ := hs
  obtain ⟨outs, hm⟩ := h ns hl
  have hrv : Rv K H [] (.fro (ns.map D.int)) (.ref a) := by
    refine ⟨a, ns.map V.int, rfl, ?_, ?_⟩
    · rcases hS with ⟨o, h⟩ | h
      · exact .inl ⟨by simp, o, h⟩
      · rcases h (fun _ => none) with (h | ⟨o, h⟩) | h
        · cases h
        · cases h
        · exact .inr h
    · clear hm hl hS
      induction ns with
      | nil => rfl
      | cons n ns ih => exact ⟨.int n, _, rfl, rfl, ih⟩
  have hsp : spM K 1 m [.ref a] H Q E0 := by
    refine ⟨rfl, [], [], [.val (.fro (ns.map D.int))], ⟨⟨.ref a, [], [], [], rfl, rfl, ⟨rfl, hrv⟩, rfl, rfl⟩, List.nodup_nil, by simp, by simp⟩, ?_⟩
    rw [hm]
    intro v H' W' fp l Eo nd nf o
    cases (show v = V.bl true from o.2)
    exact q H'
  refine codeAny_mono (F.run A outer s H args us [.ref a] Q E0 hr e0 hb r hsp) fun r s' hq => ?_
  cases r with
  | ok fl => cases fl <;> exact hq
  | error e =>
    obtain ⟨_, _, _, _, _, _, _, _, _, _, _, _, z⟩ := (show L2.CX P w outer H s E0 e s' from hq)
    exact z.elim
end
/-! ### constants of the module: data that stands in the written part -/
mutual
def kB (K : PySem.W.Frag) : D → Value → Bool
  | .non, u => decide (u = Value.none)
  | .bl b, u => decide (u = Value.bool b)
  | .int i, u => match u with
    | .int j _ => decide (j = i)
    | _ => false
  | .str x, u => match u with
    | .str y _ => decide (y = x)
    | _ => false
  | .tup ds, u => match u with
    | .ref p => match K.lookup p with
      | some ⟨.type "tuple", _, .seq its _, _⟩ => decide (its.size ≤ 16777216) && kBs K ds its.toList
      | _ => false
    | _ => false
  | _, _ => false
def kBs (K : PySem.W.Frag) : List D → List Value → Bool
  | [], us => us.isEmpty
  | d :: ds, us => match us with
    | [] => false
    | u :: us => kB K d u && kBs K ds us
end
section
variable {K : PySem.W.Frag} {H : Hp} {O : List Addr}
mutual
theorem kB_ok : ∀ {d : D} {u : Value} {H : Hp} {O : List Addr}, kB K d u = true → ∃ v, RelV v u ∧ Rv K H O d v
  | .non, u, H, O, h => by
    unfold kB at h
    exact ⟨.non, (of_decide_eq_true h : u = Value.none), rfl⟩
  | .bl b, u, H, O, h => by
    unfold kB at h
    exact ⟨.bl b, (of_decide_eq_true h : u = Value.bool b), rfl⟩
  | .int i, u, H, O, h => by
    unfold kB at h
    split at h
    · have e := of_decide_eq_true h
      subst e
      exact ⟨.int _, ⟨_, rfl⟩, rfl⟩
    · cases h
  | .str x, u, H, O, h => by
    unfold kB at h
    split at h
    · have e := of_decide_eq_true h
      subst e
      exact ⟨.str _, ⟨_, rfl⟩, rfl⟩
    · cases h
  | .tup ds, u, H, O, h => by
    unfold kB at h
    split at h
    · rename_i p
      split at h
      · rename_i od its n sl e
        rw [Bool.and_eq_true] at h
        obtain ⟨vs, r1, r2⟩ := kBs_ok (H := H) (O := O) h.2
        exact ⟨.ref p, rfl, p, vs, rfl, .inr ⟨_, its, n, e, rfl, rfl, by rw [sizeLine_eq]; exact of_decide_eq_true h.1, r1⟩, r2⟩
      · cases h
    · cases h
  | .ty _, _, _, _, h => by unfold kB at h; cases h
  | .glo _, _, _, _, h => by unfold kB at h; cases h
  | .lst _, _, _, _, h => by unfold kB at h; cases h
  | .fro _, _, _, _, h => by unfold kB at h; cases h
  | .dic _ _, _, _, _, h => by unfold kB at h; cases h
  | .obj _ _ _, _, _, _, h => by unfold kB at h; cases h
theorem kBs_ok : ∀ {ds : List D} {us : List Value} {H : Hp} {O : List Addr}, kBs K ds us = true → ∃ vs, Vals vs us ∧ Rvs K H O ds vs
  | [], us, H, O, h => by
    unfold kBs at h
    cases us with
    | nil => exact ⟨[], .nil, rfl⟩
    | cons u us => cases h
  | d :: ds, us, H, O, h => by
    unfold kBs at h
    cases us with
    | nil => cases h
    | cons u us =>
      dsimp only at h
      rw [Bool.and_eq_true] at h
      obtain ⟨v, r1, r2⟩ := kB_ok (H := H) (O := O) h.1
      obtain ⟨vs, r3, r4⟩ := kBs_ok (H := H) (O := O) h.2
      exact ⟨v :: vs, .cons r1 r3, v, vs, rfl, r2, r4⟩
end
/-- the module's name x stands for the data d -/
def conB (x : Str) (d : D) : KP.Ex1 := fun K => match PySem.W.nsIn K mainGlobals x with
  | some (some u) => kB K d u
  | _ => false
theorem conB_ok {x : Str} {d : D} {mg : Str → Option Value} (h : conB x d K = true) (hp : ∃ h : Heap, K.In h ∧ h.Ns mainGlobals mg) : ∃ u, mg x = some u ∧ kB K d u = true := by
  unfold conB at h
  split at h
  · rename_i u e
    obtain ⟨hh, X, G⟩ := hp
    exact ⟨u, PySem.W.mg_of X G e, h⟩
  · cases h
/-- a constant's reading -/
def tK (K : PySem.W.Frag) (d : D) : TE := fun _ H Q => ∀ v, (∀ H O, Rv K H O d v) → Q v H
theorem Rv.any {d : D} {u : Value} (h : kB K d u = true) : ∃ v, RelV v u ∧ ∀ H O, Rv K H O d v := by
  obtain ⟨v, r1, _⟩ := kB_ok (H := fun _ => none) (O := []) h
  refine ⟨v, r1, fun H O => ?_⟩
  obtain ⟨v', r2, r3⟩ := kB_ok (H := H) (O := O) h
  rw [r1.inj r2]
  exact r3
theorem pe_con {X : Cx} {x : Str} {d : D} {p : Pos} (h : ∃ u, X.mg x = some u ∧ kB X.K d u = true) (hg : Gl X x) (hd : (x == ("__debug__" : Str)) = false := by decide) : PE X (.Name x p) (tK X.K d) := by
  obtain ⟨u, h1, h2⟩ := h
  obtain ⟨v, r1, r2⟩ := Rv.any h2
  exact ⟨fun pins s σ H Q I hq => ld_glob I hg h1 ⟨v, H, I, r1, hq v r2⟩ hd⟩
theorem con_iq {d : D} : IQ K (tK K d) (pC d) := fun Oo W σ H env Q E ⟨d', e, q⟩ => by
  cases e
  exact fun v hv => q v H (Evl.Ex.refl H) (hv _ _)
end
end KM

/-! The mirror's evaluation: each combinator at a state. -/
namespace KM
open PySem PySem.Spec PyProof.Rows L2 Evl KP
def Rs.bind {α β : Type} (r : Rs α) (k : α → M β) : Rs β := match r with
  | .ok a e => k a e
  | .exc c ns ds e => .exc c ns ds e
  | .stuck => .stuck
def Rs.out {α : Type} (r : Rs α) (k : α → SM) : Out := match r with
  | .ok a e => k a e
  | .exc c ns ds e => .exc c ns ds e
  | .stuck => .stuck
def Out.then (o : Out) (b : SM) : Out := match o with
  | .nx e => b e
  | o => o
section
variable {α β : Type} {env e e1 e2 : Env} {c : Prop} [Decidable c]
theorem x_bnd (m : M α) (k : α → M β) (env : Env) : (m.bnd k) env = (m env).bind k := rfl
theorem x_ret (a : α) (env : Env) : M.ret a env = .ok a env := rfl
theorem x_opt (a : α) (env : Env) : M.opt (some a) env = .ok a env := rfl
theorem x_bind (a : α) (env : Env) (k : α → M β) : (Rs.ok a env).bind k = k a env := rfl
theorem x_bindX (c : Str) (ns : List Str) (ds : List D) (env : Env) (k : α → M β) : (Rs.exc c ns ds env).bind k = .exc c ns ds env := rfl
theorem x_bindS (k : α → M β) : (Rs.stuck : Rs α).bind k = .stuck := rfl
theorem x_bindI (a b : Rs α) (k : α → M β) : (if c then a else b).bind k = if c then a.bind k else b.bind k := by split <;> rfl
theorem x_out (a : α) (env : Env) (k : α → SM) : (Rs.ok a env).out k = k a env := rfl
theorem x_outX (c : Str) (ns : List Str) (ds : List D) (env : Env) (k : α → SM) : (Rs.exc c ns ds env).out k = .exc c ns ds env := rfl
theorem x_outS (k : α → SM) : (Rs.stuck : Rs α).out k = .stuck := rfl
theorem x_outI (a b : Rs α) (k : α → SM) : (if c then a else b).out k = if c then a.out k else b.out k := by split <;> rfl
theorem x_thenS (m : M α) (k : α → SM) (env : Env) : thenS m k env = (m env).out k := rfl
theorem x_seq (a b : SM) (env : Env) : sSeq a b env = (a env).then b := by
  unfold sSeq Out.then
  rfl
theorem x_nx (env : Env) (b : SM) : (Out.nx env).then b = b env := rfl
theorem x_nbrk (env : Env) (b : SM) : (Out.brk env).then b = .brk env := rfl
theorem x_ncnt (env : Env) (b : SM) : (Out.cnt env).then b = .cnt env := rfl
theorem x_nret (t : T) (env : Env) (b : SM) : (Out.ret t env).then b = .ret t env := rfl
theorem x_nexc (c : Str) (ns : List Str) (ds : List D) (env : Env) (b : SM) : (Out.exc c ns ds env).then b = .exc c ns ds env := rfl
theorem x_nstuck (b : SM) : Out.stuck.then b = .stuck := rfl
theorem x_nI (a a' : Out) (b : SM) : (if c then a else a').then b = if c then a.then b else a'.then b := by split <;> rfl
theorem x_nil (env : Env) : sNil env = .nx env := rfl
theorem x_brk (env : Env) : sBrk env = .brk env := rfl
theorem x_cnt (env : Env) : sCnt env = .cnt env := rfl
theorem x_drop (m : M T) (env : Env) : sDrop m env = (m env).out fun _ => sNil := rfl
theorem x_sret (m : M T) (env : Env) : sRet m env = (m env).out fun t e => .ret t e := rfl
theorem x_retN (env : Env) : sRetN env = .ret (.val .non) env := rfl
theorem x_sif (cm : M Bool) (a b : SM) (env : Env) : sIf cm a b env = (cm env).out fun x => if x = true then a else b := rfl
theorem x_iteSM (a b : SM) (env : Env) : (if c then a else b) env = if c then a env else b env := by split <;> rfl
theorem x_iteM (a b : M α) (env : Env) : (if c then a else b) env = if c then a env else b env := by split <;> rfl
theorem x_asg (i : Nat) (m : M T) (env : Env) : sAsg i m env = (m env).out fun t e => .nx (e.set i (some t)) := rfl
def optOut (o : Option Env) : Out := match o with
  | some e => .nx e
  | none => .stuck
theorem x_optOut (e : Env) : optOut (some e) = .nx e := rfl
theorem x_gt (m : M D) (g : D → Env → Option Env) (env : Env) : sGt m g env = (m env).out fun d e => optOut (g d e) := by
  unfold sGt thenS Rs.out
  cases m env with
  | ok a e => dsimp only; cases g a e <;> rfl
  | _ => rfl
theorem x_gNm (i : Nat) (d : D) (env : Env) : gNm i d env = some (env.set i (some (.val d))) := rfl
theorem x_gTp {n : Nat} {gs : List D → Env → Option Env} {ds : List D} (h : ds.length = n) (env : Env) : gTp n gs (.tup ds) env = gs ds env := if_pos h
theorem x_gCn (g : D → Env → Option Env) (gs : List D → Env → Option Env) (d : D) (ds : List D) (env : Env) : gCn g gs (d :: ds) env = (g d env).bind (gs ds) := rfl
theorem x_gNl (env : Env) : gNl [] env = some env := rfl
def augOut (i : Nat) (m : M D) (op : D → D → Option D) (env : Env) : Option (Option T) → Out
  | some (some (.val d)) => (m env).out fun y e => optOut ((op d y).map fun z => e.set i (some (.val z)))
  | _ => .stuck
theorem x_aug (i : Nat) (m : M D) (op : D → D → Option D) (env : Env) : sAug i m op env = augOut i m op env env[i]? := by
  unfold sAug augOut
  cases env[i]? with
  | none => rfl
  | some c =>
    cases c with
    | none => rfl
    | some u =>
      cases u with
      | val d =>
        show thenS m _ env = _
        unfold thenS Rs.out
        cases m env with
        | ok a e =>
          show (match op d a with | some z => Out.nx (e.set i (some (T.val z))) | none => Out.stuck) = optOut ((op d a).map fun z => e.set i (some (.val z)))
          cases op d a <;> rfl
        | _ => rfl
      | _ => rfl
theorem x_augV (i : Nat) (m : M D) (op : D → D → Option D) (env : Env) (d : D) : augOut i m op env (some (some (.val d))) = (m env).out fun y e => optOut ((op d y).map fun z => e.set i (some (.val z))) := rfl
theorem x_ipAdd (i j : Int) : ipAdd (.int i) (.int j) = some (.int (i + j)) := rfl
theorem x_ipSub (i j : Int) : ipSub (.int i) (.int j) = some (.int (i - j)) := rfl
theorem x_ipXor (i j : Int) : ipXor (.int i) (.int j) = some (.int (Builtin.bitXor i j)) := rfl
/-! values -/
theorem x_vM (d : D) {m : Env → Option D} {env : Env} (h : m env = some d) : vM m env = .ok d env := by unfold vM; rw [h]; rfl
theorem x_pC (d : D) (env : Env) : pC d env = some d := rfl
theorem x_vMC (d : D) (env : Env) : vM (pC d) env = .ok d env := rfl
theorem x_oV (m : M D) (env : Env) : oV m env = (m env).bind fun d => M.ret (.val d) := rfl
theorem x_bV (m : M D) (env : Env) : bV m env = (m env).bind fun d => M.ret (.val d) := rfl
theorem x_vO (m : M T) (env : Env) : vO m env = (m env).bind fun t => M.ret (toD t) := rfl
theorem x_tst (m : M D) (env : Env) : tst m env = (m env).bind unBl := rfl
theorem x_unBl (b : Bool) : unBl (.bl b) = M.ret b := rfl
theorem x_tnot (m : M Bool) (env : Env) : tnot m env = (m env).bind fun b => M.ret (!b) := rfl
theorem x_tand (a b : M Bool) (env : Env) : tand a b env = (a env).bind fun x => if x = true then b else M.ret false := rfl
theorem x_tor (a b : M Bool) (env : Env) : tor a b env = (a env).bind fun x => if x = true then M.ret true else b := rfl
theorem x_vAnd (a b : M D) (env : Env) : vAnd a b env = (tst a env).bind fun x => if x = true then b else M.ret (.bl false) := rfl
theorem x_vOr (a b : M D) (env : Env) : vOr a b env = (tst a env).bind fun x => if x = true then M.ret (.bl true) else b := rfl
theorem x_vNot (a : M D) (env : Env) : vNot a env = (tst a env).bind fun x => M.ret (.bl (!x)) := rfl
theorem x_vIf (c : M Bool) (a b : M D) (env : Env) : vIf c a b env = (c env).bind fun x => if x = true then a else b := rfl
theorem x_toD (d : D) : toD (.val d) = d := rfl
theorem toDs_leafs : ∀ ds : List D, toDs (leafs ds) = ds
  | [] => rfl
  | d :: ds => by
    show toD (.val d) :: toDs (leafs ds) = _
    rw [toDs_leafs ds]; rfl
theorem unvals_leafs : ∀ ds : List D, unvals (leafs ds) = some ds
  | [] => rfl
  | d :: ds => by
    show (unvals (leafs ds)).map (d :: ·) = _
    rw [unvals_leafs ds]; rfl
theorem x_toDL (ds : List D) : toD (.lst (leafs ds)) = .lst ds := congrArg D.lst (toDs_leafs ds)
theorem x_shalL (ds : List D) : shal (.lst (leafs ds)) = some (.lst ds) := by
  show (unvals (leafs ds)).map D.lst = _
  rw [unvals_leafs]; rfl
theorem x_shalV (d : D) : shal (.val d) = some d := rfl
/-- names -/
def nmOut (i : Nat) (env : Env) : Option (Option T) → Rs Ob
  | some (some _) => .ok (.nm i) env
  | _ => .stuck
theorem x_nm (i : Nat) (env : Env) : nmM i env = nmOut i env env[i]? := by
  unfold nmM nmOut
  rfl
theorem x_nmO (i : Nat) (env : Env) (t : T) : nmOut i env (some (some t)) = .ok (.nm i) env := rfl
def pNmO (i : Nat) : Option (Option T) → Option Opd
  | some (some _) => some (.loc i [])
  | _ => none
theorem x_pNm (i : Nat) (env : Env) : pNm i env = pNmO i env[i]? := rfl
theorem x_pNmO (i : Nat) (t : T) : pNmO i (some (some t)) = some (.loc i []) := rfl
def lookO (π : List Sg) : Option (Option T) → Option D
  | some (some t) => (t.at? π).bind shal
  | _ => none
theorem x_lookV (d : D) (env : Env) : lookB (.val d) env = some d := rfl
theorem x_lookN (i : Nat) (env : Env) : lookB (.nm i) env = lookO [] env[i]? := by
  unfold lookB Ob.opd look nodeOf lookO
  dsimp only
  cases env[i]? with
  | none => rfl
  | some c => cases c <;> rfl
theorem x_lookL (i : Nat) (π : List Sg) (env : Env) : look (.loc i π) env = lookO π env[i]? := by
  unfold look nodeOf lookO
  dsimp only
  cases env[i]? with
  | none => rfl
  | some c => cases c <;> rfl
theorem x_lookD (d : D) (env : Env) : look (.val d) env = some d := rfl
theorem x_lookO (t : T) : lookO [] (some (some t)) = shal t := rfl
theorem x_lookP (t : T) (s : Sg) (π : List Sg) : lookO (s :: π) (some (some t)) = ((t.child s).bind fun u => u.at? π).bind shal := rfl
def atO (π : List Sg) : Option (Option T) → Option T
  | some (some t) => t.at? π
  | _ => none
theorem x_node (i : Nat) (π : List Sg) (env : Env) : nodeOf env i π = atO π env[i]? := rfl
theorem x_atO (t : T) : atO [] (some (some t)) = some t := rfl
theorem x_atP (t : T) (s : Sg) (π : List Sg) : atO (s :: π) (some (some t)) = (t.child s).bind fun u => u.at? π := rfl
theorem x_at (t : T) : t.at? [] = some t := rfl
theorem x_atS (t : T) (s : Sg) (π : List Sg) : t.at? (s :: π) = (t.child s).bind fun u => u.at? π := rfl
theorem x_chI (ts : List T) (k : Nat) : (T.lst ts).child (.ix k) = ts[k]? := rfl
theorem x_chF (c : Str) (ns : List Str) (ts : List T) (f : Str) : (T.obj c ns ts).child (.fld f) = (ixOf f ns).bind fun k => ts[k]? := rfl
theorem x_some {α β : Type} (a : α) (f : α → Option β) : (some a).bind f = f a := rfl
theorem x_map {α β : Type} (a : α) (f : α → β) : (some a).map f = some (f a) := rfl
/-- value mode -/
def vLO (env : Env) : Option Opd → Rs D
  | some x => frz x env
  | none => .stuck
theorem x_vL (m : Env → Option Opd) (env : Env) : vL m env = vLO env (m env) := by
  unfold vL vLO
  cases m env <;> rfl
theorem x_vLO (x : Opd) (env : Env) : vLO env (some x) = frz x env := rfl
theorem x_frzV (d : D) (env : Env) : frz (.val d) env = .ok d env := rfl
def frzO (i : Nat) (env : Env) : Option (Option T) → Rs D
  | some (some t) => .ok (toD t) (env.set i (some (.val (toD t))))
  | _ => .stuck
theorem x_frzN (i : Nat) (env : Env) : frz (.loc i []) env = frzO i env env[i]? := by
  unfold frz frzO
  dsimp only
  cases env[i]? with
  | none => rfl
  | some c => cases c <;> rfl
theorem x_frzO (i : Nat) (env : Env) (t : T) : frzO i env (some (some t)) = .ok (toD t) (env.set i (some (.val (toD t)))) := rfl
/-- fields, items -/
theorem x_pFld (tab : List (Str × Str)) (f : Str) (m : Env → Option Opd) (env : Env) : pFld tab f m env = (m env).bind fun x => stepF tab f x env := rfl
theorem x_pIx (a : Env → Option Opd) (b : Env → Option D) (env : Env) : pIx a b env = (a env).bind fun x => (b env).bind fun k => stepI x k env := rfl
theorem x_pD (m : Env → Option D) (env : Env) : pD m env = (m env).map .val := rfl
theorem x_pLk (m : Env → Option Opd) (env : Env) : pLk m env = (m env).bind fun x => look x env := rfl
theorem x_pAt (m : Env → Option Opd) (env : Env) : pAt m env = (m env).bind fun x => dataAt x env := rfl
theorem x_dataV (d : D) (env : Env) : dataAt (.val d) env = some d := rfl
def dataO : Option T → Option D
  | some (.val d) => some d
  | _ => none
theorem x_dataL (i : Nat) (π : List Sg) (env : Env) : dataAt (.loc i π) env = dataO (nodeOf env i π) := by
  unfold dataAt dataO
  show (match nodeOf env i π with | some (.val d) => some d | _ => none) = _
  cases nodeOf env i π with
  | none => rfl
  | some t => cases t <;> rfl
theorem x_dataO (d : D) : dataO (some (.val d)) = some d := rfl
theorem x_stepIV (d : D) (j : Int) (env : Env) : stepI (.val d) (.int j) env = (items d).bind fun ds => (L2.atI ds j).map .val := rfl
def tOpd (i : Nat) (π : List Sg) : T → Opd
  | .val d => .val d
  | _ => .loc i π
def stepO (i : Nat) (π : List Sg) (j : Int) : Option T → Option Opd
  | some (.lst ts) => (ixN ts.length j).bind fun n => (ts[n]?).map (tOpd i (π ++ [.ix n]))
  | some (.val d) => (items d).bind fun ds => (L2.atI ds j).map .val
  | _ => none
theorem x_stepIL (i : Nat) (π : List Sg) (j : Int) (env : Env) : stepI (.loc i π) (.int j) env = stepO i π j (nodeOf env i π) := by
  unfold stepI stepO
  dsimp only
  cases nodeOf env i π with
  | none => rfl
  | some t => cases t <;> rfl
theorem x_stepOV (i : Nat) (π : List Sg) (j : Int) (d : D) : stepO i π j (some (.val d)) = (items d).bind fun ds => (L2.atI ds j).map .val := rfl
theorem x_stepOL (i : Nat) (π : List Sg) (j : Int) (ts : List T) : stepO i π j (some (.lst ts)) = (ixN ts.length j).bind fun n => (ts[n]?).map (tOpd i (π ++ [.ix n])) := rfl
theorem leafs_get (ds : List D) (n : Nat) : (leafs ds)[n]? = (ds[n]?).map T.val := by unfold leafs; rw [List.getElem?_map]
theorem leafs_len (ds : List D) : (leafs ds).length = ds.length := by unfold leafs; simp
theorem x_stepOLf (i : Nat) (π : List Sg) (j : Int) (ds : List D) : stepO i π j (some (.lst (leafs ds))) = (L2.atI ds j).map .val := by
  rw [x_stepOL, leafs_len]
  unfold L2.atI
  cases ixN ds.length j with
  | none => rfl
  | some n =>
    show ((leafs ds)[n]?).map _ = (ds[n]?).map _
    rw [leafs_get]
    cases ds[n]? <;> rfl
theorem x_tOpd (i : Nat) (π : List Sg) (d : D) : tOpd i π (.val d) = .val d := rfl
theorem x_tOpdL (i : Nat) (π : List Sg) (ts : List T) : tOpd i π (.lst ts) = .loc i π := rfl
theorem x_itL (ds : List D) : items (.lst ds) = some ds := rfl
theorem x_itF (ds : List D) : items (.fro ds) = some ds := rfl
theorem x_itT (ds : List D) : items (.tup ds) = some ds := rfl
theorem x_atN {ds : List α} {j : Int} (h : 0 ≤ j) : L2.atI ds j = ds[j.toNat]? := by
  unfold L2.atI ixN
  rw [if_pos h]
  by_cases h1 : j < ds.length
  · rw [if_pos h1]; rfl
  · rw [if_neg h1, List.getElem?_eq_none (by omega)]; rfl
theorem x_atM {ds : List α} {j : Int} (h : j < 0) (h2 : -(ds.length : Int) ≤ j) : L2.atI ds j = ds[(j + ds.length).toNat]? := by
  unfold L2.atI ixN
  rw [if_neg (by omega), if_pos h2]; rfl
theorem x_ixN {n : Nat} {j : Int} (h : 0 ≤ j) (h2 : j < n) : ixN n j = some j.toNat := by
  unfold ixN
  rw [if_pos h, if_pos h2]
/-- operators -/
theorem x_oOp (op : D → D → Option T) (a b : M Ob) (env : Env) : oOp op a b env = (a env).bind fun x => b.bnd fun y => fun e => M.opt ((lookB x e).bind fun d => (lookB y e).bind fun d' => op d d') e := rfl
theorem x_oU (op : D → Option T) (a : M Ob) (env : Env) : oU op a env = (a env).bind fun x => fun e => M.opt ((lookB x e).bind op) e := rfl
theorem x_pOp (op : D → D → Option T) (a b : Env → Option D) (env : Env) : pOp op a b env = (a env).bind fun d => (b env).bind fun e => (op d e).map toD := rfl
theorem x_pU (op : D → Option T) (a : Env → Option D) (env : Env) : pU op a env = (a env).bind fun d => (op d).map toD := rfl
theorem x_oA (op : List D → Option T) (a : M (List Ob)) (env : Env) : oA op a env = (a env).bind fun xs => fun e => M.opt ((lookBs xs e).bind op) e := rfl
theorem x_pA (op : List D → Option T) (a : Env → Option (List D)) (env : Env) : pA op a env = (a env).bind fun ds => (op ds).map toD := rfl
theorem x_paNil (env : Env) : paNil env = some [] := rfl
theorem x_paCons (a : Env → Option D) (b : Env → Option (List D)) (env : Env) : paCons a b env = (a env).bind fun d => (b env).map (d :: ·) := rfl
theorem x_looks0 (env : Env) : lookBs [] env = some [] := rfl
theorem x_looks (o : Ob) (os : List Ob) (env : Env) : lookBs (o :: os) env = (lookB o env).bind fun d => (lookBs os env).map (d :: ·) := rfl
theorem x_aNil (env : Env) : aNil env = .ok [] env := rfl
theorem x_aCons (a : M Ob) (b : M (List Ob)) (env : Env) : aCons a b env = (a env).bind fun x => b.bnd fun xs => M.ret (x :: xs) := rfl
theorem x_vNil (env : Env) : vNil env = .ok [] env := rfl
theorem x_vCons (a : M D) (b : M (List D)) (env : Env) : vCons a b env = (a env).bind fun x => b.bnd fun xs => M.ret (x :: xs) := rfl
def starO (b : M (List D)) (env : Env) : Option (List D) → Rs (List D)
  | some ds => (b env).bind fun xs => M.ret (ds ++ xs)
  | none => .stuck
theorem x_vStar (a : M D) (b : M (List D)) (env : Env) : vStar a b env = (a env).bind fun x => fun e => starO b e (items x) := by
  unfold vStar
  rw [x_bnd]
  cases a env with
  | ok x e => unfold Rs.bind starO; dsimp only; cases items x <;> rfl
  | _ => rfl
theorem x_starO (b : M (List D)) (env : Env) (ds : List D) : starO b env (some ds) = (b env).bind fun xs => M.ret (ds ++ xs) := rfl
theorem small_of {ds : List D} (h : ds.length ≤ 16777216) : small ds = true := decide_eq_true h
theorem x_oLst (a : M (List D)) (env : Env) : oLst a env = (a env).bind fun ds => fun e => if small ds = true then .ok (.lst (leafs ds)) e else .stuck := rfl
theorem x_vTup (a : M (List D)) (env : Env) : vTup a env = (a env).bind fun ds => fun e => if small ds = true then .ok (.tup ds) e else .stuck := rfl
theorem x_pTup (a : Env → Option (List D)) (env : Env) : pTup a env = (a env).bind fun ds => if small ds = true then some (.tup ds) else none := rfl
theorem x_add (i j : Int) : opAdd (.int i) (.int j) = some (.val (.int (i + j))) := rfl
theorem x_addL {a b : List D} (h : a.length + b.length ≤ 16777216) : opAdd (.lst a) (.lst b) = some (.lst (leafs (a ++ b))) := if_pos h
theorem x_addT {a b : List D} (h : a.length + b.length ≤ 16777216) : opAdd (.tup a) (.tup b) = some (.val (.tup (a ++ b))) := if_pos h
theorem x_addS {a b : Str} (h : a.length + b.length ≤ 16777216) : opAdd (.str a) (.str b) = some (.val (.str (a ++ b))) := if_pos h
theorem x_sub (i j : Int) : opSub (.int i) (.int j) = some (.val (.int (i - j))) := rfl
theorem x_band (i j : Int) : opAnd (.int i) (.int j) = some (.val (.int (Builtin.bitAnd i j))) := rfl
theorem x_bor (i j : Int) : opOr (.int i) (.int j) = some (.val (.int (Builtin.bitOr i j))) := rfl
theorem x_bxor (i j : Int) : opXor (.int i) (.int j) = some (.val (.int (Builtin.bitXor i j))) := rfl
theorem x_mul {i j : Int} (h : (i.natAbs < 18446744073709551616 ∨ j.natAbs < 18446744073709551616)) : opMul (.int i) (.int j) = some (.val (.int (i * j))) := by
  show (if mulOk i j = true then some (T.val (.int (i * j))) else none) = _
  unfold mulOk
  rw [if_pos]
  rcases h with h | h
  · simp [h]
  · simp [h]
theorem log_small {j : Int} {b : Nat} (h : j.natAbs < 2 ^ b) (h0 : 0 < b) (h9 : b ≤ 9000) : j.natAbs.log2 < 9000 := Nat.lt_of_lt_of_le (PySem.Flt.log2_lt_of h0 h) h9
theorem x_fdiv {i j : Int} (h : 0 < j) (h2 : j < 1000000000000000000000000000000) : opFdiv (.int i) (.int j) = some (.val (.int (i / j))) := by
  unfold opFdiv opI divOk
  have : j.natAbs.log2 < 9000 := log_small (b := 128) (by have : (2 : Nat) ^ 128 = 340282366920938463463374607431768211456 := by decide
                                                          omega) (by decide) (by decide)
  simp [h, this]
theorem x_mod {i j : Int} (h : 0 < j) : opMod (.int i) (.int j) = some (.val (.int (i % j))) := by
  unfold opMod opI
  simp [h]
theorem x_pow {i j : Int} (h : 0 ≤ j) (h2 : j ≤ 1000000) (h3 : i.natAbs < 18446744073709551616) : opPow (.int i) (.int j) = some (.val (.int (i ^ j.toNat))) := by
  unfold opPow opI powOk
  simp [h, h2, h3]
theorem x_shl {i j : Int} (h : 0 ≤ j) (h2 : j ≤ 1000000) (h3 : i.natAbs < 18446744073709551616) : opShl (.int i) (.int j) = some (.val (.int (i * 2 ^ j.toNat))) := by
  unfold opShl opI powOk
  simp [h, h2, h3]
theorem x_shr {i j : Int} (h : 0 ≤ j) : opShr (.int i) (.int j) = some (.val (.int (i / 2 ^ j.toNat))) := by
  unfold opShr opI
  simp [h]
theorem x_neg (i : Int) : opNeg (.int i) = some (.val (.int (-i))) := rfl
theorem x_ord (f : Int → Int → Bool) (i j : Int) : opOrd f (.int i) (.int j) = some (.val (.bl (f i j))) := rfl
theorem x_lt (i j : Int) : opLt (.int i) (.int j) = some (.val (.bl (decide (i < j)))) := rfl
theorem x_le (i j : Int) : opLe (.int i) (.int j) = some (.val (.bl (decide (i ≤ j)))) := rfl
theorem x_gt' (i j : Int) : opGt (.int i) (.int j) = some (.val (.bl (decide (j < i)))) := rfl
theorem x_ge (i j : Int) : opGe (.int i) (.int j) = some (.val (.bl (decide (j ≤ i)))) := rfl
theorem x_eqI (i j : Int) : opEq false (.int i) (.int j) = some (.val (.bl (decide (i = j)))) := rfl
theorem x_neI (i j : Int) : opEq true (.int i) (.int j) = some (.val (.bl (!decide (i = j)))) := rfl
theorem x_eqS (i j : Str) : opEq false (.str i) (.str j) = some (.val (.bl (decide (i = j)))) := rfl
theorem x_neS (i j : Str) : opEq true (.str i) (.str j) = some (.val (.bl (!decide (i = j)))) := rfl
theorem x_eqB (i j : Bool) : opEq false (.bl i) (.bl j) = some (.val (.bl (decide (i = j)))) := rfl
theorem x_neB (i j : Bool) : opEq true (.bl i) (.bl j) = some (.val (.bl (!decide (i = j)))) := rfl
theorem x_is (d e : D) : opIs false d e = (isD d e).map fun b => .val (.bl b) := rfl
theorem x_isnot (d e : D) : opIs true d e = (isD d e).map fun b => .val (.bl (!b)) := rfl
theorem x_ixT (ds : List D) (j : Int) : opIx (.tup ds) (.int j) = (L2.atI ds j).map .val := rfl
theorem x_ixL (ds : List D) (j : Int) : opIx (.lst ds) (.int j) = (L2.atI ds j).map .val := rfl
theorem x_ixF (ds : List D) (j : Int) : opIx (.fro ds) (.int j) = (L2.atI ds j).map .val := rfl
theorem x_ixS {z : Str} (h : z.length ≤ 16777216) (j : Int) : opIx (.str z) (.int j) = (L2.atI z.cps.toList j).map fun c => .val (.str ⟨#[c]⟩) := if_pos h
theorem x_lenL {ds : List D} (h : ds.length ≤ 16777216) : bLen [.lst ds] = some (.val (.int ds.length)) := if_pos h
theorem x_lenT {ds : List D} (h : ds.length ≤ 16777216) : bLen [.tup ds] = some (.val (.int ds.length)) := if_pos h
theorem x_lenF {ds : List D} (h : ds.length ≤ 16777216) : bLen [.fro ds] = some (.val (.int ds.length)) := if_pos h
theorem x_lenS {z : Str} (h : z.length ≤ 16777216) : bLen [.str z] = some (.val (.int z.length)) := if_pos h
theorem x_abs (i : Int) : bAbs [.int i] = some (.val (.int (if i < 0 then -i else i))) := rfl
theorem x_min (i j : Int) : bMin [.int i, .int j] = some (.val (.int (if j < i then j else i))) := rfl
theorem x_max (i j : Int) : bMax [.int i, .int j] = some (.val (.int (if j > i then j else i))) := rfl
theorem x_int (i : Int) : bInt [.int i] = some (.val (.int i)) := rfl
theorem x_intB (b : Bool) : bInt [.bl b] = some (.val (.int (if b then 1 else 0))) := rfl
theorem x_list (d : D) : bList [d] = (items d).map fun ds => .lst (leafs ds) := rfl
theorem x_tup (d : D) : bTup [d] = (items d).map fun ds => .val (.tup ds) := rfl
theorem x_oSl (a : M Ob) (l h : M (Option Int)) (env : Env) : oSl a l h env = (a env).bind fun x => l.bnd fun lo => h.bnd fun hi => fun e => M.opt ((lookB x e).bind fun d => opSl d lo hi) e := rfl
theorem x_ipNo (env : Env) : ipNo env = .ok none env := rfl
def ipO (env : Env) : D → Rs (Option Int)
  | .int i => .ok (some i) env
  | _ => .stuck
theorem x_ipSome (m : M D) (env : Env) : ipSome m env = (m env).bind fun d e => ipO e d := by
  unfold ipSome
  rw [x_bnd]
  cases m env with
  | ok x e => unfold Rs.bind ipO; dsimp only; first | done | (cases x <;> rfl)
  | _ => rfl
theorem x_ipO (i : Int) (env : Env) : ipO env (.int i) = .ok (some i) env := rfl
theorem x_slT (ds : List D) (lo hi : Option Int) : opSl (.tup ds) lo hi = some (.val (.tup (cutD ds lo hi))) := rfl
theorem x_slL (ds : List D) (lo hi : Option Int) : opSl (.lst ds) lo hi = some (.lst (leafs (cutD ds lo hi))) := rfl
theorem x_slF (ds : List D) (lo hi : Option Int) : opSl (.fro ds) lo hi = some (.lst (leafs (cutD ds lo hi))) := rfl
theorem x_slS {z : Str} (h : z.length ≤ 16777216) (lo hi : Option Int) : opSl (.str z) lo hi = some (.val (.str (cutS z lo hi))) := if_pos h
/-- stores at places -/
def putO (t : T) (env : Env) : Option Opd → Option D → Out
  | some (.loc i π), some (.int k) => match nodeOf env i π with
    | some (.lst ts) => optOut ((ixN ts.length k).map fun n => putAt env i π (.lst (ts.set n t)))
    | _ => .stuck
  | _, _ => .stuck
theorem x_put (m : M T) (pl : Env → Option Opd) (ix : Env → Option D) (env : Env) : sPut m pl ix env = (m env).out fun t e => putO t e (pl e) (ix e) := by
  unfold sPut
  rw [x_thenS]
  congr 1
  funext t e
  unfold putO
  cases pl e with
  | none => rfl
  | some x =>
    cases x with
    | val d => rfl
    | loc i π =>
      cases ix e with
      | none => rfl
      | some k =>
        cases k with
        | int k =>
          dsimp only
          cases nodeOf e i π with
          | none => rfl
          | some u =>
            cases u with
            | lst ts => dsimp only; cases ixN ts.length k <;> rfl
            | _ => rfl
        | _ => rfl
def putL (t : T) (env : Env) (i : Nat) (π : List Sg) (k : Int) : Option T → Out
  | some (.lst ts) => optOut ((ixN ts.length k).map fun n => putAt env i π (.lst (ts.set n t)))
  | _ => .stuck
theorem x_putO (t : T) (env : Env) (i : Nat) (π : List Sg) (k : Int) : putO t env (some (.loc i π)) (some (.int k)) = putL t env i π k (nodeOf env i π) := rfl
theorem x_putL (t : T) (env : Env) (i : Nat) (π : List Sg) (k : Int) (ts : List T) : putL t env i π k (some (.lst ts)) = optOut ((ixN ts.length k).map fun n => putAt env i π (.lst (ts.set n t))) := rfl
def putAO (env : Env) (i : Nat) (π : List Sg) (u : T) : Option (Option T) → Env
  | some (some t) => env.set i (some (t.put π u))
  | _ => env
theorem x_putAt (env : Env) (i : Nat) (π : List Sg) (u : T) : putAt env i π u = putAO env i π u env[i]? := rfl
theorem x_putAO (env : Env) (i : Nat) (π : List Sg) (u t : T) : putAO env i π u (some (some t)) = env.set i (some (t.put π u)) := rfl
theorem x_tput (t u : T) : t.put [] u = u := rfl
theorem leafs_set (ds : List D) (n : Nat) (d : D) : (leafs ds).set n (.val d) = leafs (ds.set n d) := by unfold leafs; rw [List.map_set]
theorem leafs_app (ds es : List D) : leafs ds ++ leafs es = leafs (ds ++ es) := by unfold leafs; rw [List.map_append]
theorem leafs_snoc (ds : List D) (d : D) : leafs ds ++ [.val d] = leafs (ds ++ [d]) := by unfold leafs; rw [List.map_append]; rfl
def appO (i : Nat) (m : M T) (env : Env) : Option (Option T) → Rs T
  | some (some (.lst _)) => (m env).bind fun t e => match e[i]? with
    | some (some (.lst ts)) => if ts.length < 16777216 then .ok (.val .non) (putAt e i [] (.lst (ts ++ [t]))) else .stuck
    | _ => .stuck
  | _ => .stuck
def appO2 (i : Nat) (t : T) (e : Env) : Option (Option T) → Rs T
  | some (some (.lst ts)) => if ts.length < 16777216 then .ok (.val .non) (putAt e i [] (.lst (ts ++ [t]))) else .stuck
  | _ => .stuck
theorem x_app (i : Nat) (m : M T) (env : Env) : mApp i m env = appO i m env env[i]? := by
  unfold mApp appO
  cases env[i]? with
  | none => rfl
  | some c =>
    cases c with
    | none => rfl
    | some u => cases u <;> rfl
theorem x_appO (i : Nat) (m : M T) (env : Env) (ts : List T) : appO i m env (some (some (.lst ts))) = (m env).bind fun t e => appO2 i t e e[i]? := rfl
theorem x_appO2 (i : Nat) (t : T) (e : Env) {ts : List T} (h : ts.length < 16777216) : appO2 i t e (some (some (.lst ts))) = .ok (.val .non) (putAt e i [] (.lst (ts ++ [t]))) := if_pos h
/-- moved out -/
def mvO (i : Nat) (env : Env) : Option (Option T) → Rs T
  | some (some t) => .ok t (env.set i none)
  | _ => .stuck
theorem x_mv (i : Nat) (env : Env) : mvM i env = mvO i env env[i]? := rfl
theorem x_mvO (i : Nat) (env : Env) (t : T) : mvO i env (some (some t)) = .ok t (env.set i none) := rfl
/-- loops -/
theorem x_for (it : M (List D)) (g : D → Env → Option Env) (b : SM) (env : Env) : sFor it g b env = (it env).out fun ds => forM g b ds := rfl
def rgO (env : Env) : List D → Rs (List D)
  | [.int n] => if in62 n = true then .ok (rgD 0 n.toNat) env else .stuck
  | [.int a, .int b] => if (in62 a && in62 b) = true then .ok (rgD a (b - a).toNat) env else .stuck
  | _ => .stuck
theorem x_iR1 {m : M (List D)} {env e : Env} {n : Int} (h : m env = .ok [.int n] e) (h1 : -4611686018427387904 ≤ n) (h2 : n < 4611686018427387904) : iR1 m env = .ok (rgD 0 n.toNat) e := by
  unfold iR1
  rw [x_bnd, h, x_bind]
  dsimp only
  rw [if_pos]
  unfold in62
  simp [h1, h2]
theorem x_iR2 {m : M (List D)} {env e : Env} {a b : Int} (h : m env = .ok [.int a, .int b] e) (h1 : -4611686018427387904 ≤ a) (h2 : a < 4611686018427387904) (h3 : -4611686018427387904 ≤ b) (h4 : b < 4611686018427387904) : iR2 m env = .ok (rgD a (b - a).toNat) e := by
  unfold iR2
  rw [x_bnd, h, x_bind]
  dsimp only
  rw [if_pos]
  unfold in62
  simp [h1, h2, h3, h4]
theorem x_iIt (m : M D) (env : Env) : iIt m env = (m env).bind fun d e => M.opt (iterD d) e := rfl
theorem x_iterL (ds : List D) : iterD (.lst ds) = some ds := rfl
theorem x_iterT (ds : List D) : iterD (.tup ds) = some ds := rfl
theorem x_iterF (ds : List D) : iterD (.fro ds) = some ds := rfl
theorem x_iterS (z : Str) : iterD (.str z) = some (signs z) := rfl
/-- calls -/
def RF.rs (r : RF) (back : List T → Env) : Rs T := match r with
  | .ok t outs => .ok t (back outs)
  | .exc c ns ds outs => .exc c ns ds (back outs)
  | .stuck => .stuck
theorem x_rsOk (t : T) (outs : List T) (back : List T → Env) : (RF.ok t outs).rs back = .ok t (back outs) := rfl
theorem x_rsX (c : Str) (ns : List Str) (ds : List D) (outs : List T) (back : List T → Env) : (RF.exc c ns ds outs).rs back = .exc c ns ds (back outs) := rfl
def callO (mf : MF) (os : List Ob) : Option (Env × List T) → Rs T
  | some x => (mf x.2).rs (giveAs os x.1)
  | none => .stuck
theorem x_call (mf : MF) (a : M (List Ob)) (env : Env) : callM mf a env = (a env).bind fun os e => callO mf os (takeAs os e) := by
  unfold callM
  rw [x_bnd]
  congr 1
  funext os e
  unfold callO
  cases takeAs os e with
  | none => rfl
  | some x => dsimp only; unfold RF.rs; cases mf x.2 <;> rfl
theorem x_callO (mf : MF) (os : List Ob) (e : Env) (ts : List T) : callO mf os (some (e, ts)) = (mf ts).rs (giveAs os e) := rfl
theorem x_take0 (env : Env) : takeAs [] env = some (env, []) := rfl
theorem x_takeV (d : D) (r : List Ob) (env : Env) : takeAs (.val d :: r) env = (takeAs r env).map fun x => (x.1, .val d :: x.2) := rfl
def takeO (i : Nat) (r : List Ob) (env : Env) : Option (Option T) → Option (Env × List T)
  | some (some t) => (takeAs r (env.set i none)).map fun x => (x.1, t :: x.2)
  | _ => none
theorem x_takeN (i : Nat) (r : List Ob) (env : Env) : takeAs (.nm i :: r) env = takeO i r env env[i]? := by
  unfold takeO
  show (match env[i]? with | some (some t) => _ | _ => _) = _
  rfl
theorem x_takeO (i : Nat) (r : List Ob) (env : Env) (t : T) : takeO i r env (some (some t)) = (takeAs r (env.set i none)).map fun x => (x.1, t :: x.2) := rfl
theorem x_give0 (env : Env) (os : List T) : giveAs [] env os = env := by cases os <;> rfl
theorem x_giveV (d : D) (r : List Ob) (env : Env) (o : T) (os : List T) : giveAs (.val d :: r) env (o :: os) = giveAs r env os := rfl
theorem x_giveN (i : Nat) (r : List Ob) (env : Env) (o : T) (os : List T) : giveAs (.nm i :: r) env (o :: os) = giveAs r (env.set i (some o)) os := rfl
/-- defs -/
def fnFin (fl : List Bool) (args : List T) : Out → RF
  | .nx e => fnOut fl args e (.ok (.val .non))
  | .ret t e => fnOut fl args e (.ok t)
  | .exc c ns ds e => fnOut fl args e (.exc c ns ds)
  | _ => .stuck
theorem x_fn {fl : List Bool} {k : Nat} {body : SM} {args : List T} (h : okFl fl args = true) : fnM fl k body args = fnFin fl args (body (args.map some ++ List.replicate k none)) := by
  unfold fnM
  refine (if_pos h).trans ?_
  generalize body (args.map some ++ List.replicate k none) = o
  cases o <;> rfl
theorem x_finN (fl : List Bool) (args : List T) (e : Env) : fnFin fl args (.nx e) = fnOut fl args e (.ok (.val .non)) := rfl
theorem x_finR (fl : List Bool) (args : List T) (t : T) (e : Env) : fnFin fl args (.ret t e) = fnOut fl args e (.ok t) := rfl
theorem x_finX (fl : List Bool) (args : List T) (c : Str) (ns : List Str) (ds : List D) (e : Env) : fnFin fl args (.exc c ns ds e) = fnOut fl args e (.exc c ns ds) := rfl
theorem x_finI (fl : List Bool) (args : List T) (a b : Out) : fnFin fl args (if c then a else b) = if c then fnFin fl args a else fnFin fl args b := by split <;> rfl
def optRF (f : List T → RF) : Option (List T) → RF
  | some outs => f outs
  | none => .stuck
theorem x_fnOut (fl : List Bool) (args : List T) (e : Env) (f : List T → RF) : fnOut fl args e f = optRF f (outsOf fl args e) := rfl
theorem x_optRF (f : List T → RF) (outs : List T) : optRF f (some outs) = f outs := rfl
theorem x_outs0 (e : Env) : outsOf [] [] e = some [] := rfl
theorem x_outsT (fl : List Bool) (a : T) (as : List T) (c : Option T) (e : Env) : outsOf (true :: fl) (a :: as) (c :: e) = (outsOf fl as e).map (a :: ·) := rfl
theorem x_outsF (fl : List Bool) (a : T) (as : List T) (t : T) (e : Env) : outsOf (false :: fl) (a :: as) (some t :: e) = (outsOf fl as e).map (t :: ·) := rfl
theorem x_ok0 : okFl [] [] = true := rfl
theorem x_okT (fl : List Bool) (d : D) (as : List T) : okFl (true :: fl) (.val d :: as) = okFl fl as := rfl
theorem x_okF (fl : List Bool) (a : T) (as : List T) : okFl (false :: fl) (a :: as) = okFl fl as := rfl
theorem x_lc (vs : List Nat) (it : M (List D)) (g : D → Env → Option Env) (tt : M Bool) (el : M T) (env : Env) : lcM vs it g tt el env = (it env).bind fun ds e => if okW e vs = true then
    match lcLoop vs g tt el ds [] (wipeE e vs) with
    | .ok acc e2 => .ok (.lst acc) (restE e e2 vs)
    | _ => .stuck
  else .stuck := rfl
end
end KM

/-! Generators: if and for in a generator's body. -/
namespace KP
open PySem PySem.Spec PyProof.Rows L2 GenW Evl
section
variable {X : Cx} {pos : Pos}
/-- what waits behind a loop of a generator's body -/
abbrev backB (Y : Cx) (kf : Flow → Sem PySem.Fin) (jf : Value → Sem PySem.Fin) (gf : Bool → Bool) (lf : List Value → List Value) : Result → Sem PySem.Fin := fun res =>
  ((match res with
    | .ok fl => (.pure fl : Sem Flow)
    | .error ex => .raise ex).onRaise (cameBack Y.env)).wrap kf jf gf lf
abbrev frB (Y : Cx) (kf : Flow → Sem PySem.Fin) (jf : Value → Sem PySem.Fin) (gf : Bool → Bool) (lf : List Value → List Value) (code : Code) (at_ : Pos) (rest : List Frame) : List Frame := .ret (backB Y kf jf gf lf) none (gf false) (lf []) code at_ [] :: rest
/-- an exception leaves the loop -/
abbrev leaveB (Y : Cx) (ex : Value) : Sem PySem.Fin := (show Sem Unit from (do noteFrame ex Y.env; theTreesLotGoes ex)).wrap (fun _ => .raise ex) .raise id id
def tGIf (c : TT) (t u : TGn) : TGn := fun D ys σ H => c σ H fun b H1 => if b = true then t D ys σ H1 else u D ys σ H1
theorem gs_if {c : Expr} {a b : List Stmt} {tc : TT} {t u : TGn} (hc : PT X c tc) (ha : GSs X a t) (hb : GSs X b u) : GS X (.If c a b pos) (tGIf tc t u) := by
  refine ⟨fun A S ip R n ys s₀ cd fs K J gd lv s σ H D g hn k hI ht => ?_⟩
  obtain ⟨acc, cc, r, I⟩ := hI
  rw [exec_If]
  apply seg_bind_wrap; apply wpAny_standAt
  refine seg_bind_wrap ?_
  rw [g.over]
  refine wpAny_mono (hc.run _ s σ H _ I ht) (fun bv s' hb' => ?_) fun x s' hx => k.exc n s₀ x s' hx
  obtain ⟨H2, I2, q2⟩ := hb'
  cases bv with
  | true => exact ha.run A S ip R n ys s₀ cd fs K J gd lv s' σ H2 D g hn k ⟨acc, cc, r, I2⟩ q2
  | false => exact hb.run A S ip R n ys s₀ cd fs K J gd lv s' σ H2 D g hn k ⟨acc, cc, r, I2⟩ q2
def tGFor (wi : TI) (g : TG) (tb : TGn) : TGn := fun D ys σ H => wi σ H fun J H1 => ∃ W : Nat → Nat → List V → L2.St → Hp → Prop, (∃ m, W 0 m ys σ H1) ∧ ∀ i m ys σ H, W i m ys σ H →
  (J.stop i H ∧ D.nx ys σ H) ∨ (J.go i H ∧ ∃ N : List V → L2.St → Hp → Prop, (∀ ys' σ' H', N ys' σ' H' → ∃ m', m' < m ∧ W (i + 1) m' ys' σ' H') ∧ ∀ x H', J.yld i H x H' → g x σ H' fun σ2 H2 => tb { D with nx := N, ct := N, bk := D.nx } ys σ2 H2)
theorem gs_for {tg iter : Expr} {body : List Stmt} {wi : TI} {g : TG} {tb : TGn} (hp : PassesOwn (model X.prog X.w) X.A X.env X.xe) (hcm : X.calm = true) (hi : PI X tg iter wi) (hg : PG X tg g) (hb : GSs X body tb)
    (hs : ∀ x, foldedSetIterable iter X.env x = pure x := by intro _; rfl) : GS X (.For tg iter body [] pos) (tGFor wi g tb) := by
  refine ⟨fun A S ip R n ys s₀ c fs K J gd lv s σ H D g' hn k hI ht => ?_⟩
  obtain ⟨acc, cc, r, I⟩ := hI
  rw [exec_For]
  apply seg_bind_wrap; apply wpAny_standAt
  refine seg_bind_wrap ?_
  rw [g'.over]
  refine wpAny_mono (hi.run _ s σ H _ I ht) (fun v s1 h1 => ?_) fun x s' hx => k.exc n s₀ x s' hx
  refine seg_bind_wrap (wpAny_of_eq (hs v) ?_)
  apply seg_bind_wrap; apply wpAny_standAt
  apply seg_bind_wrap; apply wpAny_holding
  rw [g'.over]
  refine wpAny_mono h1 (fun itv s2 h2 => ?_) fun x s' hx => k.exc n s₀ x s' hx
  obtain ⟨it, fp, tn, J', H2, e, I2, T, st2, f2, W, ⟨m0, w0⟩, turn⟩ := h2
  subst e
  refine seg_call fun p => ?_
  have gl := fun (kk : Result → Sem PySem.Fin) => gc_loop (k := kk) (c' := .forLoop tg (.ref it) body [] X.env) (l := lv []) (kp := []) (p := p) g' rfl rfl
  have gl2 := fun (kk : Result → Sem PySem.Fin) => gc_loop (k := kk) (c' := .block [] X.env) (l := lv []) (kp := []) (p := p) g' rfl rfl
  have hfS : ∀ b ∈ fp, b ≠ S := fun b hb e => (f2 b hb).2.2.2.2.2 (S, lstObj acc cc) (List.mem_append_right _ List.mem_cons_self) e.symm
  have stat : ∀ {H' : Hp} {acc' : Array Value} {cc' : Nat}, (∀ b ∈ fp, H' b = none) → ∀ b ∈ fp, FpOk X ((S, lstObj acc' cc') :: ip) H' b := fun {H' acc' cc'} hn b hb => by
    obtain ⟨q0, q1, q2, q3, q4, q5⟩ := f2 b hb
    refine ⟨hn b hb, q1, q2, q3, q4, fun p hp => ?_⟩
    rcases List.mem_append.mp hp with z | z
    · exact q5 p (List.mem_append_left _ z)
    · rcases List.mem_cons.mp z with z | z
      · rw [z]
        exact (hfS b hb).symm
      · exact q5 p (List.mem_append_right _ (List.mem_cons_of_mem _ z))
  have loop : ∀ (m n i : Nat) (ys : List V) (s₀ s : Shared) (σ : L2.St) (H : Hp), n + ys.length = sizeLine → W i m ys σ H → (∀ b ∈ fp, H b = none) → tn i s.heap → GI X S ip ys σ H s →
      Seg (model X.prog X.w) A R (GY X S) n s₀ (.forLoop tg (.ref it) body [] X.env) ((model X.prog X.w).den (.forLoop tg (.ref it) body [] X.env))
        (frB X K J gd lv c p fs) s := by

    refine fun m0' => Nat.strongRecOn m0' fun m ih => ?_
    ·
      intro n i ys s₀ s σ H hn w hfr hst hI
      have ee : ∀ (n : Nat) (s₀ : Shared) (x : Value) (s' : Shared), X.xe x s' → Seg (model X.prog X.w) A R (GY X S) n s₀ (.forLoop tg (.ref it) body [] X.env)
          (leaveB X x)
          (frB X K J gd lv c p fs) s' := fun n s₀ x s' hx => by
        refine seg_wrap ?_
        rw [(gl _).over]
        have out : ∀ (z : Value) (s3 : Shared), cameBackBy (model X.prog X.w) X.A X.env X.xe z s3 → Seg (model X.prog X.w) A R (GY X S) n s₀ (.forLoop tg (.ref it) body [] X.env) (.raise z) (frB X K J gd lv c p fs) s3 := fun z s3 hz => seg_leaf (.error z) (seg_cameBack g' k hz)
        exact wpAny_bind (wpAny_mono (hp x s' hx) (fun _ s3 hz => wpAny_theTreesLotGoes (out x s3 hz)) fun z s3 hz => out z s3 hz)
      have ee2 : ∀ (n : Nat) (s₀ : Shared) (x : Value) (s' : Shared), X.xe x s' → Seg (model X.prog X.w) A R (GY X S) n s₀ (.forLoop tg (.ref it) body [] X.env)
          ((do noteFrame x X.env; theTreesLotGoes x : Sem Unit).bind (fun _ => .raise x))
          (frB X K J gd lv c p fs) s' := fun n s₀ x s' hx => by
        have q := ee n s₀ x s' hx
        rw [Sem.bind_eq_wrap]
        exact q
      obtain ⟨acc, cc, r, I⟩ := hI
      show Seg _ A R _ n s₀ _ ((forTurn tg (.ref it) body [] X.env).onRaise (fun x => do noteFrame x X.env; theTreesLotGoes x)) _ s
      rw [Sem.onRaise_eq_wrap]
      simp only [forTurn]
      apply seg_bind_wrap; apply wpAny_standAt
      refine seg_bind_wrap ?_
      rw [(gl _).over]
      refine wpAny_onRaise ?_
      rcases turn i m ys σ H w with ⟨stop, qn⟩ | ⟨go, N, hN, step⟩
      · refine wpAny_mono (T.done X rfl rfl rfl hcm i _ s σ H X.xe I (stat hfr) hst stop) (fun rr s4 hr4 => ?_) fun x s' hx => wpAny_standAt (ee2 n s₀ x s' hx)
        obtain ⟨hr, I4⟩ := hr4
        subst hr
        refine seg_again rfl ?_
        refine seg_leaf (.ok .next) (k.ok n ys s₀ s4 .next hn ⟨σ, H, ⟨acc, cc, r, I4⟩, qn⟩)
      · refine wpAny_mono (T.item X rfl rfl rfl hcm i _ s σ H X.xe I (stat hfr) hst go) (fun rr s4 hr4 => ?_) fun x s' hx => wpAny_standAt (ee2 n s₀ x s' hx)
        obtain ⟨u, hr, h4⟩ := hr4
        subst hr
        refine seg_bind_wrap ?_
        rw [(gl _).over]
        refine wpAny_mono h4 (fun _ s5 h5 => ?_) fun x s' hx => ee2 n s₀ x s' hx
        obtain ⟨x, H5, I5, r5, y5, st5, fr5⟩ := h5
        have J5 := Inv.pinned I5 (stat fr5) (T.obj _ _ st5)
        refine seg_bind_wrap ?_
        rw [(gl _).over]
        refine wpAny_mono (hg.run _ s5 σ H5 x u _ J5 r5 (step x H5 y5)) (fun _ s6 h6 => ?_) fun x s' hx => ee2 n s₀ x s' hx
        obtain ⟨σ6, H6, I6, q6⟩ := h6
        rw [Sem.bind_eq_wrap', Sem.wrap_wrap]
        rw [Sem.wrap_congr (execs body X.env) _ _ (K' := fun f => match f with
            | .next | .cont => .pure (.again (.forLoop tg (.ref it) body [] X.env))
            | .brk => .pure (.done .next)
            | .ret v => .pure (.done (.ret v))) (H' := (fun e => (do noteFrame e X.env; theTreesLotGoes e : Sem Unit).wrap (fun _ => .raise e) .raise id id))
          (fun f => by cases f <;> rfl)
          (fun e => by first | exact Sem.bind_eq_wrap _ _ | (show (do noteFrame e X.env; theTreesLotGoes e : Sem Unit).bind (fun _ => .raise e) = _; rw [Sem.bind_eq_wrap]))]
        have gx := gl (backB X K J gd lv)
        have gb : GC X S (ip ++ pinsAt fp s5.heap) A (.forLoop tg (.ref it) body [] X.env) (frB X K J gd lv c p fs) id :=
          ⟨gx.pn, fun p hp => by
            rcases List.mem_append.mp hp with z | z
            · exact gx.ip p z
            · exact hfS _ (of_pinsAt z).1, gx.apart, gx.over, gx.split, gx.guard, gx.gd⟩
        have un : ∀ {ys' : List V} {σ' : L2.St} {H' : Hp} {s' : Shared}, GI X S (ip ++ pinsAt fp s5.heap) ys' σ' H' s' → GI X S ip ys' σ' H' s' := fun {ys' σ' H' s'} hI => by
          obtain ⟨a1, c1, r1, I1⟩ := hI
          exact ⟨a1, c1, r1, Inv.unpinned (pins := (S, lstObj a1 c1) :: ip) (pl := pinsAt fp s5.heap) I1⟩
        refine hb.run A S (ip ++ pinsAt fp s5.heap) R n ys s₀ _ _ _ _ id id s6 σ6 H6 { D with nx := N, ct := N, bk := D.nx } gb hn ⟨fun n' ys' s₀' s3 f hn' hs => ?_, fun n' s₀' x s3 hx => ee n' s₀' x s3 hx⟩ ⟨acc, cc, r, I6⟩ q6
        have again : ∀ {ys' : List V} {σ7 : L2.St} {H7 : Hp}, n' + ys'.length = sizeLine → GI X S (ip ++ pinsAt fp s5.heap) ys' σ7 H7 s3 → N ys' σ7 H7 → Seg (model X.prog X.w) A R (GY X S) n' s₀' (.forLoop tg (.ref it) body [] X.env) (.pure (.again (.forLoop tg (.ref it) body [] X.env)))
            (frB X K J gd lv c p fs) s3 := fun {ys' σ7 H7} hn' I7 n7 => by
          obtain ⟨m', hm, w7⟩ := hN ys' σ7 H7 n7
          obtain ⟨a1, c1, r1, I1⟩ := id I7
          have pin : ∀ b ∈ fp, ∀ o, s5.heap.get? b = some o → s3.heap.get? b = some o ∧ H7 b = none := fun b hb o e => by
            have q := I1.pin (b, o) (List.mem_append_right _ (List.mem_cons_of_mem _ (List.mem_append_right _ (mem_pinsAt hb e))))
            exact ⟨q.1, q.2.1⟩
          refine seg_again rfl (ih m' hm n' (i + 1) ys' s₀' s3 σ7 H7 hn' w7 (fun b hb => ?_) (T.keep _ _ _ st5 fun b hb o e => (pin b hb o e).1) (un I7))
          obtain ⟨ob, eo, _⟩ := T.obj _ _ st5 b hb
          exact (pin b hb ob eo).2
        cases f with
        | next => obtain ⟨σ3, H3, I3, n3⟩ := hs; exact again hn' I3 n3
        | cont => obtain ⟨σ3, H3, I3, n3⟩ := hs; exact again hn' I3 n3
        | brk =>
          obtain ⟨σ3, H3, I3, n3⟩ := hs
          exact seg_leaf (.ok .next) (k.ok n' ys' s₀' s3 .next hn' ⟨σ3, H3, un I3, n3⟩)
        | ret v =>
          obtain ⟨x3, σ3, H3, I3, r3, n3⟩ := hs
          exact seg_leaf (.ok (.ret v)) (k.ok n' ys' s₀' s3 (.ret v) hn' ⟨x3, σ3, H3, un I3, r3, n3⟩)
  exact loop m0 n 0 ys s₀ s2 σ H2 hn w0 (fun b hb => (f2 b hb).1) st2 ⟨acc, cc, r, I2⟩
theorem gi_wish {E : Value → Shared → Prop} : GI (X.wish E) = GI X := by
  funext S ip ys σ H s
  exact propext ⟨fun ⟨a, c, r, I⟩ => ⟨a, c, r, I.unwish⟩, fun ⟨a, c, r, I⟩ => ⟨a, c, r, I.wish E⟩⟩
theorem gy_wish {E : Value → Shared → Prop} {S : Addr} : GY (X.wish E) S = GY X S := by
  unfold GY
  rw [gi_wish]
theorem gsp_wish {E : Value → Shared → Prop} {S : Addr} : GSP (X.wish E) S = GSP X S := by
  funext ip D ys f s
  cases f <;> (unfold GSP; rw [gi_wish])
theorem GSs.nox {st : List Stmt} {t : TGn} (h : GSs X.nox st t) : GSs X st t := by
  constructor
  intro A S ip R n ys s₀ c fs K J gd lv s σ H D g hn k hI ht
  have r := h.run A S ip R n ys s₀ c fs K J gd lv s σ H D ⟨g.pn, g.ip, g.apart, g.over, g.split, g.guard, g.gd⟩ hn ⟨fun n ys s₀ s f hn hs => by
    have q := k.ok n ys s₀ s f hn (by rw [gsp_wish] at hs; exact hs)
    rw [gy_wish]
    exact q, fun n s₀ e s hx => False.elim hx⟩ (by rw [gi_wish]; exact hI) ht
  rw [gy_wish] at r
  exact r
end
/-! ### a generator def's contract -/
structure CalG (P : Program) (w : World) (K : PySem.W.Frag) (mg : Str → Option Value) (base : Heap) (k : Nat) (x : Str) (ps : List Str) (sp : SpG) : Prop where
  ex : ∃ (f : Addr) (fd : FuncData), mg x = some (.ref f) ∧ PySem.W.keepIn K (.ref f) = true ∧ Binds K fd ps [] ∧ GFn P w K mg base k f fd ps sp
theorem CalG.mk' {P : Program} {w : World} {K : PySem.W.Frag} {mg : Str → Option Value} {base : Heap} {k : Nat} {x : Str} {ps : List Str} {sp : SpG} {f : Addr} {fd : FuncData} (h1 : mg x = some (.ref f)) (h2 : PySem.W.keepIn K (.ref f) = true) (h3 : Binds K fd ps []) (h4 : GFn P w K mg base k f fd ps sp) :
    CalG P w K mg base k x ps sp := ⟨f, fd, h1, h2, h3, h4⟩
theorem FunD.gok {P : Program} {w : World} {K : PySem.W.Frag} {mg : Str → Option Value} {base : Heap} {k : Nat} {f : Addr} {fd : FuncData} {x qual : Str} {params : Arguments} {body : List Stmt} {scope : Scope} {dvs : List V} {kws : List (Str × V)} {N ps : List Str} {sp : SpG}
    (F : FunD K x qual params body scope dvs kws f fd) (S : GScope N ps scope) (len : ∀ vs H Q E, sp vs H Q E → vs.length = ps.length)
    (hbody : ∀ (cdv : Value) (A : Around) (outer : List Env) (s : Shared) (H : Hp) (vs : List V) (Q : List V → Hp → Prop) (E : XK) (pn : List (Addr × Obj)), Room k (A.deeper (envOfC qual scope s.heap.objs.size f cdv)) → sp vs H Q E →
      ∃ t, GSs (gcxOf P w K mg base N qual scope f cdv A outer s H E pn) body t ∧ t { nx := fun ys _ H' => Q ys H', rt := fun ys v H' => v = .non ∧ Q ys H' } [] (start N vs) H) : GFn P w K mg base (k + 1) f fd ps sp := by
  obtain ⟨cl, di, dV, kV, doc, pm, an, cdv, ct, slo, rfl, found, hcode, _⟩ := F.ex
  exact gfn_of found hcode S len fun A outer s H vs Q E pn hr h => hbody cdv A outer s H vs Q E pn hr h
def tCalG (sp : SpG) (E : XK) (t : TA) : TGen := fun σ H cont => t σ H fun vs H1 => sp vs H1 cont E
theorem tCallG_nil (sp : SpG) (E : XK) (t : TA) : tCallG sp [] E t = tCalG sp E t := by
  funext σ H Q
  unfold tCallG tCalG
  congr 1
  funext vs H1
  rw [List.append_nil]
theorem boot_listT : bootBuiltins "list" = some (.type "list") := by decide +kernel
section
variable {X : Cx} {k : Nat} {x : Str} {ps : List Str} {sp : SpG} {e : Expr} {es : List Expr} {t : TA} {p p0 pos pos0 : Pos}
/-- list(f(e, ..)) of a generator def -/
theorem pe_listCal (C : CalG X.prog X.w X.K X.mg X.base k x ps sp) (hr : Room (k + 3) X.A) (hgl : Gl X "list") (hml : X.mg "list" = none) (hg : Gl X x) (ha : PA X (e :: es) t)
    (hdb : (x == ("__debug__" : Str)) = false := by decide) (he : starEach (e :: es) X.env = (false, eval e X.env) :: starEach es X.env := by rfl) (hpl : (backTo pos (starEach es X.env)).any (·.1) = false := by rfl)
    (he2 : starEach [.Call (.Name x p) (e :: es) [] pos] X.env = (false, eval (.Call (.Name x p) (e :: es) [] pos) X.env) :: starEach [] X.env := by rfl) :
    PE X (.Call (.Name "list" p0) [.Call (.Name x p) (e :: es) [] pos] [] pos0) (tListG (tCalG sp (fun _ _ _ => False) t)) := by
  obtain ⟨f, fd, h1, h2, h3, h4⟩ := C.ex
  rw [← tCallG_nil]
  exact pe_listG (pgen_call h4 (hr.mono (by omega)) hg h1 h2 h3 .nil ha hdb he hpl) (fun _ _ _ _ _ _ _ c => by
    obtain ⟨a, B, H', cls, d, _, _, _, _, _, _, _, z⟩ := c
    exact z.elim) (fun _ _ _ z => z.elim) hr hgl hml boot_listT (by decide) (by decide) he2
end
/-! ### readings -/
section
variable {σ : L2.St} {H : Hp} {D : GEnds} {ys : List V} {t u : TGn} {ts : TS} {te : TE} {c : TT} {wi : TI} {g : TG} {a : List V → L2.St → Hp → Prop} {b : List V → VK} {cc d : List V → L2.St → Hp → Prop} {tl : TE} {K : PySem.W.Frag} {tas : TA}
theorem w_gthen (h : t ⟨fun ys' σ' H' => u D ys' σ' H', D.rt, D.bk, D.ct⟩ ys σ H) : tGThen t u D ys σ H := h
theorem w_plain (h : ts ⟨D.nx ys, D.rt ys, D.bk ys, D.ct ys⟩ σ H) : tPlain ts D ys σ H := h
theorem w_g0 (h : D.nx ys σ H) : tG0 D ys σ H := h
theorem w_gnx (h : a ys σ H) : GEnds.nx ⟨a, b, cc, d⟩ ys σ H := h
theorem w_gyield (hl : ys.length < 16777216) (h : te σ H fun x H1 => D.nx (ys ++ [x]) σ H1) : tGYield te D ys σ H := ⟨by rw [sizeLine_eq]; exact hl, h⟩
theorem w_gif (h : c σ H fun b H1 => if b = true then t D ys σ H1 else u D ys σ H1) : tGIf c t u D ys σ H := h
def GForOk (J : It) (g : TG) (tb : TGn) (D : GEnds) (ys : List V) (σ : L2.St) (H1 : Hp) : Prop := ∃ W : Nat → Nat → List V → L2.St → Hp → Prop, (∃ m, W 0 m ys σ H1) ∧ ∀ i m ys σ H, W i m ys σ H →
  (J.stop i H ∧ D.nx ys σ H) ∨ (J.go i H ∧ ∃ N : List V → L2.St → Hp → Prop, (∀ ys' σ' H', N ys' σ' H' → ∃ m', m' < m ∧ W (i + 1) m' ys' σ' H') ∧ ∀ x H', J.yld i H x H' → g x σ H' fun σ2 H2 => tb { D with nx := N, ct := N, bk := D.nx } ys σ2 H2)
theorem w_gfor (h : wi σ H fun J H1 => GForOk J g t D ys σ H1) : tGFor wi g t D ys σ H := h
/-- the turns are known beforehand: n of them, the i-th gives v i -/
theorem gfor_fn {J : It} {n : Nat} {v : Nat → V} (hgo : ∀ i H, i < n → J.go i H) (hst : ∀ i H, n ≤ i → J.stop i H) (hy : ∀ i H x H', J.yld i H x H' → H' = H ∧ x = v i) (Pv : Nat → List V → L2.St → Hp → Prop) (h0 : Pv 0 ys σ H)
    (hs : ∀ i ys σ H, i < n → Pv i ys σ H → g (v i) σ H fun σ2 H2 => t ⟨Pv (i + 1), D.rt, D.nx, Pv (i + 1)⟩ ys σ2 H2) (hd : ∀ ys σ H, Pv n ys σ H → D.nx ys σ H) : GForOk J g t D ys σ H := by
  refine ⟨fun i m ys σ H => m = n - i ∧ i ≤ n ∧ Pv i ys σ H, ⟨n, by simp, Nat.zero_le _, h0⟩, ?_⟩
  rintro i m ys σ H ⟨rfl, hi, p⟩
  by_cases hlt : i < n
  · refine .inr ⟨hgo i H hlt, Pv (i + 1), fun ys' σ' H' p' => ⟨n - (i + 1), by omega, rfl, hlt, p'⟩, fun x H' y => ?_⟩
    obtain ⟨e1, e2⟩ := hy i H x H' y
    subst e1 e2
    exact hs i ys σ _ hlt p
  · have e : i = n := by omega
    subst e
    exact .inl ⟨hst _ H (Nat.le_refl _), hd ys σ H p⟩
theorem w_gforR1 {n : Int} (hn : n < 2 ^ 62) (hn0 : -(2 ^ 62) ≤ n) (Pv : Nat → List V → L2.St → Hp → Prop) (h0 : Pv 0 ys σ H)
    (hs : ∀ (i : Nat) ys σ H, (i : Int) < n → Pv i ys σ H → g (.int i) σ H fun σ2 H2 => t ⟨Pv (i + 1), D.rt, D.nx, Pv (i + 1)⟩ ys σ2 H2) (hd : ∀ ys σ H, Pv n.toNat ys σ H → D.nx ys σ H) : iR1v [.int n] H fun J H1 => GForOk J g t D ys σ H1 :=
  ⟨n, rfl, hn0, hn, gfor_fn (n := n.toNat) (v := fun i => .int i) (fun _ _ h => h) (fun _ _ h => h) (fun i H x H' y => ⟨y.1, by rw [y.2, Int.zero_add]⟩) Pv h0 (fun i ys σ H hi p => hs i ys σ H (by omega) p) hd⟩
theorem w_gforDn {hi lo : Int} (b1 : -(2 ^ 62) ≤ hi) (b2 : hi < 2 ^ 62) (b3 : -(2 ^ 62) ≤ lo) (b4 : lo < 2 ^ 62) (Pv : Nat → List V → L2.St → Hp → Prop) (h0 : Pv 0 ys σ H)
    (hs : ∀ (i : Nat) ys σ H, (i : Int) < hi - lo → Pv i ys σ H → g (.int (hi - i)) σ H fun σ2 H2 => t ⟨Pv (i + 1), D.rt, D.nx, Pv (i + 1)⟩ ys σ2 H2) (hd : ∀ ys σ H, Pv (hi - lo).toNat ys σ H → D.nx ys σ H) : iR3v [.int hi, .int lo, .int (-1)] H fun J H1 => GForOk J g t D ys σ H1 :=
  ⟨hi, lo, -1, _, rfl, RgC.neg b1 b2 b3 b4, gfor_fn (n := (hi - lo).toNat) (v := fun i => .int (hi - i)) (fun _ _ h => h) (fun _ _ h => h) (fun i H x H' y => ⟨y.1, by rw [y.2]; congr 1; omega⟩) Pv h0 (fun i ys σ H hi' p => hs i ys σ H (by omega) p) hd⟩
theorem w_listG {tg : TGen} {Q : VK} (h : tg σ H fun out H2 => ∀ p, H2 p = none → Q (.ref p) (upd H2 p (.lst out))) : tListG tg σ H Q := h
theorem w_calG {sp : SpG} {E : XK} {Q : List V → Hp → Prop} (h : tas σ H fun vs H1 => sp vs H1 Q E) : tCalG sp E tas σ H Q := h
end
def sg1 (p : V → Hp → (List V → Hp → Prop) → XK → Prop) : SpG := fun vs H Q E => ∃ a, vs = [a] ∧ p a H Q E
def sg2 (p : V → V → Hp → (List V → Hp → Prop) → XK → Prop) : SpG := fun vs H Q E => ∃ a b, vs = [a, b] ∧ p a b H Q E
def sg3 (p : V → V → V → Hp → (List V → Hp → Prop) → XK → Prop) : SpG := fun vs H Q E => ∃ a b c, vs = [a, b, c] ∧ p a b c H Q E
end KP

/-! len(range(i, j, c)); for over a range with a step. -/
namespace KP
open PySem PySem.Spec PyProof.Rows L2 GenW Evl
section
variable {X : Cx}
/-- range(i, j, c) as a value that is asked for its length at once -/
def LenRg3 (vs : List V) (H : Hp) (Q : VK) : Prop := ∃ (i j c : Int) (n : Nat), vs = [.int i, .int j, .int c] ∧ RgC i j c n ∧ (n : Int) < 2 ^ 62 ∧ Q (.int n) H
def tLenRg3 (ta : TA) : TE := fun σ H Q => ta σ H fun vs H1 => LenRg3 vs H1 Q
theorem run_rg3 {a b c : Expr} {ta : TA} {p2 pos2 : Pos} {pins : List (Addr × Obj)} {s : Shared} {σ : L2.St} {H : Hp} {R : Int → Int → Int → Nat → Hp → Prop} (hgr : Gl X "range") (hmr : X.mg "range" = none) (ha : PA X [a, b, c] ta)
    (h3 : starEach [a, b, c] X.env = (false, eval a X.env) :: starEach [b, c] X.env := by rfl) (hpl : (backTo pos2 (starEach [b, c] X.env)).any (·.1) = false := by rfl) (I : Inv X pins σ H s)
    (h : ta σ H fun vs H1 => ∃ (i j k : Int) (n : Nat), vs = [.int i, .int j, .int k] ∧ RgC i j k n ∧ R i j k n H1) :
    wpAny (model X.prog X.w) X.A (eval (.Call (.Name "range" p2) [a, b, c] [] pos2) X.env) (fun x s' => ∃ r i j k n t u v H', x = .ref r ∧ IsRange s'.heap r i j k t u v ∧ RgC i j k n ∧ Inv X pins σ H' s' ∧ R i j k n H') X.xe s := by
  refine Call_ (ld_blt I hgr hmr boot_range (PyProof.Rows.callWith_type1 (thn (ha.run pos2 pins s σ H _ I h) fun us s1 ⟨vs, H1, I1, r1, q1⟩ => ?_) h3 hpl))
  obtain ⟨i, j, k, n, e, hc, q⟩ := q1
  subst e
  cases r1 with | cons x1 r1 =>
  cases r1 with | cons x2 r1 =>
  cases r1 with | cons x3 r1 =>
  cases r1
  obtain ⟨t, rfl⟩ := x1
  obtain ⟨t', rfl⟩ := x2
  obtain ⟨t'', rfl⟩ := x3
  refine call_range_3 hc.1 ?_ (.inl (PyProof.noPylong_small hc.2.1))
  exact ⟨_, i, j, k, n, _, _, _, H1, rfl, IsRange.new _ _ _ _ _ _ _, hc, I1.kept fun _ _ z => Heap.get?_push_of_some _ z, q⟩
theorem pe_lenRg3 {a b c : Expr} {ta : TA} {p p2 pos pos2 : Pos} (hgl : Gl X "len") (hml : X.mg "len" = none) (hgr : Gl X "range") (hmr : X.mg "range" = none) (ha : PA X [a, b, c] ta)
    (h3 : starEach [a, b, c] X.env = (false, eval a X.env) :: starEach [b, c] X.env := by rfl) (hpl : (backTo pos2 (starEach [b, c] X.env)).any (·.1) = false := by rfl)
    (h1 : starEach [.Call (.Name "range" p2) [a, b, c] [] pos2] X.env = (false, eval (.Call (.Name "range" p2) [a, b, c] [] pos2) X.env) :: starEach [] X.env := by rfl) :
    PE X (.Call (.Name "len" p) [.Call (.Name "range" p2) [a, b, c] [] pos2] [] pos) (tLenRg3 ta) := by
  constructor
  intro pins s σ H Q I h
  refine Call_ (ld_blt I hgl hml boot_len (PyProof.Rows.callWith_builtin1 (args_cons (thn (run_rg3 (R := fun _ _ _ n H1 => (n : Int) < 2 ^ 62 ∧ Q (.int n) H1) hgr hmr ha h3 hpl I h) fun x s1 hx => args_nil ?_) h1) h1))
  obtain ⟨r, i, j, k, n, t, u, v, H1, rfl, hr, hc, I1, hn, q⟩ := hx
  exact call_len_range hr hc.2.2.2 (by omega) ⟨.int n, H1, I1.kept fun _ _ z => z, ⟨_, rfl⟩, q⟩
end
section
variable {σ : L2.St} {H : Hp} {D : Ends} {GD : GEnds} {ys : List V} {tb : TS} {t : TGn} {g : TG} {tas : TA} {Q : VK}
theorem w_lenRg3 (h : tas σ H fun vs H1 => LenRg3 vs H1 Q) : tLenRg3 tas σ H Q := h
/-- range(i, j, c), c above 0: how many turns -/
def upN (i j c : Int) : Nat := if i < j then ((j - i - 1) / c + 1).toNat else 0
theorem rgC_pos {i j c : Int} (h0 : 0 ≤ i) (h1 : i < 2 ^ 30) (h2 : 0 ≤ j) (h3 : j < 2 ^ 30) (c0 : 0 < c) (c1 : c < 2 ^ 30) : RgC i j c (upN i j c) := by
  refine ⟨by omega, by omega, ?_, ?_⟩
  · have q0 : 0 ≤ (j - i - 1) / c ∨ ¬ i < j := by
      by_cases h : i < j
      · exact .inl (Int.ediv_nonneg (by omega) (by omega))
      · exact .inr h
    have q1 : (j - i - 1) / c ≤ j - i - 1 ∨ ¬ i < j := by
      by_cases h : i < j
      · exact .inl (Int.ediv_le_self _ (by omega))
      · exact .inr h
    unfold Builtin.Range.small Builtin.Range.rangeSize
    rw [if_pos c0]
    generalize (j - i - 1) / c = q at *
    simp only [Builtin.Range.rangeFitsLong, Bool.and_eq_true, Bool.or_eq_true, decide_eq_true_eq, beq_iff_eq, if_pos c0]
    split <;> omega
  · unfold Builtin.Range.rangeSize upN
    rw [if_pos c0]
    split
    · have : 0 ≤ (j - i - 1) / c := Int.ediv_nonneg (by omega) (by omega)
      omega
    · rfl
theorem w_forUp {i j c : Int} (h0 : 0 ≤ i) (h1 : i < 2 ^ 30) (h2 : 0 ≤ j) (h3 : j < 2 ^ 30) (c0 : 0 < c) (c1 : c < 2 ^ 30) (Pv : Nat → L2.St → Hp → Prop) (hz : Pv 0 σ H)
    (hs : ∀ (k : Nat) σ H, k < upN i j c → Pv k σ H → g (.int (i + k * c)) σ H fun σ2 H2 => tb ⟨Pv (k + 1), D.rt, D.nx, Pv (k + 1)⟩ σ2 H2) (hd : ∀ σ H, Pv (upN i j c) σ H → D.nx σ H) : iR3v [.int i, .int j, .int c] H fun J H1 => ForOk J g tb D σ H1 :=
  ⟨i, j, c, _, rfl, rgC_pos h0 h1 h2 h3 c0 c1, for_rangeC Pv hz hs hd⟩
theorem w_gforUp {i j c : Int} (h0 : 0 ≤ i) (h1 : i < 2 ^ 30) (h2 : 0 ≤ j) (h3 : j < 2 ^ 30) (c0 : 0 < c) (c1 : c < 2 ^ 30) (Pv : Nat → List V → L2.St → Hp → Prop) (hz : Pv 0 ys σ H)
    (hs : ∀ (k : Nat) ys σ H, k < upN i j c → Pv k ys σ H → g (.int (i + k * c)) σ H fun σ2 H2 => t ⟨Pv (k + 1), GD.rt, GD.nx, Pv (k + 1)⟩ ys σ2 H2) (hd : ∀ ys σ H, Pv (upN i j c) ys σ H → GD.nx ys σ H) : iR3v [.int i, .int j, .int c] H fun J H1 => GForOk J g t GD ys σ H1 :=
  ⟨i, j, c, _, rfl, rgC_pos h0 h1 h2 h3 c0 c1, gfor_fn (n := upN i j c) (v := fun k => .int (i + (k : Nat) * c)) (fun _ _ h => h) (fun _ _ h => h) (fun _ _ _ _ y => y) Pv hz hs hd⟩
/-- len(range(i, j, c)) -/
theorem w_lenUp {i j c : Int} (h0 : 0 ≤ i) (h1 : i < 2 ^ 30) (h2 : 0 ≤ j) (h3 : j < 2 ^ 30) (c0 : 0 < c) (c1 : c < 2 ^ 30) (h : Q (.int (upN i j c)) H) : LenRg3 [.int i, .int j, .int c] H Q :=
  ⟨i, j, c, _, rfl, rgC_pos h0 h1 h2 h3 c0 c1, by
    unfold upN
    split
    · have q0 : 0 ≤ (j - i - 1) / c := Int.ediv_nonneg (by omega) (by omega)
      have q1 : (j - i - 1) / c ≤ j - i - 1 := Int.ediv_le_self _ (by omega)
      omega
    · omega, h⟩
end
/-! ### a generator def with defaults -/
structure CalGD (P : Program) (w : World) (K : PySem.W.Frag) (mg : Str → Option Value) (base : Heap) (k : Nat) (x : Str) (ps : List Str) (dvs : List V) (sp : SpG) : Prop where
  ex : ∃ (f : Addr) (fd : FuncData) (ds : List Value), mg x = some (.ref f) ∧ PySem.W.keepIn K (.ref f) = true ∧ Binds K fd ps ds ∧ Vals dvs ds ∧ GFn P w K mg base k f fd ps sp
section
variable {X : Cx} {k : Nat} {x : Str} {ps : List Str} {dvs : List V} {sp : SpG} {e : Expr} {es : List Expr} {t : TA} {p p0 pos pos0 : Pos}
theorem pe_listCalD (C : CalGD X.prog X.w X.K X.mg X.base k x ps dvs sp) (hr : Room (k + 3) X.A) (hgl : Gl X "list") (hml : X.mg "list" = none) (hg : Gl X x) (ha : PA X (e :: es) t)
    (hdb : (x == ("__debug__" : Str)) = false := by decide) (he : starEach (e :: es) X.env = (false, eval e X.env) :: starEach es X.env := by rfl) (hpl : (backTo pos (starEach es X.env)).any (·.1) = false := by rfl)
    (he2 : starEach [.Call (.Name x p) (e :: es) [] pos] X.env = (false, eval (.Call (.Name x p) (e :: es) [] pos) X.env) :: starEach [] X.env := by rfl) :
    PE X (.Call (.Name "list" p0) [.Call (.Name x p) (e :: es) [] pos] [] pos0) (tListG (tCallG sp dvs (fun _ _ _ => False) t)) := by
  obtain ⟨f, fd, ds, h1, h2, h3, h4, h5⟩ := C.ex
  exact pe_listG (pgen_call h5 (hr.mono (by omega)) hg h1 h2 h3 h4 ha hdb he hpl) (fun _ _ _ _ _ _ _ c => by
    obtain ⟨_, _, _, _, _, _, _, _, _, _, _, _, z⟩ := c
    exact z.elim) (fun _ _ _ z => z.elim) hr hgl hml boot_listT (by decide) (by decide) he2
end
section
variable {σ : L2.St} {H : Hp} {tas : TA} {sp : SpG} {dvs : List V} {E : XK} {Q : List V → Hp → Prop}
theorem w_callG (h : tas σ H fun vs H1 => sp (vs ++ dvs) H1 Q E) : tCallG sp dvs E tas σ H Q := h
end
end KP

/-! More built-ins: methods of lists and texts, sum, str, ranges as values. -/
namespace PySem
open PyProof.Rows
section
theorem list_extend_tupG (l : Addr) (items : Array Value) (n : Nat) (b : Addr) (items2 : Array Value) (n2 : Nat) (dd : Option Addr) (sl : Array (Option Value)) (hs0 : ¬(!items.isEmpty && Builtin.List.listTooLong (items.size + items2.size)) = true) (hs1 : items.size ≤ sizeLine) (hs2 : items.size + items2.size ≤ sizeLine + 1) :
    Meets (Builtin.«list.extend» ⟨[.ref l, .ref b], []⟩) (fun _ R s => s.heap.get? l = some { cls := .type "list", dict := none, data := .seq items n, slots := #[] } ∧ s.heap.get? b = some { cls := .type "tuple", dict := dd, data := .seq items2 n2, slots := sl } ∧ R (.ok (.ret Value.none)) { s with heap := s.heap.update l (Obj.mapSeq fun x => x ++ items2), toks := s.toks }) :=
  .of_wp fun prog w A R s h => by
    obtain ⟨hp, g, d, tk, os⟩ := s; obtain ⟨hl, hb, h⟩ := h; have f1 := AutoSeq1.idx_int; have f2 := AutoSeq1.sub_tuple_tuple; have f3 := AutoSeq1.sub_list_list; have f4 := AutoSeq1.sub_tuple_list; have f5 := AutoSeq1.sub_list_tuple;
    have hz' : (items ++ items2).size ≤ sizeLine + 1 := by rw [Array.size_append]; exact hs2
    wp_walk using (wpAny_updateSeq hl rfl (hz := hs1) (_hz' := hz')), AutoSeq1.wpAny_loadPart' hl, AutoSeq1.wpAny_loadPart' hb; exact ⟨_, rfl, h⟩
end
end PySem

namespace KM
open PySem PySem.Spec PyProof.Rows L2 Evl KP
section
variable {X : Cx}
/-- xs.extend(a list | a tuple) -/
def rExtendA (K : PySem.W.Frag) : V → List V → Hp → VK → Prop := fun x vs H Q => ∃ l b xs zs, x = .ref l ∧ vs = [.ref b] ∧ H l = some (.lst xs) ∧ (H b = some (.lst zs) ∨ SqT K H b zs) ∧ xs.length + zs.length ≤ sizeLine ∧ Q .non (upd H l (.lst (xs ++ zs)))
theorem mt_extendA : MtM X "list.extend" (rExtendA X.K) := by
  intro pins s σ H x vs v us Q I rx rv h
  obtain ⟨l, b, xs, zs, rfl, rfl, hH, hB, hz, q⟩ := h
  rcases hB with hB | hB
  · exact mt_extend pins s σ H _ _ v us Q I rx rv ⟨l, b, xs, zs, rfl, rfl, hH, hB, hz, q⟩
  cases rx
  obtain ⟨u, rfl, ru⟩ := rv.one
  cases ru
  obtain ⟨z, its, n, r, hl, e⟩ := I.lstM hH
  obtain ⟨its2, r2, ⟨o2, e2, hc2, n2, hd2⟩, hl2⟩ := I.tuple hB
  obtain ⟨c2, d2, dat2, sl2⟩ := o2
  cases hc2
  cases hd2
  have hl22 := r2.length
  have hl11 := r.length
  have hsz : its.toArray.size + its2.toArray.size ≤ sizeLine := by rw [List.size_toArray, List.size_toArray]; omega
  have hlong : ¬ (!its.toArray.isEmpty && Builtin.List.listTooLong (its.toArray.size + its2.toArray.size)) = true := by
    rw [notLongL hsz, Bool.and_false]
    exact Bool.false_ne_true
  refine call_meets F.slot_list_extend ⟨_, e, rfl⟩ F.entry_list_extend (F.args_list_extend_2 _ _)
    (PySem.list_extend_tupG l its.toArray n b its2.toArray n2 d2 sl2 hlong (by rw [List.size_toArray]; omega) (by omega)) ⟨e, e2, ?_⟩
  refine ⟨.non, _, I.lset (its' := its ++ its2) hH e (by simp) (r.append r2) ?_, rfl, q⟩
  rw [List.length_append]
  omega
/-- o[i] of a list, by values -/
def rGetL (K : PySem.W.Frag) : V → V → Hp → VK → Prop := fun o i H Q => ∃ p xs k v, o = .ref p ∧ i = .int k ∧ SqL K H p xs ∧ 0 ≤ k ∧ k < 2 ^ 63 ∧ xs[k.toNat]? = some v ∧ Q v H
theorem get_list : PGet X (rGetL X.K) := by
  intro pins s σ H o i ov iv Q I ro ri h
  obtain ⟨p, xs, k, v, rfl, rfl, hq, h0, h1, hx, q⟩ := h
  cases ro
  obtain ⟨t, rfl⟩ := ri
  obtain ⟨its, r, pl, hz⟩ := I.list hq
  obtain ⟨w, ew, rw'⟩ := r.get hx
  exact wpAny_getItem_list pl.isList h0 h1 (by simpa using ew) ⟨v, H, I, rw', q⟩
end
section
variable {K : PySem.W.Frag} {Wx : WX} {Fz : List Nat} {H H' H1 H2 : Hp} {O O' Oo W W' W1 W2 fp : List Addr} {σ σ' ρ : L2.St} {env env' as : Env} {te ta tb tc : TE} {tt tu : TT} {tas : TA} {ts us : TS} {A : Ends}
/-! ### lists changed by methods -/
/-- a list at a name changes to data; f: the new items -/
theorem ER.chgD (E : ER K Oo W σ H env) {i : Nat} {ts : List T} {v : V} (hn : nodeOf env i [] = some (.lst ts)) (hv : OpdR K H (Oo ++ W) σ (.loc i []) v) :
    ∃ p vs fq, v = .ref p ∧ H p = some (.lst vs) ∧ Ows K H (Oo ++ W) ts vs fq ∧ p ∉ fq ∧ ∀ (us : List T) (ws : List V) (f' : List Addr), f'.Sublist fq →
      (∀ O' : List Addr, Lv H (Oo ++ W) (upd H p (.lst ws)) O' → (∀ q, q ≠ p → (upd H p (.lst ws)) q = H q) → Ows K (upd H p (.lst ws)) O' us ws f') →
      ∃ W', Lv H W (upd H p (.lst ws)) W' ∧ ER K Oo W' σ (upd H p (.lst ws)) (putAt env i [] (.lst us)) := by
  obtain ⟨p, vs, fq, e, hp, rs, g1, g2, g3, g4, go⟩ := ER.chgL (us := []) (fp := []) (Oo := Oo) (W := W) (by simpa using E) (by simp) hn (by simpa using hv)
  refine ⟨p, vs, fq, e, hp, by simpa using rs, g1, fun us ws f' s o => ?_⟩
  obtain ⟨W', l, E'⟩ := go us ws f' (fun q hq => .inl (s.subset hq)) (g2.sublist s) (fun O' l same => o O' (by simpa using l) same)
  exact ⟨W', by simpa using l, E'⟩
theorem Ows.toVals : ∀ {ts : List T} {vs : List V} {fp : List Addr} {ds : List D}, Ows K H O ts vs fp → unvals ts = some ds → Rvs K H O ds vs := fun h e => (h.vals e).1
theorem dropLast_rvs {ds : List D} {vs : List V} (r : Rvs K H O ds vs) : Rvs K H O ds.dropLast vs.dropLast := by
  rw [List.dropLast_eq_take, List.dropLast_eq_take, r.len]
  exact r.take _
/-- xs.pop() of a list of data -/
def mPop (i : Nat) : M T := fun env => match env[i]? with
  | some (some (.lst ts)) => match unvals ts with
    | some ds => match ds.getLast? with
      | some d => .ok (.val d) (putAt env i [] (.lst (leafs ds.dropLast)))
      | none => .stuck
    | none => .stuck
  | _ => .stuck
theorem io_pop {i : Nat} : IO K Wx (tBM0 K "list" rPop (tVar i)) (mPop i) := fun Oo W σ H env Q E q => by
  unfold mPop at q
  split at q
  · rename_i ts hts
    split at q
    · rename_i ds hds
      split at q
      · rename_i d hd
        obtain ⟨v0, A0, f0, B0, h1, _, h3, _⟩ := E.ce.at hts
        have hn : nodeOf env i [] = some (.lst ts) := by unfold nodeOf; rw [hts]; rfl
        obtain ⟨p, vs, fq, ev, hp, rs, g1, go⟩ := ER.chgD E hn ⟨v0, h1, rfl⟩
        subst ev
        have rv := (rs.vals hds).1
        have hdn : ds[ds.length - 1]? = some d := by rw [← List.getLast?_eq_getElem?]; exact hd
        obtain ⟨y, hy, ry⟩ := rv.get hdn
        refine ⟨.ref p, h1, .inl ⟨rfl, vs, SqL.of hp⟩, p, vs, y, rfl, rfl, hp, by rw [rv.len]; exact hy, ?_⟩
        obtain ⟨W', l, E'⟩ := go (leafs ds.dropLast) vs.dropLast [] (List.nil_sublist _) fun O' l same => (dropLast_rvs rv).lv l |>.leafs
        have nd := E.domA
        exact q y _ W' [] (by simpa using l) (by simpa using E') List.nodup_nil (by simp) ⟨rfl, by simpa using ry.lv (l.oo Oo)⟩
      · exact q.elim
    · exact q.elim
  · exact q.elim
def mClear (i : Nat) : M T := fun env => match env[i]? with
  | some (some (.lst _)) => .ok (.val .non) (putAt env i [] (.lst []))
  | _ => .stuck
theorem io_clear {i : Nat} : IO K Wx (tBM0 K "list" rClear (tVar i)) (mClear i) := fun Oo W σ H env Q E q => by
  unfold mClear at q
  split at q
  · rename_i ts hts
    obtain ⟨v0, A0, f0, B0, h1, _, h3, _⟩ := E.ce.at hts
    have hn : nodeOf env i [] = some (.lst ts) := by unfold nodeOf; rw [hts]; rfl
    obtain ⟨p, vs, fq, ev, hp, rs, g1, go⟩ := ER.chgD E hn ⟨v0, h1, rfl⟩
    subst ev
    refine ⟨.ref p, h1, .inl ⟨rfl, vs, SqL.of hp⟩, p, vs, rfl, rfl, hp, ?_⟩
    obtain ⟨W', l, E'⟩ := go [] [] [] (List.nil_sublist _) fun O' l same => ⟨rfl, rfl⟩
    exact io_nil_of E' q l rfl
  · exact q.elim
/-- xs.extend(e) -/
def seqArg : D → Option (List D)
  | .lst ds => some ds
  | .tup ds => some ds
  | _ => none
def mExt (i : Nat) (m : M Ob) : M T := fun env => match env[i]? with
  | some (some (.lst _)) => (m.bnd fun x => fun e => match e[i]? with
    | some (some (.lst ts)) => match (lookB x e).bind seqArg with
      | some ds => if ts.length + ds.length ≤ 16777216 then .ok (.val .non) (putAt e i [] (.lst (ts ++ leafs ds))) else .stuck
      | _ => .stuck
    | _ => .stuck) env
  | _ => .stuck
theorem Ows.apps : ∀ {ts us : List T} {vs ws : List V} {f1 f2 : List Addr}, Ows K H O ts vs f1 → Ows K H O us ws f2 → Ows K H O (ts ++ us) (vs ++ ws) (f1 ++ f2)
  | [], _, _, _, _, _, ⟨e, ef⟩, o => by subst e ef; exact o
  | t0 :: ts, us, _, ws, _, f2, ⟨v0, vs', g1, g2, e, ef, a, r⟩, o => by subst e ef; exact ⟨v0, _, g1, g2 ++ f2, rfl, by simp, a, Ows.apps r o⟩
theorem io_extend {i : Nat} {m} (a : IB K Wx te m) : IO K Wx (tBM K "list" (rExtendA K) (tVar i) (tCons te tNil)) (mExt i m) := fun Oo W σ H env Q E q => by
  unfold mExt at q
  split at q
  · rename_i ts0 hts
    obtain ⟨v0, A0, f0, B0, h1, _, h3, _⟩ := E.ce.at hts
    refine ⟨v0, h1, ?_, ?_⟩
    · obtain ⟨p, vs, fq, e, ef, hp, rs⟩ := h3
      subst e
      exact .inl ⟨rfl, vs, SqL.of hp⟩
    · refine a Oo W σ H env _ E ((M.bnd_to q).mono (fun x e q v H1 W1 l1 E1 r1 => ?_) fun _ _ _ _ x => x)
      split at q
      · rename_i ts hts1
        have hn : nodeOf e i [] = some (.lst ts) := by unfold nodeOf; rw [hts1]; rfl
        obtain ⟨p, vs, fq, ev, hp, rs, g1, go⟩ := ER.chgD E1 hn ⟨v0, h1, rfl⟩
        subst ev
        split at q
        · rename_i ds hds
          split at q
          · rename_i hz
            cases e1 : lookB x e with
            | none => rw [e1] at hds; cases hds
            | some d =>
              rw [e1] at hds
              have sh := E1.look r1 e1
              have src : ∃ b zs, v = .ref b ∧ (H1 b = some (.lst zs) ∨ SqT K H1 b zs) ∧ Rvs K H1 (Oo ++ W1) ds zs := by
                cases d with
                | lst ds => cases hds; obtain ⟨b, zs, ev, hb, rz⟩ := sh; exact ⟨b, zs, ev, .inl hb, rz⟩
                | tup ds => cases hds; obtain ⟨b, zs, ev, hb, rz⟩ := sh; exact ⟨b, zs, ev, .inr hb.sq, rz⟩
                | _ => cases hds
              obtain ⟨b, zs, ev, hb, rz⟩ := src
              subst ev
              refine ⟨p, b, vs, zs, rfl, rfl, hp, hb, by rw [rs.len, rz.len]; exact szl hz, ?_⟩
              obtain ⟨W', l, E'⟩ := go (ts ++ leafs ds) (vs ++ zs) (fq ++ []) (by simp) fun O' l same => Ows.apps (rs.lv l fun q hq => same q fun z => g1 (z ▸ hq)) ((rz.lv l).leafs)
              exact io_nil_of E' q (l1.trans l) rfl
          · exact q.elim
        · exact q.elim
      · exact q.elim
  · exact q.elim
/-! ### methods of texts -/
def OpM (K : PySem.W.Frag) (r : V → List V → Hp → VK → Prop) (op : Str → List D → Option T) : Prop := ∀ H O z xs ds t (Q : VK), (∀ p ∈ O, Mut (H p)) → RShs K H O ds xs → op z ds = some t →
  (∀ v H' fp, Evl.Ex H H' → (∀ p ∈ fp, H p = none) → fp.Nodup → Ow K H' (O ++ fp) t v fp → Q v H') → r (.str z) xs H Q
def strOut (op : Str → List D → Option T) (a : M (List Ob)) : D → M T
  | .str z => a.bnd fun xs => fun env => M.opt ((lookBs xs env).bind (op z)) env
  | _ => fun _ => .stuck
def oM (op : Str → List D → Option T) (m : M D) (a : M (List Ob)) : M T := m.bnd (strOut op a)
theorem io_bmS {r : V → List V → Hp → VK → Prop} {op} (s : OpM K r op) {m ma} (b : IV K Wx te m) (a : IA K Wx tas ma) : IO K Wx (tBM K "str" r te tas) (oM op m ma) := fun Oo W σ H env Q E q => by
  refine b Oo W σ H env _ E ((M.bnd_to q).mono (fun d env1 q v H1 W1 l1 E1 r1 => ?_) fun _ _ _ _ x => x)
  cases d with
  | str z =>
    cases (show v = V.str z from r1)
    refine ⟨rfl, a Oo W1 σ H1 env1 _ E1 ((M.bnd_to q).mono (fun xs env2 q vs H2 W2 l2 E2 r2 => ?_) fun _ _ _ _ x => x.lv l1)⟩
    obtain ⟨t, e, q⟩ := M.opt_to q
    cases e1 : lookBs xs env2 with
    | none => rw [e1] at e; cases e
    | some ds =>
      rw [e1] at e
      refine s H2 (Oo ++ W2) z vs ds t Q E2.domA (E2.looks r2 e1) e fun w H3 fp ex hf nd o => ?_
      obtain ⟨k1, k2, k3, k4⟩ := new_io E2 ex hf o
      exact q w H3 W2 fp ((l1.trans l2).trans k1) k2 nd k3 k4
  | _ => exact q.elim
def mS1 (g : Str → Str → D) : Str → List D → Option T
  | a, [.str b] => some (.val (g a b))
  | _, _ => none
theorem s_S1 {g : Str → Str → D} {gv : Str → Str → V} (hg : ∀ a b H O, Rv K H O (g a b) (gv a b)) : OpM K (fun x xs H Q => ∃ a b, x = .str a ∧ xs = [.str b] ∧ Q (gv a b) H) (mS1 g) := by
  intro H O z xs ds t Q hn r h q
  unfold mS1 at h
  split at h
  · rename_i b
    cases h
    obtain ⟨v, vs', rfl, a, e⟩ := r
    cases (show vs' = [] from e)
    cases (show v = _ from a)
    exact ⟨z, b, rfl, rfl, ans (K := K) q (hg _ _ _ _)⟩
  · cases h
def mCount := mS1 fun a b => .int (Txt.count a b)
theorem s_count : OpM K (fun x xs H Q => ∃ a b, x = .str a ∧ xs = [.str b] ∧ Q (.int (Txt.count a b)) H) mCount := s_S1 fun _ _ _ _ => rfl
def mStarts := mS1 fun a b => .bl (Txt.startswith a b)
theorem s_starts : OpM K (fun x xs H Q => ∃ a b, x = .str a ∧ xs = [.str b] ∧ Q (.bl (Txt.startswith a b)) H) mStarts := s_S1 fun _ _ _ _ => rfl
def strsOf : List D → Option (List Str)
  | [] => some []
  | .str x :: ds => (strsOf ds).map (x :: ·)
  | _ :: _ => none
theorem strsOf_rvs : ∀ {ds : List D} {vs : List V} {ys : List Str}, Rvs K H O ds vs → strsOf ds = some ys → vs = ys.map V.str
  | [], _, _, e, h => by cases (show _ = [] from e); cases h; rfl
  | .str x :: ds, _, zs, ⟨v, vs', e, a, r⟩, h => by
    unfold strsOf at h
    cases z : strsOf ds with
    | none => rw [z] at h; cases h
    | some ws =>
      rw [z] at h; cases h
      subst e
      cases (show v = _ from a)
      rw [strsOf_rvs r z]; rfl
  | .non :: _, _, _, _, h => by cases h
  | .bl _ :: _, _, _, _, h => by cases h
  | .int _ :: _, _, _, _, h => by cases h
  | .ty _ :: _, _, _, _, h => by cases h
  | .glo _ :: _, _, _, _, h => by cases h
  | .tup _ :: _, _, _, _, h => by cases h
  | .lst _ :: _, _, _, _, h => by cases h
  | .fro _ :: _, _, _, _, h => by cases h
  | .dic _ _ :: _, _, _, _, h => by cases h
  | .obj _ _ _ :: _, _, _, _, h => by cases h
def mJoin : Str → List D → Option T
  | a, [d] => (items d).bind fun ds => (strsOf ds).bind fun ys => if (ys.map (·.length)).sum + ys.length * a.length ≤ 16777216 then some (.val (.str (Txt.join a ys))) else none
  | _, _ => none
theorem s_join : OpM K (fun x xs H Q => ∃ a p, ∃ ys : List Str, x = .str a ∧ xs = [.ref p] ∧ (SqL K H p (ys.map V.str) ∨ SqT K H p (ys.map V.str)) ∧ (ys.map (·.length)).sum + ys.length * a.length ≤ 16777216 ∧ Q (.str (Txt.join a ys)) H) mJoin := by
  intro H O z xs ds t Q hn r h q
  unfold mJoin at h
  split at h
  · rename_i d
    obtain ⟨v, vs', rfl, a, e⟩ := r
    cases (show vs' = [] from e)
    cases e1 : items d with
    | none => rw [e1] at h; cases h
    | some es =>
      rw [e1] at h
      have h : ((strsOf es).bind fun ys => if (ys.map (·.length)).sum + ys.length * z.length ≤ 16777216 then some (T.val (.str (Txt.join z ys))) else none) = some t := h
      cases e2 : strsOf es with
      | none => rw [e2] at h; cases h
      | some ys =>
        rw [e2] at h
        have h : (if (ys.map (·.length)).sum + ys.length * z.length ≤ 16777216 then some (T.val (.str (Txt.join z ys))) else none) = some t := h
        split at h
        · rename_i hz
          cases h
          obtain ⟨p, us, rfl, s, rs⟩ := a.items e1
          have := strsOf_rvs rs e2
          subst this
          exact ⟨z, p, ys, rfl, rfl, s, hz, ans (K := K) q rfl⟩
        · cases h
  · cases h
/-! ### built-ins -/
def intsOf : List D → Option (List Int)
  | [] => some []
  | .int i :: ds => (intsOf ds).map (i :: ·)
  | _ :: _ => none
theorem intsOf_rvs : ∀ {ds : List D} {vs : List V} {ys : List Int}, Rvs K H O ds vs → intsOf ds = some ys → vs = ys.map V.int
  | [], _, _, e, h => by cases (show _ = [] from e); cases h; rfl
  | .int x :: ds, _, zs, ⟨v, vs', e, a, r⟩, h => by
    unfold intsOf at h
    cases z : intsOf ds with
    | none => rw [z] at h; cases h
    | some ws =>
      rw [z] at h; cases h
      subst e
      cases (show v = _ from a)
      rw [intsOf_rvs r z]; rfl
  | .non :: _, _, _, _, h => by cases h
  | .bl _ :: _, _, _, _, h => by cases h
  | .str _ :: _, _, _, _, h => by cases h
  | .ty _ :: _, _, _, _, h => by cases h
  | .glo _ :: _, _, _, _, h => by cases h
  | .tup _ :: _, _, _, _, h => by cases h
  | .lst _ :: _, _, _, _, h => by cases h
  | .fro _ :: _, _, _, _, h => by cases h
  | .dic _ _ :: _, _, _, _, h => by cases h
  | .obj _ _ _ :: _, _, _, _, h => by cases h
/-- a list of ints -/
def listInts (d : D) : Option (List Int) := match d with
  | .lst ds => intsOf ds
  | .fro ds => intsOf ds
  | _ => none
theorem RSh.ints {d : D} {v : V} {ns : List Int} (r : RSh K H O d v) (h : listInts d = some ns) : ∃ p, v = .ref p ∧ SqL K H p (ns.map V.int) := by
  cases d with
  | lst ds =>
    obtain ⟨p, vs, e, a, rs⟩ := r
    have := intsOf_rvs rs h
    subst this
    exact ⟨p, e, SqL.of a⟩
  | fro ds =>
    obtain ⟨p, vs, e, a, rs⟩ := r
    have := intsOf_rvs rs h
    subst this
    exact ⟨p, e, a⟩
  | _ => cases h
def bSumI : List D → Option T
  | [d] => (listInts d).map fun ns => .val (.int ns.sum)
  | _ => none
theorem s_sum : OpA K (rSum K) bSumI := by
  intro H O xs ds t Q hn r h q
  unfold bSumI at h
  split at h
  · rename_i d
    obtain ⟨v, vs', rfl, a, e⟩ := r
    cases (show vs' = [] from e)
    cases e1 : listInts d with
    | none => rw [e1] at h; cases h
    | some ns =>
      rw [e1] at h; cases h
      obtain ⟨p, rfl, s⟩ := a.ints e1
      exact ⟨p, ns, rfl, s, ans (K := K) q rfl⟩
  · cases h
def isort (ns : List Int) : List Int := ns.mergeSort fun a b => decide (a ≤ b)
theorem isort_of {ns ms : List Int} (p : ms.Perm ns) (s : ms.Pairwise (· ≤ ·)) : ms = isort ns := by
  have q := List.mergeSort_perm ns fun a b => decide (a ≤ b)
  have t : (isort ns).Pairwise (fun a b => decide (a ≤ b) = true) := List.pairwise_mergeSort (fun a b c h1 h2 => by simp at h1 h2 ⊢; omega) (fun a b => by simp; omega) ns
  refine List.Perm.eq_of_pairwise (le := fun a b => a ≤ b) (fun a b _ _ h1 h2 => by omega) s (t.imp fun h => of_decide_eq_true h) (p.trans q.symm)
theorem ints_rvs : ∀ ns : List Int, Rvs K H O (ns.map D.int) (ns.map V.int)
  | [] => rfl
  | n :: ns => ⟨.int n, _, rfl, rfl, ints_rvs ns⟩
def bSorted : List D → Option T
  | [d] => (listInts d).map fun ns => .lst (leafs ((isort ns).map D.int))
  | _ => none
theorem s_sorted : OpA K (rSortedI K) bSorted := by
  intro H O xs ds t Q hn r h q
  unfold bSorted at h
  split at h
  · rename_i d
    obtain ⟨v, vs', rfl, a, e⟩ := r
    cases (show vs' = [] from e)
    cases e1 : listInts d with
    | none => rw [e1] at h; cases h
    | some ns =>
      rw [e1] at h; cases h
      obtain ⟨p, rfl, s⟩ := a.ints e1
      refine ⟨p, ns, rfl, s, fun ms p' pm so hp => ?_⟩
      rw [isort_of pm so]
      exact ansL hn hp (ints_rvs _) q
  · cases h
theorem two64 : (2 : Nat) ^ 64 = 18446744073709551616 := by decide
def bStr : List D → Option T
  | [.int i] => if i.natAbs < 1000000000000000000 then some (.val (.str (toString i))) else none
  | _ => none
theorem s_str : OpA K (fun xs H Q => ∃ i, xs = [.int i] ∧ i.natAbs.log2 < 1920 ∧ Q (.str (toString i)) H) bStr := by
  intro H O xs ds t Q hn r h q
  unfold bStr at h
  split at h
  · split at h
    · rename_i i hz
      cases h
      obtain ⟨v, vs', rfl, a, e⟩ := r
      cases (show vs' = [] from e)
      cases (show v = _ from a)
      refine ⟨i, rfl, ?_, ans (K := K) q rfl⟩
      have : i.natAbs.log2 < 64 := PySem.Flt.log2_lt_of (by decide) (by rw [two64]; omega)
      omega
    · cases h
  · cases h
/-- range objects as lists, tuples -/
def IRg (K : PySem.W.Frag) (Wx : WX) (tr : L2.St → Hp → (Int → Int → Hp → Prop) → Prop) (m : M (Int × Int)) : Prop := ∀ Oo W σ H env (Q : Int → Int → Hp → Prop), ER K Oo W σ H env →
  (m env).To (fun x env' => ∀ H' W', Lv H W H' W' → ER K Oo W' σ H' env' → Q x.1 x.2 H') (OkX K Wx Oo W σ H) → tr σ H Q
def unInt (d : D) : M Int := match d with
  | .int i => M.ret i
  | _ => fun _ => .stuck
theorem Rv.int {d : D} {v : V} {Q : Int → Env → Prop} {Y} (r : Rv K H O d v) (q : (unInt d env).To Q Y) : ∃ i, v = .int i ∧ d = .int i ∧ Q i env := by
  cases d with
  | int i => exact ⟨i, r, rfl, q⟩
  | _ => exact q.elim
def mRg1 (a : M D) : M (Int × Int) := a.bnd fun d => (unInt d).bnd fun n => M.ret (0, n)
def mRg2 (a b : M D) : M (Int × Int) := a.bnd fun d => b.bnd fun e => (unInt d).bnd fun i => (unInt e).bnd fun j => M.ret (i, j)
theorem irg1 {m} (a : IV K Wx ta m) : IRg K Wx (tRg1 ta) (mRg1 m) := fun Oo W σ H env Q E q => by
  refine a Oo W σ H env _ E ((M.bnd_to q).mono (fun d env1 q v H1 W1 l1 E1 r1 => ?_) fun _ _ _ _ x => x)
  obtain ⟨i, e, _, q⟩ := r1.int (M.bnd_to q)
  exact ⟨i, e, q H1 W1 l1 E1⟩
theorem irg2 {m n} (a : IV K Wx ta m) (b : IV K Wx tb n) : IRg K Wx (tRg2 ta tb) (mRg2 m n) := fun Oo W σ H env Q E q => by
  refine a Oo W σ H env _ E ((M.bnd_to q).mono (fun d env1 q v H1 W1 l1 E1 r1 => ?_) fun _ _ _ _ x => x)
  refine b Oo W1 σ H1 env1 _ E1 ((M.bnd_to q).mono (fun d2 env2 q v2 H2 W2 l2 E2 r2 => ?_) fun _ _ _ _ x => x.lv l1)
  obtain ⟨i, e, _, q⟩ := r1.int (M.bnd_to q)
  obtain ⟨j, e2, _, q⟩ := r2.int (M.bnd_to q)
  exact ⟨i, j, e, e2, q H2 W2 (l1.trans l2) E2⟩
end
end KM

/-! enumerate and zip over any source (list, tuple, text). -/
namespace PySem
theorem en_meets {v : Value} {o : Obj} {G : Heap → Prop} (B : Begins v o G) : Meets (Builtin.«enumerate.__new__» ⟨[.type "enumerate", v], []⟩) (fun _ R s => G s.heap ∧ R (.ok (.ret (.ref (s.heap.push o).objs.size)))
    { s with heap := (s.heap.push o).push { cls := .type "enumerate", data := .fields #[.none, .bool false, .ref s.heap.objs.size, rawInt 0, .none, .none] } }) := .of_wp fun prog w A R s h => by
  obtain ⟨m, g, d, tk, os⟩ := s
  obtain ⟨hg, h⟩ := h
  have hs := sub_enumerate
  have st : ∀ {A' : Around} {E Q : Value → Shared → Prop}, Q (.ref m.objs.size) ⟨m.push o, g, d, tk, os⟩ → wpAny (model prog w) A' (pyIter v) Q E ⟨m, g, d, tk, os⟩ := B.iter prog w _ _ ⟨m, g, d, tk, os⟩ _ hg
  wp_walk using st
  refine wpAny_stack_any fun fr => wpAny_pure ?_
  split
  · rename_i c _ _ _ _ _
    cases (c == Value.type "enumerate")
    all_goals
      wp_walk using st
      exact ⟨_, rfl, h⟩
  · wp_walk using st
    exact ⟨_, rfl, h⟩
section
variable {prog : Program} {w : World} {A : Around} {E : Value → Shared → Prop} {s : Shared}
theorem en_call {v : Value} {o : Obj} {G : Heap → Prop} {Q : Value → Shared → Prop} (B : Begins v o G) (hg : G s.heap)
    (k : ∀ m, IsEnum m (s.heap.objs.size + 1) s.heap.objs.size 0 .none → m.get? s.heap.objs.size = some o → (∀ b o, s.heap.get? b = some o → m.get? b = some o) → Q (.ref (s.heap.objs.size + 1)) { s with heap := m }) :
    wpAny (model prog w) A (call (.type "enumerate") [v]) Q E s := by
  refine callType_new F.called_enumerate (by decide) (F.typeCall_enumerate_1 _) (F.newCall_enumerate_1 _) (fun x => F.args_object_init_2 x _) F.entry_enumerate_new (en_meets B) ⟨hg, ?_⟩
  have z : (s.heap.push o).objs.size = s.heap.objs.size + 1 := Heap.size_push ..
  have q := Heap.get?_push_size (s.heap.push o) (o := { cls := .type "enumerate", data := .fields #[.none, .bool false, .ref s.heap.objs.size, rawInt 0, .none, .none] }) rfl
  rw [z] at q ⊢
  exact ⟨⟨_, q, rfl⟩, k _ q (Heap.get?_push_of_some _ (Heap.get?_push_size _ B.free)) fun b x e => Heap.get?_push_of_some _ (Heap.get?_push_of_some _ e)⟩
end
end PySem
namespace KM
open PySem PySem.Spec PyProof.Rows L2 Evl KP
/-- a source -/
inductive Sc where
  | li (p : Addr)
  | tu (p : Addr)
  | sg (z : Str)
def zV (z : Str) : List V := z.cps.toList.map fun c => .str ⟨#[c]⟩
def Sc.has (K : PySem.W.Frag) (H : Hp) : Sc → List V → Prop
  | .li p, vs => SqL K H p vs
  | .tu p, vs => SqT K H p vs
  | .sg z, vs => vs = zV z
def Sc.src : Sc → V
  | .li p => .ref p
  | .tu p => .ref p
  | .sg z => .str z
def Sc.st : Sc → Tok → Addr → Nat → Heap → Prop
  | .li p, _, it, i, h => h.IsListIter it p i
  | .tu p, _, it, i, h => h.IsTupleIter it p i
  | .sg z, t, it, i, h => h.IsStrIter it (strIterType z) z t i
def Sc.ob : Sc → Tok → Obj
  | .li p, _ => { cls := .type "list_iterator", data := .fields #[.ref p, .int 0 0] }
  | .tu p, _ => { cls := .type "tuple_iterator", data := .fields #[.ref p, .int 0 0] }
  | .sg z, t => { cls := .type (strIterType z), data := .fields #[.str z t, .int 0 0] }
section
variable {X : Cx} {pins : List (Addr × Obj)} {σ : L2.St} {H : Hp} {s : Shared} {sc : Sc} {vs : List V} {t : Tok} {it : Addr} {i : Nat} {h h' : Heap}
theorem Sc.obj (a : sc.st t it i h) : ∃ o, h.get? it = some o ∧ ∀ v, o.data ≠ .cell v := by
  cases sc <;> (obtain ⟨o, e, _, d⟩ := a; exact ⟨o, e, fun v z => by rw [d] at z; cases z⟩)
theorem Sc.keep (a : sc.st t it i h) (k : ∀ o, h.get? it = some o → h'.get? it = some o) : sc.st t it i h' := by
  cases sc <;> (obtain ⟨o, e, r⟩ := a; exact ⟨o, k o e, r⟩)
theorem Sc.zero (a : h.get? it = some (sc.ob t)) : sc.st t it 0 h := by
  cases sc <;> exact ⟨_, a, rfl, rfl⟩
theorem Sc.begin {u : Value} (I : Inv X pins σ H s) (r : RelV sc.src u) (a : sc.has X.K H vs) : ∃ t G, Begins u (sc.ob t) G ∧ G s.heap := by
  cases sc with
  | li p =>
    cases r
    obtain ⟨its, rv, q, hz⟩ := I.list a
    exact ⟨0, _, begins_list p its.toArray, q.isList⟩
  | tu p =>
    cases r
    obtain ⟨its, rv, q, hz⟩ := I.tuple a
    exact ⟨0, _, begins_tuple p its.toArray, q⟩
  | sg z =>
    obtain ⟨t, rfl⟩ := r
    exact ⟨t, _, begins_text z t, trivial⟩
theorem k_ne {p c : Addr} {o : Obj} (I : Inv X pins σ H s) (e : X.K.lookup p = some o) (f : FpOk X pins H c) : p ≠ c := fun z => by
  subst z
  have hb := I.ok.mod.kin p o e
  rcases f.2.2.2.1 with y | y
  · exact I.ok.noex p o hb y
  · exact absurd (Nat.lt_of_lt_of_le (Heap.lt_size hb) (Nat.le_trans I.ok.bsz y)) (Nat.lt_irrefl _)
theorem rd_ne {p c : Addr} {u : HO} (r : Rd H p u) (f : FpOk X pins H c) : p ≠ c := fun z => by
  subst z
  rcases r with e | ⟨o, e⟩
  · rw [f.1] at e; cases e
  · rw [f.1] at e; cases e
theorem sqL_ne {p c : Addr} (I : Inv X pins σ H s) (a : SqL X.K H p vs) (f : FpOk X pins H c) : p ≠ c := by
  rcases a with r | ⟨o, _, _, e, _⟩
  · exact rd_ne r f
  · exact k_ne I e f
theorem sqT_ne {p c : Addr} (I : Inv X pins σ H s) (a : SqT X.K H p vs) (f : FpOk X pins H c) : p ≠ c := by
  rcases a with r | ⟨o, _, _, e, _⟩
  · exact rd_ne r f
  · exact k_ne I e f
theorem Sc.draw (I : Inv X pins σ H s) (hc : X.calm = true) (a : sc.has X.K H vs) (hn : FpOk X pins H it) (st : sc.st t it i s.heap) :
    ∃ fp P St, Draws X.prog X.w X.A.in1 it fp vs.length P St ∧ St i s.heap ∧ (∀ j h, St j h → sc.st t it j h) ∧ (∀ x, P i x → i < vs.length → ∃ v, vs[i]? = some v ∧ RelV v x) ∧ it ∈ fp ∧ ∀ b ∈ fp, b = it ∨ ∀ c, FpOk X pins H c → b ≠ c := by
  have hh : X.A.in1.handled = none := I.ok.hd hc
  cases sc with
  | li p =>
    obtain ⟨its, rv, q, hz⟩ := I.list a
    have hl := rv.length
    have np : p ≠ it := sqL_ne I a hn
    have D := Draws.list (prog := X.prog) (w := X.w) hh it p np its.toArray
    rw [show its.toArray.size = vs.length by simp [hl]] at D
    refine ⟨_, _, _, D, ⟨st, q.isList⟩, fun j h z => z.1, fun x e hi => ?_, by simp, fun b hb => ?_⟩
    · obtain ⟨v, hv⟩ := lt_get hi
      obtain ⟨u, hu, ru⟩ := rv.get hv
      have : its[i]? = some x := by simpa using e
      rw [hu] at this; cases this
      exact ⟨v, hv, ru⟩
    · have : b = it ∨ b = p := by simpa using hb
      rcases this with z | z
      · exact .inl z
      · exact .inr fun c f => by rw [z]; exact sqL_ne I a f
  | tu p =>
    obtain ⟨its, rv, q, hz⟩ := I.tuple a
    have hl := rv.length
    have np : p ≠ it := sqT_ne I a hn
    have D := Draws.tuple (prog := X.prog) (w := X.w) hh it p np its.toArray
    rw [show its.toArray.size = vs.length by simp [hl]] at D
    refine ⟨_, _, _, D, ⟨st, q⟩, fun j h z => z.1, fun x e hi => ?_, by simp, fun b hb => ?_⟩
    · obtain ⟨v, hv⟩ := lt_get hi
      obtain ⟨u, hu, ru⟩ := rv.get hv
      have : its[i]? = some x := by simpa using e
      rw [hu] at this; cases this
      exact ⟨v, hv, ru⟩
    · have : b = it ∨ b = p := by simpa using hb
      rcases this with z | z
      · exact .inl z
      · exact .inr fun c f => by rw [z]; exact sqT_ne I a f
  | sg z =>
    cases (show vs = zV z from a)
    have D := Draws.text (prog := X.prog) (w := X.w) hh it z t
    rw [show z.cps.size = (zV z).length by simp [zV]] at D
    refine ⟨_, _, _, D, st, fun j h y => y, fun x e hi => ?_, by simp, fun b hb => .inl (by simpa using hb)⟩
    obtain ⟨c, u, hc, rfl⟩ := e
    refine ⟨.str ⟨#[c]⟩, ?_, u, rfl⟩
    unfold zV
    rw [List.getElem?_map, Array.getElem?_toList, hc]; rfl
end
/-! ### enumerate -/
def ItE (K : PySem.W.Frag) (sc : Sc) (vs : List V) : It :=
  ⟨fun i H => sc.has K H vs ∧ i < vs.length, fun i H v H' => ∃ T x, v = .ref T ∧ H T = none ∧ H' = upd H T (.tup [.int (i : Nat), x]) ∧ vs[i]? = some x, fun i H => sc.has K H vs ∧ vs.length ≤ i⟩
theorem two_ok {P : Program} {w : World} {H : Hp} {h : Heap} {T : Addr} {x y : V} {u v : Value} {o : Obj} (e : h.get? T = some o) (ec : o.cls = .type "tuple") (ed : o.data = .seq #[u, v]) (ru : RelV x u) (rv : RelV y v) : ObjOk P w H h T (.tup [x, y]) :=
  ⟨by show 2 ≤ sizeLine; decide, [u, v], .cons ru (.cons rv .nil), ⟨o, e, ec, _, ed⟩⟩
theorem turn_en {P : Program} {w : World} {K : PySem.W.Frag} {elts : List Expr} {kk : Nat} {tpos : Pos} {sc : Sc} {vs : List V} {t : Tok} {e it : Addr} :
    Turn P w K (.Tuple elts kk tpos) (ItE K sc vs) [e, it] e (fun i h => ((∃ old, IsEnum h e it (i : Nat) old) ∧ sc.st t it i h ∧ e ≠ it) ∧ i ≤ vs.length) where
  mem := by simp
  obj := fun i h st b hb => by
    obtain ⟨⟨⟨old, he⟩, hi, _⟩, _⟩ := st
    rcases (by simpa using hb : b = e ∨ b = it) with z | z
    · rw [z]; exact ⟨_, he, fun v q => nomatch q⟩
    · rw [z]; exact Sc.obj hi
  keep := fun i h h' st k => let ⟨⟨⟨old, he⟩, hi, hne⟩, hz⟩ := st; ⟨⟨⟨old, k e (by simp) _ he⟩, Sc.keep hi fun o q => k it (by simp) o q, hne⟩, hz⟩
  item := by
    intro X hP hw hK hc i pins s σ H E I hf st hg
    cases hP; cases hw; cases hK
    obtain ⟨⟨⟨old, he⟩, hit, hne⟩, _⟩ := st
    obtain ⟨ha, hi⟩ := hg
    have fe := hf e (by simp)
    obtain ⟨fp, P, St, D, s0, ss, pp, mi, ap⟩ := Sc.draw I hc ha (hf it (by simp)) hit
    have ne : e ∉ fp := fun z => by
      rcases ap e z with y | y
      · exact hne y
      · exact y e fe rfl
    have le : e < s.heap.objs.size := Heap.lt_size he
    have li : it < s.heap.objs.size := by obtain ⟨o, q, _⟩ := Sc.obj hit; exact Heap.lt_size q
    refine wpAny_pyNext_enum_itemD D he s0 hi hne ne fun u m tk pu ho sn hT hz kp => ⟨_, rfl, wpAny_letOwnedTupleGo_enum ho fun m2 he2 sb => ?_⟩
    obtain ⟨v, hv, ru⟩ := pp u pu hi
    have I2 := I.turnedNew (t' := tk + 1) (h' := m2) (T := s.heap.objs.size) (ob := .tup [.int (i : Nat), v]) (ch := [e, it]) (fun b ob hb q => (sb.2 b fun y => hb (by simp [y])).trans (kp b ob (fun y => hb (by simp [y])) (fun y => hb (by simp [y])) q)) hf (Nat.le_refl _)
      (two_ok ((sb.2 _ (Nat.ne_of_gt le)).trans hT) rfl rfl ⟨_, rfl⟩ ru)
    refine ⟨.ref s.heap.objs.size, _, I2, rfl, ⟨_, v, rfl, I.hok.fresh (Nat.le_refl _), rfl, hv⟩, ⟨⟨⟨u, by simpa using he2⟩, Sc.keep (ss _ _ sn) fun o q => (sb.2 it (Ne.symm hne)).trans q, hne⟩, hi⟩, fun b hb => ?_⟩
    have lb : b < s.heap.objs.size := by
      rcases (by simpa using hb : b = e ∨ b = it) with z | z
      · rw [z]; exact le
      · rw [z]; exact li
    rw [upd_ne (Nat.ne_of_lt lb)]
    exact (hf b hb).1
  done := by
    intro X hP hw hK hc i pins s σ H E I hf st hg
    cases hP; cases hw; cases hK
    obtain ⟨⟨⟨old, he⟩, hit, hne⟩, hz⟩ := st
    obtain ⟨ha, hi⟩ := hg
    obtain ⟨f0, f1, f2, f3, f4, f5⟩ := hf it (by simp)
    obtain ⟨fp, P, St, D, s0, ss, pp, mi, ap⟩ := Sc.draw I hc ha (hf it (by simp)) hit
    have e1 : i = vs.length := by omega
    rw [e1] at s0
    exact wpAny_pyNext_enum_endD D he s0 fun m eb => ⟨rfl, I.turned (t' := s.toks) (fun b o hb q => eb b o hb q) f0 f1 f3 f4 f5⟩
  self := fun A i s Q E st h => let ⟨⟨⟨_, he⟩, _⟩, _⟩ := st; wpAny_pyIter_enum he h
def iEn (K : PySem.W.Frag) (ta : TA) : TI := fun σ H R => ta σ H fun ws H1 => ∃ sc vs, ws = [Sc.src sc] ∧ sc.has K H1 vs ∧ R (ItE K sc vs) H1
theorem pi_en {X : Cx} {e : Expr} {ta : TA} {p pos tpos : Pos} {elts : List Expr} {kk : Nat} (hg : Gl X "enumerate") (hm : X.mg "enumerate" = none) (ha : PA X [e] ta) (hs : starEach [e] X.env = [(false, eval e X.env)] := by rfl) :
    PI X (.Tuple elts kk tpos) (.Call (.Name "enumerate" p) [e] [] pos) (iEn X.K ta) := ⟨fun pins s σ H R I h => by
  refine Call_ (ld_blt I hg hm boot_enumerate (PyProof.Rows.callWith_type1 (thn (ha.run pos pins s σ H _ I h) fun us s1 q1 => ?_) hs rfl))
  obtain ⟨ws, H1, I1, r1, sc, vs, ew, hq, q⟩ := q1
  subst ew
  obtain ⟨u, eu, ru⟩ := r1.one
  subst eu
  obtain ⟨t, G, B, hG⟩ := Sc.begin I1 ru hq
  refine en_call B hG fun m he ho kp => wpAny_pyIter_enum he ?_
  have I2 := I1.kept (h' := m) (t' := s1.toks) kp
  have ge : ∀ b ∈ [s1.heap.objs.size + 1, s1.heap.objs.size], s1.heap.objs.size ≤ b := fun b hb => by
    simp at hb
    omega
  exact ⟨s1.heap.objs.size + 1, [s1.heap.objs.size + 1, s1.heap.objs.size], _, _, H1, rfl, I2, turn_en (t := t), ⟨⟨⟨.none, he⟩, Sc.zero ho, Nat.succ_ne_self _⟩, Nat.zero_le _⟩, fun b hb => I1.fpOk (ge b hb) (I1.hok.fresh (ge b hb)), q⟩⟩
section
variable {K : PySem.W.Frag} {Wx : WX} {H H' H1 : Hp} {O Oo W W1 : List Addr} {env : Env} {ta tb : TA} {te tf : TE}
theorem signs_rvs : ∀ cs : List Nat, Rvs K H O (cs.map fun c => .str ⟨#[c]⟩) (cs.map fun c => .str ⟨#[c]⟩)
  | [] => rfl
  | c :: cs => ⟨_, _, rfl, rfl, signs_rvs cs⟩
theorem Rv.sc {d : D} {v : V} {ds : List D} (r : Rv K H (Oo ++ W) d v) (h : iterD d = some ds) : ∃ sc vs, v = Sc.src sc ∧ (∀ H' W', Lv H W H' W' → sc.has K H' vs) ∧ Rvs K H (Oo ++ W) ds vs := by
  cases r.src h with
  | lst s r _ e => rw [items_iter e] at h; cases h; exact ⟨.li _, _, rfl, s, r⟩
  | tup s r _ e => rw [items_iter e] at h; cases h; exact ⟨.tu _, _, rfl, s, r⟩
  | str => cases h; exact ⟨.sg _, _, rfl, fun _ _ _ => rfl, signs_rvs _⟩
/-- (k, d), (k + 1, d'), .. -/
def enD : Nat → List D → List D
  | _, [] => []
  | k, d :: ds => .tup [.int (k : Nat), d] :: enD (k + 1) ds
theorem enD_get : ∀ {ds : List D} {k i : Nat}, (enD k ds)[i]? = (ds[i]?).map fun d => .tup [.int ((k + i : Nat) : Int), d]
  | [], _, _ => rfl
  | d :: ds, k, 0 => rfl
  | d :: ds, k, i + 1 => by
    show (enD (k + 1) ds)[i]? = (ds[i]?).map _
    rw [enD_get]
    have : k + 1 + i = k + (i + 1) := by omega
    rw [this]
theorem enD_len : ∀ {ds : List D} {k : Nat}, (enD k ds).length = ds.length
  | [], _ => rfl
  | d :: ds, k => congrArg (· + 1) enD_len
theorem pair_rv {T : Addr} {x y : V} {a b : D} (hT : H T = none) (dm : ∀ p ∈ O, Mut (H p)) (ra : Rv K H O a x) (rb : Rv K H O b y) : Evl.Ex H (upd H T (.tup [x, y])) ∧ Rv K (upd H T (.tup [x, y])) O (.tup [a, b]) (.ref T) := by
  have ex : Evl.Ex H (upd H T (.tup [x, y])) := Evl.Ex.new hT
  refine ⟨ex, T, [x, y], rfl, .inl ⟨fun z => ?_, .inl upd_same⟩, x, _, rfl, ra.lv (Lv.ex ex), y, _, rfl, rb.lv (Lv.ex ex), rfl⟩
  obtain ⟨o, e⟩ := Mut.ex (dm T z)
  rw [hT] at e; cases e
theorem it_en {sc : Sc} {vs : List V} {ds : List D} (s : ∀ H' W', Lv H W H' W' → sc.has K H' vs) (r : Rvs K H (Oo ++ W) ds vs) : ItR K (ItE K sc vs) (enD 0 ds) Oo W H := fun H' W' l dm i => by
  have rs := r.lv (l.oo Oo)
  refine ⟨fun d hd => ?_, fun hi => ⟨s H' W' l, by rw [r.len]; rwa [enD_len] at hi⟩⟩
  rw [enD_get] at hd
  cases e : ds[i]? with
  | none => rw [e] at hd; cases hd
  | some d0 =>
    rw [e] at hd; cases hd
    have hi := (List.getElem?_eq_some_iff.mp e).1
    refine ⟨⟨s H' W' l, by rw [r.len]; exact hi⟩, fun x H2 ⟨T, y, ex, hT, eH, hy⟩ => ?_⟩
    subst ex eH
    have ry := rvs_ix rs e hy
    have p := pair_rv (O := Oo ++ W') (a := .int (i : Nat)) (x := .int (i : Nat)) hT dm rfl ry
    rw [Nat.zero_add]
    exact p
def iEnM (m : M (List D)) : M (List D) := m.bnd fun ds => fun env => match ds with
  | [d] => M.opt ((iterD d).map (enD 0)) env
  | _ => .stuck
theorem ii_en {m} (a : IAV K Wx ta m) : II K Wx (iEn K ta) (iEnM m) := fun Oo W σ H env R E q => by
  refine a Oo W σ H env _ E ((M.bnd_to q).mono (fun ds env1 q vs H1 W1 l1 E1 r1 => ?_) fun _ _ _ _ x => x)
  split at q
  · rename_i d
    obtain ⟨es, e, q⟩ := M.opt_to q
    obtain ⟨v, vs', rfl, r, e2⟩ := r1
    cases (show vs' = [] from e2)
    cases e3 : iterD d with
    | none => rw [e3] at e; cases e
    | some zs =>
      rw [e3] at e; cases e
      obtain ⟨sc, ws, ev, s, rs⟩ := r.sc e3
      subst ev
      exact ⟨sc, ws, rfl, s H1 W1 (Lv.refl _ _), q _ H1 W1 l1 E1 (it_en s rs)⟩
  · exact q.elim
end
end KM

/-! list(range(..)), tuple(range(..)); evaluation of what M10 and M11 have. -/
namespace KM
open PySem PySem.Spec PyProof.Rows L2 Evl KP
section
variable {K : PySem.W.Frag} {Wx : WX} {H H' H1 : Hp} {O Oo W W1 : List Addr} {env : Env} {tr : L2.St → Hp → (Int → Int → Hp → Prop) → Prop}
def rgOkB (a b : Int) : Bool := in62 a && (in62 b && decide ((b - a).toNat ≤ 16777216))
theorem rgOkB_of {a b : Int} (h : rgOkB a b = true) : RgOk a b := by
  unfold rgOkB at h
  rw [Bool.and_eq_true, Bool.and_eq_true] at h
  exact ⟨(in62_of h.1).1, (in62_of h.1).2, (in62_of h.2.1).1, (in62_of h.2.1).2, by simpa using h.2.2⟩
theorem rg_rvs (a b : Int) : Rvs K H O (rgD a (b - a).toNat) (rgV a b) := by
  unfold rgD rgV
  generalize List.range (b - a).toNat = l
  induction l with
  | nil => rfl
  | cons n l ih => exact ⟨.int (a + (n : Int)), _, rfl, rfl, ih⟩
def mLstRg (m : M (Int × Int)) : M T := m.bnd fun x => fun env => if rgOkB x.1 x.2 = true then .ok (.lst (leafs (rgD x.1 (x.2 - x.1).toNat))) env else .stuck
def vTupRg (m : M (Int × Int)) : M D := m.bnd fun x => fun env => if rgOkB x.1 x.2 = true then .ok (.tup (rgD x.1 (x.2 - x.1).toNat)) env else .stuck
theorem iv_tupRg {m} (a : IRg K Wx tr m) : IV K Wx (tTupRg tr) (vTupRg m) := fun Oo W σ H env Q E q => by
  refine a Oo W σ H env _ E ((M.bnd_to q).mono (fun x env1 q H1 W1 l1 E1 => ?_) fun _ _ _ _ x => x)
  split at q
  · rename_i hz
    refine ⟨rgOkB_of hz, fun p hp => ?_⟩
    have ex := Evl.Ex.new (o := .tup (rgV x.1 x.2)) hp
    exact q (.ref p) _ W1 (l1.trans (Lv.ex ex)) (E1.ex ex) ⟨p, _, rfl, .inl ⟨E1.new hp, .inl upd_same⟩, rg_rvs _ _⟩
  · exact q.elim
theorem io_lstRg {m} (a : IRg K Wx tr m) : IO K Wx (tLstRg tr) (mLstRg m) := fun Oo W σ H env Q E q => by
  refine a Oo W σ H env _ E ((M.bnd_to q).mono (fun x env1 q H1 W1 l1 E1 => ?_) fun _ _ _ _ x => x)
  split at q
  · rename_i hz
    refine ⟨rgOkB_of hz, fun p hp => ?_⟩
    exact ansL (K := K) E1.domA hp (rg_rvs _ _) fun v H2 fp ex hf nd o => by
      obtain ⟨k1, k2, k3, k4⟩ := new_io E1 ex hf o
      exact q v H2 W1 fp (l1.trans k1) k2 nd k3 k4
  · exact q.elim
end
/-! evaluation -/
section
variable {α : Type} {env e : Env}
theorem x_iEnM (m : M (List D)) (env : Env) : iEnM m env = (m env).bind fun ds => fun env => match ds with
  | [d] => M.opt ((iterD d).map (enD 0)) env
  | _ => .stuck := rfl
def extO2 (i : Nat) (x : Ob) (e : Env) : Option (Option T) → Rs T
  | some (some (.lst ts)) => match (lookB x e).bind seqArg with
    | some ds => if ts.length + ds.length ≤ 16777216 then .ok (.val .non) (putAt e i [] (.lst (ts ++ leafs ds))) else .stuck
    | _ => .stuck
  | _ => .stuck
def extO (i : Nat) (m : M Ob) (env : Env) : Option (Option T) → Rs T
  | some (some (.lst _)) => (m env).bind fun x e => extO2 i x e e[i]?
  | _ => .stuck
theorem x_mExt (i : Nat) (m : M Ob) (env : Env) : mExt i m env = extO i m env env[i]? := by
  unfold mExt extO extO2 Rs.bind M.bnd
  cases env[i]? with
  | none => rfl
  | some c =>
    cases c with
    | none => rfl
    | some t =>
      cases t with
      | lst ts => cases m env <;> rfl
      | _ => rfl
theorem x_extO (i : Nat) (m : M Ob) (env : Env) (ts : List T) : extO i m env (some (some (.lst ts))) = (m env).bind fun x e => extO2 i x e e[i]? := rfl
theorem x_extO2 (i : Nat) (x : Ob) (e : Env) {ts : List T} {ds : List D} (h : (lookB x e).bind seqArg = some ds) (hz : ts.length + ds.length ≤ 16777216) : extO2 i x e (some (some (.lst ts))) = .ok (.val .non) (putAt e i [] (.lst (ts ++ leafs ds))) := by
  unfold extO2
  simp only [h, hz, if_true]
theorem x_seqL (ds : List D) : seqArg (.lst ds) = some ds := rfl
theorem x_seqT (ds : List D) : seqArg (.tup ds) = some ds := rfl
def popO (i : Nat) (env : Env) : Option (Option T) → Rs T
  | some (some (.lst ts)) => match unvals ts with
    | some ds => match ds.getLast? with
      | some d => .ok (.val d) (putAt env i [] (.lst (leafs ds.dropLast)))
      | none => .stuck
    | none => .stuck
  | _ => .stuck
theorem x_pop (i : Nat) (env : Env) : mPop i env = popO i env env[i]? := rfl
theorem x_popO (i : Nat) (env : Env) (ds : List D) (d : D) (h : ds.getLast? = some d) : popO i env (some (some (.lst (leafs ds)))) = .ok (.val d) (putAt env i [] (.lst (leafs ds.dropLast))) := by
  unfold popO
  simp only [unvals_leafs, h]
theorem x_oM (op : Str → List D → Option T) (m : M D) (a : M (List Ob)) (env : Env) : oM op m a env = (m env).bind (strOut op a) := rfl
theorem x_strOut (op : Str → List D → Option T) (a : M (List Ob)) (z : Str) : strOut op a (.str z) = a.bnd fun xs => fun env => M.opt ((lookBs xs env).bind (op z)) env := rfl
theorem x_count (a b : Str) : mCount a [.str b] = some (.val (.int (Txt.count a b))) := rfl
theorem x_starts (a b : Str) : mStarts a [.str b] = some (.val (.bl (Txt.startswith a b))) := rfl
theorem intsOf_ints : ∀ ns : List Int, intsOf (ns.map D.int) = some ns
  | [] => rfl
  | n :: ns => by
    show (intsOf (ns.map D.int)).map (n :: ·) = _
    rw [intsOf_ints ns]; rfl
theorem x_sumL (ns : List Int) : bSumI [.lst (ns.map D.int)] = some (.val (.int ns.sum)) := by
  show (intsOf (ns.map D.int)).map (fun ns => T.val (.int ns.sum)) = _
  rw [intsOf_ints]; rfl
theorem x_sortedL (ns : List Int) : bSorted [.lst (ns.map D.int)] = some (.lst (leafs ((isort ns).map D.int))) := by
  show (intsOf (ns.map D.int)).map _ = _
  rw [intsOf_ints]; rfl
theorem strsOf_strs : ∀ ns : List Str, strsOf (ns.map D.str) = some ns
  | [] => rfl
  | n :: ns => by
    show (strsOf (ns.map D.str)).map (n :: ·) = _
    rw [strsOf_strs ns]; rfl
theorem x_join (a : Str) (ys : List Str) (h : (ys.map (·.length)).sum + ys.length * a.length ≤ 16777216) : mJoin a [.lst (ys.map D.str)] = some (.val (.str (Txt.join a ys))) := by
  show ((strsOf (ys.map D.str)).bind fun ys => if (ys.map (·.length)).sum + ys.length * a.length ≤ 16777216 then some (T.val (.str (Txt.join a ys))) else none) = _
  rw [strsOf_strs]
  exact if_pos h
end
end KM

/-! list(zip(a, b)): the pairs that zip gives when the ones before are still held. -/
namespace PySem
open Sem (wp)
abbrev ZR (h : Heap) (z TI TO T : Addr) (b : Bool) : Prop := h.get? z = some { cls := .type "zip", data := .fields #[rawInt T, .bool b, .bool false, .ref TI, .ref TO] }
section
variable {prog : Program} {w : World} {A : Around} {E : Value → Shared → Prop} {s : Shared} {z TI TO T i1 i2 : Addr} {fp1 fp2 : List Addr} {n1 n2 i : Nat} {P1 P2 : Nat → Value → Prop} {St1 St2 : Nat → Heap → Prop} {b : Bool}
theorem zl_alive {M : Model} {a : Addr} {Q : Option Obj → Shared → Prop} (h : Q (s.heap.get? a) s) : wpAny M A (loadIfAlive a) Q E s := fun Γ p hΓ => by
  show Sem.wp _ Γ (.loadIfAlive a .pure) _ _ p s
  rw [Sem.wp_loadIfAlive]
  exact h
/-- the pair handed out is held: a new one is made -/
theorem zl_free {Q : Bool → Shared → Prop} {o : Obj} (hz : ZR s.heap z TI TO T b) (hT : s.heap.get? T = some o) (k : ∀ m, ZR m z TI TO T true → Heap.SameBut z s.heap m → Q false { s with heap := m }) :
    wpAny (model prog w) A (Builtin.SmallTypes.ownedTupleIsFree (.ref z)) Q E s := by
  unfold Builtin.SmallTypes.ownedTupleIsFree
  refine wpAny_bind (wpAny_field hz rfl (x := rawInt T) rfl ?_)
  show wpAny _ _ (loadIfAlive ((T : Int).toNat) >>= _) _ _ _
  refine wpAny_bind (zl_alive ?_)
  rw [Int.toNat_natCast, hT]
  refine wpAny_bind (wpAny_field hz rfl (x := .bool b) rfl ?_)
  cases b with
  | true => exact wpAny_pure (k s.heap hz ⟨rfl, fun _ _ => rfl⟩)
  | false =>
    show wpAny _ _ (setField (.ref z) 1 (.bool true) >>= fun _ => pure false) _ _ _
    exact wpAny_bind (wpAny_setField_rec hz (by simp) fun m hm sb => wpAny_pure (k m hm sb))
theorem zl_item {Q : Value → Shared → Prop} {o : Obj} (S : ZipSep2 z TI TO i1 i2 fp1 fp2) (D1 : Draws prog w A i1 fp1 n1 P1 St1) (D2 : Draws prog w A i2 fp2 n2 P2 St2)
    (hz : ZR s.heap z TI TO T b) (hT : s.heap.get? T = some o) (hTI : IsTupOf2 s.heap TI (.ref i1) (.ref i2)) (st1 : St1 i s.heap) (st2 : St2 i s.heap) (l1 : i < n1) (l2 : i < n2)
    (k : ∀ x1 x2 m tk, P1 i x1 → P2 i x2 → ZR m z TI TO T true → St1 (i + 1) m → St2 (i + 1) m → IsTupOf2 m s.heap.objs.size x1 x2 →
      (∀ c o, c ≠ z → c ≠ i1 → c ≠ i2 → s.heap.get? c = some o → m.get? c = some o) → s.heap.objs.size < m.objs.size → Q (.ref s.heap.objs.size) { s with heap := m, toks := tk }) :
    wpAny (model prog w) A (Builtin.«zip.__next__» ⟨[.ref z], []⟩) (fun fin s' => ∃ v, fin = .done (.ret v) ∧ Q v s') E s := by
  obtain ⟨h0, g, d, tk0, os⟩ := s
  show wpAny _ _ (field (.ref z) 2 >>= _) _ _ _
  refine wpAny_bind (wpAny_field hz rfl (x := .bool false) rfl ?_)
  show wpAny _ _ (field (.ref z) 3 >>= _) _ _ _
  refine wpAny_bind (wpAny_field hz rfl (x := .ref TI) rfl ?_)
  refine wpAny_bind (wpAny_seqItems hTI rfl ?_)
  show wpAny _ _ (Builtin.SmallTypes.ownedTupleIsFree (.ref z) >>= _) _ _ _
  refine wpAny_bind (zl_free hz hT fun m hm sb => ?_)
  replace sb : Heap.SameBut z h0 m := sb
  simp only [Bool.false_eq_true, if_false]
  refine wpAny_bind ?_
  simp only [List.forIn_toArray, List.forIn_cons, List.forIn_nil]
  refine wpAny_bind (wpAny_bind (wpAny_holding ?_))
  show wpAny _ _ (Builtin.SmallTypes.nextOf (.ref i1) >>= _) _ _ ⟨m, g, d, tk0, os⟩
  refine wpAny_bind (D1.item i _ _ _ l1 (D1.over st1 sb S.zf1) fun x1 p1 tk1 hx1 sn1 hp1 => wpAny_pure ?_)
  replace hp1 : Heap.SameBut i1 m p1 := hp1
  refine wpAny_pure ?_
  refine wpAny_bind (wpAny_bind (wpAny_holding ?_))
  show wpAny _ _ (Builtin.SmallTypes.nextOf (.ref i2) >>= _) _ _ ⟨p1, g, d, tk1, os⟩
  refine wpAny_bind (D2.item i _ _ _ l2 (D2.over (D2.over st2 sb S.zf2) hp1 S.sep1_2) fun x2 p2 tk2 hx2 sn2 hp2 => wpAny_pure ?_)
  replace hp2 : Heap.SameBut i2 p1 p2 := hp2
  refine wpAny_pure ?_
  refine wpAny_pure ?_
  show wpAny _ _ (newTuple [x1, x2] >>= _) _ _ _
  refine wpAny_bind (wpAny_newTuple ?_)
  have hs : p2.objs.size = h0.objs.size := by rw [hp2.1, hp1.1, sb.1]
  refine wpAny_pure ⟨_, rfl, ?_⟩
  have up : ∀ c o, p2.get? c = some o → (p2.push { cls := .type "tuple", data := .seq #[x1, x2] }).get? c = some o := fun c o e => Heap.get?_push_of_some _ e
  have nw : IsTupOf2 (p2.push { cls := .type "tuple", data := .seq #[x1, x2] }) p2.objs.size x1 x2 := Heap.get?_push_size _ rfl
  have sz : (p2.push { cls := .type "tuple", data := .seq #[x1, x2] }).objs.size = p2.objs.size + 1 := Heap.size_push ..
  show Q (.ref p2.objs.size) ⟨p2.push { cls := .type "tuple", data := .seq #[x1, x2] }, g, d, tk2, os⟩
  have q := k x1 x2 (p2.push { cls := .type "tuple", data := .seq #[x1, x2] }) tk2 hx1 hx2 (up _ _ (hp2.extBut _ _ S.zi2 (hp1.extBut _ _ S.zi1 hm))) (D1.frame _ _ _ (D1.over sn1 hp2 S.sep2_1) fun b _ o e => up b o e) (D2.frame _ _ _ sn2 fun b _ o e => up b o e)
    (by rw [← hs]; exact nw) (fun c o c1 c2 c3 e => up c o (hp2.extBut _ _ c3 (hp1.extBut _ _ c2 (sb.extBut _ _ c1 e)))) (by rw [sz, hs]; exact Nat.lt_succ_self _)
  rw [hs]
  exact q
theorem zl_end {Q : Fin → Shared → Prop} {o : Obj} (S : ZipSep2 z TI TO i1 i2 fp1 fp2) (D1 : Draws prog w A i1 fp1 n1 P1 St1) (D2 : Draws prog w A i2 fp2 n2 P2 St2)
    (hz : ZR s.heap z TI TO T b) (hT : s.heap.get? T = some o) (hTI : IsTupOf2 s.heap TI (.ref i1) (.ref i2)) (st1 : St1 i s.heap) (st2 : St2 i s.heap) (l1 : i ≤ n1) (l2 : i ≤ n2) (he : i = n1 ∨ i = n2)
    (k : ∀ m tk e, (∀ c o, c ≠ z → c ≠ i1 → c ≠ i2 → s.heap.get? c = some o → m.get? c = some o) → (∃ o, m.get? e = some o ∧ o.cls = .type "StopIteration") → E (.ref e) { s with heap := m, toks := tk }) :
    wpAny (model prog w) A (Builtin.«zip.__next__» ⟨[.ref z], []⟩) Q E s := by
  obtain ⟨h0, g, d, tk0, os⟩ := s
  show wpAny _ _ (field (.ref z) 2 >>= _) _ _ _
  refine wpAny_bind (wpAny_field hz rfl (x := .bool false) rfl ?_)
  show wpAny _ _ (field (.ref z) 3 >>= _) _ _ _
  refine wpAny_bind (wpAny_field hz rfl (x := .ref TI) rfl ?_)
  refine wpAny_bind (wpAny_seqItems hTI rfl ?_)
  show wpAny _ _ (Builtin.SmallTypes.ownedTupleIsFree (.ref z) >>= _) _ _ _
  refine wpAny_bind (zl_free hz hT fun m hm sb => ?_)
  replace sb : Heap.SameBut z h0 m := sb
  simp only [Bool.false_eq_true, if_false]
  refine wpAny_bind ?_
  simp only [List.forIn_toArray, List.forIn_cons, List.forIn_nil]
  refine wpAny_bind (wpAny_bind (wpAny_holding ?_))
  show wpAny _ _ (Builtin.SmallTypes.nextOf (.ref i1) >>= _) _ _ ⟨m, g, d, tk0, os⟩
  by_cases hl : i < n1
  · refine wpAny_bind (D1.item i _ _ _ hl (D1.over st1 sb S.zf1) fun x1 p1 tk1 hx1 sn1 hp1 => wpAny_pure ?_)
    replace hp1 : Heap.SameBut i1 m p1 := hp1
    refine wpAny_pure ?_
    refine wpAny_bind (wpAny_bind (wpAny_holding ?_))
    show wpAny _ _ (Builtin.SmallTypes.nextOf (.ref i2) >>= _) _ _ ⟨p1, g, d, tk1, os⟩
    have e2 : i = n2 := by omega
    have s2 := D2.over (D2.over st2 sb S.zf2) hp1 S.sep1_2
    rw [e2] at s2
    exact wpAny_bind (D2.done ⟨p1, g, d, tk1, os⟩ _ _ s2 fun q e hq hx => k q tk1 e (fun c o c1 c2 c3 x => hq _ _ c3 (hp1.extBut _ _ c2 (sb.extBut _ _ c1 x))) hx)
  · have e1 : i = n1 := by omega
    have s1 := D1.over st1 sb S.zf1
    rw [e1] at s1
    exact wpAny_bind (D1.done ⟨m, g, d, tk0, os⟩ _ _ s1 fun q e hq hx => k q tk0 e (fun c o c1 c2 c3 x => hq _ _ c2 (sb.extBut _ _ c1 x)) hx)
theorem zl_next {Q : Option Value → Shared → Prop} {o : Obj} (S : ZipSep2 z TI TO i1 i2 fp1 fp2) (D1 : Draws prog w A.in1 i1 fp1 n1 P1 St1) (D2 : Draws prog w A.in1 i2 fp2 n2 P2 St2)
    (hz : ZR s.heap z TI TO T b) (hT : s.heap.get? T = some o) (hTI : IsTupOf2 s.heap TI (.ref i1) (.ref i2)) (st1 : St1 i s.heap) (st2 : St2 i s.heap) (l1 : i < n1) (l2 : i < n2)
    (k : ∀ x1 x2 m tk, P1 i x1 → P2 i x2 → ZR m z TI TO T true → St1 (i + 1) m → St2 (i + 1) m → IsTupOf2 m s.heap.objs.size x1 x2 →
      (∀ c o, c ≠ z → c ≠ i1 → c ≠ i2 → s.heap.get? c = some o → m.get? c = some o) → s.heap.objs.size < m.objs.size → Q (some (.ref s.heap.objs.size)) { s with heap := m, toks := tk }) :
    wpAny (model prog w) A (pyNext (.ref z)) Q E s := by
  have ty : s.TypeIs (.ref z) "zip" := ⟨_, hz, rfl⟩
  unfold pyNext
  exact wpAny_bind (wpAny_attempt (wpAny_callSpecial?_slot (name := Str.ofString "__next__") ty F.slot_zip_next (wpAny_call_entry F.slot_zip_next ty F.entry_zip_next
    (zl_item S D1 D2 hz hT hTI st1 st2 l1 l2 fun x1 x2 m tk a1 a2 a3 a4 a5 a6 a7 a8 => wpAny_pure (k x1 x2 m tk a1 a2 a3 a4 a5 a6 a7 a8)) (F.args_zip_next_1 _))))
theorem zl_stop {Q : Option Value → Shared → Prop} {o : Obj} (S : ZipSep2 z TI TO i1 i2 fp1 fp2) (D1 : Draws prog w A.in1 i1 fp1 n1 P1 St1) (D2 : Draws prog w A.in1 i2 fp2 n2 P2 St2)
    (hz : ZR s.heap z TI TO T b) (hT : s.heap.get? T = some o) (hTI : IsTupOf2 s.heap TI (.ref i1) (.ref i2)) (st1 : St1 i s.heap) (st2 : St2 i s.heap) (l1 : i ≤ n1) (l2 : i ≤ n2) (he : i = n1 ∨ i = n2)
    (k : ∀ m tk, (∀ c o, c ≠ z → c ≠ i1 → c ≠ i2 → s.heap.get? c = some o → m.get? c = some o) → Q none { s with heap := m, toks := tk }) : wpAny (model prog w) A (pyNext (.ref z)) Q E s := by
  have ty : s.TypeIs (.ref z) "zip" := ⟨_, hz, rfl⟩
  unfold pyNext
  refine wpAny_bind (wpAny_attempt (wpAny_callSpecial?_slot (name := Str.ofString "__next__") ty F.slot_zip_next (wpAny_call_entry F.slot_zip_next ty F.entry_zip_next (zl_end S D1 D2 hz hT hTI st1 st2 l1 l2 he fun m tk e kp hx => ?_) (F.args_zip_next_1 _))))
  obtain ⟨o, ho, hc⟩ := hx
  exact wpAny_bind (wpAny_isInstance (T := "StopIteration") (b := true) ⟨o, ho, hc⟩ isSubtype_stop (wpAny_pure (k m tk kp)))
end

end PySem

/-! list(zip(a, b)): the loop. -/
namespace PySem
open Sem (wp)
structure ZL (h0 : Heap) (z TI TO i1 i2 S : Addr) (P1 P2 : Nat → Value → Prop) (St1 St2 : Nat → Heap → Prop) (acc : Array Value) (i : Nat) (h : Heap) : Prop where
  base : ∀ c o, h0.get? c = some o → h.get? c = some o
  zz : (i = 0 ∧ IsZip h z TI TO .none ∧ ∃ a b, IsTupOf2 h TO a b) ∨ ∃ T b o, ZR h z TI TO T b ∧ h.get? T = some o ∧ T ∉ [z, TO, i1, i2, S]
  to : ∃ o, h.get? TO = some o
  ti : IsTupOf2 h TI (.ref i1) (.ref i2)
  s1 : St1 i h
  s2 : St2 i h
  sz : acc.size = i
  prs : ∀ j, j < i → ∃ T x y, acc[j]? = some (.ref T) ∧ IsTupOf2 h T x y ∧ P1 j x ∧ P2 j y ∧ h0.objs.size ≤ T ∧ T ∉ [z, TO, i1, i2, S]
section
variable {prog : Program} {w : World} {A : Around} {E : Value → Shared → Prop} {s : Shared} {h0 : Heap} {z TI TO T i1 i2 S : Addr} {fp1 fp2 : List Addr} {n1 n2 i : Nat} {P1 P2 : Nat → Value → Prop} {St1 St2 : Nat → Heap → Prop} {acc : Array Value} {b : Bool} {h m : Heap}
theorem zl_push {T : Addr} {x y : Value} (ht : IsTupOf2 m T x y) (p1 : P1 i x) (p2 : P2 i y) (le : h0.objs.size ≤ T) (nT : T ∉ [z, TO, i1, i2, S]) (sz : acc.size = i)
    (old : ∀ j, j < i → ∃ T x y, acc[j]? = some (.ref T) ∧ IsTupOf2 m T x y ∧ P1 j x ∧ P2 j y ∧ h0.objs.size ≤ T ∧ T ∉ [z, TO, i1, i2, S]) :
    ∀ j, j < i + 1 → ∃ T' x y, (acc.push (.ref T))[j]? = some (.ref T') ∧ IsTupOf2 m T' x y ∧ P1 j x ∧ P2 j y ∧ h0.objs.size ≤ T' ∧ T' ∉ [z, TO, i1, i2, S] := fun j hj => by
  by_cases e : j = i
  · subst e
    exact ⟨T, x, y, by rw [← sz]; simp, ht, p1, p2, le, nT⟩
  · obtain ⟨T', x', y', a, r⟩ := old j (by omega)
    exact ⟨T', x', y', by rw [Array.getElem?_push, if_neg (by omega)]; exact a, r⟩
theorem zl_step {Q : Option Value → Shared → Prop} {oS : Obj} (Sp : ZipSep2 z TI TO i1 i2 fp1 fp2) (D1 : Draws prog w A.in1 i1 fp1 n1 P1 St1) (D2 : Draws prog w A.in1 i2 fp2 n2 P2 St2)
    (nz : ∀ c ∈ [z, TO, i1, i2, S], h0.objs.size ≤ c) (nS : S ∉ [z, TI, TO, i1, i2]) (L : ZL h0 z TI TO i1 i2 S P1 P2 St1 St2 acc i s.heap) (hz0 : h0.objs.size ≤ s.heap.objs.size) (hS : s.heap.get? S = some oS) (l1 : i < n1) (l2 : i < n2)
    (k : ∀ m tk, ZL h0 z TI TO i1 i2 S P1 P2 St1 St2 (acc.push (.ref s.heap.objs.size)) (i + 1) m → m.get? S = some oS → h0.objs.size ≤ m.objs.size → Q (some (.ref s.heap.objs.size)) { s with heap := m, toks := tk }) :
    wpAny (model prog w) A (pyNext (.ref z)) Q E s := by
  have lt : ∀ {c o}, s.heap.get? c = some o → c < s.heap.objs.size := fun e => Heap.lt_size e
  have nold : ∀ c o, h0.get? c = some o → c ∉ [z, TO, i1, i2, S] := fun c o e hc => absurd (Nat.lt_of_lt_of_le (Heap.lt_size e) (nz c hc)) (Nat.lt_irrefl _)
  obtain ⟨o1, e1⟩ := D1.live _ _ L.s1
  obtain ⟨o2, e2⟩ := D2.live _ _ L.s2
  have nTI : TI ∉ [z, i1, i2] := by simp [Sp.TIz, Sp.TIi1, Sp.TIi2]
  simp at nS
  obtain ⟨nS1, nS2, nS3, nS4, nS5⟩ := nS
  rcases L.zz with ⟨h1, hz, a, bb, hO⟩ | ⟨T, bb, o, hz, hT, nT⟩
  · have nw : s.heap.objs.size ∉ [z, TO, i1, i2, S] := by
      simp
      exact ⟨Nat.ne_of_gt (lt hz), Nat.ne_of_gt (lt hO), Nat.ne_of_gt (lt e1), Nat.ne_of_gt (lt e2), Nat.ne_of_gt (lt hS)⟩
    refine wpAny_pyNext_zipD2_item Sp D1 D2 hz L.ti hO L.s1 L.s2 l1 l2 fun x1 x2 m tk p1 p2 hz' hO' t1 t2 ht hsz kp => ?_
    have up : ∀ c o, c ∉ [z, TO, i1, i2, S] → s.heap.get? c = some o → m.get? c = some o := fun c o hc e => by
      simp at hc
      exact kp c o hc.1 hc.2.1 hc.2.2.1 hc.2.2.2.1 e
    refine k m tk ⟨fun c o e => up c o (nold c o e) (L.base c o e), .inr ⟨_, false, _, hz', ht, nw⟩, ⟨_, hO'⟩, kp _ _ Sp.TIz Sp.TITO Sp.TIi1 Sp.TIi2 L.ti, t1, t2, by rw [Array.size_push, L.sz], zl_push ht p1 p2 hz0 nw L.sz fun j hj => ?_⟩ (kp _ _ nS1 nS3 nS4 nS5 hS) (by omega)
    obtain ⟨T', x', y', a1, a2, a3, a4, a5, a6⟩ := L.prs j hj
    exact ⟨T', x', y', a1, up _ _ a6 a2, a3, a4, a5, a6⟩
  · obtain ⟨oO, hO⟩ := L.to
    have nw : s.heap.objs.size ∉ [z, TO, i1, i2, S] := by
      simp
      exact ⟨Nat.ne_of_gt (lt hz), Nat.ne_of_gt (lt hO), Nat.ne_of_gt (lt e1), Nat.ne_of_gt (lt e2), Nat.ne_of_gt (lt hS)⟩
    refine zl_next Sp D1 D2 hz hT L.ti L.s1 L.s2 l1 l2 fun x1 x2 m tk p1 p2 hz' t1 t2 ht kp hsz => ?_
    have up : ∀ c o, c ∉ [z, TO, i1, i2, S] → s.heap.get? c = some o → m.get? c = some o := fun c o hc e => by
      simp at hc
      exact kp c o hc.1 hc.2.2.1 hc.2.2.2.1 e
    refine k m tk ⟨fun c o e => up c o (nold c o e) (L.base c o e), .inr ⟨T, true, o, hz', up _ _ nT hT, nT⟩, ⟨oO, kp _ _ Sp.TOz Sp.Ti1 Sp.Ti2 hO⟩, kp _ _ Sp.TIz Sp.TIi1 Sp.TIi2 L.ti, t1, t2, by rw [Array.size_push, L.sz], zl_push ht p1 p2 hz0 nw L.sz fun j hj => ?_⟩ (kp _ _ nS1 nS4 nS5 hS) (by omega)
    obtain ⟨T', x', y', a1, a2, a3, a4, a5, a6⟩ := L.prs j hj
    exact ⟨T', x', y', a1, up _ _ a6 a2, a3, a4, a5, a6⟩
/-- at the end -/
theorem zl_last {Q : Option Value → Shared → Prop} {oS : Obj} (Sp : ZipSep2 z TI TO i1 i2 fp1 fp2) (D1 : Draws prog w A.in1 i1 fp1 n1 P1 St1) (D2 : Draws prog w A.in1 i2 fp2 n2 P2 St2)
    (nz : ∀ c ∈ [z, TO, i1, i2, S], h0.objs.size ≤ c) (nS : S ∉ [z, TI, TO, i1, i2]) (L : ZL h0 z TI TO i1 i2 S P1 P2 St1 St2 acc i s.heap) (hS : s.heap.get? S = some oS) (l1 : i ≤ n1) (l2 : i ≤ n2) (he : i = n1 ∨ i = n2)
    (k : ∀ m tk, (∀ c o, h0.get? c = some o → m.get? c = some o) → (∀ j, j < i → ∃ T x y, acc[j]? = some (.ref T) ∧ IsTupOf2 m T x y ∧ P1 j x ∧ P2 j y ∧ h0.objs.size ≤ T ∧ T ∉ [z, TO, i1, i2, S]) → m.get? S = some oS → Q none { s with heap := m, toks := tk }) :
    wpAny (model prog w) A (pyNext (.ref z)) Q E s := by
  have nold : ∀ c o, h0.get? c = some o → c ∉ [z, TO, i1, i2, S] := fun c o e hc => absurd (Nat.lt_of_lt_of_le (Heap.lt_size e) (nz c hc)) (Nat.lt_irrefl _)
  simp at nS
  obtain ⟨nS1, nS2, nS3, nS4, nS5⟩ := nS
  have fin : ∀ m, (∀ c o, c ≠ z → c ≠ TO → c ≠ i1 → c ≠ i2 → s.heap.get? c = some o → m.get? c = some o) → (∀ c o, h0.get? c = some o → m.get? c = some o) ∧ (∀ j, j < i → ∃ T x y, acc[j]? = some (.ref T) ∧ IsTupOf2 m T x y ∧ P1 j x ∧ P2 j y ∧ h0.objs.size ≤ T ∧ T ∉ [z, TO, i1, i2, S]) ∧ m.get? S = some oS := fun m kp => by
    have up : ∀ c o, c ∉ [z, TO, i1, i2, S] → s.heap.get? c = some o → m.get? c = some o := fun c o hc e => by
      simp at hc
      exact kp c o hc.1 hc.2.1 hc.2.2.1 hc.2.2.2.1 e
    refine ⟨fun c o e => up c o (nold c o e) (L.base c o e), fun j hj => ?_, kp _ _ nS1 nS3 nS4 nS5 hS⟩
    obtain ⟨T', x', y', a1, a2, a3, a4, a5, a6⟩ := L.prs j hj
    exact ⟨T', x', y', a1, up _ _ a6 a2, a3, a4, a5, a6⟩
  rcases L.zz with ⟨h1, hz, a, bb, hO⟩ | ⟨T, bb, o, hz, hT, nT⟩
  · refine wpAny_pyNext_zipD2_end Sp D1 D2 hz L.ti hO L.s1 L.s2 l1 l2 he fun m tk kp => ?_
    obtain ⟨a, b, c⟩ := fin m kp
    exact k m tk a b c
  · refine zl_stop Sp D1 D2 hz hT L.ti L.s1 L.s2 l1 l2 he fun m tk kp => ?_
    obtain ⟨a, b, c⟩ := fin m fun c o c1 _ c3 c4 e => kp c o c1 c3 c4 e
    exact k m tk a b c
theorem zl_loop {R : Result → Shared → Prop} {g : Array GenState} (res : Value) (Sp : ZipSep2 z TI TO i1 i2 fp1 fp2) (D1 : Draws prog w A.in1.in1 i1 fp1 n1 P1 St1) (D2 : Draws prog w A.in1.in1 i2 fp2 n2 P2 St2)
    (nz : ∀ c ∈ [z, TO, i1, i2, S], h0.objs.size ≤ c) (nS : S ∉ [z, TI, TO, i1, i2]) (nf1 : S ∉ fp1) (nf2 : S ∉ fp2) (hn : min n1 n2 ≤ sizeLine) :
    ∀ (k i : Nat) (s : Shared) (acc : Array Value) (c : Nat), min n1 n2 - i = k → i ≤ min n1 n2 → ZL h0 z TI TO i1 i2 S P1 P2 St1 St2 acc i s.heap → h0.objs.size ≤ s.heap.objs.size → s.heap.get? S = some { cls := .type "list", dict := none, data := .seq acc c, slots := #[] } →
    (∀ m tk acc' c', (∀ c o, h0.get? c = some o → m.get? c = some o) → m.get? S = some { cls := .type "list", dict := none, data := .seq acc' c', slots := #[] } → acc'.size = min n1 n2 →
      (∀ j, j < min n1 n2 → ∃ T x y, acc'[j]? = some (.ref T) ∧ IsTupOf2 m T x y ∧ P1 j x ∧ P2 j y ∧ h0.objs.size ≤ T ∧ T ∉ [z, TO, i1, i2, S]) → R (.ok (.ret res)) { s with heap := m, toks := tk }) →
    codeAny (model prog w) A (.builtin "list.extend.loop" ⟨[.ref S, .ref z, res], []⟩) R s := fun k => by
  induction k with
  | zero =>
    intro i s acc c hk hi L hz hS hR
    have e : i = min n1 n2 := by omega
    refine codeAny_builtin F.entry_extend_loop ?_
    rw [Around.under_plainId F.plain_extend_loop _]
    show wpAny _ A.in1 (pyNext (.ref z) >>= _) _ _ s
    refine wpAny_bind (zl_last Sp D1 D2 nz nS L hS (by omega) (by omega) (by omega) fun m tk a p q => wpAny_pure ?_)
    rw [e] at p
    exact hR m tk acc c a q (by rw [L.sz, e]) p
  | succ k ih =>
    intro i s acc c hk hi L hz hS hR
    refine codeAny_builtin F.entry_extend_loop ?_
    rw [Around.under_plainId F.plain_extend_loop _]
    show wpAny _ A.in1 (pyNext (.ref z) >>= _) _ _ s
    refine wpAny_bind (zl_step Sp D1 D2 nz nS L hz hS (by omega) (by omega) fun m tk L' hS' hz' => ?_)
    show wpAny _ A.in1 (updateSeq S (·.push _) >>= _) _ _ _
    refine wpAny_bind (wpAny_updateSeq hS' rfl (wpAny_pure ⟨plainId_quiet F.plain_extend_loop _, ?_⟩) (by rw [L.sz]; omega) (by show (acc.push _).size ≤ sizeLine + 1; rw [Array.size_push, L.sz]; omega))
    have up : ∀ c o, c ≠ S → m.get? c = some o → (m.update S (Obj.mapSeq (·.push (.ref s.heap.objs.size)))).get? c = some o := fun c o hc e => (Heap.get?_update_other _ _ (Ne.symm hc)).trans e
    refine ih (i + 1) _ _ _ (by omega) (by omega) ?_ ?_ (Heap.get?_update_self _ hS' rfl) fun m2 tk2 acc' c' a b d e => hR m2 tk2 acc' c' a b d e
    · have nold : ∀ c o, h0.get? c = some o → c ≠ S := fun c o e hc => absurd (Nat.lt_of_lt_of_le (Heap.lt_size e) (nz c (by simp [hc]))) (Nat.lt_irrefl _)
      have nS' := nS
      simp at nS'
      obtain ⟨nS1, nS2, nS3, nS4, nS5⟩ := nS'
      have tS : ∀ T, T ∉ [z, TO, i1, i2, S] → T ≠ S := fun T h e => h (by simp [e])
      refine ⟨fun c o e => up c o (nold c o e) (L'.base c o e), ?_, L'.to.imp fun o e => up _ _ (Ne.symm nS3) e, up _ _ (Ne.symm nS2) L'.ti, D1.frame _ _ _ L'.s1 fun b hb o e => up b o (fun q => nf1 (q ▸ hb)) e, D2.frame _ _ _ L'.s2 fun b hb o e => up b o (fun q => nf2 (q ▸ hb)) e, L'.sz, fun j hj => ?_⟩
      · rcases L'.zz with ⟨y, _⟩ | ⟨T, b, o, a1, a2, a3⟩
        · omega
        · exact .inr ⟨T, b, o, up _ _ (Ne.symm nS1) a1, up _ _ (tS T a3) a2, a3⟩
      · obtain ⟨T, x, y, a1, a2, a3, a4, a5, a6⟩ := L'.prs j hj
        exact ⟨T, x, y, a1, up _ _ (tS T a6) a2, a3, a4, a5, a6⟩
    · show h0.objs.size ≤ (m.update S _).objs.size
      rw [Heap.size_update]
      exact hz'
end
end PySem

/-! list(zip(a, b)): the call. -/
namespace PySem
open Sem (wp)
namespace F
theorem zl_no_len : typeLookup (.type "zip") "__len__" = pure none := by rw [typeLookup_type, builtinLookup_eq_fast]; kernel_rfl
theorem zl_no_hint : typeLookup (.type "zip") "__length_hint__" = pure none := by rw [typeLookup_type, builtinLookup_eq_fast]; kernel_rfl
end F
section
variable {prog : Program} {w : World} {A : Around} {E : Value → Shared → Prop} {s : Shared} {h0 : Heap} {z TI TO T i1 i2 S : Addr} {fp1 fp2 : List Addr} {n1 n2 i : Nat} {P1 P2 : Nat → Value → Prop} {St1 St2 : Nat → Heap → Prop} {acc : Array Value} {b : Bool} {h m : Heap}
/-- what the list holds -/
def ZOut (h0 : Heap) (P1 P2 : Nat → Value → Prop) (n : Nat) (L : List Addr) (m : Heap) (acc : Array Value) : Prop :=
  acc.size = n ∧ ∀ j, j < n → ∃ T x y, acc[j]? = some (.ref T) ∧ IsTupOf2 m T x y ∧ P1 j x ∧ P2 j y ∧ h0.objs.size ≤ T ∧ T ∉ L
theorem ZL.over (L : ZL h0 z TI TO i1 i2 S P1 P2 St1 St2 acc i h) (D1 : Draws prog w A i1 fp1 n1 P1 St1) (D2 : Draws prog w A i2 fp2 n2 P2 St2) (k : ∀ c o, h.get? c = some o → m.get? c = some o) : ZL h0 z TI TO i1 i2 S P1 P2 St1 St2 acc i m := by
  refine ⟨fun c o e => k c o (L.base c o e), ?_, L.to.imp fun o e => k _ _ e, k _ _ L.ti, D1.frame _ _ _ L.s1 fun b _ o e => k b o e, D2.frame _ _ _ L.s2 fun b _ o e => k b o e, L.sz, fun j hj => ?_⟩
  · rcases L.zz with ⟨e, a, x, y, c⟩ | ⟨T, b, o, a1, a2, a3⟩
    · exact .inl ⟨e, k _ _ a, x, y, k _ _ c⟩
    · exact .inr ⟨T, b, o, k _ _ a1, k _ _ a2, a3⟩
  · obtain ⟨T, x, y, a1, a2, a3, a4, a5, a6⟩ := L.prs j hj
    exact ⟨T, x, y, a1, k _ _ a2, a3, a4, a5, a6⟩
theorem ZL.overS (L : ZL h0 z TI TO i1 i2 S P1 P2 St1 St2 acc 0 h) (D1 : Draws prog w A i1 fp1 n1 P1 St1) (D2 : Draws prog w A i2 fp2 n2 P2 St2) (nS : S ∉ [z, TI, TO, i1, i2]) (nf1 : S ∉ fp1) (nf2 : S ∉ fp2) (n0 : h0.objs.size ≤ S) (k : ∀ c o, c ≠ S → h.get? c = some o → m.get? c = some o) : ZL h0 z TI TO i1 i2 S P1 P2 St1 St2 acc 0 m := by
  simp at nS
  obtain ⟨nS1, nS2, nS3, nS4, nS5⟩ := nS
  refine ⟨fun c o e => k c o (fun q => absurd (Nat.lt_of_lt_of_le (Heap.lt_size e) (by rw [q]; exact n0)) (Nat.lt_irrefl _)) (L.base c o e), ?_, L.to.imp fun o e => k _ _ (Ne.symm nS3) e, k _ _ (Ne.symm nS2) L.ti, D1.frame _ _ _ L.s1 fun b hb o e => k b o (fun q => nf1 (q ▸ hb)) e, D2.frame _ _ _ L.s2 fun b hb o e => k b o (fun q => nf2 (q ▸ hb)) e, L.sz, fun j hj => absurd hj (Nat.not_lt_zero j)⟩
  rcases L.zz with ⟨e, a, x, y, c⟩ | ⟨T, b, o, a1, a2, a3⟩
  · exact .inl ⟨e, k _ _ (Ne.symm nS1) a, x, y, k _ _ (Ne.symm nS3) c⟩
  · exact .inr ⟨T, b, o, k _ _ (Ne.symm nS1) a1, k _ _ (fun q => a3 (by simp [q])) a2, a3⟩
theorem zl_ext {R : Result → Shared → Prop} (res : Value) {c₀ : Nat} (Sp : ZipSep2 z TI TO i1 i2 fp1 fp2) (D1 : Draws prog w A.in1.in1 i1 fp1 n1 P1 St1) (D2 : Draws prog w A.in1.in1 i2 fp2 n2 P2 St2)
    (nz : ∀ c ∈ [z, TO, i1, i2, S], h0.objs.size ≤ c) (nS : S ∉ [z, TI, TO, i1, i2]) (nf1 : S ∉ fp1) (nf2 : S ∉ fp2) (hn : min n1 n2 ≤ sizeLine) (L : ZL h0 z TI TO i1 i2 S P1 P2 St1 St2 #[] 0 s.heap) (h0z : h0.objs.size ≤ s.heap.objs.size)
    (hz : IsZip s.heap z TI TO .none) (hS : s.heap.get? S = some { cls := .type "list", data := .seq #[] c₀ })
    (hR : ∀ m tk acc' c', (∀ c o, h0.get? c = some o → m.get? c = some o) → m.get? S = some { cls := .type "list", dict := none, data := .seq acc' c', slots := #[] } → ZOut h0 P1 P2 (min n1 n2) [z, TO, i1, i2, S] m acc' → R (.ok (.ret res)) { s with heap := m, toks := tk }) :
    wpAny (model prog w) A.in1 (Builtin.List.listExtendWith (.ref S) (.ref z) res)
      (fun fin s' => match fin with | .done f => R (.ok f) s' | .again c' => c'.quiet = true ∧ codeAny (model prog w) A c' R s') (fun e s' => R (.error e) s') s := by
  have ty : s.TypeIs (.ref z) "zip" := ⟨_, hz, rfl⟩
  have nSz : S ≠ z := fun e => nS (by simp [e])
  unfold Builtin.List.listExtendWith
  refine wpAny_bind (wpAny_typeOf ty ?_)
  have a1 : Builtin.List.listSameRef (.ref S) (.ref z) = false := by simp [Builtin.List.listSameRef, nSz]
  have a2 : (Value.type "zip" == Value.type "list") = false := by decide
  have a3 : (Value.type "zip" == Value.type "tuple") = false := by decide
  simp only [a1, a2, a3, Bool.or_false, Bool.false_eq_true, if_false]
  refine wpAny_bind (wpAny_pyIter_zip hz ?_)
  refine wpAny_bind (wpAny_holding ?_)
  unfold Builtin.List.listLengthHint
  refine wpAny_bind (wpAny_specialOf ty F.zl_no_len ?_)
  show wpAny _ A.in1 (specialOf (Value.ref z) (Str.ofString "__length_hint__") >>= _) _ _ _
  refine wpAny_bind (wpAny_specialOf ty F.zl_no_hint ?_)
  refine wpAny_pure ?_
  show wpAny _ A.in1 (rule "list.extend.makes-room" >>= fun _ => Builtin.List.listTouch (.ref S) >>= fun _ => again (.builtin "list.extend.loop" ⟨[.ref S, .ref z, res], []⟩)) _ _ _
  refine wpAny_bind (wpAny_rule (wpAny_bind ?_))
  show wpAny _ A.in1 (updateSeq S (·.push .none) >>= fun _ => updateSeq S (·.pop)) _ _ _
  refine wpAny_bind (wpAny_updateSeq hS rfl ?_)
  have hS2 := Heap.get?_update_self (Obj.mapSeq (·.push Value.none)) hS rfl
  refine wpAny_updateSeq (hz := by seq_fits) hS2 rfl ?_
  have hS3 := Heap.get?_update_self (Obj.mapSeq (·.pop)) hS2 rfl
  have up : ∀ c o, c ≠ S → s.heap.get? c = some o → ((s.heap.update S (Obj.mapSeq (·.push Value.none))).update S (Obj.mapSeq (·.pop))).get? c = some o := fun c o hc e => by
    rw [Heap.get?_update_other _ _ (Ne.symm hc), Heap.get?_update_other _ _ (Ne.symm hc)]; exact e
  exact wpAny_pure ⟨plainId_quiet F.plain_extend_loop _, zl_loop (g := #[]) res Sp D1 D2 nz nS nf1 nf2 hn _ 0 _ #[] _ rfl (Nat.zero_le _) (L.overS D1 D2 nS nf1 nf2 (nz S (by simp)) up) (by show h0.objs.size ≤ ((s.heap.update S _).update S _).objs.size; rw [Heap.size_update, Heap.size_update]; exact h0z) hS3
    fun m tk acc' c' b d e p => hR m tk acc' c' b d ⟨e, p⟩⟩
theorem zl_call {Q : Value → Shared → Prop} (Sp : ZipSep2 z TI TO i1 i2 fp1 fp2) (D1 : Draws prog w A.in1.in1.in1 i1 fp1 n1 P1 St1) (D2 : Draws prog w A.in1.in1.in1 i2 fp2 n2 P2 St2)
    (nz : ∀ c ∈ [z, TO, i1, i2], h0.objs.size ≤ c) (nf1 : ∀ c ∈ fp1, c < s.heap.objs.size) (nf2 : ∀ c ∈ fp2, c < s.heap.objs.size) (hn : min n1 n2 ≤ sizeLine) (base : ∀ c o, h0.get? c = some o → s.heap.get? c = some o) (h0z : h0.objs.size ≤ s.heap.objs.size)
    (hz : IsZip s.heap z TI TO .none) (hTI : IsTupOf2 s.heap TI (.ref i1) (.ref i2)) {a b : Value} (hTO : IsTupOf2 s.heap TO a b) (st1 : St1 0 s.heap) (st2 : St2 0 s.heap)
    (k : ∀ m tk acc c S, (∀ c o, h0.get? c = some o → m.get? c = some o) → h0.objs.size ≤ S → m.get? S = some { cls := .type "list", dict := none, data := .seq acc c, slots := #[] } → ZOut h0 P1 P2 (min n1 n2) [z, TO, i1, i2, S] m acc → Q (.ref S) { s with heap := m, toks := tk }) :
    wpAny (model prog w) A (call (.type "list") [.ref z]) Q E s := by
  have lt : ∀ {c o}, s.heap.get? c = some o → c < s.heap.objs.size := fun e => Heap.lt_size e
  refine callType_codes (Q₁ := fun x s₁ => x = .ref s.heap.objs.size ∧ s₁ = { s with heap := s.heap.push { cls := .type "list", data := .seq #[] } }) F.called_list (F.typeCall_list_1 _) F.entry_list_init (code_list_new _ ⟨rfl, rfl⟩) fun x s₁ e => ?_
  obtain ⟨rfl, rfl⟩ := e
  have hS : (s.heap.push { cls := .type "list", data := .seq #[] }).get? s.heap.objs.size = some { cls := .type "list", data := .seq #[] } := Heap.get?_push_size _ rfl
  have pu : ∀ c o, s.heap.get? c = some o → (s.heap.push { cls := .type "list", data := .seq #[] }).get? c = some o := fun c o e => Heap.get?_push_of_some _ e
  refine ⟨⟨_, hS, rfl⟩, F.args_list_init_2 _ _, ?_⟩
  show wpAny _ _ (do let old ← Builtin.List.listItems (.ref s.heap.objs.size); Builtin.List.listUpdate (.ref s.heap.objs.size) (fun _ => #[]); letGo old.toList.reverse; Builtin.List.listExtendWith (.ref s.heap.objs.size) (.ref z) .none) _ _ _
  refine wpAny_bind ?_
  unfold Builtin.List.listItems
  refine wpAny_bind (wpAny_seqItems hS rfl (wpAny_pure ?_))
  show wpAny _ _ (updateSeq s.heap.objs.size (fun _ => #[]) >>= fun _ => letGo (#[] : Array Value).toList.reverse >>= fun _ => Builtin.List.listExtendWith (.ref s.heap.objs.size) (.ref z) .none) _ _ _
  refine wpAny_bind (wpAny_updateSeq hS rfl ?_)
  have hS2 := Heap.get?_update_self (Obj.mapSeq (fun _ => (#[] : Array Value))) hS rfl
  have up : ∀ c o, s.heap.get? c = some o → ((s.heap.push { cls := .type "list", data := .seq #[] }).update s.heap.objs.size (Obj.mapSeq (fun _ => (#[] : Array Value)))).get? c = some o := fun c o e =>
    (Heap.get?_update_other _ _ (Nat.ne_of_gt (lt e))).trans (pu c o e)
  obtain ⟨o1, e1⟩ := D1.live _ _ st1
  obtain ⟨o2, e2⟩ := D2.live _ _ st2
  refine wpAny_bind (wpAny_letGo ?_)
  refine zl_ext .none Sp D1 D2 (fun c hc => ?_) ?_ (fun q => Nat.lt_irrefl _ (nf1 _ q)) (fun q => Nat.lt_irrefl _ (nf2 _ q)) hn
    ⟨fun c o e => up c o (base c o e), .inl ⟨rfl, up _ _ hz, a, b, up _ _ hTO⟩, ⟨_, up _ _ hTO⟩, up _ _ hTI, D1.frame _ _ _ st1 fun b _ o e => up b o e, D2.frame _ _ _ st2 fun b _ o e => up b o e, rfl, fun j hj => absurd hj (Nat.not_lt_zero j)⟩ ?_ (up _ _ hz) hS2 fun m tk acc' c' bs hm out => ?_
  · rcases (by simpa using hc : c = z ∨ c = TO ∨ c = i1 ∨ c = i2 ∨ c = s.heap.objs.size) with q | q | q | q | q
    · exact nz c (by simp [q])
    · exact nz c (by simp [q])
    · exact nz c (by simp [q])
    · exact nz c (by simp [q])
    · rw [q]; exact h0z
  · simp
    exact ⟨Nat.ne_of_gt (lt hz), Nat.ne_of_gt (lt hTI), Nat.ne_of_gt (lt hTO), Nat.ne_of_gt (lt e1), Nat.ne_of_gt (lt e2)⟩
  · show h0.objs.size ≤ ((s.heap.push _).update _ _).objs.size
    rw [Heap.size_update, Heap.size_push]
    omega
  · exact ⟨rfl, k m tk acc' c' _ bs h0z hm out⟩
end
end PySem

/-! list(zip(a, b)) as data. -/
namespace KM
open PySem PySem.Spec PyProof.Rows L2 Evl KP
section
variable {X : Cx} {pins : List (Addr × Obj)} {σ : L2.St} {H : Hp} {s : Shared} {m : Heap} {sc : Sc} {vs : List V}
/-- many new objects at once -/
def big (H G : Hp) (n : Nat) : Hp := fun a => if n ≤ a then G a else H a
theorem big_old {H G : Hp} {n : Nat} {a : Addr} (h : a < n) : big H G n a = H a := if_neg (by show ¬ n ≤ a; exact Nat.not_le_of_lt h)
theorem big_new {H G : Hp} {n : Nat} {a : Addr} (h : n ≤ a) : big H G n a = G a := if_pos h
theorem Inv.adopt {t' : Nat} (I : Inv X pins σ H s) (k : ∀ c o, s.heap.get? c = some o → m.get? c = some o) (G : Hp) (new : ∀ a u, s.heap.objs.size ≤ a → G a = some u → ObjOk X.prog X.w (big H G s.heap.objs.size) m a u) : Inv X pins σ (big H G s.heap.objs.size) { s with heap := m, toks := t' } := by
  have lt : ∀ {a u}, H a = some u → a < s.heap.objs.size := fun {a u} e => Nat.lt_of_not_le fun z => by rw [I.hok.fresh z] at e; cases e
  have up : ∀ {a u}, H a = some u → big H G s.heap.objs.size a = some u := fun e => (big_old (lt e)).trans e
  refine I.step (g' := s.gens) (d' := s.drawn) (ch := []) (fun b hb => nomatch hb) (fun b o _ _ _ e _ => k b o e) (fun b o _ _ _ e _ => ⟨o.slots, k b o e⟩) (fun b o _ e n => (big_old (Heap.lt_size e)).trans n) (fun b o _ e => ⟨o, k b o e⟩) (fun b xs e => up e) (fun b o u e => up e) (fun b ps e => ⟨#[], by rw [up e]; simp⟩) (fun m' hm => ?_) (fun b u e => ?_) I.bare
  · obtain ⟨o, es, ep, ho, r⟩ := hm
    exact ⟨o, es, ep, k _ o ho, r⟩
  · by_cases hb : s.heap.objs.size ≤ b
    · rw [big_new hb] at e
      exact new b u hb e
    · rw [big_old (Nat.lt_of_not_le hb)] at e
      exact (I.hok b u e).stay (fun c v _ q => k c v q) (fun c q => up q) fun c xs q => up q
/-- a source's draws, told by the heap -/
theorem Sc.raw {u : Value} (I : Inv X pins σ H s) (r : RelV sc.src u) (a : sc.has X.K H vs) : ∃ t G, Begins u (sc.ob t) G ∧ G s.heap ∧ ∃ (fp : List Addr) (P : Nat → Value → Prop), (∀ b ∈ fp, b < s.heap.objs.size) ∧ (∀ i x, i < vs.length → P i x → ∃ v, vs[i]? = some v ∧ RelV v x) ∧
    ∀ it, s.heap.objs.size ≤ it → ∃ St, (∀ A : Around, A.handled = none → Draws X.prog X.w A it (it :: fp) vs.length P St) ∧ ∀ h', (∀ b o, s.heap.get? b = some o → h'.get? b = some o) → h'.get? it = some (sc.ob t) → St 0 h' := by
  cases sc with
  | li p =>
    cases r
    obtain ⟨its, rv, q, hz⟩ := I.list a
    have hl := rv.length
    have es : its.toArray.size = vs.length := by simp [hl]
    have lp : p < s.heap.objs.size := q.lt
    refine ⟨0, _, begins_list p its.toArray, q.isList, [p], fun i v => its.toArray[i]? = some v, fun b hb => by rw [List.mem_singleton.mp hb]; exact lp, fun i x hi e => ?_, fun it hit => ⟨fun i h => h.IsListIter it p i ∧ h.IsList p its.toArray, fun A hh => ?_, fun h' k e => ⟨⟨_, e, rfl, rfl⟩, q.isList.at fun o e => k p o e⟩⟩⟩
    · obtain ⟨v, hv⟩ := lt_get hi
      obtain ⟨u, hu, ru⟩ := rv.get hv
      have : its[i]? = some x := by simpa using e
      rw [hu] at this; cases this
      exact ⟨v, hv, ru⟩
    · have D := Draws.list (prog := X.prog) (w := X.w) hh it p (fun z => absurd hit (by rw [← z]; exact Nat.not_le_of_lt lp)) its.toArray
      rwa [es] at D
  | tu p =>
    cases r
    obtain ⟨its, rv, q, hz⟩ := I.tuple a
    have hl := rv.length
    have es : its.toArray.size = vs.length := by simp [hl]
    have lp : p < s.heap.objs.size := by obtain ⟨o, e, _⟩ := id q; exact Heap.lt_size e
    refine ⟨0, _, begins_tuple p its.toArray, q, [p], fun i v => its.toArray[i]? = some v, fun b hb => by rw [List.mem_singleton.mp hb]; exact lp, fun i x hi e => ?_, fun it hit => ⟨fun i h => h.IsTupleIter it p i ∧ h.IsTuple p its.toArray, fun A hh => ?_, fun h' k e => ⟨⟨_, e, rfl, rfl⟩, Heap.IsTuple.at q fun o e => k p o e⟩⟩⟩
    · obtain ⟨v, hv⟩ := lt_get hi
      obtain ⟨u, hu, ru⟩ := rv.get hv
      have : its[i]? = some x := by simpa using e
      rw [hu] at this; cases this
      exact ⟨v, hv, ru⟩
    · have D := Draws.tuple (prog := X.prog) (w := X.w) hh it p (fun z => absurd hit (by rw [← z]; exact Nat.not_le_of_lt lp)) its.toArray
      rwa [es] at D
  | sg z =>
    obtain ⟨t, rfl⟩ := r
    cases (show vs = zV z from a)
    have es : z.cps.size = (zV z).length := by simp [zV]
    refine ⟨t, _, begins_text z t, trivial, [], fun i v => ∃ c u, z.cps[i]? = some c ∧ v = .str ⟨#[c]⟩ u, (fun b hb => nomatch hb), fun i x hi e => ?_, fun it hit => ⟨fun i h => h.IsStrIter it (strIterType z) z t i, fun A hh => ?_, fun h' k e => ⟨_, e, rfl, rfl⟩⟩⟩
    · obtain ⟨c, u, hc, rfl⟩ := e
      refine ⟨.str ⟨#[c]⟩, ?_, u, rfl⟩
      unfold zV
      rw [List.getElem?_map, Array.getElem?_toList, hc]; rfl
    · have D := Draws.text (prog := X.prog) (w := X.w) hh it z t
      rwa [es] at D
def tLstZip (K : PySem.W.Frag) (ta : TA) : TE := fun σ H Q => ta σ H fun ws H1 => ∃ sc1 xs sc2 ys, ws = [Sc.src sc1, Sc.src sc2] ∧ sc1.has K H1 xs ∧ sc2.has K H1 ys ∧ min xs.length ys.length ≤ sizeLine ∧
  ∀ (S : Addr) (Ts : List Addr) (H2 : Hp), Evl.Ex H1 H2 → H1 S = none → H2 S = some (.lst (Ts.map V.ref)) → Ts.length = min xs.length ys.length → (∀ (i : Nat) (T : Addr), Ts[i]? = some T → ∃ x y, xs[i]? = some x ∧ ys[i]? = some y ∧ H1 T = none ∧ H2 T = some (.tup [x, y])) → Q (.ref S) H2
theorem refs_vals : ∀ Ts : List Addr, Vals (Ts.map V.ref) (Ts.map Value.ref)
  | [] => .nil
  | T :: Ts => .cons rfl (refs_vals Ts)
open Classical in
theorem zip_done {xs ys : List V} {P1 P2 : Nat → Value → Prop} {Lx : List Addr} {acc : Array Value} {c : Nat} {S : Addr} {tk : Nat} {Q : VK} (I : Inv X pins σ H s) (k : ∀ c o, s.heap.get? c = some o → m.get? c = some o)
    (hS : m.get? S = some { cls := .type "list", dict := none, data := .seq acc c, slots := #[] }) (nS : s.heap.objs.size ≤ S) (hn : min xs.length ys.length ≤ sizeLine) (hL : S ∈ Lx)
    (pv1 : ∀ j u, j < min xs.length ys.length → P1 j u → ∃ v, xs[j]? = some v ∧ RelV v u) (pv2 : ∀ j u, j < min xs.length ys.length → P2 j u → ∃ v, ys[j]? = some v ∧ RelV v u)
    (out : ZOut s.heap P1 P2 (min xs.length ys.length) Lx m acc)
    (q : ∀ (S : Addr) (Ts : List Addr) (H2 : Hp), Evl.Ex H H2 → H S = none → H2 S = some (.lst (Ts.map V.ref)) → Ts.length = min xs.length ys.length → (∀ (i : Nat) (T : Addr), Ts[i]? = some T → ∃ x y, xs[i]? = some x ∧ ys[i]? = some y ∧ H T = none ∧ H2 T = some (.tup [x, y])) → Q (.ref S) H2) :
    EP X pins σ Q (.ref S) { s with heap := m, toks := tk } := by
  obtain ⟨sa, pr⟩ := out
  let n := min xs.length ys.length
  let Ts : List Addr := acc.toList.map fun u => match u with | .ref a => a | _ => 0
  have hT : ∀ j, j < n → ∃ T u v x y, acc[j]? = some (.ref T) ∧ IsTupOf2 m T u v ∧ xs[j]? = some x ∧ ys[j]? = some y ∧ RelV x u ∧ RelV y v ∧ s.heap.objs.size ≤ T ∧ T ≠ S := fun j hj => by
    obtain ⟨T, u, v, a, b, c, d, e, f⟩ := pr j hj
    obtain ⟨x, hx, rx⟩ := pv1 j u hj c
    obtain ⟨y, hy, ry⟩ := pv2 j v hj d
    exact ⟨T, u, v, x, y, a, b, hx, hy, rx, ry, e, fun z => f (by rw [z]; exact hL)⟩
  have acT : ∀ {j : Nat} {T : Addr}, acc[j]? = some (.ref T) → Ts[j]? = some T := fun {j T} e => by
    show (acc.toList.map _)[j]? = _
    rw [List.getElem?_map, Array.getElem?_toList, e]; rfl
  have Tac : ∀ {j : Nat} {T : Addr}, Ts[j]? = some T → j < n ∧ acc[j]? = some (.ref T) := fun {j T} e => by
    have hl : Ts.length = n := by show (acc.toList.map _).length = _; rw [List.length_map, Array.length_toList, sa]
    have hj : j < n := by rw [← hl]; exact (List.getElem?_eq_some_iff.mp e).1
    obtain ⟨T', u, v, x, y, a, _⟩ := hT j hj
    have := acT a
    rw [e] at this; cases this
    exact ⟨hj, a⟩
  let G : Hp := fun a => if a = S then some (.lst (Ts.map V.ref)) else if h : ∃ x y, ∃ j : Nat, acc[j]? = some (.ref a) ∧ xs[j]? = some x ∧ ys[j]? = some y then some (.tup [h.choose, h.choose_spec.choose]) else none
  have gT : ∀ {j T x y}, Ts[j]? = some T → xs[j]? = some x → ys[j]? = some y → G T = some (.tup [x, y]) := fun {j T x y} e hx hy => by
    obtain ⟨hj, a⟩ := Tac e
    obtain ⟨T', u, v, x', y', b1, b2, b3, b4, b5, b6, b7, b8⟩ := hT j hj
    rw [a] at b1; cases b1
    rw [hx] at b3; cases b3
    rw [hy] at b4; cases b4
    have hx : ∃ x y, ∃ j : Nat, acc[j]? = some (.ref T) ∧ xs[j]? = some x ∧ ys[j]? = some y := ⟨x, y, j, a, hx, hy⟩
    show (if T = S then _ else if h : ∃ x y, ∃ j : Nat, acc[j]? = some (.ref T) ∧ xs[j]? = some x ∧ ys[j]? = some y then some (HO.tup [h.choose, h.choose_spec.choose]) else none) = _
    rw [if_neg b8, dif_pos hx]
    obtain ⟨i, c1, c2, c3⟩ := hx.choose_spec.choose_spec
    obtain ⟨hi, _⟩ := Tac (acT c1)
    obtain ⟨T2, u2, v2, x2, y2, d1, d2, d3, d4, d5, d6, _⟩ := hT i hi
    rw [c1] at d1; cases d1
    rw [c2] at d3; cases d3
    rw [c3] at d4; cases d4
    have e : IsTupOf2 m T u v := b2
    unfold IsTupOf2 at e d2
    rw [e] at d2
    simp at d2
    rw [d2.1] at b5
    rw [d2.2] at b6
    rw [L2.RelV.inj b5 d5, L2.RelV.inj b6 d6]
  have hH : H S = none := I.hok.fresh nS
  refine ⟨.ref S, big H G s.heap.objs.size, Inv.adopt I k G fun a u ha e => ?_, rfl, q S Ts _ (fun a o e => ?_) hH ((big_new nS).trans (if_pos rfl)) ?_ fun i T e => ?_⟩
  · by_cases hs : a = S
    · have : G a = some (.lst (Ts.map V.ref)) := if_pos hs
      rw [this] at e; cases e
      rw [hs]
      have hl : Ts.length = n := by show (acc.toList.map _).length = _; rw [List.length_map, Array.length_toList, sa]
      have e2 : acc.toList = Ts.map Value.ref := by
        apply List.ext_getElem?
        intro j
        rw [List.getElem?_map, Array.getElem?_toList]
        by_cases hj : j < n
        · obtain ⟨T, u, v, x, y, b1, _⟩ := hT j hj
          rw [b1, acT b1]; rfl
        · rw [Array.getElem?_eq_none (by rw [sa]; exact Nat.le_of_not_lt hj), List.getElem?_eq_none (by rw [hl]; exact Nat.le_of_not_lt hj)]; rfl
      refine ⟨by rw [List.length_map, hl]; exact hn, acc.toList, c, ?_, by rw [Array.toArray_toList]; exact hS⟩
      rw [e2]
      exact refs_vals Ts
    · have : (if h : ∃ x y, ∃ j : Nat, acc[j]? = some (.ref a) ∧ xs[j]? = some x ∧ ys[j]? = some y then some (HO.tup [h.choose, h.choose_spec.choose]) else none) = some u := by
        have z : G a = some u := e
        show _
        rw [← z]
        exact (if_neg hs).symm
      by_cases hx : ∃ x y, ∃ j : Nat, acc[j]? = some (.ref a) ∧ xs[j]? = some x ∧ ys[j]? = some y
      · rw [dif_pos hx] at this
        cases this
        obtain ⟨i, c1, c2, c3⟩ := hx.choose_spec.choose_spec
        obtain ⟨hi, _⟩ := Tac (acT c1)
        obtain ⟨T2, u2, v2, x2, y2, d1, d2, d3, d4, d5, d6, _⟩ := hT i hi
        rw [c1] at d1; cases d1
        rw [c2] at d3; cases d3
        rw [c3] at d4; cases d4
        exact two_ok d2 rfl rfl d5 d6
      · rw [dif_neg hx] at this; cases this
  · have : a < s.heap.objs.size := Nat.lt_of_not_le fun z => by rw [I.hok.fresh z] at e; cases e
    exact (big_old this).trans e
  · show (acc.toList.map _).length = _
    rw [List.length_map, Array.length_toList, sa]
  · obtain ⟨hj, a⟩ := Tac e
    obtain ⟨T', u, v, x, y, b1, b2, b3, b4, b5, b6, b7, b8⟩ := hT i hj
    rw [a] at b1; cases b1
    exact ⟨x, y, b3, b4, I.hok.fresh b7, (big_new b7).trans (gT e b3 b4)⟩
theorem pe_lstZip {e e2 : Expr} {ta : TA} {p p2 pos pos2 : Pos} (hc : X.calm = true) (hg : Gl X "list") (hm : X.mg "list" = none) (hg2 : Gl X "zip") (hm2 : X.mg "zip" = none) (ha : PA X [e, e2] ta)
    (hs : starEach [e, e2] X.env = (false, eval e X.env) :: starEach [e2] X.env := by rfl) (hpl : (backTo pos2 (starEach [e2] X.env)).any (·.1) = false := by rfl)
    (hs2 : starEach [.Call (.Name "zip" p2) [e, e2] [] pos2] X.env = (false, eval (.Call (.Name "zip" p2) [e, e2] [] pos2) X.env) :: starEach [] X.env := by rfl) :
    PE X (.Call (.Name "list" p) [.Call (.Name "zip" p2) [e, e2] [] pos2] [] pos) (tLstZip X.K ta) := ⟨fun pins s σ H Q I h => by
  refine Call_ (ld_blt I hg hm boot_list (PyProof.Rows.callWith_type1 (args_cons (Call_ (ld_blt I hg2 hm2 PyProof.Rows.boot_zip (PyProof.Rows.callWith_type1 (thn (ha.run pos2 pins s σ H _ I h) fun us s1 q1 => ?_) hs hpl))) hs2) hs2 rfl))
  obtain ⟨ws, H1, I1, r1, sc1, xs, sc2, ys, ew, a1, a2, hn, q⟩ := q1
  subst ew
  cases r1 with
  | cons ru r1 =>
    cases r1 with
    | cons rv r1 =>
      cases r1
      obtain ⟨t1, G1, B1, g1, fp1, P1, lf1, pv1, D1⟩ := Sc.raw I1 ru a1
      obtain ⟨t2, G2, B2, g2, fp2, P2, lf2, pv2, D2⟩ := Sc.raw I1 rv a2
      obtain ⟨St1, D1, z1⟩ := D1 s1.heap.objs.size (Nat.le_refl _)
      obtain ⟨St2, D2, z2⟩ := D2 (s1.heap.objs.size + 1) (Nat.le_succ _)
      have hd : X.A.handled = none := I1.ok.hd hc
      refine zip_begins2 B1 B2 g1 g2 fun m hz hTI hTO o1 o2 sz kp => args_nil ?_
      refine zl_call (h0 := s1.heap) (zip_sep2 lf1 lf2) (D1 _ hd) (D2 _ hd) (fun c hc => ?_) (fun c hc => ?_) (fun c hc => ?_) hn kp (by show s1.heap.objs.size ≤ m.objs.size; omega) hz hTI hTO (z1 m kp o1) (z2 m kp o2) fun m2 tk acc c S bs n0 hS out => ?_
      · rcases (by simpa using hc : c = s1.heap.objs.size + 4 ∨ c = s1.heap.objs.size + 3 ∨ c = s1.heap.objs.size ∨ c = s1.heap.objs.size + 1) with e | e | e | e
        · rw [e]; exact Nat.le_add_right _ _
        · rw [e]; exact Nat.le_add_right _ _
        · rw [e]; exact Nat.le_refl _
        · rw [e]; exact Nat.le_add_right _ _
      · show c < m.objs.size
        rw [sz]
        rcases List.mem_cons.mp hc with e | e
        · rw [e]; exact Nat.lt_add_of_pos_right (by decide)
        · exact Nat.lt_add_right 5 (lf1 c e)
      · show c < m.objs.size
        rw [sz]
        rcases List.mem_cons.mp hc with e | e
        · rw [e]; exact Nat.add_lt_add_left (by decide) _
        · exact Nat.lt_add_right 5 (lf2 c e)
      · obtain ⟨sa, pr⟩ := out
        exact zip_done (s := s1) I1 bs hS n0 hn (by simp) (fun j u hj p => pv1 j u (by omega) p) (fun j u hj p => pv2 j u (by omega) p) ⟨sa, pr⟩ q⟩
end
section
variable {K : PySem.W.Frag} {Wx : WX} {H H' H1 : Hp} {O Oo W W1 : List Addr} {env : Env} {ta : TA}
theorem Rvs.ofGet : ∀ {ds : List D} {vs : List V}, ds.length = vs.length → (∀ (i : Nat) d v, ds[i]? = some d → vs[i]? = some v → Rv K H O d v) → Rvs K H O ds vs
  | [], [], _, _ => rfl
  | d :: ds, v :: vs, e, h => ⟨v, vs, rfl, h 0 d v rfl rfl, Rvs.ofGet (Nat.succ.inj e) fun i d v a b => h (i + 1) d v a b⟩
def zipD (xs ys : List D) : List D := List.zipWith (fun a b => D.tup [a, b]) xs ys
def zipT (ds : List D) : Option T := match ds with
  | [a, b] => (iterD a).bind fun xs => (iterD b).bind fun ys => if min xs.length ys.length ≤ 16777216 then some (.lst (leafs (zipD xs ys))) else none
  | _ => none
def mLstZip (m : M (List D)) : M T := m.bnd fun ds => fun env => M.opt (zipT ds) env
theorem io_lstZip {m} (a : IAV K Wx ta m) : IO K Wx (tLstZip K ta) (mLstZip m) := fun Oo W σ H env Q E q => by
  refine a Oo W σ H env _ E ((M.bnd_to q).mono (fun ds env1 q vs H1 W1 l1 E1 r1 => ?_) fun _ _ _ _ x => x)
  obtain ⟨t, e, q⟩ := M.opt_to q
  unfold zipT at e
  split at e
  · rename_i d1 d2
    obtain ⟨v1, vs1, rfl, r1, v2, vs2, e2, r2, e3⟩ := r1
    cases (show vs2 = [] from e3)
    subst e2
    cases e4 : iterD d1 with
    | none => rw [e4] at e; cases e
    | some xs =>
      cases e5 : iterD d2 with
      | none => rw [e4, e5] at e; cases e
      | some ys =>
        rw [e4, e5] at e
        have e : (if min xs.length ys.length ≤ 16777216 then some (T.lst (leafs (zipD xs ys))) else none) = some t := e
        split at e
        · rename_i hz
          cases e
          obtain ⟨sc1, ws1, f1, g1, k1⟩ := r1.sc e4
          obtain ⟨sc2, ws2, f2, g2, k2⟩ := r2.sc e5
          subst f1 f2
          refine ⟨sc1, ws1, sc2, ws2, rfl, g1 _ _ (Lv.refl _ _), g2 _ _ (Lv.refl _ _), by rw [k1.len, k2.len, sizeLine_eq]; exact hz, fun S Ts H2 ex hS hS2 hl hT => ?_⟩
          have dm := E1.domA
          have nS : S ∉ Oo ++ W1 := fun z => by
            obtain ⟨o, h⟩ := Mut.ex (dm S z)
            rw [hS] at h; cases h
          have rs : Rvs K H2 (Oo ++ W1 ++ [S]) (zipD xs ys) (Ts.map V.ref) := Rvs.ofGet (by unfold zipD; rw [List.length_zipWith, List.length_map, hl, k1.len, k2.len]) fun i d v hd hv => by
            rw [List.getElem?_map] at hv
            cases hTi : Ts[i]? with
            | none => rw [hTi] at hv; cases hv
            | some T =>
              rw [hTi] at hv; cases hv
              obtain ⟨x, y, hx, hy, hn, h2⟩ := hT i T hTi
              unfold zipD at hd
              rw [List.getElem?_zipWith] at hd
              cases ea : xs[i]? with
              | none => rw [ea] at hd; cases hd
              | some a =>
                cases eb : ys[i]? with
                | none => rw [ea, eb] at hd; cases hd
                | some b =>
                  rw [ea, eb] at hd
                  cases hd
                  have lx : Lv H1 (Oo ++ W1) H2 (Oo ++ W1 ++ [S]) := ⟨fun p o n h => ex p o h, fun p hp => by
                    rcases List.mem_append.mp hp with z | z
                    · exact .inl z
                    · rw [List.mem_singleton.mp z]; exact .inr hS⟩
                  refine ⟨T, [x, y], rfl, .inl ⟨fun z => ?_, .inl h2⟩, x, _, rfl, (rvs_ix k1 ea hx).lv lx, y, _, rfl, (rvs_ix k2 eb hy).lv lx, rfl⟩
                  rcases List.mem_append.mp z with z | z
                  · obtain ⟨o, h⟩ := Mut.ex (dm T z)
                    rw [hn] at h; cases h
                  · rw [List.mem_singleton.mp z] at h2
                    rw [hS2] at h2; cases h2
          have o : Ow K H2 (Oo ++ W1 ++ [S]) (.lst (leafs (zipD xs ys))) (.ref S) [S] := ⟨S, _, [], rfl, rfl, hS2, rs.leafs⟩
          obtain ⟨k1, k2, k3, k4⟩ := new_io E1 ex (fun p hp => by rw [List.mem_singleton.mp hp]; exact hS) o
          exact q (.ref S) H2 W1 [S] (l1.trans k1) k2 (by simp) k3 k4
        · cases e
  · cases e
theorem x_lstZip (m : M (List D)) (env : Env) : mLstZip m env = (m env).bind fun ds => fun env => M.opt (zipT ds) env := rfl
theorem x_zipT {a b : D} {xs ys : List D} (ha : iterD a = some xs) (hb : iterD b = some ys) (h : min xs.length ys.length ≤ 16777216) : zipT [a, b] = some (.lst (leafs (zipD xs ys))) := by
  unfold zipT
  simp only [ha, hb, Option.bind_some, h, if_true]
end
end KM

/-! zip walked, over any two sources. -/
namespace KM
open PySem PySem.Spec PyProof.Rows L2 Evl KP
def ItP (K : PySem.W.Frag) (sc1 : Sc) (xs : List V) (sc2 : Sc) (ys : List V) : It :=
  ⟨fun i H => (sc1.has K H xs ∧ sc2.has K H ys) ∧ i < xs.length ∧ i < ys.length, fun i H v H' => ∃ T x y, v = .ref T ∧ H T = none ∧ H' = upd H T (.tup [x, y]) ∧ xs[i]? = some x ∧ ys[i]? = some y, fun i H => (sc1.has K H xs ∧ sc2.has K H ys) ∧ (xs.length ≤ i ∨ ys.length ≤ i)⟩
theorem sep_of {X : Cx} {pins : List (Addr × Obj)} {H : Hp} {z TI TO i1 i2 : Addr} {fp1 fp2 : List Addr} (nd : [z, TI, TO, i1, i2].Nodup) (hf : ∀ b ∈ [z, TI, TO, i1, i2], FpOk X pins H b)
    (m1 : i1 ∈ fp1) (a1 : ∀ b ∈ fp1, b = i1 ∨ ∀ c, FpOk X pins H c → b ≠ c) (m2 : i2 ∈ fp2) (a2 : ∀ b ∈ fp2, b = i2 ∨ ∀ c, FpOk X pins H c → b ≠ c) : ZipSep2 z TI TO i1 i2 fp1 fp2 := by
  simp at nd
  obtain ⟨⟨n1, n2, n3, n4⟩, ⟨n5, n6, n7⟩, ⟨n8, n9⟩, n10⟩ := nd
  have o1 : ∀ c, c ∈ [z, TI, TO, i1, i2] → c ≠ i1 → c ∉ fp1 := fun c hc ne hm => by
    rcases a1 c hm with e | e
    · exact ne e
    · exact e c (hf c hc) rfl
  have o2 : ∀ c, c ∈ [z, TI, TO, i1, i2] → c ≠ i2 → c ∉ fp2 := fun c hc ne hm => by
    rcases a2 c hm with e | e
    · exact ne e
    · exact e c (hf c hc) rfl
  exact { TIz := Ne.symm n1, TOz := Ne.symm n2, TITO := n5, TIi1 := n6, mem1 := m1, zf1 := o1 z (by simp) n3, Tf1 := o1 TO (by simp) n8, TIi2 := n7, mem2 := m2, zf2 := o2 z (by simp) n4, Tf2 := o2 TO (by simp) n9, sep1_2 := o2 i1 (by simp) n10, sep2_1 := o1 i2 (by simp) (Ne.symm n10) }
theorem turn_zp {P : Program} {w : World} {K : PySem.W.Frag} {elts : List Expr} {kk : Nat} {tpos : Pos} {sc1 sc2 : Sc} {xs ys : List V} {t1 t2 : Tok} {z TI TO i1 i2 : Addr} (nd : [z, TI, TO, i1, i2].Nodup) :
    Turn P w K (.Tuple elts kk tpos) (ItP K sc1 xs sc2 ys) [z, TI, TO, i1, i2] z (fun i h => (IsZip h z TI TO .none ∧ IsTupOf2 h TI (.ref i1) (.ref i2) ∧ (∃ a b, IsTupOf2 h TO a b) ∧ sc1.st t1 i1 i h ∧ sc2.st t2 i2 i h) ∧ i ≤ xs.length ∧ i ≤ ys.length) where
  mem := by simp
  obj := fun i h st b hb => by
    obtain ⟨⟨hz, hI, ⟨x, y, hO⟩, s1, s2⟩, _⟩ := st
    rcases (by simpa using hb : b = z ∨ b = TI ∨ b = TO ∨ b = i1 ∨ b = i2) with e | e | e | e | e
    · rw [e]; exact ⟨_, hz, fun v q => nomatch q⟩
    · rw [e]; exact ⟨_, hI, fun v q => nomatch q⟩
    · rw [e]; exact ⟨_, hO, fun v q => nomatch q⟩
    · rw [e]; exact Sc.obj s1
    · rw [e]; exact Sc.obj s2
  keep := fun i h h' st k => let ⟨⟨hz, hI, ⟨x, y, hO⟩, s1, s2⟩, l⟩ := st; ⟨⟨k z (by simp) _ hz, k TI (by simp) _ hI, ⟨x, y, k TO (by simp) _ hO⟩, Sc.keep s1 fun o q => k i1 (by simp) o q, Sc.keep s2 fun o q => k i2 (by simp) o q⟩, l⟩
  item := by
    intro X hP hw hK hc i pins s σ H E I hf st hg
    cases hP; cases hw; cases hK
    obtain ⟨⟨hz, hI, ⟨x0, y0, hO⟩, u1, u2⟩, _⟩ := st
    obtain ⟨⟨h1, h2⟩, l1, l2⟩ := hg
    obtain ⟨fp1, P1, St1, D1, a1, b1, c1, d1, e1⟩ := Sc.draw I hc h1 (hf i1 (by simp)) u1
    obtain ⟨fp2, P2, St2, D2, a2, b2, c2, d2, e2⟩ := Sc.draw I hc h2 (hf i2 (by simp)) u2
    have Sp := sep_of nd hf d1 e1 d2 e2
    have lz : z < s.heap.objs.size := Heap.lt_size hz
    refine wpAny_pyNext_zipD2_item Sp D1 D2 hz hI hO a1 a2 l1 l2 fun x1 x2 m tk p1 p2 hz' hO' g1 g2 hT hsz kp => ⟨_, rfl, wpAny_letOwnedTupleGo_zip (s := { s with heap := m, toks := tk }) hz' fun m2 hz2 sb => ?_⟩
    obtain ⟨v1, hv1, r1⟩ := c1 x1 p1 l1
    obtain ⟨v2, hv2, r2⟩ := c2 x2 p2 l2
    have I2 := I.turnedNew (t' := tk) (h' := m2) (T := s.heap.objs.size) (ob := .tup [v1, v2]) (ch := [z, TI, TO, i1, i2]) (fun b ob hb q => (sb.2 b fun y => hb (by simp [y])).trans (kp b ob (fun y => hb (by simp [y])) (fun y => hb (by simp [y])) (fun y => hb (by simp [y])) (fun y => hb (by simp [y])) q)) hf (Nat.le_refl _)
      (two_ok ((sb.2 _ (Nat.ne_of_gt lz)).trans hT) rfl rfl r1 r2)
    refine ⟨.ref s.heap.objs.size, _, I2, rfl, ⟨_, v1, v2, rfl, I.hok.fresh (Nat.le_refl _), rfl, hv1, hv2⟩, ⟨⟨hz2, (sb.2 _ Sp.TIz).trans (kp _ _ Sp.TIz Sp.TITO Sp.TIi1 Sp.TIi2 hI), ⟨x1, x2, (sb.2 _ Sp.TOz).trans hO'⟩, Sc.keep (b1 _ _ g1) fun o q => (sb.2 i1 (Ne.symm Sp.zi1)).trans q, Sc.keep (b2 _ _ g2) fun o q => (sb.2 i2 (Ne.symm Sp.zi2)).trans q⟩, l1, l2⟩, fun b hb => ?_⟩
    have lb : b < s.heap.objs.size := by
      rcases (by simpa using hb : b = z ∨ b = TI ∨ b = TO ∨ b = i1 ∨ b = i2) with e | e | e | e | e
      · rw [e]; exact lz
      · rw [e]; exact Heap.lt_size hI
      · rw [e]; exact Heap.lt_size hO
      · rw [e]; obtain ⟨o, q, _⟩ := Sc.obj u1; exact Heap.lt_size q
      · rw [e]; obtain ⟨o, q, _⟩ := Sc.obj u2; exact Heap.lt_size q
    rw [upd_ne (Nat.ne_of_lt lb)]
    exact (hf b hb).1
  done := by
    intro X hP hw hK hc i pins s σ H E I hf st hg
    cases hP; cases hw; cases hK
    obtain ⟨⟨hz, hI, ⟨x0, y0, hO⟩, u1, u2⟩, l1, l2⟩ := st
    obtain ⟨⟨h1, h2⟩, he⟩ := hg
    obtain ⟨fp1, P1, St1, D1, a1, b1, c1, d1, e1⟩ := Sc.draw I hc h1 (hf i1 (by simp)) u1
    obtain ⟨fp2, P2, St2, D2, a2, b2, c2, d2, e2⟩ := Sc.draw I hc h2 (hf i2 (by simp)) u2
    have Sp := sep_of nd hf d1 e1 d2 e2
    exact wpAny_pyNext_zipD2_end Sp D1 D2 hz hI hO a1 a2 l1 l2 (by omega) fun m tk kp => ⟨rfl, I.turnedL (t' := tk) (h' := m) (ch := [z, TI, TO, i1, i2]) (fun b o hb q => kp b o (fun y => hb (by simp [y])) (fun y => hb (by simp [y])) (fun y => hb (by simp [y])) (fun y => hb (by simp [y])) q) hf⟩
  self := fun A i s Q E st h => wpAny_pyIter_zip st.1.1 h
def iZp (K : PySem.W.Frag) (ta : TA) : TI := fun σ H R => ta σ H fun ws H1 => ∃ sc1 xs sc2 ys, ws = [Sc.src sc1, Sc.src sc2] ∧ (sc1.has K H1 xs ∧ sc2.has K H1 ys) ∧ R (ItP K sc1 xs sc2 ys) H1
theorem five_nd (n : Nat) : [n + 4, n + 2, n + 3, n, n + 1].Nodup := by simp
theorem pi_zp {X : Cx} {e e2 : Expr} {ta : TA} {p pos tpos : Pos} {elts : List Expr} {kk : Nat} (hg : Gl X "zip") (hm : X.mg "zip" = none) (ha : PA X [e, e2] ta) (hs : starEach [e, e2] X.env = (false, eval e X.env) :: starEach [e2] X.env := by rfl)
    (hpl : (backTo pos (starEach [e2] X.env)).any (·.1) = false := by rfl) : PI X (.Tuple elts kk tpos) (.Call (.Name "zip" p) [e, e2] [] pos) (iZp X.K ta) := ⟨fun pins s σ H R I h => by
  refine Call_ (ld_blt I hg hm PyProof.Rows.boot_zip (PyProof.Rows.callWith_type1 (thn (ha.run pos pins s σ H _ I h) fun us s1 q1 => ?_) hs hpl))
  obtain ⟨ws, H1, I1, r1, sc1, xs, sc2, ys, ew, ⟨a1, a2⟩, q⟩ := q1
  subst ew
  cases r1 with
  | cons ru r1 =>
    cases r1 with
    | cons rv r1 =>
      cases r1
      obtain ⟨t1, G1, B1, g1⟩ := Sc.begin I1 ru a1
      obtain ⟨t2, G2, B2, g2⟩ := Sc.begin I1 rv a2
      refine zip_begins2 B1 B2 g1 g2 fun m hz hTI hTO o1 o2 sz kp => wpAny_pyIter_zip hz ?_
      have I2 := I1.kept (h' := m) (t' := s1.toks) kp
      refine ⟨s1.heap.objs.size + 4, [s1.heap.objs.size + 4, s1.heap.objs.size + 2, s1.heap.objs.size + 3, s1.heap.objs.size, s1.heap.objs.size + 1], _, _, H1, rfl, I2, turn_zp (t1 := t1) (t2 := t2) (five_nd _), ⟨⟨hz, hTI, ⟨_, _, hTO⟩, Sc.zero o1, Sc.zero o2⟩, Nat.zero_le _, Nat.zero_le _⟩, fun b hb => ?_, q⟩
      have ge : s1.heap.objs.size ≤ b := by
        rcases (by simpa using hb : b = s1.heap.objs.size + 4 ∨ b = s1.heap.objs.size + 2 ∨ b = s1.heap.objs.size + 3 ∨ b = s1.heap.objs.size ∨ b = s1.heap.objs.size + 1) with e | e | e | e | e
        · rw [e]; exact Nat.le_add_right _ _
        · rw [e]; exact Nat.le_add_right _ _
        · rw [e]; exact Nat.le_add_right _ _
        · rw [e]; exact Nat.le_refl _
        · rw [e]; exact Nat.le_add_right _ _
      exact I1.fpOk ge (I1.hok.fresh ge)⟩
section
variable {K : PySem.W.Frag} {Wx : WX} {H H' H1 : Hp} {O Oo W W1 : List Addr} {env : Env} {ta : TA}
theorem it_zp {sc1 sc2 : Sc} {xs ys : List V} {ds es : List D} (s1 : ∀ H' W', Lv H W H' W' → sc1.has K H' xs) (s2 : ∀ H' W', Lv H W H' W' → sc2.has K H' ys) (r1 : Rvs K H (Oo ++ W) ds xs) (r2 : Rvs K H (Oo ++ W) es ys) : ItR K (ItP K sc1 xs sc2 ys) (zipD ds es) Oo W H := fun H' W' l dm i => by
  have k1 := r1.lv (l.oo Oo)
  have k2 := r2.lv (l.oo Oo)
  refine ⟨fun d hd => ?_, fun hi => ⟨⟨s1 H' W' l, s2 H' W' l⟩, ?_⟩⟩
  · unfold zipD at hd
    rw [List.getElem?_zipWith] at hd
    cases ea : ds[i]? with
    | none => rw [ea] at hd; cases hd
    | some a =>
      cases eb : es[i]? with
      | none => rw [ea, eb] at hd; cases hd
      | some b =>
        rw [ea, eb] at hd
        cases hd
        have la := (List.getElem?_eq_some_iff.mp ea).1
        have lb := (List.getElem?_eq_some_iff.mp eb).1
        refine ⟨⟨⟨s1 H' W' l, s2 H' W' l⟩, by rw [r1.len]; exact la, by rw [r2.len]; exact lb⟩, fun x H2 ⟨T, y1, y2, ex, hT, eH, hy1, hy2⟩ => ?_⟩
        subst ex eH
        exact pair_rv hT dm (rvs_ix k1 ea hy1) (rvs_ix k2 eb hy2)
  · unfold zipD at hi
    rw [List.length_zipWith] at hi
    rw [r1.len, r2.len]
    omega
def zpL (ds : List D) : Option (List D) := match ds with
  | [a, b] => (iterD a).bind fun xs => (iterD b).map fun ys => zipD xs ys
  | _ => none
def iZpM (m : M (List D)) : M (List D) := m.bnd fun ds => fun env => M.opt (zpL ds) env
theorem ii_zp {m} (a : IAV K Wx ta m) : II K Wx (iZp K ta) (iZpM m) := fun Oo W σ H env R E q => by
  refine a Oo W σ H env _ E ((M.bnd_to q).mono (fun ds env1 q vs H1 W1 l1 E1 r1 => ?_) fun _ _ _ _ x => x)
  obtain ⟨t, e, q⟩ := M.opt_to q
  unfold zpL at e
  split at e
  · rename_i d1 d2
    obtain ⟨v1, vs1, rfl, r1, v2, vs2, e2, r2, e3⟩ := r1
    cases (show vs2 = [] from e3)
    subst e2
    cases e4 : iterD d1 with
    | none => rw [e4] at e; cases e
    | some xs =>
      cases e5 : iterD d2 with
      | none => rw [e4, e5] at e; cases e
      | some ys =>
        rw [e4, e5] at e
        cases e
        obtain ⟨sc1, ws1, f1, g1, k1⟩ := r1.sc e4
        obtain ⟨sc2, ws2, f2, g2, k2⟩ := r2.sc e5
        subst f1 f2
        exact ⟨sc1, ws1, sc2, ws2, rfl, ⟨g1 _ _ (Lv.refl _ _), g2 _ _ (Lv.refl _ _)⟩, q _ H1 W1 l1 E1 (it_zp g1 g2 k1 k2)⟩
  · cases e
theorem x_iZpM (m : M (List D)) (env : Env) : iZpM m env = (m env).bind fun ds => fun env => M.opt (zpL ds) env := rfl
theorem x_zpL {a b : D} {xs ys : List D} (ha : iterD a = some xs) (hb : iterD b = some ys) : zpL [a, b] = some (zipD xs ys) := by
  unfold zpL
  simp only [ha, hb, Option.bind_some, Option.map_some]
end
end KM

/-! Loops of the mirror by invariants; the laws' drawers. -/
namespace KM
open PySem PySem.Spec PyProof.Rows L2 Evl KP
theorem forM_inv {g : D → Env → Option Env} {body : SM} (P : Nat → Env → Prop) : ∀ (ds : List D) (k : Nat) (e : Env), P k e → (∀ i d e, ds[i]? = some d → P (k + i) e → ∃ e1 e2, g d e = some e1 ∧ (body e1 = .nx e2 ∨ body e1 = .cnt e2) ∧ P (k + i + 1) e2) → ∃ e', forM g body ds e = .nx e' ∧ P (k + ds.length) e'
  | [], k, e, h, _ => ⟨e, rfl, h⟩
  | d :: ds, k, e, h, st => by
    obtain ⟨e1, e2, h1, h2, h3⟩ := st 0 d e rfl h
    obtain ⟨e', h4, h5⟩ := forM_inv P ds (k + 1) e2 h3 fun i d e hd hp => by
      have := st (i + 1) d e hd (by have q : k + 1 + i = k + (i + 1) := by omega
                                    rw [← q]; exact hp)
      have q : k + 1 + i + 1 = k + (i + 1) + 1 := by omega
      rw [q]; exact this
    refine ⟨e', ?_, by have q : k + (d :: ds).length = k + 1 + ds.length := by rw [List.length_cons]; omega
                       rw [q]; exact h5⟩
    unfold forM
    simp only [h1]
    rcases h2 with h2 | h2
    · simp only [h2]; exact h4
    · simp only [h2]; exact h4
/-- the loop as a fold -/
theorem forM_fold {S : Type} {g : D → Env → Option Env} {body : SM} (st : S → Env) (f : S → D → S) : ∀ (ds : List D) (s : S), (∀ s d, d ∈ ds → ∃ e, g d (st s) = some e ∧ (body e = .nx (st (f s d)) ∨ body e = .cnt (st (f s d)))) → forM g body ds (st s) = .nx (st (ds.foldl f s))
  | [], s, _ => rfl
  | d :: ds, s, h => by
    obtain ⟨e, h1, h2⟩ := h s d (by simp)
    unfold forM
    simp only [h1]
    have := forM_fold st f ds (f s d) fun s d hd => h s d (List.mem_cons_of_mem _ hd)
    rcases h2 with h2 | h2
    · simp only [h2]; exact this
    · simp only [h2]; exact this
/-- a loop that returns at the first item that fails -/
theorem forM_all {S : Type} {g : D → Env → Option Env} {body : SM} (st : S → Env) (f : S → D → S) (p : D → Bool) (t : T) : ∀ (ds : List D) (s : S), (∀ s d, d ∈ ds → ∃ e, g d (st s) = some e ∧ body e = if p d = true then .nx (st (f s d)) else .ret t (st (f s d))) →
    ∃ s', forM g body ds (st s) = if ds.all p = true then .nx (st s') else .ret t (st s')
  | [], s, _ => ⟨s, rfl⟩
  | d :: ds, s, h => by
    obtain ⟨e, h1, h2⟩ := h s d (by simp)
    unfold forM
    simp only [h1]
    cases hp : p d with
    | false => exact ⟨f s d, by simp [h2, hp]⟩
    | true =>
      obtain ⟨s', e'⟩ := forM_all st f p t ds (f s d) fun s d hd => h s d (List.mem_cons_of_mem _ hd)
      refine ⟨s', ?_⟩
      simp only [h2, hp, if_true, List.all_cons, Bool.true_and]
      exact e'
/-- comprehensions -/
theorem lcLoop_inv {vs : List Nat} {g : D → Env → Option Env} {tt : M Bool} {el : M T} (P : Nat → List T → Env → Prop) : ∀ (ds : List D) (k : Nat) (acc : List T) (e : Env), P k acc e → acc.length + ds.length ≤ 16777216 →
    (∀ i d acc e, ds[i]? = some d → P (k + i) acc e → ∃ e1, g d e = some e1 ∧ ((∃ e2, tt e1 = .ok false e2 ∧ P (k + i + 1) acc (wipeE e2 vs)) ∨ ∃ e2 t e3, tt e1 = .ok true e2 ∧ el e2 = .ok t e3 ∧ P (k + i + 1) (acc ++ [t]) (wipeE e3 vs))) →
    ∃ acc' e', lcLoop vs g tt el ds acc e = .ok acc' e' ∧ P (k + ds.length) acc' e'
  | [], k, acc, e, h, _, _ => ⟨acc, e, rfl, h⟩
  | d :: ds, k, acc, e, h, hz, st => by
    rw [List.length_cons] at hz
    obtain ⟨e1, h1, h2⟩ := st 0 d acc e rfl h
    have next : ∀ acc' e', acc'.length + ds.length ≤ 16777216 → P (k + 0 + 1) acc' e' → ∃ a2 e2, lcLoop vs g tt el ds acc' e' = .ok a2 e2 ∧ P (k + (d :: ds).length) a2 e2 := fun acc' e' hz hp => by
      obtain ⟨a2, e2, h4, h5⟩ := lcLoop_inv P ds (k + 1) acc' e' hp hz fun i d acc e hd hp => by
        have q : k + 1 + i = k + (i + 1) := by omega
        have := st (i + 1) d acc e hd (by rw [← q]; exact hp)
        rw [q]; exact this
      refine ⟨a2, e2, h4, ?_⟩
      have q : k + (d :: ds).length = k + 1 + ds.length := by rw [List.length_cons]; omega
      rw [q]; exact h5
    unfold lcLoop
    simp only [h1]
    rcases h2 with ⟨e2, h3, h4⟩ | ⟨e2, t, e3, h3, h4, h5⟩
    · simp only [h3]
      exact next _ _ (by omega) h4
    · simp only [h3, h4]
      rw [if_pos (by omega)]
      exact next _ _ (by rw [List.length_append, List.length_singleton]; omega) h5
/-- a comprehension as filter and map -/
theorem lcLoop_map {vs : List Nat} {g : D → Env → Option Env} {tt : M Bool} {el : M T} (env : Env) (p : D → Bool) (f : D → D) : ∀ (ds : List D) (acc : List T), acc.length + ds.length ≤ 16777216 →
    (∀ d ∈ ds, ∃ e1, g d env = some e1 ∧ ((p d = false ∧ ∃ e2, tt e1 = .ok false e2 ∧ wipeE e2 vs = env) ∨ (p d = true ∧ ∃ e2 e3, tt e1 = .ok true e2 ∧ el e2 = .ok (.val (f d)) e3 ∧ wipeE e3 vs = env))) →
    lcLoop vs g tt el ds acc env = .ok (acc ++ leafs ((ds.filter p).map f)) env
  | [], acc, _, _ => by simp [lcLoop, leafs, M.ret]
  | d :: ds, acc, hz, h => by
    rw [List.length_cons] at hz
    obtain ⟨e1, h1, h2⟩ := h d (by simp)
    unfold lcLoop
    simp only [h1]
    rcases h2 with ⟨hp, e2, h3, h4⟩ | ⟨hp, e2, e3, h3, h4, h5⟩
    · simp only [h3, h4]
      rw [lcLoop_map env p f ds acc (by omega) fun d hd => h d (List.mem_cons_of_mem _ hd)]
      simp [hp]
    · simp only [h3, h4, h5]
      rw [if_pos (by omega), lcLoop_map env p f ds (acc ++ [T.val (f d)]) (by rw [List.length_append, List.length_singleton]; omega) fun d hd => h d (List.mem_cons_of_mem _ hd)]
      simp [hp, leafs]
/-- .. whose test and item change no name -/
theorem lcLoop_filt {vs : List Nat} {g : D → Env → Option Env} {tt : M Bool} {el : M T} (env : Env) (p : D → Bool) (f : D → D) (ds : List D) (hz : ds.length ≤ 16777216)
    (h : ∀ d ∈ ds, ∃ e1, g d env = some e1 ∧ tt e1 = .ok (p d) e1 ∧ (p d = true → el e1 = .ok (.val (f d)) e1) ∧ wipeE e1 vs = env) : lcLoop vs g tt el ds [] env = .ok (leafs ((ds.filter p).map f)) env :=
  lcLoop_map env p f ds [] (by simpa using hz) fun d hd => by
    obtain ⟨e1, h1, h2, h3, h4⟩ := h d hd
    refine ⟨e1, h1, ?_⟩
    cases hp : p d with
    | false => rw [hp] at h2; exact .inl ⟨rfl, e1, h2, h4⟩
    | true => rw [hp] at h2; exact .inr ⟨rfl, e1, e1, h2, h3 hp, h4⟩
/-! ### drawers -/
structure Dr where
  a : Int
  b : Int
  c : Int
structure Dr.Ok (x : Dr) : Prop where
  a0 : 0 ≤ x.a
  b0 : 0 ≤ x.b
  b1 : x.b < 2147483647
  c0 : 0 ≤ x.c
def drw (x : Dr) : T := .lst (leafs [.int x.a, .int x.b, .int x.c])
def dOne (x : Dr) : Int := (x.b * 48271 + (x.c + 1) * 69621 + 12345) % 2147483647
def dTwo (x : Dr) : Int := (dOne x * (dOne x / 3 + 40014) + (x.c + 1) * 7919) % 2147483563
def dv (x : Dr) (m : Int) : Int := if 1 < x.a then x.a % m else dTwo x / 11 % m
def dn (x : Dr) (m : Int) : Dr := if 1 < x.a then ⟨x.a / m, x.b, x.c⟩ else ⟨x.a, x.b, x.c + 1⟩
theorem dv_lo {x : Dr} {m : Int} (h : 0 < m) : 0 ≤ dv x m := by
  unfold dv
  split
  · exact Int.emod_nonneg _ (by omega)
  · exact Int.emod_nonneg _ (by omega)
theorem dv_hi {x : Dr} {m : Int} (h : 0 < m) : dv x m < m := by
  unfold dv
  split
  · exact Int.emod_lt_of_pos _ h
  · exact Int.emod_lt_of_pos _ h
theorem dn_ok {x : Dr} {m : Int} (o : x.Ok) (h : 0 < m) : (dn x m).Ok := by
  unfold dn
  split
  · exact ⟨Int.ediv_nonneg o.a0 (by omega), o.b0, o.b1, o.c0⟩
  · exact ⟨o.a0, o.b0, o.b1, by have := o.c0; show 0 ≤ x.c + 1; omega⟩
def dis (ns : List Int) : List D := ns.map D.int
theorem dis_len (ns : List Int) : (dis ns).length = ns.length := by unfold dis; simp
/-- the drawer of cell k -/
def cellOf (ns : List Int) (k : Int) : Int := if k < ns.length then (let i := ns.getD k.toNat 0; if i < 0 then -i else i) else 0
def drC (ns : List Int) (k : Int) : Dr := if 1000000000000000000 ≤ cellOf ns k then ⟨cellOf ns k - 1000000000000000000, (cellOf ns k + 1013 * k + 7) % 2147483629, 0⟩ else ⟨0, (cellOf ns k + 1013 * k + 7) % 2147483629, 0⟩
theorem drC_ok (ns : List Int) (k : Int) : (drC ns k).Ok := by
  have h1 : ∀ i : Int, 0 ≤ i % 2147483629 := fun i => Int.emod_nonneg _ (by decide)
  have h2 : ∀ i : Int, i % 2147483629 < 2147483629 := fun i => Int.emod_lt_of_pos _ (by decide)
  unfold drC
  split
  · exact ⟨by show 0 ≤ cellOf ns k - _; omega, h1 _, by have := h2 (cellOf ns k + 1013 * k + 7); show _ % _ < _; omega, by show (0 : Int) ≤ 0; omega⟩
  · exact ⟨by show (0 : Int) ≤ 0; omega, h1 _, by have := h2 (cellOf ns k + 1013 * k + 7); show _ % _ < _; omega, by show (0 : Int) ≤ 0; omega⟩
end KM

/-! is, isinstance of data. -/
namespace KM
open PySem PySem.Spec PyProof.Rows L2 Evl KP
theorem x_isD_nn : isD .non .non = some true := rfl
theorem x_isD_nb (c : Bool) : isD .non (.bl c) = some false := rfl
theorem x_isD_bn (b : Bool) : isD (.bl b) .non = some false := rfl
theorem x_isD_bb (b c : Bool) : isD (.bl c) (.bl b) = some (decide (c = b)) := rfl
theorem x_isD_in (i : Int) : isD (.int i) .non = some false := rfl
theorem x_isD_ib (i : Int) (c : Bool) : isD (.int i) (.bl c) = some false := rfl
theorem x_isD_sn (z : Str) : isD (.str z) .non = some false := rfl
theorem x_isD_sb (z : Str) (c : Bool) : isD (.str z) (.bl c) = some false := rfl
theorem x_isD_ln (ds : List D) : isD (.lst ds) .non = some false := rfl
theorem x_isD_lb (ds : List D) (c : Bool) : isD (.lst ds) (.bl c) = some false := rfl
theorem x_isD_tn (ds : List D) : isD (.tup ds) .non = some false := rfl
theorem x_isD_tb (ds : List D) (c : Bool) : isD (.tup ds) (.bl c) = some false := rfl
theorem x_isi_n_int : bIsi [.non, .ty "int"] = some (.val (.bl false)) := by kernel_rfl
theorem x_isi_n_bool : bIsi [.non, .ty "bool"] = some (.val (.bl false)) := by kernel_rfl
theorem x_isi_n_str : bIsi [.non, .ty "str"] = some (.val (.bl false)) := by kernel_rfl
theorem x_isi_n_list : bIsi [.non, .ty "list"] = some (.val (.bl false)) := by kernel_rfl
theorem x_isi_n_tuple : bIsi [.non, .ty "tuple"] = some (.val (.bl false)) := by kernel_rfl
theorem x_isi_b_int (b : Bool) : bIsi [(.bl b), .ty "int"] = some (.val (.bl true)) := by kernel_rfl
theorem x_isi_b_bool (b : Bool) : bIsi [(.bl b), .ty "bool"] = some (.val (.bl true)) := by kernel_rfl
theorem x_isi_b_str (b : Bool) : bIsi [(.bl b), .ty "str"] = some (.val (.bl false)) := by kernel_rfl
theorem x_isi_b_list (b : Bool) : bIsi [(.bl b), .ty "list"] = some (.val (.bl false)) := by kernel_rfl
theorem x_isi_b_tuple (b : Bool) : bIsi [(.bl b), .ty "tuple"] = some (.val (.bl false)) := by kernel_rfl
theorem x_isi_i_int (i : Int) : bIsi [(.int i), .ty "int"] = some (.val (.bl true)) := by kernel_rfl
theorem x_isi_i_bool (i : Int) : bIsi [(.int i), .ty "bool"] = some (.val (.bl false)) := by kernel_rfl
theorem x_isi_i_str (i : Int) : bIsi [(.int i), .ty "str"] = some (.val (.bl false)) := by kernel_rfl
theorem x_isi_i_list (i : Int) : bIsi [(.int i), .ty "list"] = some (.val (.bl false)) := by kernel_rfl
theorem x_isi_i_tuple (i : Int) : bIsi [(.int i), .ty "tuple"] = some (.val (.bl false)) := by kernel_rfl
theorem x_isi_s_int (z : Str) : bIsi [(.str z), .ty "int"] = some (.val (.bl false)) := by kernel_rfl
theorem x_isi_s_bool (z : Str) : bIsi [(.str z), .ty "bool"] = some (.val (.bl false)) := by kernel_rfl
theorem x_isi_s_str (z : Str) : bIsi [(.str z), .ty "str"] = some (.val (.bl true)) := by kernel_rfl
theorem x_isi_s_list (z : Str) : bIsi [(.str z), .ty "list"] = some (.val (.bl false)) := by kernel_rfl
theorem x_isi_s_tuple (z : Str) : bIsi [(.str z), .ty "tuple"] = some (.val (.bl false)) := by kernel_rfl
theorem x_isi_l_int (ds : List D) : bIsi [(.lst ds), .ty "int"] = some (.val (.bl false)) := by kernel_rfl
theorem x_isi_l_bool (ds : List D) : bIsi [(.lst ds), .ty "bool"] = some (.val (.bl false)) := by kernel_rfl
theorem x_isi_l_str (ds : List D) : bIsi [(.lst ds), .ty "str"] = some (.val (.bl false)) := by kernel_rfl
theorem x_isi_l_list (ds : List D) : bIsi [(.lst ds), .ty "list"] = some (.val (.bl true)) := by kernel_rfl
theorem x_isi_l_tuple (ds : List D) : bIsi [(.lst ds), .ty "tuple"] = some (.val (.bl false)) := by kernel_rfl
theorem x_isi_t_int (ds : List D) : bIsi [(.tup ds), .ty "int"] = some (.val (.bl false)) := by kernel_rfl
theorem x_isi_t_bool (ds : List D) : bIsi [(.tup ds), .ty "bool"] = some (.val (.bl false)) := by kernel_rfl
theorem x_isi_t_str (ds : List D) : bIsi [(.tup ds), .ty "str"] = some (.val (.bl false)) := by kernel_rfl
theorem x_isi_t_list (ds : List D) : bIsi [(.tup ds), .ty "list"] = some (.val (.bl false)) := by kernel_rfl
theorem x_isi_t_tuple (ds : List D) : bIsi [(.tup ds), .ty "tuple"] = some (.val (.bl true)) := by kernel_rfl
theorem x_tru (m : M Ob) (env : KM.Env) : tru m env = (m env).bind fun x => fun env => M.opt ((lookB x env).bind truD) env := rfl
theorem x_truN : truD .non = some false := rfl
theorem x_truB (b : Bool) : truD (.bl b) = some b := rfl
theorem x_truI (i : Int) : truD (.int i) = some (i != 0) := rfl
theorem x_truL (ds : List D) : truD (.lst ds) = some (!ds.isEmpty) := rfl
theorem x_truF (ds : List D) : truD (.fro ds) = some (!ds.isEmpty) := rfl
theorem x_truT (ds : List D) : truD (.tup ds) = some (!ds.isEmpty) := rfl
theorem x_truS {z : Str} (h : z.length ≤ 16777216) : truD (.str z) = some ((z.length : Int) != 0) := if_pos h
def r1K (ds : List D) (env : KM.Env) : Rs (List D) := match ds with
  | [.int n] => if in62 n = true then .ok (rgD 0 n.toNat) env else .stuck
  | _ => .stuck
theorem x_R1 (m : M (List D)) (env : KM.Env) : iR1 m env = (m env).bind r1K := rfl
theorem x_r1K (n : Int) (env : KM.Env) : r1K [.int n] env = if in62 n = true then .ok (rgD 0 n.toNat) env else .stuck := rfl
def r2K (ds : List D) (env : KM.Env) : Rs (List D) := match ds with
  | [.int a, .int b] => if (in62 a && in62 b) = true then .ok (rgD a (b - a).toNat) env else .stuck
  | _ => .stuck
theorem x_R2 (m : M (List D)) (env : KM.Env) : iR2 m env = (m env).bind r2K := rfl
theorem x_r2K (a b : Int) (env : KM.Env) : r2K [.int a, .int b] env = if (in62 a && in62 b) = true then .ok (rgD a (b - a).toNat) env else .stuck := rfl
theorem x_in62 {n : Int} (h1 : -4611686018427387904 ≤ n) (h2 : n < 4611686018427387904) : in62 n = true := by
  unfold in62
  rw [Bool.and_eq_true]
  exact ⟨decide_eq_true (by omega), decide_eq_true (by omega)⟩
def lcRes (vs : List Nat) (e : KM.Env) : Rs (List T) → Rs T
  | .ok acc e2 => .ok (.lst acc) (restE e e2 vs)
  | _ => .stuck
def lcGo (vs : List Nat) (g : D → KM.Env → Option KM.Env) (tt : M Bool) (el : M T) (ds : List D) (e : KM.Env) : Rs T := if okW e vs = true then lcRes vs e (lcLoop vs g tt el ds [] (wipeE e vs)) else .stuck
theorem x_lcM (vs : List Nat) (it : M (List D)) (g : D → KM.Env → Option KM.Env) (tt : M Bool) (el : M T) (env : KM.Env) : lcM vs it g tt el env = (it env).bind fun ds e => lcGo vs g tt el ds e := by
  rw [x_lc]
  cases it env with
  | ok ds e =>
    show (if okW e vs = true then _ else _) = (if okW e vs = true then _ else _)
    split
    · unfold lcRes
      cases lcLoop vs g tt el ds [] (wipeE e vs) <;> rfl
    · rfl
  | _ => rfl
theorem x_lcGo {vs : List Nat} {g : D → KM.Env → Option KM.Env} {tt : M Bool} {el : M T} {ds : List D} {e : KM.Env} : lcGo vs g tt el ds e = if okW e vs = true then lcRes vs e (lcLoop vs g tt el ds [] (wipeE e vs)) else .stuck := rfl
theorem x_lcRes (vs : List Nat) (e e2 : KM.Env) (acc : List T) : lcRes vs e (.ok acc e2) = .ok (.lst acc) (restE e e2 vs) := rfl
def okC : Option (Option T) → Bool
  | some (some (.val _)) => true
  | some (some _) => false
  | _ => true
theorem x_okW0 (e : KM.Env) : okW e [] = true := rfl
theorem x_okW (e : KM.Env) (v : Nat) (vs : List Nat) : okW e (v :: vs) = (okC e[v]? && okW e vs) := by
  unfold okW okC
  rw [List.all_cons]
  first | done | congr 1
theorem x_okC1 (d : D) : okC (some (some (.val d))) = true := rfl
theorem x_okC2 : okC (some none) = true := rfl
theorem x_okC3 : okC none = true := rfl
theorem x_wipe0 (e : KM.Env) : wipeE e [] = e := rfl
theorem x_wipe (e : KM.Env) (v : Nat) (vs : List Nat) : wipeE e (v :: vs) = (wipeE e vs).set v none := rfl
theorem x_rest0 (e0 e : KM.Env) : restE e0 e [] = e := rfl
theorem x_rest (e0 e : KM.Env) (v : Nat) (vs : List Nat) : restE e0 e (v :: vs) = (restE e0 e vs).set v (e0[v]?.join) := rfl
theorem x_joinS {α : Type} (a : Option α) : (some a).join = a := rfl
def chO (op' : D → D → Option T) (y : Ob) (c : M Ob) (env : KM.Env) : Option T → Rs D
  | some (.val (.bl k)) => if k = true then (c env).bind fun z => fun env2 => M.opt (((lookB y env2).bind fun d => (lookB z env2).bind fun e => op' d e).map toD) env2 else .ok (.bl false) env
  | _ => .stuck
theorem x_chain (op op' : D → D → Option T) (a b c : M Ob) (env : KM.Env) : oChain op op' a b c env = (a env).bind fun x => b.bnd fun y => fun env => chO op' y c env ((lookB x env).bind fun d => (lookB y env).bind fun e => op d e) := rfl
theorem x_chO (op' : D → D → Option T) (y : Ob) (c : M Ob) (env : KM.Env) (k : Bool) : chO op' y c env (some (.val (.bl k))) = if k = true then (c env).bind fun z => fun env2 => M.opt (((lookB y env2).bind fun d => (lookB z env2).bind fun e => op' d e).map toD) env2 else .ok (.bl false) env := rfl
theorem x_zipT_LL {xs ys : List D} (h : min xs.length ys.length ≤ 16777216) : zipT [.lst xs, .lst ys] = some (.lst (leafs (zipD xs ys))) := x_zipT rfl rfl h
theorem x_zpL_LL (xs ys : List D) : zpL [.lst xs, .lst ys] = some (zipD xs ys) := rfl
theorem x_zipT_LT {xs ys : List D} (h : min xs.length ys.length ≤ 16777216) : zipT [.lst xs, .tup ys] = some (.lst (leafs (zipD xs ys))) := x_zipT rfl rfl h
theorem x_zpL_LT (xs ys : List D) : zpL [.lst xs, .tup ys] = some (zipD xs ys) := rfl
theorem x_zipT_TL {xs ys : List D} (h : min xs.length ys.length ≤ 16777216) : zipT [.tup xs, .lst ys] = some (.lst (leafs (zipD xs ys))) := x_zipT rfl rfl h
theorem x_zpL_TL (xs ys : List D) : zpL [.tup xs, .lst ys] = some (zipD xs ys) := rfl
theorem x_zipT_TT {xs ys : List D} (h : min xs.length ys.length ≤ 16777216) : zipT [.tup xs, .tup ys] = some (.lst (leafs (zipD xs ys))) := x_zipT rfl rfl h
theorem x_zpL_TT (xs ys : List D) : zpL [.tup xs, .tup ys] = some (zipD xs ys) := rfl
def extO3 (i : Nat) (e : KM.Env) (ts : List T) : Option (List D) → Rs T
  | some ds => if ts.length + ds.length ≤ 16777216 then .ok (.val .non) (putAt e i [] (.lst (ts ++ leafs ds))) else .stuck
  | none => .stuck
theorem x_ext2 (i : Nat) (x : Ob) (e : KM.Env) (ts : List T) : extO2 i x e (some (some (.lst ts))) = extO3 i e ts ((lookB x e).bind seqArg) := by
  show (match (lookB x e).bind seqArg with | some ds => _ | _ => _) = _
  unfold extO3
  cases (lookB x e).bind seqArg <;> rfl
theorem x_ext3 (i : Nat) (e : KM.Env) {ts : List T} {ds : List D} (hz : ts.length + ds.length ≤ 16777216) : extO3 i e ts (some ds) = .ok (.val .non) (putAt e i [] (.lst (ts ++ leafs ds))) := if_pos hz
end KM

/-! == of lists and tuples of ints. -/
namespace KM
open PySem PySem.Spec PyProof.Rows L2 Evl KP
theorem eqv_ints : ∀ a b : List Int, PyData.eqvAll (toPys (dis a)) (toPys (dis b)) = decide (a = b)
  | [], [] => by show PyData.eqvAll [] [] = _; rw [PyData.eqvAll]; rfl
  | [], _ :: _ => by show PyData.eqvAll [] (_ :: _) = _; rw [PyData.eqvAll]; rfl
  | _ :: _, [] => by show PyData.eqvAll (_ :: _) [] = _; rw [PyData.eqvAll]; rfl
  | x :: a, y :: b => by
    show PyData.eqvAll (PyData.int x :: toPys (dis a)) (PyData.int y :: toPys (dis b)) = _
    rw [PyData.eqvAll, eqv_ints a b, PyData.eqv]
    by_cases h : x = y <;> by_cases h2 : a = b <;> simp [h, h2]
theorem isPys_ints : ∀ a : List Int, isPys (dis a) = true
  | [] => rfl
  | x :: a => isPys_ints a
theorem can_ints : ∀ a : List Int, PyData.canLayAll0 (toPys (dis a)) = true
  | [] => by show PyData.canLayAll0 [] = true; rw [PyData.canLayAll0]
  | x :: a => by
    show PyData.canLayAll0 (PyData.int x :: toPys (dis a)) = true
    rw [PyData.canLayAll0, can_ints a, PyData.canLay0]; rfl
theorem depth_ints : ∀ a : List Int, PyData.depthAll (toPys (dis a)) = 0
  | [] => by show PyData.depthAll [] = 0; rw [PyData.depthAll]
  | x :: a => by
    show PyData.depthAll (PyData.int x :: toPys (dis a)) = 0
    rw [PyData.depthAll, depth_ints a, PyData.depth]; rfl
theorem len_toPys : ∀ a : List D, (toPys a).length = a.length
  | [] => rfl
  | x :: a => congrArg (· + 1) (len_toPys a)
theorem eqOk_L (a : List Int) : eqOk (.lst (dis a)) = true := by
  show (isPys (dis a) && SeqAt.shaped (.list (toPys (dis a)))) = true
  unfold SeqAt.shaped
  rw [isPys_ints, PyData.canLay0, can_ints, PyData.depth, depth_ints]
  rfl
theorem eqOk_T (a : List Int) : eqOk (.tup (dis a)) = true := by
  show (isPys (dis a) && SeqAt.shaped (.tuple (toPys (dis a)))) = true
  unfold SeqAt.shaped
  rw [isPys_ints, PyData.canLay0, can_ints, PyData.depth, depth_ints]
  rfl
theorem x_eqIL (a b : List Int) : opEq false (.lst (dis a)) (.lst (dis b)) = some (.val (.bl (decide (a = b)))) := by
  show (if (eqOk (.lst (dis a)) && eqOk (.lst (dis b))) = true then some (T.val (.bl (PyData.eqv (.list (toPys (dis a))) (.list (toPys (dis b)))))) else none) = _
  rw [eqOk_L, eqOk_L, PyData.eqv, eqv_ints]; rfl
theorem x_eqIT (a b : List Int) : opEq false (.tup (dis a)) (.tup (dis b)) = some (.val (.bl (decide (a = b)))) := by
  show (if (eqOk (.tup (dis a)) && eqOk (.tup (dis b))) = true then some (T.val (.bl (PyData.eqv (.tuple (toPys (dis a))) (.tuple (toPys (dis b)))))) else none) = _
  rw [eqOk_T, eqOk_T, PyData.eqv, eqv_ints]; rfl
end KM

/-! rows of ints. -/
namespace KM
open PySem PySem.Spec PyProof.Rows L2 Evl KP
theorem dis_nil : dis [] = [] := rfl
theorem dis_cons (n : Int) (ns : List Int) : dis (n :: ns) = .int n :: dis ns := rfl
theorem dis_app (a b : List Int) : dis (a ++ b) = dis a ++ dis b := List.map_append
theorem dis_get (a : List Int) (k : Nat) : (dis a)[k]? = (a[k]?).map D.int := List.getElem?_map
theorem dis_drop (a : List Int) (k : Nat) : dis (a.drop k) = (dis a).drop k := List.map_drop
theorem dis_take (a : List Int) (k : Nat) : dis (a.take k) = (dis a).take k := List.map_take
def cutI (ns : List Int) (lo hi : Option Int) : List Int := (ns.drop (HT.sIx ns.length 0 lo)).take (HT.sIx ns.length ns.length hi - HT.sIx ns.length 0 lo)
theorem x_cut (ns : List Int) (lo hi : Option Int) : cutD (dis ns) lo hi = dis (cutI ns lo hi) := by
  unfold cutD cutI
  rw [dis_len, dis_take, dis_drop]
theorem dis_mem {d : D} {ns : List Int} (h : d ∈ dis ns) : ∃ n, n ∈ ns ∧ d = .int n := by
  obtain ⟨n, h1, h2⟩ := List.mem_map.mp h
  exact ⟨n, h1, h2.symm⟩
end KM

/-! a call whose first argument is new. -/
namespace KM
open PySem PySem.Spec PyProof.Rows L2 Evl KP
section
variable {K : PySem.W.Frag} {Wx : WX} {Fz : List Nat} {H H' H1 H2 : Hp} {O O' Oo W W' W1 W2 fp : List Addr} {σ σ' ρ : L2.St} {env env' as : Env} {te ta tb tc : TE} {tt tu : TT} {tas : TA} {ts us : TS} {A : Ends}
def callT (mf : MF) (m0 : M T) (a : M (List Ob)) : M T := m0.bnd fun t0 => a.bnd fun os => fun env => match takeAs os env with
  | none => .stuck
  | some x => match mf (t0 :: x.2) with
    | .ok t outs => .ok t (giveAs os x.1 (outs.drop 1))
    | .exc c ns ds outs => .exc c ns ds (giveAs os x.1 (outs.drop 1))
    | .stuck => .stuck
theorem io_callT {n : Nat} {mf : MF} {m0 m} (b : IO K Wx ta m0) (a : IA K Wx tas m) (hlen : ∀ env os e, m env = .ok os e → os.length = n) : IO K Wx (tCalX (spM K (n + 1) mf) Wx (tCons ta tas)) (callT mf m0 m) := fun Oo W σ H env Q E q => by
  refine b Oo W σ H env _ E ((M.bnd_to q).mono (fun t0 e0 hq v0 H0 W0 fp0 l0 E0 nd0 nf0 o0 => ?_) fun _ _ _ _ x => x)
  refine a (Oo ++ fp0) W0 σ H0 e0 _ E0 ?_
  have hq := M.bnd_to hq
  have nfW : ∀ p ∈ fp0, p ∉ W0 := fun p hp z => E0.dj p z (List.mem_append_right _ hp)
  cases zm : m e0 with
  | exc c ns ds e =>
    rw [zm] at hq
    intro dx H' W' l E x
    have s : ∀ p ∈ Oo ++ W', p ∈ Oo ++ fp0 ++ W' := fun p hp => by simp at hp ⊢; rcases hp with y | y <;> simp [y]
    refine hq dx H' W' ((l0.both l nfW).trans (Lv.less fun p hp => List.mem_append_left _ hp)) ⟨E.ce.lv (Lv.sub s) (fun _ _ => rfl), E.nd, fun p hp z => E.dj p hp (List.mem_append_left _ z), fun p hp => E.dom p (List.mem_append_left _ hp)⟩ ?_
    cases dx with
    | none => exact x
    | some a => obtain ⟨us, h1, h2, h3⟩ := x; exact ⟨us, h1, h2, h3.lv (Lv.sub s)⟩
  | stuck => rw [zm] at hq; exact hq
  | ok os e =>
    rw [zm] at hq
    intro vs H1 W1 l1 E1 r1
    have hos := hlen e0 os e zm
    have hq : Rs.To (match takeAs os e with
      | none => .stuck
      | some x => match mf (t0 :: x.2) with
        | .ok t outs => .ok t (giveAs os x.1 (outs.drop 1))
        | .exc c ns ds outs => .exc c ns ds (giveAs os x.1 (outs.drop 1))
        | .stuck => .stuck : Rs T) _ _ := hq
    cases zt : takeAs os e with
    | none => rw [zt] at hq; exact hq.elim
    | some x =>
      rw [zt] at hq
      dsimp only at hq
      have hl1 : e.length = σ.length := E1.len.symm
      have hx : x.1.length = σ.length := by rw [takeAs_len (ts := x.2) (show takeAs os e = some (x.1, x.2) by rw [zt])]; exact hl1
      obtain ⟨W2, p2, E2⟩ := ER.takes (ρ := []) (as := []) (ts := x.2) (e1 := x.1) (by simpa using E1) hl1 r1 (by rw [zt])
      rw [List.nil_append, List.nil_append] at E2
      obtain ⟨Wd, Wc, hW, c1, c2⟩ := Ce.split hx E2.ce
      subst hW
      have nd2 := List.nodup_append.mp E2.nd
      have dj0 : ∀ p ∈ fp0, p ∉ Wd ∧ p ∉ Wc := fun p hp => ⟨fun z => E2.dj p (List.mem_append_left _ z) (List.mem_append_right _ hp), fun z => E2.dj p (List.mem_append_right _ z) (List.mem_append_right _ hp)⟩
      have o1 : Ow K H1 (Oo ++ Wd ++ (fp0 ++ Wc)) t0 v0 fp0 := o0.lv ⟨fun p o hn h => l1.kp p o (fun z => hn (by simp [z])) h, fun p hp => by
          have : p ∈ Oo ∨ p ∈ fp0 ∨ p ∈ W1 := by
            have := p2.mem_iff (a := p)
            simp at hp this ⊢
            rcases hp with y | y | y | y
            · exact .inl y
            · exact .inr (.inr (this.mp (.inl y)))
            · exact .inr (.inl y)
            · exact .inr (.inr (this.mp (.inr y)))
          rcases this with y | y | y
          · exact .inl (by simp [y])
          · exact .inl (by simp [y])
          · exact (l1.out p y).imp (fun z => by simp [z]) id⟩ fun p hp => by
        obtain ⟨o, h⟩ := Mut.ex (o0.dom p hp)
        rw [h]; exact l1.kp p o (nfW p hp) h
      have Ec : ER K (Oo ++ Wd) (fp0 ++ Wc) ((v0 :: vs).map some) H1 ((t0 :: x.2).map some) := ⟨⟨v0, vs.map some, fp0, Wc, rfl, rfl, o1, c2.lv (Lv.sub fun p hp => by simp at hp ⊢; rcases hp with y | y | y | y <;> simp [y]) (fun _ _ => rfl)⟩,
        List.nodup_append.mpr ⟨nd0, nd2.2.1, fun p hp q hq z => (dj0 p hp).2 (z ▸ hq)⟩, fun p hp z => by
          rcases List.mem_append.mp hp with y | y
          · rcases List.mem_append.mp z with w | w
            · exact nf0 p y w
            · exact (dj0 p y).1 w
          · rcases List.mem_append.mp z with w | w
            · exact E2.dj p (List.mem_append_right _ y) (List.mem_append_left _ w)
            · exact nd2.2.2 p w p y rfl, fun p hp => by
          rcases List.mem_append.mp hp with y | y
          · exact E2.dom p (List.mem_append_left _ y)
          · exact c1.dom p y⟩
      refine ⟨by show vs.length + 1 = n + 1; rw [r1.len, hos], Oo ++ Wd, fp0 ++ Wc, t0 :: x.2, Ec, ?_⟩
      have perm : ∀ p, p ∈ W1 ↔ p ∈ Wd ∨ p ∈ Wc := fun p => by rw [← p2.mem_iff, List.mem_append]
      have l01 : Lv H W H1 (W1 ++ fp0) := l0.both l1 nfW
      have back : ∀ {H' : Hp} {W' fp : List Addr} {outs : List T}, Lv H1 (fp0 ++ Wc) H' (W' ++ fp) → ER K (Oo ++ Wd ++ fp) W' ((v0 :: vs).map some) H' (outs.map some) → (∀ p ∈ fp, p ∉ Oo ++ Wd) →
          ∃ W3, (∀ p ∈ W3, p ∈ Wd ++ W') ∧ ER K (Oo ++ fp) W3 σ H' (giveAs os x.1 (outs.drop 1)) := fun {H' W' fp outs} l Eo nf => by
        cases outs with
        | nil => have := Eo.len; simp at this
        | cons u outs =>
          obtain ⟨Wn, sn, Eo⟩ := ER.drop1 (σ := []) (env := []) rfl (show ER K (Oo ++ Wd ++ fp) W' ([] ++ (some v0 :: vs.map some)) H' ([] ++ (some u :: outs.map some)) from Eo)
          rw [List.nil_append, List.nil_append] at Eo
          have c1' : Ce K H' (Oo ++ fp ++ (Wd ++ Wn)) x.1 σ Wd := c1.lv ⟨fun p o hn h => l.kp p o (fun z => hn (by simp at z ⊢; rcases z with y | y <;> simp [y])) h, fun p hp => by
              simp at hp
              rcases hp with y | y | y | y
              · exact .inl (by simp [y])
              · exact (l.out p (by simp [y])).imp (fun z => by simp at z ⊢; rcases z with w | w <;> simp [w]) id
              · exact .inl (by simp [y])
              · exact (l.out p (by simp [sn p y])).imp (fun z => by simp at z ⊢; rcases z with w | w <;> simp [w]) id⟩ fun p hp => by
            obtain ⟨o, h⟩ := Mut.ex (c1.dom p hp)
            rw [h]; exact l.kp p o (fun z => by
              rcases List.mem_append.mp z with y | y
              · exact (dj0 p y).1 hp
              · exact nd2.2.2 p hp p y rfl) h
          have c2' : Ce K H' (Oo ++ fp ++ (Wd ++ Wn)) (outs.map some) (vs.map some) Wn := Eo.ce.lv (Lv.sub fun p hp => by simp at hp ⊢; rcases hp with y | y | y | y <;> simp [y]) fun _ _ => rfl
          have Ej : ER K (Oo ++ fp) (Wd ++ Wn) (σ ++ vs.map some) H' (x.1 ++ outs.map some) := ⟨Ce.app c1' c2', List.nodup_append.mpr ⟨nd2.1, Eo.nd, fun a ha b hb z => Eo.dj b hb (by rw [← z]; simp [ha])⟩, fun p hp z => by
              rcases List.mem_append.mp hp with y | y
              · rcases List.mem_append.mp z with w | w
                · exact E2.dj p (List.mem_append_left _ y) (List.mem_append_left _ w)
                · exact nf p w (List.mem_append_right _ y)
              · exact Eo.dj p y (by simp at z ⊢; rcases z with w | w <;> simp [w]), fun p hp => Eo.dom p (by simp at hp ⊢; rcases hp with w | w <;> simp [w])⟩
          have ho : outs.length = vs.length := by have := Eo.len; simp at this; exact this.symm
          obtain ⟨W3, s3, E3⟩ := ER.gives Ej hx ho r1 (takeAs_dead (ts := x.2) (show takeAs os e = some (x.1, x.2) by rw [zt])) (takeAs_nms (ts := x.2) (show takeAs os e = some (x.1, x.2) by rw [zt]))
          exact ⟨W3, fun p hp => by
            rcases List.mem_append.mp (s3 p hp) with y | y
            · exact List.mem_append_left _ y
            · exact List.mem_append_right _ (sn p y), E3⟩
      have lvb : ∀ {H' W' W3 fp}, Lv H1 (fp0 ++ Wc) H' (W' ++ fp) → (∀ p ∈ W3, p ∈ Wd ++ W') → Lv H1 (W1 ++ fp0) H' (W3 ++ fp) := fun {H' W' W3 fp} l s => ⟨fun p o hn h => l.kp p o (fun z => hn (by
          rcases List.mem_append.mp z with y | y
          · exact List.mem_append_right _ y
          · exact List.mem_append_left _ ((perm p).mpr (.inr y)))) h, fun p hp => by
        have fin : p ∈ fp0 ++ Wc ∨ H1 p = none → p ∈ W1 ++ fp0 ∨ H1 p = none := fun z => z.imp (fun z => by
          rcases List.mem_append.mp z with y | y
          · exact List.mem_append_right _ y
          · exact List.mem_append_left _ ((perm p).mpr (.inr y))) id
        rcases List.mem_append.mp hp with y | y
        · rcases List.mem_append.mp (s p y) with w | w
          · exact .inl (List.mem_append_left _ ((perm p).mpr (.inl w)))
          · exact fin (l.out p (List.mem_append_left _ w))
        · exact fin (l.out p (List.mem_append_right _ y))⟩
      cases zf : mf (t0 :: x.2) with
      | ok t outs =>
        rw [zf] at hq
        intro v H' W' fp l Eo nd nf o
        obtain ⟨W3, s3, E3⟩ := back l Eo nf
        refine hq v H' W3 fp (l01.trans (lvb l s3)) E3 nd (fun p hp z => nf p hp (List.mem_append_left _ z)) (o.lv (Lv.sub fun p hp => ?_) fun _ _ => rfl)
        simp at hp ⊢
        rcases hp with y | y | y
        · simp [y]
        · simp [y]
        · rcases List.mem_append.mp (s3 p y) with w | w <;> simp [w]
      | exc c ns ds outs =>
        rw [zf] at hq
        intro dx H' W' l Eo xr
        obtain ⟨W3, s3, E3⟩ := back (fp := []) (by simpa using l) (by simpa using Eo) (by simp)
        rw [List.append_nil] at E3
        refine hq dx H' W3 (l01.trans (by simpa using lvb (fp := []) (by simpa using l) s3)) E3 ?_
        have lv : Lv H' (Oo ++ Wd ++ W') H' (Oo ++ W3) := Lv.sub fun p hp => by
          simp at hp ⊢
          rcases hp with y | y
          · simp [y]
          · rcases List.mem_append.mp (s3 p y) with w | w <;> simp [w]
        cases dx with
        | none => exact xr
        | some a => obtain ⟨us, h1, h2, h3⟩ := xr; exact ⟨us, h1, h2, h3.lv lv⟩
      | stuck => rw [zf] at hq; exact hq.elim
def callTO (mf : MF) (t0 : T) (os : List Ob) : Option (Env × List T) → Rs T
  | none => .stuck
  | some x => (mf (t0 :: x.2)).rs fun outs => giveAs os x.1 (outs.drop 1)
theorem x_callT (mf : MF) (m0 : M T) (a : M (List Ob)) (env : Env) : callT mf m0 a env = (m0 env).bind fun t0 => a.bnd fun os e => callTO mf t0 os (takeAs os e) := by
  unfold callT
  rw [x_bnd]
  cases m0 env with
  | ok t0 e0 =>
    show ((a e0).bind _) = ((a e0).bind _)
    cases a e0 with
    | ok os e =>
      show (match takeAs os e with | none => _ | some x => _) = callTO mf t0 os (takeAs os e)
      unfold callTO
      cases takeAs os e with
      | none => rfl
      | some x => dsimp only; cases mf (t0 :: x.2) <;> rfl
    | _ => rfl
  | _ => rfl
theorem x_callTO (mf : MF) (t0 : T) (os : List Ob) (e : Env) (ts : List T) : callTO mf t0 os (some (e, ts)) = (mf (t0 :: ts)).rs fun outs => giveAs os e (outs.drop 1) := rfl
theorem x_drop1 (t : T) (ts : List T) : (t :: ts).drop 1 = ts := rfl
end
end KM

/-! Own exceptions as values: made, asked for class and attributes. -/
namespace KM
open PySem PySem.Spec PySem.Calls PyProof.Rows L2 Evl KP
/-- what is asked of an own exception's class -/
def xcB (K : PySem.W.Frag) (C : Addr) : Bool :=
  (PySem.W.clsIn K C).isSome && (decide (PySem.W.specialIn K (.builtin "object.__class__") "__get__" = some (some (.builtin "getset_descriptor.__get__"))) && (decide (PySem.W.takesIn K (.builtin "object.__class__") = some true) &&
    (decide (PySem.W.mroIn K C (.type "object") = some true) && (decide (PySem.W.findIn K (.ref C) "__class__" = some (some (.builtin "object.__class__"))) && xfB K C))))
structure XcC (K : PySem.W.Frag) (C : Addr) : Prop where
  cl : (PySem.W.clsIn K C).isSome = true
  sp : PySem.W.specialIn K (.builtin "object.__class__") "__get__" = some (some (.builtin "getset_descriptor.__get__"))
  tk : PySem.W.takesIn K (.builtin "object.__class__") = some true
  mr : PySem.W.mroIn K C (.type "object") = some true
  fc : PySem.W.findIn K (.ref C) "__class__" = some (some (.builtin "object.__class__"))
  xf : XfC K C
theorem xcB_ok {K : PySem.W.Frag} {C : Addr} (h : xcB K C = true) : XcC K C := by
  unfold xcB at h
  simp only [Bool.and_eq_true, decide_eq_true_eq] at h
  exact ⟨h.1, h.2.1, h.2.2.1, h.2.2.2.1, h.2.2.2.2.1, xfB_ok h.2.2.2.2.2⟩
/-- an exception as it stands at a -/
def ExStand (H : Hp) (C a : Addr) (fs : List (Str × V)) : Prop := (fs = [] ∧ H a = some (exo a C none)) ∨ ∃ dx, H a = some (exo a C (some dx)) ∧ H dx = some (exd dx fs)
section
variable {X : Cx} {pins : List (Addr × Obj)} {σ : L2.St} {H : Hp} {s : Shared}
theorem ExStand.inst (I : Inv X pins σ H s) {C a : Addr} {fs : List (Str × V)} (h : ExStand H C a fs) : ∃ ox od, PySem.W.InstAt s.heap a ox C od ∧ ∀ n v, fs.lookup n = some v → ∃ u o, od = some o ∧ PySem.W.lookIn n o = some (some u) ∧ RelV v u := by
  rcases h with ⟨e, h⟩ | ⟨dx, h, hd⟩
  · obtain ⟨t1, ho⟩ := exo_at I.hok h
    exact ⟨_, none, ⟨ho, rfl, rfl, trivial⟩, fun n v z => by rw [e] at z; cases z⟩
  · obtain ⟨t1, ho⟩ := exo_at I.hok h
    obtain ⟨mA, hns, rel⟩ := exd_at I.hok hd
    obtain ⟨od, hod, hl⟩ := lookIn_ns hns
    refine ⟨_, some od, ⟨ho, rfl, rfl, hod⟩, fun n v z => ?_⟩
    obtain ⟨u, hu, ru⟩ := RelO.some_of (v := v) (o := mA n) (by rw [← z]; exact rel n)
    exact ⟨u, od, rfl, by rw [hl, hu], ru⟩
end
/-- isinstance(e, c) of such a value -/
def rIsE2 (K : PySem.W.Frag) : List V → Hp → VK → Prop := fun xs H Q => ∃ (a C : Addr) (fs : List (Str × V)) (c : V) (cv : Value) (b : Bool), xs = [.ref a, c] ∧ ClsV c cv ∧ XcC K C ∧ ExStand H C a fs ∧ PySem.W.kitOne K (.ref C) cv = some b ∧ Q (.bl b) H
def rIsiX (K : PySem.W.Frag) : List V → Hp → VK → Prop := fun xs H Q => rIsi K xs H Q ∨ rIsE2 K xs H Q
theorem call_isiX {X : Cx} : CallR X (.builtin "isinstance") (rIsiX X.K) := by
  intro pins s σ H xs us Q I r h
  rcases h with h | ⟨a, C, fs, c, cv, b, rfl, hc, xc, st, e, q⟩
  · exact call_isi pins s σ H xs us Q I r h
  · obtain ⟨u1, u2, rfl, r1, r2⟩ := vals2 r
    cases (show u1 = Value.ref a from r1)
    have ec := hc.eq r2
    subst ec
    obtain ⟨ox, od, J, _⟩ := st.inst I
    exact PySem.W.kia_one (PySem.W.kitx_exc xc.cl xc.xf.ga xc.xf.gg xc.xf.exC xc.fc xc.sp xc.tk xc.mr) I.kIn J e (fun z => nomatch z) fun tk => ⟨.bl b, H, I.tok tk, rfl, q⟩
/-- e.f of such a value, or of an instance -/
def tFldX (K : PySem.W.Frag) (te : TE) (f : Str) : TE := fun σ H Q => te σ H fun x H1 =>
  (∃ a C dx fs v, x = .ref a ∧ H1 a = some (.ins C dx fs) ∧ Cls K C ∧ NoAttr K C f ∧ fs.lookup f = some v ∧ Q v H1) ∨
  ∃ a C fs v, x = .ref a ∧ ExStand H1 C a fs ∧ XfC K C ∧ PySem.W.findIn K (.ref C) f = some none ∧ fs.lookup f = some v ∧ Q v H1
theorem pe_fldX {X : Cx} {e : Expr} {te : TE} {f : Str} {pos : Pos} (he : PE X e te) (hb : attributeBase e f X.env (eval e X.env) = eval e X.env) : PE X (.Attribute e f pos) (tFldX X.K te f) := by
  refine ⟨fun pins s σ H Q I h => ?_⟩
  refine attr_of hb (thn (he.run pins s σ H _ I h) fun u s1 hh => ?_)
  obtain ⟨x, H1, I1, rx, q⟩ := hh
  rcases q with ⟨a, C, dx, fs, v, ex, ea, c, n, l, q⟩ | ⟨a, C, fs, v, ex, st, xf, n, l, q⟩
  · subst ex
    obtain rfl : u = Value.ref a := rx
    exact getattr_ok I1 ea c n l fun u' s2 I2 ru => ⟨v, H1, I2, ru, q⟩
  · subst ex
    obtain rfl : u = Value.ref a := rx
    obtain ⟨ox, od, J, look⟩ := st.inst I1
    obtain ⟨u', o, eo, hl, ru⟩ := look f v l
    subst eo
    exact HandSPX.exc_get I1.kIn J xf.ga xf.gg xf.exC (PySem.W.findObj_own xf.hdC n rfl hl) (handed_of ru) ⟨v, H1, I1.tok _, ru, q⟩
/-! ### made -/
/-- C(), a class without __init__ -/
def tMk0 (C : Addr) : TE := fun σ H Q => ∀ a, H a = none → Q (.ref a) (upd H a (exo a C none))
theorem pe_mk0 {X : Cx} {C : Addr} {x : Str} {p pos : Pos} (q : PySem.W.excIn X.K C He.veBase "ValueError.__new__" = true) (gC : X.mg x = some (.ref C)) (kC : PySem.W.keepIn X.K (.ref C) = true) (hg : Gl X x)
    (hdb : (x == ("__debug__" : Str)) = false := by decide) : PE X (.Call (.Name x p) [] [] pos) (tMk0 C) := by
  refine ⟨fun pins s σ H Q I h => ?_⟩
  refine wpAny_Call_Name_kw (ld_glob I hg gC ?_ hdb)
  refine PySem.W.callWith_K0 I.kIn kC ?_
  obtain ⟨bm, N, nm, qn, bs, hdct, sn, sub, ab, col, dd, k0, k1, k2, k3, k5, mN, hC, hN, hni, T⟩ := exc_obj I.kIn q
  refine wpAny_call_exc_subT F.excBase_ValueError T hC hN hni (fun h' a hm => ?_) (Nat.zero_le _)
  have hn : H a = none := I.hok.gone hm.new
  obtain ⟨t, ht, _, _⟩ := hm.there
  exact ⟨.ref a, upd H a (exo a C none), I.laidN hm.keeps hm.new hn (exo_ok ht), rfl, h a hn⟩
/-- C(e, ..), the class's own __init__ keeping sp -/
def tMkV (C : Addr) (sp : Sp) (ta : TA) : TE := fun σ H Q => ta σ H fun vs H1 => vs.length ≤ 1000 ∧ ∀ a, H1 a = none → sp (.ref a :: vs) (upd H1 a (exo a C none)) (fun v H2 => v = .non ∧ Q (.ref a) H2) (fun _ _ _ => False)
theorem pe_mkV {X : Cx} {CX : CXT} {x : Str} {C fI : Addr} {k : Nat} {fd : FuncData} {ps : List Str} {sp : Sp} {e : Expr} {es : List Expr} {ta : TA} {p pos : Pos} (T : OexC X.K C) (iC : PySem.W.findIn X.K (.ref C) "__init__" = some (some (.ref fI)))
    (tI : PySem.W.typeIn X.K (.ref fI) = some (.type "function")) (F1 : FnOk X.prog X.w X.K X.mg X.base CX k fI fd ps sp) (hr : Room (k + 1) X.A) (hb : Binds X.K fd ps []) (hx : Passes CX X (fun _ _ _ => False)) (hg : Gl X x) (hm : X.mg x = some (.ref C))
    (ha : PA X (e :: es) ta) (hdb : (x == ("__debug__" : Str)) = false := by decide) (he : starEach (e :: es) X.env = (false, eval e X.env) :: starEach es X.env := by rfl) (hpl : (backTo pos (starEach es X.env)).any (·.1) = false := by rfl) :
    PE X (.Call (.Name x p) (e :: es) [] pos) (tMkV C sp ta) := by
  refine ⟨fun pins s σ H Q I h => ?_⟩
  obtain ⟨nm, q, N, bs, bm, sn, sub, ab, col, dd, k0, k1, k2, k3, k5, hC, hbm⟩ := T.cls
  refine wpAny_Call_Name_kw (ld_glob I hg hm ?_ hdb)
  refine PySem.W.callWith_K (h₀ := X.base) I.ok.mod.kin T.kC (thn (ha.run pos pins s σ H _ I h) fun us s1 ⟨vs, H1, I1, r1, hz, q1⟩ => ⟨I1.kIn, ?_⟩) he hpl
  show wpAny _ _ (call (.ref C) us) _ _ _
  obtain ⟨hp, g, dr, tk, os⟩ := s1
  have hn : H1 (hp.objs.size + 1) = none := I1.hok.fresh (Nat.le_succ _)
  have hq := q1 (hp.objs.size + 1) hn
  have kk : ∀ b o, hp.get? b = some o → ((hp.push (PySem.W.kdv_tup us)).push (PySem.HandSPX.excO C hp.objs.size)).get? b = some o := fun b o e => Heap.get?_push_of_some _ (Heap.get?_push_of_some _ e)
  have hget : ((hp.push (PySem.W.kdv_tup us)).push (PySem.HandSPX.excO C hp.objs.size)).get? (hp.objs.size + 1) = some (PySem.HandSPX.excO C hp.objs.size) := by heap_get
  have I2 := I1.laid (t' := tk) (a := hp.objs.size + 1) (o := exo (hp.objs.size + 1) C none) kk (Nat.le_succ _) (exo_ok hget)
  have r2 : Vals (V.ref (hp.objs.size + 1) :: vs) (Value.ref (hp.objs.size + 1) :: us) := .cons rfl r1
  have hl : (Value.ref (hp.objs.size + 1) :: us).length = ps.length := by
    rw [← r2.length]
    exact F1.len _ _ _ _ hq
  have hus : us.length ≤ sizeLine := by
    rw [← Paired.length r1, sizeLine_eq]
    omega
  have bd := hb ⟨(hp.push (PySem.W.kdv_tup us)).push (PySem.HandSPX.excO C hp.objs.size), g, dr, tk, os⟩ (Value.ref (hp.objs.size + 1) :: us) I2.kIn (by rw [List.append_nil]; exact hl)
  rw [List.append_nil] at bd
  refine wpAny_call (PySem.HandSPX.call_own F.excBase_ValueError (fun Y => PySem.HandSPX.refsVE_contains Y bm hbm) (I1.kIn _ _ hC) (PySem.W.looks_findIn I1.kIn iC) (fun self => PySem.W.bind_fn I1.kIn self tI) hus
    (codeAny_mono (F1.run _ X.stack _ _ ⟨Value.ref (hp.objs.size + 1) :: us, []⟩ _ _ _ (fun _ _ _ => False) (hr.make C us []) (I2.env0.make C us []) bd r2 hq) fun r s' hq' => ?_))
  cases r with
  | error er => exact hx pins σ _ _ er s' I2 hq'
  | ok fl =>
    cases fl with
    | ret u =>
      obtain ⟨v, H2, os2, bare2, un2, hok2, rv, ev, q2⟩ := hq'
      subst ev
      exact ⟨rv, .ref (hp.objs.size + 1), H2, I2.call' (ch := []) os2 un2 hok2 bare2 (fun b z => absurd z (by simp)), rfl, q2⟩
    | next => exact False.elim hq'
    | brk => exact False.elim hq'
    | cont => exact False.elim hq'
end KM

/-! Own exceptions as values in the mirror. -/
namespace KM
open PySem PySem.Spec PySem.Calls PyProof.Rows L2 Evl KP
/-! ### the class's own facts -/
def oexB (K : PySem.W.Frag) (C : Addr) : Bool := (match K.lookup C with
  | some ⟨.type "type", _, .cls cd, sl⟩ => (match cd.mro, sl.toList with
    | .ref D :: bm, [_, _, _, _, some (.builtin n), _] => decide (D = C) && (decide (n = "ValueError.__new__") && (!cd.hasDel && (cd.hasDict && HandSPX.refsVE bm)))
    | _, _ => false)
  | _ => false) && (decide (PySem.W.findIn K (.ref C) "__setattr__" = some (some (.builtin "object.__setattr__"))) && (decide (PySem.W.subIn K (.ref C) (.type "BaseException") = some true) &&
    (decide (PySem.W.typeIn K (.ref C) = some (.type "type")) && PySem.W.keepIn K (.ref C))))
theorem oexB_ok {K : PySem.W.Frag} {C : Addr} (h : oexB K C = true) : OexC K C := by
  unfold oexB at h
  simp only [Bool.and_eq_true, decide_eq_true_eq] at h
  obtain ⟨h, h1, h2, h3, h4⟩ := h
  refine ⟨?_, h1, h2, h3, h4⟩
  split at h
  · rename_i dd cd sl ho
    split at h
    · rename_i D bm k0 k1 k2 k3 n k5 hm hs
      simp only [Bool.and_eq_true, decide_eq_true_eq, Bool.not_eq_true'] at h
      obtain ⟨e1, e2, e3, e4, e5⟩ := h
      subst e1 e2
      obtain ⟨nm, bs, mro, N, q, hd, sn, sub, ab, col, del⟩ := cd
      dsimp only at hm e3 e4
      subst hm e3 e4
      obtain ⟨l⟩ := sl
      dsimp only at hs
      subst hs
      exact ⟨nm, q, N, bs, bm, sn, sub, ab, col, dd, k0, k1, k2, k3, k5, ho, e5⟩
    · cases h
  · cases h
/-! ### the table of the classes -/
/-- an exception's class: the own classes above it (itself too), the built-in ones, its attributes -/
structure CE1 where
  nm : Str
  up : List Str
  bt : List String
  at_ : List Str
def ctB (ct : List CE1) (us : List Str) (bs : List String) : Ex1 := fun K => ct.all fun e => xcB K (He.ga K e.nm) && (us.all (fun d => decide (PySem.W.kitOne K (.ref (He.ga K e.nm)) (.ref (He.ga K d)) = some (e.up.contains d))) &&
  (bs.all (fun n => decide (PySem.W.kitOne K (.ref (He.ga K e.nm)) (.type n) = some (e.bt.contains n))) && e.at_.all fun f => decide (PySem.W.findIn K (.ref (He.ga K e.nm)) f = some none)))
def ceOf (ct : List CE1) (c : Str) : Option CE1 := ct.find? fun e => decide (e.nm = c)
theorem ceOf_ok {ct : List CE1} {c : Str} {e : CE1} (h : ceOf ct c = some e) : e ∈ ct ∧ e.nm = c := by
  unfold ceOf at h
  exact ⟨List.mem_of_find?_eq_some h, by simpa using List.find?_some h⟩
section
variable {K : PySem.W.Frag} {Wx : WX} {H H' H1 H2 : Hp} {O O' Oo W W' W1 W2 fp : List Addr} {σ : L2.St} {env env' : Env} {te ta tb tc : TE} {tas : TA} {ct : List CE1} {us : List Str} {bs : List String}
theorem ExAt.stand {C p : Addr} {fs : List (Str × V)} (h : ExAt H O C p fs) : ExStand H C p fs := by
  rcases h with h | ⟨dx, _, h1, h2⟩
  · exact .inl h
  · exact .inr ⟨dx, h1, h2⟩
theorem ctB_at (h : ctB ct us bs K = true) {e : CE1} (he : e ∈ ct) : XcC K (He.ga K e.nm) ∧ (∀ d ∈ us, PySem.W.kitOne K (.ref (He.ga K e.nm)) (.ref (He.ga K d)) = some (e.up.contains d)) ∧
    (∀ n ∈ bs, PySem.W.kitOne K (.ref (He.ga K e.nm)) (.type n) = some (e.bt.contains n)) ∧ ∀ f ∈ e.at_, PySem.W.findIn K (.ref (He.ga K e.nm)) f = some none := by
  unfold ctB at h
  have := List.all_eq_true.mp h e he
  simp only [Bool.and_eq_true, List.all_eq_true, decide_eq_true_eq] at this
  exact ⟨xcB_ok this.1, this.2.1, this.2.2.1, this.2.2.2⟩
/-- isinstance, exceptions too -/
def bIsiX (ct : List CE1) (us : List Str) (bs : List String) : List D → Option T
  | [.exc c _ _, .glo d] => (ceOf ct c).bind fun e => if us.contains d = true then some (.val (.bl (e.up.contains d))) else none
  | [.exc c _ _, .ty n] => (ceOf ct c).bind fun e => if bs.contains n = true then some (.val (.bl (e.bt.contains n))) else none
  | ds => bIsi ds
theorem s_isiX (hc : ctB ct us bs K = true) : OpA K (rIsiX K) (bIsiX ct us bs) := by
  intro H O xs ds t Q hn r h q
  unfold bIsiX at h
  split at h
  · rename_i c ns es d
    obtain ⟨v, vs', rfl, a, w, vs2, rfl, b, e⟩ := r
    cases (show vs2 = [] from e)
    cases (show w = _ from b)
    cases e1 : ceOf ct c with
    | none => rw [e1] at h; cases h
    | some e =>
      rw [e1] at h
      dsimp only [Option.bind_some] at h
      split at h
      · rename_i hz
        cases h
        obtain ⟨m1, m2⟩ := ceOf_ok e1
        obtain ⟨z1, z2, z3, z4⟩ := ctB_at hc m1
        obtain ⟨p, vs, e0, _, _, st, _⟩ := a
        subst e0
        rw [← m2] at st
        exact .inr ⟨p, _, _, _, _, _, rfl, .own _, z1, st.stand, z2 d (by simpa using hz), ans (K := K) q rfl⟩
      · cases h
  · rename_i c ns es n
    obtain ⟨v, vs', rfl, a, w, vs2, rfl, b, e⟩ := r
    cases (show vs2 = [] from e)
    cases (show w = _ from b)
    cases e1 : ceOf ct c with
    | none => rw [e1] at h; cases h
    | some e =>
      rw [e1] at h
      dsimp only [Option.bind_some] at h
      split at h
      · rename_i hz
        cases h
        obtain ⟨m1, m2⟩ := ceOf_ok e1
        obtain ⟨z1, z2, z3, z4⟩ := ctB_at hc m1
        obtain ⟨p, vs, e0, _, _, st, _⟩ := a
        subst e0
        rw [← m2] at st
        exact .inr ⟨p, _, _, _, _, _, rfl, .ty _, z1, st.stand, z3 n (by simpa using hz), ans (K := K) q rfl⟩
      · cases h
  · exact .inl (s_isi _ _ _ _ _ _ hn r h q)
/-! ### an attribute -/
def fldX (ct : List CE1) (f : Str) : D → Option D
  | .exc c ns ds => (ceOf ct c).bind fun e => if e.at_.contains f = true then (ixOf f ns).bind fun k => ds[k]? else none
  | _ => none
def vFldX (ct : List CE1) (f : Str) (m : M D) : M D := m.bnd fun d => fun env => M.opt (fldX ct f d) env
theorem iv_fldX {f : Str} {m} (hc : ctB ct us bs K = true) (a : IV K Wx te m) : IV K Wx (tFldX K te f) (vFldX ct f m) := fun Oo W σ H env Q E q => by
  refine a Oo W σ H env _ E ((M.bnd_to q).mono (fun d env1 q v H1 W1 l1 E1 r1 => ?_) fun _ _ _ _ x => x)
  obtain ⟨y, e, q2⟩ := M.opt_to q
  unfold fldX at e
  split at e
  · rename_i c ns ds
    cases e1 : ceOf ct c with
    | none => rw [e1] at e; cases e
    | some ce =>
      rw [e1] at e
      dsimp only [Option.bind_some] at e
      split at e
      · rename_i hz
        cases e2 : ixOf f ns with
        | none => rw [e2] at e; cases e
        | some k =>
          rw [e2] at e
          have e : ds[k]? = some y := e
          obtain ⟨m1, m2⟩ := ceOf_ok e1
          obtain ⟨z1, z2, z3, z4⟩ := ctB_at hc m1
          obtain ⟨p, vs, e0, _, hl, st, rs⟩ := r1
          subst e0
          rw [← m2] at st
          obtain ⟨u, h1, h2⟩ := Rvs.fld hl rs e2 e
          exact .inr ⟨p, _, _, u, rfl, st.stand, z1.xf, z4 f (by simpa using hz), h1, q2 u H1 W1 l1 E1 h2⟩
      · cases e
  · cases e
/-! ### made -/
def mMk0 (c : Str) : M T := M.ret (.val (.exc c [] []))
theorem io_mk0 {c : Str} : IO K Wx (tMk0 (He.ga K c)) (mMk0 c) := fun Oo W σ H env Q E q => by
  intro a ha
  have ex : Evl.Ex H (upd H a (exo a (He.ga K c) none)) := Evl.Ex.new ha
  exact q (.ref a) _ W [] (by simpa using Lv.ex ex) (by simpa using E.ex ex) List.nodup_nil (by simp) ⟨rfl, a, [], rfl, by simpa using E.new ha, rfl, .inl ⟨rfl, upd_same⟩, rfl⟩
/-- what __init__ promises: the attributes, in order -/
def spI (K : PySem.W.Frag) (c : Str) (ns : List Str) : Sp := fun vs H Q E => ∃ a ws, vs = .ref a :: ws ∧ ws.length = ns.length ∧ H a = some (exo a (He.ga K c) none) ∧
  ∀ d H', H d = none → d ≠ a → H' a = some (exo a (He.ga K c) (some d)) → H' d = some (exd d (ns.zip ws).reverse) → (∀ b, b ≠ a → b ≠ d → H' b = H b) → Q .non H'
theorem zip_rev {α β : Type} : ∀ {l : List α} {r : List β}, l.length = r.length → (l.zip r).reverse = l.reverse.zip r.reverse := fun {l r} h => by
  unfold List.zip
  exact List.reverse_zipWith h
theorem Rvs.rev : ∀ {ds : List D} {vs : List V}, Rvs K H O ds vs → Rvs K H O ds.reverse vs.reverse
  | [], _, e => by cases (show _ = [] from e); exact rfl
  | d :: ds, _, ⟨v, vs', e, a, r⟩ => by
    subst e
    rw [List.reverse_cons, List.reverse_cons]
    exact Rvs.app (Rvs.rev r) ⟨v, [], rfl, a, rfl⟩
def mMkV (c : Str) (ns : List Str) (m : M (List D)) : M T := m.bnd fun ds => fun env => if ds.length = ns.length then .ok (.val (.exc c ns.reverse ds.reverse)) env else .stuck
theorem io_mkV {c : Str} {ns : List Str} {m} (hs : ns.length ≤ 1000) (a : IAV K Wx tas m) : IO K Wx (tMkV (He.ga K c) (spI K c ns) tas) (mMkV c ns m) := fun Oo W σ H env Q E q => by
  refine a Oo W σ H env _ E ((M.bnd_to q).mono (fun ds env1 q vs H1 W1 l1 E1 rs => ?_) fun _ _ _ _ x => x)
  split at q
  · rename_i hz
    have hl : vs.length = ns.length := rs.len.trans hz
    refine ⟨by omega, fun p hp => ⟨p, vs, rfl, hl, upd_same, fun d H2 hd hda h1 h2 h3 => ⟨rfl, ?_⟩⟩⟩
    rw [upd_ne hda] at hd
    have ex : Evl.Ex H1 H2 := fun b o hb => by
      have n1 : b ≠ p := ne_of_none hb hp
      rw [h3 b n1 (ne_of_none hb hd), upd_ne n1]
      exact hb
    refine q (.ref p) H2 W1 [] (by simpa using l1.trans (Lv.ex ex)) (by simpa using E1.ex ex) List.nodup_nil (by simp) ⟨rfl, p, vs.reverse, rfl, by simpa using E1.new hp, by simp [hl], .inr ⟨d, by simpa using E1.new hd, h1, ?_⟩, ?_⟩
    · rw [← zip_rev hl.symm]
      exact h2
    · have r2 := (Rvs.rev rs).lv (Lv.ex ex)
      simpa using r2
  · exact q.elim
theorem pass_none {P : Program} {w : World} {X : Cx} : Passes (L2.CX P w) X (fun _ _ _ => False) := fun _ _ _ _ _ _ _ c => by
  obtain ⟨_, _, _, _, _, _, _, _, _, _, _, _, z⟩ := c
  exact z.elim
/-! ### __init__: self.x = x; .. -/
theorem ini1 {c f : Str} {N : List Str} {vs : List V} {Q : VK} {E : XK} (hN : N.length = 2) (T : OexC K (He.ga K c)) (h1 : PySem.W.findIn K (.ref (He.ga K c)) f = some none) (h : spI K c [f] vs H Q E) :
    tOst K f (tVar 0) (tVar 1) { nx := fun _ H' => Q .non H', rt := Q } (start N vs) H := by
  obtain ⟨a, ws, rfl, hl, ha, q⟩ := h
  match ws, hl with
  | [x], _ =>
    refine ⟨x, rfl, .ref a, rfl, a, _, rfl, T, h1, .inl ⟨ha, fun dx hd hne => ?_⟩⟩
    exact q dx _ hd hne upd_same (by rw [upd_ne hne, upd_same]; rfl) fun b n1 n2 => by rw [upd_ne n1, upd_ne n2]
theorem ini2 {c f g : Str} {N : List Str} {vs : List V} {Q : VK} {E : XK} (hN : N.length = 3) (T : OexC K (He.ga K c)) (h1 : PySem.W.findIn K (.ref (He.ga K c)) f = some none) (h2 : PySem.W.findIn K (.ref (He.ga K c)) g = some none) (h : spI K c [f, g] vs H Q E) :
    tSeq (tOst K f (tVar 0) (tVar 1)) (tOst K g (tVar 0) (tVar 2)) { nx := fun _ H' => Q .non H', rt := Q } (start N vs) H := by
  obtain ⟨a, ws, rfl, hl, ha, q⟩ := h
  match ws, hl with
  | [x, y], _ =>
    refine ⟨x, rfl, .ref a, rfl, a, _, rfl, T, h1, .inl ⟨ha, fun dx hd hne => ?_⟩⟩
    refine ⟨y, rfl, .ref a, rfl, a, _, rfl, T, h2, .inr ⟨dx, _, upd_same, by rw [upd_ne hne, upd_same], (by show 1 ≤ 900; decide), ?_⟩⟩
    exact q dx _ hd hne (by rw [upd_ne (Ne.symm hne), upd_same]) upd_same fun b n1 n2 => by rw [upd_ne n2, upd_ne n1, upd_ne n2]
end
end KM

/-! Own exceptions: their making in one piece; evaluation. -/
namespace KM
open PySem PySem.Spec PySem.Calls PyProof.Rows L2 Evl KP
structure MkE (P : Program) (w : World) (K : PySem.W.Frag) (mg : Str → Option Value) (base : Heap) (c : Str) (ns ps : List Str) : Prop where
  ex : ∃ fI fd, OexC K (He.ga K c) ∧ PySem.W.findIn K (.ref (He.ga K c)) "__init__" = some (some (.ref fI)) ∧ PySem.W.typeIn K (.ref fI) = some (.type "function") ∧ FnOk P w K mg base (L2.CX P w) 1 fI fd ps (spI K c ns) ∧ Binds K fd ps []
theorem MkE.mk' {P : Program} {w : World} {K : PySem.W.Frag} {mg : Str → Option Value} {base : Heap} {c : Str} {ns ps : List Str} {fd : FuncData} (T : OexC K (He.ga K c)) (m : Meth K (He.ga K c) "__init__" (He.ma K (He.ga K c) "__init__"))
    (F : FnOk P w K mg base (L2.CX P w) 1 (He.ma K (He.ga K c) "__init__") fd ps (spI K c ns)) (b : Binds K fd ps []) : MkE P w K mg base c ns ps :=
  ⟨_, fd, T, m.at_, by have := m.fn; unfold PySem.W.isFn at this; simpa using this, F, b⟩
theorem pe_mkE {X : Cx} {c x : Str} {ns ps : List Str} {e : Expr} {es : List Expr} {ta : TA} {p pos : Pos} (C : MkE X.prog X.w X.K X.mg X.base c ns ps) (hr : Room 2 X.A) (hg : Gl X x) (hm : X.mg x = some (.ref (He.ga X.K c)))
    (ha : PA X (e :: es) ta) (hdb : (x == ("__debug__" : Str)) = false := by decide) (he : starEach (e :: es) X.env = (false, eval e X.env) :: starEach es X.env := by rfl) (hpl : (backTo pos (starEach es X.env)).any (·.1) = false := by rfl) :
    PE X (.Call (.Name x p) (e :: es) [] pos) (tMkV (He.ga X.K c) (spI X.K c ns) ta) := by
  obtain ⟨fI, fd, h1, h2, h3, h4, h5⟩ := C.ex
  exact pe_mkV h1 h2 h3 h4 hr h5 (pass_none (P := X.prog) (w := X.w)) hg hm ha hdb he hpl
theorem x_mk0 (c : Str) (env : KM.Env) : mMk0 c env = .ok (.val (.exc c [] [])) env := rfl
def mkK (c : Str) (ns : List Str) (ds : List D) (env : KM.Env) : Rs T := if ds.length = ns.length then .ok (.val (.exc c ns.reverse ds.reverse)) env else .stuck
theorem x_mkV (c : Str) (ns : List Str) (m : M (List D)) (env : KM.Env) : mMkV c ns m env = (m env).bind (mkK c ns) := rfl
theorem x_mkK {c : Str} {ns : List Str} {ds : List D} (h : ds.length = ns.length) (env : KM.Env) : mkK c ns ds env = .ok (.val (.exc c ns.reverse ds.reverse)) env := if_pos h
theorem x_fldX (ct : List CE1) (f : Str) (m : M D) (env : KM.Env) : vFldX ct f m env = (m env).bind fun d e => M.opt (fldX ct f d) e := rfl
theorem x_isiG {ct : List CE1} {us : List Str} {bs : List String} {c : Str} {ns : List Str} {ds : List D} {d : Str} {e : CE1} (h1 : ceOf ct c = some e) (h2 : us.contains d = true) : bIsiX ct us bs [.exc c ns ds, .glo d] = some (.val (.bl (e.up.contains d))) := by
  show (ceOf ct c).bind _ = _
  rw [h1]
  exact if_pos h2
theorem x_isiT {ct : List CE1} {us : List Str} {bs : List String} {c : Str} {ns : List Str} {ds : List D} {n : String} {e : CE1} (h1 : ceOf ct c = some e) (h2 : bs.contains n = true) : bIsiX ct us bs [.exc c ns ds, .ty n] = some (.val (.bl (e.bt.contains n))) := by
  show (ceOf ct c).bind _ = _
  rw [h1]
  exact if_pos h2
end KM

/-! Instances: made by their __init__, their attributes stored. -/
namespace KM
open PySem PySem.Spec PySem.Calls PyProof.Rows L2 Evl KP
section
variable {K : PySem.W.Frag} {Wx : WX} {Fz : List Nat} {H H' H1 H2 : Hp} {O O' Oo W W' W1 W2 fp : List Addr} {σ : L2.St} {env env' : KM.Env} {te ta tb tc : TE} {tas : TA}
/-! ### self.f = e -/
def setA (f : Str) (ns : List Str) (ts : List T) (t : T) : Option (List Str × List T) := match ixOf f ns with
  | none => some (ns ++ [f], ts ++ [t])
  | some _ => none
theorem putF_new : ∀ {ns : List Str} {vs : List V} {f : Str} {v : V}, ns.length = vs.length → ixOf f ns = none → putF f v (ns.zip vs) = (ns ++ [f]).zip (vs ++ [v])
  | [], [], f, v, _, _ => rfl
  | n :: ns, w :: vs, f, v, hl, h => by
    have hl : ns.length = vs.length := by simpa using hl
    unfold ixOf at h
    split at h
    · cases h
    · rename_i hn
      have h2 : ixOf f ns = none := by
        cases z : ixOf f ns with
        | none => rfl
        | some k => rw [z] at h; cases h
      show (if n = f then _ else (n, w) :: putF f v (ns.zip vs)) = _
      rw [if_neg (by first | exact hn | exact fun e => hn e.symm | simpa using hn), putF_new hl h2]
      rfl
/-- an instance at a name: its root p changes -/
theorem ER.chgO (E : ER K (Oo ++ fp) W σ H env) (nf : ∀ p ∈ fp, p ∉ Oo) {i : Nat} {c : Str} {ns : List Str} {ts : List T} {v : V} (hn : nodeOf env i [] = some (.obj c ns ts)) (hv : OpdR K H (Oo ++ fp ++ W) σ (.loc i []) v) :
    ∃ p dx vs fq, v = .ref p ∧ ns.length = vs.length ∧ H p = some (.ins (He.ga K c) dx (ns.zip vs)) ∧ Ows K H (Oo ++ fp ++ W) ts vs fq ∧ p ∉ fq ∧ fq.Nodup ∧ p ∉ fp ∧ (∀ q ∈ fq, q ∉ fp) ∧ ∀ (ms : List Str) (us : List T) (ws : List V) (f' : List Addr), ms.length = ws.length →
      (∀ q ∈ f', q ∈ fq ∨ q ∈ fp) → f'.Nodup → (∀ O' : List Addr, Lv H (Oo ++ fp ++ W) (upd H p (.ins (He.ga K c) dx (ms.zip ws))) O' → (∀ q, q ≠ p → (upd H p (.ins (He.ga K c) dx (ms.zip ws))) q = H q) → Ows K (upd H p (.ins (He.ga K c) dx (ms.zip ws))) O' us ws f') →
      ∃ W', Lv H (W ++ fp) (upd H p (.ins (He.ga K c) dx (ms.zip ws))) W' ∧ ER K Oo W' σ (upd H p (.ins (He.ga K c) dx (ms.zip ws))) (putAt env i [] (.obj c ms us)) := by
  obtain ⟨t, r, ht, h0, h1, w, Ad, f, B, n1, n2, n3, n4⟩ := E.node hn
  obtain ⟨r', h1', n'⟩ := hv
  rw [h1] at h1'; cases h1'
  cases Nav.inj n' n1
  have ndf := ow_nodup E n2
  obtain ⟨p, dx, vs, fq, e, ef, hl, hp, rs⟩ := n3
  subst ef
  have dj : ∀ q ∈ p :: fq, q ∉ fp := fun q hq z => E.dj q (by rw [n2]; simp at hq ⊢; rcases hq with y | y <;> simp [y]) (List.mem_append_right _ z)
  have nd2 := List.nodup_cons.mp ndf
  refine ⟨p, dx, vs, fq, e, hl, hp, rs, nd2.1, nd2.2, dj p List.mem_cons_self, fun q hq => dj q (List.mem_cons_of_mem _ hq), fun ms us ws f' hm hf nd' o => ?_⟩
  have := ER.chg (f' := p :: f') (u' := .obj c ms us) (H' := upd H p (.ins (He.ga K c) dx (ms.zip ws))) E n2 n4 (fun q ob hq h => by rw [upd_ne (fun z => hq (by rw [z]; exact List.mem_cons_self))]; exact h) nf
    (fun q hq => by
      rcases List.mem_cons.mp hq with y | y
      · exact .inl (by rw [y]; exact List.mem_cons_self)
      · rcases hf q y with y | y
        · exact .inl (List.mem_cons_of_mem _ y)
        · exact .inr (.inl y)) (List.nodup_cons.mpr ⟨fun y => by
          rcases hf p y with y | y
          · exact nd2.1 y
          · exact dj p List.mem_cons_self y, nd'⟩)
    (fun O' l _ => ⟨p, dx, ws, f', e, rfl, hm, upd_same, o O' l fun q hq => upd_ne hq⟩)
  unfold putAt
  rw [ht]
  exact this
def setOut (tab : List (Str × Str)) (i : Nat) (f : Str) (t : T) (e : KM.Env) : Option (Option T) → Out
  | some (some (.obj c ns ts)) => if (inTab tab c f && decide (ns.length < 900)) = true then match setA f ns ts t with
    | some x => .nx (putAt e i [] (.obj c x.1 x.2))
    | none => .stuck
    else .stuck
  | _ => .stuck
def sSetA (tab : List (Str × Str)) (i : Nat) (f : Str) (m : M T) : SM := thenS m fun t => fun e => setOut tab i f t e e[i]?
theorem is_setA {tab : List (Str × Str)} {i : Nat} {f : Str} {m} (ht : TabOk K tab) (a : IO K Wx te m) : IS K Wx Fz (sFld K (tVar i) te f) (sSetA tab i f m) := fun Oo W σ H env A E q => by
  refine a Oo W σ H env _ E ((thenS_to q).mono (fun t e q v H1 W1 fp l1 E1 nd nf o => ?_) fun _ _ _ _ x => x)
  unfold setOut at q
  split at q
  · rename_i c ns ts he
    split at q
    · rename_i hi
      rw [Bool.and_eq_true, decide_eq_true_eq] at hi
      cases es : setA f ns ts t with
      | none => rw [es] at q; exact q.elim
      | some x =>
        rw [es] at q
        dsimp only at q
        unfold setA at es
        split at es
        · rename_i hx
          cases es
          have hn : nodeOf e i [] = some (.obj c ns ts) := by unfold nodeOf; rw [he]; rfl
          obtain ⟨v0, A0, f0, B0, h1, _, h3, _⟩ := E1.ce.at he
          obtain ⟨p, dx, vs, fq, ev, hl, hp, rs, g1, g2, g3, g4, go⟩ := ER.chgO E1 nf hn ⟨v0, h1, rfl⟩
          subst ev
          obtain ⟨W', lw, Ew⟩ := go (ns ++ [f]) (ts ++ [t]) (vs ++ [v]) (fq ++ fp) (by simp [hl]) (fun q hq => List.mem_append.mp hq) (List.nodup_append.mpr ⟨g2, nd, fun a ha b hb z => g4 a ha (z ▸ hb)⟩)
            fun O' l same => Ows.snoc (ts := ts) (vs := vs) (fq := fq) (rs.lv l fun q hq => same q fun z => g1 (z ▸ hq)) (o.lv l fun q hq => same q fun z => g3 (z ▸ hq))
          have hz : (ns.zip vs).length < 1000 := by rw [List.length_zip]; omega
          refine ⟨.ref p, h1, p, _, dx, _, rfl, hp, (tab_ok ht hi.1).1, (tab_ok ht hi.1).2, hz, ?_⟩
          rw [putF_new hl hx]
          exact q σ _ W' (l1.trans lw) Ew (Kept.refl _)
        · cases es
    · exact q.elim
  · exact q.elim
/-! ### C(e, ..) -/
def takeHd : List T → Option T
  | t :: _ => some t
  | [] => none
def mkO (c : Str) (mi : MF) (ds : List D) (env : KM.Env) : Rs T := match mi (.obj c [] [] :: ds.map T.val) with
  | .ok (.val .non) (t :: _) => .ok t env
  | .exc c' ns es _ => .exc c' ns es env
  | _ => .stuck
def mMake (c : Str) (mi : MF) (m : M (List D)) : M T := m.bnd fun ds => mkO c mi ds
theorem Ce.vals : ∀ {ds : List D} {vs : List V}, Rvs K H O ds vs → Ce K H O ((ds.map T.val).map some) (vs.map some) []
  | [], _, e => by cases (show _ = [] from e); exact ⟨rfl, rfl⟩
  | d :: ds, _, ⟨v, vs', e, a, r⟩ => by subst e; exact ⟨v, _, [], [], rfl, rfl, ⟨rfl, a⟩, Ce.vals r⟩
end
section
variable {K : PySem.W.Frag} {Wx : WX} {H : Hp} {Oo W : List Addr} {σ : L2.St} {env : KM.Env} {tas : TA}
/-- the making, as a reading: what __init__ lets out goes on -/
def tMakeW (C : Addr) (sp : Sp) (Wx : WX) (t : TA) : TE := fun σ H Q => t σ H fun vs H1 => ∀ x dx, H1 x = none → H1 dx = none → dx ≠ x →
  sp (.ref x :: vs) (upd (upd H1 dx (.own x)) x (.ins C dx [])) (fun v H2 => v = .non ∧ Q (.ref x) H2) (fun cls d H' => Wx cls d σ H')
theorem io_make {c : Str} {n : Nat} {mi : MF} {m} (a : IAV K Wx tas m) (hlen : ∀ env ds e, m env = .ok ds e → ds.length + 1 = n) : IO K Wx (tMakeW (He.ga K c) (spM K n mi) Wx tas) (mMake c mi m) := fun Oo W σ H env Q E q => by
  have hq := M.bnd_to q
  refine a Oo W σ H env _ E ?_
  cases zm : m env with
  | exc c ns ds e => rw [zm] at hq; exact hq
  | stuck => rw [zm] at hq; exact hq
  | ok ds e =>
    rw [zm] at hq
    intro vs H1 W1 l1 E1 rs x dx hx hdx hne
    have hl := hlen env ds e zm
    have ex0 : Evl.Ex H1 (upd (upd H1 dx (.own x)) x (.ins (He.ga K c) dx [])) := (Evl.Ex.new hdx).trans (Evl.Ex.new (by rw [upd_ne (Ne.symm hne)]; exact hx))
    have E2 := E1.ex ex0
    have nx : x ∉ Oo ++ W1 := E1.new hx
    have lv0 : Lv H1 (Oo ++ W1) (upd (upd H1 dx (.own x)) x (.ins (He.ga K c) dx [])) (Oo ++ W1 ++ [x]) := ⟨fun p o _ h => ex0 p o h, fun p hp => by
      rcases List.mem_append.mp hp with z | z
      · exact .inl z
      · rw [List.mem_singleton.mp z]; exact .inr hx⟩
    have Ec : ER K (Oo ++ W1) [x] ((V.ref x :: vs).map some) (upd (upd H1 dx (.own x)) x (.ins (He.ga K c) dx [])) ((T.obj c [] [] :: ds.map T.val).map some) :=
      ⟨⟨.ref x, vs.map some, [x], [], rfl, rfl, ⟨x, dx, [], [], rfl, rfl, rfl, upd_same, rfl, rfl⟩, Ce.vals (rs.lv lv0)⟩, by simp, fun p hp => by rw [List.mem_singleton.mp hp]; exact nx, fun p hp => E2.domA p hp⟩
    refine ⟨by rw [List.length_cons, rs.len]; exact hl, Oo ++ W1, [x], _, Ec, ?_⟩
    have exA : ∀ {H' : Hp} {W' : List Addr}, Lv (upd (upd H1 dx (.own x)) x (.ins (He.ga K c) dx [])) [x] H' W' → Evl.Ex H1 H' := fun {H' W'} l b o hb =>
      l.kp b o (fun z => by rw [List.mem_singleton.mp z, hx] at hb; cases hb) (ex0 b o hb)
    have newA : ∀ {H' : Hp} {W' : List Addr}, Lv (upd (upd H1 dx (.own x)) x (.ins (He.ga K c) dx [])) [x] H' W' → ∀ p ∈ W', H1 p = none := fun {H' W'} l p hp => by
      rcases l.out p hp with z | z
      · rw [List.mem_singleton.mp z]; exact hx
      · cases h : H1 p with
        | none => rfl
        | some o => rw [ex0 p o h] at z; cases z
    have hq : Rs.To (mkO c mi ds e) _ _ := hq
    unfold mkO at hq
    cases zmi : mi (T.obj c [] [] :: ds.map T.val) with
    | stuck => rw [zmi] at hq; exact hq.elim
    | exc c' ns es outs =>
      rw [zmi] at hq
      intro d2 H' W' l Eo x2
      have ex := exA l
      refine hq d2 H' W1 (l1.trans (Lv.ex ex)) (E1.ex ex) ?_
      have lv : Lv H' (Oo ++ W1 ++ W') H' (Oo ++ W1) := Lv.sub fun p hp => List.mem_append_left _ hp
      cases d2 with
      | none => exact x2
      | some a => obtain ⟨us, h1, h2, h3⟩ := x2; exact ⟨us, h1, h2, h3.lv lv⟩
    | ok t outs =>
      rw [zmi] at hq
      cases t with
      | val d =>
        cases d with
        | non =>
          cases outs with
          | nil => exact hq.elim
          | cons t0 outs =>
            intro v H' W' fp l Eo nd nf o
            obtain ⟨ef, ev⟩ := o
            subst ef
            obtain rfl : v = V.non := ev
            refine ⟨rfl, ?_⟩
            rw [List.append_nil] at l
            have ex := exA l
            obtain ⟨v0, σ', f1, f2, e1, e2, o1, _⟩ := Eo.ce
            have e1 : some (V.ref x) :: vs.map some = some v0 :: σ' := e1
            injection e1 with e1 _
            cases e1
            subst e2
            have nw : ∀ p ∈ f1, H1 p = none := fun p hp => newA l p (List.mem_append_left _ hp)
            refine hq (.ref x) H' W1 f1 ⟨fun p o hn h => ex p o (l1.kp p o hn h), fun p hp => ?_⟩ (E1.add ex nw (fun p hp => o1.dom p hp)) (List.nodup_append.mp Eo.nd).1 (fun p hp z => E1.new (nw p hp) (List.mem_append_left _ z)) (o1.lv (Lv.sub fun p hp => ?_) fun _ _ => rfl)
            · rcases List.mem_append.mp hp with z | z
              · exact l1.out p z
              · cases h : H p with
                | none => exact .inr rfl
                | some o =>
                  by_cases hw : p ∈ W
                  · exact .inl hw
                  · have := l1.kp p o hw h
                    rw [nw p z] at this; cases this
            · simp only [List.mem_append, List.append_nil] at hp ⊢
              rcases hp with (z | z) | z
              · exact .inl (.inl z)
              · exact .inr (.inl z)
              · exact .inl (.inr z)
        | _ => exact hq.elim
      | _ => exact hq.elim
/-- .. as an expression -/
theorem pe_makeW {X : Cx} {k : Nat} {x : Str} {C f : Addr} {fd : FuncData} {ps : List Str} {sp : Sp} {Wx : WX} {e : Expr} {es : List Expr} {t : TA} {p pos : Pos} (M : Mk X.K C f) (F : FnOk X.prog X.w X.K X.mg X.base (L2.CX X.prog X.w) k f fd ps sp) (hr : Room (k + 1) X.A) (hg : Gl X x)
    (hm : X.mg x = some (.ref C)) (hb : Binds X.K fd ps []) (tk : Takes X Wx) (ha : PA X (e :: es) t) (hdb : (x == ("__debug__" : Str)) = false := by decide) (he : starEach (e :: es) X.env = (false, eval e X.env) :: starEach es X.env := by rfl)
    (hpl : (backTo pos (starEach es X.env)).any (·.1) = false := by rfl) : PE X (.Call (.Name x p) (e :: es) [] pos) (tMakeW C sp Wx t) := by
  refine ⟨fun pins s σ H Q I h => wpAny_Call_Name_kw (ld_glob I hg hm ?_ hdb)⟩
  refine PySem.W.callWith_K (h₀ := X.base) I.ok.mod.kin M.kp (thn (ha.run pos pins s σ H _ I h) fun us s1 q => ?_) he hpl
  obtain ⟨vs, H1, J, r, q⟩ := q
  refine ⟨J.kIn, ?_⟩
  have hq := q (s1.heap.objs.size + 1) s1.heap.objs.size (J.hok.fresh (Nat.le_succ _)) (J.hok.fresh (Nat.le_refl _)) (Nat.ne_of_lt (Nat.lt_succ_self _))
  have J2 := Inv.made (C := C) J
  have r2 : Vals (V.ref (s1.heap.objs.size + 1) :: vs) (Value.ref (s1.heap.objs.size + 1) :: us) := .cons rfl r
  have hl : (Value.ref (s1.heap.objs.size + 1) :: us).length = ps.length := r2.length.symm.trans (F.len _ _ _ _ hq)
  have bd := hb _ (Value.ref (s1.heap.objs.size + 1) :: us) J2.kIn (by rw [List.append_nil]; exact hl)
  rw [List.append_nil] at bd
  refine wpAny_call (make_map (f := f) J.kIn M.makes M.init (beq_iff_eq.mp M.fn) (codeAny_mono (F.run _ X.stack _ _ ⟨Value.ref (s1.heap.objs.size + 1) :: us, []⟩ _ _ _ _ (hr.make C us []) (J2.env0.make C us []) bd r2 hq) fun r s' hq' => ?_))
  cases r with
  | error er => exact passAt tk σ pins _ _ er s' J2 hq'
  | ok fl =>
    cases fl with
    | ret u =>
      obtain ⟨v, H', J3, rv, ev, q3⟩ := J2.after hq'
      rw [ev] at rv
      exact ⟨rv, .ref (s1.heap.objs.size + 1), H', J3, rfl, q3⟩
    | _ => exact False.elim hq'
end
end KM

/-! Instances: isinstance, an own ==; bool(..). -/
namespace KM
open PySem PySem.Spec PySem.Calls PyProof.Rows L2 Evl KP
/-! ### isinstance -/
/-- own classes that are no exceptions: a class, the own ones above it (itself too) -/
abbrev CO : Type := List (Str × List Str)
def icOne (K : PySem.W.Frag) (C : Addr) : Bool := decide (PySem.W.findIn K (.ref C) "__class__" = some (some (.builtin "object.__class__"))) && (decide (PySem.W.specialIn K (.builtin "object.__class__") "__get__" = some (some (.builtin "getset_descriptor.__get__"))) &&
  (decide (PySem.W.takesIn K (.builtin "object.__class__") = some true) && decide (PySem.W.mroIn K C (.type "object") = some true)))
def icB (co : CO) (us : List Str) (tn : List String) : Ex1 := fun K => (co.all fun e => (He.Fa.cls e.1).ok K && (icOne K (He.ga K e.1) && us.all fun d => decide (PySem.W.kitOne K (.ref (He.ga K e.1)) (.ref (He.ga K d)) = some (e.2.contains d)))) &&
  us.all fun d => tn.all fun n => decide (PySem.W.kitOne K (.type n) (.ref (He.ga K d)) = some false)
def coOf (co : CO) (c : Str) : Option (Str × List Str) := co.find? fun e => decide (e.1 = c)
theorem coOf_ok {co : CO} {c : Str} {e : Str × List Str} (h : coOf co c = some e) : e ∈ co ∧ e.1 = c := by
  unfold coOf at h
  exact ⟨List.mem_of_find?_eq_some h, by simpa using List.find?_some h⟩
section
variable {K : PySem.W.Frag} {Wx : WX} {H H' H1 H2 : Hp} {O O' Oo W W' W1 W2 fp : List Addr} {σ : L2.St} {env env' : KM.Env} {te ta tb tc : TE} {tas : TA} {co : CO} {us : List Str} {tn : List String}
def bIsiO (co : CO) (us : List Str) (tn : List String) : List D → Option T
  | [d, .glo g] => if us.contains g = true then match d with
    | .obj c _ _ => (coOf co c).map fun e => .val (.bl (e.2.contains g))
    | d => (tyName d).bind fun n => if tn.contains n = true then some (.val (.bl false)) else none
    else none
  | _ => none
theorem s_isiO (hc : icB co us tn K = true) : OpA K (rIsi K) (bIsiO co us tn) := by
  intro H O xs ds t Q hn r h q
  unfold icB at hc
  rw [Bool.and_eq_true] at hc
  obtain ⟨hc1, hc2⟩ := hc
  unfold bIsiO at h
  split at h
  · rename_i d g
    obtain ⟨v, vs', rfl, a, w, vs2, rfl, b, e⟩ := r
    cases (show vs2 = [] from e)
    cases (show w = _ from b)
    split at h
    · rename_i hg
      have hg : g ∈ us := by simpa using hg
      have other : ∀ {n : String}, tyName d = some n → (if tn.contains n = true then some (T.val (.bl false)) else none) = some t → rIsi K [v, .ref (He.ga K g)] H Q := fun {n} hn2 h => by
        split at h
        · rename_i ht
          cases h
          have k := List.all_eq_true.mp (List.all_eq_true.mp hc2 g hg) n (by simpa using ht)
          exact ⟨v, _, .type n, _, false, rfl, .own _, a.ty hn2, of_decide_eq_true k, ans (K := K) q rfl⟩
        · cases h
      cases d with
      | obj c ns es =>
        dsimp only at h
        cases e1 : coOf co c with
        | none => rw [e1] at h; cases h
        | some e =>
          rw [e1] at h
          cases h
          obtain ⟨m1, m2⟩ := coOf_ok e1
          have k := List.all_eq_true.mp hc1 e m1
          rw [m2] at k
          unfold icOne at k
          simp only [Bool.and_eq_true, decide_eq_true_eq, List.all_eq_true] at k
          obtain ⟨k1, ⟨k2, k3, k4, k5⟩, k6⟩ := k
          obtain ⟨p, dx, ws, e0, _, hp, _⟩ := a
          subst e0
          exact ⟨.ref p, _, _, _, _, rfl, .own _, .base (.ins hp (He.cls_ok k1) k2 k3 k4 k5), k6 g hg, ans (K := K) q rfl⟩
      | _ =>
        dsimp only at h
        first
          | exact other rfl h
          | cases h
    · cases h
  · cases h
/-! ### bool(..) -/
def bBool : List D → Option T
  | [.bl b] => some (.val (.bl b))
  | [.int i] => some (.val (.bl (i != 0)))
  | _ => none
theorem s_bool : OpA K (fun xs H Q => (∃ i, xs = [.int i] ∧ Q (.bl (i != 0)) H) ∨ ∃ k, xs = [.bl k] ∧ Q (.bl k) H) bBool := by
  intro H O xs ds t Q hn r h q
  unfold bBool at h
  split at h
  · obtain ⟨v, vs', rfl, a, e⟩ := r
    cases (show vs' = [] from e)
    cases (show v = _ from a)
    cases h
    exact .inr ⟨_, rfl, ans (K := K) q rfl⟩
  · obtain ⟨v, vs', rfl, a, e⟩ := r
    cases (show vs' = [] from e)
    cases (show v = _ from a)
    cases h
    exact .inl ⟨_, rfl, ans (K := K) q rfl⟩
  · cases h
/-! ### an own == -/
def rEqO (C : Addr) (sp : Sp) : R2 := fun x y H Q => ∃ a b dx dy fs gs, x = .ref a ∧ y = .ref b ∧ H a = some (.ins C dx fs) ∧ H b = some (.ins C dy gs) ∧ sp [.ref a, .ref b] H (fun v H' => (∃ k, v = .bl k) ∧ Q v H') (fun _ _ _ => False)
structure EqOwn (P : Program) (w : World) (K : PySem.W.Frag) (mg : Str → Option Value) (base : Heap) (k : Nat) (c : Str) (sp : Sp) : Prop where
  ex : ∃ f fd ps, PySem.W.findIn K (.ref (He.ga K c)) "__eq__" = some (some (.ref f)) ∧ PySem.W.isFn K (.ref f) = true ∧ FnOk P w K mg base (L2.CX P w) k f fd ps sp ∧ Binds K fd ps []
theorem op_eqO {X : Cx} {k : Nat} {c : Str} {sp : Sp} (C : EqOwn X.prog X.w X.K X.mg X.base k c sp) (hr : Room k X.A) : OpR X (compareOp .Eq) (rEqO (He.ga X.K c) sp) := by
  intro pins s σ H x y v u Q I rx ry h
  obtain ⟨a, b, dx, dy, fs, gs, rfl, rfl, ha, hb', hsp⟩ := h
  obtain ⟨f, fd, ps, hs, hf, F, hb⟩ := C.ex
  cases rx
  cases ry
  obtain ⟨mA, J, _⟩ := ins_get I.hok ha
  obtain ⟨mB, J', _⟩ := ins_get I.hok hb'
  obtain ⟨od, J, _⟩ := J.look
  obtain ⟨od', J', _⟩ := J'.look
  obtain ⟨m, hF⟩ := I.fr
  have hl := F.len _ _ _ _ hsp
  have bd := hb s [.ref a, .ref b] I.kIn (by simpa using hl)
  rw [List.append_nil] at bd
  show wpAny (model X.prog X.w) X.A (richCompare .Eq (.ref a) (.ref b)) (EP X pins σ Q) X.xe s
  refine PySem.W.cmp_K (op := .Eq) (tb := .ref (He.ga X.K c)) (by have := hr.un; omega) hF I.ok.mod.kin J J'.type (by simp [PySem.W.notFirst]) hs hf ?_
  refine wpAny_call (codeAny_mono (F.run X.A X.stack s H ⟨[.ref a, .ref b], []⟩ [.ref a, .ref b] [.ref a, .ref b] _ _ hr I.env0 bd (.cons rfl (.cons rfl .nil)) hsp) fun r s' hq => ?_)
  cases r with
  | error e => exact (pass_none (P := X.prog) (w := X.w) pins σ H s e s' I hq)
  | ok fl =>
    cases fl with
    | ret w =>
      obtain ⟨z, H', I', rz, ⟨k2, ez⟩, q⟩ := I.after hq
      subst ez
      cases rz
      exact ⟨.bl k2, H', I', rfl, q⟩
    | _ => exact False.elim hq
def opEqO (c : Str) (mE : MF) : D → D → Option T
  | .obj c1 ns ds, .obj c2 ms es => if (decide (c1 = c) && decide (c2 = c)) = true then match mE [.val (.obj c1 ns ds), .val (.obj c2 ms es)] with
    | .ok (.val (.bl b)) _ => some (.val (.bl b))
    | _ => none
    else none
  | _, _ => none
theorem RSh.val0 {c : Str} {ns : List Str} {ds : List D} {v : V} (r : RSh K H O (.obj c ns ds) v) : Rv K H [] (.obj c ns ds) v := by
  obtain ⟨p, dx, vs, e, hl, hp, rs⟩ := r
  exact ⟨p, dx, vs, e, by simp, hl, hp, rs.lv (Lv.sub (by simp))⟩
theorem s_eqO {c : Str} {mE : MF} : OpT K (rEqO (He.ga K c) (spM K 2 mE)) (opEqO c mE) := by
  intro H O x y d e t Q hn r1 r2 h q
  unfold opEqO at h
  split at h
  · rename_i c1 ns ds c2 ms es
    split at h
    · rename_i hz
      rw [Bool.and_eq_true, decide_eq_true_eq, decide_eq_true_eq] at hz
      obtain ⟨z1, z2⟩ := hz
      subst z1 z2
      have v1 := r1.val0
      have v2 := r2.val0
      obtain ⟨p, dx, vs, e1, hl, hp, rs⟩ := r1
      obtain ⟨p', dx', vs', e1', hl', hp', rs'⟩ := r2
      subst e1 e1'
      have Ec : ER K [] [] ([V.ref p, V.ref p'].map some) H ([T.val (.obj _ ns ds), T.val (.obj _ ms es)].map some) := ⟨⟨_, _, [], [], rfl, rfl, ⟨rfl, v1⟩, _, _, [], [], rfl, rfl, ⟨rfl, v2⟩, rfl, rfl⟩, List.nodup_nil, by simp, by simp⟩
      refine ⟨p, p', _, _, _, _, rfl, rfl, hp, hp', rfl, [], [], _, Ec, ?_⟩
      split at h
      · rename_i b outs hm
        cases h
        rw [hm]
        intro v H' W' fp l Eo nd nf o
        obtain ⟨ef, ev⟩ := o
        obtain rfl : v = V.bl b := ev
        exact ⟨⟨b, rfl⟩, q _ H' [] (fun b' o hb => l.kp b' o (by simp) hb) (by simp) List.nodup_nil ⟨rfl, rfl⟩⟩
      · cases h
    · cases h
  · cases h
end
/-! ### the making in one piece -/
structure MkI (P : Program) (w : World) (K : PySem.W.Frag) (mg : Str → Option Value) (base : Heap) (k : Nat) (c : Str) (sp : Sp) (ps : List Str) : Prop where
  ex : ∃ f fd, Mk K (He.ga K c) f ∧ FnOk P w K mg base (L2.CX P w) k f fd ps sp ∧ Binds K fd ps []
theorem pe_mkI {X : Cx} {k : Nat} {c x : Str} {ps : List Str} {sp : Sp} {Wx : WX} {e : Expr} {es : List Expr} {t : TA} {p pos : Pos} (C : MkI X.prog X.w X.K X.mg X.base k c sp ps) (hr : Room (k + 1) X.A) (hg : Gl X x) (hm : X.mg x = some (.ref (He.ga X.K c)))
    (tk : Takes X Wx) (ha : PA X (e :: es) t) (hdb : (x == ("__debug__" : Str)) = false := by decide) (he : starEach (e :: es) X.env = (false, eval e X.env) :: starEach es X.env := by rfl)
    (hpl : (backTo pos (starEach es X.env)).any (·.1) = false := by rfl) : PE X (.Call (.Name x p) (e :: es) [] pos) (tMakeW (He.ga X.K c) sp Wx t) := by
  obtain ⟨f, fd, h1, h2, h3⟩ := C.ex
  exact pe_makeW h1 h2 hr hg hm h3 tk ha hdb he hpl
theorem vN_len (env : KM.Env) (ds : List D) (e : KM.Env) (h : vNil env = .ok ds e) : ds.length = 0 := by
  cases h; rfl
theorem vC_len {n : Nat} {a : M D} {b : M (List D)} (hb : ∀ env ds e, b env = .ok ds e → ds.length = n) (env : KM.Env) (ds : List D) (e : KM.Env) (h : vCons a b env = .ok ds e) : ds.length = n + 1 := by
  unfold vCons M.bnd at h
  cases z : a env with
  | ok x e1 =>
    rw [z] at h
    dsimp only at h
    cases y : b e1 with
    | ok xs e2 =>
      rw [y] at h
      cases h
      simp [hb _ _ _ y]
    | exc c ns ds e2 => rw [y] at h; cases h
    | stuck => rw [y] at h; cases h
  | exc c ns ds e1 => rw [z] at h; cases h
  | stuck => rw [z] at h; cases h
theorem vS_len {n : Nat} {m : M (List D)} (hb : ∀ env ds e, m env = .ok ds e → ds.length = n) (env : KM.Env) (ds : List D) (e : KM.Env) (h : m env = .ok ds e) : ds.length + 1 = n + 1 := by rw [hb env ds e h]
/-! ### evaluation -/
theorem x_mMake (c : Str) (mi : MF) (m : M (List D)) (env : KM.Env) : mMake c mi m env = (m env).bind (mkO c mi) := rfl
theorem x_mkO {c : Str} {mi : MF} {ds : List D} {t : T} {outs : List T} (h : mi (.obj c [] [] :: ds.map T.val) = .ok (.val .non) (t :: outs)) (env : KM.Env) : mkO c mi ds env = .ok t env := by
  unfold mkO
  rw [h]
theorem x_setA (tab : List (Str × Str)) (i : Nat) (f : Str) (m : M T) (env : KM.Env) : sSetA tab i f m env = (m env).out fun t e => setOut tab i f t e e[i]? := rfl
theorem x_boolB (b : Bool) : bBool [.bl b] = some (.val (.bl b)) := rfl
theorem x_boolI (i : Int) : bBool [.int i] = some (.val (.bl (i != 0))) := rfl
end KM

/-! Evaluation: attributes of instances; == of rows of ints. -/
namespace KM
open PySem PySem.Spec PyProof.Rows L2 Evl KP
def fldO (tab : List (Str × Str)) (f : Str) (i : Nat) (π : List Sg) : Option T → Option Opd
  | some (.obj c ns ts) => if inTab tab c f = true then (ixOf f ns).bind fun k => (ts[k]?).map fun t => match t with
    | .val d => .val d
    | _ => .loc i (π ++ [.fld f]) else none
  | some (.val (.obj c ns ds)) => if inTab tab c f = true then (ixOf f ns).bind fun k => (ds[k]?).map .val else none
  | _ => none
theorem x_stepFL (tab : List (Str × Str)) (f : Str) (i : Nat) (π : List Sg) (env : KM.Env) : stepF tab f (.loc i π) env = fldO tab f i π (nodeOf env i π) := by
  unfold stepF fldO
  try dsimp only
  all_goals
    generalize nodeOf env i π = o
    cases o with
    | none => rfl
    | some t =>
      cases t with
      | val d => cases d <;> rfl
      | _ => rfl
/-! ### == of tuples of tuples of ints -/
def dit (A : List (List Int)) : List D := A.map fun a => .tup (dis a)
theorem dit_len (A : List (List Int)) : (dit A).length = A.length := List.length_map _
theorem dit_get (A : List (List Int)) (k : Nat) : (dit A)[k]? = (A[k]?).map fun a => .tup (dis a) := List.getElem?_map
theorem dit_app (A B : List (List Int)) : dit (A ++ B) = dit A ++ dit B := List.map_append
theorem dit_mem {d : D} {A : List (List Int)} (h : d ∈ dit A) : ∃ a, a ∈ A ∧ d = .tup (dis a) := by
  obtain ⟨n, h1, h2⟩ := List.mem_map.mp h
  exact ⟨n, h1, h2.symm⟩
theorem eqv_dit : ∀ a b : List (List Int), PyData.eqvAll (toPys (dit a)) (toPys (dit b)) = decide (a = b)
  | [], [] => by show PyData.eqvAll [] [] = _; rw [PyData.eqvAll]; rfl
  | [], _ :: _ => by show PyData.eqvAll [] (_ :: _) = _; rw [PyData.eqvAll]; rfl
  | _ :: _, [] => by show PyData.eqvAll (_ :: _) [] = _; rw [PyData.eqvAll]; rfl
  | x :: a, y :: b => by
    show PyData.eqvAll (PyData.tuple (toPys (dis x)) :: toPys (dit a)) (PyData.tuple (toPys (dis y)) :: toPys (dit b)) = _
    rw [PyData.eqvAll, eqv_dit a b, PyData.eqv, eqv_ints]
    by_cases h : x = y <;> by_cases h2 : a = b <;> simp [h, h2]
theorem isPys_dit : ∀ a : List (List Int), isPys (dit a) = true
  | [] => rfl
  | x :: a => by
    show (isPys (dis x) && isPys (dit a)) = true
    rw [isPys_ints, isPys_dit a]; rfl
theorem can_dit : ∀ a : List (List Int), PyData.canLayAll0 (toPys (dit a)) = true
  | [] => by show PyData.canLayAll0 [] = true; rw [PyData.canLayAll0]
  | x :: a => by
    show PyData.canLayAll0 (PyData.tuple (toPys (dis x)) :: toPys (dit a)) = true
    rw [PyData.canLayAll0, can_dit a, PyData.canLay0, can_ints]; rfl
theorem depth_dit : ∀ a : List (List Int), PyData.depthAll (toPys (dit a)) ≤ 1
  | [] => by show PyData.depthAll [] ≤ 1; rw [PyData.depthAll]; omega
  | x :: a => by
    show PyData.depthAll (PyData.tuple (toPys (dis x)) :: toPys (dit a)) ≤ 1
    have := depth_dit a
    rw [PyData.depthAll, PyData.depth, depth_ints]
    omega
theorem eqOk_R (a : List (List Int)) : eqOk (.tup (dit a)) = true := by
  show (isPys (dit a) && SeqAt.shaped (.tuple (toPys (dit a)))) = true
  have := depth_dit a
  unfold SeqAt.shaped
  rw [isPys_dit, PyData.canLay0, can_dit, PyData.depth]
  simp
  omega
theorem x_eqIR (a b : List (List Int)) : opEq false (.tup (dit a)) (.tup (dit b)) = some (.val (.bl (decide (a = b)))) := by
  show (if (eqOk (.tup (dit a)) && eqOk (.tup (dit b))) = true then some (T.val (.bl (PyData.eqv (.tuple (toPys (dit a))) (.tuple (toPys (dit b)))))) else none) = _
  rw [eqOk_R, eqOk_R, PyData.eqv, eqv_dit]; rfl
theorem x_eqBB (neg a b : Bool) : opEq neg (.bl a) (.bl b) = some (.val (.bl (if neg then !decide (a = b) else decide (a = b)))) := rfl
end KM

namespace KL
open PySem PySem.Spec PyProof.Rows L2 Evl KP KM
def top (i : Nat) : Stmt := PySem.Challenge.pw_keptpictures_k20_whole_coarse_views.main.body.getD i (.Pass ⟨0, 0, 0, 0⟩)
abbrev s_law_drawer : Stmt := (top 12)
abbrev N_law_drawer : List Str := ["script", "k", "cell", "seed"]
theorem sc_law_drawer : FnScope N_law_drawer ["script", "k"] (defScope s_law_drawer) := ⟨rfl, rfl, rfl, by decide +kernel, rfl, by decide +kernel, by decide +kernel⟩
theorem st_law_drawer (v0 v1 : V) : start N_law_drawer [v0, v1] = [some v0, some v1, none, none] := rfl
abbrev s_law_draw : Stmt := (top 13)
abbrev N_law_draw : List Str := ["drawer", "many", "value", "one", "two"]
theorem sc_law_draw : FnScope N_law_draw ["drawer", "many"] (defScope s_law_draw) := ⟨rfl, rfl, rfl, by decide +kernel, rfl, by decide +kernel, by decide +kernel⟩
theorem st_law_draw (v0 v1 : V) : start N_law_draw [v0, v1] = [some v0, some v1, none, none, none] := rfl
abbrev s_law_size : Stmt := (top 22)
abbrev N_law_size : List Str := ["drawer", "manner"]
theorem sc_law_size : FnScope N_law_size ["drawer"] (defScope s_law_size) := ⟨rfl, rfl, rfl, by decide +kernel, rfl, by decide +kernel, by decide +kernel⟩
theorem st_law_size (v0 : V) : start N_law_size [v0] = [some v0, none] := rfl
abbrev s_law_pick : Stmt := (top 14)
abbrev N_law_pick : List Str := ["drawer", "choices"]
theorem sc_law_pick : FnScope N_law_pick ["drawer", "choices"] (defScope s_law_pick) := ⟨rfl, rfl, rfl, by decide +kernel, rfl, by decide +kernel, by decide +kernel⟩
theorem st_law_pick (v0 v1 : V) : start N_law_pick [v0, v1] = [some v0, some v1] := rfl
abbrev s_law_letters : Stmt := (top 17)
abbrev N_law_letters : List Str := ["drawer", "limit", "letters", "k"]
theorem sc_law_letters : FnScope N_law_letters ["drawer", "limit"] (defScope s_law_letters) := ⟨rfl, rfl, rfl, by decide +kernel, rfl, by decide +kernel, by decide +kernel⟩
theorem st_law_letters (v0 v1 : V) : start N_law_letters [v0, v1] = [some v0, some v1, none, none] := rfl
abbrev s_law_modulus : Stmt := (top 15)
abbrev N_law_modulus : List Str := ["drawer"]
theorem sc_law_modulus : FnScope N_law_modulus ["drawer"] (defScope s_law_modulus) := ⟨rfl, rfl, rfl, by decide +kernel, rfl, by decide +kernel, by decide +kernel⟩
theorem st_law_modulus (v0 : V) : start N_law_modulus [v0] = [some v0] := rfl
abbrev s_law_rows : Stmt := (top 16)
abbrev N_law_rows : List Str := ["drawer", "modulus", "width", "height", "manner", "one", "two", "rows", "y", "row", "x", "value"]
theorem sc_law_rows : FnScope N_law_rows ["drawer", "modulus", "width", "height"] (defScope s_law_rows) := ⟨rfl, rfl, rfl, by decide +kernel, rfl, by decide +kernel, by decide +kernel⟩
theorem st_law_rows (v0 v1 v2 v3 : V) : start N_law_rows [v0, v1, v2, v3] = [some v0, some v1, some v2, some v3, none, none, none, none, none, none, none, none] := rfl
abbrev s_law_steps : Stmt := (top 18)
abbrev N_law_steps : List Str := ["letters", "number", "across", "down", "letter"]
theorem sc_law_steps : FnScope N_law_steps ["letters", "number"] (defScope s_law_steps) := ⟨rfl, rfl, rfl, by decide +kernel, rfl, by decide +kernel, by decide +kernel⟩
theorem st_law_steps (v0 v1 : V) : start N_law_steps [v0, v1] = [some v0, some v1, none, none, none] := rfl
abbrev s_Sheet__init : Stmt := (inClass (top 8) 0)
abbrev N_Sheet__init : List Str := ["self", "modulus", "rows", "row"]
theorem sc_Sheet__init : FnScope N_Sheet__init ["self", "modulus", "rows"] (defScope s_Sheet__init) := ⟨rfl, rfl, rfl, by decide +kernel, rfl, by decide +kernel, by decide +kernel⟩
theorem st_Sheet__init (v0 v1 v2 : V) : start N_Sheet__init [v0, v1, v2] = [some v0, some v1, some v2, none] := rfl
abbrev s_law_pass : Stmt := (top 23)
abbrev N_law_pass : List Str := ["x", "y", "grids", "number"]
theorem sc_law_pass : FnScope N_law_pass ["x", "y", "grids"] (defScope s_law_pass) := ⟨rfl, rfl, rfl, by decide +kernel, rfl, by decide +kernel, by decide +kernel⟩
theorem st_law_pass (v0 v1 v2 : V) : start N_law_pass [v0, v1, v2] = [some v0, some v1, some v2, none] := rfl
abbrev s_law_view : Stmt := (top 24)
abbrev N_law_view : List Str := ["rows", "grids", "passes", "out", "y", "line", "x"]
theorem sc_law_view : FnScope N_law_view ["rows", "grids", "passes"] (defScope s_law_view) := ⟨rfl, rfl, rfl, by decide +kernel, rfl, by decide +kernel, by decide +kernel⟩
theorem st_law_view (v0 v1 v2 : V) : start N_law_view [v0, v1, v2] = [some v0, some v1, some v2, none, none, none, none] := rfl
abbrev s_grid_steps : Stmt := (top 2)
abbrev N_grid_steps : List Str := ["word", "number", "later"]
theorem sc_grid_steps : FnScope N_grid_steps ["word", "number"] (defScope s_grid_steps) := ⟨rfl, rfl, rfl, by decide +kernel, rfl, by decide +kernel, by decide +kernel⟩
theorem st_grid_steps (v0 v1 : V) : start N_grid_steps [v0, v1] = [some v0, some v1, none] := rfl
abbrev s_coarse_view : Stmt := (top 10)
abbrev N_coarse_view : List Str := ["sheet", "word", "passes", "across", "down", "rows", "y", "source", "x"]
theorem sc_coarse_view : FnScope N_coarse_view ["sheet", "word", "passes"] (defScope s_coarse_view) := ⟨rfl, rfl, rfl, by decide +kernel, rfl, by decide +kernel, by decide +kernel⟩
theorem st_coarse_view (v0 v1 v2 : V) : start N_coarse_view [v0, v1, v2] = [some v0, some v1, some v2, none, none, none, none, none, none] := rfl
abbrev s_law_int : Stmt := (top 19)
abbrev N_law_int : List Str := ["value"]
theorem sc_law_int : FnScope N_law_int ["value"] (defScope s_law_int) := ⟨rfl, rfl, rfl, by decide +kernel, rfl, by decide +kernel, by decide +kernel⟩
theorem st_law_int (v0 : V) : start N_law_int [v0] = [some v0] := rfl
abbrev s_law_same : Stmt := (top 20)
abbrev N_law_same : List Str := ["got", "due", "k"]
theorem sc_law_same : FnScope N_law_same ["got", "due"] (defScope s_law_same) := ⟨rfl, rfl, rfl, by decide +kernel, rfl, by decide +kernel, by decide +kernel⟩
theorem st_law_same (v0 v1 : V) : start N_law_same [v0, v1] = [some v0, some v1, none] := rfl
abbrev s_law_sheet_is : Stmt := (top 21)
abbrev N_law_sheet_is : List Str := ["got", "modulus", "rows"]
theorem sc_law_sheet_is : FnScope N_law_sheet_is ["got", "modulus", "rows"] (defScope s_law_sheet_is) := ⟨rfl, rfl, rfl, by decide +kernel, rfl, by decide +kernel, by decide +kernel⟩
theorem st_law_sheet_is (v0 v1 v2 : V) : start N_law_sheet_is [v0, v1, v2] = [some v0, some v1, some v2] := rfl
abbrev s_law_view_right : Stmt := (top 25)
abbrev N_law_view_right : List Str := ["sheet", "letters", "passes", "modulus", "due", "view"]
theorem sc_law_view_right : FnScope N_law_view_right ["sheet", "letters", "passes", "modulus", "due"] (defScope s_law_view_right) := ⟨rfl, rfl, rfl, by decide +kernel, rfl, by decide +kernel, by decide +kernel⟩
theorem st_law_view_right (v0 v1 v2 v3 v4 : V) : start N_law_view_right [v0, v1, v2, v3, v4] = [some v0, some v1, some v2, some v3, some v4, none] := rfl
abbrev s_Sheet__eq : Stmt := (inClass (top 8) 1)
abbrev N_Sheet__eq : List Str := ["self", "other"]
theorem sc_Sheet__eq : FnScope N_Sheet__eq ["self", "other"] (defScope s_Sheet__eq) := ⟨rfl, rfl, rfl, by decide +kernel, rfl, by decide +kernel, by decide +kernel⟩
theorem st_Sheet__eq (v0 v1 : V) : start N_Sheet__eq [v0, v1] = [some v0, some v1] := rfl
abbrev s_law : Stmt := (top 26)
abbrev N_law : List Str := ["script", "drawer", "width", "height", "letters", "whole", "j", "i", "x", "y", "modulus", "rows", "grids", "sheet", "due", "later", "view", "sample", "line", "other", "changed", "is_same", "number"]
theorem sc_law : FnScope N_law ["script"] (defScope s_law) := ⟨rfl, rfl, rfl, by decide +kernel, rfl, by decide +kernel, by decide +kernel⟩
theorem st_law (v0 : V) : start N_law [v0] = [some v0, none, none, none, none, none, none, none, none, none, none, none, none, none, none, none, none, none, none, none, none, none, none] := rfl

def co : KM.CO := [("Sheet", ["Sheet"])]
def usO : List Str := ["Sheet"]
def tn : List String := ["int", "tuple", "list", "NoneType", "str", "bool"]
def tab : List (Str × Str) := [("Sheet", "modulus"), ("Sheet", "rows"), ("Sheet", "width"), ("Sheet", "height")]
def d_law_drawer : He.DefD := ⟨("_law_drawer", none), "_law_drawer", "_law_drawer", defArgs s_law_drawer, defBody s_law_drawer, defScope s_law_drawer, [], []⟩
def d_law_draw : He.DefD := ⟨("_law_draw", none), "_law_draw", "_law_draw", defArgs s_law_draw, defBody s_law_draw, defScope s_law_draw, [], []⟩
def d_law_size : He.DefD := ⟨("_law_size", none), "_law_size", "_law_size", defArgs s_law_size, defBody s_law_size, defScope s_law_size, [], []⟩
def d_law_pick : He.DefD := ⟨("_law_pick", none), "_law_pick", "_law_pick", defArgs s_law_pick, defBody s_law_pick, defScope s_law_pick, [], []⟩
def d_law_letters : He.DefD := ⟨("_law_letters", none), "_law_letters", "_law_letters", defArgs s_law_letters, defBody s_law_letters, defScope s_law_letters, [], []⟩
def d_law_modulus : He.DefD := ⟨("_law_modulus", none), "_law_modulus", "_law_modulus", defArgs s_law_modulus, defBody s_law_modulus, defScope s_law_modulus, [], []⟩
def d_law_rows : He.DefD := ⟨("_law_rows", none), "_law_rows", "_law_rows", defArgs s_law_rows, defBody s_law_rows, defScope s_law_rows, [], []⟩
def d_law_steps : He.DefD := ⟨("_law_steps", none), "_law_steps", "_law_steps", defArgs s_law_steps, defBody s_law_steps, defScope s_law_steps, [], []⟩
def d_Sheet__init : He.DefD := ⟨("Sheet", some "__init__"), "__init__", "Sheet.__init__", defArgs s_Sheet__init, defBody s_Sheet__init, defScope s_Sheet__init, [], []⟩
def d_law_pass : He.DefD := ⟨("_law_pass", none), "_law_pass", "_law_pass", defArgs s_law_pass, defBody s_law_pass, defScope s_law_pass, [], []⟩
def d_law_view : He.DefD := ⟨("_law_view", none), "_law_view", "_law_view", defArgs s_law_view, defBody s_law_view, defScope s_law_view, [], []⟩
def d_grid_steps : He.DefD := ⟨("grid_steps", none), "grid_steps", "grid_steps", defArgs s_grid_steps, defBody s_grid_steps, defScope s_grid_steps, [], []⟩
def d_coarse_view : He.DefD := ⟨("coarse_view", none), "coarse_view", "coarse_view", defArgs s_coarse_view, defBody s_coarse_view, defScope s_coarse_view, [], []⟩
def d_law_int : He.DefD := ⟨("_law_int", none), "_law_int", "_law_int", defArgs s_law_int, defBody s_law_int, defScope s_law_int, [], []⟩
def d_law_same : He.DefD := ⟨("_law_same", none), "_law_same", "_law_same", defArgs s_law_same, defBody s_law_same, defScope s_law_same, [], []⟩
def d_law_sheet_is : He.DefD := ⟨("_law_sheet_is", none), "_law_sheet_is", "_law_sheet_is", defArgs s_law_sheet_is, defBody s_law_sheet_is, defScope s_law_sheet_is, [], []⟩
def d_law_view_right : He.DefD := ⟨("_law_view_right", none), "_law_view_right", "_law_view_right", defArgs s_law_view_right, defBody s_law_view_right, defScope s_law_view_right, [], []⟩
def d_Sheet__eq : He.DefD := ⟨("Sheet", some "__eq__"), "__eq__", "Sheet.__eq__", defArgs s_Sheet__eq, defBody s_Sheet__eq, defScope s_Sheet__eq, [], []⟩
def d_law : He.DefD := ⟨("law", none), "law", "law", defArgs s_law, defBody s_law, defScope s_law, [], []⟩
def fn : List He.DefD := [d_law_drawer, d_law_draw, d_law_size, d_law_pick, d_law_letters, d_law_modulus, d_law_rows, d_law_steps, d_Sheet__init, d_law_pass, d_law_view, d_grid_steps, d_coarse_view, d_law_int, d_law_same, d_law_sheet_is, d_law_view_right, d_Sheet__eq, d_law]
def fa : List He.Fa := [.free "len", .free "abs", .free "int", .glo "_law_drawer", .glo "_law_draw", .glo "_law_size", .glo "_law_pick", .free "range", .glo "_law_letters", .glo "_law_modulus", .free "tuple", .glo "_law_rows", .glo "_law_steps", .mkr "Sheet", .glo "_law_pass", .free "list", .glo "_law_view", .glo "grid_steps", .glo "Sheet", .glo "coarse_view", .free "isinstance", .free "bool", .glo "_law_int", .free "str", .glo "_law_same", .glo "_law_sheet_is", .glo "_law_view_right", .meth "Sheet" "__eq__", .glo "law", .cls "Sheet", .noat "Sheet" "modulus", .noat "Sheet" "rows", .noat "Sheet" "width", .noat "Sheet" "height"]
def ex : List KP.Ex1 := [KM.icB co usO tn]
abbrev Hd (K : PySem.W.Frag) (mg : Str → Option Value) : Prop := KP.Hd fa fn ex K mg
theorem tab_ok {K : PySem.W.Frag} {mg : Str → Option Value} (hd : Hd K mg) : TabOk K tab := by
  intro x hx
  simp only [tab, List.mem_cons, List.not_mem_nil, or_false] at hx
  rcases hx with rfl | rfl | rfl | rfl
  · exact ⟨He.cls_ok (hd.c.fact 29 rfl), He.noat_ok (hd.c.fact 30 rfl)⟩
  · exact ⟨He.cls_ok (hd.c.fact 29 rfl), He.noat_ok (hd.c.fact 31 rfl)⟩
  · exact ⟨He.cls_ok (hd.c.fact 29 rfl), He.noat_ok (hd.c.fact 32 rfl)⟩
  · exact ⟨He.cls_ok (hd.c.fact 29 rfl), He.noat_ok (hd.c.fact 33 rfl)⟩
section
variable {P : Program} {w : World} {K : PySem.W.Frag} {mg : Str → Option Value} {base : Heap}
def m_law_drawer : MF := fnM [false, false] 2
      (sSeq (sAsg 2 (oV (vM (pC (.int 0)))))
      (sSeq (sIf (tst (vO (oOp opLt (nmM 1) (bV (vO (oA bLen (aCons (nmM 0) aNil))))))) (sAsg 2 (oA bAbs (aCons (bV (vL (pIx (pNm 0) (pAt (pNm 1))))) aNil))) sNil)
      (sSeq (sAsg 3 (oOp opMod (bV (vO (oA bInt (aCons (bV (vO (oOp opAdd (bV (vO (oOp opAdd (nmM 2) (bV (vO (oOp opMul (bV (vM (pC (.int 1013)))) (nmM 1))))))) (bV (vM (pC (.int 7))))))) aNil)))) (bV (vM (pC (.int 2147483629))))))
      (sSeq (sIf (tst (vO (oOp opGe (nmM 2) (bV (vO (oOp opPow (bV (vM (pC (.int 10)))) (bV (vM (pC (.int 18)))))))))) (sRet (oLst (vCons (vO (oOp opSub (nmM 2) (bV (vO (oOp opPow (bV (vM (pC (.int 10)))) (bV (vM (pC (.int 18))))))))) (vCons (vL (pNm 3)) (vCons (vM (pC (.int 0))) vNil))))) sNil)
      (sRet (oLst (vCons (vM (pC (.int 0))) (vCons (vL (pNm 3)) (vCons (vM (pC (.int 0))) vNil)))))))))
theorem ok_law_drawer (hd : Hd K mg) {fd : FuncData} (F : FunD K d_law_drawer.name d_law_drawer.qual d_law_drawer.params d_law_drawer.body d_law_drawer.scope (d_law_drawer.dvs K) (d_law_drawer.kws K) (He.fAd K d_law_drawer.at_) fd) : FnOk P w K mg base (L2.CX P w) 1 (He.fAd K d_law_drawer.at_) fd ["script", "k"] (spM K 2 m_law_drawer) := by
  refine FunD.ok F sc_law_drawer (fun vs H Q E h => h.1) (fun cdv A outer s H vs Q E hr h => ?_)
  exact ⟨_, (pss_cons (ps_set (i := 2) sc_law_drawer.nd rfl (Or.inl rfl) pe_int)
      (pss_cons (ps_if (pt_cmpR op_ltG (pv 1) (pe_callB g_len (by rfl) (hd.free 0) (by decide +kernel) (pa_cons (pv 0) pa_nil)) (nomark _)) (pss_one (ps_set (i := 2) sc_law_drawer.nd rfl (Or.inl rfl) (pe_callB g_abs (by rfl) (hd.free 1) (by decide +kernel) (pa_cons (pe_ix ix_G (pv 0) (pv 1) (fun _ _ => rfl)) pa_nil)))) pss_nil)
      (pss_cons (ps_set (i := 3) sc_law_drawer.nd rfl (Or.inl rfl) (pe_op op_mod (pe_callTy g_int (by rfl) (hd.free 2) (by decide +kernel) (pa_cons (pe_op op_addG (pe_op op_addG (pv 2) (pe_op op_mulH pe_int (pv 1))) pe_int) pa_nil)) pe_int))
      (pss_cons (ps_if (pt_cmpR op_geG (pv 2) (pe_op op_pow pe_int pe_int) (nomark _)) (pss_one (ps_ret (pe_lst (pa_cons (pe_op op_sub (pv 2) (pe_op op_pow pe_int pe_int)) (pa_cons (pv 3) (pa_cons pe_int pa_nil)))))) pss_nil)
      (pss_one (ps_ret (pe_lst (pa_cons pe_int (pa_cons (pv 3) (pa_cons pe_int pa_nil)))))))))),
    fn_body (fl := [false, false]) (n := 2) (k := 2) (is_seq (is_asg (by rfl) (iv_io (iq_iv c_int)))
      (is_seq (is_if (it_test (io_iv (io_op s_ord (nm_ib 1) (iv_ib (io_iv (io_cb s_len (ia_cons (nm_ib 0) ia_nil))))))) (is_asg (by rfl) (io_cb s_abs (ia_cons (iv_ib (il_iv (il_ix (nm_il 0) (il_iq (nm_il 1))))) ia_nil))) is_nil)
      (is_seq (is_asg (by rfl) (io_op s_mod (iv_ib (io_iv (io_cb s_int (ia_cons (iv_ib (io_iv (io_op s_add (iv_ib (io_iv (io_op s_add (nm_ib 2) (iv_ib (io_iv (io_op s_mul (iv_ib (iq_iv c_int)) (nm_ib 1))))))) (iv_ib (iq_iv c_int))))) ia_nil)))) (iv_ib (iq_iv c_int))))
      (is_seq (is_if (it_test (io_iv (io_op s_ord (nm_ib 2) (iv_ib (io_iv (io_op s_pow (iv_ib (iq_iv c_int)) (iv_ib (iq_iv c_int)))))))) (is_ret (io_lst (iav_cons (io_iv (io_op s_sub (nm_ib 2) (iv_ib (io_iv (io_op s_pow (iv_ib (iq_iv c_int)) (iv_ib (iq_iv c_int))))))) (iav_cons (il_iv (nm_il 3)) (iav_cons (iq_iv c_int) iav_nil))))) is_nil)
      (is_ret (io_lst (iav_cons (iq_iv c_int) (iav_cons (il_iv (nm_il 3)) (iav_cons (iq_iv c_int) iav_nil))))))))) rfl h⟩
theorem cal_law_drawer (hd : Hd K mg) : CalX P w K mg base 1 "_law_drawer" ["script", "k"] (spM K 2 m_law_drawer) := by
  obtain ⟨fd, F⟩ := hd.def_ 0
  exact .mk' (hd.glo 3) F.kp (FunD.bindsN F fun _ _ _ _ _ _ us hl => match us, hl with | [_, _], _ => rfl) (ok_law_drawer hd F)

def m_law_draw : MF := fnM [false, false] 3
      (sSeq (sIf (tst (vO (oOp opGt (bV (vL (pIx (pNm 0) (pC (.int 0))))) (bV (vM (pC (.int 1))))))) (sSeq (sAsg 2 (oOp opMod (bV (vO (oA bInt (aCons (bV (vL (pIx (pNm 0) (pC (.int 0))))) aNil)))) (nmM 1)))
      (sSeq (sPut (oOp opFdiv (bV (vL (pIx (pNm 0) (pC (.int 0))))) (nmM 1)) (pNm 0) (pC (.int 0)))
      (sRet (mvM 2)))) sNil)
      (sSeq (sPut (oOp opAdd (bV (vL (pIx (pNm 0) (pC (.int 2))))) (bV (vM (pC (.int 1))))) (pNm 0) (pC (.int 2)))
      (sSeq (sAsg 3 (oOp opMod (bV (vO (oA bInt (aCons (bV (vO (oOp opAdd (bV (vO (oOp opAdd (bV (vO (oOp opMul (bV (vL (pIx (pNm 0) (pC (.int 1))))) (bV (vM (pC (.int 48271))))))) (bV (vO (oOp opMul (bV (vL (pIx (pNm 0) (pC (.int 2))))) (bV (vM (pC (.int 69621)))))))))) (bV (vM (pC (.int 12345))))))) aNil)))) (bV (vM (pC (.int 2147483647))))))
      (sSeq (sAsg 4 (oOp opMod (bV (vO (oA bInt (aCons (bV (vO (oOp opAdd (bV (vO (oOp opMul (nmM 3) (bV (vO (oOp opAdd (bV (vO (oOp opFdiv (nmM 3) (bV (vM (pC (.int 3))))))) (bV (vM (pC (.int 40014)))))))))) (bV (vO (oOp opMul (bV (vL (pIx (pNm 0) (pC (.int 2))))) (bV (vM (pC (.int 7919)))))))))) aNil)))) (bV (vM (pC (.int 2147483563))))))
      (sRet (oOp opMod (bV (vO (oA bInt (aCons (bV (vO (oOp opFdiv (nmM 4) (bV (vM (pC (.int 11))))))) aNil)))) (nmM 1)))))))
theorem ok_law_draw (hd : Hd K mg) {fd : FuncData} (F : FunD K d_law_draw.name d_law_draw.qual d_law_draw.params d_law_draw.body d_law_draw.scope (d_law_draw.dvs K) (d_law_draw.kws K) (He.fAd K d_law_draw.at_) fd) : FnOk P w K mg base (L2.CX P w) 1 (He.fAd K d_law_draw.at_) fd ["drawer", "many"] (spM K 2 m_law_draw) := by
  refine FunD.ok F sc_law_draw (fun vs H Q E h => h.1) (fun cdv A outer s H vs Q E hr h => ?_)
  exact ⟨_, (pss_cons (ps_if (pt_cmpR op_gtG (pe_ix ix_G (pv 0) pe_int (fun _ _ => rfl)) pe_int (nomark _)) (pss_cons (ps_set (i := 2) sc_law_draw.nd rfl (Or.inl rfl) (pe_op op_mod (pe_callTy g_int (by rfl) (hd.free 2) (by decide +kernel) (pa_cons (pe_ix ix_G (pv 0) pe_int (fun _ _ => rfl)) pa_nil)) (pv 1)))
      (pss_cons (ps_asg (pe_op op_fdivW (pe_ix ix_G (pv 0) pe_int (fun _ _ => rfl)) (pv 1)) (pg_sub (pv 0) pe_int set_list))
      (pss_one (ps_ret (pv 2))))) pss_nil)
      (pss_cons (ps_asg (pe_op op_addG (pe_ix ix_G (pv 0) pe_int (fun _ _ => rfl)) pe_int) (pg_sub (pv 0) pe_int set_list))
      (pss_cons (ps_set (i := 3) sc_law_draw.nd rfl (Or.inl rfl) (pe_op op_mod (pe_callTy g_int (by rfl) (hd.free 2) (by decide +kernel) (pa_cons (pe_op op_addG (pe_op op_addG (pe_op op_mulH (pe_ix ix_G (pv 0) pe_int (fun _ _ => rfl)) pe_int) (pe_op op_mulH (pe_ix ix_G (pv 0) pe_int (fun _ _ => rfl)) pe_int)) pe_int) pa_nil)) pe_int))
      (pss_cons (ps_set (i := 4) sc_law_draw.nd rfl (Or.inl rfl) (pe_op op_mod (pe_callTy g_int (by rfl) (hd.free 2) (by decide +kernel) (pa_cons (pe_op op_addG (pe_op op_mulH (pv 3) (pe_op op_addG (pe_op op_fdivW (pv 3) pe_int) pe_int)) (pe_op op_mulH (pe_ix ix_G (pv 0) pe_int (fun _ _ => rfl)) pe_int)) pa_nil)) pe_int))
      (pss_one (ps_ret (pe_op op_mod (pe_callTy g_int (by rfl) (hd.free 2) (by decide +kernel) (pa_cons (pe_op op_fdivW (pv 4) pe_int) pa_nil)) (pv 1)))))))),
    fn_body (fl := [false, false]) (n := 2) (k := 3) (is_seq (is_if (it_test (io_iv (io_op s_ord (iv_ib (il_iv (il_ix (nm_il 0) c_int))) (iv_ib (iq_iv c_int))))) (is_seq (is_asg (by rfl) (io_op s_mod (iv_ib (io_iv (io_cb s_int (ia_cons (iv_ib (il_iv (il_ix (nm_il 0) c_int))) ia_nil)))) (nm_ib 1)))
      (is_seq (is_put (io_op s_fdiv (iv_ib (il_iv (il_ix (nm_il 0) c_int))) (nm_ib 1)) (nm_il 0) c_int)
      (is_ret (mv_io 2)))) is_nil)
      (is_seq (is_put (io_op s_add (iv_ib (il_iv (il_ix (nm_il 0) c_int))) (iv_ib (iq_iv c_int))) (nm_il 0) c_int)
      (is_seq (is_asg (by rfl) (io_op s_mod (iv_ib (io_iv (io_cb s_int (ia_cons (iv_ib (io_iv (io_op s_add (iv_ib (io_iv (io_op s_add (iv_ib (io_iv (io_op s_mul (iv_ib (il_iv (il_ix (nm_il 0) c_int))) (iv_ib (iq_iv c_int))))) (iv_ib (io_iv (io_op s_mul (iv_ib (il_iv (il_ix (nm_il 0) c_int))) (iv_ib (iq_iv c_int)))))))) (iv_ib (iq_iv c_int))))) ia_nil)))) (iv_ib (iq_iv c_int))))
      (is_seq (is_asg (by rfl) (io_op s_mod (iv_ib (io_iv (io_cb s_int (ia_cons (iv_ib (io_iv (io_op s_add (iv_ib (io_iv (io_op s_mul (nm_ib 3) (iv_ib (io_iv (io_op s_add (iv_ib (io_iv (io_op s_fdiv (nm_ib 3) (iv_ib (iq_iv c_int))))) (iv_ib (iq_iv c_int)))))))) (iv_ib (io_iv (io_op s_mul (iv_ib (il_iv (il_ix (nm_il 0) c_int))) (iv_ib (iq_iv c_int)))))))) ia_nil)))) (iv_ib (iq_iv c_int))))
      (is_ret (io_op s_mod (iv_ib (io_iv (io_cb s_int (ia_cons (iv_ib (io_iv (io_op s_fdiv (nm_ib 4) (iv_ib (iq_iv c_int))))) ia_nil)))) (nm_ib 1))))))) rfl h⟩
theorem cal_law_draw (hd : Hd K mg) : CalX P w K mg base 1 "_law_draw" ["drawer", "many"] (spM K 2 m_law_draw) := by
  obtain ⟨fd, F⟩ := hd.def_ 1
  exact .mk' (hd.glo 4) F.kp (FunD.bindsN F fun _ _ _ _ _ _ us hl => match us, hl with | [_, _], _ => rfl) (ok_law_draw hd F)

def m_law_size : MF := fnM [false] 1
      (sSeq (sAsg 1 (callM m_law_draw (aCons (nmM 0) (aCons (bV (vM (pC (.int 16)))) aNil))))
      (sSeq (sIf (tst (vO (oOp (opEq false) (nmM 1) (bV (vM (pC (.int 0))))))) (sRet (oV (vTup (vCons (vO (oOp opAdd (bV (vM (pC (.int 1)))) (bV (vO (callM m_law_draw (aCons (nmM 0) (aCons (bV (vM (pC (.int 40)))) aNil))))))) (vCons (vO (oOp opAdd (bV (vM (pC (.int 1)))) (bV (vO (callM m_law_draw (aCons (nmM 0) (aCons (bV (vM (pC (.int 40)))) aNil))))))) vNil))))) sNil)
      (sSeq (sIf (tst (vO (oOp (opEq false) (nmM 1) (bV (vM (pC (.int 1))))))) (sRet (oOp opIx (bV (vO (oLst (vCons (vTup (vCons (vM (pC (.int 40))) (vCons (vM (pC (.int 2))) vNil))) (vCons (vTup (vCons (vM (pC (.int 2))) (vCons (vM (pC (.int 40))) vNil))) vNil))))) (bV (vO (callM m_law_draw (aCons (nmM 0) (aCons (bV (vM (pC (.int 2)))) aNil))))))) sNil)
      (sRet (oV (vTup (vCons (vO (oOp opAdd (bV (vM (pC (.int 1)))) (bV (vO (callM m_law_draw (aCons (nmM 0) (aCons (bV (vM (pC (.int 8)))) aNil))))))) (vCons (vO (oOp opAdd (bV (vM (pC (.int 1)))) (bV (vO (callM m_law_draw (aCons (nmM 0) (aCons (bV (vM (pC (.int 6)))) aNil))))))) vNil))))))))
theorem ok_law_size (hd : Hd K mg) {fd : FuncData} (F : FunD K d_law_size.name d_law_size.qual d_law_size.params d_law_size.body d_law_size.scope (d_law_size.dvs K) (d_law_size.kws K) (He.fAd K d_law_size.at_) fd) : FnOk P w K mg base (L2.CX P w) 2 (He.fAd K d_law_size.at_) fd ["drawer"] (spM K 1 m_law_size) := by
  refine FunD.ok F sc_law_size (fun vs H Q E h => h.1) (fun cdv A outer s H vs Q E hr h => ?_)
  exact ⟨_, (pss_cons (ps_set (i := 1) sc_law_size.nd rfl (Or.inl rfl) (pe_calX (sp := spM K 2 m_law_draw) (cal_law_draw hd) (hr.mono (by decide)) rfl (takes_of rfl rfl rfl rfl) (pa_cons (pv 0) (pa_cons pe_int pa_nil))))
      (pss_cons (ps_if (pt_cmpR (op_eqG (hu64 hr)) (pv 1) pe_int (nomark _)) (pss_one (ps_ret (pe_tup (pa_cons (pe_op op_addG pe_int (pe_calX (sp := spM K 2 m_law_draw) (cal_law_draw hd) (hr.mono (by decide)) rfl (takes_of rfl rfl rfl rfl) (pa_cons (pv 0) (pa_cons pe_int pa_nil)))) (pa_cons (pe_op op_addG pe_int (pe_calX (sp := spM K 2 m_law_draw) (cal_law_draw hd) (hr.mono (by decide)) rfl (takes_of rfl rfl rfl rfl) (pa_cons (pv 0) (pa_cons pe_int pa_nil)))) pa_nil))))) pss_nil)
      (pss_cons (ps_if (pt_cmpR (op_eqG (hu64 hr)) (pv 1) pe_int (nomark _)) (pss_one (ps_ret (pe_ix ix_G (pe_lst (pa_cons (pe_tup (pa_cons pe_int (pa_cons pe_int pa_nil))) (pa_cons (pe_tup (pa_cons pe_int (pa_cons pe_int pa_nil))) pa_nil))) (pe_calX (sp := spM K 2 m_law_draw) (cal_law_draw hd) (hr.mono (by decide)) rfl (takes_of rfl rfl rfl rfl) (pa_cons (pv 0) (pa_cons pe_int pa_nil))) (fun _ _ => rfl)))) pss_nil)
      (pss_one (ps_ret (pe_tup (pa_cons (pe_op op_addG pe_int (pe_calX (sp := spM K 2 m_law_draw) (cal_law_draw hd) (hr.mono (by decide)) rfl (takes_of rfl rfl rfl rfl) (pa_cons (pv 0) (pa_cons pe_int pa_nil)))) (pa_cons (pe_op op_addG pe_int (pe_calX (sp := spM K 2 m_law_draw) (cal_law_draw hd) (hr.mono (by decide)) rfl (takes_of rfl rfl rfl rfl) (pa_cons (pv 0) (pa_cons pe_int pa_nil)))) pa_nil)))))))),
    fn_body (fl := [false]) (n := 1) (k := 1) (is_seq (is_asg (by rfl) (io_call (n := 2) (fun _ => .inr trivial) (ia_cons (nm_ib 0) (ia_cons (iv_ib (iq_iv c_int)) ia_nil)) (aC_len (aC_len aN_len))))
      (is_seq (is_if (it_test (io_iv (io_op s_eq (nm_ib 1) (iv_ib (iq_iv c_int))))) (is_ret (iv_io (iv_tup (iav_cons (io_iv (io_op s_add (iv_ib (iq_iv c_int)) (iv_ib (io_iv (io_call (n := 2) (fun _ => .inr trivial) (ia_cons (nm_ib 0) (ia_cons (iv_ib (iq_iv c_int)) ia_nil)) (aC_len (aC_len aN_len))))))) (iav_cons (io_iv (io_op s_add (iv_ib (iq_iv c_int)) (iv_ib (io_iv (io_call (n := 2) (fun _ => .inr trivial) (ia_cons (nm_ib 0) (ia_cons (iv_ib (iq_iv c_int)) ia_nil)) (aC_len (aC_len aN_len))))))) iav_nil))))) is_nil)
      (is_seq (is_if (it_test (io_iv (io_op s_eq (nm_ib 1) (iv_ib (iq_iv c_int))))) (is_ret (io_op s_ix (iv_ib (io_iv (io_lst (iav_cons (iv_tup (iav_cons (iq_iv c_int) (iav_cons (iq_iv c_int) iav_nil))) (iav_cons (iv_tup (iav_cons (iq_iv c_int) (iav_cons (iq_iv c_int) iav_nil))) iav_nil))))) (iv_ib (io_iv (io_call (n := 2) (fun _ => .inr trivial) (ia_cons (nm_ib 0) (ia_cons (iv_ib (iq_iv c_int)) ia_nil)) (aC_len (aC_len aN_len))))))) is_nil)
      (is_ret (iv_io (iv_tup (iav_cons (io_iv (io_op s_add (iv_ib (iq_iv c_int)) (iv_ib (io_iv (io_call (n := 2) (fun _ => .inr trivial) (ia_cons (nm_ib 0) (ia_cons (iv_ib (iq_iv c_int)) ia_nil)) (aC_len (aC_len aN_len))))))) (iav_cons (io_iv (io_op s_add (iv_ib (iq_iv c_int)) (iv_ib (io_iv (io_call (n := 2) (fun _ => .inr trivial) (ia_cons (nm_ib 0) (ia_cons (iv_ib (iq_iv c_int)) ia_nil)) (aC_len (aC_len aN_len))))))) iav_nil)))))))) rfl h⟩
theorem cal_law_size (hd : Hd K mg) : CalX P w K mg base 2 "_law_size" ["drawer"] (spM K 1 m_law_size) := by
  obtain ⟨fd, F⟩ := hd.def_ 2
  exact .mk' (hd.glo 5) F.kp (FunD.bindsN F fun _ _ _ _ _ _ us hl => match us, hl with | [_], _ => rfl) (ok_law_size hd F)

def m_law_pick : MF := fnM [false, false] 0
      (sRet (oOp opIx (nmM 1) (bV (vO (callM m_law_draw (aCons (nmM 0) (aCons (bV (vO (oA bLen (aCons (nmM 1) aNil)))) aNil)))))))
theorem ok_law_pick (hd : Hd K mg) {fd : FuncData} (F : FunD K d_law_pick.name d_law_pick.qual d_law_pick.params d_law_pick.body d_law_pick.scope (d_law_pick.dvs K) (d_law_pick.kws K) (He.fAd K d_law_pick.at_) fd) : FnOk P w K mg base (L2.CX P w) 2 (He.fAd K d_law_pick.at_) fd ["drawer", "choices"] (spM K 2 m_law_pick) := by
  refine FunD.ok F sc_law_pick (fun vs H Q E h => h.1) (fun cdv A outer s H vs Q E hr h => ?_)
  exact ⟨_, (pss_one (ps_ret (pe_ix ix_G (pv 1) (pe_calX (sp := spM K 2 m_law_draw) (cal_law_draw hd) (hr.mono (by decide)) rfl (takes_of rfl rfl rfl rfl) (pa_cons (pv 0) (pa_cons (pe_callB g_len (by rfl) (hd.free 0) (by decide +kernel) (pa_cons (pv 1) pa_nil)) pa_nil))) (fun _ _ => rfl)))),
    fn_body (fl := [false, false]) (n := 2) (k := 0) (is_ret (io_op s_ix (nm_ib 1) (iv_ib (io_iv (io_call (n := 2) (fun _ => .inr trivial) (ia_cons (nm_ib 0) (ia_cons (iv_ib (io_iv (io_cb s_len (ia_cons (nm_ib 1) ia_nil)))) ia_nil)) (aC_len (aC_len aN_len))))))) rfl h⟩
theorem cal_law_pick (hd : Hd K mg) : CalX P w K mg base 2 "_law_pick" ["drawer", "choices"] (spM K 2 m_law_pick) := by
  obtain ⟨fd, F⟩ := hd.def_ 3
  exact .mk' (hd.glo 6) F.kp (FunD.bindsN F fun _ _ _ _ _ _ us hl => match us, hl with | [_, _], _ => rfl) (ok_law_pick hd F)

def l_law_letters_0 : SM := (sAsg 2 (oOp opAdd (nmM 2) (bV (vO (callM m_law_pick (aCons (nmM 0) (aCons (bV (vM (pC (.str (Str.ofString "ad"))))) aNil)))))))
def m_law_letters : MF := fnM [false, false] 2
      (sSeq (sAsg 2 (oV (vM (pC (.str (Str.ofString ""))))))
      (sSeq (sFor (iR1 (vCons (vO (callM m_law_draw (aCons (nmM 0) (aCons (bV (vO (oOp opAdd (nmM 1) (bV (vM (pC (.int 1))))))) aNil)))) vNil)) (gNm 3) l_law_letters_0)
      (sRet (mvM 2))))
theorem ok_law_letters (hd : Hd K mg) {fd : FuncData} (F : FunD K d_law_letters.name d_law_letters.qual d_law_letters.params d_law_letters.body d_law_letters.scope (d_law_letters.dvs K) (d_law_letters.kws K) (He.fAd K d_law_letters.at_) fd) : FnOk P w K mg base (L2.CX P w) 3 (He.fAd K d_law_letters.at_) fd ["drawer", "limit"] (spM K 2 m_law_letters) := by
  refine FunD.ok F sc_law_letters (fun vs H Q E h => h.1) (fun cdv A outer s H vs Q E hr h => ?_)
  exact ⟨_, (pss_cons (ps_set (i := 2) sc_law_letters.nd rfl (Or.inl rfl) pe_str)
      (pss_cons (ps_for (passes_of rfl) rfl (pi_range1 rfl (hd.free 7) (pa_cons (pe_calX (sp := spM K 2 m_law_draw) (cal_law_draw hd) (hr.mono (by decide)) rfl (takes_of rfl rfl rfl rfl) (pa_cons (pv 0) (pa_cons (pe_op op_addG (pv 1) pe_int) pa_nil))) pa_nil)) (pg_name (i := 3) sc_law_letters.nd rfl (Or.inl rfl))
      (pss_one (ps_set (i := 2) sc_law_letters.nd rfl (Or.inl rfl) (pe_op op_addG (pv 2) (pe_calX (sp := spM K 2 m_law_pick) (cal_law_pick hd) (hr.mono (by decide)) rfl (takes_of rfl rfl rfl rfl) (pa_cons (pv 0) (pa_cons pe_str pa_nil)))))))
      (pss_one (ps_ret (pv 2))))),
    fn_body (fl := [false, false]) (n := 2) (k := 2) (is_seq (is_asg (by rfl) (iv_io (iq_iv c_str)))
      (is_seq (is_for (by rfl) (ii_R1 (iav_cons (io_iv (io_call (n := 2) (fun _ => .inr trivial) (ia_cons (nm_ib 0) (ia_cons (iv_ib (io_iv (io_op s_add (nm_ib 1) (iv_ib (iq_iv c_int))))) ia_nil)) (aC_len (aC_len aN_len)))) iav_nil)) (ig_nm (i := 3))
      (is_asg (by rfl) (io_op s_add (nm_ib 2) (iv_ib (io_iv (io_call (n := 2) (fun _ => .inr trivial) (ia_cons (nm_ib 0) (ia_cons (iv_ib (iq_iv c_str)) ia_nil)) (aC_len (aC_len aN_len))))))))
      (is_ret (mv_io 2)))) rfl h⟩
theorem cal_law_letters (hd : Hd K mg) : CalX P w K mg base 3 "_law_letters" ["drawer", "limit"] (spM K 2 m_law_letters) := by
  obtain ⟨fd, F⟩ := hd.def_ 4
  exact .mk' (hd.glo 8) F.kp (FunD.bindsN F fun _ _ _ _ _ _ us hl => match us, hl with | [_, _], _ => rfl) (ok_law_letters hd F)

def m_law_modulus : MF := fnM [false] 0
      (sSeq (sIf (tst (vO (oOp (opEq false) (bV (vO (callM m_law_draw (aCons (nmM 0) (aCons (bV (vM (pC (.int 4)))) aNil))))) (bV (vM (pC (.int 0))))))) (sRet (oOp opAdd (bV (vM (pC (.int 1)))) (bV (vO (callM m_law_draw (aCons (nmM 0) (aCons (bV (vM (pC (.int 65536)))) aNil))))))) sNil)
      (sRet (callM m_law_pick (aCons (nmM 0) (aCons (bV (vO (oLst (vCons (vM (pC (.int 1))) (vCons (vM (pC (.int 2))) (vCons (vM (pC (.int 2))) (vCons (vM (pC (.int 3))) (vCons (vM (pC (.int 4))) (vCons (vM (pC (.int 4))) (vCons (vM (pC (.int 5))) (vCons (vM (pC (.int 6))) (vCons (vM (pC (.int 8))) (vCons (vM (pC (.int 9))) (vCons (vM (pC (.int 12))) (vCons (vM (pC (.int 16))) (vCons (vM (pC (.int 256))) (vCons (vM (pC (.int 65535))) (vCons (vM (pC (.int 65536))) vNil)))))))))))))))))) aNil)))))
theorem ok_law_modulus (hd : Hd K mg) {fd : FuncData} (F : FunD K d_law_modulus.name d_law_modulus.qual d_law_modulus.params d_law_modulus.body d_law_modulus.scope (d_law_modulus.dvs K) (d_law_modulus.kws K) (He.fAd K d_law_modulus.at_) fd) : FnOk P w K mg base (L2.CX P w) 3 (He.fAd K d_law_modulus.at_) fd ["drawer"] (spM K 1 m_law_modulus) := by
  refine FunD.ok F sc_law_modulus (fun vs H Q E h => h.1) (fun cdv A outer s H vs Q E hr h => ?_)
  exact ⟨_, (pss_cons (ps_if (pt_cmpR (op_eqG (hu64 hr)) (pe_calX (sp := spM K 2 m_law_draw) (cal_law_draw hd) (hr.mono (by decide)) rfl (takes_of rfl rfl rfl rfl) (pa_cons (pv 0) (pa_cons pe_int pa_nil))) pe_int (nomark _)) (pss_one (ps_ret (pe_op op_addG pe_int (pe_calX (sp := spM K 2 m_law_draw) (cal_law_draw hd) (hr.mono (by decide)) rfl (takes_of rfl rfl rfl rfl) (pa_cons (pv 0) (pa_cons pe_int pa_nil)))))) pss_nil)
      (pss_one (ps_ret (pe_calX (sp := spM K 2 m_law_pick) (cal_law_pick hd) (hr.mono (by decide)) rfl (takes_of rfl rfl rfl rfl) (pa_cons (pv 0) (pa_cons (pe_lst (pa_cons pe_int (pa_cons pe_int (pa_cons pe_int (pa_cons pe_int (pa_cons pe_int (pa_cons pe_int (pa_cons pe_int (pa_cons pe_int (pa_cons pe_int (pa_cons pe_int (pa_cons pe_int (pa_cons pe_int (pa_cons pe_int (pa_cons pe_int (pa_cons pe_int pa_nil)))))))))))))))) pa_nil)))))),
    fn_body (fl := [false]) (n := 1) (k := 0) (is_seq (is_if (it_test (io_iv (io_op s_eq (iv_ib (io_iv (io_call (n := 2) (fun _ => .inr trivial) (ia_cons (nm_ib 0) (ia_cons (iv_ib (iq_iv c_int)) ia_nil)) (aC_len (aC_len aN_len))))) (iv_ib (iq_iv c_int))))) (is_ret (io_op s_add (iv_ib (iq_iv c_int)) (iv_ib (io_iv (io_call (n := 2) (fun _ => .inr trivial) (ia_cons (nm_ib 0) (ia_cons (iv_ib (iq_iv c_int)) ia_nil)) (aC_len (aC_len aN_len))))))) is_nil)
      (is_ret (io_call (n := 2) (fun _ => .inr trivial) (ia_cons (nm_ib 0) (ia_cons (iv_ib (io_iv (io_lst (iav_cons (iq_iv c_int) (iav_cons (iq_iv c_int) (iav_cons (iq_iv c_int) (iav_cons (iq_iv c_int) (iav_cons (iq_iv c_int) (iav_cons (iq_iv c_int) (iav_cons (iq_iv c_int) (iav_cons (iq_iv c_int) (iav_cons (iq_iv c_int) (iav_cons (iq_iv c_int) (iav_cons (iq_iv c_int) (iav_cons (iq_iv c_int) (iav_cons (iq_iv c_int) (iav_cons (iq_iv c_int) (iav_cons (iq_iv c_int) iav_nil)))))))))))))))))) ia_nil)) (aC_len (aC_len aN_len))))) rfl h⟩
theorem cal_law_modulus (hd : Hd K mg) : CalX P w K mg base 3 "_law_modulus" ["drawer"] (spM K 1 m_law_modulus) := by
  obtain ⟨fd, F⟩ := hd.def_ 5
  exact .mk' (hd.glo 9) F.kp (FunD.bindsN F fun _ _ _ _ _ _ us hl => match us, hl with | [_], _ => rfl) (ok_law_modulus hd F)

def l_law_rows_0 : SM := (sSeq (sAsg 11 (oV (vL (pNm 5))))
      (sSeq (sIf (tst (vO (oOp (opEq false) (nmM 4) (bV (vM (pC (.int 1))))))) (sAsg 11 (oOp opIx (bV (vO (oLst (vCons (vL (pNm 5)) (vCons (vL (pNm 6)) vNil))))) (bV (vO (callM m_law_draw (aCons (nmM 0) (aCons (bV (vM (pC (.int 2)))) aNil))))))) sNil)
      (sSeq (sIf (tst (vO (oOp (opEq false) (nmM 4) (bV (vM (pC (.int 2))))))) (sAsg 11 (oOp opMod (bV (vO (oA bInt (aCons (bV (vO (oOp opAdd (bV (vO (oOp opMul (nmM 5) (nmM 10)))) (bV (vO (oOp opMul (nmM 6) (nmM 8))))))) aNil)))) (nmM 1))) sNil)
      (sSeq (sIf (tst (vO (oOp opGt (nmM 4) (bV (vM (pC (.int 2))))))) (sAsg 11 (callM m_law_draw (aCons (nmM 0) (aCons (nmM 1) aNil)))) sNil)
      (sDrop (mApp 9 (oV (vL (pNm 11)))))))))
def l_law_rows_1 : SM := (sSeq (sAsg 9 (oLst vNil))
      (sSeq (sFor (iR1 (vCons (vL (pNm 2)) vNil)) (gNm 10) l_law_rows_0)
      (sDrop (mApp 7 (oA bTup (aCons (nmM 9) aNil))))))
def m_law_rows : MF := fnM [false, false, false, false] 8
      (sSeq (sAsg 4 (callM m_law_draw (aCons (nmM 0) (aCons (bV (vM (pC (.int 5)))) aNil))))
      (sSeq (sAsg 5 (callM m_law_draw (aCons (nmM 0) (aCons (nmM 1) aNil))))
      (sSeq (sAsg 6 (callM m_law_draw (aCons (nmM 0) (aCons (nmM 1) aNil))))
      (sSeq (sAsg 7 (oLst vNil))
      (sSeq (sFor (iR1 (vCons (vL (pNm 3)) vNil)) (gNm 8) l_law_rows_1)
      (sRet (oA bTup (aCons (nmM 7) aNil))))))))
theorem ok_law_rows (hd : Hd K mg) {fd : FuncData} (F : FunD K d_law_rows.name d_law_rows.qual d_law_rows.params d_law_rows.body d_law_rows.scope (d_law_rows.dvs K) (d_law_rows.kws K) (He.fAd K d_law_rows.at_) fd) : FnOk P w K mg base (L2.CX P w) 2 (He.fAd K d_law_rows.at_) fd ["drawer", "modulus", "width", "height"] (spM K 4 m_law_rows) := by
  refine FunD.ok F sc_law_rows (fun vs H Q E h => h.1) (fun cdv A outer s H vs Q E hr h => ?_)
  exact ⟨_, (pss_cons (ps_set (i := 4) sc_law_rows.nd rfl (Or.inl rfl) (pe_calX (sp := spM K 2 m_law_draw) (cal_law_draw hd) (hr.mono (by decide)) rfl (takes_of rfl rfl rfl rfl) (pa_cons (pv 0) (pa_cons pe_int pa_nil))))
      (pss_cons (ps_set (i := 5) sc_law_rows.nd rfl (Or.inl rfl) (pe_calX (sp := spM K 2 m_law_draw) (cal_law_draw hd) (hr.mono (by decide)) rfl (takes_of rfl rfl rfl rfl) (pa_cons (pv 0) (pa_cons (pv 1) pa_nil))))
      (pss_cons (ps_set (i := 6) sc_law_rows.nd rfl (Or.inl rfl) (pe_calX (sp := spM K 2 m_law_draw) (cal_law_draw hd) (hr.mono (by decide)) rfl (takes_of rfl rfl rfl rfl) (pa_cons (pv 0) (pa_cons (pv 1) pa_nil))))
      (pss_cons (ps_set (i := 7) sc_law_rows.nd rfl (Or.inl rfl) (pe_lst pa_nil))
      (pss_cons (ps_for (passes_of rfl) rfl (pi_range1 rfl (hd.free 7) (pa_cons (pv 3) pa_nil)) (pg_name (i := 8) sc_law_rows.nd rfl (Or.inl rfl))
      (pss_cons (ps_set (i := 9) sc_law_rows.nd rfl (Or.inl rfl) (pe_lst pa_nil))
      (pss_cons (ps_for (passes_of rfl) rfl (pi_range1 rfl (hd.free 7) (pa_cons (pv 2) pa_nil)) (pg_name (i := 10) sc_law_rows.nd rfl (Or.inl rfl))
      (pss_cons (ps_set (i := 11) sc_law_rows.nd rfl (Or.inl rfl) (pv 5))
      (pss_cons (ps_if (pt_cmpR (op_eqG (hu64 hr)) (pv 4) pe_int (nomark _)) (pss_one (ps_set (i := 11) sc_law_rows.nd rfl (Or.inl rfl) (pe_ix ix_G (pe_lst (pa_cons (pv 5) (pa_cons (pv 6) pa_nil))) (pe_calX (sp := spM K 2 m_law_draw) (cal_law_draw hd) (hr.mono (by decide)) rfl (takes_of rfl rfl rfl rfl) (pa_cons (pv 0) (pa_cons pe_int pa_nil))) (fun _ _ => rfl)))) pss_nil)
      (pss_cons (ps_if (pt_cmpR (op_eqG (hu64 hr)) (pv 4) pe_int (nomark _)) (pss_one (ps_set (i := 11) sc_law_rows.nd rfl (Or.inl rfl) (pe_op op_mod (pe_callTy g_int (by rfl) (hd.free 2) (by decide +kernel) (pa_cons (pe_op op_addG (pe_op op_mulH (pv 5) (pv 10)) (pe_op op_mulH (pv 6) (pv 8))) pa_nil)) (pv 1)))) pss_nil)
      (pss_cons (ps_if (pt_cmpR op_gtG (pv 4) pe_int (nomark _)) (pss_one (ps_set (i := 11) sc_law_rows.nd rfl (Or.inl rfl) (pe_calX (sp := spM K 2 m_law_draw) (cal_law_draw hd) (hr.mono (by decide)) rfl (takes_of rfl rfl rfl rfl) (pa_cons (pv 0) (pa_cons (pv 1) pa_nil))))) pss_nil)
      (pss_one (ps_expr (pe_bm PySem.F.plainAttrs_list PySem.F.slot_list_append PySem.F.type_list_append mt_append (pv 9) (pa_cons (pv 11) pa_nil)))))))))
      (pss_one (ps_expr (pe_bm PySem.F.plainAttrs_list PySem.F.slot_list_append PySem.F.type_list_append mt_append (pv 7) (pa_cons (pe_callTy g_tuple (by rfl) (hd.free 10) (by decide +kernel) (pa_cons (pv 9) pa_nil)) pa_nil)))))))
      (pss_one (ps_ret (pe_callTy g_tuple (by rfl) (hd.free 10) (by decide +kernel) (pa_cons (pv 7) pa_nil))))))))),
    fn_body (fl := [false, false, false, false]) (n := 4) (k := 8) (is_seq (is_asg (by rfl) (io_call (n := 2) (fun _ => .inr trivial) (ia_cons (nm_ib 0) (ia_cons (iv_ib (iq_iv c_int)) ia_nil)) (aC_len (aC_len aN_len))))
      (is_seq (is_asg (by rfl) (io_call (n := 2) (fun _ => .inr trivial) (ia_cons (nm_ib 0) (ia_cons (nm_ib 1) ia_nil)) (aC_len (aC_len aN_len))))
      (is_seq (is_asg (by rfl) (io_call (n := 2) (fun _ => .inr trivial) (ia_cons (nm_ib 0) (ia_cons (nm_ib 1) ia_nil)) (aC_len (aC_len aN_len))))
      (is_seq (is_asg (by rfl) (io_lst iav_nil))
      (is_seq (is_for (by rfl) (ii_R1 (iav_cons (il_iv (nm_il 3)) iav_nil)) (ig_nm (i := 8))
      (is_seq (is_asg (by rfl) (io_lst iav_nil))
      (is_seq (is_for (by rfl) (ii_R1 (iav_cons (il_iv (nm_il 2)) iav_nil)) (ig_nm (i := 10))
      (is_seq (is_asg (by rfl) (iv_io (il_iv (nm_il 5))))
      (is_seq (is_if (it_test (io_iv (io_op s_eq (nm_ib 4) (iv_ib (iq_iv c_int))))) (is_asg (by rfl) (io_op s_ix (iv_ib (io_iv (io_lst (iav_cons (il_iv (nm_il 5)) (iav_cons (il_iv (nm_il 6)) iav_nil))))) (iv_ib (io_iv (io_call (n := 2) (fun _ => .inr trivial) (ia_cons (nm_ib 0) (ia_cons (iv_ib (iq_iv c_int)) ia_nil)) (aC_len (aC_len aN_len))))))) is_nil)
      (is_seq (is_if (it_test (io_iv (io_op s_eq (nm_ib 4) (iv_ib (iq_iv c_int))))) (is_asg (by rfl) (io_op s_mod (iv_ib (io_iv (io_cb s_int (ia_cons (iv_ib (io_iv (io_op s_add (iv_ib (io_iv (io_op s_mul (nm_ib 5) (nm_ib 10)))) (iv_ib (io_iv (io_op s_mul (nm_ib 6) (nm_ib 8))))))) ia_nil)))) (nm_ib 1))) is_nil)
      (is_seq (is_if (it_test (io_iv (io_op s_ord (nm_ib 4) (iv_ib (iq_iv c_int))))) (is_asg (by rfl) (io_call (n := 2) (fun _ => .inr trivial) (ia_cons (nm_ib 0) (ia_cons (nm_ib 1) ia_nil)) (aC_len (aC_len aN_len)))) is_nil)
      (is_drop (io_append (iv_io (il_iv (nm_il 11))))))))))
      (is_drop (io_append (io_cb s_tup (ia_cons (nm_ib 9) ia_nil)))))))
      (is_ret (io_cb s_tup (ia_cons (nm_ib 7) ia_nil)))))))) rfl h⟩
theorem cal_law_rows (hd : Hd K mg) : CalX P w K mg base 2 "_law_rows" ["drawer", "modulus", "width", "height"] (spM K 4 m_law_rows) := by
  obtain ⟨fd, F⟩ := hd.def_ 6
  exact .mk' (hd.glo 11) F.kp (FunD.bindsN F fun _ _ _ _ _ _ us hl => match us, hl with | [_, _, _, _], _ => rfl) (ok_law_rows hd F)

def l_law_steps_0 : SM := (sIf (tst (vO (oOp (opEq false) (nmM 4) (bV (vM (pC (.str (Str.ofString "a")))))))) (sAsg 2 (oOp opMul (nmM 2) (bV (vM (pC (.int 2)))))) (sAsg 3 (oOp opMul (nmM 3) (bV (vM (pC (.int 2)))))))
def m_law_steps : MF := fnM [false, false] 3
      (sSeq (sAsg 2 (oV (vM (pC (.int 1)))))
      (sSeq (sAsg 3 (oV (vM (pC (.int 1)))))
      (sSeq (sFor (iIt (vO (oSl (nmM 0) (ipSome (vL (pNm 1))) ipNo))) (gNm 4) l_law_steps_0)
      (sRet (oV (vTup (vCons (vL (pNm 2)) (vCons (vL (pNm 3)) vNil))))))))
theorem ok_law_steps (hd : Hd K mg) {fd : FuncData} (F : FunD K d_law_steps.name d_law_steps.qual d_law_steps.params d_law_steps.body d_law_steps.scope (d_law_steps.dvs K) (d_law_steps.kws K) (He.fAd K d_law_steps.at_) fd) : FnOk P w K mg base (L2.CX P w) 1 (He.fAd K d_law_steps.at_) fd ["letters", "number"] (spM K 2 m_law_steps) := by
  refine FunD.ok F sc_law_steps (fun vs H Q E h => h.1) (fun cdv A outer s H vs Q E hr h => ?_)
  exact ⟨_, (pss_cons (ps_set (i := 2) sc_law_steps.nd rfl (Or.inl rfl) pe_int)
      (pss_cons (ps_set (i := 3) sc_law_steps.nd rfl (Or.inl rfl) pe_int)
      (pss_cons (ps_for (passes_of rfl) rfl (pi_G (pe_slice sl_G (pv 0) (po_some (pv 1)) po_none)) (pg_name (i := 4) sc_law_steps.nd rfl (Or.inl rfl))
      (pss_one (ps_if (pt_cmpR (op_eqG (hu64 hr)) (pv 4) pe_str (nomark _)) (pss_one (ps_set (i := 2) sc_law_steps.nd rfl (Or.inl rfl) (pe_op op_mulH (pv 2) pe_int))) (pss_one (ps_set (i := 3) sc_law_steps.nd rfl (Or.inl rfl) (pe_op op_mulH (pv 3) pe_int))))))
      (pss_one (ps_ret (pe_tup (pa_cons (pv 2) (pa_cons (pv 3) pa_nil)))))))),
    fn_body (fl := [false, false]) (n := 2) (k := 3) (is_seq (is_asg (by rfl) (iv_io (iq_iv c_int)))
      (is_seq (is_asg (by rfl) (iv_io (iq_iv c_int)))
      (is_seq (is_for (by rfl) (ii_G (io_iv (io_sl (nm_ib 0) (ito_some (il_iv (nm_il 1))) ito_no))) (ig_nm (i := 4))
      (is_if (it_test (io_iv (io_op s_eq (nm_ib 4) (iv_ib (iq_iv c_str))))) (is_asg (by rfl) (io_op s_mul (nm_ib 2) (iv_ib (iq_iv c_int)))) (is_asg (by rfl) (io_op s_mul (nm_ib 3) (iv_ib (iq_iv c_int))))))
      (is_ret (iv_io (iv_tup (iav_cons (il_iv (nm_il 2)) (iav_cons (il_iv (nm_il 3)) iav_nil)))))))) rfl h⟩
theorem cal_law_steps (hd : Hd K mg) : CalX P w K mg base 1 "_law_steps" ["letters", "number"] (spM K 2 m_law_steps) := by
  obtain ⟨fd, F⟩ := hd.def_ 7
  exact .mk' (hd.glo 12) F.kp (FunD.bindsN F fun _ _ _ _ _ _ us hl => match us, hl with | [_, _], _ => rfl) (ok_law_steps hd F)

def l_Sheet__init_0 : M T := (oV (vO (oA bTup (aCons (nmM 3) aNil))))
def m_Sheet__init : MF := fnM [false, false, false] 1
      (sSeq (sSetA tab 0 "modulus" (oV (vL (pNm 1))))
      (sSeq (sSetA tab 0 "rows" (oA bTup (aCons (bV (vO (lcM [3] (iIt (vL (pNm 2))) (gNm 3) tYesM l_Sheet__init_0))) aNil)))
      (sSeq (sSetA tab 0 "width" (oA bLen (aCons (bV (vL (pIx (pFld tab "rows" (pNm 0)) (pC (.int 0))))) aNil)))
      (sSetA tab 0 "height" (oA bLen (aCons (bV (vL (pFld tab "rows" (pNm 0)))) aNil))))))
theorem ok_Sheet__init (hd : Hd K mg) {fd : FuncData} (F : FunD K d_Sheet__init.name d_Sheet__init.qual d_Sheet__init.params d_Sheet__init.body d_Sheet__init.scope (d_Sheet__init.dvs K) (d_Sheet__init.kws K) (He.fAd K d_Sheet__init.at_) fd) : FnOk P w K mg base (L2.CX P w) 1 (He.fAd K d_Sheet__init.at_) fd ["self", "modulus", "rows"] (spM K 3 m_Sheet__init) := by
  refine FunD.ok F sc_Sheet__init (fun vs H Q E h => h.1) (fun cdv A outer s H vs Q E hr h => ?_)
  exact ⟨_, (pss_cons (ps_fld (pv 0) (pv 1) rfl)
      (pss_cons (ps_fld (pv 0) (pe_callTy g_tuple (by rfl) (hd.free 10) (by decide +kernel) (pa_cons (pe_lc (own := [("row", 3)]) (g := _) (by rfl) sc_Sheet__init.nd (pi_G (pv 2)) (blkOk_by (own := [("row", 3)]) (N := N_Sheet__init) (sc := defScope s_Sheet__init) (by decide +kernel)) (fun _ _ _ _ _ => (pg_name (i := 3) sc_Sheet__init.nd rfl (Or.inl rfl))) (fun _ _ _ _ _ => pts_nil) (fun _ _ _ _ _ => (pe_callTy g_tuple (by rfl) (hd.free 10) (by decide +kernel) (pa_cons (pv 3) pa_nil)))) pa_nil)) rfl)
      (pss_cons (ps_fld (pv 0) (pe_callB g_len (by rfl) (hd.free 0) (by decide +kernel) (pa_cons (pe_ix ix_G (pe_fld (pv 0) rfl) pe_int (fun _ _ => rfl)) pa_nil)) rfl)
      (pss_one (ps_fld (pv 0) (pe_callB g_len (by rfl) (hd.free 0) (by decide +kernel) (pa_cons (pe_fld (pv 0) rfl) pa_nil)) rfl))))),
    fn_body (fl := [false, false, false]) (n := 3) (k := 1) (is_seq (is_setA (tab_ok hd) (iv_io (il_iv (nm_il 1))))
      (is_seq (is_setA (tab_ok hd) (io_cb s_tup (ia_cons (iv_ib (io_iv (io_lc (vs := [3]) (by rfl) (ii_G (il_iv (nm_il 2))) (ig_nm (i := 3)) it_yes (iv_io (io_iv (io_cb s_tup (ia_cons (nm_ib 3) ia_nil))))))) ia_nil)))
      (is_seq (is_setA (tab_ok hd) (io_cb s_len (ia_cons (iv_ib (il_iv (il_ix (il_fld (tab_ok hd) (nm_il 0)) c_int))) ia_nil)))
      (is_setA (tab_ok hd) (io_cb s_len (ia_cons (iv_ib (il_iv (il_fld (tab_ok hd) (nm_il 0)))) ia_nil)))))) rfl h⟩
theorem mk_Sheet (hd : Hd K mg) : MkI P w K mg base 1 "Sheet" (spM K 3 m_Sheet__init) ["self", "modulus", "rows"] := by
  obtain ⟨fd, F⟩ := hd.def_ 8
  exact ⟨_, fd, He.mkr_ok (hd.c.fact 13 rfl), ok_Sheet__init hd F, FunD.bindsN F fun _ _ _ _ _ _ us hl => match us, hl with | [_, _, _], _ => rfl⟩

def l_law_pass_0 : SM := (sIf (tand (tst (vO (oOp (opEq false) (bV (vO (oOp opMod (bV (vO (oA bInt (aCons (nmM 0) aNil)))) (bV (vL (pIx (pIx (pNm 2) (pAt (pNm 3))) (pC (.int 0)))))))) (bV (vM (pC (.int 0))))))) (tst (vO (oOp (opEq false) (bV (vO (oOp opMod (bV (vO (oA bInt (aCons (nmM 1) aNil)))) (bV (vL (pIx (pIx (pNm 2) (pAt (pNm 3))) (pC (.int 1)))))))) (bV (vM (pC (.int 0)))))))) (sRet (mvM 3)) sNil)
def m_law_pass : MF := fnM [false, false, false] 1
      (sSeq (sFor (iR1 (vCons (vO (oA bLen (aCons (nmM 2) aNil))) vNil)) (gNm 3) l_law_pass_0)
      (sRet (oA bLen (aCons (nmM 2) aNil))))
theorem ok_law_pass (hd : Hd K mg) {fd : FuncData} (F : FunD K d_law_pass.name d_law_pass.qual d_law_pass.params d_law_pass.body d_law_pass.scope (d_law_pass.dvs K) (d_law_pass.kws K) (He.fAd K d_law_pass.at_) fd) : FnOk P w K mg base (L2.CX P w) 1 (He.fAd K d_law_pass.at_) fd ["x", "y", "grids"] (spM K 3 m_law_pass) := by
  refine FunD.ok F sc_law_pass (fun vs H Q E h => h.1) (fun cdv A outer s H vs Q E hr h => ?_)
  exact ⟨_, (pss_cons (ps_for (passes_of rfl) rfl (pi_range1 rfl (hd.free 7) (pa_cons (pe_callB g_len (by rfl) (hd.free 0) (by decide +kernel) (pa_cons (pv 2) pa_nil)) pa_nil)) (pg_name (i := 3) sc_law_pass.nd rfl (Or.inl rfl))
      (pss_one (ps_if (PW.pt (pw_and (pt_cmpR (op_eqG (hu64 hr)) (pe_op op_mod (pe_callTy g_int (by rfl) (hd.free 2) (by decide +kernel) (pa_cons (pv 0) pa_nil)) (pe_ix ix_G (pe_ix ix_G (pv 2) (pv 3) (fun _ _ => rfl)) pe_int (fun _ _ => rfl))) pe_int (nomark _)) (pw_and1 (pt_cmpR (op_eqG (hu64 hr)) (pe_op op_mod (pe_callTy g_int (by rfl) (hd.free 2) (by decide +kernel) (pa_cons (pv 1) pa_nil)) (pe_ix ix_G (pe_ix ix_G (pv 2) (pv 3) (fun _ _ => rfl)) pe_int (fun _ _ => rfl))) pe_int (nomark _))))) (pss_one (ps_ret (pv 3))) pss_nil)))
      (pss_one (ps_ret (pe_callB g_len (by rfl) (hd.free 0) (by decide +kernel) (pa_cons (pv 2) pa_nil))))),
    fn_body (fl := [false, false, false]) (n := 3) (k := 1) (is_seq (is_for (by rfl) (ii_R1 (iav_cons (io_iv (io_cb s_len (ia_cons (nm_ib 2) ia_nil))) iav_nil)) (ig_nm (i := 3))
      (is_if (it_and (it_test (io_iv (io_op s_eq (iv_ib (io_iv (io_op s_mod (iv_ib (io_iv (io_cb s_int (ia_cons (nm_ib 0) ia_nil)))) (iv_ib (il_iv (il_ix (il_ix (nm_il 2) (il_iq (nm_il 3))) c_int)))))) (iv_ib (iq_iv c_int))))) (it_test (io_iv (io_op s_eq (iv_ib (io_iv (io_op s_mod (iv_ib (io_iv (io_cb s_int (ia_cons (nm_ib 1) ia_nil)))) (iv_ib (il_iv (il_ix (il_ix (nm_il 2) (il_iq (nm_il 3))) c_int)))))) (iv_ib (iq_iv c_int)))))) (is_ret (mv_io 3)) is_nil))
      (is_ret (io_cb s_len (ia_cons (nm_ib 2) ia_nil)))) rfl h⟩
theorem cal_law_pass (hd : Hd K mg) : CalX P w K mg base 1 "_law_pass" ["x", "y", "grids"] (spM K 3 m_law_pass) := by
  obtain ⟨fd, F⟩ := hd.def_ 9
  exact .mk' (hd.glo 14) F.kp (FunD.bindsN F fun _ _ _ _ _ _ us hl => match us, hl with | [_, _, _], _ => rfl) (ok_law_pass hd F)

def l_law_view_0 : SM := (sIf (tst (vO (oOp opLt (bV (vO (callM m_law_pass (aCons (nmM 6) (aCons (nmM 4) (aCons (nmM 1) aNil)))))) (nmM 2)))) (sDrop (mApp 5 (oV (vL (pIx (pIx (pNm 0) (pAt (pNm 4))) (pAt (pNm 6))))))) (sDrop (mApp 5 (oV (vL (pIx (pNm 5) (pU opNeg (pC (.int 1)))))))))
def l_law_view_1 : SM := (sSeq (sAsg 5 (oLst vNil))
      (sSeq (sIf (tst (vO (oOp opLt (bV (vO (callM m_law_pass (aCons (bV (vM (pC (.int 0)))) (aCons (nmM 4) (aCons (nmM 1) aNil)))))) (nmM 2)))) (sFor (iR1 (vCons (vO (oA bLen (aCons (bV (vL (pIx (pNm 0) (pC (.int 0))))) aNil))) vNil)) (gNm 6) l_law_view_0) (sAsg 5 (oA bList (aCons (bV (vL (pIx (pNm 3) (pU opNeg (pC (.int 1)))))) aNil))))
      (sDrop (mApp 3 (oA bTup (aCons (nmM 5) aNil))))))
def m_law_view : MF := fnM [false, false, false] 4
      (sSeq (sAsg 3 (oLst vNil))
      (sSeq (sFor (iR1 (vCons (vO (oA bLen (aCons (nmM 0) aNil))) vNil)) (gNm 4) l_law_view_1)
      (sRet (oA bTup (aCons (nmM 3) aNil)))))
theorem ok_law_view (hd : Hd K mg) {fd : FuncData} (F : FunD K d_law_view.name d_law_view.qual d_law_view.params d_law_view.body d_law_view.scope (d_law_view.dvs K) (d_law_view.kws K) (He.fAd K d_law_view.at_) fd) : FnOk P w K mg base (L2.CX P w) 2 (He.fAd K d_law_view.at_) fd ["rows", "grids", "passes"] (spM K 3 m_law_view) := by
  refine FunD.ok F sc_law_view (fun vs H Q E h => h.1) (fun cdv A outer s H vs Q E hr h => ?_)
  exact ⟨_, (pss_cons (ps_set (i := 3) sc_law_view.nd rfl (Or.inl rfl) (pe_lst pa_nil))
      (pss_cons (ps_for (passes_of rfl) rfl (pi_range1 rfl (hd.free 7) (pa_cons (pe_callB g_len (by rfl) (hd.free 0) (by decide +kernel) (pa_cons (pv 0) pa_nil)) pa_nil)) (pg_name (i := 4) sc_law_view.nd rfl (Or.inl rfl))
      (pss_cons (ps_set (i := 5) sc_law_view.nd rfl (Or.inl rfl) (pe_lst pa_nil))
      (pss_cons (ps_if (pt_cmpR op_ltG (pe_calX (sp := spM K 3 m_law_pass) (cal_law_pass hd) (hr.mono (by decide)) rfl (takes_of rfl rfl rfl rfl) (pa_cons pe_int (pa_cons (pv 4) (pa_cons (pv 1) pa_nil)))) (pv 2) (nomark _)) (pss_one (ps_for (passes_of rfl) rfl (pi_range1 rfl (hd.free 7) (pa_cons (pe_callB g_len (by rfl) (hd.free 0) (by decide +kernel) (pa_cons (pe_ix ix_G (pv 0) pe_int (fun _ _ => rfl)) pa_nil)) pa_nil)) (pg_name (i := 6) sc_law_view.nd rfl (Or.inl rfl))
      (pss_one (ps_if (pt_cmpR op_ltG (pe_calX (sp := spM K 3 m_law_pass) (cal_law_pass hd) (hr.mono (by decide)) rfl (takes_of rfl rfl rfl rfl) (pa_cons (pv 6) (pa_cons (pv 4) (pa_cons (pv 1) pa_nil)))) (pv 2) (nomark _)) (pss_one (ps_expr (pe_bm PySem.F.plainAttrs_list PySem.F.slot_list_append PySem.F.type_list_append mt_append (pv 5) (pa_cons (pe_ix ix_G (pe_ix ix_G (pv 0) (pv 4) (fun _ _ => rfl)) (pv 6) (fun _ _ => rfl)) pa_nil)))) (pss_one (ps_expr (pe_bm PySem.F.plainAttrs_list PySem.F.slot_list_append PySem.F.type_list_append mt_append (pv 5) (pa_cons (pe_ix ix_G (pv 5) (pe_un un_neg pe_int) (fun _ _ => rfl)) pa_nil)))))))) (pss_one (ps_set (i := 5) sc_law_view.nd rfl (Or.inl rfl) (pe_callTy g_list (by rfl) (hd.free 15) (by decide +kernel) (pa_cons (pe_ix ix_G (pv 3) (pe_un un_neg pe_int) (fun _ _ => rfl)) pa_nil)))))
      (pss_one (ps_expr (pe_bm PySem.F.plainAttrs_list PySem.F.slot_list_append PySem.F.type_list_append mt_append (pv 3) (pa_cons (pe_callTy g_tuple (by rfl) (hd.free 10) (by decide +kernel) (pa_cons (pv 5) pa_nil)) pa_nil)))))))
      (pss_one (ps_ret (pe_callTy g_tuple (by rfl) (hd.free 10) (by decide +kernel) (pa_cons (pv 3) pa_nil)))))),
    fn_body (fl := [false, false, false]) (n := 3) (k := 4) (is_seq (is_asg (by rfl) (io_lst iav_nil))
      (is_seq (is_for (by rfl) (ii_R1 (iav_cons (io_iv (io_cb s_len (ia_cons (nm_ib 0) ia_nil))) iav_nil)) (ig_nm (i := 4))
      (is_seq (is_asg (by rfl) (io_lst iav_nil))
      (is_seq (is_if (it_test (io_iv (io_op s_ord (iv_ib (io_iv (io_call (n := 3) (fun _ => .inr trivial) (ia_cons (iv_ib (iq_iv c_int)) (ia_cons (nm_ib 4) (ia_cons (nm_ib 1) ia_nil))) (aC_len (aC_len (aC_len aN_len)))))) (nm_ib 2)))) (is_for (by rfl) (ii_R1 (iav_cons (io_iv (io_cb s_len (ia_cons (iv_ib (il_iv (il_ix (nm_il 0) c_int))) ia_nil))) iav_nil)) (ig_nm (i := 6))
      (is_if (it_test (io_iv (io_op s_ord (iv_ib (io_iv (io_call (n := 3) (fun _ => .inr trivial) (ia_cons (nm_ib 6) (ia_cons (nm_ib 4) (ia_cons (nm_ib 1) ia_nil))) (aC_len (aC_len (aC_len aN_len)))))) (nm_ib 2)))) (is_drop (io_append (iv_io (il_iv (il_ix (il_ix (nm_il 0) (il_iq (nm_il 4))) (il_iq (nm_il 6))))))) (is_drop (io_append (iv_io (il_iv (il_ix (nm_il 5) (iq_un s_neg (iq_ip c_int))))))))) (is_asg (by rfl) (io_cb s_list (ia_cons (iv_ib (il_iv (il_ix (nm_il 3) (iq_un s_neg (iq_ip c_int))))) ia_nil))))
      (is_drop (io_append (io_cb s_tup (ia_cons (nm_ib 5) ia_nil)))))))
      (is_ret (io_cb s_tup (ia_cons (nm_ib 3) ia_nil))))) rfl h⟩
theorem cal_law_view (hd : Hd K mg) : CalX P w K mg base 2 "_law_view" ["rows", "grids", "passes"] (spM K 3 m_law_view) := by
  obtain ⟨fd, F⟩ := hd.def_ 10
  exact .mk' (hd.glo 16) F.kp (FunD.bindsN F fun _ _ _ _ _ _ us hl => match us, hl with | [_, _, _], _ => rfl) (ok_law_view hd F)

def m_grid_steps : MF := fnM [false, false] 1
      (sSeq (sAsg 2 (oSl (nmM 0) (ipSome (vL (pNm 1))) ipNo))
      (sRet (oV (vTup (vCons (vO (oOp opShl (bV (vM (pC (.int 1)))) (bV (vO (oM mCount (vL (pNm 2)) (aCons (bV (vM (pC (.str (Str.ofString "a"))))) aNil)))))) (vCons (vO (oOp opShl (bV (vM (pC (.int 1)))) (bV (vO (oM mCount (vL (pNm 2)) (aCons (bV (vM (pC (.str (Str.ofString "d"))))) aNil)))))) vNil))))))
theorem ok_grid_steps (hd : Hd K mg) {fd : FuncData} (F : FunD K d_grid_steps.name d_grid_steps.qual d_grid_steps.params d_grid_steps.body d_grid_steps.scope (d_grid_steps.dvs K) (d_grid_steps.kws K) (He.fAd K d_grid_steps.at_) fd) : FnOk P w K mg base (L2.CX P w) 1 (He.fAd K d_grid_steps.at_) fd ["word", "number"] (spM K 2 m_grid_steps) := by
  refine FunD.ok F sc_grid_steps (fun vs H Q E h => h.1) (fun cdv A outer s H vs Q E hr h => ?_)
  exact ⟨_, (pss_cons (ps_set (i := 2) sc_grid_steps.nd rfl (Or.inl rfl) (pe_slice sl_G (pv 0) (po_some (pv 1)) po_none))
      (pss_one (ps_ret (pe_tup (pa_cons (pe_op op_shl pe_int (pe_bm PySem.F.plainAttrs_str PySem.F.slot_str_count PySem.F.type_str_count mt_count (pv 2) (pa_cons pe_str pa_nil))) (pa_cons (pe_op op_shl pe_int (pe_bm PySem.F.plainAttrs_str PySem.F.slot_str_count PySem.F.type_str_count mt_count (pv 2) (pa_cons pe_str pa_nil))) pa_nil)))))),
    fn_body (fl := [false, false]) (n := 2) (k := 1) (is_seq (is_asg (by rfl) (io_sl (nm_ib 0) (ito_some (il_iv (nm_il 1))) ito_no))
      (is_ret (iv_io (iv_tup (iav_cons (io_iv (io_op s_shl (iv_ib (iq_iv c_int)) (iv_ib (io_iv (io_bmS s_count (il_iv (nm_il 2)) (ia_cons (iv_ib (iq_iv c_str)) ia_nil)))))) (iav_cons (io_iv (io_op s_shl (iv_ib (iq_iv c_int)) (iv_ib (io_iv (io_bmS s_count (il_iv (nm_il 2)) (ia_cons (iv_ib (iq_iv c_str)) ia_nil)))))) iav_nil)))))) rfl h⟩
theorem cal_grid_steps (hd : Hd K mg) : CalX P w K mg base 1 "grid_steps" ["word", "number"] (spM K 2 m_grid_steps) := by
  obtain ⟨fd, F⟩ := hd.def_ 11
  exact .mk' (hd.glo 17) F.kp (FunD.bindsN F fun _ _ _ _ _ _ us hl => match us, hl with | [_, _], _ => rfl) (ok_grid_steps hd F)

def l_coarse_view_0 : M T := (oV (vL (pIx (pNm 7) (pOp opSub (pLk (pNm 8)) (pOp opMod (pLk (pNm 8)) (pLk (pNm 3)))))))
def l_coarse_view_1 : SM := (sSeq (sAsg 7 (oV (vL (pIx (pFld tab "rows" (pNm 0)) (pOp opSub (pLk (pNm 6)) (pOp opMod (pLk (pNm 6)) (pLk (pNm 4))))))))
      (sDrop (mApp 5 (lcM [8] (iR1 (vCons (vL (pFld tab "width" (pNm 0))) vNil)) (gNm 8) tYesM l_coarse_view_0))))
def m_coarse_view : MF := fnM [false, false, false] 6
      (sSeq (sGt (vO (callM m_grid_steps (aCons (nmM 1) (aCons (bV (vO (oOp opSub (nmM 2) (bV (vM (pC (.int 1))))))) aNil)))) (gTp 2 (gCn (gNm 3) (gCn (gNm 4) gNl))))
      (sSeq (sAsg 5 (oLst vNil))
      (sSeq (sFor (iR1 (vCons (vL (pFld tab "height" (pNm 0))) vNil)) (gNm 6) l_coarse_view_1)
      (sRet (mMake "Sheet" m_Sheet__init (vCons (vL (pFld tab "modulus" (pNm 0))) (vCons (vL (pNm 5)) vNil)))))))
theorem ok_coarse_view (hd : Hd K mg) {fd : FuncData} (F : FunD K d_coarse_view.name d_coarse_view.qual d_coarse_view.params d_coarse_view.body d_coarse_view.scope (d_coarse_view.dvs K) (d_coarse_view.kws K) (He.fAd K d_coarse_view.at_) fd) : FnOk P w K mg base (L2.CX P w) 3 (He.fAd K d_coarse_view.at_) fd ["sheet", "word", "passes"] (spM K 3 m_coarse_view) := by
  refine FunD.ok F sc_coarse_view (fun vs H Q E h => h.1) (fun cdv A outer s H vs Q E hr h => ?_)
  exact ⟨_, (pss_cons (ps_asg (pe_calX (sp := spM K 2 m_grid_steps) (cal_grid_steps hd) (hr.mono (by decide)) rfl (takes_of rfl rfl rfl rfl) (pa_cons (pv 1) (pa_cons (pe_op op_sub (pv 2) pe_int) pa_nil))) (pg_tup rfl (pgs_cons (pg_name (i := 3) sc_coarse_view.nd rfl (Or.inr rfl)) (pgs_cons (pg_name (i := 4) sc_coarse_view.nd rfl (Or.inl rfl)) pgs_nil))))
      (pss_cons (ps_set (i := 5) sc_coarse_view.nd rfl (Or.inl rfl) (pe_lst pa_nil))
      (pss_cons (ps_for (passes_of rfl) rfl (pi_range1 rfl (hd.free 7) (pa_cons (pe_fld (pv 0) rfl) pa_nil)) (pg_name (i := 6) sc_coarse_view.nd rfl (Or.inl rfl))
      (pss_cons (ps_set (i := 7) sc_coarse_view.nd rfl (Or.inr rfl) (pe_ix ix_G (pe_fld (pv 0) rfl) (pe_op op_sub (pv 6) (pe_op op_mod (pv 6) (pv 4))) (fun _ _ => rfl)))
      (pss_one (ps_expr (pe_bm PySem.F.plainAttrs_list PySem.F.slot_list_append PySem.F.type_list_append mt_append (pv 5) (pa_cons (pe_lc (own := [("x", 8)]) (g := _) (by rfl) sc_coarse_view.nd (pi_range1 rfl (hd.free 7) (pa_cons (pe_fld (pv 0) rfl) pa_nil)) (blkOk_by (own := [("x", 8)]) (N := N_coarse_view) (sc := defScope s_coarse_view) (by decide +kernel)) (fun _ _ _ _ _ => (pg_name (i := 8) sc_coarse_view.nd rfl (Or.inl rfl))) (fun _ _ _ _ _ => pts_nil) (fun _ _ _ _ _ => (pe_ix ix_G (pv 7) (pe_op op_sub (pv 8) (pe_op op_mod (pv 8) (pv 3))) (fun _ _ => rfl)))) pa_nil))))))
      (pss_one (ps_ret (pe_mkI (sp := spM K 3 m_Sheet__init) (mk_Sheet hd) (hr.mono (by decide)) rfl (hd.glo 18) (takes_of rfl rfl rfl rfl) (pa_cons (pe_fld (pv 0) rfl) (pa_cons (pv 5) pa_nil)))))))),
    fn_body (fl := [false, false, false]) (n := 3) (k := 6) (is_seq (is_gt (by rfl) (io_iv (io_call (n := 2) (fun _ => .inr trivial) (ia_cons (nm_ib 1) (ia_cons (iv_ib (io_iv (io_op s_sub (nm_ib 2) (iv_ib (iq_iv c_int))))) ia_nil)) (aC_len (aC_len aN_len)))) (ig_tup (igs_cons (ig_nm (i := 3)) (igs_cons (ig_nm (i := 4)) igs_nil))))
      (is_seq (is_asg (by rfl) (io_lst iav_nil))
      (is_seq (is_for (by rfl) (ii_R1 (iav_cons (il_iv (il_fld (tab_ok hd) (nm_il 0))) iav_nil)) (ig_nm (i := 6))
      (is_seq (is_asg (by rfl) (iv_io (il_iv (il_ix (il_fld (tab_ok hd) (nm_il 0)) (iq_op s_sub (il_ip (nm_il 6)) (iq_ip (iq_op s_mod (il_ip (nm_il 6)) (il_ip (nm_il 4)))))))))
      (is_drop (io_append (io_lc (vs := [8]) (by rfl) (ii_R1 (iav_cons (il_iv (il_fld (tab_ok hd) (nm_il 0))) iav_nil)) (ig_nm (i := 8)) it_yes (iv_io (il_iv (il_ix (nm_il 7) (iq_op s_sub (il_ip (nm_il 8)) (iq_ip (iq_op s_mod (il_ip (nm_il 8)) (il_ip (nm_il 3)))))))))))))
      (is_ret (io_make (n := 3) (iav_cons (il_iv (il_fld (tab_ok hd) (nm_il 0))) (iav_cons (il_iv (nm_il 5)) iav_nil)) (vS_len (vC_len (vC_len vN_len)))))))) rfl h⟩
theorem cal_coarse_view (hd : Hd K mg) : CalX P w K mg base 3 "coarse_view" ["sheet", "word", "passes"] (spM K 3 m_coarse_view) := by
  obtain ⟨fd, F⟩ := hd.def_ 12
  exact .mk' (hd.glo 19) F.kp (FunD.bindsN F fun _ _ _ _ _ _ us hl => match us, hl with | [_, _, _], _ => rfl) (ok_coarse_view hd F)

def m_law_int : MF := fnM [false] 0
      (sRet (oV (vAnd (vO (oA bIsi (aCons (nmM 0) (aCons (bV (vM (pC (.ty "int")))) aNil)))) (vNot (vO (oA bIsi (aCons (nmM 0) (aCons (bV (vM (pC (.ty "bool")))) aNil))))))))
theorem ok_law_int (hd : Hd K mg) {fd : FuncData} (F : FunD K d_law_int.name d_law_int.qual d_law_int.params d_law_int.body d_law_int.scope (d_law_int.dvs K) (d_law_int.kws K) (He.fAd K d_law_int.at_) fd) : FnOk P w K mg base (L2.CX P w) 1 (He.fAd K d_law_int.at_) fd ["value"] (spM K 1 m_law_int) := by
  refine FunD.ok F sc_law_int (fun vs H Q E h => h.1) (fun cdv A outer s H vs Q E hr h => ?_)
  exact ⟨_, (pss_one (ps_ret (pe_and (pe_callB call_isiG (by rfl) (hd.free 20) (by decide +kernel) (pa_cons (pv 0) (pa_cons (pe_bltn (v := .ty "int") (by rfl) (hd.free 2) (by decide +kernel) rfl) pa_nil))) (pe_one (pe_not (pe_callB call_isiG (by rfl) (hd.free 20) (by decide +kernel) (pa_cons (pv 0) (pa_cons (pe_bltn (v := .ty "bool") (by rfl) (hd.free 21) (by decide +kernel) rfl) pa_nil)))))))),
    fn_body (fl := [false]) (n := 1) (k := 0) (is_ret (iv_io (iv_and (io_iv (io_cb s_isi (ia_cons (nm_ib 0) (ia_cons (iv_ib (iq_iv c_ty)) ia_nil)))) (iv_not (io_iv (io_cb s_isi (ia_cons (nm_ib 0) (ia_cons (iv_ib (iq_iv c_ty)) ia_nil)))))))) rfl h⟩
theorem cal_law_int (hd : Hd K mg) : CalX P w K mg base 1 "_law_int" ["value"] (spM K 1 m_law_int) := by
  obtain ⟨fd, F⟩ := hd.def_ 13
  exact .mk' (hd.glo 22) F.kp (FunD.bindsN F fun _ _ _ _ _ _ us hl => match us, hl with | [_], _ => rfl) (ok_law_int hd F)

def l_law_same_0 (mf : MF) : SM := (sIf (tnot (tru (bV (vO (callM mf (aCons (bV (vL (pIx (pNm 0) (pAt (pNm 2))))) (aCons (bV (vL (pIx (pNm 1) (pAt (pNm 2))))) aNil))))))) (sRet (oV (vM (pC (.bl false))))) sNil)
def m_law_same : Nat → MF
  | 0 => fun _ => .stuck
  | n + 1 => fnM [false, false] 1
      (sSeq (sIf (tst (vO (oOp (opIs false) (nmM 1) (bV (vM (pC .non)))))) (sRet (oOp (opIs false) (nmM 0) (bV (vM (pC .non))))) sNil)
      (sSeq (sIf (tst (vO (oOp (opIs false) (nmM 1) (bV (vM (pC (.bl true))))))) (sRet (oOp (opIs false) (nmM 0) (bV (vM (pC (.bl true)))))) sNil)
      (sSeq (sIf (tst (vO (oOp (opIs false) (nmM 1) (bV (vM (pC (.bl false))))))) (sRet (oOp (opIs false) (nmM 0) (bV (vM (pC (.bl false)))))) sNil)
      (sSeq (sIf (tru (bV (vO (oA bIsi (aCons (nmM 1) (aCons (bV (vM (pC (.ty "int")))) aNil)))))) (sRet (oV (vAnd (vO (callM m_law_int (aCons (nmM 0) aNil))) (vO (oOp (opEq false) (nmM 0) (nmM 1)))))) sNil)
      (sSeq (sIf (tru (bV (vO (oA bIsi (aCons (nmM 1) (aCons (bV (vM (pC (.ty "str")))) aNil)))))) (sRet (oV (vAnd (vO (oA bIsi (aCons (nmM 0) (aCons (bV (vM (pC (.ty "str")))) aNil)))) (vO (oOp (opEq false) (nmM 0) (nmM 1)))))) sNil)
      (sSeq (sIf (tru (bV (vO (oA bIsi (aCons (nmM 1) (aCons (bV (vM (pC (.ty "tuple")))) aNil)))))) (sIf (tnot (tru (bV (vO (oA bIsi (aCons (nmM 0) (aCons (bV (vM (pC (.ty "tuple")))) aNil))))))) (sRet (oV (vM (pC (.bl false))))) sNil) (sIf (tnot (tru (bV (vO (oA bIsi (aCons (nmM 0) (aCons (bV (vM (pC (.ty "list")))) aNil))))))) (sRet (oV (vM (pC (.bl false))))) sNil))
      (sSeq (sIf (tst (vO (oOp (opEq true) (bV (vO (oA bLen (aCons (nmM 0) aNil)))) (bV (vO (oA bLen (aCons (nmM 1) aNil))))))) (sRet (oV (vM (pC (.bl false))))) sNil)
      (sSeq (sFor (iR1 (vCons (vO (oA bLen (aCons (nmM 1) aNil))) vNil)) (gNm 2) (l_law_same_0 (m_law_same n)))
      (sRet (oV (vM (pC (.bl true)))))))))))))
theorem ok_law_same (hd : Hd K mg) {fd : FuncData} (F : FunD K d_law_same.name d_law_same.qual d_law_same.params d_law_same.body d_law_same.scope (d_law_same.dvs K) (d_law_same.kws K) (He.fAd K d_law_same.at_) fd) : ∀ n : Nat, FnOk P w K mg base (L2.CX P w) (n + 2) (He.fAd K d_law_same.at_) fd ["got", "due"] (spM K 2 (m_law_same n)) := by
  refine Nat.rec (motive := fun n => FnOk P w K mg base (L2.CX P w) (n + 2) (He.fAd K d_law_same.at_) fd ["got", "due"] (spM K 2 (m_law_same n))) fn_stuck fun n ihn => ?_
  have ih : CalX P w K mg base (n + 2) "_law_same" ["got", "due"] (spM K 2 (m_law_same n)) := .mk' (hd.glo 24) F.kp (FunD.bindsN F fun _ _ _ _ _ _ us hl => match us, hl with | [_, _], _ => rfl) ihn
  refine FnOk.mono (FunD.ok (k := n + 2) F sc_law_same (fun vs H Q E h => h.1) (fun cdv A outer s H vs Q E hr h => ?_)) (by omega)
  exact ⟨_, (pss_cons (ps_if (pt_cmpR op_isG (pv 1) pe_non (nomark _)) (pss_one (ps_ret (pe_cmpR op_isG (pv 0) pe_non (nomark _)))) pss_nil)
      (pss_cons (ps_if (pt_cmpR op_isG (pv 1) pe_bl (nomark _)) (pss_one (ps_ret (pe_cmpR op_isG (pv 0) pe_bl (nomark _)))) pss_nil)
      (pss_cons (ps_if (pt_cmpR op_isG (pv 1) pe_bl (nomark _)) (pss_one (ps_ret (pe_cmpR op_isG (pv 0) pe_bl (nomark _)))) pss_nil)
      (pss_cons (ps_if (pt_truG (pe_callB call_isiG (by rfl) (hd.free 20) (by decide +kernel) (pa_cons (pv 1) (pa_cons (pe_bltn (v := .ty "int") (by rfl) (hd.free 2) (by decide +kernel) rfl) pa_nil))) (by intro _; rfl)) (pss_one (ps_ret (pe_and (pe_calX (sp := spM K 1 m_law_int) (cal_law_int hd) (hr.mono (by omega)) rfl (takes_of rfl rfl rfl rfl) (pa_cons (pv 0) pa_nil)) (pe_one (pe_cmpR (op_eqG (hu64 hr)) (pv 0) (pv 1) (nomark _)))))) pss_nil)
      (pss_cons (ps_if (pt_truG (pe_callB call_isiG (by rfl) (hd.free 20) (by decide +kernel) (pa_cons (pv 1) (pa_cons (pe_bltn (v := .ty "str") (by rfl) (hd.free 23) (by decide +kernel) rfl) pa_nil))) (by intro _; rfl)) (pss_one (ps_ret (pe_and (pe_callB call_isiG (by rfl) (hd.free 20) (by decide +kernel) (pa_cons (pv 0) (pa_cons (pe_bltn (v := .ty "str") (by rfl) (hd.free 23) (by decide +kernel) rfl) pa_nil))) (pe_one (pe_cmpR (op_eqG (hu64 hr)) (pv 0) (pv 1) (nomark _)))))) pss_nil)
      (pss_cons (ps_if (pt_truG (pe_callB call_isiG (by rfl) (hd.free 20) (by decide +kernel) (pa_cons (pv 1) (pa_cons (pe_bltn (v := .ty "tuple") (by rfl) (hd.free 10) (by decide +kernel) rfl) pa_nil))) (by intro _; rfl)) (pss_one (ps_if (pt_not (pt_truG (pe_callB call_isiG (by rfl) (hd.free 20) (by decide +kernel) (pa_cons (pv 0) (pa_cons (pe_bltn (v := .ty "tuple") (by rfl) (hd.free 10) (by decide +kernel) rfl) pa_nil))) (by intro _; rfl))) (pss_one (ps_ret pe_bl)) pss_nil)) (pss_one (ps_if (pt_not (pt_truG (pe_callB call_isiG (by rfl) (hd.free 20) (by decide +kernel) (pa_cons (pv 0) (pa_cons (pe_bltn (v := .ty "list") (by rfl) (hd.free 15) (by decide +kernel) rfl) pa_nil))) (by intro _; rfl))) (pss_one (ps_ret pe_bl)) pss_nil)))
      (pss_cons (ps_if (pt_cmpR (op_neG (hu64 hr)) (pe_callB g_len (by rfl) (hd.free 0) (by decide +kernel) (pa_cons (pv 0) pa_nil)) (pe_callB g_len (by rfl) (hd.free 0) (by decide +kernel) (pa_cons (pv 1) pa_nil)) (nomark _)) (pss_one (ps_ret pe_bl)) pss_nil)
      (pss_cons (ps_for (passes_of rfl) rfl (pi_range1 rfl (hd.free 7) (pa_cons (pe_callB g_len (by rfl) (hd.free 0) (by decide +kernel) (pa_cons (pv 1) pa_nil)) pa_nil)) (pg_name (i := 2) sc_law_same.nd rfl (Or.inl rfl))
      (pss_one (ps_if (pt_not (pt_truG (pe_calX (sp := spM K 2 (m_law_same n)) ih hr rfl (takes_of rfl rfl rfl rfl) (pa_cons (pe_ix ix_G (pv 0) (pv 2) (fun _ _ => rfl)) (pa_cons (pe_ix ix_G (pv 1) (pv 2) (fun _ _ => rfl)) pa_nil))) (by intro _; rfl))) (pss_one (ps_ret pe_bl)) pss_nil)))
      (pss_one (ps_ret pe_bl)))))))))),
    fn_body (fl := [false, false]) (n := 2) (k := 1) (is_seq (is_if (it_test (io_iv (io_op s_is (nm_ib 1) (iv_ib (iq_iv c_non))))) (is_ret (io_op s_is (nm_ib 0) (iv_ib (iq_iv c_non)))) is_nil)
      (is_seq (is_if (it_test (io_iv (io_op s_is (nm_ib 1) (iv_ib (iq_iv c_bl))))) (is_ret (io_op s_is (nm_ib 0) (iv_ib (iq_iv c_bl)))) is_nil)
      (is_seq (is_if (it_test (io_iv (io_op s_is (nm_ib 1) (iv_ib (iq_iv c_bl))))) (is_ret (io_op s_is (nm_ib 0) (iv_ib (iq_iv c_bl)))) is_nil)
      (is_seq (is_if (it_tru (iv_ib (io_iv (io_cb s_isi (ia_cons (nm_ib 1) (ia_cons (iv_ib (iq_iv c_ty)) ia_nil)))))) (is_ret (iv_io (iv_and (io_iv (io_call (n := 1) (fun _ => .inr trivial) (ia_cons (nm_ib 0) ia_nil) (aC_len aN_len))) (io_iv (io_op s_eq (nm_ib 0) (nm_ib 1)))))) is_nil)
      (is_seq (is_if (it_tru (iv_ib (io_iv (io_cb s_isi (ia_cons (nm_ib 1) (ia_cons (iv_ib (iq_iv c_ty)) ia_nil)))))) (is_ret (iv_io (iv_and (io_iv (io_cb s_isi (ia_cons (nm_ib 0) (ia_cons (iv_ib (iq_iv c_ty)) ia_nil)))) (io_iv (io_op s_eq (nm_ib 0) (nm_ib 1)))))) is_nil)
      (is_seq (is_if (it_tru (iv_ib (io_iv (io_cb s_isi (ia_cons (nm_ib 1) (ia_cons (iv_ib (iq_iv c_ty)) ia_nil)))))) (is_if (it_not (it_tru (iv_ib (io_iv (io_cb s_isi (ia_cons (nm_ib 0) (ia_cons (iv_ib (iq_iv c_ty)) ia_nil))))))) (is_ret (iv_io (iq_iv c_bl))) is_nil) (is_if (it_not (it_tru (iv_ib (io_iv (io_cb s_isi (ia_cons (nm_ib 0) (ia_cons (iv_ib (iq_iv c_ty)) ia_nil))))))) (is_ret (iv_io (iq_iv c_bl))) is_nil))
      (is_seq (is_if (it_test (io_iv (io_op s_eq (iv_ib (io_iv (io_cb s_len (ia_cons (nm_ib 0) ia_nil)))) (iv_ib (io_iv (io_cb s_len (ia_cons (nm_ib 1) ia_nil))))))) (is_ret (iv_io (iq_iv c_bl))) is_nil)
      (is_seq (is_for (by rfl) (ii_R1 (iav_cons (io_iv (io_cb s_len (ia_cons (nm_ib 1) ia_nil))) iav_nil)) (ig_nm (i := 2))
      (is_if (it_not (it_tru (iv_ib (io_iv (io_call (n := 2) (fun _ => .inr trivial) (ia_cons (iv_ib (il_iv (il_ix (nm_il 0) (il_iq (nm_il 2))))) (ia_cons (iv_ib (il_iv (il_ix (nm_il 1) (il_iq (nm_il 2))))) ia_nil)) (aC_len (aC_len aN_len))))))) (is_ret (iv_io (iq_iv c_bl))) is_nil))
      (is_ret (iv_io (iq_iv c_bl))))))))))) rfl h⟩
theorem cal_law_same (hd : Hd K mg) (n : Nat) : CalX P w K mg base (n + 2) "_law_same" ["got", "due"] (spM K 2 (m_law_same n)) := by
  obtain ⟨fd, F⟩ := hd.def_ 14
  exact .mk' (hd.glo 24) F.kp (FunD.bindsN F fun _ _ _ _ _ _ us hl => match us, hl with | [_, _], _ => rfl) (ok_law_same hd F n)

def m_law_sheet_is : MF := fnM [false, false, false] 0
      (sRet (callM (m_law_same 12) (aCons (bV (vTup (vCons (vL (pFld tab "modulus" (pNm 0))) (vCons (vL (pFld tab "width" (pNm 0))) (vCons (vL (pFld tab "height" (pNm 0))) (vCons (vL (pFld tab "rows" (pNm 0))) vNil)))))) (aCons (bV (vTup (vCons (vL (pNm 1)) (vCons (vO (oA bLen (aCons (bV (vL (pIx (pNm 2) (pC (.int 0))))) aNil))) (vCons (vO (oA bLen (aCons (nmM 2) aNil))) (vCons (vL (pNm 2)) vNil)))))) aNil))))
theorem ok_law_sheet_is (hd : Hd K mg) {fd : FuncData} (F : FunD K d_law_sheet_is.name d_law_sheet_is.qual d_law_sheet_is.params d_law_sheet_is.body d_law_sheet_is.scope (d_law_sheet_is.dvs K) (d_law_sheet_is.kws K) (He.fAd K d_law_sheet_is.at_) fd) : FnOk P w K mg base (L2.CX P w) 15 (He.fAd K d_law_sheet_is.at_) fd ["got", "modulus", "rows"] (spM K 3 m_law_sheet_is) := by
  refine FunD.ok F sc_law_sheet_is (fun vs H Q E h => h.1) (fun cdv A outer s H vs Q E hr h => ?_)
  exact ⟨_, (pss_one (ps_ret (pe_calX (sp := spM K 2 (m_law_same 12)) (cal_law_same hd 12) (hr.mono (by decide)) rfl (takes_of rfl rfl rfl rfl) (pa_cons (pe_tup (pa_cons (pe_fld (pv 0) rfl) (pa_cons (pe_fld (pv 0) rfl) (pa_cons (pe_fld (pv 0) rfl) (pa_cons (pe_fld (pv 0) rfl) pa_nil))))) (pa_cons (pe_tup (pa_cons (pv 1) (pa_cons (pe_callB g_len (by rfl) (hd.free 0) (by decide +kernel) (pa_cons (pe_ix ix_G (pv 2) pe_int (fun _ _ => rfl)) pa_nil)) (pa_cons (pe_callB g_len (by rfl) (hd.free 0) (by decide +kernel) (pa_cons (pv 2) pa_nil)) (pa_cons (pv 2) pa_nil))))) pa_nil))))),
    fn_body (fl := [false, false, false]) (n := 3) (k := 0) (is_ret (io_call (n := 2) (fun _ => .inr trivial) (ia_cons (iv_ib (iv_tup (iav_cons (il_iv (il_fld (tab_ok hd) (nm_il 0))) (iav_cons (il_iv (il_fld (tab_ok hd) (nm_il 0))) (iav_cons (il_iv (il_fld (tab_ok hd) (nm_il 0))) (iav_cons (il_iv (il_fld (tab_ok hd) (nm_il 0))) iav_nil)))))) (ia_cons (iv_ib (iv_tup (iav_cons (il_iv (nm_il 1)) (iav_cons (io_iv (io_cb s_len (ia_cons (iv_ib (il_iv (il_ix (nm_il 2) c_int))) ia_nil))) (iav_cons (io_iv (io_cb s_len (ia_cons (nm_ib 2) ia_nil))) (iav_cons (il_iv (nm_il 2)) iav_nil)))))) ia_nil)) (aC_len (aC_len aN_len)))) rfl h⟩
theorem cal_law_sheet_is (hd : Hd K mg) : CalX P w K mg base 15 "_law_sheet_is" ["got", "modulus", "rows"] (spM K 3 m_law_sheet_is) := by
  obtain ⟨fd, F⟩ := hd.def_ 15
  exact .mk' (hd.glo 25) F.kp (FunD.bindsN F fun _ _ _ _ _ _ us hl => match us, hl with | [_, _, _], _ => rfl) (ok_law_sheet_is hd F)

def m_law_view_right : MF := fnM [false, false, false, false, false] 1
      (sSeq (sAsg 5 (callM m_coarse_view (aCons (nmM 0) (aCons (nmM 1) (aCons (nmM 2) aNil)))))
      (sRet (oV (vAnd (vO (oA (bIsiO co usO tn) (aCons (nmM 5) (aCons (bV (vM (pC (.glo "Sheet")))) aNil)))) (vO (callM m_law_sheet_is (aCons (nmM 5) (aCons (nmM 3) (aCons (nmM 4) aNil)))))))))
theorem ok_law_view_right (hd : Hd K mg) {fd : FuncData} (F : FunD K d_law_view_right.name d_law_view_right.qual d_law_view_right.params d_law_view_right.body d_law_view_right.scope (d_law_view_right.dvs K) (d_law_view_right.kws K) (He.fAd K d_law_view_right.at_) fd) : FnOk P w K mg base (L2.CX P w) 16 (He.fAd K d_law_view_right.at_) fd ["sheet", "letters", "passes", "modulus", "due"] (spM K 5 m_law_view_right) := by
  refine FunD.ok F sc_law_view_right (fun vs H Q E h => h.1) (fun cdv A outer s H vs Q E hr h => ?_)
  exact ⟨_, (pss_cons (ps_set (i := 5) sc_law_view_right.nd rfl (Or.inl rfl) (pe_calX (sp := spM K 3 m_coarse_view) (cal_coarse_view hd) (hr.mono (by decide)) rfl (takes_of rfl rfl rfl rfl) (pa_cons (pv 0) (pa_cons (pv 1) (pa_cons (pv 2) pa_nil)))))
      (pss_one (ps_ret (pe_and (pe_callB call_isiG (by rfl) (hd.free 20) (by decide +kernel) (pa_cons (pv 5) (pa_cons (pe_globD rfl (hd.glo 18)) pa_nil))) (pe_one (pe_calX (sp := spM K 3 m_law_sheet_is) (cal_law_sheet_is hd) (hr.mono (by decide)) rfl (takes_of rfl rfl rfl rfl) (pa_cons (pv 5) (pa_cons (pv 3) (pa_cons (pv 4) pa_nil))))))))),
    fn_body (fl := [false, false, false, false, false]) (n := 5) (k := 1) (is_seq (is_asg (by rfl) (io_call (n := 3) (fun _ => .inr trivial) (ia_cons (nm_ib 0) (ia_cons (nm_ib 1) (ia_cons (nm_ib 2) ia_nil))) (aC_len (aC_len (aC_len aN_len)))))
      (is_ret (iv_io (iv_and (io_iv (io_cb (s_isiO (hd.more 0)) (ia_cons (nm_ib 5) (ia_cons (iv_ib (iq_iv c_glo)) ia_nil)))) (io_iv (io_call (n := 3) (fun _ => .inr trivial) (ia_cons (nm_ib 5) (ia_cons (nm_ib 3) (ia_cons (nm_ib 4) ia_nil))) (aC_len (aC_len (aC_len aN_len))))))))) rfl h⟩
theorem cal_law_view_right (hd : Hd K mg) : CalX P w K mg base 16 "_law_view_right" ["sheet", "letters", "passes", "modulus", "due"] (spM K 5 m_law_view_right) := by
  obtain ⟨fd, F⟩ := hd.def_ 16
  exact .mk' (hd.glo 26) F.kp (FunD.bindsN F fun _ _ _ _ _ _ us hl => match us, hl with | [_, _, _, _, _], _ => rfl) (ok_law_view_right hd F)

def m_Sheet__eq : MF := fnM [false, false] 0
      (sRet (oV (vAnd (vO (oA (bIsiO co usO tn) (aCons (nmM 1) (aCons (bV (vM (pC (.glo "Sheet")))) aNil)))) (vAnd (vO (oOp (opEq false) (bV (vL (pFld tab "modulus" (pNm 0)))) (bV (vL (pFld tab "modulus" (pNm 1)))))) (vO (oOp (opEq false) (bV (vL (pFld tab "rows" (pNm 0)))) (bV (vL (pFld tab "rows" (pNm 1))))))))))
theorem ok_Sheet__eq (hd : Hd K mg) {fd : FuncData} (F : FunD K d_Sheet__eq.name d_Sheet__eq.qual d_Sheet__eq.params d_Sheet__eq.body d_Sheet__eq.scope (d_Sheet__eq.dvs K) (d_Sheet__eq.kws K) (He.fAd K d_Sheet__eq.at_) fd) : FnOk P w K mg base (L2.CX P w) 3 (He.fAd K d_Sheet__eq.at_) fd ["self", "other"] (spM K 2 m_Sheet__eq) := by
  refine FunD.ok F sc_Sheet__eq (fun vs H Q E h => h.1) (fun cdv A outer s H vs Q E hr h => ?_)
  exact ⟨_, (pss_one (ps_ret (pe_and (pe_callB call_isiG (by rfl) (hd.free 20) (by decide +kernel) (pa_cons (pv 1) (pa_cons (pe_globD rfl (hd.glo 18)) pa_nil))) (pe_and (pe_cmpR (op_eqG (hu64 hr)) (pe_fld (pv 0) rfl) (pe_fld (pv 1) rfl) (nomark _)) (pe_one (pe_cmpR (op_eqG (hu64 hr)) (pe_fld (pv 0) rfl) (pe_fld (pv 1) rfl) (nomark _))))))),
    fn_body (fl := [false, false]) (n := 2) (k := 0) (is_ret (iv_io (iv_and (io_iv (io_cb (s_isiO (hd.more 0)) (ia_cons (nm_ib 1) (ia_cons (iv_ib (iq_iv c_glo)) ia_nil)))) (iv_and (io_iv (io_op s_eq (iv_ib (il_iv (il_fld (tab_ok hd) (nm_il 0)))) (iv_ib (il_iv (il_fld (tab_ok hd) (nm_il 1)))))) (io_iv (io_op s_eq (iv_ib (il_iv (il_fld (tab_ok hd) (nm_il 0)))) (iv_ib (il_iv (il_fld (tab_ok hd) (nm_il 1)))))))))) rfl h⟩
theorem eq_Sheet (hd : Hd K mg) : EqOwn P w K mg base 3 "Sheet" (spM K 2 m_Sheet__eq) := by
  obtain ⟨fd, F⟩ := hd.def_ 17
  exact ⟨_, fd, ["self", "other"], (He.meth_ok (hd.c.fact 27 rfl)).at_, (He.meth_ok (hd.c.fact 27 rfl)).fn, ok_Sheet__eq hd F, FunD.bindsN F fun _ _ _ _ _ _ us hl => match us, hl with | [_, _], _ => rfl⟩

def l_law_0 : M T := (oV (vO (callM m_law_steps (aCons (nmM 4) (aCons (nmM 22) aNil)))))
def b_law_20 : SM := (sSeq (sIf (tst (vO (oOp opGt (nmM 10) (bV (vM (pC (.int 1))))))) (sSeq (sAsg 17 (oOp opMod (bV (vO (oA bInt (aCons (bV (vO (oOp opAdd (bV (vO (oOp opAdd (bV (vL (pIx (pIx (pNm 11) (pAt (pNm 9))) (pAt (pNm 8))))) (bV (vM (pC (.int 1))))))) (bV (vO (callM m_law_draw (aCons (nmM 1) (aCons (bV (vO (oOp opSub (nmM 10) (bV (vM (pC (.int 1))))))) aNil)))))))) aNil)))) (nmM 10)))
      (sSeq (sAsg 18 (oOp opAdd (bV (vO (oOp opAdd (bV (vO (oSl (bV (vL (pIx (pNm 11) (pAt (pNm 9))))) ipNo (ipSome (vL (pNm 8)))))) (bV (vTup (vCons (vL (pNm 17)) vNil)))))) (bV (vO (oSl (bV (vL (pIx (pNm 11) (pAt (pNm 9))))) (ipSome (vO (oOp opAdd (nmM 8) (bV (vM (pC (.int 1))))))) ipNo)))))
      (sSeq (sAsg 19 (mMake "Sheet" m_Sheet__init (vCons (vL (pNm 10)) (vCons (vO (oA bList (aCons (bV (vO (oOp opAdd (bV (vO (oOp opAdd (bV (vO (oSl (nmM 11) ipNo (ipSome (vL (pNm 9)))))) (bV (vTup (vCons (vL (pNm 18)) vNil)))))) (bV (vO (oSl (nmM 11) (ipSome (vO (oOp opAdd (nmM 9) (bV (vM (pC (.int 1))))))) ipNo)))))) aNil))) vNil))))
      (sSeq (sAsg 20 (callM m_law_view (aCons (bV (vO (oOp opAdd (bV (vO (oOp opAdd (bV (vO (oSl (nmM 11) ipNo (ipSome (vL (pNm 9)))))) (bV (vTup (vCons (vL (pNm 18)) vNil)))))) (bV (vO (oSl (nmM 11) (ipSome (vO (oOp opAdd (nmM 9) (bV (vM (pC (.int 1))))))) ipNo)))))) (aCons (nmM 12) (aCons (nmM 7) aNil)))))
      (sSeq (sIf (tnot (tru (bV (vO (callM m_law_view_right (aCons (nmM 19) (aCons (nmM 4) (aCons (nmM 7) (aCons (nmM 10) (aCons (nmM 20) aNil)))))))))) (sRet (oV (vM (pC (.bl false))))) sNil)
      (sSeq (sAsg 21 (oA bBool (aCons (bV (vO (oOp (opEqO "Sheet" m_Sheet__eq) (bV (vO (callM m_coarse_view (aCons (nmM 19) (aCons (nmM 4) (aCons (nmM 7) aNil)))))) (bV (vO (callM m_coarse_view (aCons (nmM 13) (aCons (nmM 4) (aCons (nmM 7) aNil))))))))) aNil)))
      (sIf (tst (vO (oOp (opEq true) (nmM 21) (bV (vO (oOp opGe (bV (vO (callM m_law_pass (aCons (nmM 8) (aCons (nmM 9) (aCons (nmM 12) aNil)))))) (nmM 7))))))) (sRet (oV (vM (pC (.bl false))))) sNil))))))) sNil)
      (sRet (callM m_law_sheet_is (aCons (nmM 13) (aCons (nmM 10) (aCons (nmM 11) aNil))))))
def b_law_17 : SM := (sSeq (sAsg 16 (callM m_coarse_view (aCons (nmM 13) (aCons (nmM 4) (aCons (nmM 6) aNil)))))
      (sSeq (sIf (tor (tnot (tru (bV (vO (callM m_law_view_right (aCons (nmM 16) (aCons (nmM 4) (aCons (nmM 7) (aCons (nmM 10) (aCons (nmM 14) aNil)))))))))) (tnot (tru (bV (vO (callM m_law_view_right (aCons (nmM 16) (aCons (nmM 4) (aCons (nmM 6) (aCons (nmM 10) (aCons (nmM 15) aNil))))))))))) (sRet (oV (vM (pC (.bl false))))) sNil)
      (sSeq (sIf (tnot (tst (vO (oOp (opEqO "Sheet" m_Sheet__eq) (bV (vO (callM m_coarse_view (aCons (nmM 16) (aCons (nmM 4) (aCons (nmM 7) aNil)))))) (bV (vO (callM m_coarse_view (aCons (nmM 13) (aCons (nmM 4) (aCons (nmM 7) aNil)))))))))) (sRet (oV (vM (pC (.bl false))))) sNil)
      b_law_20)))
def b_law_15 : SM := (sSeq (sIf (tor (tnot (tru (bV (vO (callM m_law_view_right (aCons (nmM 13) (aCons (nmM 4) (aCons (nmM 7) (aCons (nmM 10) (aCons (nmM 14) aNil)))))))))) (tnot (tru (bV (vO (callM m_law_view_right (aCons (nmM 13) (aCons (nmM 4) (aCons (nmM 6) (aCons (nmM 10) (aCons (nmM 15) aNil))))))))))) (sRet (oV (vM (pC (.bl false))))) sNil)
      (sSeq (sIf (tor (tnot (tru (bV (vO (callM m_law_view_right (aCons (nmM 13) (aCons (nmM 4) (aCons (nmM 5) (aCons (nmM 10) (aCons (nmM 11) aNil)))))))))) (tnot (tst (vO (oOp (opEqO "Sheet" m_Sheet__eq) (bV (vO (callM m_coarse_view (aCons (nmM 13) (aCons (nmM 4) (aCons (nmM 5) aNil)))))) (nmM 13)))))) (sRet (oV (vM (pC (.bl false))))) sNil)
      b_law_17))
def b_law_13 : SM := (sSeq (sAsg 14 (callM m_law_view (aCons (nmM 11) (aCons (nmM 12) (aCons (nmM 7) aNil)))))
      (sSeq (sAsg 15 (callM m_law_view (aCons (nmM 11) (aCons (nmM 12) (aCons (nmM 6) aNil)))))
      b_law_15))
def b_law_8 : SM := (sSeq (sAsg 1 (callM m_law_drawer (aCons (nmM 0) (aCons (bV (vM (pC (.int 1)))) aNil))))
      (sSeq (sAsg 10 (callM m_law_modulus (aCons (nmM 1) aNil)))
      (sSeq (sAsg 11 (callM m_law_rows (aCons (nmM 1) (aCons (nmM 10) (aCons (nmM 2) (aCons (nmM 3) aNil))))))
      (sSeq (sAsg 12 (lcM [22] (iR1 (vCons (vL (pNm 5)) vNil)) (gNm 22) tYesM l_law_0))
      (sSeq (sAsg 13 (mMake "Sheet" m_Sheet__init (vCons (vL (pNm 10)) (vCons (vL (pNm 11)) vNil))))
      b_law_13)))))
def m_law : MF := fnM [false] 22
      (sSeq (sAsg 1 (callM m_law_drawer (aCons (nmM 0) (aCons (bV (vM (pC (.int 0)))) aNil))))
      (sSeq (sGt (vO (callM m_law_size (aCons (nmM 1) aNil))) (gTp 2 (gCn (gNm 2) (gCn (gNm 3) gNl))))
      (sSeq (sAsg 4 (callM m_law_letters (aCons (nmM 1) (aCons (bV (vM (pC (.int 6)))) aNil))))
      (sSeq (sAsg 5 (oOp opAdd (bV (vO (oA bLen (aCons (nmM 4) aNil)))) (bV (vM (pC (.int 1))))))
      (sSeq (sAsg 6 (oOp opAdd (bV (vM (pC (.int 1)))) (bV (vO (callM m_law_draw (aCons (nmM 1) (aCons (nmM 5) aNil)))))))
      (sSeq (sAsg 7 (oOp opAdd (bV (vM (pC (.int 1)))) (bV (vO (callM m_law_draw (aCons (nmM 1) (aCons (nmM 6) aNil)))))))
      (sSeq (sAsg 8 (callM m_law_draw (aCons (nmM 1) (aCons (nmM 2) aNil))))
      (sSeq (sAsg 9 (callM m_law_draw (aCons (nmM 1) (aCons (nmM 3) aNil))))
      b_law_8))))))))
theorem ok_law (hd : Hd K mg) {fd : FuncData} (F : FunD K d_law.name d_law.qual d_law.params d_law.body d_law.scope (d_law.dvs K) (d_law.kws K) (He.fAd K d_law.at_) fd) : FnOk P w K mg base (L2.CX P w) 17 (He.fAd K d_law.at_) fd ["script"] (spM K 1 m_law) := by
  refine FunD.ok F sc_law (fun vs H Q E h => h.1) (fun cdv A outer s H vs Q E hr h => ?_)
  exact ⟨_, (pss_cons (ps_set (i := 1) sc_law.nd rfl (Or.inl rfl) (pe_calX (sp := spM K 2 m_law_drawer) (cal_law_drawer hd) (hr.mono (by decide)) rfl (takes_of rfl rfl rfl rfl) (pa_cons (pv 0) (pa_cons pe_int pa_nil))))
      (pss_cons (ps_asg (pe_calX (sp := spM K 1 m_law_size) (cal_law_size hd) (hr.mono (by decide)) rfl (takes_of rfl rfl rfl rfl) (pa_cons (pv 1) pa_nil)) (pg_tup rfl (pgs_cons (pg_name (i := 2) sc_law.nd rfl (Or.inl rfl)) (pgs_cons (pg_name (i := 3) sc_law.nd rfl (Or.inl rfl)) pgs_nil))))
      (pss_cons (ps_set (i := 4) sc_law.nd rfl (Or.inr rfl) (pe_calX (sp := spM K 2 m_law_letters) (cal_law_letters hd) (hr.mono (by decide)) rfl (takes_of rfl rfl rfl rfl) (pa_cons (pv 1) (pa_cons pe_int pa_nil))))
      (pss_cons (ps_set (i := 5) sc_law.nd rfl (Or.inl rfl) (pe_op op_addG (pe_callB g_len (by rfl) (hd.free 0) (by decide +kernel) (pa_cons (pv 4) pa_nil)) pe_int))
      (pss_cons (ps_set (i := 6) sc_law.nd rfl (Or.inl rfl) (pe_op op_addG pe_int (pe_calX (sp := spM K 2 m_law_draw) (cal_law_draw hd) (hr.mono (by decide)) rfl (takes_of rfl rfl rfl rfl) (pa_cons (pv 1) (pa_cons (pv 5) pa_nil)))))
      (pss_cons (ps_set (i := 7) sc_law.nd rfl (Or.inl rfl) (pe_op op_addG pe_int (pe_calX (sp := spM K 2 m_law_draw) (cal_law_draw hd) (hr.mono (by decide)) rfl (takes_of rfl rfl rfl rfl) (pa_cons (pv 1) (pa_cons (pv 6) pa_nil)))))
      (pss_cons (ps_set (i := 8) sc_law.nd rfl (Or.inl rfl) (pe_calX (sp := spM K 2 m_law_draw) (cal_law_draw hd) (hr.mono (by decide)) rfl (takes_of rfl rfl rfl rfl) (pa_cons (pv 1) (pa_cons (pv 2) pa_nil))))
      (pss_cons (ps_set (i := 9) sc_law.nd rfl (Or.inl rfl) (pe_calX (sp := spM K 2 m_law_draw) (cal_law_draw hd) (hr.mono (by decide)) rfl (takes_of rfl rfl rfl rfl) (pa_cons (pv 1) (pa_cons (pv 3) pa_nil))))
      (pss_cons (ps_set (i := 1) sc_law.nd rfl (Or.inl rfl) (pe_calX (sp := spM K 2 m_law_drawer) (cal_law_drawer hd) (hr.mono (by decide)) rfl (takes_of rfl rfl rfl rfl) (pa_cons (pv 0) (pa_cons pe_int pa_nil))))
      (pss_cons (ps_set (i := 10) sc_law.nd rfl (Or.inl rfl) (pe_calX (sp := spM K 1 m_law_modulus) (cal_law_modulus hd) (hr.mono (by decide)) rfl (takes_of rfl rfl rfl rfl) (pa_cons (pv 1) pa_nil)))
      (pss_cons (ps_set (i := 11) sc_law.nd rfl (Or.inl rfl) (pe_calX (sp := spM K 4 m_law_rows) (cal_law_rows hd) (hr.mono (by decide)) rfl (takes_of rfl rfl rfl rfl) (pa_cons (pv 1) (pa_cons (pv 10) (pa_cons (pv 2) (pa_cons (pv 3) pa_nil))))))
      (pss_cons (ps_setLc (i := 12) (own := [("number", 22)]) (g := _) (by rfl) sc_law.nd rfl rfl (sw_true rfl rfl rfl (by decide +kernel)) (pi_range1 rfl (hd.free 7) (pa_cons (pv 5) pa_nil)) (blkOk_by (own := [("number", 22)]) (N := N_law) (sc := defScope s_law) (by decide +kernel)) (fun _ _ _ _ _ => (pg_name (i := 22) sc_law.nd rfl (Or.inl rfl))) (fun _ _ _ _ _ => pts_nil) (fun _ _ _ _ _ => (pe_calX (sp := spM K 2 m_law_steps) (cal_law_steps hd) (hr.mono (by decide)) rfl takes_none5 (pa_cons (pv 4) (pa_cons (pv 22) pa_nil)))))
      (pss_cons (ps_set (i := 13) sc_law.nd rfl (Or.inl rfl) (pe_mkI (sp := spM K 3 m_Sheet__init) (mk_Sheet hd) (hr.mono (by decide)) rfl (hd.glo 18) (takes_of rfl rfl rfl rfl) (pa_cons (pv 10) (pa_cons (pv 11) pa_nil))))
      (pss_cons (ps_set (i := 14) sc_law.nd rfl (Or.inl rfl) (pe_calX (sp := spM K 3 m_law_view) (cal_law_view hd) (hr.mono (by decide)) rfl (takes_of rfl rfl rfl rfl) (pa_cons (pv 11) (pa_cons (pv 12) (pa_cons (pv 7) pa_nil)))))
      (pss_cons (ps_set (i := 15) sc_law.nd rfl (Or.inl rfl) (pe_calX (sp := spM K 3 m_law_view) (cal_law_view hd) (hr.mono (by decide)) rfl (takes_of rfl rfl rfl rfl) (pa_cons (pv 11) (pa_cons (pv 12) (pa_cons (pv 6) pa_nil)))))
      (pss_cons (ps_if (PW.pt (pw_or (pt_not (pt_truG (pe_calX (sp := spM K 5 m_law_view_right) (cal_law_view_right hd) (hr.mono (by decide)) rfl (takes_of rfl rfl rfl rfl) (pa_cons (pv 13) (pa_cons (pv 4) (pa_cons (pv 7) (pa_cons (pv 10) (pa_cons (pv 14) pa_nil)))))) (by intro _; rfl))) (pw_or1 (pt_not (pt_truG (pe_calX (sp := spM K 5 m_law_view_right) (cal_law_view_right hd) (hr.mono (by decide)) rfl (takes_of rfl rfl rfl rfl) (pa_cons (pv 13) (pa_cons (pv 4) (pa_cons (pv 6) (pa_cons (pv 10) (pa_cons (pv 15) pa_nil)))))) (by intro _; rfl)))))) (pss_one (ps_ret pe_bl)) pss_nil)
      (pss_cons (ps_if (PW.pt (pw_or (pt_not (pt_truG (pe_calX (sp := spM K 5 m_law_view_right) (cal_law_view_right hd) (hr.mono (by decide)) rfl (takes_of rfl rfl rfl rfl) (pa_cons (pv 13) (pa_cons (pv 4) (pa_cons (pv 5) (pa_cons (pv 10) (pa_cons (pv 11) pa_nil)))))) (by intro _; rfl))) (pw_or1 (pt_not (pt_cmpR (op_eqO (sp := spM K 2 m_Sheet__eq) (eq_Sheet hd) (hr.mono (by decide))) (pe_calX (sp := spM K 3 m_coarse_view) (cal_coarse_view hd) (hr.mono (by decide)) rfl (takes_of rfl rfl rfl rfl) (pa_cons (pv 13) (pa_cons (pv 4) (pa_cons (pv 5) pa_nil)))) (pv 13) (nomark _)))))) (pss_one (ps_ret pe_bl)) pss_nil)
      (pss_cons (ps_set (i := 16) sc_law.nd rfl (Or.inl rfl) (pe_calX (sp := spM K 3 m_coarse_view) (cal_coarse_view hd) (hr.mono (by decide)) rfl (takes_of rfl rfl rfl rfl) (pa_cons (pv 13) (pa_cons (pv 4) (pa_cons (pv 6) pa_nil)))))
      (pss_cons (ps_if (PW.pt (pw_or (pt_not (pt_truG (pe_calX (sp := spM K 5 m_law_view_right) (cal_law_view_right hd) (hr.mono (by decide)) rfl (takes_of rfl rfl rfl rfl) (pa_cons (pv 16) (pa_cons (pv 4) (pa_cons (pv 7) (pa_cons (pv 10) (pa_cons (pv 14) pa_nil)))))) (by intro _; rfl))) (pw_or1 (pt_not (pt_truG (pe_calX (sp := spM K 5 m_law_view_right) (cal_law_view_right hd) (hr.mono (by decide)) rfl (takes_of rfl rfl rfl rfl) (pa_cons (pv 16) (pa_cons (pv 4) (pa_cons (pv 6) (pa_cons (pv 10) (pa_cons (pv 15) pa_nil)))))) (by intro _; rfl)))))) (pss_one (ps_ret pe_bl)) pss_nil)
      (pss_cons (ps_if (pt_not (pt_cmpR (op_eqO (sp := spM K 2 m_Sheet__eq) (eq_Sheet hd) (hr.mono (by decide))) (pe_calX (sp := spM K 3 m_coarse_view) (cal_coarse_view hd) (hr.mono (by decide)) rfl (takes_of rfl rfl rfl rfl) (pa_cons (pv 16) (pa_cons (pv 4) (pa_cons (pv 7) pa_nil)))) (pe_calX (sp := spM K 3 m_coarse_view) (cal_coarse_view hd) (hr.mono (by decide)) rfl (takes_of rfl rfl rfl rfl) (pa_cons (pv 13) (pa_cons (pv 4) (pa_cons (pv 7) pa_nil)))) (nomark _))) (pss_one (ps_ret pe_bl)) pss_nil)
      (pss_cons (ps_if (pt_cmpR op_gtG (pv 10) pe_int (nomark _)) (pss_cons (ps_set (i := 17) sc_law.nd rfl (Or.inl rfl) (pe_op op_mod (pe_callTy g_int (by rfl) (hd.free 2) (by decide +kernel) (pa_cons (pe_op op_addG (pe_op op_addG (pe_ix ix_G (pe_ix ix_G (pv 11) (pv 9) (fun _ _ => rfl)) (pv 8) (fun _ _ => rfl)) pe_int) (pe_calX (sp := spM K 2 m_law_draw) (cal_law_draw hd) (hr.mono (by decide)) rfl (takes_of rfl rfl rfl rfl) (pa_cons (pv 1) (pa_cons (pe_op op_sub (pv 10) pe_int) pa_nil)))) pa_nil)) (pv 10)))
      (pss_cons (ps_set (i := 18) sc_law.nd rfl (Or.inl rfl) (pe_op op_addG (pe_op op_addG (pe_slice sl_G (pe_ix ix_G (pv 11) (pv 9) (fun _ _ => rfl)) po_none (po_some (pv 8))) (pe_tup (pa_cons (pv 17) pa_nil))) (pe_slice sl_G (pe_ix ix_G (pv 11) (pv 9) (fun _ _ => rfl)) (po_some (pe_op op_addG (pv 8) pe_int)) po_none)))
      (pss_cons (ps_set (i := 19) sc_law.nd rfl (Or.inl rfl) (pe_mkI (sp := spM K 3 m_Sheet__init) (mk_Sheet hd) (hr.mono (by decide)) rfl (hd.glo 18) (takes_of rfl rfl rfl rfl) (pa_cons (pv 10) (pa_cons (pe_callTy g_list (by rfl) (hd.free 15) (by decide +kernel) (pa_cons (pe_op op_addG (pe_op op_addG (pe_slice sl_G (pv 11) po_none (po_some (pv 9))) (pe_tup (pa_cons (pv 18) pa_nil))) (pe_slice sl_G (pv 11) (po_some (pe_op op_addG (pv 9) pe_int)) po_none)) pa_nil)) pa_nil))))
      (pss_cons (ps_set (i := 20) sc_law.nd rfl (Or.inl rfl) (pe_calX (sp := spM K 3 m_law_view) (cal_law_view hd) (hr.mono (by decide)) rfl (takes_of rfl rfl rfl rfl) (pa_cons (pe_op op_addG (pe_op op_addG (pe_slice sl_G (pv 11) po_none (po_some (pv 9))) (pe_tup (pa_cons (pv 18) pa_nil))) (pe_slice sl_G (pv 11) (po_some (pe_op op_addG (pv 9) pe_int)) po_none)) (pa_cons (pv 12) (pa_cons (pv 7) pa_nil)))))
      (pss_cons (ps_if (pt_not (pt_truG (pe_calX (sp := spM K 5 m_law_view_right) (cal_law_view_right hd) (hr.mono (by decide)) rfl (takes_of rfl rfl rfl rfl) (pa_cons (pv 19) (pa_cons (pv 4) (pa_cons (pv 7) (pa_cons (pv 10) (pa_cons (pv 20) pa_nil)))))) (by intro _; rfl))) (pss_one (ps_ret pe_bl)) pss_nil)
      (pss_cons (ps_set (i := 21) sc_law.nd rfl (Or.inl rfl) (pe_callTy call_bool1 (by rfl) (hd.free 21) (by decide +kernel) (pa_cons (pe_cmpR (op_eqO (sp := spM K 2 m_Sheet__eq) (eq_Sheet hd) (hr.mono (by decide))) (pe_calX (sp := spM K 3 m_coarse_view) (cal_coarse_view hd) (hr.mono (by decide)) rfl (takes_of rfl rfl rfl rfl) (pa_cons (pv 19) (pa_cons (pv 4) (pa_cons (pv 7) pa_nil)))) (pe_calX (sp := spM K 3 m_coarse_view) (cal_coarse_view hd) (hr.mono (by decide)) rfl (takes_of rfl rfl rfl rfl) (pa_cons (pv 13) (pa_cons (pv 4) (pa_cons (pv 7) pa_nil)))) (nomark _)) pa_nil)))
      (pss_one (ps_if (pt_cmpR (op_neG (hu64 hr)) (pv 21) (pe_cmpR op_geG (pe_calX (sp := spM K 3 m_law_pass) (cal_law_pass hd) (hr.mono (by decide)) rfl (takes_of rfl rfl rfl rfl) (pa_cons (pv 8) (pa_cons (pv 9) (pa_cons (pv 12) pa_nil)))) (pv 7) (nomark _)) (nomark _)) (pss_one (ps_ret pe_bl)) pss_nil)))))))) pss_nil)
      (pss_one (ps_ret (pe_calX (sp := spM K 3 m_law_sheet_is) (cal_law_sheet_is hd) (hr.mono (by decide)) rfl (takes_of rfl rfl rfl rfl) (pa_cons (pv 13) (pa_cons (pv 10) (pa_cons (pv 11) pa_nil))))))))))))))))))))))))))),
    fn_body (fl := [false]) (n := 1) (k := 22) (is_seq (is_asg (by rfl) (io_call (n := 2) (fun _ => .inr trivial) (ia_cons (nm_ib 0) (ia_cons (iv_ib (iq_iv c_int)) ia_nil)) (aC_len (aC_len aN_len))))
      (is_seq (is_gt (by rfl) (io_iv (io_call (n := 1) (fun _ => .inr trivial) (ia_cons (nm_ib 1) ia_nil) (aC_len aN_len))) (ig_tup (igs_cons (ig_nm (i := 2)) (igs_cons (ig_nm (i := 3)) igs_nil))))
      (is_seq (is_asg (by rfl) (io_call (n := 2) (fun _ => .inr trivial) (ia_cons (nm_ib 1) (ia_cons (iv_ib (iq_iv c_int)) ia_nil)) (aC_len (aC_len aN_len))))
      (is_seq (is_asg (by rfl) (io_op s_add (iv_ib (io_iv (io_cb s_len (ia_cons (nm_ib 4) ia_nil)))) (iv_ib (iq_iv c_int))))
      (is_seq (is_asg (by rfl) (io_op s_add (iv_ib (iq_iv c_int)) (iv_ib (io_iv (io_call (n := 2) (fun _ => .inr trivial) (ia_cons (nm_ib 1) (ia_cons (nm_ib 5) ia_nil)) (aC_len (aC_len aN_len)))))))
      (is_seq (is_asg (by rfl) (io_op s_add (iv_ib (iq_iv c_int)) (iv_ib (io_iv (io_call (n := 2) (fun _ => .inr trivial) (ia_cons (nm_ib 1) (ia_cons (nm_ib 6) ia_nil)) (aC_len (aC_len aN_len)))))))
      (is_seq (is_asg (by rfl) (io_call (n := 2) (fun _ => .inr trivial) (ia_cons (nm_ib 1) (ia_cons (nm_ib 2) ia_nil)) (aC_len (aC_len aN_len))))
      (is_seq (is_asg (by rfl) (io_call (n := 2) (fun _ => .inr trivial) (ia_cons (nm_ib 1) (ia_cons (nm_ib 3) ia_nil)) (aC_len (aC_len aN_len))))
      (is_seq (is_asg (by rfl) (io_call (n := 2) (fun _ => .inr trivial) (ia_cons (nm_ib 0) (ia_cons (iv_ib (iq_iv c_int)) ia_nil)) (aC_len (aC_len aN_len))))
      (is_seq (is_asg (by rfl) (io_call (n := 1) (fun _ => .inr trivial) (ia_cons (nm_ib 1) ia_nil) (aC_len aN_len)))
      (is_seq (is_asg (by rfl) (io_call (n := 4) (fun _ => .inr trivial) (ia_cons (nm_ib 1) (ia_cons (nm_ib 10) (ia_cons (nm_ib 2) (ia_cons (nm_ib 3) ia_nil)))) (aC_len (aC_len (aC_len (aC_len aN_len))))))
      (is_seq (is_asg (by rfl) (io_lc (vs := [22]) (by rfl) (ii_R1 (iav_cons (il_iv (nm_il 5)) iav_nil)) (ig_nm (i := 22)) it_yes (iv_io (io_iv (io_call (n := 2) (fun _ => .inr trivial) (ia_cons (nm_ib 4) (ia_cons (nm_ib 22) ia_nil)) (aC_len (aC_len aN_len)))))))
      (is_seq (is_asg (by rfl) (io_make (n := 3) (iav_cons (il_iv (nm_il 10)) (iav_cons (il_iv (nm_il 11)) iav_nil)) (vS_len (vC_len (vC_len vN_len)))))
      (is_seq (is_asg (by rfl) (io_call (n := 3) (fun _ => .inr trivial) (ia_cons (nm_ib 11) (ia_cons (nm_ib 12) (ia_cons (nm_ib 7) ia_nil))) (aC_len (aC_len (aC_len aN_len)))))
      (is_seq (is_asg (by rfl) (io_call (n := 3) (fun _ => .inr trivial) (ia_cons (nm_ib 11) (ia_cons (nm_ib 12) (ia_cons (nm_ib 6) ia_nil))) (aC_len (aC_len (aC_len aN_len)))))
      (is_seq (is_if (it_or (it_not (it_tru (iv_ib (io_iv (io_call (n := 5) (fun _ => .inr trivial) (ia_cons (nm_ib 13) (ia_cons (nm_ib 4) (ia_cons (nm_ib 7) (ia_cons (nm_ib 10) (ia_cons (nm_ib 14) ia_nil))))) (aC_len (aC_len (aC_len (aC_len (aC_len aN_len)))))))))) (it_not (it_tru (iv_ib (io_iv (io_call (n := 5) (fun _ => .inr trivial) (ia_cons (nm_ib 13) (ia_cons (nm_ib 4) (ia_cons (nm_ib 6) (ia_cons (nm_ib 10) (ia_cons (nm_ib 15) ia_nil))))) (aC_len (aC_len (aC_len (aC_len (aC_len aN_len))))))))))) (is_ret (iv_io (iq_iv c_bl))) is_nil)
      (is_seq (is_if (it_or (it_not (it_tru (iv_ib (io_iv (io_call (n := 5) (fun _ => .inr trivial) (ia_cons (nm_ib 13) (ia_cons (nm_ib 4) (ia_cons (nm_ib 5) (ia_cons (nm_ib 10) (ia_cons (nm_ib 11) ia_nil))))) (aC_len (aC_len (aC_len (aC_len (aC_len aN_len)))))))))) (it_not (it_test (io_iv (io_op s_eqO (iv_ib (io_iv (io_call (n := 3) (fun _ => .inr trivial) (ia_cons (nm_ib 13) (ia_cons (nm_ib 4) (ia_cons (nm_ib 5) ia_nil))) (aC_len (aC_len (aC_len aN_len)))))) (nm_ib 13)))))) (is_ret (iv_io (iq_iv c_bl))) is_nil)
      (is_seq (is_asg (by rfl) (io_call (n := 3) (fun _ => .inr trivial) (ia_cons (nm_ib 13) (ia_cons (nm_ib 4) (ia_cons (nm_ib 6) ia_nil))) (aC_len (aC_len (aC_len aN_len)))))
      (is_seq (is_if (it_or (it_not (it_tru (iv_ib (io_iv (io_call (n := 5) (fun _ => .inr trivial) (ia_cons (nm_ib 16) (ia_cons (nm_ib 4) (ia_cons (nm_ib 7) (ia_cons (nm_ib 10) (ia_cons (nm_ib 14) ia_nil))))) (aC_len (aC_len (aC_len (aC_len (aC_len aN_len)))))))))) (it_not (it_tru (iv_ib (io_iv (io_call (n := 5) (fun _ => .inr trivial) (ia_cons (nm_ib 16) (ia_cons (nm_ib 4) (ia_cons (nm_ib 6) (ia_cons (nm_ib 10) (ia_cons (nm_ib 15) ia_nil))))) (aC_len (aC_len (aC_len (aC_len (aC_len aN_len))))))))))) (is_ret (iv_io (iq_iv c_bl))) is_nil)
      (is_seq (is_if (it_not (it_test (io_iv (io_op s_eqO (iv_ib (io_iv (io_call (n := 3) (fun _ => .inr trivial) (ia_cons (nm_ib 16) (ia_cons (nm_ib 4) (ia_cons (nm_ib 7) ia_nil))) (aC_len (aC_len (aC_len aN_len)))))) (iv_ib (io_iv (io_call (n := 3) (fun _ => .inr trivial) (ia_cons (nm_ib 13) (ia_cons (nm_ib 4) (ia_cons (nm_ib 7) ia_nil))) (aC_len (aC_len (aC_len aN_len)))))))))) (is_ret (iv_io (iq_iv c_bl))) is_nil)
      (is_seq (is_if (it_test (io_iv (io_op s_ord (nm_ib 10) (iv_ib (iq_iv c_int))))) (is_seq (is_asg (by rfl) (io_op s_mod (iv_ib (io_iv (io_cb s_int (ia_cons (iv_ib (io_iv (io_op s_add (iv_ib (io_iv (io_op s_add (iv_ib (il_iv (il_ix (il_ix (nm_il 11) (il_iq (nm_il 9))) (il_iq (nm_il 8))))) (iv_ib (iq_iv c_int))))) (iv_ib (io_iv (io_call (n := 2) (fun _ => .inr trivial) (ia_cons (nm_ib 1) (ia_cons (iv_ib (io_iv (io_op s_sub (nm_ib 10) (iv_ib (iq_iv c_int))))) ia_nil)) (aC_len (aC_len aN_len)))))))) ia_nil)))) (nm_ib 10)))
      (is_seq (is_asg (by rfl) (io_op s_add (iv_ib (io_iv (io_op s_add (iv_ib (io_iv (io_sl (iv_ib (il_iv (il_ix (nm_il 11) (il_iq (nm_il 9))))) ito_no (ito_some (il_iv (nm_il 8)))))) (iv_ib (iv_tup (iav_cons (il_iv (nm_il 17)) iav_nil)))))) (iv_ib (io_iv (io_sl (iv_ib (il_iv (il_ix (nm_il 11) (il_iq (nm_il 9))))) (ito_some (io_iv (io_op s_add (nm_ib 8) (iv_ib (iq_iv c_int))))) ito_no)))))
      (is_seq (is_asg (by rfl) (io_make (n := 3) (iav_cons (il_iv (nm_il 10)) (iav_cons (io_iv (io_cb s_list (ia_cons (iv_ib (io_iv (io_op s_add (iv_ib (io_iv (io_op s_add (iv_ib (io_iv (io_sl (nm_ib 11) ito_no (ito_some (il_iv (nm_il 9)))))) (iv_ib (iv_tup (iav_cons (il_iv (nm_il 18)) iav_nil)))))) (iv_ib (io_iv (io_sl (nm_ib 11) (ito_some (io_iv (io_op s_add (nm_ib 9) (iv_ib (iq_iv c_int))))) ito_no)))))) ia_nil))) iav_nil)) (vS_len (vC_len (vC_len vN_len)))))
      (is_seq (is_asg (by rfl) (io_call (n := 3) (fun _ => .inr trivial) (ia_cons (iv_ib (io_iv (io_op s_add (iv_ib (io_iv (io_op s_add (iv_ib (io_iv (io_sl (nm_ib 11) ito_no (ito_some (il_iv (nm_il 9)))))) (iv_ib (iv_tup (iav_cons (il_iv (nm_il 18)) iav_nil)))))) (iv_ib (io_iv (io_sl (nm_ib 11) (ito_some (io_iv (io_op s_add (nm_ib 9) (iv_ib (iq_iv c_int))))) ito_no)))))) (ia_cons (nm_ib 12) (ia_cons (nm_ib 7) ia_nil))) (aC_len (aC_len (aC_len aN_len)))))
      (is_seq (is_if (it_not (it_tru (iv_ib (io_iv (io_call (n := 5) (fun _ => .inr trivial) (ia_cons (nm_ib 19) (ia_cons (nm_ib 4) (ia_cons (nm_ib 7) (ia_cons (nm_ib 10) (ia_cons (nm_ib 20) ia_nil))))) (aC_len (aC_len (aC_len (aC_len (aC_len aN_len)))))))))) (is_ret (iv_io (iq_iv c_bl))) is_nil)
      (is_seq (is_asg (by rfl) (io_cb s_bool (ia_cons (iv_ib (io_iv (io_op s_eqO (iv_ib (io_iv (io_call (n := 3) (fun _ => .inr trivial) (ia_cons (nm_ib 19) (ia_cons (nm_ib 4) (ia_cons (nm_ib 7) ia_nil))) (aC_len (aC_len (aC_len aN_len)))))) (iv_ib (io_iv (io_call (n := 3) (fun _ => .inr trivial) (ia_cons (nm_ib 13) (ia_cons (nm_ib 4) (ia_cons (nm_ib 7) ia_nil))) (aC_len (aC_len (aC_len aN_len))))))))) ia_nil)))
      (is_if (it_test (io_iv (io_op s_eq (nm_ib 21) (iv_ib (io_iv (io_op s_ord (iv_ib (io_iv (io_call (n := 3) (fun _ => .inr trivial) (ia_cons (nm_ib 8) (ia_cons (nm_ib 9) (ia_cons (nm_ib 12) ia_nil))) (aC_len (aC_len (aC_len aN_len)))))) (nm_ib 7))))))) (is_ret (iv_io (iq_iv c_bl))) is_nil))))))) is_nil)
      (is_ret (io_call (n := 3) (fun _ => .inr trivial) (ia_cons (nm_ib 13) (ia_cons (nm_ib 10) (ia_cons (nm_ib 11) ia_nil))) (aC_len (aC_len (aC_len aN_len)))))))))))))))))))))))))) rfl h⟩
theorem cal_law (hd : Hd K mg) : CalX P w K mg base 17 "law" ["script"] (spM K 1 m_law) := by
  obtain ⟨fd, F⟩ := hd.def_ 18
  exact .mk' (hd.glo 28) F.kp (FunD.bindsN F fun _ _ _ _ _ _ us hl => match us, hl with | [_], _ => rfl) (ok_law hd F)

end
end KL

namespace KL
open PySem PySem.Spec PyProof.Rows L2 Evl KP KM
local macro_rules | `(tactic| walk_at "d") => `(tactic| first | omega | (simp only [List.length_map, List.length_append, List.length_cons, List.length_nil, leafs_len, dis_len]; omega) | (simp; done))
local macro_rules | `(tactic| walk_at "m") => `(tactic| simp -implicitDefEqProofs (disch := walk_at "d") only [x_bnd, x_ret, x_opt, x_bind, x_bindX, x_bindS, x_bindI, x_out, x_outX, x_outS, x_outI, x_thenS, x_seq, x_nx, x_nbrk, x_ncnt, x_nret, x_nexc, x_nstuck, x_nI, x_nil, x_brk, x_cnt, x_drop, x_sret, x_retN, x_sif, x_iteSM, x_iteM, x_asg, x_optOut, x_gt, x_gNm, x_gTp, x_gCn, x_gNl, x_aug, x_augV, x_ipAdd, x_ipSub, x_ipXor, x_pC, x_vMC, x_oV, x_bV, x_vO, x_tst, x_unBl, x_tnot, x_tand, x_tor, x_vAnd, x_vOr, x_vNot, x_vIf, x_toD, x_toDL, x_shalL, x_shalV, x_nm, x_nmO, x_pNm, x_pNmO, x_lookV, x_lookN, x_lookL, x_lookD, x_lookO, x_lookP, x_node, x_atO, x_atP, x_at, x_atS, x_chI, x_chF, x_some, x_map, x_vL, x_vLO, x_frzV, x_frzN, x_frzO, x_pFld, x_pIx, x_pD, x_pLk, x_pAt, x_dataV, x_dataL, x_dataO, x_stepIV, x_stepIL, x_stepOV, x_stepOLf, x_tOpd, x_tOpdL, x_itL, x_itF, x_itT, x_atN, x_atM, x_ixN, x_oOp, x_oU, x_pOp, x_pU, x_oA, x_pA, x_paNil, x_paCons, x_looks0, x_looks, x_aNil, x_aCons, x_vNil, x_vCons, x_vStar, x_starO, x_oLst, x_vTup, x_pTup, x_add, x_addL, x_addT, x_addS, x_sub, x_band, x_bor, x_bxor, x_mul, x_fdiv, x_mod, x_pow, x_shl, x_shr, x_neg, x_lt, x_le, x_gt', x_ge, x_eqI, x_neI, x_eqS, x_neS, x_eqB, x_neB, x_is, x_isnot, x_ixT, x_ixL, x_ixF, x_ixS, x_lenL, x_lenT, x_lenF, x_lenS, x_abs, x_min, x_max, x_int, x_intB, x_list, x_tup, x_oSl, x_ipNo, x_ipSome, x_ipO, x_slT, x_slL, x_slF, x_slS, x_put, x_putO, x_putL, x_putAt, x_putAO, x_tput, x_app, x_appO, x_appO2, x_mv, x_mvO, x_for, x_iIt, x_iterL, x_iterT, x_iterF, x_iterS, x_rsOk, x_rsX, x_call, x_callO, x_take0, x_takeV, x_takeN, x_takeO, x_give0, x_giveV, x_giveN, x_finN, x_finR, x_finX, x_finI, x_fnOut, x_optRF, x_outs0, x_outsT, x_outsF, x_ok0, x_okT, x_okF, x_iEnM, x_mExt, x_extO, x_seqL, x_seqT, x_pop, x_popO, x_oM, x_strOut, x_count, x_starts, x_sumL, x_sortedL, x_join, x_lstZip, x_iZpM, x_isD_nn, x_isD_nb, x_isD_bn, x_isD_bb, x_isD_in, x_isD_ib, x_isD_sn, x_isD_sb, x_isD_ln, x_isD_lb, x_isD_tn, x_isD_tb, x_isi_n_int, x_isi_n_bool, x_isi_n_str, x_isi_n_list, x_isi_n_tuple, x_isi_b_int, x_isi_b_bool, x_isi_b_str, x_isi_b_list, x_isi_b_tuple, x_isi_i_int, x_isi_i_bool, x_isi_i_str, x_isi_i_list, x_isi_i_tuple, x_isi_s_int, x_isi_s_bool, x_isi_s_str, x_isi_s_list, x_isi_s_tuple, x_isi_l_int, x_isi_l_bool, x_isi_l_str, x_isi_l_list, x_isi_l_tuple, x_isi_t_int, x_isi_t_bool, x_isi_t_str, x_isi_t_list, x_isi_t_tuple, x_tru, x_truN, x_truB, x_truI, x_truL, x_truF, x_truT, x_truS, x_R1, x_r1K, x_R2, x_r2K, x_in62, x_lcM, x_lcGo, x_lcRes, x_okW0, x_okW, x_okC1, x_okC2, x_okC3, x_wipe0, x_wipe, x_rest0, x_rest, x_joinS, x_chain, x_chO, x_zipT_LL, x_zpL_LL, x_zipT_LT, x_zpL_LT, x_zipT_TL, x_zpL_TL, x_zipT_TT, x_zpL_TT, x_ext2, x_ext3, x_eqIL, x_eqIT, x_cut, x_callT, x_callTO, x_drop1, x_mk0, x_mkV, x_mkK, x_fldX, x_mMake, x_setA, x_boolB, x_boolI, x_stepFL, x_eqIR, x_eqBB, Int.cast_ofNat_Int, small_of, Bool.and_self, Bool.and_true, Bool.true_and, List.getElem?_cons_zero, List.getElem?_cons_succ, List.set_cons_zero, List.set_cons_succ, List.map_cons, List.map_nil, List.replicate_zero, List.replicate_succ, List.cons_append, List.nil_append, List.length_cons, List.length_nil, leafs_snoc, leafs_app, leafs_set, leafs_len, leafs_get, Bool.not_true, Bool.not_false, Bool.false_eq_true, if_true, if_false, ite_true, ite_false, decide_eq_true_eq, Bool.not_eq_true, Bool.not_eq_true', decide_eq_false_iff_not, Nat.zero_add, Option.map_some, Int.toNat_natCast, decide_true, decide_false, reduceIte, reduceCtorEq, Int.reduceToNat, Int.reduceNeg, Int.reduceAdd, Int.reduceSub, Int.reduceMul, Int.reduceLT, Int.reduceLE, Int.reducePow, Nat.reduceLT, Nat.reduceLeDiff, Nat.reduceAdd, Nat.reduceMul, Nat.reduceSub, Int.reduceMod, Int.reduceDiv, decide_eq_true_eq, Int.reduceEq, Nat.reduceEqDiff])

theorem e_draw {x : Dr} {m : Int} (h : 0 < m) (h2 : m < 1000000000000000000000000000000) : m_law_draw [drw x, .val (.int m)] = .ok (.val (.int (dv x m))) [drw (dn x m), .val (.int m)] := by
  have r1 : ∀ i : Int, 0 ≤ i % 2147483647 := fun i => Int.emod_nonneg _ (by decide)
  have r2 : ∀ i : Int, i % 2147483647 < 2147483647 := fun i => Int.emod_lt_of_pos _ (by decide)
  unfold drw m_law_draw
  rw [x_fn rfl]
  unfold dv dn dTwo dOne
  by_cases c : 1 < x.a
  · simp -implicitDefEqProofs (disch := walk_at "d") only [c, x_bnd, x_ret, x_opt, x_bind, x_bindX, x_bindS, x_bindI, x_out, x_outX, x_outS, x_outI, x_thenS, x_seq, x_nx, x_nbrk, x_ncnt, x_nret, x_nexc, x_nstuck, x_nI, x_nil, x_brk, x_cnt, x_drop, x_sret, x_retN, x_sif, x_iteSM, x_iteM, x_asg, x_optOut, x_gt, x_gNm, x_gTp, x_gCn, x_gNl, x_aug, x_augV, x_ipAdd, x_ipSub, x_ipXor, x_pC, x_vMC, x_oV, x_bV, x_vO, x_tst, x_unBl, x_tnot, x_tand, x_tor, x_vAnd, x_vOr, x_vNot, x_vIf, x_toD, x_toDL, x_shalL, x_shalV, x_nm, x_nmO, x_pNm, x_pNmO, x_lookV, x_lookN, x_lookL, x_lookD, x_lookO, x_lookP, x_node, x_atO, x_atP, x_at, x_atS, x_chI, x_chF, x_some, x_map, x_vL, x_vLO, x_frzV, x_frzN, x_frzO, x_pFld, x_pIx, x_pD, x_pLk, x_pAt, x_dataV, x_dataL, x_dataO, x_stepIV, x_stepIL, x_stepOV, x_stepOLf, x_tOpd, x_tOpdL, x_itL, x_itF, x_itT, x_atN, x_atM, x_ixN, x_oOp, x_oU, x_pOp, x_pU, x_oA, x_pA, x_paNil, x_paCons, x_looks0, x_looks, x_aNil, x_aCons, x_vNil, x_vCons, x_vStar, x_starO, x_oLst, x_vTup, x_pTup, x_add, x_addL, x_addT, x_addS, x_sub, x_band, x_bor, x_bxor, x_mul, x_fdiv, x_mod, x_pow, x_shl, x_shr, x_neg, x_lt, x_le, x_gt', x_ge, x_eqI, x_neI, x_eqS, x_neS, x_eqB, x_neB, x_is, x_isnot, x_ixT, x_ixL, x_ixF, x_ixS, x_lenL, x_lenT, x_lenF, x_lenS, x_abs, x_min, x_max, x_int, x_intB, x_list, x_tup, x_oSl, x_ipNo, x_ipSome, x_ipO, x_slT, x_slL, x_slF, x_slS, x_put, x_putO, x_putL, x_putAt, x_putAO, x_tput, x_app, x_appO, x_appO2, x_mv, x_mvO, x_for, x_iIt, x_iterL, x_iterT, x_iterF, x_iterS, x_rsOk, x_rsX, x_call, x_callO, x_take0, x_takeV, x_takeN, x_takeO, x_give0, x_giveV, x_giveN, x_finN, x_finR, x_finX, x_finI, x_fnOut, x_optRF, x_outs0, x_outsT, x_outsF, x_ok0, x_okT, x_okF, x_iEnM, x_mExt, x_extO, x_seqL, x_seqT, x_pop, x_popO, x_oM, x_strOut, x_count, x_starts, x_sumL, x_sortedL, x_join, x_lstZip, x_iZpM, x_isD_nn, x_isD_nb, x_isD_bn, x_isD_bb, x_isD_in, x_isD_ib, x_isD_sn, x_isD_sb, x_isD_ln, x_isD_lb, x_isD_tn, x_isD_tb, x_isi_n_int, x_isi_n_bool, x_isi_n_str, x_isi_n_list, x_isi_n_tuple, x_isi_b_int, x_isi_b_bool, x_isi_b_str, x_isi_b_list, x_isi_b_tuple, x_isi_i_int, x_isi_i_bool, x_isi_i_str, x_isi_i_list, x_isi_i_tuple, x_isi_s_int, x_isi_s_bool, x_isi_s_str, x_isi_s_list, x_isi_s_tuple, x_isi_l_int, x_isi_l_bool, x_isi_l_str, x_isi_l_list, x_isi_l_tuple, x_isi_t_int, x_isi_t_bool, x_isi_t_str, x_isi_t_list, x_isi_t_tuple, x_tru, x_truN, x_truB, x_truI, x_truL, x_truF, x_truT, x_truS, x_R1, x_r1K, x_R2, x_r2K, x_in62, x_lcM, x_lcGo, x_lcRes, x_okW0, x_okW, x_okC1, x_okC2, x_okC3, x_wipe0, x_wipe, x_rest0, x_rest, x_joinS, x_chain, x_chO, x_zipT_LL, x_zpL_LL, x_zipT_LT, x_zpL_LT, x_zipT_TL, x_zpL_TL, x_zipT_TT, x_zpL_TT, x_ext2, x_ext3, x_eqIL, x_eqIT, x_cut, x_callT, x_callTO, x_drop1, x_mk0, x_mkV, x_mkK, x_fldX, x_mMake, x_setA, x_boolB, x_boolI, x_stepFL, x_eqIR, x_eqBB, Int.cast_ofNat_Int, small_of, Bool.and_self, Bool.and_true, Bool.true_and, List.getElem?_cons_zero, List.getElem?_cons_succ, List.set_cons_zero, List.set_cons_succ, List.map_cons, List.map_nil, List.replicate_zero, List.replicate_succ, List.cons_append, List.nil_append, List.length_cons, List.length_nil, leafs_snoc, leafs_app, leafs_set, leafs_len, leafs_get, Bool.not_true, Bool.not_false, Bool.false_eq_true, if_true, if_false, ite_true, ite_false, decide_eq_true_eq, Bool.not_eq_true, Bool.not_eq_true', decide_eq_false_iff_not, Nat.zero_add, Option.map_some, Int.toNat_natCast, decide_true, decide_false, reduceIte, reduceCtorEq, Int.reduceToNat, Int.reduceNeg, Int.reduceAdd, Int.reduceSub, Int.reduceMul, Int.reduceLT, Int.reduceLE, Int.reducePow, Nat.reduceLT, Nat.reduceLeDiff, Nat.reduceAdd, Nat.reduceMul, Nat.reduceSub, Int.reduceMod, Int.reduceDiv, decide_eq_true_eq, Int.reduceEq, Nat.reduceEqDiff]
  · simp -implicitDefEqProofs (disch := walk_at "d") only [c, x_bnd, x_ret, x_opt, x_bind, x_bindX, x_bindS, x_bindI, x_out, x_outX, x_outS, x_outI, x_thenS, x_seq, x_nx, x_nbrk, x_ncnt, x_nret, x_nexc, x_nstuck, x_nI, x_nil, x_brk, x_cnt, x_drop, x_sret, x_retN, x_sif, x_iteSM, x_iteM, x_asg, x_optOut, x_gt, x_gNm, x_gTp, x_gCn, x_gNl, x_aug, x_augV, x_ipAdd, x_ipSub, x_ipXor, x_pC, x_vMC, x_oV, x_bV, x_vO, x_tst, x_unBl, x_tnot, x_tand, x_tor, x_vAnd, x_vOr, x_vNot, x_vIf, x_toD, x_toDL, x_shalL, x_shalV, x_nm, x_nmO, x_pNm, x_pNmO, x_lookV, x_lookN, x_lookL, x_lookD, x_lookO, x_lookP, x_node, x_atO, x_atP, x_at, x_atS, x_chI, x_chF, x_some, x_map, x_vL, x_vLO, x_frzV, x_frzN, x_frzO, x_pFld, x_pIx, x_pD, x_pLk, x_pAt, x_dataV, x_dataL, x_dataO, x_stepIV, x_stepIL, x_stepOV, x_stepOLf, x_tOpd, x_tOpdL, x_itL, x_itF, x_itT, x_atN, x_atM, x_ixN, x_oOp, x_oU, x_pOp, x_pU, x_oA, x_pA, x_paNil, x_paCons, x_looks0, x_looks, x_aNil, x_aCons, x_vNil, x_vCons, x_vStar, x_starO, x_oLst, x_vTup, x_pTup, x_add, x_addL, x_addT, x_addS, x_sub, x_band, x_bor, x_bxor, x_mul, x_fdiv, x_mod, x_pow, x_shl, x_shr, x_neg, x_lt, x_le, x_gt', x_ge, x_eqI, x_neI, x_eqS, x_neS, x_eqB, x_neB, x_is, x_isnot, x_ixT, x_ixL, x_ixF, x_ixS, x_lenL, x_lenT, x_lenF, x_lenS, x_abs, x_min, x_max, x_int, x_intB, x_list, x_tup, x_oSl, x_ipNo, x_ipSome, x_ipO, x_slT, x_slL, x_slF, x_slS, x_put, x_putO, x_putL, x_putAt, x_putAO, x_tput, x_app, x_appO, x_appO2, x_mv, x_mvO, x_for, x_iIt, x_iterL, x_iterT, x_iterF, x_iterS, x_rsOk, x_rsX, x_call, x_callO, x_take0, x_takeV, x_takeN, x_takeO, x_give0, x_giveV, x_giveN, x_finN, x_finR, x_finX, x_finI, x_fnOut, x_optRF, x_outs0, x_outsT, x_outsF, x_ok0, x_okT, x_okF, x_iEnM, x_mExt, x_extO, x_seqL, x_seqT, x_pop, x_popO, x_oM, x_strOut, x_count, x_starts, x_sumL, x_sortedL, x_join, x_lstZip, x_iZpM, x_isD_nn, x_isD_nb, x_isD_bn, x_isD_bb, x_isD_in, x_isD_ib, x_isD_sn, x_isD_sb, x_isD_ln, x_isD_lb, x_isD_tn, x_isD_tb, x_isi_n_int, x_isi_n_bool, x_isi_n_str, x_isi_n_list, x_isi_n_tuple, x_isi_b_int, x_isi_b_bool, x_isi_b_str, x_isi_b_list, x_isi_b_tuple, x_isi_i_int, x_isi_i_bool, x_isi_i_str, x_isi_i_list, x_isi_i_tuple, x_isi_s_int, x_isi_s_bool, x_isi_s_str, x_isi_s_list, x_isi_s_tuple, x_isi_l_int, x_isi_l_bool, x_isi_l_str, x_isi_l_list, x_isi_l_tuple, x_isi_t_int, x_isi_t_bool, x_isi_t_str, x_isi_t_list, x_isi_t_tuple, x_tru, x_truN, x_truB, x_truI, x_truL, x_truF, x_truT, x_truS, x_R1, x_r1K, x_R2, x_r2K, x_in62, x_lcM, x_lcGo, x_lcRes, x_okW0, x_okW, x_okC1, x_okC2, x_okC3, x_wipe0, x_wipe, x_rest0, x_rest, x_joinS, x_chain, x_chO, x_zipT_LL, x_zpL_LL, x_zipT_LT, x_zpL_LT, x_zipT_TL, x_zpL_TL, x_zipT_TT, x_zpL_TT, x_ext2, x_ext3, x_eqIL, x_eqIT, x_cut, x_callT, x_callTO, x_drop1, x_mk0, x_mkV, x_mkK, x_fldX, x_mMake, x_setA, x_boolB, x_boolI, x_stepFL, x_eqIR, x_eqBB, Int.cast_ofNat_Int, small_of, Bool.and_self, Bool.and_true, Bool.true_and, List.getElem?_cons_zero, List.getElem?_cons_succ, List.set_cons_zero, List.set_cons_succ, List.map_cons, List.map_nil, List.replicate_zero, List.replicate_succ, List.cons_append, List.nil_append, List.length_cons, List.length_nil, leafs_snoc, leafs_app, leafs_set, leafs_len, leafs_get, Bool.not_true, Bool.not_false, Bool.false_eq_true, if_true, if_false, ite_true, ite_false, decide_eq_true_eq, Bool.not_eq_true, Bool.not_eq_true', decide_eq_false_iff_not, Nat.zero_add, Option.map_some, Int.toNat_natCast, decide_true, decide_false, reduceIte, reduceCtorEq, Int.reduceToNat, Int.reduceNeg, Int.reduceAdd, Int.reduceSub, Int.reduceMul, Int.reduceLT, Int.reduceLE, Int.reducePow, Nat.reduceLT, Nat.reduceLeDiff, Nat.reduceAdd, Nat.reduceMul, Nat.reduceSub, Int.reduceMod, Int.reduceDiv, decide_eq_true_eq, Int.reduceEq, Nat.reduceEqDiff]
theorem e_drawer {ns : List Int} {k : Int} (hz : ns.length ≤ 63) (h : 0 ≤ k) (h2 : k < 1000000) : m_law_drawer [.val (.fro (ns.map D.int)), .val (.int k)] = .ok (drw (drC ns k)) [.val (.fro (ns.map D.int)), .val (.int k)] := by
  unfold m_law_drawer
  rw [x_fn rfl]
  unfold drw drC KM.cellOf
  have hl : (ns.map D.int).length = ns.length := by simp
  by_cases c : k < ns.length
  · obtain ⟨i, hi⟩ := KM.lt_get (show k.toNat < ns.length by omega)
    have hg : ns.getD k.toNat 0 = i := by simp [hi]
    have hd : (ns.map D.int)[k.toNat]? = some (.int i) := by simp [hi]
    simp -implicitDefEqProofs (disch := walk_at "d") only [c, hl, hd, hg, x_bnd, x_ret, x_opt, x_bind, x_bindX, x_bindS, x_bindI, x_out, x_outX, x_outS, x_outI, x_thenS, x_seq, x_nx, x_nbrk, x_ncnt, x_nret, x_nexc, x_nstuck, x_nI, x_nil, x_brk, x_cnt, x_drop, x_sret, x_retN, x_sif, x_iteSM, x_iteM, x_asg, x_optOut, x_gt, x_gNm, x_gTp, x_gCn, x_gNl, x_aug, x_augV, x_ipAdd, x_ipSub, x_ipXor, x_pC, x_vMC, x_oV, x_bV, x_vO, x_tst, x_unBl, x_tnot, x_tand, x_tor, x_vAnd, x_vOr, x_vNot, x_vIf, x_toD, x_toDL, x_shalL, x_shalV, x_nm, x_nmO, x_pNm, x_pNmO, x_lookV, x_lookN, x_lookL, x_lookD, x_lookO, x_lookP, x_node, x_atO, x_atP, x_at, x_atS, x_chI, x_chF, x_some, x_map, x_vL, x_vLO, x_frzV, x_frzN, x_frzO, x_pFld, x_pIx, x_pD, x_pLk, x_pAt, x_dataV, x_dataL, x_dataO, x_stepIV, x_stepIL, x_stepOV, x_stepOLf, x_tOpd, x_tOpdL, x_itL, x_itF, x_itT, x_atN, x_atM, x_ixN, x_oOp, x_oU, x_pOp, x_pU, x_oA, x_pA, x_paNil, x_paCons, x_looks0, x_looks, x_aNil, x_aCons, x_vNil, x_vCons, x_vStar, x_starO, x_oLst, x_vTup, x_pTup, x_add, x_addL, x_addT, x_addS, x_sub, x_band, x_bor, x_bxor, x_mul, x_fdiv, x_mod, x_pow, x_shl, x_shr, x_neg, x_lt, x_le, x_gt', x_ge, x_eqI, x_neI, x_eqS, x_neS, x_eqB, x_neB, x_is, x_isnot, x_ixT, x_ixL, x_ixF, x_ixS, x_lenL, x_lenT, x_lenF, x_lenS, x_abs, x_min, x_max, x_int, x_intB, x_list, x_tup, x_oSl, x_ipNo, x_ipSome, x_ipO, x_slT, x_slL, x_slF, x_slS, x_put, x_putO, x_putL, x_putAt, x_putAO, x_tput, x_app, x_appO, x_appO2, x_mv, x_mvO, x_for, x_iIt, x_iterL, x_iterT, x_iterF, x_iterS, x_rsOk, x_rsX, x_call, x_callO, x_take0, x_takeV, x_takeN, x_takeO, x_give0, x_giveV, x_giveN, x_finN, x_finR, x_finX, x_finI, x_fnOut, x_optRF, x_outs0, x_outsT, x_outsF, x_ok0, x_okT, x_okF, x_iEnM, x_mExt, x_extO, x_seqL, x_seqT, x_pop, x_popO, x_oM, x_strOut, x_count, x_starts, x_sumL, x_sortedL, x_join, x_lstZip, x_iZpM, x_isD_nn, x_isD_nb, x_isD_bn, x_isD_bb, x_isD_in, x_isD_ib, x_isD_sn, x_isD_sb, x_isD_ln, x_isD_lb, x_isD_tn, x_isD_tb, x_isi_n_int, x_isi_n_bool, x_isi_n_str, x_isi_n_list, x_isi_n_tuple, x_isi_b_int, x_isi_b_bool, x_isi_b_str, x_isi_b_list, x_isi_b_tuple, x_isi_i_int, x_isi_i_bool, x_isi_i_str, x_isi_i_list, x_isi_i_tuple, x_isi_s_int, x_isi_s_bool, x_isi_s_str, x_isi_s_list, x_isi_s_tuple, x_isi_l_int, x_isi_l_bool, x_isi_l_str, x_isi_l_list, x_isi_l_tuple, x_isi_t_int, x_isi_t_bool, x_isi_t_str, x_isi_t_list, x_isi_t_tuple, x_tru, x_truN, x_truB, x_truI, x_truL, x_truF, x_truT, x_truS, x_R1, x_r1K, x_R2, x_r2K, x_in62, x_lcM, x_lcGo, x_lcRes, x_okW0, x_okW, x_okC1, x_okC2, x_okC3, x_wipe0, x_wipe, x_rest0, x_rest, x_joinS, x_chain, x_chO, x_zipT_LL, x_zpL_LL, x_zipT_LT, x_zpL_LT, x_zipT_TL, x_zpL_TL, x_zipT_TT, x_zpL_TT, x_ext2, x_ext3, x_eqIL, x_eqIT, x_cut, x_callT, x_callTO, x_drop1, x_mk0, x_mkV, x_mkK, x_fldX, x_mMake, x_setA, x_boolB, x_boolI, x_stepFL, x_eqIR, x_eqBB, Int.cast_ofNat_Int, small_of, Bool.and_self, Bool.and_true, Bool.true_and, List.getElem?_cons_zero, List.getElem?_cons_succ, List.set_cons_zero, List.set_cons_succ, List.map_cons, List.map_nil, List.replicate_zero, List.replicate_succ, List.cons_append, List.nil_append, List.length_cons, List.length_nil, leafs_snoc, leafs_app, leafs_set, leafs_len, leafs_get, Bool.not_true, Bool.not_false, Bool.false_eq_true, if_true, if_false, ite_true, ite_false, decide_eq_true_eq, Bool.not_eq_true, Bool.not_eq_true', decide_eq_false_iff_not, Nat.zero_add, Option.map_some, Int.toNat_natCast, decide_true, decide_false, reduceIte, reduceCtorEq, Int.reduceToNat, Int.reduceNeg, Int.reduceAdd, Int.reduceSub, Int.reduceMul, Int.reduceLT, Int.reduceLE, Int.reducePow, Nat.reduceLT, Nat.reduceLeDiff, Nat.reduceAdd, Nat.reduceMul, Nat.reduceSub, Int.reduceMod, Int.reduceDiv, decide_eq_true_eq, Int.reduceEq, Nat.reduceEqDiff]
    generalize (if i < 0 then -i else i) = z
    by_cases hz : 1000000000000000000 ≤ z <;> simp only [hz, if_true, if_false]
  · simp -implicitDefEqProofs (disch := walk_at "d") only [c, hl, x_bnd, x_ret, x_opt, x_bind, x_bindX, x_bindS, x_bindI, x_out, x_outX, x_outS, x_outI, x_thenS, x_seq, x_nx, x_nbrk, x_ncnt, x_nret, x_nexc, x_nstuck, x_nI, x_nil, x_brk, x_cnt, x_drop, x_sret, x_retN, x_sif, x_iteSM, x_iteM, x_asg, x_optOut, x_gt, x_gNm, x_gTp, x_gCn, x_gNl, x_aug, x_augV, x_ipAdd, x_ipSub, x_ipXor, x_pC, x_vMC, x_oV, x_bV, x_vO, x_tst, x_unBl, x_tnot, x_tand, x_tor, x_vAnd, x_vOr, x_vNot, x_vIf, x_toD, x_toDL, x_shalL, x_shalV, x_nm, x_nmO, x_pNm, x_pNmO, x_lookV, x_lookN, x_lookL, x_lookD, x_lookO, x_lookP, x_node, x_atO, x_atP, x_at, x_atS, x_chI, x_chF, x_some, x_map, x_vL, x_vLO, x_frzV, x_frzN, x_frzO, x_pFld, x_pIx, x_pD, x_pLk, x_pAt, x_dataV, x_dataL, x_dataO, x_stepIV, x_stepIL, x_stepOV, x_stepOLf, x_tOpd, x_tOpdL, x_itL, x_itF, x_itT, x_atN, x_atM, x_ixN, x_oOp, x_oU, x_pOp, x_pU, x_oA, x_pA, x_paNil, x_paCons, x_looks0, x_looks, x_aNil, x_aCons, x_vNil, x_vCons, x_vStar, x_starO, x_oLst, x_vTup, x_pTup, x_add, x_addL, x_addT, x_addS, x_sub, x_band, x_bor, x_bxor, x_mul, x_fdiv, x_mod, x_pow, x_shl, x_shr, x_neg, x_lt, x_le, x_gt', x_ge, x_eqI, x_neI, x_eqS, x_neS, x_eqB, x_neB, x_is, x_isnot, x_ixT, x_ixL, x_ixF, x_ixS, x_lenL, x_lenT, x_lenF, x_lenS, x_abs, x_min, x_max, x_int, x_intB, x_list, x_tup, x_oSl, x_ipNo, x_ipSome, x_ipO, x_slT, x_slL, x_slF, x_slS, x_put, x_putO, x_putL, x_putAt, x_putAO, x_tput, x_app, x_appO, x_appO2, x_mv, x_mvO, x_for, x_iIt, x_iterL, x_iterT, x_iterF, x_iterS, x_rsOk, x_rsX, x_call, x_callO, x_take0, x_takeV, x_takeN, x_takeO, x_give0, x_giveV, x_giveN, x_finN, x_finR, x_finX, x_finI, x_fnOut, x_optRF, x_outs0, x_outsT, x_outsF, x_ok0, x_okT, x_okF, x_iEnM, x_mExt, x_extO, x_seqL, x_seqT, x_pop, x_popO, x_oM, x_strOut, x_count, x_starts, x_sumL, x_sortedL, x_join, x_lstZip, x_iZpM, x_isD_nn, x_isD_nb, x_isD_bn, x_isD_bb, x_isD_in, x_isD_ib, x_isD_sn, x_isD_sb, x_isD_ln, x_isD_lb, x_isD_tn, x_isD_tb, x_isi_n_int, x_isi_n_bool, x_isi_n_str, x_isi_n_list, x_isi_n_tuple, x_isi_b_int, x_isi_b_bool, x_isi_b_str, x_isi_b_list, x_isi_b_tuple, x_isi_i_int, x_isi_i_bool, x_isi_i_str, x_isi_i_list, x_isi_i_tuple, x_isi_s_int, x_isi_s_bool, x_isi_s_str, x_isi_s_list, x_isi_s_tuple, x_isi_l_int, x_isi_l_bool, x_isi_l_str, x_isi_l_list, x_isi_l_tuple, x_isi_t_int, x_isi_t_bool, x_isi_t_str, x_isi_t_list, x_isi_t_tuple, x_tru, x_truN, x_truB, x_truI, x_truL, x_truF, x_truT, x_truS, x_R1, x_r1K, x_R2, x_r2K, x_in62, x_lcM, x_lcGo, x_lcRes, x_okW0, x_okW, x_okC1, x_okC2, x_okC3, x_wipe0, x_wipe, x_rest0, x_rest, x_joinS, x_chain, x_chO, x_zipT_LL, x_zpL_LL, x_zipT_LT, x_zpL_LT, x_zipT_TL, x_zpL_TL, x_zipT_TT, x_zpL_TT, x_ext2, x_ext3, x_eqIL, x_eqIT, x_cut, x_callT, x_callTO, x_drop1, x_mk0, x_mkV, x_mkK, x_fldX, x_mMake, x_setA, x_boolB, x_boolI, x_stepFL, x_eqIR, x_eqBB, Int.cast_ofNat_Int, small_of, Bool.and_self, Bool.and_true, Bool.true_and, List.getElem?_cons_zero, List.getElem?_cons_succ, List.set_cons_zero, List.set_cons_succ, List.map_cons, List.map_nil, List.replicate_zero, List.replicate_succ, List.cons_append, List.nil_append, List.length_cons, List.length_nil, leafs_snoc, leafs_app, leafs_set, leafs_len, leafs_get, Bool.not_true, Bool.not_false, Bool.false_eq_true, if_true, if_false, ite_true, ite_false, decide_eq_true_eq, Bool.not_eq_true, Bool.not_eq_true', decide_eq_false_iff_not, Nat.zero_add, Option.map_some, Int.toNat_natCast, decide_true, decide_false, reduceIte, reduceCtorEq, Int.reduceToNat, Int.reduceNeg, Int.reduceAdd, Int.reduceSub, Int.reduceMul, Int.reduceLT, Int.reduceLE, Int.reducePow, Nat.reduceLT, Nat.reduceLeDiff, Nat.reduceAdd, Nat.reduceMul, Nat.reduceSub, Int.reduceMod, Int.reduceDiv, decide_eq_true_eq, Int.reduceEq, Nat.reduceEqDiff]
/-- a row of draws -/
theorem lc_draws {mm : Int} (hM : 0 < mm) (hM2 : mm < 1000000000000000000000000000000) {i j : Nat} (hij : i ≠ j) : ∀ (ds : List D) (acc : List T) (env : KM.Env) (x : Dr), x.Ok → env[i]? = some none → env[j]? = some (some (drw x)) → acc.length + ds.length ≤ 16777216 →
    ∃ (ns : List Int) (y : Dr), lcLoop [i] (gNm i) tYesM (oV (vO (callM m_law_draw (aCons (nmM j) (aCons (bV (vM (pC (.int mm)))) aNil))))) ds acc env = .ok (acc ++ leafs (dis ns)) (env.set j (some (drw y))) ∧ ns.length = ds.length ∧ (∀ n ∈ ns, 0 ≤ n ∧ n < mm) ∧ y.Ok
  | [], acc, env, x, hx, _, hj, _ => ⟨[], x, by
      have : env.set j (some (drw x)) = env := by
        apply List.ext_getElem?
        intro k
        rw [List.getElem?_set]
        split
        · rename_i e; subst e; rw [hj]; split
          · rfl
          · rename_i h; rw [List.getElem?_eq_none (by omega)] at hj; cases hj
        · rfl
      simp [lcLoop, M.ret, this, dis, leafs], rfl, by simp, hx⟩
  | d :: ds, acc, env, x, hx, hi, hj, hz => by
    rw [List.length_cons] at hz
    have li : i < env.length := (List.getElem?_eq_some_iff.mp hi).1
    have lj : j < env.length := (List.getElem?_eq_some_iff.mp hj).1
    have ji : j ≠ i := Ne.symm hij
    let e1 := env.set i (some (.val d))
    have e1j : (env.set i (some (T.val d)))[j]? = some (some (drw x)) := by rw [List.getElem?_set_ne hij]; exact hj
    have el : (oV (vO (callM m_law_draw (aCons (nmM j) (aCons (bV (vM (pC (.int mm)))) aNil))))) (env.set i (some (T.val d))) = .ok (.val (.int (dv x mm))) (((env.set i (some (T.val d))).set j none).set j (some (drw (dn x mm)))) := by
      simp -implicitDefEqProofs (disch := walk_at "d") only [e1j, e_draw hM hM2, x_bnd, x_ret, x_opt, x_bind, x_bindX, x_bindS, x_bindI, x_out, x_outX, x_outS, x_outI, x_thenS, x_seq, x_nx, x_nbrk, x_ncnt, x_nret, x_nexc, x_nstuck, x_nI, x_nil, x_brk, x_cnt, x_drop, x_sret, x_retN, x_sif, x_iteSM, x_iteM, x_asg, x_optOut, x_gt, x_gNm, x_gTp, x_gCn, x_gNl, x_aug, x_augV, x_ipAdd, x_ipSub, x_ipXor, x_pC, x_vMC, x_oV, x_bV, x_vO, x_tst, x_unBl, x_tnot, x_tand, x_tor, x_vAnd, x_vOr, x_vNot, x_vIf, x_toD, x_toDL, x_shalL, x_shalV, x_nm, x_nmO, x_pNm, x_pNmO, x_lookV, x_lookN, x_lookL, x_lookD, x_lookO, x_lookP, x_node, x_atO, x_atP, x_at, x_atS, x_chI, x_chF, x_some, x_map, x_vL, x_vLO, x_frzV, x_frzN, x_frzO, x_pFld, x_pIx, x_pD, x_pLk, x_pAt, x_dataV, x_dataL, x_dataO, x_stepIV, x_stepIL, x_stepOV, x_stepOLf, x_tOpd, x_tOpdL, x_itL, x_itF, x_itT, x_atN, x_atM, x_ixN, x_oOp, x_oU, x_pOp, x_pU, x_oA, x_pA, x_paNil, x_paCons, x_looks0, x_looks, x_aNil, x_aCons, x_vNil, x_vCons, x_vStar, x_starO, x_oLst, x_vTup, x_pTup, x_add, x_addL, x_addT, x_addS, x_sub, x_band, x_bor, x_bxor, x_mul, x_fdiv, x_mod, x_pow, x_shl, x_shr, x_neg, x_lt, x_le, x_gt', x_ge, x_eqI, x_neI, x_eqS, x_neS, x_eqB, x_neB, x_is, x_isnot, x_ixT, x_ixL, x_ixF, x_ixS, x_lenL, x_lenT, x_lenF, x_lenS, x_abs, x_min, x_max, x_int, x_intB, x_list, x_tup, x_oSl, x_ipNo, x_ipSome, x_ipO, x_slT, x_slL, x_slF, x_slS, x_put, x_putO, x_putL, x_putAt, x_putAO, x_tput, x_app, x_appO, x_appO2, x_mv, x_mvO, x_for, x_iIt, x_iterL, x_iterT, x_iterF, x_iterS, x_rsOk, x_rsX, x_call, x_callO, x_take0, x_takeV, x_takeN, x_takeO, x_give0, x_giveV, x_giveN, x_finN, x_finR, x_finX, x_finI, x_fnOut, x_optRF, x_outs0, x_outsT, x_outsF, x_ok0, x_okT, x_okF, x_iEnM, x_mExt, x_extO, x_seqL, x_seqT, x_pop, x_popO, x_oM, x_strOut, x_count, x_starts, x_sumL, x_sortedL, x_join, x_lstZip, x_iZpM, x_isD_nn, x_isD_nb, x_isD_bn, x_isD_bb, x_isD_in, x_isD_ib, x_isD_sn, x_isD_sb, x_isD_ln, x_isD_lb, x_isD_tn, x_isD_tb, x_isi_n_int, x_isi_n_bool, x_isi_n_str, x_isi_n_list, x_isi_n_tuple, x_isi_b_int, x_isi_b_bool, x_isi_b_str, x_isi_b_list, x_isi_b_tuple, x_isi_i_int, x_isi_i_bool, x_isi_i_str, x_isi_i_list, x_isi_i_tuple, x_isi_s_int, x_isi_s_bool, x_isi_s_str, x_isi_s_list, x_isi_s_tuple, x_isi_l_int, x_isi_l_bool, x_isi_l_str, x_isi_l_list, x_isi_l_tuple, x_isi_t_int, x_isi_t_bool, x_isi_t_str, x_isi_t_list, x_isi_t_tuple, x_tru, x_truN, x_truB, x_truI, x_truL, x_truF, x_truT, x_truS, x_R1, x_r1K, x_R2, x_r2K, x_in62, x_lcM, x_lcGo, x_lcRes, x_okW0, x_okW, x_okC1, x_okC2, x_okC3, x_wipe0, x_wipe, x_rest0, x_rest, x_joinS, x_chain, x_chO, x_zipT_LL, x_zpL_LL, x_zipT_LT, x_zpL_LT, x_zipT_TL, x_zpL_TL, x_zipT_TT, x_zpL_TT, x_ext2, x_ext3, x_eqIL, x_eqIT, x_cut, x_callT, x_callTO, x_drop1, x_mk0, x_mkV, x_mkK, x_fldX, x_mMake, x_setA, x_boolB, x_boolI, x_stepFL, x_eqIR, x_eqBB, Int.cast_ofNat_Int, small_of, Bool.and_self, Bool.and_true, Bool.true_and, List.getElem?_cons_zero, List.getElem?_cons_succ, List.set_cons_zero, List.set_cons_succ, List.map_cons, List.map_nil, List.replicate_zero, List.replicate_succ, List.cons_append, List.nil_append, List.length_cons, List.length_nil, leafs_snoc, leafs_app, leafs_set, leafs_len, leafs_get, Bool.not_true, Bool.not_false, Bool.false_eq_true, if_true, if_false, ite_true, ite_false, decide_eq_true_eq, Bool.not_eq_true, Bool.not_eq_true', decide_eq_false_iff_not, Nat.zero_add, Option.map_some, Int.toNat_natCast, decide_true, decide_false, reduceIte, reduceCtorEq, Int.reduceToNat, Int.reduceNeg, Int.reduceAdd, Int.reduceSub, Int.reduceMul, Int.reduceLT, Int.reduceLE, Int.reducePow, Nat.reduceLT, Nat.reduceLeDiff, Nat.reduceAdd, Nat.reduceMul, Nat.reduceSub, Int.reduceMod, Int.reduceDiv, decide_eq_true_eq, Int.reduceEq, Nat.reduceEqDiff]
    have back : wipeE (((env.set i (some (T.val d))).set j none).set j (some (drw (dn x mm)))) [i] = env.set j (some (drw (dn x mm))) := by
      unfold wipeE wipeE
      apply List.ext_getElem?
      intro k
      simp only [List.getElem?_set, List.length_set]
      by_cases k1 : i = k
      · subst k1
        have := (List.getElem?_eq_some_iff.mp hi).2
        simp [ji, li, this]
      · by_cases k2 : j = k
        · subst k2; simp [k1, lj]
        · simp [k1, k2]
    obtain ⟨ns, y, h1, h2, h3, h4⟩ := lc_draws hM hM2 hij ds (acc ++ [.val (.int (dv x mm))]) (env.set j (some (drw (dn x mm)))) (dn x mm) (dn_ok hx hM) (by rw [List.getElem?_set_ne ji]; exact hi) (by rw [List.getElem?_set_self lj]) (by rw [List.length_append, List.length_singleton]; omega)
    refine ⟨dv x mm :: ns, y, ?_, by simp [h2], fun n hn => ?_, h4⟩
    · unfold lcLoop
      have ty : ∀ e, tYesM e = .ok true e := fun _ => rfl
      simp only [gNm, ty, el, back]
      rw [if_pos (by omega), h1]
      simp [dis, leafs]
    · rcases List.mem_cons.mp hn with e | e
      · rw [e]; exact ⟨dv_lo hM, dv_hi hM⟩
      · exact h3 n e

/-- data of which _law_same tells -/
def sameOk : Nat → D → Bool
  | 0, _ => false
  | _ + 1, .non => true
  | _ + 1, .bl _ => true
  | _ + 1, .int _ => true
  | _ + 1, .str _ => true
  | n + 1, .tup ds => ds.all (sameOk n) && decide (ds.length ≤ 16777216)
  | n + 1, .lst ds => ds.all (sameOk n) && decide (ds.length ≤ 16777216)
  | _ + 1, _ => false
inductive TD : T → D → Prop where
  | val (d : D) : TD (.val d) d
  | lst (ds : List D) : TD (.lst (leafs ds)) (.lst ds)
theorem rg_mem {d : D} {n : Nat} (h : d ∈ rgD 0 n) : ∃ k : Nat, k < n ∧ d = .int k := by
  unfold rgD at h
  obtain ⟨k, h1, h2⟩ := List.mem_map.mp h
  exact ⟨k, by simpa using h1, by rw [← h2]; simp⟩
theorem e_same (n : Nat) : ∀ (d : D) (a b : T), sameOk n d = true → TD a d → TD b d → m_law_same n [a, b] = .ok (.val (.bl true)) [a, b] := by
  induction n with
  | zero => intro d a b h; cases h
  | succ n ih =>
    have seq : ∀ (ds : List D) (a b : T) (i : Nat), ds.all (sameOk n) = true → ds.length ≤ 16777216 → (a = .val (.tup ds) ∨ a = .val (.lst ds) ∨ a = .lst (leafs ds)) → (b = .val (.tup ds) ∨ b = .val (.lst ds) ∨ b = .lst (leafs ds)) →
        ∃ c, forM (gNm 2) (l_law_same_0 (m_law_same n)) (rgD 0 ds.length) [some a, some b, none] = .nx [some a, some b, c] := fun ds a b _ hall hz ha hb => by
      refine ⟨_, forM_fold (S := Option T) (fun c => [some a, some b, c]) (fun _ d => some (.val d)) (rgD 0 ds.length) none fun c d hd => ⟨_, rfl, .inl ?_⟩⟩
      obtain ⟨k, hk, rfl⟩ := rg_mem hd
      obtain ⟨x, hx⟩ := KM.lt_get hk
      have hs : sameOk n x = true := List.all_eq_true.mp hall x (List.mem_of_getElem? hx)
      have hi := ih x (.val x) (.val x) hs (.val x) (.val x)
      unfold l_law_same_0
      rcases ha with e | e | e <;> rcases hb with e' | e' | e' <;> subst e e' <;> simp -implicitDefEqProofs (disch := walk_at "d") only [hx, hi, x_bnd, x_ret, x_opt, x_bind, x_bindX, x_bindS, x_bindI, x_out, x_outX, x_outS, x_outI, x_thenS, x_seq, x_nx, x_nbrk, x_ncnt, x_nret, x_nexc, x_nstuck, x_nI, x_nil, x_brk, x_cnt, x_drop, x_sret, x_retN, x_sif, x_iteSM, x_iteM, x_asg, x_optOut, x_gt, x_gNm, x_gTp, x_gCn, x_gNl, x_aug, x_augV, x_ipAdd, x_ipSub, x_ipXor, x_pC, x_vMC, x_oV, x_bV, x_vO, x_tst, x_unBl, x_tnot, x_tand, x_tor, x_vAnd, x_vOr, x_vNot, x_vIf, x_toD, x_toDL, x_shalL, x_shalV, x_nm, x_nmO, x_pNm, x_pNmO, x_lookV, x_lookN, x_lookL, x_lookD, x_lookO, x_lookP, x_node, x_atO, x_atP, x_at, x_atS, x_chI, x_chF, x_some, x_map, x_vL, x_vLO, x_frzV, x_frzN, x_frzO, x_pFld, x_pIx, x_pD, x_pLk, x_pAt, x_dataV, x_dataL, x_dataO, x_stepIV, x_stepIL, x_stepOV, x_stepOLf, x_tOpd, x_tOpdL, x_itL, x_itF, x_itT, x_atN, x_atM, x_ixN, x_oOp, x_oU, x_pOp, x_pU, x_oA, x_pA, x_paNil, x_paCons, x_looks0, x_looks, x_aNil, x_aCons, x_vNil, x_vCons, x_vStar, x_starO, x_oLst, x_vTup, x_pTup, x_add, x_addL, x_addT, x_addS, x_sub, x_band, x_bor, x_bxor, x_mul, x_fdiv, x_mod, x_pow, x_shl, x_shr, x_neg, x_lt, x_le, x_gt', x_ge, x_eqI, x_neI, x_eqS, x_neS, x_eqB, x_neB, x_is, x_isnot, x_ixT, x_ixL, x_ixF, x_ixS, x_lenL, x_lenT, x_lenF, x_lenS, x_abs, x_min, x_max, x_int, x_intB, x_list, x_tup, x_oSl, x_ipNo, x_ipSome, x_ipO, x_slT, x_slL, x_slF, x_slS, x_put, x_putO, x_putL, x_putAt, x_putAO, x_tput, x_app, x_appO, x_appO2, x_mv, x_mvO, x_for, x_iIt, x_iterL, x_iterT, x_iterF, x_iterS, x_rsOk, x_rsX, x_call, x_callO, x_take0, x_takeV, x_takeN, x_takeO, x_give0, x_giveV, x_giveN, x_finN, x_finR, x_finX, x_finI, x_fnOut, x_optRF, x_outs0, x_outsT, x_outsF, x_ok0, x_okT, x_okF, x_iEnM, x_mExt, x_extO, x_seqL, x_seqT, x_pop, x_popO, x_oM, x_strOut, x_count, x_starts, x_sumL, x_sortedL, x_join, x_lstZip, x_iZpM, x_isD_nn, x_isD_nb, x_isD_bn, x_isD_bb, x_isD_in, x_isD_ib, x_isD_sn, x_isD_sb, x_isD_ln, x_isD_lb, x_isD_tn, x_isD_tb, x_isi_n_int, x_isi_n_bool, x_isi_n_str, x_isi_n_list, x_isi_n_tuple, x_isi_b_int, x_isi_b_bool, x_isi_b_str, x_isi_b_list, x_isi_b_tuple, x_isi_i_int, x_isi_i_bool, x_isi_i_str, x_isi_i_list, x_isi_i_tuple, x_isi_s_int, x_isi_s_bool, x_isi_s_str, x_isi_s_list, x_isi_s_tuple, x_isi_l_int, x_isi_l_bool, x_isi_l_str, x_isi_l_list, x_isi_l_tuple, x_isi_t_int, x_isi_t_bool, x_isi_t_str, x_isi_t_list, x_isi_t_tuple, x_tru, x_truN, x_truB, x_truI, x_truL, x_truF, x_truT, x_truS, x_R1, x_r1K, x_R2, x_r2K, x_in62, x_lcM, x_lcGo, x_lcRes, x_okW0, x_okW, x_okC1, x_okC2, x_okC3, x_wipe0, x_wipe, x_rest0, x_rest, x_joinS, x_chain, x_chO, x_zipT_LL, x_zpL_LL, x_zipT_LT, x_zpL_LT, x_zipT_TL, x_zpL_TL, x_zipT_TT, x_zpL_TT, x_ext2, x_ext3, x_eqIL, x_eqIT, x_cut, x_callT, x_callTO, x_drop1, x_mk0, x_mkV, x_mkK, x_fldX, x_mMake, x_setA, x_boolB, x_boolI, x_stepFL, x_eqIR, x_eqBB, Int.cast_ofNat_Int, small_of, Bool.and_self, Bool.and_true, Bool.true_and, List.getElem?_cons_zero, List.getElem?_cons_succ, List.set_cons_zero, List.set_cons_succ, List.map_cons, List.map_nil, List.replicate_zero, List.replicate_succ, List.cons_append, List.nil_append, List.length_cons, List.length_nil, leafs_snoc, leafs_app, leafs_set, leafs_len, leafs_get, Bool.not_true, Bool.not_false, Bool.false_eq_true, if_true, if_false, ite_true, ite_false, decide_eq_true_eq, Bool.not_eq_true, Bool.not_eq_true', decide_eq_false_iff_not, Nat.zero_add, Option.map_some, Int.toNat_natCast, decide_true, decide_false, reduceIte, reduceCtorEq, Int.reduceToNat, Int.reduceNeg, Int.reduceAdd, Int.reduceSub, Int.reduceMul, Int.reduceLT, Int.reduceLE, Int.reducePow, Nat.reduceLT, Nat.reduceLeDiff, Nat.reduceAdd, Nat.reduceMul, Nat.reduceSub, Int.reduceMod, Int.reduceDiv, decide_eq_true_eq, Int.reduceEq, Nat.reduceEqDiff]
    intro d a b h ha hb
    unfold m_law_same
    rw [x_fn (by cases ha <;> cases hb <;> rfl)]
    cases d with
    | non => cases ha; cases hb; simp -implicitDefEqProofs (disch := walk_at "d") only [x_bnd, x_ret, x_opt, x_bind, x_bindX, x_bindS, x_bindI, x_out, x_outX, x_outS, x_outI, x_thenS, x_seq, x_nx, x_nbrk, x_ncnt, x_nret, x_nexc, x_nstuck, x_nI, x_nil, x_brk, x_cnt, x_drop, x_sret, x_retN, x_sif, x_iteSM, x_iteM, x_asg, x_optOut, x_gt, x_gNm, x_gTp, x_gCn, x_gNl, x_aug, x_augV, x_ipAdd, x_ipSub, x_ipXor, x_pC, x_vMC, x_oV, x_bV, x_vO, x_tst, x_unBl, x_tnot, x_tand, x_tor, x_vAnd, x_vOr, x_vNot, x_vIf, x_toD, x_toDL, x_shalL, x_shalV, x_nm, x_nmO, x_pNm, x_pNmO, x_lookV, x_lookN, x_lookL, x_lookD, x_lookO, x_lookP, x_node, x_atO, x_atP, x_at, x_atS, x_chI, x_chF, x_some, x_map, x_vL, x_vLO, x_frzV, x_frzN, x_frzO, x_pFld, x_pIx, x_pD, x_pLk, x_pAt, x_dataV, x_dataL, x_dataO, x_stepIV, x_stepIL, x_stepOV, x_stepOLf, x_tOpd, x_tOpdL, x_itL, x_itF, x_itT, x_atN, x_atM, x_ixN, x_oOp, x_oU, x_pOp, x_pU, x_oA, x_pA, x_paNil, x_paCons, x_looks0, x_looks, x_aNil, x_aCons, x_vNil, x_vCons, x_vStar, x_starO, x_oLst, x_vTup, x_pTup, x_add, x_addL, x_addT, x_addS, x_sub, x_band, x_bor, x_bxor, x_mul, x_fdiv, x_mod, x_pow, x_shl, x_shr, x_neg, x_lt, x_le, x_gt', x_ge, x_eqI, x_neI, x_eqS, x_neS, x_eqB, x_neB, x_is, x_isnot, x_ixT, x_ixL, x_ixF, x_ixS, x_lenL, x_lenT, x_lenF, x_lenS, x_abs, x_min, x_max, x_int, x_intB, x_list, x_tup, x_oSl, x_ipNo, x_ipSome, x_ipO, x_slT, x_slL, x_slF, x_slS, x_put, x_putO, x_putL, x_putAt, x_putAO, x_tput, x_app, x_appO, x_appO2, x_mv, x_mvO, x_for, x_iIt, x_iterL, x_iterT, x_iterF, x_iterS, x_rsOk, x_rsX, x_call, x_callO, x_take0, x_takeV, x_takeN, x_takeO, x_give0, x_giveV, x_giveN, x_finN, x_finR, x_finX, x_finI, x_fnOut, x_optRF, x_outs0, x_outsT, x_outsF, x_ok0, x_okT, x_okF, x_iEnM, x_mExt, x_extO, x_seqL, x_seqT, x_pop, x_popO, x_oM, x_strOut, x_count, x_starts, x_sumL, x_sortedL, x_join, x_lstZip, x_iZpM, x_isD_nn, x_isD_nb, x_isD_bn, x_isD_bb, x_isD_in, x_isD_ib, x_isD_sn, x_isD_sb, x_isD_ln, x_isD_lb, x_isD_tn, x_isD_tb, x_isi_n_int, x_isi_n_bool, x_isi_n_str, x_isi_n_list, x_isi_n_tuple, x_isi_b_int, x_isi_b_bool, x_isi_b_str, x_isi_b_list, x_isi_b_tuple, x_isi_i_int, x_isi_i_bool, x_isi_i_str, x_isi_i_list, x_isi_i_tuple, x_isi_s_int, x_isi_s_bool, x_isi_s_str, x_isi_s_list, x_isi_s_tuple, x_isi_l_int, x_isi_l_bool, x_isi_l_str, x_isi_l_list, x_isi_l_tuple, x_isi_t_int, x_isi_t_bool, x_isi_t_str, x_isi_t_list, x_isi_t_tuple, x_tru, x_truN, x_truB, x_truI, x_truL, x_truF, x_truT, x_truS, x_R1, x_r1K, x_R2, x_r2K, x_in62, x_lcM, x_lcGo, x_lcRes, x_okW0, x_okW, x_okC1, x_okC2, x_okC3, x_wipe0, x_wipe, x_rest0, x_rest, x_joinS, x_chain, x_chO, x_zipT_LL, x_zpL_LL, x_zipT_LT, x_zpL_LT, x_zipT_TL, x_zpL_TL, x_zipT_TT, x_zpL_TT, x_ext2, x_ext3, x_eqIL, x_eqIT, x_cut, x_callT, x_callTO, x_drop1, x_mk0, x_mkV, x_mkK, x_fldX, x_mMake, x_setA, x_boolB, x_boolI, x_stepFL, x_eqIR, x_eqBB, Int.cast_ofNat_Int, small_of, Bool.and_self, Bool.and_true, Bool.true_and, List.getElem?_cons_zero, List.getElem?_cons_succ, List.set_cons_zero, List.set_cons_succ, List.map_cons, List.map_nil, List.replicate_zero, List.replicate_succ, List.cons_append, List.nil_append, List.length_cons, List.length_nil, leafs_snoc, leafs_app, leafs_set, leafs_len, leafs_get, Bool.not_true, Bool.not_false, Bool.false_eq_true, if_true, if_false, ite_true, ite_false, decide_eq_true_eq, Bool.not_eq_true, Bool.not_eq_true', decide_eq_false_iff_not, Nat.zero_add, Option.map_some, Int.toNat_natCast, decide_true, decide_false, reduceIte, reduceCtorEq, Int.reduceToNat, Int.reduceNeg, Int.reduceAdd, Int.reduceSub, Int.reduceMul, Int.reduceLT, Int.reduceLE, Int.reducePow, Nat.reduceLT, Nat.reduceLeDiff, Nat.reduceAdd, Nat.reduceMul, Nat.reduceSub, Int.reduceMod, Int.reduceDiv, decide_eq_true_eq, Int.reduceEq, Nat.reduceEqDiff]
    | bl v => cases ha; cases hb; cases v <;> simp -implicitDefEqProofs (disch := walk_at "d") only [x_bnd, x_ret, x_opt, x_bind, x_bindX, x_bindS, x_bindI, x_out, x_outX, x_outS, x_outI, x_thenS, x_seq, x_nx, x_nbrk, x_ncnt, x_nret, x_nexc, x_nstuck, x_nI, x_nil, x_brk, x_cnt, x_drop, x_sret, x_retN, x_sif, x_iteSM, x_iteM, x_asg, x_optOut, x_gt, x_gNm, x_gTp, x_gCn, x_gNl, x_aug, x_augV, x_ipAdd, x_ipSub, x_ipXor, x_pC, x_vMC, x_oV, x_bV, x_vO, x_tst, x_unBl, x_tnot, x_tand, x_tor, x_vAnd, x_vOr, x_vNot, x_vIf, x_toD, x_toDL, x_shalL, x_shalV, x_nm, x_nmO, x_pNm, x_pNmO, x_lookV, x_lookN, x_lookL, x_lookD, x_lookO, x_lookP, x_node, x_atO, x_atP, x_at, x_atS, x_chI, x_chF, x_some, x_map, x_vL, x_vLO, x_frzV, x_frzN, x_frzO, x_pFld, x_pIx, x_pD, x_pLk, x_pAt, x_dataV, x_dataL, x_dataO, x_stepIV, x_stepIL, x_stepOV, x_stepOLf, x_tOpd, x_tOpdL, x_itL, x_itF, x_itT, x_atN, x_atM, x_ixN, x_oOp, x_oU, x_pOp, x_pU, x_oA, x_pA, x_paNil, x_paCons, x_looks0, x_looks, x_aNil, x_aCons, x_vNil, x_vCons, x_vStar, x_starO, x_oLst, x_vTup, x_pTup, x_add, x_addL, x_addT, x_addS, x_sub, x_band, x_bor, x_bxor, x_mul, x_fdiv, x_mod, x_pow, x_shl, x_shr, x_neg, x_lt, x_le, x_gt', x_ge, x_eqI, x_neI, x_eqS, x_neS, x_eqB, x_neB, x_is, x_isnot, x_ixT, x_ixL, x_ixF, x_ixS, x_lenL, x_lenT, x_lenF, x_lenS, x_abs, x_min, x_max, x_int, x_intB, x_list, x_tup, x_oSl, x_ipNo, x_ipSome, x_ipO, x_slT, x_slL, x_slF, x_slS, x_put, x_putO, x_putL, x_putAt, x_putAO, x_tput, x_app, x_appO, x_appO2, x_mv, x_mvO, x_for, x_iIt, x_iterL, x_iterT, x_iterF, x_iterS, x_rsOk, x_rsX, x_call, x_callO, x_take0, x_takeV, x_takeN, x_takeO, x_give0, x_giveV, x_giveN, x_finN, x_finR, x_finX, x_finI, x_fnOut, x_optRF, x_outs0, x_outsT, x_outsF, x_ok0, x_okT, x_okF, x_iEnM, x_mExt, x_extO, x_seqL, x_seqT, x_pop, x_popO, x_oM, x_strOut, x_count, x_starts, x_sumL, x_sortedL, x_join, x_lstZip, x_iZpM, x_isD_nn, x_isD_nb, x_isD_bn, x_isD_bb, x_isD_in, x_isD_ib, x_isD_sn, x_isD_sb, x_isD_ln, x_isD_lb, x_isD_tn, x_isD_tb, x_isi_n_int, x_isi_n_bool, x_isi_n_str, x_isi_n_list, x_isi_n_tuple, x_isi_b_int, x_isi_b_bool, x_isi_b_str, x_isi_b_list, x_isi_b_tuple, x_isi_i_int, x_isi_i_bool, x_isi_i_str, x_isi_i_list, x_isi_i_tuple, x_isi_s_int, x_isi_s_bool, x_isi_s_str, x_isi_s_list, x_isi_s_tuple, x_isi_l_int, x_isi_l_bool, x_isi_l_str, x_isi_l_list, x_isi_l_tuple, x_isi_t_int, x_isi_t_bool, x_isi_t_str, x_isi_t_list, x_isi_t_tuple, x_tru, x_truN, x_truB, x_truI, x_truL, x_truF, x_truT, x_truS, x_R1, x_r1K, x_R2, x_r2K, x_in62, x_lcM, x_lcGo, x_lcRes, x_okW0, x_okW, x_okC1, x_okC2, x_okC3, x_wipe0, x_wipe, x_rest0, x_rest, x_joinS, x_chain, x_chO, x_zipT_LL, x_zpL_LL, x_zipT_LT, x_zpL_LT, x_zipT_TL, x_zpL_TL, x_zipT_TT, x_zpL_TT, x_ext2, x_ext3, x_eqIL, x_eqIT, x_cut, x_callT, x_callTO, x_drop1, x_mk0, x_mkV, x_mkK, x_fldX, x_mMake, x_setA, x_boolB, x_boolI, x_stepFL, x_eqIR, x_eqBB, Int.cast_ofNat_Int, small_of, Bool.and_self, Bool.and_true, Bool.true_and, List.getElem?_cons_zero, List.getElem?_cons_succ, List.set_cons_zero, List.set_cons_succ, List.map_cons, List.map_nil, List.replicate_zero, List.replicate_succ, List.cons_append, List.nil_append, List.length_cons, List.length_nil, leafs_snoc, leafs_app, leafs_set, leafs_len, leafs_get, Bool.not_true, Bool.not_false, Bool.false_eq_true, if_true, if_false, ite_true, ite_false, decide_eq_true_eq, Bool.not_eq_true, Bool.not_eq_true', decide_eq_false_iff_not, Nat.zero_add, Option.map_some, Int.toNat_natCast, decide_true, decide_false, reduceIte, reduceCtorEq, Int.reduceToNat, Int.reduceNeg, Int.reduceAdd, Int.reduceSub, Int.reduceMul, Int.reduceLT, Int.reduceLE, Int.reducePow, Nat.reduceLT, Nat.reduceLeDiff, Nat.reduceAdd, Nat.reduceMul, Nat.reduceSub, Int.reduceMod, Int.reduceDiv, decide_eq_true_eq, Int.reduceEq, Nat.reduceEqDiff]
    | int i =>
      have hI : m_law_int [.val (.int i)] = .ok (.val (.bl true)) [.val (.int i)] := by
        unfold m_law_int
        rw [x_fn rfl]
        simp -implicitDefEqProofs (disch := walk_at "d") only [x_bnd, x_ret, x_opt, x_bind, x_bindX, x_bindS, x_bindI, x_out, x_outX, x_outS, x_outI, x_thenS, x_seq, x_nx, x_nbrk, x_ncnt, x_nret, x_nexc, x_nstuck, x_nI, x_nil, x_brk, x_cnt, x_drop, x_sret, x_retN, x_sif, x_iteSM, x_iteM, x_asg, x_optOut, x_gt, x_gNm, x_gTp, x_gCn, x_gNl, x_aug, x_augV, x_ipAdd, x_ipSub, x_ipXor, x_pC, x_vMC, x_oV, x_bV, x_vO, x_tst, x_unBl, x_tnot, x_tand, x_tor, x_vAnd, x_vOr, x_vNot, x_vIf, x_toD, x_toDL, x_shalL, x_shalV, x_nm, x_nmO, x_pNm, x_pNmO, x_lookV, x_lookN, x_lookL, x_lookD, x_lookO, x_lookP, x_node, x_atO, x_atP, x_at, x_atS, x_chI, x_chF, x_some, x_map, x_vL, x_vLO, x_frzV, x_frzN, x_frzO, x_pFld, x_pIx, x_pD, x_pLk, x_pAt, x_dataV, x_dataL, x_dataO, x_stepIV, x_stepIL, x_stepOV, x_stepOLf, x_tOpd, x_tOpdL, x_itL, x_itF, x_itT, x_atN, x_atM, x_ixN, x_oOp, x_oU, x_pOp, x_pU, x_oA, x_pA, x_paNil, x_paCons, x_looks0, x_looks, x_aNil, x_aCons, x_vNil, x_vCons, x_vStar, x_starO, x_oLst, x_vTup, x_pTup, x_add, x_addL, x_addT, x_addS, x_sub, x_band, x_bor, x_bxor, x_mul, x_fdiv, x_mod, x_pow, x_shl, x_shr, x_neg, x_lt, x_le, x_gt', x_ge, x_eqI, x_neI, x_eqS, x_neS, x_eqB, x_neB, x_is, x_isnot, x_ixT, x_ixL, x_ixF, x_ixS, x_lenL, x_lenT, x_lenF, x_lenS, x_abs, x_min, x_max, x_int, x_intB, x_list, x_tup, x_oSl, x_ipNo, x_ipSome, x_ipO, x_slT, x_slL, x_slF, x_slS, x_put, x_putO, x_putL, x_putAt, x_putAO, x_tput, x_app, x_appO, x_appO2, x_mv, x_mvO, x_for, x_iIt, x_iterL, x_iterT, x_iterF, x_iterS, x_rsOk, x_rsX, x_call, x_callO, x_take0, x_takeV, x_takeN, x_takeO, x_give0, x_giveV, x_giveN, x_finN, x_finR, x_finX, x_finI, x_fnOut, x_optRF, x_outs0, x_outsT, x_outsF, x_ok0, x_okT, x_okF, x_iEnM, x_mExt, x_extO, x_seqL, x_seqT, x_pop, x_popO, x_oM, x_strOut, x_count, x_starts, x_sumL, x_sortedL, x_join, x_lstZip, x_iZpM, x_isD_nn, x_isD_nb, x_isD_bn, x_isD_bb, x_isD_in, x_isD_ib, x_isD_sn, x_isD_sb, x_isD_ln, x_isD_lb, x_isD_tn, x_isD_tb, x_isi_n_int, x_isi_n_bool, x_isi_n_str, x_isi_n_list, x_isi_n_tuple, x_isi_b_int, x_isi_b_bool, x_isi_b_str, x_isi_b_list, x_isi_b_tuple, x_isi_i_int, x_isi_i_bool, x_isi_i_str, x_isi_i_list, x_isi_i_tuple, x_isi_s_int, x_isi_s_bool, x_isi_s_str, x_isi_s_list, x_isi_s_tuple, x_isi_l_int, x_isi_l_bool, x_isi_l_str, x_isi_l_list, x_isi_l_tuple, x_isi_t_int, x_isi_t_bool, x_isi_t_str, x_isi_t_list, x_isi_t_tuple, x_tru, x_truN, x_truB, x_truI, x_truL, x_truF, x_truT, x_truS, x_R1, x_r1K, x_R2, x_r2K, x_in62, x_lcM, x_lcGo, x_lcRes, x_okW0, x_okW, x_okC1, x_okC2, x_okC3, x_wipe0, x_wipe, x_rest0, x_rest, x_joinS, x_chain, x_chO, x_zipT_LL, x_zpL_LL, x_zipT_LT, x_zpL_LT, x_zipT_TL, x_zpL_TL, x_zipT_TT, x_zpL_TT, x_ext2, x_ext3, x_eqIL, x_eqIT, x_cut, x_callT, x_callTO, x_drop1, x_mk0, x_mkV, x_mkK, x_fldX, x_mMake, x_setA, x_boolB, x_boolI, x_stepFL, x_eqIR, x_eqBB, Int.cast_ofNat_Int, small_of, Bool.and_self, Bool.and_true, Bool.true_and, List.getElem?_cons_zero, List.getElem?_cons_succ, List.set_cons_zero, List.set_cons_succ, List.map_cons, List.map_nil, List.replicate_zero, List.replicate_succ, List.cons_append, List.nil_append, List.length_cons, List.length_nil, leafs_snoc, leafs_app, leafs_set, leafs_len, leafs_get, Bool.not_true, Bool.not_false, Bool.false_eq_true, if_true, if_false, ite_true, ite_false, decide_eq_true_eq, Bool.not_eq_true, Bool.not_eq_true', decide_eq_false_iff_not, Nat.zero_add, Option.map_some, Int.toNat_natCast, decide_true, decide_false, reduceIte, reduceCtorEq, Int.reduceToNat, Int.reduceNeg, Int.reduceAdd, Int.reduceSub, Int.reduceMul, Int.reduceLT, Int.reduceLE, Int.reducePow, Nat.reduceLT, Nat.reduceLeDiff, Nat.reduceAdd, Nat.reduceMul, Nat.reduceSub, Int.reduceMod, Int.reduceDiv, decide_eq_true_eq, Int.reduceEq, Nat.reduceEqDiff]
      cases ha; cases hb
      simp -implicitDefEqProofs (disch := walk_at "d") only [hI, x_bnd, x_ret, x_opt, x_bind, x_bindX, x_bindS, x_bindI, x_out, x_outX, x_outS, x_outI, x_thenS, x_seq, x_nx, x_nbrk, x_ncnt, x_nret, x_nexc, x_nstuck, x_nI, x_nil, x_brk, x_cnt, x_drop, x_sret, x_retN, x_sif, x_iteSM, x_iteM, x_asg, x_optOut, x_gt, x_gNm, x_gTp, x_gCn, x_gNl, x_aug, x_augV, x_ipAdd, x_ipSub, x_ipXor, x_pC, x_vMC, x_oV, x_bV, x_vO, x_tst, x_unBl, x_tnot, x_tand, x_tor, x_vAnd, x_vOr, x_vNot, x_vIf, x_toD, x_toDL, x_shalL, x_shalV, x_nm, x_nmO, x_pNm, x_pNmO, x_lookV, x_lookN, x_lookL, x_lookD, x_lookO, x_lookP, x_node, x_atO, x_atP, x_at, x_atS, x_chI, x_chF, x_some, x_map, x_vL, x_vLO, x_frzV, x_frzN, x_frzO, x_pFld, x_pIx, x_pD, x_pLk, x_pAt, x_dataV, x_dataL, x_dataO, x_stepIV, x_stepIL, x_stepOV, x_stepOLf, x_tOpd, x_tOpdL, x_itL, x_itF, x_itT, x_atN, x_atM, x_ixN, x_oOp, x_oU, x_pOp, x_pU, x_oA, x_pA, x_paNil, x_paCons, x_looks0, x_looks, x_aNil, x_aCons, x_vNil, x_vCons, x_vStar, x_starO, x_oLst, x_vTup, x_pTup, x_add, x_addL, x_addT, x_addS, x_sub, x_band, x_bor, x_bxor, x_mul, x_fdiv, x_mod, x_pow, x_shl, x_shr, x_neg, x_lt, x_le, x_gt', x_ge, x_eqI, x_neI, x_eqS, x_neS, x_eqB, x_neB, x_is, x_isnot, x_ixT, x_ixL, x_ixF, x_ixS, x_lenL, x_lenT, x_lenF, x_lenS, x_abs, x_min, x_max, x_int, x_intB, x_list, x_tup, x_oSl, x_ipNo, x_ipSome, x_ipO, x_slT, x_slL, x_slF, x_slS, x_put, x_putO, x_putL, x_putAt, x_putAO, x_tput, x_app, x_appO, x_appO2, x_mv, x_mvO, x_for, x_iIt, x_iterL, x_iterT, x_iterF, x_iterS, x_rsOk, x_rsX, x_call, x_callO, x_take0, x_takeV, x_takeN, x_takeO, x_give0, x_giveV, x_giveN, x_finN, x_finR, x_finX, x_finI, x_fnOut, x_optRF, x_outs0, x_outsT, x_outsF, x_ok0, x_okT, x_okF, x_iEnM, x_mExt, x_extO, x_seqL, x_seqT, x_pop, x_popO, x_oM, x_strOut, x_count, x_starts, x_sumL, x_sortedL, x_join, x_lstZip, x_iZpM, x_isD_nn, x_isD_nb, x_isD_bn, x_isD_bb, x_isD_in, x_isD_ib, x_isD_sn, x_isD_sb, x_isD_ln, x_isD_lb, x_isD_tn, x_isD_tb, x_isi_n_int, x_isi_n_bool, x_isi_n_str, x_isi_n_list, x_isi_n_tuple, x_isi_b_int, x_isi_b_bool, x_isi_b_str, x_isi_b_list, x_isi_b_tuple, x_isi_i_int, x_isi_i_bool, x_isi_i_str, x_isi_i_list, x_isi_i_tuple, x_isi_s_int, x_isi_s_bool, x_isi_s_str, x_isi_s_list, x_isi_s_tuple, x_isi_l_int, x_isi_l_bool, x_isi_l_str, x_isi_l_list, x_isi_l_tuple, x_isi_t_int, x_isi_t_bool, x_isi_t_str, x_isi_t_list, x_isi_t_tuple, x_tru, x_truN, x_truB, x_truI, x_truL, x_truF, x_truT, x_truS, x_R1, x_r1K, x_R2, x_r2K, x_in62, x_lcM, x_lcGo, x_lcRes, x_okW0, x_okW, x_okC1, x_okC2, x_okC3, x_wipe0, x_wipe, x_rest0, x_rest, x_joinS, x_chain, x_chO, x_zipT_LL, x_zpL_LL, x_zipT_LT, x_zpL_LT, x_zipT_TL, x_zpL_TL, x_zipT_TT, x_zpL_TT, x_ext2, x_ext3, x_eqIL, x_eqIT, x_cut, x_callT, x_callTO, x_drop1, x_mk0, x_mkV, x_mkK, x_fldX, x_mMake, x_setA, x_boolB, x_boolI, x_stepFL, x_eqIR, x_eqBB, Int.cast_ofNat_Int, small_of, Bool.and_self, Bool.and_true, Bool.true_and, List.getElem?_cons_zero, List.getElem?_cons_succ, List.set_cons_zero, List.set_cons_succ, List.map_cons, List.map_nil, List.replicate_zero, List.replicate_succ, List.cons_append, List.nil_append, List.length_cons, List.length_nil, leafs_snoc, leafs_app, leafs_set, leafs_len, leafs_get, Bool.not_true, Bool.not_false, Bool.false_eq_true, if_true, if_false, ite_true, ite_false, decide_eq_true_eq, Bool.not_eq_true, Bool.not_eq_true', decide_eq_false_iff_not, Nat.zero_add, Option.map_some, Int.toNat_natCast, decide_true, decide_false, reduceIte, reduceCtorEq, Int.reduceToNat, Int.reduceNeg, Int.reduceAdd, Int.reduceSub, Int.reduceMul, Int.reduceLT, Int.reduceLE, Int.reducePow, Nat.reduceLT, Nat.reduceLeDiff, Nat.reduceAdd, Nat.reduceMul, Nat.reduceSub, Int.reduceMod, Int.reduceDiv, decide_eq_true_eq, Int.reduceEq, Nat.reduceEqDiff]
    | str z => cases ha; cases hb; simp -implicitDefEqProofs (disch := walk_at "d") only [x_bnd, x_ret, x_opt, x_bind, x_bindX, x_bindS, x_bindI, x_out, x_outX, x_outS, x_outI, x_thenS, x_seq, x_nx, x_nbrk, x_ncnt, x_nret, x_nexc, x_nstuck, x_nI, x_nil, x_brk, x_cnt, x_drop, x_sret, x_retN, x_sif, x_iteSM, x_iteM, x_asg, x_optOut, x_gt, x_gNm, x_gTp, x_gCn, x_gNl, x_aug, x_augV, x_ipAdd, x_ipSub, x_ipXor, x_pC, x_vMC, x_oV, x_bV, x_vO, x_tst, x_unBl, x_tnot, x_tand, x_tor, x_vAnd, x_vOr, x_vNot, x_vIf, x_toD, x_toDL, x_shalL, x_shalV, x_nm, x_nmO, x_pNm, x_pNmO, x_lookV, x_lookN, x_lookL, x_lookD, x_lookO, x_lookP, x_node, x_atO, x_atP, x_at, x_atS, x_chI, x_chF, x_some, x_map, x_vL, x_vLO, x_frzV, x_frzN, x_frzO, x_pFld, x_pIx, x_pD, x_pLk, x_pAt, x_dataV, x_dataL, x_dataO, x_stepIV, x_stepIL, x_stepOV, x_stepOLf, x_tOpd, x_tOpdL, x_itL, x_itF, x_itT, x_atN, x_atM, x_ixN, x_oOp, x_oU, x_pOp, x_pU, x_oA, x_pA, x_paNil, x_paCons, x_looks0, x_looks, x_aNil, x_aCons, x_vNil, x_vCons, x_vStar, x_starO, x_oLst, x_vTup, x_pTup, x_add, x_addL, x_addT, x_addS, x_sub, x_band, x_bor, x_bxor, x_mul, x_fdiv, x_mod, x_pow, x_shl, x_shr, x_neg, x_lt, x_le, x_gt', x_ge, x_eqI, x_neI, x_eqS, x_neS, x_eqB, x_neB, x_is, x_isnot, x_ixT, x_ixL, x_ixF, x_ixS, x_lenL, x_lenT, x_lenF, x_lenS, x_abs, x_min, x_max, x_int, x_intB, x_list, x_tup, x_oSl, x_ipNo, x_ipSome, x_ipO, x_slT, x_slL, x_slF, x_slS, x_put, x_putO, x_putL, x_putAt, x_putAO, x_tput, x_app, x_appO, x_appO2, x_mv, x_mvO, x_for, x_iIt, x_iterL, x_iterT, x_iterF, x_iterS, x_rsOk, x_rsX, x_call, x_callO, x_take0, x_takeV, x_takeN, x_takeO, x_give0, x_giveV, x_giveN, x_finN, x_finR, x_finX, x_finI, x_fnOut, x_optRF, x_outs0, x_outsT, x_outsF, x_ok0, x_okT, x_okF, x_iEnM, x_mExt, x_extO, x_seqL, x_seqT, x_pop, x_popO, x_oM, x_strOut, x_count, x_starts, x_sumL, x_sortedL, x_join, x_lstZip, x_iZpM, x_isD_nn, x_isD_nb, x_isD_bn, x_isD_bb, x_isD_in, x_isD_ib, x_isD_sn, x_isD_sb, x_isD_ln, x_isD_lb, x_isD_tn, x_isD_tb, x_isi_n_int, x_isi_n_bool, x_isi_n_str, x_isi_n_list, x_isi_n_tuple, x_isi_b_int, x_isi_b_bool, x_isi_b_str, x_isi_b_list, x_isi_b_tuple, x_isi_i_int, x_isi_i_bool, x_isi_i_str, x_isi_i_list, x_isi_i_tuple, x_isi_s_int, x_isi_s_bool, x_isi_s_str, x_isi_s_list, x_isi_s_tuple, x_isi_l_int, x_isi_l_bool, x_isi_l_str, x_isi_l_list, x_isi_l_tuple, x_isi_t_int, x_isi_t_bool, x_isi_t_str, x_isi_t_list, x_isi_t_tuple, x_tru, x_truN, x_truB, x_truI, x_truL, x_truF, x_truT, x_truS, x_R1, x_r1K, x_R2, x_r2K, x_in62, x_lcM, x_lcGo, x_lcRes, x_okW0, x_okW, x_okC1, x_okC2, x_okC3, x_wipe0, x_wipe, x_rest0, x_rest, x_joinS, x_chain, x_chO, x_zipT_LL, x_zpL_LL, x_zipT_LT, x_zpL_LT, x_zipT_TL, x_zpL_TL, x_zipT_TT, x_zpL_TT, x_ext2, x_ext3, x_eqIL, x_eqIT, x_cut, x_callT, x_callTO, x_drop1, x_mk0, x_mkV, x_mkK, x_fldX, x_mMake, x_setA, x_boolB, x_boolI, x_stepFL, x_eqIR, x_eqBB, Int.cast_ofNat_Int, small_of, Bool.and_self, Bool.and_true, Bool.true_and, List.getElem?_cons_zero, List.getElem?_cons_succ, List.set_cons_zero, List.set_cons_succ, List.map_cons, List.map_nil, List.replicate_zero, List.replicate_succ, List.cons_append, List.nil_append, List.length_cons, List.length_nil, leafs_snoc, leafs_app, leafs_set, leafs_len, leafs_get, Bool.not_true, Bool.not_false, Bool.false_eq_true, if_true, if_false, ite_true, ite_false, decide_eq_true_eq, Bool.not_eq_true, Bool.not_eq_true', decide_eq_false_iff_not, Nat.zero_add, Option.map_some, Int.toNat_natCast, decide_true, decide_false, reduceIte, reduceCtorEq, Int.reduceToNat, Int.reduceNeg, Int.reduceAdd, Int.reduceSub, Int.reduceMul, Int.reduceLT, Int.reduceLE, Int.reducePow, Nat.reduceLT, Nat.reduceLeDiff, Nat.reduceAdd, Nat.reduceMul, Nat.reduceSub, Int.reduceMod, Int.reduceDiv, decide_eq_true_eq, Int.reduceEq, Nat.reduceEqDiff]
    | tup ds =>
      cases ha; cases hb
      have h : (ds.all (sameOk n) && decide (ds.length ≤ 16777216)) = true := h
      rw [Bool.and_eq_true] at h
      have hz : ds.length ≤ 16777216 := of_decide_eq_true h.2
      obtain ⟨c, hc⟩ := seq ds (.val (.tup ds)) (.val (.tup ds)) 0 h.1 hz (by simp) (by simp)
      simp -implicitDefEqProofs (disch := walk_at "d") only [hc, x_bnd, x_ret, x_opt, x_bind, x_bindX, x_bindS, x_bindI, x_out, x_outX, x_outS, x_outI, x_thenS, x_seq, x_nx, x_nbrk, x_ncnt, x_nret, x_nexc, x_nstuck, x_nI, x_nil, x_brk, x_cnt, x_drop, x_sret, x_retN, x_sif, x_iteSM, x_iteM, x_asg, x_optOut, x_gt, x_gNm, x_gTp, x_gCn, x_gNl, x_aug, x_augV, x_ipAdd, x_ipSub, x_ipXor, x_pC, x_vMC, x_oV, x_bV, x_vO, x_tst, x_unBl, x_tnot, x_tand, x_tor, x_vAnd, x_vOr, x_vNot, x_vIf, x_toD, x_toDL, x_shalL, x_shalV, x_nm, x_nmO, x_pNm, x_pNmO, x_lookV, x_lookN, x_lookL, x_lookD, x_lookO, x_lookP, x_node, x_atO, x_atP, x_at, x_atS, x_chI, x_chF, x_some, x_map, x_vL, x_vLO, x_frzV, x_frzN, x_frzO, x_pFld, x_pIx, x_pD, x_pLk, x_pAt, x_dataV, x_dataL, x_dataO, x_stepIV, x_stepIL, x_stepOV, x_stepOLf, x_tOpd, x_tOpdL, x_itL, x_itF, x_itT, x_atN, x_atM, x_ixN, x_oOp, x_oU, x_pOp, x_pU, x_oA, x_pA, x_paNil, x_paCons, x_looks0, x_looks, x_aNil, x_aCons, x_vNil, x_vCons, x_vStar, x_starO, x_oLst, x_vTup, x_pTup, x_add, x_addL, x_addT, x_addS, x_sub, x_band, x_bor, x_bxor, x_mul, x_fdiv, x_mod, x_pow, x_shl, x_shr, x_neg, x_lt, x_le, x_gt', x_ge, x_eqI, x_neI, x_eqS, x_neS, x_eqB, x_neB, x_is, x_isnot, x_ixT, x_ixL, x_ixF, x_ixS, x_lenL, x_lenT, x_lenF, x_lenS, x_abs, x_min, x_max, x_int, x_intB, x_list, x_tup, x_oSl, x_ipNo, x_ipSome, x_ipO, x_slT, x_slL, x_slF, x_slS, x_put, x_putO, x_putL, x_putAt, x_putAO, x_tput, x_app, x_appO, x_appO2, x_mv, x_mvO, x_for, x_iIt, x_iterL, x_iterT, x_iterF, x_iterS, x_rsOk, x_rsX, x_call, x_callO, x_take0, x_takeV, x_takeN, x_takeO, x_give0, x_giveV, x_giveN, x_finN, x_finR, x_finX, x_finI, x_fnOut, x_optRF, x_outs0, x_outsT, x_outsF, x_ok0, x_okT, x_okF, x_iEnM, x_mExt, x_extO, x_seqL, x_seqT, x_pop, x_popO, x_oM, x_strOut, x_count, x_starts, x_sumL, x_sortedL, x_join, x_lstZip, x_iZpM, x_isD_nn, x_isD_nb, x_isD_bn, x_isD_bb, x_isD_in, x_isD_ib, x_isD_sn, x_isD_sb, x_isD_ln, x_isD_lb, x_isD_tn, x_isD_tb, x_isi_n_int, x_isi_n_bool, x_isi_n_str, x_isi_n_list, x_isi_n_tuple, x_isi_b_int, x_isi_b_bool, x_isi_b_str, x_isi_b_list, x_isi_b_tuple, x_isi_i_int, x_isi_i_bool, x_isi_i_str, x_isi_i_list, x_isi_i_tuple, x_isi_s_int, x_isi_s_bool, x_isi_s_str, x_isi_s_list, x_isi_s_tuple, x_isi_l_int, x_isi_l_bool, x_isi_l_str, x_isi_l_list, x_isi_l_tuple, x_isi_t_int, x_isi_t_bool, x_isi_t_str, x_isi_t_list, x_isi_t_tuple, x_tru, x_truN, x_truB, x_truI, x_truL, x_truF, x_truT, x_truS, x_R1, x_r1K, x_R2, x_r2K, x_in62, x_lcM, x_lcGo, x_lcRes, x_okW0, x_okW, x_okC1, x_okC2, x_okC3, x_wipe0, x_wipe, x_rest0, x_rest, x_joinS, x_chain, x_chO, x_zipT_LL, x_zpL_LL, x_zipT_LT, x_zpL_LT, x_zipT_TL, x_zpL_TL, x_zipT_TT, x_zpL_TT, x_ext2, x_ext3, x_eqIL, x_eqIT, x_cut, x_callT, x_callTO, x_drop1, x_mk0, x_mkV, x_mkK, x_fldX, x_mMake, x_setA, x_boolB, x_boolI, x_stepFL, x_eqIR, x_eqBB, Int.cast_ofNat_Int, small_of, Bool.and_self, Bool.and_true, Bool.true_and, List.getElem?_cons_zero, List.getElem?_cons_succ, List.set_cons_zero, List.set_cons_succ, List.map_cons, List.map_nil, List.replicate_zero, List.replicate_succ, List.cons_append, List.nil_append, List.length_cons, List.length_nil, leafs_snoc, leafs_app, leafs_set, leafs_len, leafs_get, Bool.not_true, Bool.not_false, Bool.false_eq_true, if_true, if_false, ite_true, ite_false, decide_eq_true_eq, Bool.not_eq_true, Bool.not_eq_true', decide_eq_false_iff_not, Nat.zero_add, Option.map_some, Int.toNat_natCast, decide_true, decide_false, reduceIte, reduceCtorEq, Int.reduceToNat, Int.reduceNeg, Int.reduceAdd, Int.reduceSub, Int.reduceMul, Int.reduceLT, Int.reduceLE, Int.reducePow, Nat.reduceLT, Nat.reduceLeDiff, Nat.reduceAdd, Nat.reduceMul, Nat.reduceSub, Int.reduceMod, Int.reduceDiv, decide_eq_true_eq, Int.reduceEq, Nat.reduceEqDiff]
    | lst ds =>
      have h : (ds.all (sameOk n) && decide (ds.length ≤ 16777216)) = true := h
      rw [Bool.and_eq_true] at h
      have hz : ds.length ≤ 16777216 := of_decide_eq_true h.2
      obtain ⟨c, hc⟩ := seq ds a b 0 h.1 hz (by cases ha <;> simp) (by cases hb <;> simp)
      cases ha <;> cases hb <;> simp -implicitDefEqProofs (disch := walk_at "d") only [hc, x_bnd, x_ret, x_opt, x_bind, x_bindX, x_bindS, x_bindI, x_out, x_outX, x_outS, x_outI, x_thenS, x_seq, x_nx, x_nbrk, x_ncnt, x_nret, x_nexc, x_nstuck, x_nI, x_nil, x_brk, x_cnt, x_drop, x_sret, x_retN, x_sif, x_iteSM, x_iteM, x_asg, x_optOut, x_gt, x_gNm, x_gTp, x_gCn, x_gNl, x_aug, x_augV, x_ipAdd, x_ipSub, x_ipXor, x_pC, x_vMC, x_oV, x_bV, x_vO, x_tst, x_unBl, x_tnot, x_tand, x_tor, x_vAnd, x_vOr, x_vNot, x_vIf, x_toD, x_toDL, x_shalL, x_shalV, x_nm, x_nmO, x_pNm, x_pNmO, x_lookV, x_lookN, x_lookL, x_lookD, x_lookO, x_lookP, x_node, x_atO, x_atP, x_at, x_atS, x_chI, x_chF, x_some, x_map, x_vL, x_vLO, x_frzV, x_frzN, x_frzO, x_pFld, x_pIx, x_pD, x_pLk, x_pAt, x_dataV, x_dataL, x_dataO, x_stepIV, x_stepIL, x_stepOV, x_stepOLf, x_tOpd, x_tOpdL, x_itL, x_itF, x_itT, x_atN, x_atM, x_ixN, x_oOp, x_oU, x_pOp, x_pU, x_oA, x_pA, x_paNil, x_paCons, x_looks0, x_looks, x_aNil, x_aCons, x_vNil, x_vCons, x_vStar, x_starO, x_oLst, x_vTup, x_pTup, x_add, x_addL, x_addT, x_addS, x_sub, x_band, x_bor, x_bxor, x_mul, x_fdiv, x_mod, x_pow, x_shl, x_shr, x_neg, x_lt, x_le, x_gt', x_ge, x_eqI, x_neI, x_eqS, x_neS, x_eqB, x_neB, x_is, x_isnot, x_ixT, x_ixL, x_ixF, x_ixS, x_lenL, x_lenT, x_lenF, x_lenS, x_abs, x_min, x_max, x_int, x_intB, x_list, x_tup, x_oSl, x_ipNo, x_ipSome, x_ipO, x_slT, x_slL, x_slF, x_slS, x_put, x_putO, x_putL, x_putAt, x_putAO, x_tput, x_app, x_appO, x_appO2, x_mv, x_mvO, x_for, x_iIt, x_iterL, x_iterT, x_iterF, x_iterS, x_rsOk, x_rsX, x_call, x_callO, x_take0, x_takeV, x_takeN, x_takeO, x_give0, x_giveV, x_giveN, x_finN, x_finR, x_finX, x_finI, x_fnOut, x_optRF, x_outs0, x_outsT, x_outsF, x_ok0, x_okT, x_okF, x_iEnM, x_mExt, x_extO, x_seqL, x_seqT, x_pop, x_popO, x_oM, x_strOut, x_count, x_starts, x_sumL, x_sortedL, x_join, x_lstZip, x_iZpM, x_isD_nn, x_isD_nb, x_isD_bn, x_isD_bb, x_isD_in, x_isD_ib, x_isD_sn, x_isD_sb, x_isD_ln, x_isD_lb, x_isD_tn, x_isD_tb, x_isi_n_int, x_isi_n_bool, x_isi_n_str, x_isi_n_list, x_isi_n_tuple, x_isi_b_int, x_isi_b_bool, x_isi_b_str, x_isi_b_list, x_isi_b_tuple, x_isi_i_int, x_isi_i_bool, x_isi_i_str, x_isi_i_list, x_isi_i_tuple, x_isi_s_int, x_isi_s_bool, x_isi_s_str, x_isi_s_list, x_isi_s_tuple, x_isi_l_int, x_isi_l_bool, x_isi_l_str, x_isi_l_list, x_isi_l_tuple, x_isi_t_int, x_isi_t_bool, x_isi_t_str, x_isi_t_list, x_isi_t_tuple, x_tru, x_truN, x_truB, x_truI, x_truL, x_truF, x_truT, x_truS, x_R1, x_r1K, x_R2, x_r2K, x_in62, x_lcM, x_lcGo, x_lcRes, x_okW0, x_okW, x_okC1, x_okC2, x_okC3, x_wipe0, x_wipe, x_rest0, x_rest, x_joinS, x_chain, x_chO, x_zipT_LL, x_zpL_LL, x_zipT_LT, x_zpL_LT, x_zipT_TL, x_zpL_TL, x_zipT_TT, x_zpL_TT, x_ext2, x_ext3, x_eqIL, x_eqIT, x_cut, x_callT, x_callTO, x_drop1, x_mk0, x_mkV, x_mkK, x_fldX, x_mMake, x_setA, x_boolB, x_boolI, x_stepFL, x_eqIR, x_eqBB, Int.cast_ofNat_Int, small_of, Bool.and_self, Bool.and_true, Bool.true_and, List.getElem?_cons_zero, List.getElem?_cons_succ, List.set_cons_zero, List.set_cons_succ, List.map_cons, List.map_nil, List.replicate_zero, List.replicate_succ, List.cons_append, List.nil_append, List.length_cons, List.length_nil, leafs_snoc, leafs_app, leafs_set, leafs_len, leafs_get, Bool.not_true, Bool.not_false, Bool.false_eq_true, if_true, if_false, ite_true, ite_false, decide_eq_true_eq, Bool.not_eq_true, Bool.not_eq_true', decide_eq_false_iff_not, Nat.zero_add, Option.map_some, Int.toNat_natCast, decide_true, decide_false, reduceIte, reduceCtorEq, Int.reduceToNat, Int.reduceNeg, Int.reduceAdd, Int.reduceSub, Int.reduceMul, Int.reduceLT, Int.reduceLE, Int.reducePow, Nat.reduceLT, Nat.reduceLeDiff, Nat.reduceAdd, Nat.reduceMul, Nat.reduceSub, Int.reduceMod, Int.reduceDiv, decide_eq_true_eq, Int.reduceEq, Nat.reduceEqDiff]
    | _ => cases h

/-! ### pass words -/
def codeB (b : Bool) : Nat := if b then 97 else 100
/-- a word of a (true) and d (false) -/
def wS (l : List Bool) : Str := ⟨(l.map codeB).toArray⟩
theorem wS_list (l : List Bool) : (wS l).cps.toList = l.map codeB := by simp [wS]
theorem wS_len (l : List Bool) : (wS l).length = l.length := by
  show (l.map codeB).toArray.size = l.length
  simp
theorem cut_word (l : List Bool) (n : Nat) : cutS (wS l) (some (n : Int)) none = wS (l.drop n) := by
  unfold cutS
  rw [HT.sIx_none, HT.sIx_nat, wS_list, wS_len, List.take_of_length_le (by rw [List.length_drop, List.length_map]; omega)]
  unfold wS
  rw [List.map_drop]
  congr 2
  rcases Nat.le_total n l.length with h | h
  · rw [Nat.min_eq_left h]
  · rw [Nat.min_eq_right h, List.drop_of_length_le (by rw [List.length_map]; omega), List.drop_of_length_le (by rw [List.length_map]; omega)]
theorem count_word (l : List Bool) (b : Bool) : Txt.count (wS l) ⟨#[codeB b]⟩ = ((l.count b : Nat) : Int) := by
  rw [count_cnt, wS_list]
  induction l with
  | nil => rfl
  | cons a l ih =>
    rw [List.map_cons, cnt_cons, ih, List.count_cons]
    cases a <;> cases b <;> simp [codeB] <;> omega
theorem wS_snoc (l : List Bool) (b : Bool) : wS l ++ wS [b] = wS (l ++ [b]) := by
  unfold wS
  show Str.mk _ = _
  congr 1
  simp
theorem sign_dec (b : Bool) : decide ((⟨#[codeB b]⟩ : Str) = Str.ofString "a") = b := by cases b <;> decide
/-- the steps of the grid of pass n -/
def stepsN (l : List Bool) (n : Nat) (b : Bool) : Nat := 2 ^ ((l.drop n).count b)
theorem steps_lt {l : List Bool} {n : Nat} {b : Bool} (h : l.length ≤ 6) : 1 ≤ stepsN l n b ∧ stepsN l n b ≤ 64 := by
  unfold stepsN
  have h1 := List.count_le_length (a := b) (l := l.drop n)
  rw [List.length_drop] at h1
  exact ⟨Nat.pow_pos (by decide), Nat.pow_le_pow_right (n := 2) (by decide) (show (l.drop n).count b ≤ 6 by omega)⟩
theorem pow_toNat (n : Nat) : (1 : Int) * 2 ^ ((n : Nat) : Int).toNat = ((2 ^ n : Nat) : Int) := by
  rw [Int.one_mul, Int.toNat_natCast, Int.natCast_pow]
  rfl
def adS : Str := "ad"
theorem ad_len : adS.length = 2 := by kernel_rfl
theorem e_pickAd (x : Dr) : ∃ b, m_law_pick [drw x, .val (.str adS)] = .ok (.val (.str (wS [b]))) [drw (dn x 2), .val (.str adS)] := by
  have a1 := dv_lo (x := x) (m := 2) (by decide)
  have a2 := dv_hi (x := x) (m := 2) (by decide)
  have hdr := e_draw (x := x) (m := 2) (by decide) (by decide)
  have hab : adS.length ≤ 16777216 := by rw [ad_len]; decide
  have e2 : ((2 : Nat) : Int) = 2 := rfl
  have key : ∃ b, opIx (.str adS) (.int (dv x 2)) = some (.val (.str (wS [b]))) := by
    have h : dv x 2 = 0 ∨ dv x 2 = 1 := by omega
    rcases h with h | h <;> rw [h]
    · exact ⟨true, by kernel_rfl⟩
    · exact ⟨false, by kernel_rfl⟩
  obtain ⟨b, hb⟩ := key
  refine ⟨b, ?_⟩
  unfold m_law_pick
  rw [x_fn rfl]
  simp -implicitDefEqProofs (disch := walk_at "d") only [ad_len, e2, hdr, hb, x_bnd, x_ret, x_opt, x_bind, x_bindX, x_bindS, x_bindI, x_out, x_outX, x_outS, x_outI, x_thenS, x_seq, x_nx, x_nbrk, x_ncnt, x_nret, x_nexc, x_nstuck, x_nI, x_nil, x_brk, x_cnt, x_drop, x_sret, x_retN, x_sif, x_iteSM, x_iteM, x_asg, x_optOut, x_gt, x_gNm, x_gTp, x_gCn, x_gNl, x_aug, x_augV, x_ipAdd, x_ipSub, x_ipXor, x_pC, x_vMC, x_oV, x_bV, x_vO, x_tst, x_unBl, x_tnot, x_tand, x_tor, x_vAnd, x_vOr, x_vNot, x_vIf, x_toD, x_toDL, x_shalL, x_shalV, x_nm, x_nmO, x_pNm, x_pNmO, x_lookV, x_lookN, x_lookL, x_lookD, x_lookO, x_lookP, x_node, x_atO, x_atP, x_at, x_atS, x_chI, x_chF, x_some, x_map, x_vL, x_vLO, x_frzV, x_frzN, x_frzO, x_pFld, x_pIx, x_pD, x_pLk, x_pAt, x_dataV, x_dataL, x_dataO, x_stepIV, x_stepIL, x_stepOV, x_stepOLf, x_tOpd, x_tOpdL, x_itL, x_itF, x_itT, x_atN, x_atM, x_ixN, x_oOp, x_oU, x_pOp, x_pU, x_oA, x_pA, x_paNil, x_paCons, x_looks0, x_looks, x_aNil, x_aCons, x_vNil, x_vCons, x_vStar, x_starO, x_oLst, x_vTup, x_pTup, x_add, x_addL, x_addT, x_addS, x_sub, x_band, x_bor, x_bxor, x_mul, x_fdiv, x_mod, x_pow, x_shl, x_shr, x_neg, x_lt, x_le, x_gt', x_ge, x_eqI, x_neI, x_eqS, x_neS, x_eqB, x_neB, x_is, x_isnot, x_ixT, x_ixL, x_ixF, x_ixS, x_lenL, x_lenT, x_lenF, x_lenS, x_abs, x_min, x_max, x_int, x_intB, x_list, x_tup, x_oSl, x_ipNo, x_ipSome, x_ipO, x_slT, x_slL, x_slF, x_slS, x_put, x_putO, x_putL, x_putAt, x_putAO, x_tput, x_app, x_appO, x_appO2, x_mv, x_mvO, x_for, x_iIt, x_iterL, x_iterT, x_iterF, x_iterS, x_rsOk, x_rsX, x_call, x_callO, x_take0, x_takeV, x_takeN, x_takeO, x_give0, x_giveV, x_giveN, x_finN, x_finR, x_finX, x_finI, x_fnOut, x_optRF, x_outs0, x_outsT, x_outsF, x_ok0, x_okT, x_okF, x_iEnM, x_mExt, x_extO, x_seqL, x_seqT, x_pop, x_popO, x_oM, x_strOut, x_count, x_starts, x_sumL, x_sortedL, x_join, x_lstZip, x_iZpM, x_isD_nn, x_isD_nb, x_isD_bn, x_isD_bb, x_isD_in, x_isD_ib, x_isD_sn, x_isD_sb, x_isD_ln, x_isD_lb, x_isD_tn, x_isD_tb, x_isi_n_int, x_isi_n_bool, x_isi_n_str, x_isi_n_list, x_isi_n_tuple, x_isi_b_int, x_isi_b_bool, x_isi_b_str, x_isi_b_list, x_isi_b_tuple, x_isi_i_int, x_isi_i_bool, x_isi_i_str, x_isi_i_list, x_isi_i_tuple, x_isi_s_int, x_isi_s_bool, x_isi_s_str, x_isi_s_list, x_isi_s_tuple, x_isi_l_int, x_isi_l_bool, x_isi_l_str, x_isi_l_list, x_isi_l_tuple, x_isi_t_int, x_isi_t_bool, x_isi_t_str, x_isi_t_list, x_isi_t_tuple, x_tru, x_truN, x_truB, x_truI, x_truL, x_truF, x_truT, x_truS, x_R1, x_r1K, x_R2, x_r2K, x_in62, x_lcM, x_lcGo, x_lcRes, x_okW0, x_okW, x_okC1, x_okC2, x_okC3, x_wipe0, x_wipe, x_rest0, x_rest, x_joinS, x_chain, x_chO, x_zipT_LL, x_zpL_LL, x_zipT_LT, x_zpL_LT, x_zipT_TL, x_zpL_TL, x_zipT_TT, x_zpL_TT, x_ext2, x_ext3, x_eqIL, x_eqIT, x_cut, x_callT, x_callTO, x_drop1, x_mk0, x_mkV, x_mkK, x_fldX, x_mMake, x_setA, x_boolB, x_boolI, x_stepFL, x_eqIR, x_eqBB, Int.cast_ofNat_Int, small_of, Bool.and_self, Bool.and_true, Bool.true_and, List.getElem?_cons_zero, List.getElem?_cons_succ, List.set_cons_zero, List.set_cons_succ, List.map_cons, List.map_nil, List.replicate_zero, List.replicate_succ, List.cons_append, List.nil_append, List.length_cons, List.length_nil, leafs_snoc, leafs_app, leafs_set, leafs_len, leafs_get, Bool.not_true, Bool.not_false, Bool.false_eq_true, if_true, if_false, ite_true, ite_false, decide_eq_true_eq, Bool.not_eq_true, Bool.not_eq_true', decide_eq_false_iff_not, Nat.zero_add, Option.map_some, Int.toNat_natCast, decide_true, decide_false, reduceIte, reduceCtorEq, Int.reduceToNat, Int.reduceNeg, Int.reduceAdd, Int.reduceSub, Int.reduceMul, Int.reduceLT, Int.reduceLE, Int.reducePow, Nat.reduceLT, Nat.reduceLeDiff, Nat.reduceAdd, Nat.reduceMul, Nat.reduceSub, Int.reduceMod, Int.reduceDiv, decide_eq_true_eq, Int.reduceEq, Nat.reduceEqDiff]
theorem e_letters {x : Dr} (hx : x.Ok) : ∃ l y, m_law_letters [drw x, .val (.int 6)] = .ok (.val (.str (wS l))) [drw y, .val (.int 6)] ∧ l.length ≤ 6 ∧ y.Ok := by
  have a1 := dv_lo (x := x) (m := 7) (by decide)
  have a2 := dv_hi (x := x) (m := 7) (by decide)
  have h1 := dn_ok hx (m := 7) (by decide)
  obtain ⟨e', k1, l, y, c, k2, k3, k4⟩ := forM_inv (g := gNm 3) (body := l_law_letters_0) (fun k env => ∃ (l : List Bool) (y : Dr) (c : Option T), env = [some (drw y), some (.val (.int 6)), some (.val (.str (wS l))), c] ∧ l.length = k ∧ y.Ok) (rgD 0 (dv x 7).toNat) 0
      [some (drw (dn x 7)), some (.val (.int 6)), some (.val (.str (wS []))), none] ⟨[], _, none, rfl, rfl, h1⟩ fun k d env hd hp => by
    obtain ⟨l, y, c, rfl, b1, b2⟩ := hp
    obtain ⟨b, hb⟩ := e_pickAd y
    have hk : k < 7 := by
      have := (List.getElem?_eq_some_iff.mp hd).1
      unfold rgD at this
      simp at this
      omega
    refine ⟨_, [some (drw (dn y 2)), some (.val (.int 6)), some (.val (.str (wS (l ++ [b])))), some (.val d)], rfl, .inl ?_, l ++ [b], _, _, rfl, by simp [b1], dn_ok b2 (by decide)⟩
    have q1 : (wS l).length = l.length := wS_len l
    have q2 : (wS [b]).length = 1 := wS_len [b]
    have e : Str.ofString "ad" = adS := rfl
    unfold l_law_letters_0
    rw [e]
    simp -implicitDefEqProofs (disch := walk_at "d") only [hb, wS_snoc, x_bnd, x_ret, x_opt, x_bind, x_bindX, x_bindS, x_bindI, x_out, x_outX, x_outS, x_outI, x_thenS, x_seq, x_nx, x_nbrk, x_ncnt, x_nret, x_nexc, x_nstuck, x_nI, x_nil, x_brk, x_cnt, x_drop, x_sret, x_retN, x_sif, x_iteSM, x_iteM, x_asg, x_optOut, x_gt, x_gNm, x_gTp, x_gCn, x_gNl, x_aug, x_augV, x_ipAdd, x_ipSub, x_ipXor, x_pC, x_vMC, x_oV, x_bV, x_vO, x_tst, x_unBl, x_tnot, x_tand, x_tor, x_vAnd, x_vOr, x_vNot, x_vIf, x_toD, x_toDL, x_shalL, x_shalV, x_nm, x_nmO, x_pNm, x_pNmO, x_lookV, x_lookN, x_lookL, x_lookD, x_lookO, x_lookP, x_node, x_atO, x_atP, x_at, x_atS, x_chI, x_chF, x_some, x_map, x_vL, x_vLO, x_frzV, x_frzN, x_frzO, x_pFld, x_pIx, x_pD, x_pLk, x_pAt, x_dataV, x_dataL, x_dataO, x_stepIV, x_stepIL, x_stepOV, x_stepOLf, x_tOpd, x_tOpdL, x_itL, x_itF, x_itT, x_atN, x_atM, x_ixN, x_oOp, x_oU, x_pOp, x_pU, x_oA, x_pA, x_paNil, x_paCons, x_looks0, x_looks, x_aNil, x_aCons, x_vNil, x_vCons, x_vStar, x_starO, x_oLst, x_vTup, x_pTup, x_add, x_addL, x_addT, x_addS, x_sub, x_band, x_bor, x_bxor, x_mul, x_fdiv, x_mod, x_pow, x_shl, x_shr, x_neg, x_lt, x_le, x_gt', x_ge, x_eqI, x_neI, x_eqS, x_neS, x_eqB, x_neB, x_is, x_isnot, x_ixT, x_ixL, x_ixF, x_ixS, x_lenL, x_lenT, x_lenF, x_lenS, x_abs, x_min, x_max, x_int, x_intB, x_list, x_tup, x_oSl, x_ipNo, x_ipSome, x_ipO, x_slT, x_slL, x_slF, x_slS, x_put, x_putO, x_putL, x_putAt, x_putAO, x_tput, x_app, x_appO, x_appO2, x_mv, x_mvO, x_for, x_iIt, x_iterL, x_iterT, x_iterF, x_iterS, x_rsOk, x_rsX, x_call, x_callO, x_take0, x_takeV, x_takeN, x_takeO, x_give0, x_giveV, x_giveN, x_finN, x_finR, x_finX, x_finI, x_fnOut, x_optRF, x_outs0, x_outsT, x_outsF, x_ok0, x_okT, x_okF, x_iEnM, x_mExt, x_extO, x_seqL, x_seqT, x_pop, x_popO, x_oM, x_strOut, x_count, x_starts, x_sumL, x_sortedL, x_join, x_lstZip, x_iZpM, x_isD_nn, x_isD_nb, x_isD_bn, x_isD_bb, x_isD_in, x_isD_ib, x_isD_sn, x_isD_sb, x_isD_ln, x_isD_lb, x_isD_tn, x_isD_tb, x_isi_n_int, x_isi_n_bool, x_isi_n_str, x_isi_n_list, x_isi_n_tuple, x_isi_b_int, x_isi_b_bool, x_isi_b_str, x_isi_b_list, x_isi_b_tuple, x_isi_i_int, x_isi_i_bool, x_isi_i_str, x_isi_i_list, x_isi_i_tuple, x_isi_s_int, x_isi_s_bool, x_isi_s_str, x_isi_s_list, x_isi_s_tuple, x_isi_l_int, x_isi_l_bool, x_isi_l_str, x_isi_l_list, x_isi_l_tuple, x_isi_t_int, x_isi_t_bool, x_isi_t_str, x_isi_t_list, x_isi_t_tuple, x_tru, x_truN, x_truB, x_truI, x_truL, x_truF, x_truT, x_truS, x_R1, x_r1K, x_R2, x_r2K, x_in62, x_lcM, x_lcGo, x_lcRes, x_okW0, x_okW, x_okC1, x_okC2, x_okC3, x_wipe0, x_wipe, x_rest0, x_rest, x_joinS, x_chain, x_chO, x_zipT_LL, x_zpL_LL, x_zipT_LT, x_zpL_LT, x_zipT_TL, x_zpL_TL, x_zipT_TT, x_zpL_TT, x_ext2, x_ext3, x_eqIL, x_eqIT, x_cut, x_callT, x_callTO, x_drop1, x_mk0, x_mkV, x_mkK, x_fldX, x_mMake, x_setA, x_boolB, x_boolI, x_stepFL, x_eqIR, x_eqBB, Int.cast_ofNat_Int, small_of, Bool.and_self, Bool.and_true, Bool.true_and, List.getElem?_cons_zero, List.getElem?_cons_succ, List.set_cons_zero, List.set_cons_succ, List.map_cons, List.map_nil, List.replicate_zero, List.replicate_succ, List.cons_append, List.nil_append, List.length_cons, List.length_nil, leafs_snoc, leafs_app, leafs_set, leafs_len, leafs_get, Bool.not_true, Bool.not_false, Bool.false_eq_true, if_true, if_false, ite_true, ite_false, decide_eq_true_eq, Bool.not_eq_true, Bool.not_eq_true', decide_eq_false_iff_not, Nat.zero_add, Option.map_some, Int.toNat_natCast, decide_true, decide_false, reduceIte, reduceCtorEq, Int.reduceToNat, Int.reduceNeg, Int.reduceAdd, Int.reduceSub, Int.reduceMul, Int.reduceLT, Int.reduceLE, Int.reducePow, Nat.reduceLT, Nat.reduceLeDiff, Nat.reduceAdd, Nat.reduceMul, Nat.reduceSub, Int.reduceMod, Int.reduceDiv, decide_eq_true_eq, Int.reduceEq, Nat.reduceEqDiff]
  subst k2
  have e0 : Str.ofString "" = wS [] := rfl
  have i1 : in62 (dv x 7) = true := x_in62 (by omega) (by omega)
  have hr : (rgD 0 (dv x 7).toNat).length = (dv x 7).toNat := by unfold rgD; simp
  refine ⟨l, y, ?_, by omega, k4⟩
  unfold m_law_letters
  rw [x_fn rfl, e0]
  simp -implicitDefEqProofs (disch := walk_at "d") only [e_draw, i1, k1, x_bnd, x_ret, x_opt, x_bind, x_bindX, x_bindS, x_bindI, x_out, x_outX, x_outS, x_outI, x_thenS, x_seq, x_nx, x_nbrk, x_ncnt, x_nret, x_nexc, x_nstuck, x_nI, x_nil, x_brk, x_cnt, x_drop, x_sret, x_retN, x_sif, x_iteSM, x_iteM, x_asg, x_optOut, x_gt, x_gNm, x_gTp, x_gCn, x_gNl, x_aug, x_augV, x_ipAdd, x_ipSub, x_ipXor, x_pC, x_vMC, x_oV, x_bV, x_vO, x_tst, x_unBl, x_tnot, x_tand, x_tor, x_vAnd, x_vOr, x_vNot, x_vIf, x_toD, x_toDL, x_shalL, x_shalV, x_nm, x_nmO, x_pNm, x_pNmO, x_lookV, x_lookN, x_lookL, x_lookD, x_lookO, x_lookP, x_node, x_atO, x_atP, x_at, x_atS, x_chI, x_chF, x_some, x_map, x_vL, x_vLO, x_frzV, x_frzN, x_frzO, x_pFld, x_pIx, x_pD, x_pLk, x_pAt, x_dataV, x_dataL, x_dataO, x_stepIV, x_stepIL, x_stepOV, x_stepOLf, x_tOpd, x_tOpdL, x_itL, x_itF, x_itT, x_atN, x_atM, x_ixN, x_oOp, x_oU, x_pOp, x_pU, x_oA, x_pA, x_paNil, x_paCons, x_looks0, x_looks, x_aNil, x_aCons, x_vNil, x_vCons, x_vStar, x_starO, x_oLst, x_vTup, x_pTup, x_add, x_addL, x_addT, x_addS, x_sub, x_band, x_bor, x_bxor, x_mul, x_fdiv, x_mod, x_pow, x_shl, x_shr, x_neg, x_lt, x_le, x_gt', x_ge, x_eqI, x_neI, x_eqS, x_neS, x_eqB, x_neB, x_is, x_isnot, x_ixT, x_ixL, x_ixF, x_ixS, x_lenL, x_lenT, x_lenF, x_lenS, x_abs, x_min, x_max, x_int, x_intB, x_list, x_tup, x_oSl, x_ipNo, x_ipSome, x_ipO, x_slT, x_slL, x_slF, x_slS, x_put, x_putO, x_putL, x_putAt, x_putAO, x_tput, x_app, x_appO, x_appO2, x_mv, x_mvO, x_for, x_iIt, x_iterL, x_iterT, x_iterF, x_iterS, x_rsOk, x_rsX, x_call, x_callO, x_take0, x_takeV, x_takeN, x_takeO, x_give0, x_giveV, x_giveN, x_finN, x_finR, x_finX, x_finI, x_fnOut, x_optRF, x_outs0, x_outsT, x_outsF, x_ok0, x_okT, x_okF, x_iEnM, x_mExt, x_extO, x_seqL, x_seqT, x_pop, x_popO, x_oM, x_strOut, x_count, x_starts, x_sumL, x_sortedL, x_join, x_lstZip, x_iZpM, x_isD_nn, x_isD_nb, x_isD_bn, x_isD_bb, x_isD_in, x_isD_ib, x_isD_sn, x_isD_sb, x_isD_ln, x_isD_lb, x_isD_tn, x_isD_tb, x_isi_n_int, x_isi_n_bool, x_isi_n_str, x_isi_n_list, x_isi_n_tuple, x_isi_b_int, x_isi_b_bool, x_isi_b_str, x_isi_b_list, x_isi_b_tuple, x_isi_i_int, x_isi_i_bool, x_isi_i_str, x_isi_i_list, x_isi_i_tuple, x_isi_s_int, x_isi_s_bool, x_isi_s_str, x_isi_s_list, x_isi_s_tuple, x_isi_l_int, x_isi_l_bool, x_isi_l_str, x_isi_l_list, x_isi_l_tuple, x_isi_t_int, x_isi_t_bool, x_isi_t_str, x_isi_t_list, x_isi_t_tuple, x_tru, x_truN, x_truB, x_truI, x_truL, x_truF, x_truT, x_truS, x_R1, x_r1K, x_R2, x_r2K, x_in62, x_lcM, x_lcGo, x_lcRes, x_okW0, x_okW, x_okC1, x_okC2, x_okC3, x_wipe0, x_wipe, x_rest0, x_rest, x_joinS, x_chain, x_chO, x_zipT_LL, x_zpL_LL, x_zipT_LT, x_zpL_LT, x_zipT_TL, x_zpL_TL, x_zipT_TT, x_zpL_TT, x_ext2, x_ext3, x_eqIL, x_eqIT, x_cut, x_callT, x_callTO, x_drop1, x_mk0, x_mkV, x_mkK, x_fldX, x_mMake, x_setA, x_boolB, x_boolI, x_stepFL, x_eqIR, x_eqBB, Int.cast_ofNat_Int, small_of, Bool.and_self, Bool.and_true, Bool.true_and, List.getElem?_cons_zero, List.getElem?_cons_succ, List.set_cons_zero, List.set_cons_succ, List.map_cons, List.map_nil, List.replicate_zero, List.replicate_succ, List.cons_append, List.nil_append, List.length_cons, List.length_nil, leafs_snoc, leafs_app, leafs_set, leafs_len, leafs_get, Bool.not_true, Bool.not_false, Bool.false_eq_true, if_true, if_false, ite_true, ite_false, decide_eq_true_eq, Bool.not_eq_true, Bool.not_eq_true', decide_eq_false_iff_not, Nat.zero_add, Option.map_some, Int.toNat_natCast, decide_true, decide_false, reduceIte, reduceCtorEq, Int.reduceToNat, Int.reduceNeg, Int.reduceAdd, Int.reduceSub, Int.reduceMul, Int.reduceLT, Int.reduceLE, Int.reducePow, Nat.reduceLT, Nat.reduceLeDiff, Nat.reduceAdd, Nat.reduceMul, Nat.reduceSub, Int.reduceMod, Int.reduceDiv, decide_eq_true_eq, Int.reduceEq, Nat.reduceEqDiff]
/-- one sign behind the other -/
theorem signs_word (l : List Bool) : KM.signs (wS l) = l.map fun b => D.str ⟨#[codeB b]⟩ := by
  unfold KM.signs
  rw [wS_list, List.map_map]
  rfl
def stp1 (s : Int × Int × Option T) (d : D) : Int × Int × Option T := match d with
  | .str z => if z = Str.ofString "a" then (s.1 * 2, s.2.1, some (.val d)) else (s.1, s.2.1 * 2, some (.val d))
  | _ => s
theorem stp_fold : ∀ (r : List Bool) (a b : Int) (c : Option T), ((r.map fun b => D.str ⟨#[codeB b]⟩).foldl stp1 (a, b, c)).1 = a * ((2 ^ r.count true : Nat) : Int) ∧ ((r.map fun b => D.str ⟨#[codeB b]⟩).foldl stp1 (a, b, c)).2.1 = b * ((2 ^ r.count false : Nat) : Int)
  | [], a, b, c => by simp
  | x :: r, a, b, c => by
    have hs := sign_dec x
    rw [List.map_cons, List.foldl_cons]
    cases x with
    | true =>
      have : stp1 (a, b, c) (D.str ⟨#[codeB true]⟩) = (a * 2, b, some (.val (D.str ⟨#[codeB true]⟩))) := by
        unfold stp1
        rw [of_decide_eq_true hs]
        exact if_pos rfl
      rw [this]
      obtain ⟨h1, h2⟩ := stp_fold r (a * 2) b (some (.val (D.str ⟨#[codeB true]⟩)))
      rw [h1, h2]
      simp [Nat.pow_succ]
      rw [Int.mul_assoc, Int.mul_comm 2]
    | false =>
      have : stp1 (a, b, c) (D.str ⟨#[codeB false]⟩) = (a, b * 2, some (.val (D.str ⟨#[codeB false]⟩))) := by
        unfold stp1
        exact if_neg (of_decide_eq_false hs)
      rw [this]
      obtain ⟨h1, h2⟩ := stp_fold r a (b * 2) (some (.val (D.str ⟨#[codeB false]⟩)))
      rw [h1, h2]
      simp [Nat.pow_succ]
      rw [Int.mul_assoc, Int.mul_comm 2]
theorem e_lsteps {l : List Bool} {n : Nat} (hl : l.length ≤ 6) : m_law_steps [.val (.str (wS l)), .val (.int n)] = .ok (.val (.tup [.int (stepsN l n true), .int (stepsN l n false)])) [.val (.str (wS l)), .val (.int n)] := by
  have lp := forM_fold (g := gNm 4) (body := l_law_steps_0) (S := Int × Int × Option T) (fun s => [some (.val (.str (wS l))), some (.val (.int n)), some (.val (.int s.1)), some (.val (.int s.2.1)), s.2.2]) stp1 (KM.signs (wS (l.drop n))) (1, 1, none) fun s d hd => by
    rw [signs_word] at hd
    obtain ⟨b, _, rfl⟩ := List.mem_map.mp hd
    refine ⟨_, rfl, .inl ?_⟩
    have hs := sign_dec b
    unfold l_law_steps_0 stp1
    cases b with
    | true =>
      have h : (⟨#[codeB true]⟩ : Str) = Str.ofString "a" := of_decide_eq_true hs
      simp only [h, if_true]
      simp -implicitDefEqProofs (disch := walk_at "d") only [x_bnd, x_ret, x_opt, x_bind, x_bindX, x_bindS, x_bindI, x_out, x_outX, x_outS, x_outI, x_thenS, x_seq, x_nx, x_nbrk, x_ncnt, x_nret, x_nexc, x_nstuck, x_nI, x_nil, x_brk, x_cnt, x_drop, x_sret, x_retN, x_sif, x_iteSM, x_iteM, x_asg, x_optOut, x_gt, x_gNm, x_gTp, x_gCn, x_gNl, x_aug, x_augV, x_ipAdd, x_ipSub, x_ipXor, x_pC, x_vMC, x_oV, x_bV, x_vO, x_tst, x_unBl, x_tnot, x_tand, x_tor, x_vAnd, x_vOr, x_vNot, x_vIf, x_toD, x_toDL, x_shalL, x_shalV, x_nm, x_nmO, x_pNm, x_pNmO, x_lookV, x_lookN, x_lookL, x_lookD, x_lookO, x_lookP, x_node, x_atO, x_atP, x_at, x_atS, x_chI, x_chF, x_some, x_map, x_vL, x_vLO, x_frzV, x_frzN, x_frzO, x_pFld, x_pIx, x_pD, x_pLk, x_pAt, x_dataV, x_dataL, x_dataO, x_stepIV, x_stepIL, x_stepOV, x_stepOLf, x_tOpd, x_tOpdL, x_itL, x_itF, x_itT, x_atN, x_atM, x_ixN, x_oOp, x_oU, x_pOp, x_pU, x_oA, x_pA, x_paNil, x_paCons, x_looks0, x_looks, x_aNil, x_aCons, x_vNil, x_vCons, x_vStar, x_starO, x_oLst, x_vTup, x_pTup, x_add, x_addL, x_addT, x_addS, x_sub, x_band, x_bor, x_bxor, x_mul, x_fdiv, x_mod, x_pow, x_shl, x_shr, x_neg, x_lt, x_le, x_gt', x_ge, x_eqI, x_neI, x_eqS, x_neS, x_eqB, x_neB, x_is, x_isnot, x_ixT, x_ixL, x_ixF, x_ixS, x_lenL, x_lenT, x_lenF, x_lenS, x_abs, x_min, x_max, x_int, x_intB, x_list, x_tup, x_oSl, x_ipNo, x_ipSome, x_ipO, x_slT, x_slL, x_slF, x_slS, x_put, x_putO, x_putL, x_putAt, x_putAO, x_tput, x_app, x_appO, x_appO2, x_mv, x_mvO, x_for, x_iIt, x_iterL, x_iterT, x_iterF, x_iterS, x_rsOk, x_rsX, x_call, x_callO, x_take0, x_takeV, x_takeN, x_takeO, x_give0, x_giveV, x_giveN, x_finN, x_finR, x_finX, x_finI, x_fnOut, x_optRF, x_outs0, x_outsT, x_outsF, x_ok0, x_okT, x_okF, x_iEnM, x_mExt, x_extO, x_seqL, x_seqT, x_pop, x_popO, x_oM, x_strOut, x_count, x_starts, x_sumL, x_sortedL, x_join, x_lstZip, x_iZpM, x_isD_nn, x_isD_nb, x_isD_bn, x_isD_bb, x_isD_in, x_isD_ib, x_isD_sn, x_isD_sb, x_isD_ln, x_isD_lb, x_isD_tn, x_isD_tb, x_isi_n_int, x_isi_n_bool, x_isi_n_str, x_isi_n_list, x_isi_n_tuple, x_isi_b_int, x_isi_b_bool, x_isi_b_str, x_isi_b_list, x_isi_b_tuple, x_isi_i_int, x_isi_i_bool, x_isi_i_str, x_isi_i_list, x_isi_i_tuple, x_isi_s_int, x_isi_s_bool, x_isi_s_str, x_isi_s_list, x_isi_s_tuple, x_isi_l_int, x_isi_l_bool, x_isi_l_str, x_isi_l_list, x_isi_l_tuple, x_isi_t_int, x_isi_t_bool, x_isi_t_str, x_isi_t_list, x_isi_t_tuple, x_tru, x_truN, x_truB, x_truI, x_truL, x_truF, x_truT, x_truS, x_R1, x_r1K, x_R2, x_r2K, x_in62, x_lcM, x_lcGo, x_lcRes, x_okW0, x_okW, x_okC1, x_okC2, x_okC3, x_wipe0, x_wipe, x_rest0, x_rest, x_joinS, x_chain, x_chO, x_zipT_LL, x_zpL_LL, x_zipT_LT, x_zpL_LT, x_zipT_TL, x_zpL_TL, x_zipT_TT, x_zpL_TT, x_ext2, x_ext3, x_eqIL, x_eqIT, x_cut, x_callT, x_callTO, x_drop1, x_mk0, x_mkV, x_mkK, x_fldX, x_mMake, x_setA, x_boolB, x_boolI, x_stepFL, x_eqIR, x_eqBB, Int.cast_ofNat_Int, small_of, Bool.and_self, Bool.and_true, Bool.true_and, List.getElem?_cons_zero, List.getElem?_cons_succ, List.set_cons_zero, List.set_cons_succ, List.map_cons, List.map_nil, List.replicate_zero, List.replicate_succ, List.cons_append, List.nil_append, List.length_cons, List.length_nil, leafs_snoc, leafs_app, leafs_set, leafs_len, leafs_get, Bool.not_true, Bool.not_false, Bool.false_eq_true, if_true, if_false, ite_true, ite_false, decide_eq_true_eq, Bool.not_eq_true, Bool.not_eq_true', decide_eq_false_iff_not, Nat.zero_add, Option.map_some, Int.toNat_natCast, decide_true, decide_false, reduceIte, reduceCtorEq, Int.reduceToNat, Int.reduceNeg, Int.reduceAdd, Int.reduceSub, Int.reduceMul, Int.reduceLT, Int.reduceLE, Int.reducePow, Nat.reduceLT, Nat.reduceLeDiff, Nat.reduceAdd, Nat.reduceMul, Nat.reduceSub, Int.reduceMod, Int.reduceDiv, decide_eq_true_eq, Int.reduceEq, Nat.reduceEqDiff]
    | false =>
      have h : ¬ (⟨#[codeB false]⟩ : Str) = Str.ofString "a" := of_decide_eq_false hs
      simp only [h, if_false]
      simp -implicitDefEqProofs (disch := walk_at "d") only [h, x_bnd, x_ret, x_opt, x_bind, x_bindX, x_bindS, x_bindI, x_out, x_outX, x_outS, x_outI, x_thenS, x_seq, x_nx, x_nbrk, x_ncnt, x_nret, x_nexc, x_nstuck, x_nI, x_nil, x_brk, x_cnt, x_drop, x_sret, x_retN, x_sif, x_iteSM, x_iteM, x_asg, x_optOut, x_gt, x_gNm, x_gTp, x_gCn, x_gNl, x_aug, x_augV, x_ipAdd, x_ipSub, x_ipXor, x_pC, x_vMC, x_oV, x_bV, x_vO, x_tst, x_unBl, x_tnot, x_tand, x_tor, x_vAnd, x_vOr, x_vNot, x_vIf, x_toD, x_toDL, x_shalL, x_shalV, x_nm, x_nmO, x_pNm, x_pNmO, x_lookV, x_lookN, x_lookL, x_lookD, x_lookO, x_lookP, x_node, x_atO, x_atP, x_at, x_atS, x_chI, x_chF, x_some, x_map, x_vL, x_vLO, x_frzV, x_frzN, x_frzO, x_pFld, x_pIx, x_pD, x_pLk, x_pAt, x_dataV, x_dataL, x_dataO, x_stepIV, x_stepIL, x_stepOV, x_stepOLf, x_tOpd, x_tOpdL, x_itL, x_itF, x_itT, x_atN, x_atM, x_ixN, x_oOp, x_oU, x_pOp, x_pU, x_oA, x_pA, x_paNil, x_paCons, x_looks0, x_looks, x_aNil, x_aCons, x_vNil, x_vCons, x_vStar, x_starO, x_oLst, x_vTup, x_pTup, x_add, x_addL, x_addT, x_addS, x_sub, x_band, x_bor, x_bxor, x_mul, x_fdiv, x_mod, x_pow, x_shl, x_shr, x_neg, x_lt, x_le, x_gt', x_ge, x_eqI, x_neI, x_eqS, x_neS, x_eqB, x_neB, x_is, x_isnot, x_ixT, x_ixL, x_ixF, x_ixS, x_lenL, x_lenT, x_lenF, x_lenS, x_abs, x_min, x_max, x_int, x_intB, x_list, x_tup, x_oSl, x_ipNo, x_ipSome, x_ipO, x_slT, x_slL, x_slF, x_slS, x_put, x_putO, x_putL, x_putAt, x_putAO, x_tput, x_app, x_appO, x_appO2, x_mv, x_mvO, x_for, x_iIt, x_iterL, x_iterT, x_iterF, x_iterS, x_rsOk, x_rsX, x_call, x_callO, x_take0, x_takeV, x_takeN, x_takeO, x_give0, x_giveV, x_giveN, x_finN, x_finR, x_finX, x_finI, x_fnOut, x_optRF, x_outs0, x_outsT, x_outsF, x_ok0, x_okT, x_okF, x_iEnM, x_mExt, x_extO, x_seqL, x_seqT, x_pop, x_popO, x_oM, x_strOut, x_count, x_starts, x_sumL, x_sortedL, x_join, x_lstZip, x_iZpM, x_isD_nn, x_isD_nb, x_isD_bn, x_isD_bb, x_isD_in, x_isD_ib, x_isD_sn, x_isD_sb, x_isD_ln, x_isD_lb, x_isD_tn, x_isD_tb, x_isi_n_int, x_isi_n_bool, x_isi_n_str, x_isi_n_list, x_isi_n_tuple, x_isi_b_int, x_isi_b_bool, x_isi_b_str, x_isi_b_list, x_isi_b_tuple, x_isi_i_int, x_isi_i_bool, x_isi_i_str, x_isi_i_list, x_isi_i_tuple, x_isi_s_int, x_isi_s_bool, x_isi_s_str, x_isi_s_list, x_isi_s_tuple, x_isi_l_int, x_isi_l_bool, x_isi_l_str, x_isi_l_list, x_isi_l_tuple, x_isi_t_int, x_isi_t_bool, x_isi_t_str, x_isi_t_list, x_isi_t_tuple, x_tru, x_truN, x_truB, x_truI, x_truL, x_truF, x_truT, x_truS, x_R1, x_r1K, x_R2, x_r2K, x_in62, x_lcM, x_lcGo, x_lcRes, x_okW0, x_okW, x_okC1, x_okC2, x_okC3, x_wipe0, x_wipe, x_rest0, x_rest, x_joinS, x_chain, x_chO, x_zipT_LL, x_zpL_LL, x_zipT_LT, x_zpL_LT, x_zipT_TL, x_zpL_TL, x_zipT_TT, x_zpL_TT, x_ext2, x_ext3, x_eqIL, x_eqIT, x_cut, x_callT, x_callTO, x_drop1, x_mk0, x_mkV, x_mkK, x_fldX, x_mMake, x_setA, x_boolB, x_boolI, x_stepFL, x_eqIR, x_eqBB, Int.cast_ofNat_Int, small_of, Bool.and_self, Bool.and_true, Bool.true_and, List.getElem?_cons_zero, List.getElem?_cons_succ, List.set_cons_zero, List.set_cons_succ, List.map_cons, List.map_nil, List.replicate_zero, List.replicate_succ, List.cons_append, List.nil_append, List.length_cons, List.length_nil, leafs_snoc, leafs_app, leafs_set, leafs_len, leafs_get, Bool.not_true, Bool.not_false, Bool.false_eq_true, if_true, if_false, ite_true, ite_false, decide_eq_true_eq, Bool.not_eq_true, Bool.not_eq_true', decide_eq_false_iff_not, Nat.zero_add, Option.map_some, Int.toNat_natCast, decide_true, decide_false, reduceIte, reduceCtorEq, Int.reduceToNat, Int.reduceNeg, Int.reduceAdd, Int.reduceSub, Int.reduceMul, Int.reduceLT, Int.reduceLE, Int.reducePow, Nat.reduceLT, Nat.reduceLeDiff, Nat.reduceAdd, Nat.reduceMul, Nat.reduceSub, Int.reduceMod, Int.reduceDiv, decide_eq_true_eq, Int.reduceEq, Nat.reduceEqDiff]
  have q1 : (wS l).length = l.length := wS_len l
  obtain ⟨f1, f2⟩ := stp_fold (l.drop n) 1 1 none
  rw [← signs_word] at f1 f2
  unfold m_law_steps
  rw [x_fn rfl]
  simp -implicitDefEqProofs (disch := walk_at "d") only [cut_word, x_bnd, x_ret, x_opt, x_bind, x_bindX, x_bindS, x_bindI, x_out, x_outX, x_outS, x_outI, x_thenS, x_seq, x_nx, x_nbrk, x_ncnt, x_nret, x_nexc, x_nstuck, x_nI, x_nil, x_brk, x_cnt, x_drop, x_sret, x_retN, x_sif, x_iteSM, x_iteM, x_asg, x_optOut, x_gt, x_gNm, x_gTp, x_gCn, x_gNl, x_aug, x_augV, x_ipAdd, x_ipSub, x_ipXor, x_pC, x_vMC, x_oV, x_bV, x_vO, x_tst, x_unBl, x_tnot, x_tand, x_tor, x_vAnd, x_vOr, x_vNot, x_vIf, x_toD, x_toDL, x_shalL, x_shalV, x_nm, x_nmO, x_pNm, x_pNmO, x_lookV, x_lookN, x_lookL, x_lookD, x_lookO, x_lookP, x_node, x_atO, x_atP, x_at, x_atS, x_chI, x_chF, x_some, x_map, x_vL, x_vLO, x_frzV, x_frzN, x_frzO, x_pFld, x_pIx, x_pD, x_pLk, x_pAt, x_dataV, x_dataL, x_dataO, x_stepIV, x_stepIL, x_stepOV, x_stepOLf, x_tOpd, x_tOpdL, x_itL, x_itF, x_itT, x_atN, x_atM, x_ixN, x_oOp, x_oU, x_pOp, x_pU, x_oA, x_pA, x_paNil, x_paCons, x_looks0, x_looks, x_aNil, x_aCons, x_vNil, x_vCons, x_vStar, x_starO, x_oLst, x_vTup, x_pTup, x_add, x_addL, x_addT, x_addS, x_sub, x_band, x_bor, x_bxor, x_mul, x_fdiv, x_mod, x_pow, x_shl, x_shr, x_neg, x_lt, x_le, x_gt', x_ge, x_eqI, x_neI, x_eqS, x_neS, x_eqB, x_neB, x_is, x_isnot, x_ixT, x_ixL, x_ixF, x_ixS, x_lenL, x_lenT, x_lenF, x_lenS, x_abs, x_min, x_max, x_int, x_intB, x_list, x_tup, x_oSl, x_ipNo, x_ipSome, x_ipO, x_slT, x_slL, x_slF, x_slS, x_put, x_putO, x_putL, x_putAt, x_putAO, x_tput, x_app, x_appO, x_appO2, x_mv, x_mvO, x_for, x_iIt, x_iterL, x_iterT, x_iterF, x_iterS, x_rsOk, x_rsX, x_call, x_callO, x_take0, x_takeV, x_takeN, x_takeO, x_give0, x_giveV, x_giveN, x_finN, x_finR, x_finX, x_finI, x_fnOut, x_optRF, x_outs0, x_outsT, x_outsF, x_ok0, x_okT, x_okF, x_iEnM, x_mExt, x_extO, x_seqL, x_seqT, x_pop, x_popO, x_oM, x_strOut, x_count, x_starts, x_sumL, x_sortedL, x_join, x_lstZip, x_iZpM, x_isD_nn, x_isD_nb, x_isD_bn, x_isD_bb, x_isD_in, x_isD_ib, x_isD_sn, x_isD_sb, x_isD_ln, x_isD_lb, x_isD_tn, x_isD_tb, x_isi_n_int, x_isi_n_bool, x_isi_n_str, x_isi_n_list, x_isi_n_tuple, x_isi_b_int, x_isi_b_bool, x_isi_b_str, x_isi_b_list, x_isi_b_tuple, x_isi_i_int, x_isi_i_bool, x_isi_i_str, x_isi_i_list, x_isi_i_tuple, x_isi_s_int, x_isi_s_bool, x_isi_s_str, x_isi_s_list, x_isi_s_tuple, x_isi_l_int, x_isi_l_bool, x_isi_l_str, x_isi_l_list, x_isi_l_tuple, x_isi_t_int, x_isi_t_bool, x_isi_t_str, x_isi_t_list, x_isi_t_tuple, x_tru, x_truN, x_truB, x_truI, x_truL, x_truF, x_truT, x_truS, x_R1, x_r1K, x_R2, x_r2K, x_in62, x_lcM, x_lcGo, x_lcRes, x_okW0, x_okW, x_okC1, x_okC2, x_okC3, x_wipe0, x_wipe, x_rest0, x_rest, x_joinS, x_chain, x_chO, x_zipT_LL, x_zpL_LL, x_zipT_LT, x_zpL_LT, x_zipT_TL, x_zpL_TL, x_zipT_TT, x_zpL_TT, x_ext2, x_ext3, x_eqIL, x_eqIT, x_cut, x_callT, x_callTO, x_drop1, x_mk0, x_mkV, x_mkK, x_fldX, x_mMake, x_setA, x_boolB, x_boolI, x_stepFL, x_eqIR, x_eqBB, Int.cast_ofNat_Int, small_of, Bool.and_self, Bool.and_true, Bool.true_and, List.getElem?_cons_zero, List.getElem?_cons_succ, List.set_cons_zero, List.set_cons_succ, List.map_cons, List.map_nil, List.replicate_zero, List.replicate_succ, List.cons_append, List.nil_append, List.length_cons, List.length_nil, leafs_snoc, leafs_app, leafs_set, leafs_len, leafs_get, Bool.not_true, Bool.not_false, Bool.false_eq_true, if_true, if_false, ite_true, ite_false, decide_eq_true_eq, Bool.not_eq_true, Bool.not_eq_true', decide_eq_false_iff_not, Nat.zero_add, Option.map_some, Int.toNat_natCast, decide_true, decide_false, reduceIte, reduceCtorEq, Int.reduceToNat, Int.reduceNeg, Int.reduceAdd, Int.reduceSub, Int.reduceMul, Int.reduceLT, Int.reduceLE, Int.reducePow, Nat.reduceLT, Nat.reduceLeDiff, Nat.reduceAdd, Nat.reduceMul, Nat.reduceSub, Int.reduceMod, Int.reduceDiv, decide_eq_true_eq, Int.reduceEq, Nat.reduceEqDiff]
  have it : iterD (.str (wS (l.drop n))) = some (KM.signs (wS (l.drop n))) := rfl
  simp -implicitDefEqProofs (disch := walk_at "d") only [it, lp, f1, f2, x_bnd, x_ret, x_opt, x_bind, x_bindX, x_bindS, x_bindI, x_out, x_outX, x_outS, x_outI, x_thenS, x_seq, x_nx, x_nbrk, x_ncnt, x_nret, x_nexc, x_nstuck, x_nI, x_nil, x_brk, x_cnt, x_drop, x_sret, x_retN, x_sif, x_iteSM, x_iteM, x_asg, x_optOut, x_gt, x_gNm, x_gTp, x_gCn, x_gNl, x_aug, x_augV, x_ipAdd, x_ipSub, x_ipXor, x_pC, x_vMC, x_oV, x_bV, x_vO, x_tst, x_unBl, x_tnot, x_tand, x_tor, x_vAnd, x_vOr, x_vNot, x_vIf, x_toD, x_toDL, x_shalL, x_shalV, x_nm, x_nmO, x_pNm, x_pNmO, x_lookV, x_lookN, x_lookL, x_lookD, x_lookO, x_lookP, x_node, x_atO, x_atP, x_at, x_atS, x_chI, x_chF, x_some, x_map, x_vL, x_vLO, x_frzV, x_frzN, x_frzO, x_pFld, x_pIx, x_pD, x_pLk, x_pAt, x_dataV, x_dataL, x_dataO, x_stepIV, x_stepIL, x_stepOV, x_stepOLf, x_tOpd, x_tOpdL, x_itL, x_itF, x_itT, x_atN, x_atM, x_ixN, x_oOp, x_oU, x_pOp, x_pU, x_oA, x_pA, x_paNil, x_paCons, x_looks0, x_looks, x_aNil, x_aCons, x_vNil, x_vCons, x_vStar, x_starO, x_oLst, x_vTup, x_pTup, x_add, x_addL, x_addT, x_addS, x_sub, x_band, x_bor, x_bxor, x_mul, x_fdiv, x_mod, x_pow, x_shl, x_shr, x_neg, x_lt, x_le, x_gt', x_ge, x_eqI, x_neI, x_eqS, x_neS, x_eqB, x_neB, x_is, x_isnot, x_ixT, x_ixL, x_ixF, x_ixS, x_lenL, x_lenT, x_lenF, x_lenS, x_abs, x_min, x_max, x_int, x_intB, x_list, x_tup, x_oSl, x_ipNo, x_ipSome, x_ipO, x_slT, x_slL, x_slF, x_slS, x_put, x_putO, x_putL, x_putAt, x_putAO, x_tput, x_app, x_appO, x_appO2, x_mv, x_mvO, x_for, x_iIt, x_iterL, x_iterT, x_iterF, x_iterS, x_rsOk, x_rsX, x_call, x_callO, x_take0, x_takeV, x_takeN, x_takeO, x_give0, x_giveV, x_giveN, x_finN, x_finR, x_finX, x_finI, x_fnOut, x_optRF, x_outs0, x_outsT, x_outsF, x_ok0, x_okT, x_okF, x_iEnM, x_mExt, x_extO, x_seqL, x_seqT, x_pop, x_popO, x_oM, x_strOut, x_count, x_starts, x_sumL, x_sortedL, x_join, x_lstZip, x_iZpM, x_isD_nn, x_isD_nb, x_isD_bn, x_isD_bb, x_isD_in, x_isD_ib, x_isD_sn, x_isD_sb, x_isD_ln, x_isD_lb, x_isD_tn, x_isD_tb, x_isi_n_int, x_isi_n_bool, x_isi_n_str, x_isi_n_list, x_isi_n_tuple, x_isi_b_int, x_isi_b_bool, x_isi_b_str, x_isi_b_list, x_isi_b_tuple, x_isi_i_int, x_isi_i_bool, x_isi_i_str, x_isi_i_list, x_isi_i_tuple, x_isi_s_int, x_isi_s_bool, x_isi_s_str, x_isi_s_list, x_isi_s_tuple, x_isi_l_int, x_isi_l_bool, x_isi_l_str, x_isi_l_list, x_isi_l_tuple, x_isi_t_int, x_isi_t_bool, x_isi_t_str, x_isi_t_list, x_isi_t_tuple, x_tru, x_truN, x_truB, x_truI, x_truL, x_truF, x_truT, x_truS, x_R1, x_r1K, x_R2, x_r2K, x_in62, x_lcM, x_lcGo, x_lcRes, x_okW0, x_okW, x_okC1, x_okC2, x_okC3, x_wipe0, x_wipe, x_rest0, x_rest, x_joinS, x_chain, x_chO, x_zipT_LL, x_zpL_LL, x_zipT_LT, x_zpL_LT, x_zipT_TL, x_zpL_TL, x_zipT_TT, x_zpL_TT, x_ext2, x_ext3, x_eqIL, x_eqIT, x_cut, x_callT, x_callTO, x_drop1, x_mk0, x_mkV, x_mkK, x_fldX, x_mMake, x_setA, x_boolB, x_boolI, x_stepFL, x_eqIR, x_eqBB, Int.cast_ofNat_Int, small_of, Bool.and_self, Bool.and_true, Bool.true_and, List.getElem?_cons_zero, List.getElem?_cons_succ, List.set_cons_zero, List.set_cons_succ, List.map_cons, List.map_nil, List.replicate_zero, List.replicate_succ, List.cons_append, List.nil_append, List.length_cons, List.length_nil, leafs_snoc, leafs_app, leafs_set, leafs_len, leafs_get, Bool.not_true, Bool.not_false, Bool.false_eq_true, if_true, if_false, ite_true, ite_false, decide_eq_true_eq, Bool.not_eq_true, Bool.not_eq_true', decide_eq_false_iff_not, Nat.zero_add, Option.map_some, Int.toNat_natCast, decide_true, decide_false, reduceIte, reduceCtorEq, Int.reduceToNat, Int.reduceNeg, Int.reduceAdd, Int.reduceSub, Int.reduceMul, Int.reduceLT, Int.reduceLE, Int.reducePow, Nat.reduceLT, Nat.reduceLeDiff, Nat.reduceAdd, Nat.reduceMul, Nat.reduceSub, Int.reduceMod, Int.reduceDiv, decide_eq_true_eq, Int.reduceEq, Nat.reduceEqDiff]
  unfold stepsN
  simp
theorem e_gsteps {l : List Bool} {n : Nat} (hl : l.length ≤ 6) : m_grid_steps [.val (.str (wS l)), .val (.int n)] = .ok (.val (.tup [.int (stepsN l n true), .int (stepsN l n false)])) [.val (.str (wS l)), .val (.int n)] := by
  have q1 : (wS l).length = l.length := wS_len l
  have c1 : Txt.count (wS (l.drop n)) (Str.ofString "a") = (((l.drop n).count true : Nat) : Int) := count_word _ true
  have c2 : Txt.count (wS (l.drop n)) (Str.ofString "d") = (((l.drop n).count false : Nat) : Int) := count_word _ false
  have h1 := List.count_le_length (a := true) (l := l.drop n)
  have h2 := List.count_le_length (a := false) (l := l.drop n)
  rw [List.length_drop] at h1 h2
  unfold m_grid_steps
  rw [x_fn rfl]
  simp -implicitDefEqProofs (disch := walk_at "d") only [cut_word, c1, c2, x_bnd, x_ret, x_opt, x_bind, x_bindX, x_bindS, x_bindI, x_out, x_outX, x_outS, x_outI, x_thenS, x_seq, x_nx, x_nbrk, x_ncnt, x_nret, x_nexc, x_nstuck, x_nI, x_nil, x_brk, x_cnt, x_drop, x_sret, x_retN, x_sif, x_iteSM, x_iteM, x_asg, x_optOut, x_gt, x_gNm, x_gTp, x_gCn, x_gNl, x_aug, x_augV, x_ipAdd, x_ipSub, x_ipXor, x_pC, x_vMC, x_oV, x_bV, x_vO, x_tst, x_unBl, x_tnot, x_tand, x_tor, x_vAnd, x_vOr, x_vNot, x_vIf, x_toD, x_toDL, x_shalL, x_shalV, x_nm, x_nmO, x_pNm, x_pNmO, x_lookV, x_lookN, x_lookL, x_lookD, x_lookO, x_lookP, x_node, x_atO, x_atP, x_at, x_atS, x_chI, x_chF, x_some, x_map, x_vL, x_vLO, x_frzV, x_frzN, x_frzO, x_pFld, x_pIx, x_pD, x_pLk, x_pAt, x_dataV, x_dataL, x_dataO, x_stepIV, x_stepIL, x_stepOV, x_stepOLf, x_tOpd, x_tOpdL, x_itL, x_itF, x_itT, x_atN, x_atM, x_ixN, x_oOp, x_oU, x_pOp, x_pU, x_oA, x_pA, x_paNil, x_paCons, x_looks0, x_looks, x_aNil, x_aCons, x_vNil, x_vCons, x_vStar, x_starO, x_oLst, x_vTup, x_pTup, x_add, x_addL, x_addT, x_addS, x_sub, x_band, x_bor, x_bxor, x_mul, x_fdiv, x_mod, x_pow, x_shl, x_shr, x_neg, x_lt, x_le, x_gt', x_ge, x_eqI, x_neI, x_eqS, x_neS, x_eqB, x_neB, x_is, x_isnot, x_ixT, x_ixL, x_ixF, x_ixS, x_lenL, x_lenT, x_lenF, x_lenS, x_abs, x_min, x_max, x_int, x_intB, x_list, x_tup, x_oSl, x_ipNo, x_ipSome, x_ipO, x_slT, x_slL, x_slF, x_slS, x_put, x_putO, x_putL, x_putAt, x_putAO, x_tput, x_app, x_appO, x_appO2, x_mv, x_mvO, x_for, x_iIt, x_iterL, x_iterT, x_iterF, x_iterS, x_rsOk, x_rsX, x_call, x_callO, x_take0, x_takeV, x_takeN, x_takeO, x_give0, x_giveV, x_giveN, x_finN, x_finR, x_finX, x_finI, x_fnOut, x_optRF, x_outs0, x_outsT, x_outsF, x_ok0, x_okT, x_okF, x_iEnM, x_mExt, x_extO, x_seqL, x_seqT, x_pop, x_popO, x_oM, x_strOut, x_count, x_starts, x_sumL, x_sortedL, x_join, x_lstZip, x_iZpM, x_isD_nn, x_isD_nb, x_isD_bn, x_isD_bb, x_isD_in, x_isD_ib, x_isD_sn, x_isD_sb, x_isD_ln, x_isD_lb, x_isD_tn, x_isD_tb, x_isi_n_int, x_isi_n_bool, x_isi_n_str, x_isi_n_list, x_isi_n_tuple, x_isi_b_int, x_isi_b_bool, x_isi_b_str, x_isi_b_list, x_isi_b_tuple, x_isi_i_int, x_isi_i_bool, x_isi_i_str, x_isi_i_list, x_isi_i_tuple, x_isi_s_int, x_isi_s_bool, x_isi_s_str, x_isi_s_list, x_isi_s_tuple, x_isi_l_int, x_isi_l_bool, x_isi_l_str, x_isi_l_list, x_isi_l_tuple, x_isi_t_int, x_isi_t_bool, x_isi_t_str, x_isi_t_list, x_isi_t_tuple, x_tru, x_truN, x_truB, x_truI, x_truL, x_truF, x_truT, x_truS, x_R1, x_r1K, x_R2, x_r2K, x_in62, x_lcM, x_lcGo, x_lcRes, x_okW0, x_okW, x_okC1, x_okC2, x_okC3, x_wipe0, x_wipe, x_rest0, x_rest, x_joinS, x_chain, x_chO, x_zipT_LL, x_zpL_LL, x_zipT_LT, x_zpL_LT, x_zipT_TL, x_zpL_TL, x_zipT_TT, x_zpL_TT, x_ext2, x_ext3, x_eqIL, x_eqIT, x_cut, x_callT, x_callTO, x_drop1, x_mk0, x_mkV, x_mkK, x_fldX, x_mMake, x_setA, x_boolB, x_boolI, x_stepFL, x_eqIR, x_eqBB, Int.cast_ofNat_Int, small_of, Bool.and_self, Bool.and_true, Bool.true_and, List.getElem?_cons_zero, List.getElem?_cons_succ, List.set_cons_zero, List.set_cons_succ, List.map_cons, List.map_nil, List.replicate_zero, List.replicate_succ, List.cons_append, List.nil_append, List.length_cons, List.length_nil, leafs_snoc, leafs_app, leafs_set, leafs_len, leafs_get, Bool.not_true, Bool.not_false, Bool.false_eq_true, if_true, if_false, ite_true, ite_false, decide_eq_true_eq, Bool.not_eq_true, Bool.not_eq_true', decide_eq_false_iff_not, Nat.zero_add, Option.map_some, Int.toNat_natCast, decide_true, decide_false, reduceIte, reduceCtorEq, Int.reduceToNat, Int.reduceNeg, Int.reduceAdd, Int.reduceSub, Int.reduceMul, Int.reduceLT, Int.reduceLE, Int.reducePow, Nat.reduceLT, Nat.reduceLeDiff, Nat.reduceAdd, Nat.reduceMul, Nat.reduceSub, Int.reduceMod, Int.reduceDiv, decide_eq_true_eq, Int.reduceEq, Nat.reduceEqDiff]
  unfold stepsN
  simp

end KL

namespace KL
open PySem PySem.Spec PyProof.Rows L2 Evl KP KM
local macro_rules | `(tactic| walk_at "d") => `(tactic| first | omega | (simp only [List.length_map, List.length_append, List.length_cons, List.length_nil, leafs_len, dis_len]; omega) | (simp; done))
local macro_rules | `(tactic| walk_at "m") => `(tactic| simp -implicitDefEqProofs (disch := walk_at "d") only [x_bnd, x_ret, x_opt, x_bind, x_bindX, x_bindS, x_bindI, x_out, x_outX, x_outS, x_outI, x_thenS, x_seq, x_nx, x_nbrk, x_ncnt, x_nret, x_nexc, x_nstuck, x_nI, x_nil, x_brk, x_cnt, x_drop, x_sret, x_retN, x_sif, x_iteSM, x_iteM, x_asg, x_optOut, x_gt, x_gNm, x_gTp, x_gCn, x_gNl, x_aug, x_augV, x_ipAdd, x_ipSub, x_ipXor, x_pC, x_vMC, x_oV, x_bV, x_vO, x_tst, x_unBl, x_tnot, x_tand, x_tor, x_vAnd, x_vOr, x_vNot, x_vIf, x_toD, x_toDL, x_shalL, x_shalV, x_nm, x_nmO, x_pNm, x_pNmO, x_lookV, x_lookN, x_lookL, x_lookD, x_lookO, x_lookP, x_node, x_atO, x_atP, x_at, x_atS, x_chI, x_chF, x_some, x_map, x_vL, x_vLO, x_frzV, x_frzN, x_frzO, x_pFld, x_pIx, x_pD, x_pLk, x_pAt, x_dataV, x_dataL, x_dataO, x_stepIV, x_stepIL, x_stepOV, x_stepOLf, x_tOpd, x_tOpdL, x_itL, x_itF, x_itT, x_atN, x_atM, x_ixN, x_oOp, x_oU, x_pOp, x_pU, x_oA, x_pA, x_paNil, x_paCons, x_looks0, x_looks, x_aNil, x_aCons, x_vNil, x_vCons, x_vStar, x_starO, x_oLst, x_vTup, x_pTup, x_add, x_addL, x_addT, x_addS, x_sub, x_band, x_bor, x_bxor, x_mul, x_fdiv, x_mod, x_pow, x_shl, x_shr, x_neg, x_lt, x_le, x_gt', x_ge, x_eqI, x_neI, x_eqS, x_neS, x_eqB, x_neB, x_is, x_isnot, x_ixT, x_ixL, x_ixF, x_ixS, x_lenL, x_lenT, x_lenF, x_lenS, x_abs, x_min, x_max, x_int, x_intB, x_list, x_tup, x_oSl, x_ipNo, x_ipSome, x_ipO, x_slT, x_slL, x_slF, x_slS, x_put, x_putO, x_putL, x_putAt, x_putAO, x_tput, x_app, x_appO, x_appO2, x_mv, x_mvO, x_for, x_iIt, x_iterL, x_iterT, x_iterF, x_iterS, x_rsOk, x_rsX, x_call, x_callO, x_take0, x_takeV, x_takeN, x_takeO, x_give0, x_giveV, x_giveN, x_finN, x_finR, x_finX, x_finI, x_fnOut, x_optRF, x_outs0, x_outsT, x_outsF, x_ok0, x_okT, x_okF, x_iEnM, x_mExt, x_extO, x_seqL, x_seqT, x_pop, x_popO, x_oM, x_strOut, x_count, x_starts, x_sumL, x_sortedL, x_join, x_lstZip, x_iZpM, x_isD_nn, x_isD_nb, x_isD_bn, x_isD_bb, x_isD_in, x_isD_ib, x_isD_sn, x_isD_sb, x_isD_ln, x_isD_lb, x_isD_tn, x_isD_tb, x_isi_n_int, x_isi_n_bool, x_isi_n_str, x_isi_n_list, x_isi_n_tuple, x_isi_b_int, x_isi_b_bool, x_isi_b_str, x_isi_b_list, x_isi_b_tuple, x_isi_i_int, x_isi_i_bool, x_isi_i_str, x_isi_i_list, x_isi_i_tuple, x_isi_s_int, x_isi_s_bool, x_isi_s_str, x_isi_s_list, x_isi_s_tuple, x_isi_l_int, x_isi_l_bool, x_isi_l_str, x_isi_l_list, x_isi_l_tuple, x_isi_t_int, x_isi_t_bool, x_isi_t_str, x_isi_t_list, x_isi_t_tuple, x_tru, x_truN, x_truB, x_truI, x_truL, x_truF, x_truT, x_truS, x_R1, x_r1K, x_R2, x_r2K, x_in62, x_lcM, x_lcGo, x_lcRes, x_okW0, x_okW, x_okC1, x_okC2, x_okC3, x_wipe0, x_wipe, x_rest0, x_rest, x_joinS, x_chain, x_chO, x_zipT_LL, x_zpL_LL, x_zipT_LT, x_zpL_LT, x_zipT_TL, x_zpL_TL, x_zipT_TT, x_zpL_TT, x_ext2, x_ext3, x_eqIL, x_eqIT, x_cut, x_callT, x_callTO, x_drop1, x_mk0, x_mkV, x_mkK, x_fldX, x_mMake, x_setA, x_boolB, x_boolI, x_stepFL, x_eqIR, x_eqBB, Int.cast_ofNat_Int, small_of, Bool.and_self, Bool.and_true, Bool.true_and, List.getElem?_cons_zero, List.getElem?_cons_succ, List.set_cons_zero, List.set_cons_succ, List.map_cons, List.map_nil, List.replicate_zero, List.replicate_succ, List.cons_append, List.nil_append, List.length_cons, List.length_nil, leafs_snoc, leafs_app, leafs_set, leafs_len, leafs_get, Bool.not_true, Bool.not_false, Bool.false_eq_true, if_true, if_false, ite_true, ite_false, decide_eq_true_eq, Bool.not_eq_true, Bool.not_eq_true', decide_eq_false_iff_not, Nat.zero_add, Option.map_some, Int.toNat_natCast, decide_true, decide_false, reduceIte, reduceCtorEq, Int.reduceToNat, Int.reduceNeg, Int.reduceAdd, Int.reduceSub, Int.reduceMul, Int.reduceLT, Int.reduceLE, Int.reducePow, Nat.reduceLT, Nat.reduceLeDiff, Nat.reduceAdd, Nat.reduceMul, Nat.reduceSub, Int.reduceMod, Int.reduceDiv, decide_eq_true_eq, Int.reduceEq, Nat.reduceEqDiff])

/-! ### sheets -/
def fns : List Str := ["modulus", "rows", "width", "height"]
/-- rows, none empty -/
def wid (R : List (List Int)) : Nat := (R.headD []).length
def trD (R : List (List Int)) : D := .tup (dit R)
def shT (m : Int) (R : List (List Int)) : T := .obj "Sheet" fns [.val (.int m), .val (trD R), .val (.int (wid R)), .val (.int R.length)]
def shD (m : Int) (R : List (List Int)) : D := .obj "Sheet" fns [.int m, trD R, .int (wid R), .int R.length]
theorem sh_toD (m : Int) (R : List (List Int)) : toD (shT m R) = shD m R := rfl
theorem sh_shal (m : Int) (R : List (List Int)) : shal (shT m R) = some (shD m R) := rfl
theorem fo1 (m : Int) (R : List (List Int)) (i : Nat) (π : List Sg) : fldO tab "modulus" i π (some (shT m R)) = some (.val (.int m)) := rfl
theorem fo2 (m : Int) (R : List (List Int)) (i : Nat) (π : List Sg) : fldO tab "rows" i π (some (shT m R)) = some (.val (trD R)) := rfl
theorem fo3 (m : Int) (R : List (List Int)) (i : Nat) (π : List Sg) : fldO tab "width" i π (some (shT m R)) = some (.val (.int (wid R))) := rfl
theorem fo4 (m : Int) (R : List (List Int)) (i : Nat) (π : List Sg) : fldO tab "height" i π (some (shT m R)) = some (.val (.int R.length)) := rfl
theorem fd1 (m : Int) (R : List (List Int)) (i : Nat) (π : List Sg) : fldO tab "modulus" i π (some (.val (shD m R))) = some (.val (.int m)) := rfl
theorem fd2 (m : Int) (R : List (List Int)) (i : Nat) (π : List Sg) : fldO tab "rows" i π (some (.val (shD m R))) = some (.val (trD R)) := rfl
theorem fd3 (m : Int) (R : List (List Int)) (i : Nat) (π : List Sg) : fldO tab "width" i π (some (.val (shD m R))) = some (.val (.int (wid R))) := rfl
theorem fd4 (m : Int) (R : List (List Int)) (i : Nat) (π : List Sg) : fldO tab "height" i π (some (.val (shD m R))) = some (.val (.int R.length)) := rfl
theorem so1 (t : T) (e : KM.Env) : setOut tab 0 "modulus" t e (some (some (.obj "Sheet" [] []))) = .nx (putAt e 0 [] (.obj "Sheet" ["modulus"] [t])) := rfl
theorem so2 (t t1 : T) (e : KM.Env) : setOut tab 0 "rows" t e (some (some (.obj "Sheet" ["modulus"] [t1]))) = .nx (putAt e 0 [] (.obj "Sheet" ["modulus", "rows"] [t1, t])) := rfl
theorem so3 (t t1 t2 : T) (e : KM.Env) : setOut tab 0 "width" t e (some (some (.obj "Sheet" ["modulus", "rows"] [t1, t2]))) = .nx (putAt e 0 [] (.obj "Sheet" ["modulus", "rows", "width"] [t1, t2, t])) := rfl
theorem so4 (t t1 t2 t3 : T) (e : KM.Env) : setOut tab 0 "height" t e (some (some (.obj "Sheet" ["modulus", "rows", "width"] [t1, t2, t3]))) = .nx (putAt e 0 [] (.obj "Sheet" fns [t1, t2, t3, t])) := rfl
theorem fp2 (t1 : T) (d : D) (i : Nat) (π : List Sg) : fldO tab "rows" i π (some (.obj "Sheet" ["modulus", "rows"] [t1, .val d])) = some (.val d) := rfl
theorem fp3 (t1 t3 : T) (d : D) (i : Nat) (π : List Sg) : fldO tab "rows" i π (some (.obj "Sheet" ["modulus", "rows", "width"] [t1, .val d, t3])) = some (.val d) := rfl
theorem e_init (m : Int) (rd : D) (ds : List D) (R : List (List Int)) (h1 : iterD rd = some ds) (h2 : ds.map items = R.map fun r => some (dis r)) (h3 : 0 < R.length) (h4 : R.length ≤ 1000) (h5 : ∀ r ∈ R, r.length ≤ 1000) :
    m_Sheet__init [.obj "Sheet" [] [], .val (.int m), .val rd] = .ok (.val .non) [shT m R, .val (.int m), .val rd] := by
  have hl : ds.length = R.length := by
    have := congrArg List.length h2
    simpa using this
  have e : ((ds.filter fun _ => true).map fun d => match items d with | some es => D.tup es | none => .non) = dit R := by
    rw [List.filter_eq_self.mpr (fun _ _ => rfl)]
    unfold dit
    have : ∀ (ds : List D) (R : List (List Int)), ds.map items = (R.map fun r => some (dis r)) → (ds.map fun d => match items d with | some es => D.tup es | none => .non) = R.map fun a => .tup (dis a) := by
      intro ds
      induction ds with
      | nil => intro R h; cases R with
        | nil => rfl
        | cons r R => cases h
      | cons d ds ih => intro R h; cases R with
        | nil => cases h
        | cons r R =>
          simp only [List.map_cons, List.cons.injEq] at h ⊢
          refine ⟨?_, ih R h.2⟩
          rw [h.1]
    exact this ds R h2
  have lp : ∀ t : T, lcLoop [3] (gNm 3) tYesM l_Sheet__init_0 ds [] [some t, some (.val (.int m)), some (.val rd), none] = .ok (leafs (dit R)) [some t, some (.val (.int m)), some (.val rd), none] := fun t => by
    rw [← e]
    refine lcLoop_filt _ (fun _ => true) _ ds (by omega) fun d hd => ?_
    have hm : items d ∈ ds.map items := List.mem_map_of_mem hd
    rw [h2] at hm
    obtain ⟨r, _, hr⟩ := List.mem_map.mp hm
    refine ⟨[some t, some (.val (.int m)), some (.val rd), some (.val d)], rfl, rfl, fun _ => ?_, rfl⟩
    unfold l_Sheet__init_0
    simp -implicitDefEqProofs (disch := walk_at "d") only [← hr, x_bnd, x_ret, x_opt, x_bind, x_bindX, x_bindS, x_bindI, x_out, x_outX, x_outS, x_outI, x_thenS, x_seq, x_nx, x_nbrk, x_ncnt, x_nret, x_nexc, x_nstuck, x_nI, x_nil, x_brk, x_cnt, x_drop, x_sret, x_retN, x_sif, x_iteSM, x_iteM, x_asg, x_optOut, x_gt, x_gNm, x_gTp, x_gCn, x_gNl, x_aug, x_augV, x_ipAdd, x_ipSub, x_ipXor, x_pC, x_vMC, x_oV, x_bV, x_vO, x_tst, x_unBl, x_tnot, x_tand, x_tor, x_vAnd, x_vOr, x_vNot, x_vIf, x_toD, x_toDL, x_shalL, x_shalV, x_nm, x_nmO, x_pNm, x_pNmO, x_lookV, x_lookN, x_lookL, x_lookD, x_lookO, x_lookP, x_node, x_atO, x_atP, x_at, x_atS, x_chI, x_chF, x_some, x_map, x_vL, x_vLO, x_frzV, x_frzN, x_frzO, x_pFld, x_pIx, x_pD, x_pLk, x_pAt, x_dataV, x_dataL, x_dataO, x_stepIV, x_stepIL, x_stepOV, x_stepOLf, x_tOpd, x_tOpdL, x_itL, x_itF, x_itT, x_atN, x_atM, x_ixN, x_oOp, x_oU, x_pOp, x_pU, x_oA, x_pA, x_paNil, x_paCons, x_looks0, x_looks, x_aNil, x_aCons, x_vNil, x_vCons, x_vStar, x_starO, x_oLst, x_vTup, x_pTup, x_add, x_addL, x_addT, x_addS, x_sub, x_band, x_bor, x_bxor, x_mul, x_fdiv, x_mod, x_pow, x_shl, x_shr, x_neg, x_lt, x_le, x_gt', x_ge, x_eqI, x_neI, x_eqS, x_neS, x_eqB, x_neB, x_is, x_isnot, x_ixT, x_ixL, x_ixF, x_ixS, x_lenL, x_lenT, x_lenF, x_lenS, x_abs, x_min, x_max, x_int, x_intB, x_list, x_tup, x_oSl, x_ipNo, x_ipSome, x_ipO, x_slT, x_slL, x_slF, x_slS, x_put, x_putO, x_putL, x_putAt, x_putAO, x_tput, x_app, x_appO, x_appO2, x_mv, x_mvO, x_for, x_iIt, x_iterL, x_iterT, x_iterF, x_iterS, x_rsOk, x_rsX, x_call, x_callO, x_take0, x_takeV, x_takeN, x_takeO, x_give0, x_giveV, x_giveN, x_finN, x_finR, x_finX, x_finI, x_fnOut, x_optRF, x_outs0, x_outsT, x_outsF, x_ok0, x_okT, x_okF, x_iEnM, x_mExt, x_extO, x_seqL, x_seqT, x_pop, x_popO, x_oM, x_strOut, x_count, x_starts, x_sumL, x_sortedL, x_join, x_lstZip, x_iZpM, x_isD_nn, x_isD_nb, x_isD_bn, x_isD_bb, x_isD_in, x_isD_ib, x_isD_sn, x_isD_sb, x_isD_ln, x_isD_lb, x_isD_tn, x_isD_tb, x_isi_n_int, x_isi_n_bool, x_isi_n_str, x_isi_n_list, x_isi_n_tuple, x_isi_b_int, x_isi_b_bool, x_isi_b_str, x_isi_b_list, x_isi_b_tuple, x_isi_i_int, x_isi_i_bool, x_isi_i_str, x_isi_i_list, x_isi_i_tuple, x_isi_s_int, x_isi_s_bool, x_isi_s_str, x_isi_s_list, x_isi_s_tuple, x_isi_l_int, x_isi_l_bool, x_isi_l_str, x_isi_l_list, x_isi_l_tuple, x_isi_t_int, x_isi_t_bool, x_isi_t_str, x_isi_t_list, x_isi_t_tuple, x_tru, x_truN, x_truB, x_truI, x_truL, x_truF, x_truT, x_truS, x_R1, x_r1K, x_R2, x_r2K, x_in62, x_lcM, x_lcGo, x_lcRes, x_okW0, x_okW, x_okC1, x_okC2, x_okC3, x_wipe0, x_wipe, x_rest0, x_rest, x_joinS, x_chain, x_chO, x_zipT_LL, x_zpL_LL, x_zipT_LT, x_zpL_LT, x_zipT_TL, x_zpL_TL, x_zipT_TT, x_zpL_TT, x_ext2, x_ext3, x_eqIL, x_eqIT, x_cut, x_callT, x_callTO, x_drop1, x_mk0, x_mkV, x_mkK, x_fldX, x_mMake, x_setA, x_boolB, x_boolI, x_stepFL, x_eqIR, x_eqBB, Int.cast_ofNat_Int, small_of, Bool.and_self, Bool.and_true, Bool.true_and, List.getElem?_cons_zero, List.getElem?_cons_succ, List.set_cons_zero, List.set_cons_succ, List.map_cons, List.map_nil, List.replicate_zero, List.replicate_succ, List.cons_append, List.nil_append, List.length_cons, List.length_nil, leafs_snoc, leafs_app, leafs_set, leafs_len, leafs_get, Bool.not_true, Bool.not_false, Bool.false_eq_true, if_true, if_false, ite_true, ite_false, decide_eq_true_eq, Bool.not_eq_true, Bool.not_eq_true', decide_eq_false_iff_not, Nat.zero_add, Option.map_some, Int.toNat_natCast, decide_true, decide_false, reduceIte, reduceCtorEq, Int.reduceToNat, Int.reduceNeg, Int.reduceAdd, Int.reduceSub, Int.reduceMul, Int.reduceLT, Int.reduceLE, Int.reducePow, Nat.reduceLT, Nat.reduceLeDiff, Nat.reduceAdd, Nat.reduceMul, Nat.reduceSub, Int.reduceMod, Int.reduceDiv, decide_eq_true_eq, Int.reduceEq, Nat.reduceEqDiff]
  obtain ⟨r0, R', rfl⟩ : ∃ r0 R', R = r0 :: R' := by
    cases R with
    | nil => simp at h3
    | cons r R' => exact ⟨r, R', rfl⟩
  have hr0 := h5 r0 (by simp)
  have g0 : (dit (r0 :: R'))[0]? = some (.tup (dis r0)) := rfl
  have z1 : (dis r0).length ≤ 16777216 := by rw [dis_len]; omega
  have z2 : (dit (r0 :: R')).length ≤ 16777216 := by rw [dit_len]; omega
  have gl := dit_len (r0 :: R')
  have gw : wid (r0 :: R') = r0.length := rfl
  unfold m_Sheet__init
  rw [x_fn rfl]
  simp -implicitDefEqProofs (disch := walk_at "d") only [so1, so2, so3, so4, fp2, fp3, h1, lp, g0, dis_len, dit_len, x_bnd, x_ret, x_opt, x_bind, x_bindX, x_bindS, x_bindI, x_out, x_outX, x_outS, x_outI, x_thenS, x_seq, x_nx, x_nbrk, x_ncnt, x_nret, x_nexc, x_nstuck, x_nI, x_nil, x_brk, x_cnt, x_drop, x_sret, x_retN, x_sif, x_iteSM, x_iteM, x_asg, x_optOut, x_gt, x_gNm, x_gTp, x_gCn, x_gNl, x_aug, x_augV, x_ipAdd, x_ipSub, x_ipXor, x_pC, x_vMC, x_oV, x_bV, x_vO, x_tst, x_unBl, x_tnot, x_tand, x_tor, x_vAnd, x_vOr, x_vNot, x_vIf, x_toD, x_toDL, x_shalL, x_shalV, x_nm, x_nmO, x_pNm, x_pNmO, x_lookV, x_lookN, x_lookL, x_lookD, x_lookO, x_lookP, x_node, x_atO, x_atP, x_at, x_atS, x_chI, x_chF, x_some, x_map, x_vL, x_vLO, x_frzV, x_frzN, x_frzO, x_pFld, x_pIx, x_pD, x_pLk, x_pAt, x_dataV, x_dataL, x_dataO, x_stepIV, x_stepIL, x_stepOV, x_stepOLf, x_tOpd, x_tOpdL, x_itL, x_itF, x_itT, x_atN, x_atM, x_ixN, x_oOp, x_oU, x_pOp, x_pU, x_oA, x_pA, x_paNil, x_paCons, x_looks0, x_looks, x_aNil, x_aCons, x_vNil, x_vCons, x_vStar, x_starO, x_oLst, x_vTup, x_pTup, x_add, x_addL, x_addT, x_addS, x_sub, x_band, x_bor, x_bxor, x_mul, x_fdiv, x_mod, x_pow, x_shl, x_shr, x_neg, x_lt, x_le, x_gt', x_ge, x_eqI, x_neI, x_eqS, x_neS, x_eqB, x_neB, x_is, x_isnot, x_ixT, x_ixL, x_ixF, x_ixS, x_lenL, x_lenT, x_lenF, x_lenS, x_abs, x_min, x_max, x_int, x_intB, x_list, x_tup, x_oSl, x_ipNo, x_ipSome, x_ipO, x_slT, x_slL, x_slF, x_slS, x_put, x_putO, x_putL, x_putAt, x_putAO, x_tput, x_app, x_appO, x_appO2, x_mv, x_mvO, x_for, x_iIt, x_iterL, x_iterT, x_iterF, x_iterS, x_rsOk, x_rsX, x_call, x_callO, x_take0, x_takeV, x_takeN, x_takeO, x_give0, x_giveV, x_giveN, x_finN, x_finR, x_finX, x_finI, x_fnOut, x_optRF, x_outs0, x_outsT, x_outsF, x_ok0, x_okT, x_okF, x_iEnM, x_mExt, x_extO, x_seqL, x_seqT, x_pop, x_popO, x_oM, x_strOut, x_count, x_starts, x_sumL, x_sortedL, x_join, x_lstZip, x_iZpM, x_isD_nn, x_isD_nb, x_isD_bn, x_isD_bb, x_isD_in, x_isD_ib, x_isD_sn, x_isD_sb, x_isD_ln, x_isD_lb, x_isD_tn, x_isD_tb, x_isi_n_int, x_isi_n_bool, x_isi_n_str, x_isi_n_list, x_isi_n_tuple, x_isi_b_int, x_isi_b_bool, x_isi_b_str, x_isi_b_list, x_isi_b_tuple, x_isi_i_int, x_isi_i_bool, x_isi_i_str, x_isi_i_list, x_isi_i_tuple, x_isi_s_int, x_isi_s_bool, x_isi_s_str, x_isi_s_list, x_isi_s_tuple, x_isi_l_int, x_isi_l_bool, x_isi_l_str, x_isi_l_list, x_isi_l_tuple, x_isi_t_int, x_isi_t_bool, x_isi_t_str, x_isi_t_list, x_isi_t_tuple, x_tru, x_truN, x_truB, x_truI, x_truL, x_truF, x_truT, x_truS, x_R1, x_r1K, x_R2, x_r2K, x_in62, x_lcM, x_lcGo, x_lcRes, x_okW0, x_okW, x_okC1, x_okC2, x_okC3, x_wipe0, x_wipe, x_rest0, x_rest, x_joinS, x_chain, x_chO, x_zipT_LL, x_zpL_LL, x_zipT_LT, x_zpL_LT, x_zipT_TL, x_zpL_TL, x_zipT_TT, x_zpL_TT, x_ext2, x_ext3, x_eqIL, x_eqIT, x_cut, x_callT, x_callTO, x_drop1, x_mk0, x_mkV, x_mkK, x_fldX, x_mMake, x_setA, x_boolB, x_boolI, x_stepFL, x_eqIR, x_eqBB, Int.cast_ofNat_Int, small_of, Bool.and_self, Bool.and_true, Bool.true_and, List.getElem?_cons_zero, List.getElem?_cons_succ, List.set_cons_zero, List.set_cons_succ, List.map_cons, List.map_nil, List.replicate_zero, List.replicate_succ, List.cons_append, List.nil_append, List.length_cons, List.length_nil, leafs_snoc, leafs_app, leafs_set, leafs_len, leafs_get, Bool.not_true, Bool.not_false, Bool.false_eq_true, if_true, if_false, ite_true, ite_false, decide_eq_true_eq, Bool.not_eq_true, Bool.not_eq_true', decide_eq_false_iff_not, Nat.zero_add, Option.map_some, Int.toNat_natCast, decide_true, decide_false, reduceIte, reduceCtorEq, Int.reduceToNat, Int.reduceNeg, Int.reduceAdd, Int.reduceSub, Int.reduceMul, Int.reduceLT, Int.reduceLE, Int.reducePow, Nat.reduceLT, Nat.reduceLeDiff, Nat.reduceAdd, Nat.reduceMul, Nat.reduceSub, Int.reduceMod, Int.reduceDiv, decide_eq_true_eq, Int.reduceEq, Nat.reduceEqDiff]
  rfl
theorem e_isS (m : Int) (R : List (List Int)) : bIsiO co usO tn [shD m R, .glo "Sheet"] = some (.val (.bl true)) := by rfl
theorem e_seq (m m' : Int) (R R' : List (List Int)) : m_Sheet__eq [.val (shD m R), .val (shD m' R')] = .ok (.val (.bl (decide (m = m') && decide (R = R')))) [.val (shD m R), .val (shD m' R')] := by
  unfold m_Sheet__eq
  rw [x_fn rfl]
  by_cases h : m = m'
  · have h' : decide (m = m') = true := decide_eq_true h
    simp -implicitDefEqProofs (disch := walk_at "d") only [e_isS, fd1, fd2, trD, h, x_bnd, x_ret, x_opt, x_bind, x_bindX, x_bindS, x_bindI, x_out, x_outX, x_outS, x_outI, x_thenS, x_seq, x_nx, x_nbrk, x_ncnt, x_nret, x_nexc, x_nstuck, x_nI, x_nil, x_brk, x_cnt, x_drop, x_sret, x_retN, x_sif, x_iteSM, x_iteM, x_asg, x_optOut, x_gt, x_gNm, x_gTp, x_gCn, x_gNl, x_aug, x_augV, x_ipAdd, x_ipSub, x_ipXor, x_pC, x_vMC, x_oV, x_bV, x_vO, x_tst, x_unBl, x_tnot, x_tand, x_tor, x_vAnd, x_vOr, x_vNot, x_vIf, x_toD, x_toDL, x_shalL, x_shalV, x_nm, x_nmO, x_pNm, x_pNmO, x_lookV, x_lookN, x_lookL, x_lookD, x_lookO, x_lookP, x_node, x_atO, x_atP, x_at, x_atS, x_chI, x_chF, x_some, x_map, x_vL, x_vLO, x_frzV, x_frzN, x_frzO, x_pFld, x_pIx, x_pD, x_pLk, x_pAt, x_dataV, x_dataL, x_dataO, x_stepIV, x_stepIL, x_stepOV, x_stepOLf, x_tOpd, x_tOpdL, x_itL, x_itF, x_itT, x_atN, x_atM, x_ixN, x_oOp, x_oU, x_pOp, x_pU, x_oA, x_pA, x_paNil, x_paCons, x_looks0, x_looks, x_aNil, x_aCons, x_vNil, x_vCons, x_vStar, x_starO, x_oLst, x_vTup, x_pTup, x_add, x_addL, x_addT, x_addS, x_sub, x_band, x_bor, x_bxor, x_mul, x_fdiv, x_mod, x_pow, x_shl, x_shr, x_neg, x_lt, x_le, x_gt', x_ge, x_eqI, x_neI, x_eqS, x_neS, x_eqB, x_neB, x_is, x_isnot, x_ixT, x_ixL, x_ixF, x_ixS, x_lenL, x_lenT, x_lenF, x_lenS, x_abs, x_min, x_max, x_int, x_intB, x_list, x_tup, x_oSl, x_ipNo, x_ipSome, x_ipO, x_slT, x_slL, x_slF, x_slS, x_put, x_putO, x_putL, x_putAt, x_putAO, x_tput, x_app, x_appO, x_appO2, x_mv, x_mvO, x_for, x_iIt, x_iterL, x_iterT, x_iterF, x_iterS, x_rsOk, x_rsX, x_call, x_callO, x_take0, x_takeV, x_takeN, x_takeO, x_give0, x_giveV, x_giveN, x_finN, x_finR, x_finX, x_finI, x_fnOut, x_optRF, x_outs0, x_outsT, x_outsF, x_ok0, x_okT, x_okF, x_iEnM, x_mExt, x_extO, x_seqL, x_seqT, x_pop, x_popO, x_oM, x_strOut, x_count, x_starts, x_sumL, x_sortedL, x_join, x_lstZip, x_iZpM, x_isD_nn, x_isD_nb, x_isD_bn, x_isD_bb, x_isD_in, x_isD_ib, x_isD_sn, x_isD_sb, x_isD_ln, x_isD_lb, x_isD_tn, x_isD_tb, x_isi_n_int, x_isi_n_bool, x_isi_n_str, x_isi_n_list, x_isi_n_tuple, x_isi_b_int, x_isi_b_bool, x_isi_b_str, x_isi_b_list, x_isi_b_tuple, x_isi_i_int, x_isi_i_bool, x_isi_i_str, x_isi_i_list, x_isi_i_tuple, x_isi_s_int, x_isi_s_bool, x_isi_s_str, x_isi_s_list, x_isi_s_tuple, x_isi_l_int, x_isi_l_bool, x_isi_l_str, x_isi_l_list, x_isi_l_tuple, x_isi_t_int, x_isi_t_bool, x_isi_t_str, x_isi_t_list, x_isi_t_tuple, x_tru, x_truN, x_truB, x_truI, x_truL, x_truF, x_truT, x_truS, x_R1, x_r1K, x_R2, x_r2K, x_in62, x_lcM, x_lcGo, x_lcRes, x_okW0, x_okW, x_okC1, x_okC2, x_okC3, x_wipe0, x_wipe, x_rest0, x_rest, x_joinS, x_chain, x_chO, x_zipT_LL, x_zpL_LL, x_zipT_LT, x_zpL_LT, x_zipT_TL, x_zpL_TL, x_zipT_TT, x_zpL_TT, x_ext2, x_ext3, x_eqIL, x_eqIT, x_cut, x_callT, x_callTO, x_drop1, x_mk0, x_mkV, x_mkK, x_fldX, x_mMake, x_setA, x_boolB, x_boolI, x_stepFL, x_eqIR, x_eqBB, Int.cast_ofNat_Int, small_of, Bool.and_self, Bool.and_true, Bool.true_and, List.getElem?_cons_zero, List.getElem?_cons_succ, List.set_cons_zero, List.set_cons_succ, List.map_cons, List.map_nil, List.replicate_zero, List.replicate_succ, List.cons_append, List.nil_append, List.length_cons, List.length_nil, leafs_snoc, leafs_app, leafs_set, leafs_len, leafs_get, Bool.not_true, Bool.not_false, Bool.false_eq_true, if_true, if_false, ite_true, ite_false, decide_eq_true_eq, Bool.not_eq_true, Bool.not_eq_true', decide_eq_false_iff_not, Nat.zero_add, Option.map_some, Int.toNat_natCast, decide_true, decide_false, reduceIte, reduceCtorEq, Int.reduceToNat, Int.reduceNeg, Int.reduceAdd, Int.reduceSub, Int.reduceMul, Int.reduceLT, Int.reduceLE, Int.reducePow, Nat.reduceLT, Nat.reduceLeDiff, Nat.reduceAdd, Nat.reduceMul, Nat.reduceSub, Int.reduceMod, Int.reduceDiv, decide_eq_true_eq, Int.reduceEq, Nat.reduceEqDiff]
  · have h' : decide (m = m') = false := decide_eq_false h
    simp -implicitDefEqProofs (disch := walk_at "d") only [e_isS, fd1, fd2, trD, h, x_bnd, x_ret, x_opt, x_bind, x_bindX, x_bindS, x_bindI, x_out, x_outX, x_outS, x_outI, x_thenS, x_seq, x_nx, x_nbrk, x_ncnt, x_nret, x_nexc, x_nstuck, x_nI, x_nil, x_brk, x_cnt, x_drop, x_sret, x_retN, x_sif, x_iteSM, x_iteM, x_asg, x_optOut, x_gt, x_gNm, x_gTp, x_gCn, x_gNl, x_aug, x_augV, x_ipAdd, x_ipSub, x_ipXor, x_pC, x_vMC, x_oV, x_bV, x_vO, x_tst, x_unBl, x_tnot, x_tand, x_tor, x_vAnd, x_vOr, x_vNot, x_vIf, x_toD, x_toDL, x_shalL, x_shalV, x_nm, x_nmO, x_pNm, x_pNmO, x_lookV, x_lookN, x_lookL, x_lookD, x_lookO, x_lookP, x_node, x_atO, x_atP, x_at, x_atS, x_chI, x_chF, x_some, x_map, x_vL, x_vLO, x_frzV, x_frzN, x_frzO, x_pFld, x_pIx, x_pD, x_pLk, x_pAt, x_dataV, x_dataL, x_dataO, x_stepIV, x_stepIL, x_stepOV, x_stepOLf, x_tOpd, x_tOpdL, x_itL, x_itF, x_itT, x_atN, x_atM, x_ixN, x_oOp, x_oU, x_pOp, x_pU, x_oA, x_pA, x_paNil, x_paCons, x_looks0, x_looks, x_aNil, x_aCons, x_vNil, x_vCons, x_vStar, x_starO, x_oLst, x_vTup, x_pTup, x_add, x_addL, x_addT, x_addS, x_sub, x_band, x_bor, x_bxor, x_mul, x_fdiv, x_mod, x_pow, x_shl, x_shr, x_neg, x_lt, x_le, x_gt', x_ge, x_eqI, x_neI, x_eqS, x_neS, x_eqB, x_neB, x_is, x_isnot, x_ixT, x_ixL, x_ixF, x_ixS, x_lenL, x_lenT, x_lenF, x_lenS, x_abs, x_min, x_max, x_int, x_intB, x_list, x_tup, x_oSl, x_ipNo, x_ipSome, x_ipO, x_slT, x_slL, x_slF, x_slS, x_put, x_putO, x_putL, x_putAt, x_putAO, x_tput, x_app, x_appO, x_appO2, x_mv, x_mvO, x_for, x_iIt, x_iterL, x_iterT, x_iterF, x_iterS, x_rsOk, x_rsX, x_call, x_callO, x_take0, x_takeV, x_takeN, x_takeO, x_give0, x_giveV, x_giveN, x_finN, x_finR, x_finX, x_finI, x_fnOut, x_optRF, x_outs0, x_outsT, x_outsF, x_ok0, x_okT, x_okF, x_iEnM, x_mExt, x_extO, x_seqL, x_seqT, x_pop, x_popO, x_oM, x_strOut, x_count, x_starts, x_sumL, x_sortedL, x_join, x_lstZip, x_iZpM, x_isD_nn, x_isD_nb, x_isD_bn, x_isD_bb, x_isD_in, x_isD_ib, x_isD_sn, x_isD_sb, x_isD_ln, x_isD_lb, x_isD_tn, x_isD_tb, x_isi_n_int, x_isi_n_bool, x_isi_n_str, x_isi_n_list, x_isi_n_tuple, x_isi_b_int, x_isi_b_bool, x_isi_b_str, x_isi_b_list, x_isi_b_tuple, x_isi_i_int, x_isi_i_bool, x_isi_i_str, x_isi_i_list, x_isi_i_tuple, x_isi_s_int, x_isi_s_bool, x_isi_s_str, x_isi_s_list, x_isi_s_tuple, x_isi_l_int, x_isi_l_bool, x_isi_l_str, x_isi_l_list, x_isi_l_tuple, x_isi_t_int, x_isi_t_bool, x_isi_t_str, x_isi_t_list, x_isi_t_tuple, x_tru, x_truN, x_truB, x_truI, x_truL, x_truF, x_truT, x_truS, x_R1, x_r1K, x_R2, x_r2K, x_in62, x_lcM, x_lcGo, x_lcRes, x_okW0, x_okW, x_okC1, x_okC2, x_okC3, x_wipe0, x_wipe, x_rest0, x_rest, x_joinS, x_chain, x_chO, x_zipT_LL, x_zpL_LL, x_zipT_LT, x_zpL_LT, x_zipT_TL, x_zpL_TL, x_zipT_TT, x_zpL_TT, x_ext2, x_ext3, x_eqIL, x_eqIT, x_cut, x_callT, x_callTO, x_drop1, x_mk0, x_mkV, x_mkK, x_fldX, x_mMake, x_setA, x_boolB, x_boolI, x_stepFL, x_eqIR, x_eqBB, Int.cast_ofNat_Int, small_of, Bool.and_self, Bool.and_true, Bool.true_and, List.getElem?_cons_zero, List.getElem?_cons_succ, List.set_cons_zero, List.set_cons_succ, List.map_cons, List.map_nil, List.replicate_zero, List.replicate_succ, List.cons_append, List.nil_append, List.length_cons, List.length_nil, leafs_snoc, leafs_app, leafs_set, leafs_len, leafs_get, Bool.not_true, Bool.not_false, Bool.false_eq_true, if_true, if_false, ite_true, ite_false, decide_eq_true_eq, Bool.not_eq_true, Bool.not_eq_true', decide_eq_false_iff_not, Nat.zero_add, Option.map_some, Int.toNat_natCast, decide_true, decide_false, reduceIte, reduceCtorEq, Int.reduceToNat, Int.reduceNeg, Int.reduceAdd, Int.reduceSub, Int.reduceMul, Int.reduceLT, Int.reduceLE, Int.reducePow, Nat.reduceLT, Nat.reduceLeDiff, Nat.reduceAdd, Nat.reduceMul, Nat.reduceSub, Int.reduceMod, Int.reduceDiv, decide_eq_true_eq, Int.reduceEq, Nat.reduceEqDiff]
    rfl
theorem e_opS (m m' : Int) (R R' : List (List Int)) : opEqO "Sheet" m_Sheet__eq (shD m R) (shD m' R') = some (.val (.bl (decide (m = m') && decide (R = R')))) := by
  unfold shD opEqO
  have e := e_seq m m' R R'
  unfold shD at e
  dsimp only
  rw [e]
  rfl

end KL

namespace KL
open PySem PySem.Spec PyProof.Rows L2 Evl KP KM
local macro_rules | `(tactic| walk_at "d") => `(tactic| first | omega | (simp only [List.length_map, List.length_append, List.length_cons, List.length_nil, leafs_len, dis_len]; omega) | (simp; done))
local macro_rules | `(tactic| walk_at "m") => `(tactic| simp -implicitDefEqProofs (disch := walk_at "d") only [x_bnd, x_ret, x_opt, x_bind, x_bindX, x_bindS, x_bindI, x_out, x_outX, x_outS, x_outI, x_thenS, x_seq, x_nx, x_nbrk, x_ncnt, x_nret, x_nexc, x_nstuck, x_nI, x_nil, x_brk, x_cnt, x_drop, x_sret, x_retN, x_sif, x_iteSM, x_iteM, x_asg, x_optOut, x_gt, x_gNm, x_gTp, x_gCn, x_gNl, x_aug, x_augV, x_ipAdd, x_ipSub, x_ipXor, x_pC, x_vMC, x_oV, x_bV, x_vO, x_tst, x_unBl, x_tnot, x_tand, x_tor, x_vAnd, x_vOr, x_vNot, x_vIf, x_toD, x_toDL, x_shalL, x_shalV, x_nm, x_nmO, x_pNm, x_pNmO, x_lookV, x_lookN, x_lookL, x_lookD, x_lookO, x_lookP, x_node, x_atO, x_atP, x_at, x_atS, x_chI, x_chF, x_some, x_map, x_vL, x_vLO, x_frzV, x_frzN, x_frzO, x_pFld, x_pIx, x_pD, x_pLk, x_pAt, x_dataV, x_dataL, x_dataO, x_stepIV, x_stepIL, x_stepOV, x_stepOLf, x_tOpd, x_tOpdL, x_itL, x_itF, x_itT, x_atN, x_atM, x_ixN, x_oOp, x_oU, x_pOp, x_pU, x_oA, x_pA, x_paNil, x_paCons, x_looks0, x_looks, x_aNil, x_aCons, x_vNil, x_vCons, x_vStar, x_starO, x_oLst, x_vTup, x_pTup, x_add, x_addL, x_addT, x_addS, x_sub, x_band, x_bor, x_bxor, x_mul, x_fdiv, x_mod, x_pow, x_shl, x_shr, x_neg, x_lt, x_le, x_gt', x_ge, x_eqI, x_neI, x_eqS, x_neS, x_eqB, x_neB, x_is, x_isnot, x_ixT, x_ixL, x_ixF, x_ixS, x_lenL, x_lenT, x_lenF, x_lenS, x_abs, x_min, x_max, x_int, x_intB, x_list, x_tup, x_oSl, x_ipNo, x_ipSome, x_ipO, x_slT, x_slL, x_slF, x_slS, x_put, x_putO, x_putL, x_putAt, x_putAO, x_tput, x_app, x_appO, x_appO2, x_mv, x_mvO, x_for, x_iIt, x_iterL, x_iterT, x_iterF, x_iterS, x_rsOk, x_rsX, x_call, x_callO, x_take0, x_takeV, x_takeN, x_takeO, x_give0, x_giveV, x_giveN, x_finN, x_finR, x_finX, x_finI, x_fnOut, x_optRF, x_outs0, x_outsT, x_outsF, x_ok0, x_okT, x_okF, x_iEnM, x_mExt, x_extO, x_seqL, x_seqT, x_pop, x_popO, x_oM, x_strOut, x_count, x_starts, x_sumL, x_sortedL, x_join, x_lstZip, x_iZpM, x_isD_nn, x_isD_nb, x_isD_bn, x_isD_bb, x_isD_in, x_isD_ib, x_isD_sn, x_isD_sb, x_isD_ln, x_isD_lb, x_isD_tn, x_isD_tb, x_isi_n_int, x_isi_n_bool, x_isi_n_str, x_isi_n_list, x_isi_n_tuple, x_isi_b_int, x_isi_b_bool, x_isi_b_str, x_isi_b_list, x_isi_b_tuple, x_isi_i_int, x_isi_i_bool, x_isi_i_str, x_isi_i_list, x_isi_i_tuple, x_isi_s_int, x_isi_s_bool, x_isi_s_str, x_isi_s_list, x_isi_s_tuple, x_isi_l_int, x_isi_l_bool, x_isi_l_str, x_isi_l_list, x_isi_l_tuple, x_isi_t_int, x_isi_t_bool, x_isi_t_str, x_isi_t_list, x_isi_t_tuple, x_tru, x_truN, x_truB, x_truI, x_truL, x_truF, x_truT, x_truS, x_R1, x_r1K, x_R2, x_r2K, x_in62, x_lcM, x_lcGo, x_lcRes, x_okW0, x_okW, x_okC1, x_okC2, x_okC3, x_wipe0, x_wipe, x_rest0, x_rest, x_joinS, x_chain, x_chO, x_zipT_LL, x_zpL_LL, x_zipT_LT, x_zpL_LT, x_zipT_TL, x_zpL_TL, x_zipT_TT, x_zpL_TT, x_ext2, x_ext3, x_eqIL, x_eqIT, x_cut, x_callT, x_callTO, x_drop1, x_mk0, x_mkV, x_mkK, x_fldX, x_mMake, x_setA, x_boolB, x_boolI, x_stepFL, x_eqIR, x_eqBB, Int.cast_ofNat_Int, small_of, Bool.and_self, Bool.and_true, Bool.true_and, List.getElem?_cons_zero, List.getElem?_cons_succ, List.set_cons_zero, List.set_cons_succ, List.map_cons, List.map_nil, List.replicate_zero, List.replicate_succ, List.cons_append, List.nil_append, List.length_cons, List.length_nil, leafs_snoc, leafs_app, leafs_set, leafs_len, leafs_get, Bool.not_true, Bool.not_false, Bool.false_eq_true, if_true, if_false, ite_true, ite_false, decide_eq_true_eq, Bool.not_eq_true, Bool.not_eq_true', decide_eq_false_iff_not, Nat.zero_add, Option.map_some, Int.toNat_natCast, decide_true, decide_false, reduceIte, reduceCtorEq, Int.reduceToNat, Int.reduceNeg, Int.reduceAdd, Int.reduceSub, Int.reduceMul, Int.reduceLT, Int.reduceLE, Int.reducePow, Nat.reduceLT, Nat.reduceLeDiff, Nat.reduceAdd, Nat.reduceMul, Nat.reduceSub, Int.reduceMod, Int.reduceDiv, decide_eq_true_eq, Int.reduceEq, Nat.reduceEqDiff])

/-! ### passes -/
theorem forM_find {S : Type} {g : D → KM.Env → Option KM.Env} {body : SM} (st : S → KM.Env) (rt : S → D → KM.Env) (f : S → D → S) (p : D → Bool) (r : D → T) : ∀ (ds : List D) (s : S), (∀ s d, d ∈ ds → ∃ e, g d (st s) = some e ∧ body e = if p d = true then .ret (r d) (rt s d) else .nx (st (f s d))) →
    ∃ s', KM.forM g body ds (st s) = match ds.find? p with
      | some d => .ret (r d) (rt s' d)
      | none => .nx (st s')
  | [], s, _ => ⟨s, rfl⟩
  | d :: ds, s, h => by
    obtain ⟨e, h1, h2⟩ := h s d (by simp)
    unfold KM.forM
    rw [h1]
    dsimp only
    rw [h2]
    cases hp : p d with
    | true =>
      refine ⟨s, ?_⟩
      rw [List.find?_cons_of_pos hp]
      rfl
    | false =>
      obtain ⟨s', h3⟩ := forM_find st rt f p r ds (f s d) fun s d hd => h s d (List.mem_cons_of_mem _ hd)
      refine ⟨s', ?_⟩
      rw [List.find?_cons_of_neg (by simp [hp])]
      exact h3
def hit (l : List Bool) (n x y : Nat) : Bool := decide (((x : Nat) : Int) % ((stepsN l n true : Nat) : Int) = 0) && decide (((y : Nat) : Int) % ((stepsN l n false : Nat) : Int) = 0)
def grd (l : List Bool) : List D := (List.range (l.length + 1)).map fun n => .tup [.int (stepsN l n true : Nat), .int (stepsN l n false : Nat)]
theorem grd_len (l : List Bool) : (grd l).length = l.length + 1 := by unfold grd; simp
theorem grd_get (l : List Bool) {n : Nat} (h : n < l.length + 1) : (grd l)[n]? = some (.tup [.int (stepsN l n true : Nat), .int (stepsN l n false : Nat)]) := by
  unfold grd
  rw [List.getElem?_map, List.getElem?_range h]
  rfl
def passN (l : List Bool) (x y : Nat) : Nat := ((List.range (l.length + 1)).find? fun n => hit l n x y).getD (l.length + 1)
theorem hit_iff {l : List Bool} {n x y : Nat} : hit l n x y = true ↔ x % stepsN l n true = 0 ∧ y % stepsN l n false = 0 := by
  unfold hit
  rw [Bool.and_eq_true, decide_eq_true_eq, decide_eq_true_eq]
  constructor <;> rintro ⟨h1, h2⟩ <;> constructor <;> omega
theorem steps_dvd {l : List Bool} {n m : Nat} {b : Bool} (h : n ≤ m) : stepsN l m b ∣ stepsN l n b := by
  unfold stepsN
  refine Nat.pow_dvd_pow 2 ?_
  have : l.drop m = (l.drop n).drop (m - n) := by rw [List.drop_drop]; congr 1; omega
  rw [this]
  exact List.Sublist.count_le _ (List.drop_sublist _ _)
theorem hit_mono {l : List Bool} {n m x y : Nat} (h : n ≤ m) (hh : hit l n x y = true) : hit l m x y = true := by
  rw [hit_iff] at hh ⊢
  exact ⟨Nat.mod_eq_zero_of_dvd (Nat.dvd_trans (steps_dvd h) (Nat.dvd_of_mod_eq_zero hh.1)), Nat.mod_eq_zero_of_dvd (Nat.dvd_trans (steps_dvd h) (Nat.dvd_of_mod_eq_zero hh.2))⟩
theorem pass_lt {l : List Bool} {n x y : Nat} (hn : n ≤ l.length) : decide (((passN l x y : Nat) : Int) < ((n + 1 : Nat) : Int)) = hit l n x y := by
  unfold passN
  cases hf : (List.range (l.length + 1)).find? fun n => hit l n x y with
  | none =>
    have := List.find?_eq_none.mp hf n (List.mem_range.mpr (by omega))
    simp only [Bool.not_eq_true] at this
    rw [this]
    refine decide_eq_false ?_
    show ¬ (((l.length + 1 : Nat) : Int) < _)
    omega
  | some m =>
    show decide (((m : Nat) : Int) < _) = _
    obtain ⟨h1, as, bs, h2, h3⟩ := List.find?_eq_some_iff_append.mp hf
    by_cases hmn : m ≤ n
    · have h1 : hit l m x y = true := by simpa using h1
      rw [hit_mono hmn h1]
      exact decide_eq_true (by omega)
    · have : n ∈ as := by
        have hn2 : (as ++ m :: bs)[n]? = some n := by rw [← h2, List.getElem?_range (by omega)]
        have hm : as.length = m := by
          have e : (as ++ m :: bs)[as.length]? = some m := by simp
          rw [← h2] at e
          have hlt : as.length < (List.range (l.length + 1)).length := (List.getElem?_eq_some_iff.mp e).1
          rw [List.length_range] at hlt
          rw [List.getElem?_range hlt] at e
          exact Option.some.inj e
        rw [List.getElem?_append_left (by omega)] at hn2
        exact List.mem_of_getElem? hn2
      have h4 := h3 n this
      simp only [Bool.not_eq_true', Bool.not_eq_eq_eq_not, Bool.not_true] at h4
      rw [h4]
      exact decide_eq_false (by omega)
def hitD (l : List Bool) (x y : Nat) : D → Bool
  | .int n => hit l n.toNat x y
  | _ => false
theorem hitD_int (l : List Bool) (x y k : Nat) : hitD l x y (.int k) = hit l k x y := by
  show hit l ((k : Nat) : Int).toNat x y = _
  rw [Int.toNat_natCast]
theorem e_pass {l : List Bool} {x y : Nat} (hl : l.length ≤ 6) : m_law_pass [.val (.int x), .val (.int y), .lst (leafs (grd l))] = .ok (.val (.int (passN l x y))) [.val (.int x), .val (.int y), .lst (leafs (grd l))] := by
  have gl := grd_len l
  obtain ⟨s', lp⟩ := forM_find (g := gNm 3) (body := l_law_pass_0) (S := Option T) (fun s => [some (.val (.int x)), some (.val (.int y)), some (.lst (leafs (grd l))), s]) (fun _ _ => [some (.val (.int x)), some (.val (.int y)), some (.lst (leafs (grd l))), none]) (fun _ d => some (.val d)) (hitD l x y) T.val (rgD 0 (l.length + 1)) none fun s d hd => by
    obtain ⟨k, hk, rfl⟩ := rg_mem hd
    refine ⟨_, rfl, ?_⟩
    have gk := grd_get l hk
    have s1 := steps_lt (n := k) (b := true) hl
    have s2 := steps_lt (n := k) (b := false) hl
    have kn : ((k : Int)).toNat = k := Int.toNat_natCast k
    rw [hitD_int]
    unfold l_law_pass_0 hit
    by_cases h1 : ((x : Nat) : Int) % ((stepsN l k true : Nat) : Int) = 0
    · by_cases h2 : ((y : Nat) : Int) % ((stepsN l k false : Nat) : Int) = 0
      · simp -implicitDefEqProofs (disch := walk_at "d") only [gk, h1, h2, kn, x_bnd, x_ret, x_opt, x_bind, x_bindX, x_bindS, x_bindI, x_out, x_outX, x_outS, x_outI, x_thenS, x_seq, x_nx, x_nbrk, x_ncnt, x_nret, x_nexc, x_nstuck, x_nI, x_nil, x_brk, x_cnt, x_drop, x_sret, x_retN, x_sif, x_iteSM, x_iteM, x_asg, x_optOut, x_gt, x_gNm, x_gTp, x_gCn, x_gNl, x_aug, x_augV, x_ipAdd, x_ipSub, x_ipXor, x_pC, x_vMC, x_oV, x_bV, x_vO, x_tst, x_unBl, x_tnot, x_tand, x_tor, x_vAnd, x_vOr, x_vNot, x_vIf, x_toD, x_toDL, x_shalL, x_shalV, x_nm, x_nmO, x_pNm, x_pNmO, x_lookV, x_lookN, x_lookL, x_lookD, x_lookO, x_lookP, x_node, x_atO, x_atP, x_at, x_atS, x_chI, x_chF, x_some, x_map, x_vL, x_vLO, x_frzV, x_frzN, x_frzO, x_pFld, x_pIx, x_pD, x_pLk, x_pAt, x_dataV, x_dataL, x_dataO, x_stepIV, x_stepIL, x_stepOV, x_stepOLf, x_tOpd, x_tOpdL, x_itL, x_itF, x_itT, x_atN, x_atM, x_ixN, x_oOp, x_oU, x_pOp, x_pU, x_oA, x_pA, x_paNil, x_paCons, x_looks0, x_looks, x_aNil, x_aCons, x_vNil, x_vCons, x_vStar, x_starO, x_oLst, x_vTup, x_pTup, x_add, x_addL, x_addT, x_addS, x_sub, x_band, x_bor, x_bxor, x_mul, x_fdiv, x_mod, x_pow, x_shl, x_shr, x_neg, x_lt, x_le, x_gt', x_ge, x_eqI, x_neI, x_eqS, x_neS, x_eqB, x_neB, x_is, x_isnot, x_ixT, x_ixL, x_ixF, x_ixS, x_lenL, x_lenT, x_lenF, x_lenS, x_abs, x_min, x_max, x_int, x_intB, x_list, x_tup, x_oSl, x_ipNo, x_ipSome, x_ipO, x_slT, x_slL, x_slF, x_slS, x_put, x_putO, x_putL, x_putAt, x_putAO, x_tput, x_app, x_appO, x_appO2, x_mv, x_mvO, x_for, x_iIt, x_iterL, x_iterT, x_iterF, x_iterS, x_rsOk, x_rsX, x_call, x_callO, x_take0, x_takeV, x_takeN, x_takeO, x_give0, x_giveV, x_giveN, x_finN, x_finR, x_finX, x_finI, x_fnOut, x_optRF, x_outs0, x_outsT, x_outsF, x_ok0, x_okT, x_okF, x_iEnM, x_mExt, x_extO, x_seqL, x_seqT, x_pop, x_popO, x_oM, x_strOut, x_count, x_starts, x_sumL, x_sortedL, x_join, x_lstZip, x_iZpM, x_isD_nn, x_isD_nb, x_isD_bn, x_isD_bb, x_isD_in, x_isD_ib, x_isD_sn, x_isD_sb, x_isD_ln, x_isD_lb, x_isD_tn, x_isD_tb, x_isi_n_int, x_isi_n_bool, x_isi_n_str, x_isi_n_list, x_isi_n_tuple, x_isi_b_int, x_isi_b_bool, x_isi_b_str, x_isi_b_list, x_isi_b_tuple, x_isi_i_int, x_isi_i_bool, x_isi_i_str, x_isi_i_list, x_isi_i_tuple, x_isi_s_int, x_isi_s_bool, x_isi_s_str, x_isi_s_list, x_isi_s_tuple, x_isi_l_int, x_isi_l_bool, x_isi_l_str, x_isi_l_list, x_isi_l_tuple, x_isi_t_int, x_isi_t_bool, x_isi_t_str, x_isi_t_list, x_isi_t_tuple, x_tru, x_truN, x_truB, x_truI, x_truL, x_truF, x_truT, x_truS, x_R1, x_r1K, x_R2, x_r2K, x_in62, x_lcM, x_lcGo, x_lcRes, x_okW0, x_okW, x_okC1, x_okC2, x_okC3, x_wipe0, x_wipe, x_rest0, x_rest, x_joinS, x_chain, x_chO, x_zipT_LL, x_zpL_LL, x_zipT_LT, x_zpL_LT, x_zipT_TL, x_zpL_TL, x_zipT_TT, x_zpL_TT, x_ext2, x_ext3, x_eqIL, x_eqIT, x_cut, x_callT, x_callTO, x_drop1, x_mk0, x_mkV, x_mkK, x_fldX, x_mMake, x_setA, x_boolB, x_boolI, x_stepFL, x_eqIR, x_eqBB, Int.cast_ofNat_Int, small_of, Bool.and_self, Bool.and_true, Bool.true_and, List.getElem?_cons_zero, List.getElem?_cons_succ, List.set_cons_zero, List.set_cons_succ, List.map_cons, List.map_nil, List.replicate_zero, List.replicate_succ, List.cons_append, List.nil_append, List.length_cons, List.length_nil, leafs_snoc, leafs_app, leafs_set, leafs_len, leafs_get, Bool.not_true, Bool.not_false, Bool.false_eq_true, if_true, if_false, ite_true, ite_false, decide_eq_true_eq, Bool.not_eq_true, Bool.not_eq_true', decide_eq_false_iff_not, Nat.zero_add, Option.map_some, Int.toNat_natCast, decide_true, decide_false, reduceIte, reduceCtorEq, Int.reduceToNat, Int.reduceNeg, Int.reduceAdd, Int.reduceSub, Int.reduceMul, Int.reduceLT, Int.reduceLE, Int.reducePow, Nat.reduceLT, Nat.reduceLeDiff, Nat.reduceAdd, Nat.reduceMul, Nat.reduceSub, Int.reduceMod, Int.reduceDiv, decide_eq_true_eq, Int.reduceEq, Nat.reduceEqDiff]
        try rfl
      · simp -implicitDefEqProofs (disch := walk_at "d") only [gk, h1, h2, kn, x_bnd, x_ret, x_opt, x_bind, x_bindX, x_bindS, x_bindI, x_out, x_outX, x_outS, x_outI, x_thenS, x_seq, x_nx, x_nbrk, x_ncnt, x_nret, x_nexc, x_nstuck, x_nI, x_nil, x_brk, x_cnt, x_drop, x_sret, x_retN, x_sif, x_iteSM, x_iteM, x_asg, x_optOut, x_gt, x_gNm, x_gTp, x_gCn, x_gNl, x_aug, x_augV, x_ipAdd, x_ipSub, x_ipXor, x_pC, x_vMC, x_oV, x_bV, x_vO, x_tst, x_unBl, x_tnot, x_tand, x_tor, x_vAnd, x_vOr, x_vNot, x_vIf, x_toD, x_toDL, x_shalL, x_shalV, x_nm, x_nmO, x_pNm, x_pNmO, x_lookV, x_lookN, x_lookL, x_lookD, x_lookO, x_lookP, x_node, x_atO, x_atP, x_at, x_atS, x_chI, x_chF, x_some, x_map, x_vL, x_vLO, x_frzV, x_frzN, x_frzO, x_pFld, x_pIx, x_pD, x_pLk, x_pAt, x_dataV, x_dataL, x_dataO, x_stepIV, x_stepIL, x_stepOV, x_stepOLf, x_tOpd, x_tOpdL, x_itL, x_itF, x_itT, x_atN, x_atM, x_ixN, x_oOp, x_oU, x_pOp, x_pU, x_oA, x_pA, x_paNil, x_paCons, x_looks0, x_looks, x_aNil, x_aCons, x_vNil, x_vCons, x_vStar, x_starO, x_oLst, x_vTup, x_pTup, x_add, x_addL, x_addT, x_addS, x_sub, x_band, x_bor, x_bxor, x_mul, x_fdiv, x_mod, x_pow, x_shl, x_shr, x_neg, x_lt, x_le, x_gt', x_ge, x_eqI, x_neI, x_eqS, x_neS, x_eqB, x_neB, x_is, x_isnot, x_ixT, x_ixL, x_ixF, x_ixS, x_lenL, x_lenT, x_lenF, x_lenS, x_abs, x_min, x_max, x_int, x_intB, x_list, x_tup, x_oSl, x_ipNo, x_ipSome, x_ipO, x_slT, x_slL, x_slF, x_slS, x_put, x_putO, x_putL, x_putAt, x_putAO, x_tput, x_app, x_appO, x_appO2, x_mv, x_mvO, x_for, x_iIt, x_iterL, x_iterT, x_iterF, x_iterS, x_rsOk, x_rsX, x_call, x_callO, x_take0, x_takeV, x_takeN, x_takeO, x_give0, x_giveV, x_giveN, x_finN, x_finR, x_finX, x_finI, x_fnOut, x_optRF, x_outs0, x_outsT, x_outsF, x_ok0, x_okT, x_okF, x_iEnM, x_mExt, x_extO, x_seqL, x_seqT, x_pop, x_popO, x_oM, x_strOut, x_count, x_starts, x_sumL, x_sortedL, x_join, x_lstZip, x_iZpM, x_isD_nn, x_isD_nb, x_isD_bn, x_isD_bb, x_isD_in, x_isD_ib, x_isD_sn, x_isD_sb, x_isD_ln, x_isD_lb, x_isD_tn, x_isD_tb, x_isi_n_int, x_isi_n_bool, x_isi_n_str, x_isi_n_list, x_isi_n_tuple, x_isi_b_int, x_isi_b_bool, x_isi_b_str, x_isi_b_list, x_isi_b_tuple, x_isi_i_int, x_isi_i_bool, x_isi_i_str, x_isi_i_list, x_isi_i_tuple, x_isi_s_int, x_isi_s_bool, x_isi_s_str, x_isi_s_list, x_isi_s_tuple, x_isi_l_int, x_isi_l_bool, x_isi_l_str, x_isi_l_list, x_isi_l_tuple, x_isi_t_int, x_isi_t_bool, x_isi_t_str, x_isi_t_list, x_isi_t_tuple, x_tru, x_truN, x_truB, x_truI, x_truL, x_truF, x_truT, x_truS, x_R1, x_r1K, x_R2, x_r2K, x_in62, x_lcM, x_lcGo, x_lcRes, x_okW0, x_okW, x_okC1, x_okC2, x_okC3, x_wipe0, x_wipe, x_rest0, x_rest, x_joinS, x_chain, x_chO, x_zipT_LL, x_zpL_LL, x_zipT_LT, x_zpL_LT, x_zipT_TL, x_zpL_TL, x_zipT_TT, x_zpL_TT, x_ext2, x_ext3, x_eqIL, x_eqIT, x_cut, x_callT, x_callTO, x_drop1, x_mk0, x_mkV, x_mkK, x_fldX, x_mMake, x_setA, x_boolB, x_boolI, x_stepFL, x_eqIR, x_eqBB, Int.cast_ofNat_Int, small_of, Bool.and_self, Bool.and_true, Bool.true_and, List.getElem?_cons_zero, List.getElem?_cons_succ, List.set_cons_zero, List.set_cons_succ, List.map_cons, List.map_nil, List.replicate_zero, List.replicate_succ, List.cons_append, List.nil_append, List.length_cons, List.length_nil, leafs_snoc, leafs_app, leafs_set, leafs_len, leafs_get, Bool.not_true, Bool.not_false, Bool.false_eq_true, if_true, if_false, ite_true, ite_false, decide_eq_true_eq, Bool.not_eq_true, Bool.not_eq_true', decide_eq_false_iff_not, Nat.zero_add, Option.map_some, Int.toNat_natCast, decide_true, decide_false, reduceIte, reduceCtorEq, Int.reduceToNat, Int.reduceNeg, Int.reduceAdd, Int.reduceSub, Int.reduceMul, Int.reduceLT, Int.reduceLE, Int.reducePow, Nat.reduceLT, Nat.reduceLeDiff, Nat.reduceAdd, Nat.reduceMul, Nat.reduceSub, Int.reduceMod, Int.reduceDiv, decide_eq_true_eq, Int.reduceEq, Nat.reduceEqDiff]
        try rfl
    · simp -implicitDefEqProofs (disch := walk_at "d") only [gk, h1, kn, x_bnd, x_ret, x_opt, x_bind, x_bindX, x_bindS, x_bindI, x_out, x_outX, x_outS, x_outI, x_thenS, x_seq, x_nx, x_nbrk, x_ncnt, x_nret, x_nexc, x_nstuck, x_nI, x_nil, x_brk, x_cnt, x_drop, x_sret, x_retN, x_sif, x_iteSM, x_iteM, x_asg, x_optOut, x_gt, x_gNm, x_gTp, x_gCn, x_gNl, x_aug, x_augV, x_ipAdd, x_ipSub, x_ipXor, x_pC, x_vMC, x_oV, x_bV, x_vO, x_tst, x_unBl, x_tnot, x_tand, x_tor, x_vAnd, x_vOr, x_vNot, x_vIf, x_toD, x_toDL, x_shalL, x_shalV, x_nm, x_nmO, x_pNm, x_pNmO, x_lookV, x_lookN, x_lookL, x_lookD, x_lookO, x_lookP, x_node, x_atO, x_atP, x_at, x_atS, x_chI, x_chF, x_some, x_map, x_vL, x_vLO, x_frzV, x_frzN, x_frzO, x_pFld, x_pIx, x_pD, x_pLk, x_pAt, x_dataV, x_dataL, x_dataO, x_stepIV, x_stepIL, x_stepOV, x_stepOLf, x_tOpd, x_tOpdL, x_itL, x_itF, x_itT, x_atN, x_atM, x_ixN, x_oOp, x_oU, x_pOp, x_pU, x_oA, x_pA, x_paNil, x_paCons, x_looks0, x_looks, x_aNil, x_aCons, x_vNil, x_vCons, x_vStar, x_starO, x_oLst, x_vTup, x_pTup, x_add, x_addL, x_addT, x_addS, x_sub, x_band, x_bor, x_bxor, x_mul, x_fdiv, x_mod, x_pow, x_shl, x_shr, x_neg, x_lt, x_le, x_gt', x_ge, x_eqI, x_neI, x_eqS, x_neS, x_eqB, x_neB, x_is, x_isnot, x_ixT, x_ixL, x_ixF, x_ixS, x_lenL, x_lenT, x_lenF, x_lenS, x_abs, x_min, x_max, x_int, x_intB, x_list, x_tup, x_oSl, x_ipNo, x_ipSome, x_ipO, x_slT, x_slL, x_slF, x_slS, x_put, x_putO, x_putL, x_putAt, x_putAO, x_tput, x_app, x_appO, x_appO2, x_mv, x_mvO, x_for, x_iIt, x_iterL, x_iterT, x_iterF, x_iterS, x_rsOk, x_rsX, x_call, x_callO, x_take0, x_takeV, x_takeN, x_takeO, x_give0, x_giveV, x_giveN, x_finN, x_finR, x_finX, x_finI, x_fnOut, x_optRF, x_outs0, x_outsT, x_outsF, x_ok0, x_okT, x_okF, x_iEnM, x_mExt, x_extO, x_seqL, x_seqT, x_pop, x_popO, x_oM, x_strOut, x_count, x_starts, x_sumL, x_sortedL, x_join, x_lstZip, x_iZpM, x_isD_nn, x_isD_nb, x_isD_bn, x_isD_bb, x_isD_in, x_isD_ib, x_isD_sn, x_isD_sb, x_isD_ln, x_isD_lb, x_isD_tn, x_isD_tb, x_isi_n_int, x_isi_n_bool, x_isi_n_str, x_isi_n_list, x_isi_n_tuple, x_isi_b_int, x_isi_b_bool, x_isi_b_str, x_isi_b_list, x_isi_b_tuple, x_isi_i_int, x_isi_i_bool, x_isi_i_str, x_isi_i_list, x_isi_i_tuple, x_isi_s_int, x_isi_s_bool, x_isi_s_str, x_isi_s_list, x_isi_s_tuple, x_isi_l_int, x_isi_l_bool, x_isi_l_str, x_isi_l_list, x_isi_l_tuple, x_isi_t_int, x_isi_t_bool, x_isi_t_str, x_isi_t_list, x_isi_t_tuple, x_tru, x_truN, x_truB, x_truI, x_truL, x_truF, x_truT, x_truS, x_R1, x_r1K, x_R2, x_r2K, x_in62, x_lcM, x_lcGo, x_lcRes, x_okW0, x_okW, x_okC1, x_okC2, x_okC3, x_wipe0, x_wipe, x_rest0, x_rest, x_joinS, x_chain, x_chO, x_zipT_LL, x_zpL_LL, x_zipT_LT, x_zpL_LT, x_zipT_TL, x_zpL_TL, x_zipT_TT, x_zpL_TT, x_ext2, x_ext3, x_eqIL, x_eqIT, x_cut, x_callT, x_callTO, x_drop1, x_mk0, x_mkV, x_mkK, x_fldX, x_mMake, x_setA, x_boolB, x_boolI, x_stepFL, x_eqIR, x_eqBB, Int.cast_ofNat_Int, small_of, Bool.and_self, Bool.and_true, Bool.true_and, List.getElem?_cons_zero, List.getElem?_cons_succ, List.set_cons_zero, List.set_cons_succ, List.map_cons, List.map_nil, List.replicate_zero, List.replicate_succ, List.cons_append, List.nil_append, List.length_cons, List.length_nil, leafs_snoc, leafs_app, leafs_set, leafs_len, leafs_get, Bool.not_true, Bool.not_false, Bool.false_eq_true, if_true, if_false, ite_true, ite_false, decide_eq_true_eq, Bool.not_eq_true, Bool.not_eq_true', decide_eq_false_iff_not, Nat.zero_add, Option.map_some, Int.toNat_natCast, decide_true, decide_false, reduceIte, reduceCtorEq, Int.reduceToNat, Int.reduceNeg, Int.reduceAdd, Int.reduceSub, Int.reduceMul, Int.reduceLT, Int.reduceLE, Int.reducePow, Nat.reduceLT, Nat.reduceLeDiff, Nat.reduceAdd, Nat.reduceMul, Nat.reduceSub, Int.reduceMod, Int.reduceDiv, decide_eq_true_eq, Int.reduceEq, Nat.reduceEqDiff]
      try rfl
  have hf : (rgD 0 (l.length + 1)).find? (hitD l x y) = ((List.range (l.length + 1)).find? fun n => hit l n x y).map fun (n : Nat) => D.int (n : Int) := by
    unfold rgD
    rw [List.find?_map]
    have e1 : (hitD l x y ∘ fun (i : Nat) => D.int (0 + (i : Int))) = fun n => hit l n x y := by
      funext n
      show hitD l x y (D.int (0 + (n : Int))) = _
      rw [Int.zero_add, hitD_int]
    have e2 : (fun (i : Nat) => D.int (0 + (i : Int))) = fun (n : Nat) => D.int (n : Int) := by
      funext n
      rw [Int.zero_add]
    rw [e1, e2]
  rw [hf] at lp
  have z1 : (leafs (grd l)).length ≤ 16777216 := by rw [leafs_len, gl]; omega
  have i1 : ((l.length + 1 : Nat) : Int).toNat = l.length + 1 := Int.toNat_natCast _
  have i2 : in62 (((l.length + 1 : Nat) : Int)) = true := x_in62 (by omega) (by omega)
  unfold m_law_pass passN
  rw [x_fn rfl]
  cases hq : (List.range (l.length + 1)).find? fun n => hit l n x y with
  | none =>
    rw [hq] at lp
    simp only [Option.map_none, Option.map_some] at lp
    simp -implicitDefEqProofs (disch := walk_at "d") only [gl, i1, i2, lp, x_bnd, x_ret, x_opt, x_bind, x_bindX, x_bindS, x_bindI, x_out, x_outX, x_outS, x_outI, x_thenS, x_seq, x_nx, x_nbrk, x_ncnt, x_nret, x_nexc, x_nstuck, x_nI, x_nil, x_brk, x_cnt, x_drop, x_sret, x_retN, x_sif, x_iteSM, x_iteM, x_asg, x_optOut, x_gt, x_gNm, x_gTp, x_gCn, x_gNl, x_aug, x_augV, x_ipAdd, x_ipSub, x_ipXor, x_pC, x_vMC, x_oV, x_bV, x_vO, x_tst, x_unBl, x_tnot, x_tand, x_tor, x_vAnd, x_vOr, x_vNot, x_vIf, x_toD, x_toDL, x_shalL, x_shalV, x_nm, x_nmO, x_pNm, x_pNmO, x_lookV, x_lookN, x_lookL, x_lookD, x_lookO, x_lookP, x_node, x_atO, x_atP, x_at, x_atS, x_chI, x_chF, x_some, x_map, x_vL, x_vLO, x_frzV, x_frzN, x_frzO, x_pFld, x_pIx, x_pD, x_pLk, x_pAt, x_dataV, x_dataL, x_dataO, x_stepIV, x_stepIL, x_stepOV, x_stepOLf, x_tOpd, x_tOpdL, x_itL, x_itF, x_itT, x_atN, x_atM, x_ixN, x_oOp, x_oU, x_pOp, x_pU, x_oA, x_pA, x_paNil, x_paCons, x_looks0, x_looks, x_aNil, x_aCons, x_vNil, x_vCons, x_vStar, x_starO, x_oLst, x_vTup, x_pTup, x_add, x_addL, x_addT, x_addS, x_sub, x_band, x_bor, x_bxor, x_mul, x_fdiv, x_mod, x_pow, x_shl, x_shr, x_neg, x_lt, x_le, x_gt', x_ge, x_eqI, x_neI, x_eqS, x_neS, x_eqB, x_neB, x_is, x_isnot, x_ixT, x_ixL, x_ixF, x_ixS, x_lenL, x_lenT, x_lenF, x_lenS, x_abs, x_min, x_max, x_int, x_intB, x_list, x_tup, x_oSl, x_ipNo, x_ipSome, x_ipO, x_slT, x_slL, x_slF, x_slS, x_put, x_putO, x_putL, x_putAt, x_putAO, x_tput, x_app, x_appO, x_appO2, x_mv, x_mvO, x_for, x_iIt, x_iterL, x_iterT, x_iterF, x_iterS, x_rsOk, x_rsX, x_call, x_callO, x_take0, x_takeV, x_takeN, x_takeO, x_give0, x_giveV, x_giveN, x_finN, x_finR, x_finX, x_finI, x_fnOut, x_optRF, x_outs0, x_outsT, x_outsF, x_ok0, x_okT, x_okF, x_iEnM, x_mExt, x_extO, x_seqL, x_seqT, x_pop, x_popO, x_oM, x_strOut, x_count, x_starts, x_sumL, x_sortedL, x_join, x_lstZip, x_iZpM, x_isD_nn, x_isD_nb, x_isD_bn, x_isD_bb, x_isD_in, x_isD_ib, x_isD_sn, x_isD_sb, x_isD_ln, x_isD_lb, x_isD_tn, x_isD_tb, x_isi_n_int, x_isi_n_bool, x_isi_n_str, x_isi_n_list, x_isi_n_tuple, x_isi_b_int, x_isi_b_bool, x_isi_b_str, x_isi_b_list, x_isi_b_tuple, x_isi_i_int, x_isi_i_bool, x_isi_i_str, x_isi_i_list, x_isi_i_tuple, x_isi_s_int, x_isi_s_bool, x_isi_s_str, x_isi_s_list, x_isi_s_tuple, x_isi_l_int, x_isi_l_bool, x_isi_l_str, x_isi_l_list, x_isi_l_tuple, x_isi_t_int, x_isi_t_bool, x_isi_t_str, x_isi_t_list, x_isi_t_tuple, x_tru, x_truN, x_truB, x_truI, x_truL, x_truF, x_truT, x_truS, x_R1, x_r1K, x_R2, x_r2K, x_in62, x_lcM, x_lcGo, x_lcRes, x_okW0, x_okW, x_okC1, x_okC2, x_okC3, x_wipe0, x_wipe, x_rest0, x_rest, x_joinS, x_chain, x_chO, x_zipT_LL, x_zpL_LL, x_zipT_LT, x_zpL_LT, x_zipT_TL, x_zpL_TL, x_zipT_TT, x_zpL_TT, x_ext2, x_ext3, x_eqIL, x_eqIT, x_cut, x_callT, x_callTO, x_drop1, x_mk0, x_mkV, x_mkK, x_fldX, x_mMake, x_setA, x_boolB, x_boolI, x_stepFL, x_eqIR, x_eqBB, Int.cast_ofNat_Int, small_of, Bool.and_self, Bool.and_true, Bool.true_and, List.getElem?_cons_zero, List.getElem?_cons_succ, List.set_cons_zero, List.set_cons_succ, List.map_cons, List.map_nil, List.replicate_zero, List.replicate_succ, List.cons_append, List.nil_append, List.length_cons, List.length_nil, leafs_snoc, leafs_app, leafs_set, leafs_len, leafs_get, Bool.not_true, Bool.not_false, Bool.false_eq_true, if_true, if_false, ite_true, ite_false, decide_eq_true_eq, Bool.not_eq_true, Bool.not_eq_true', decide_eq_false_iff_not, Nat.zero_add, Option.map_some, Int.toNat_natCast, decide_true, decide_false, reduceIte, reduceCtorEq, Int.reduceToNat, Int.reduceNeg, Int.reduceAdd, Int.reduceSub, Int.reduceMul, Int.reduceLT, Int.reduceLE, Int.reducePow, Nat.reduceLT, Nat.reduceLeDiff, Nat.reduceAdd, Nat.reduceMul, Nat.reduceSub, Int.reduceMod, Int.reduceDiv, decide_eq_true_eq, Int.reduceEq, Nat.reduceEqDiff]
    rfl
  | some m =>
    rw [hq] at lp
    simp only [Option.map_none, Option.map_some] at lp
    simp -implicitDefEqProofs (disch := walk_at "d") only [gl, i1, i2, lp, x_bnd, x_ret, x_opt, x_bind, x_bindX, x_bindS, x_bindI, x_out, x_outX, x_outS, x_outI, x_thenS, x_seq, x_nx, x_nbrk, x_ncnt, x_nret, x_nexc, x_nstuck, x_nI, x_nil, x_brk, x_cnt, x_drop, x_sret, x_retN, x_sif, x_iteSM, x_iteM, x_asg, x_optOut, x_gt, x_gNm, x_gTp, x_gCn, x_gNl, x_aug, x_augV, x_ipAdd, x_ipSub, x_ipXor, x_pC, x_vMC, x_oV, x_bV, x_vO, x_tst, x_unBl, x_tnot, x_tand, x_tor, x_vAnd, x_vOr, x_vNot, x_vIf, x_toD, x_toDL, x_shalL, x_shalV, x_nm, x_nmO, x_pNm, x_pNmO, x_lookV, x_lookN, x_lookL, x_lookD, x_lookO, x_lookP, x_node, x_atO, x_atP, x_at, x_atS, x_chI, x_chF, x_some, x_map, x_vL, x_vLO, x_frzV, x_frzN, x_frzO, x_pFld, x_pIx, x_pD, x_pLk, x_pAt, x_dataV, x_dataL, x_dataO, x_stepIV, x_stepIL, x_stepOV, x_stepOLf, x_tOpd, x_tOpdL, x_itL, x_itF, x_itT, x_atN, x_atM, x_ixN, x_oOp, x_oU, x_pOp, x_pU, x_oA, x_pA, x_paNil, x_paCons, x_looks0, x_looks, x_aNil, x_aCons, x_vNil, x_vCons, x_vStar, x_starO, x_oLst, x_vTup, x_pTup, x_add, x_addL, x_addT, x_addS, x_sub, x_band, x_bor, x_bxor, x_mul, x_fdiv, x_mod, x_pow, x_shl, x_shr, x_neg, x_lt, x_le, x_gt', x_ge, x_eqI, x_neI, x_eqS, x_neS, x_eqB, x_neB, x_is, x_isnot, x_ixT, x_ixL, x_ixF, x_ixS, x_lenL, x_lenT, x_lenF, x_lenS, x_abs, x_min, x_max, x_int, x_intB, x_list, x_tup, x_oSl, x_ipNo, x_ipSome, x_ipO, x_slT, x_slL, x_slF, x_slS, x_put, x_putO, x_putL, x_putAt, x_putAO, x_tput, x_app, x_appO, x_appO2, x_mv, x_mvO, x_for, x_iIt, x_iterL, x_iterT, x_iterF, x_iterS, x_rsOk, x_rsX, x_call, x_callO, x_take0, x_takeV, x_takeN, x_takeO, x_give0, x_giveV, x_giveN, x_finN, x_finR, x_finX, x_finI, x_fnOut, x_optRF, x_outs0, x_outsT, x_outsF, x_ok0, x_okT, x_okF, x_iEnM, x_mExt, x_extO, x_seqL, x_seqT, x_pop, x_popO, x_oM, x_strOut, x_count, x_starts, x_sumL, x_sortedL, x_join, x_lstZip, x_iZpM, x_isD_nn, x_isD_nb, x_isD_bn, x_isD_bb, x_isD_in, x_isD_ib, x_isD_sn, x_isD_sb, x_isD_ln, x_isD_lb, x_isD_tn, x_isD_tb, x_isi_n_int, x_isi_n_bool, x_isi_n_str, x_isi_n_list, x_isi_n_tuple, x_isi_b_int, x_isi_b_bool, x_isi_b_str, x_isi_b_list, x_isi_b_tuple, x_isi_i_int, x_isi_i_bool, x_isi_i_str, x_isi_i_list, x_isi_i_tuple, x_isi_s_int, x_isi_s_bool, x_isi_s_str, x_isi_s_list, x_isi_s_tuple, x_isi_l_int, x_isi_l_bool, x_isi_l_str, x_isi_l_list, x_isi_l_tuple, x_isi_t_int, x_isi_t_bool, x_isi_t_str, x_isi_t_list, x_isi_t_tuple, x_tru, x_truN, x_truB, x_truI, x_truL, x_truF, x_truT, x_truS, x_R1, x_r1K, x_R2, x_r2K, x_in62, x_lcM, x_lcGo, x_lcRes, x_okW0, x_okW, x_okC1, x_okC2, x_okC3, x_wipe0, x_wipe, x_rest0, x_rest, x_joinS, x_chain, x_chO, x_zipT_LL, x_zpL_LL, x_zipT_LT, x_zpL_LT, x_zipT_TL, x_zpL_TL, x_zipT_TT, x_zpL_TT, x_ext2, x_ext3, x_eqIL, x_eqIT, x_cut, x_callT, x_callTO, x_drop1, x_mk0, x_mkV, x_mkK, x_fldX, x_mMake, x_setA, x_boolB, x_boolI, x_stepFL, x_eqIR, x_eqBB, Int.cast_ofNat_Int, small_of, Bool.and_self, Bool.and_true, Bool.true_and, List.getElem?_cons_zero, List.getElem?_cons_succ, List.set_cons_zero, List.set_cons_succ, List.map_cons, List.map_nil, List.replicate_zero, List.replicate_succ, List.cons_append, List.nil_append, List.length_cons, List.length_nil, leafs_snoc, leafs_app, leafs_set, leafs_len, leafs_get, Bool.not_true, Bool.not_false, Bool.false_eq_true, if_true, if_false, ite_true, ite_false, decide_eq_true_eq, Bool.not_eq_true, Bool.not_eq_true', decide_eq_false_iff_not, Nat.zero_add, Option.map_some, Int.toNat_natCast, decide_true, decide_false, reduceIte, reduceCtorEq, Int.reduceToNat, Int.reduceNeg, Int.reduceAdd, Int.reduceSub, Int.reduceMul, Int.reduceLT, Int.reduceLE, Int.reducePow, Nat.reduceLT, Nat.reduceLeDiff, Nat.reduceAdd, Nat.reduceMul, Nat.reduceSub, Int.reduceMod, Int.reduceDiv, decide_eq_true_eq, Int.reduceEq, Nat.reduceEqDiff]
    rfl

end KL

namespace KL
open PySem PySem.Spec PyProof.Rows L2 Evl KP KM
local macro_rules | `(tactic| walk_at "d") => `(tactic| first | omega | (simp only [List.length_map, List.length_append, List.length_cons, List.length_nil, leafs_len, dis_len]; omega) | (simp; done))
local macro_rules | `(tactic| walk_at "m") => `(tactic| simp -implicitDefEqProofs (disch := walk_at "d") only [x_bnd, x_ret, x_opt, x_bind, x_bindX, x_bindS, x_bindI, x_out, x_outX, x_outS, x_outI, x_thenS, x_seq, x_nx, x_nbrk, x_ncnt, x_nret, x_nexc, x_nstuck, x_nI, x_nil, x_brk, x_cnt, x_drop, x_sret, x_retN, x_sif, x_iteSM, x_iteM, x_asg, x_optOut, x_gt, x_gNm, x_gTp, x_gCn, x_gNl, x_aug, x_augV, x_ipAdd, x_ipSub, x_ipXor, x_pC, x_vMC, x_oV, x_bV, x_vO, x_tst, x_unBl, x_tnot, x_tand, x_tor, x_vAnd, x_vOr, x_vNot, x_vIf, x_toD, x_toDL, x_shalL, x_shalV, x_nm, x_nmO, x_pNm, x_pNmO, x_lookV, x_lookN, x_lookL, x_lookD, x_lookO, x_lookP, x_node, x_atO, x_atP, x_at, x_atS, x_chI, x_chF, x_some, x_map, x_vL, x_vLO, x_frzV, x_frzN, x_frzO, x_pFld, x_pIx, x_pD, x_pLk, x_pAt, x_dataV, x_dataL, x_dataO, x_stepIV, x_stepIL, x_stepOV, x_stepOLf, x_tOpd, x_tOpdL, x_itL, x_itF, x_itT, x_atN, x_atM, x_ixN, x_oOp, x_oU, x_pOp, x_pU, x_oA, x_pA, x_paNil, x_paCons, x_looks0, x_looks, x_aNil, x_aCons, x_vNil, x_vCons, x_vStar, x_starO, x_oLst, x_vTup, x_pTup, x_add, x_addL, x_addT, x_addS, x_sub, x_band, x_bor, x_bxor, x_mul, x_fdiv, x_mod, x_pow, x_shl, x_shr, x_neg, x_lt, x_le, x_gt', x_ge, x_eqI, x_neI, x_eqS, x_neS, x_eqB, x_neB, x_is, x_isnot, x_ixT, x_ixL, x_ixF, x_ixS, x_lenL, x_lenT, x_lenF, x_lenS, x_abs, x_min, x_max, x_int, x_intB, x_list, x_tup, x_oSl, x_ipNo, x_ipSome, x_ipO, x_slT, x_slL, x_slF, x_slS, x_put, x_putO, x_putL, x_putAt, x_putAO, x_tput, x_app, x_appO, x_appO2, x_mv, x_mvO, x_for, x_iIt, x_iterL, x_iterT, x_iterF, x_iterS, x_rsOk, x_rsX, x_call, x_callO, x_take0, x_takeV, x_takeN, x_takeO, x_give0, x_giveV, x_giveN, x_finN, x_finR, x_finX, x_finI, x_fnOut, x_optRF, x_outs0, x_outsT, x_outsF, x_ok0, x_okT, x_okF, x_iEnM, x_mExt, x_extO, x_seqL, x_seqT, x_pop, x_popO, x_oM, x_strOut, x_count, x_starts, x_sumL, x_sortedL, x_join, x_lstZip, x_iZpM, x_isD_nn, x_isD_nb, x_isD_bn, x_isD_bb, x_isD_in, x_isD_ib, x_isD_sn, x_isD_sb, x_isD_ln, x_isD_lb, x_isD_tn, x_isD_tb, x_isi_n_int, x_isi_n_bool, x_isi_n_str, x_isi_n_list, x_isi_n_tuple, x_isi_b_int, x_isi_b_bool, x_isi_b_str, x_isi_b_list, x_isi_b_tuple, x_isi_i_int, x_isi_i_bool, x_isi_i_str, x_isi_i_list, x_isi_i_tuple, x_isi_s_int, x_isi_s_bool, x_isi_s_str, x_isi_s_list, x_isi_s_tuple, x_isi_l_int, x_isi_l_bool, x_isi_l_str, x_isi_l_list, x_isi_l_tuple, x_isi_t_int, x_isi_t_bool, x_isi_t_str, x_isi_t_list, x_isi_t_tuple, x_tru, x_truN, x_truB, x_truI, x_truL, x_truF, x_truT, x_truS, x_R1, x_r1K, x_R2, x_r2K, x_in62, x_lcM, x_lcGo, x_lcRes, x_okW0, x_okW, x_okC1, x_okC2, x_okC3, x_wipe0, x_wipe, x_rest0, x_rest, x_joinS, x_chain, x_chO, x_zipT_LL, x_zpL_LL, x_zipT_LT, x_zpL_LT, x_zipT_TL, x_zpL_TL, x_zipT_TT, x_zpL_TT, x_ext2, x_ext3, x_eqIL, x_eqIT, x_cut, x_callT, x_callTO, x_drop1, x_mk0, x_mkV, x_mkK, x_fldX, x_mMake, x_setA, x_boolB, x_boolI, x_stepFL, x_eqIR, x_eqBB, Int.cast_ofNat_Int, small_of, Bool.and_self, Bool.and_true, Bool.true_and, List.getElem?_cons_zero, List.getElem?_cons_succ, List.set_cons_zero, List.set_cons_succ, List.map_cons, List.map_nil, List.replicate_zero, List.replicate_succ, List.cons_append, List.nil_append, List.length_cons, List.length_nil, leafs_snoc, leafs_app, leafs_set, leafs_len, leafs_get, Bool.not_true, Bool.not_false, Bool.false_eq_true, if_true, if_false, ite_true, ite_false, decide_eq_true_eq, Bool.not_eq_true, Bool.not_eq_true', decide_eq_false_iff_not, Nat.zero_add, Option.map_some, Int.toNat_natCast, decide_true, decide_false, reduceIte, reduceCtorEq, Int.reduceToNat, Int.reduceNeg, Int.reduceAdd, Int.reduceSub, Int.reduceMul, Int.reduceLT, Int.reduceLE, Int.reducePow, Nat.reduceLT, Nat.reduceLeDiff, Nat.reduceAdd, Nat.reduceMul, Nat.reduceSub, Int.reduceMod, Int.reduceDiv, decide_eq_true_eq, Int.reduceEq, Nat.reduceEqDiff])

/-! ### coarse views -/
def vrow (a : Nat) (r : List Int) : List Int := (List.range r.length).map fun x => r.getD (x - x % a) 0
def V (a b : Nat) (R : List (List Int)) : List (List Int) := (List.range R.length).map fun y => vrow a (R.getD (y - y % b) [])
theorem vrow_len (a : Nat) (r : List Int) : (vrow a r).length = r.length := by unfold vrow; simp
theorem V_len (a b : Nat) (R : List (List Int)) : (V a b R).length = R.length := by unfold V; simp
theorem vrow_get {a k : Nat} {r : List Int} (h : k < r.length) : (vrow a r)[k]? = some (r.getD (k - k % a) 0) := by
  unfold vrow
  rw [List.getElem?_map, List.getElem?_range h]
  rfl
theorem V_get {a b k : Nat} {R : List (List Int)} (h : k < R.length) : (V a b R)[k]? = some (vrow a (R.getD (k - k % b) [])) := by
  unfold V
  rw [List.getElem?_map, List.getElem?_range h]
  rfl
theorem take_snoc {α : Type} {L : List α} {k : Nat} {v : α} (h : L[k]? = some v) : L.take (k + 1) = L.take k ++ [v] := by
  rw [List.take_add_one, h]
  rfl
theorem take_last {α : Type} {L : List α} {k : Nat} (h : 1 ≤ k) (h2 : k ≤ L.length) : (L.take k)[k - 1]? = L[k - 1]? := by
  rw [List.getElem?_take_of_lt (by omega)]
theorem mod_pred {k a : Nat} (ha : 0 < a) (h : k % a ≠ 0) : (k - 1) - (k - 1) % a = k - k % a := by
  have h1 := Nat.div_add_mod k a
  have h2 := Nat.mod_lt k ha
  have h3 : k - 1 = a * (k / a) + (k % a - 1) := by omega
  have h4 : (k - 1) % a = k % a - 1 := by
    rw [h3, Nat.mul_add_mod, Nat.mod_eq_of_lt (by omega)]
  omega
structure Shp (w : Nat) (R : List (List Int)) : Prop where
  h0 : 0 < R.length
  h1 : R.length ≤ 1000
  w0 : 0 < w
  w1 : w ≤ 1000
  al : ∀ r ∈ R, r.length = w
theorem Shp.get {w : Nat} {R : List (List Int)} (s : Shp w R) {k : Nat} (h : k < R.length) : ∃ r, R[k]? = some r ∧ r.length = w := by
  obtain ⟨r, hr⟩ := KM.lt_get h
  exact ⟨r, hr, s.al r (List.mem_of_getElem? hr)⟩
theorem Shp.getD {w : Nat} {R : List (List Int)} (s : Shp w R) {k : Nat} (h : k < R.length) : (R.getD k []).length = w := by
  obtain ⟨r, hr, hw⟩ := s.get h
  rw [List.getD_eq_getElem?_getD, hr]
  exact hw
theorem Shp.V {w a b : Nat} {R : List (List Int)} (s : Shp w R) : Shp w (KL.V a b R) := by
  refine ⟨by rw [V_len]; exact s.h0, by rw [V_len]; exact s.h1, s.w0, s.w1, fun r hr => ?_⟩
  unfold KL.V at hr
  obtain ⟨y, hy, rfl⟩ := List.mem_map.mp hr
  rw [vrow_len]
  exact s.getD (Nat.lt_of_le_of_lt (Nat.sub_le _ _) (List.mem_range.mp hy))
theorem Shp.wid {w : Nat} {R : List (List Int)} (s : Shp w R) : KL.wid R = w := by
  obtain ⟨h0, _, _, _, al⟩ := s
  cases R with
  | nil => simp at h0
  | cons r R => exact al r (by simp)
theorem rgD_len (a : Int) (n : Nat) : (rgD a n).length = n := by unfold rgD; simp
theorem rgD_get {n k : Nat} {d : D} (h : (rgD 0 n)[k]? = some d) : k < n ∧ d = .int (k : Nat) := by
  unfold rgD at h
  rw [List.getElem?_map] at h
  have hk : k < n := by
    rcases Nat.lt_or_ge k n with z | z
    · exact z
    · rw [List.getElem?_eq_none (by simpa using z)] at h; cases h
  rw [List.getElem?_range hk] at h
  simp at h
  exact ⟨hk, h.symm⟩
theorem e_line {l : List Bool} {n y w : Nat} {R : List (List Int)} {r : List Int} (hl : l.length ≤ 6) (hn : n ≤ l.length) (s : Shp w R) (hr : R[y]? = some r) (hy : y % stepsN l n false = 0) (out : T) (c0 : Option T) :
    ∃ c, KM.forM (gNm 6) l_law_view_0 (rgD 0 w) [some (.val (trD R)), some (.lst (leafs (grd l))), some (.val (.int ((n + 1 : Nat) : Int))), some out, some (.val (.int (y : Nat))), some (.lst []), c0]
      = .nx [some (.val (trD R)), some (.lst (leafs (grd l))), some (.val (.int ((n + 1 : Nat) : Int))), some out, some (.val (.int (y : Nat))), some (.lst (leafs (dis (vrow (stepsN l n true) r)))), c] := by
  have hw : r.length = w := s.al r (List.mem_of_getElem? hr)
  have s1 := steps_lt (n := n) (b := true) hl
  have sw := s.w1
  obtain ⟨e', k1, c, k2⟩ := forM_inv (g := gNm 6) (body := l_law_view_0) (fun k env => ∃ c, env = [some (.val (trD R)), some (.lst (leafs (grd l))), some (.val (.int ((n + 1 : Nat) : Int))), some out, some (.val (.int (y : Nat))), some (.lst (leafs (dis ((vrow (stepsN l n true) r).take k)))), c]) (rgD 0 w) 0
      [some (.val (trD R)), some (.lst (leafs (grd l))), some (.val (.int ((n + 1 : Nat) : Int))), some out, some (.val (.int (y : Nat))), some (.lst []), c0] ⟨c0, rfl⟩ fun k d env hd hp => by
    obtain ⟨c, rfl⟩ := hp
    obtain ⟨hk, rfl⟩ := rgD_get hd
    rw [Nat.zero_add]
    have hv := vrow_get (a := stepsN l n true) (r := r) (k := k) (by omega)
    have hp := e_pass (x := k) (y := y) hl
    have hlt := pass_lt (x := k) (y := y) hn
    have tl : ((vrow (stepsN l n true) r).take k).length = k := by rw [List.length_take, vrow_len]; omega
    have td := dis_len ((vrow (stepsN l n true) r).take k)
    rw [tl] at td
    refine ⟨_, [some (.val (trD R)), some (.lst (leafs (grd l))), some (.val (.int ((n + 1 : Nat) : Int))), some out, some (.val (.int (y : Nat))), some (.lst (leafs (dis ((vrow (stepsN l n true) r).take (k + 1))))), some (.val (.int (k : Nat)))], rfl, .inl ?_, _, rfl⟩
    rw [take_snoc hv, dis_app]
    have gR : (dit R)[y]? = some (.tup (dis r)) := by rw [dit_get, hr]; rfl
    unfold l_law_view_0 trD
    by_cases hk0 : k % stepsN l n true = 0
    · rw [hit_iff.mpr ⟨hk0, hy⟩, decide_eq_true_eq] at hlt
      have gk : (dis r)[k]? = some (.int (r.getD k 0)) := by
        obtain ⟨v, hv⟩ := KM.lt_get (show k < r.length by omega)
        rw [dis_get, hv, List.getD_eq_getElem?_getD, hv]
        rfl
      have e0 : k - k % stepsN l n true = k := by omega
      rw [e0]
      simp -implicitDefEqProofs (disch := walk_at "d") only [hp, hlt, gR, gk, td, x_bnd, x_ret, x_opt, x_bind, x_bindX, x_bindS, x_bindI, x_out, x_outX, x_outS, x_outI, x_thenS, x_seq, x_nx, x_nbrk, x_ncnt, x_nret, x_nexc, x_nstuck, x_nI, x_nil, x_brk, x_cnt, x_drop, x_sret, x_retN, x_sif, x_iteSM, x_iteM, x_asg, x_optOut, x_gt, x_gNm, x_gTp, x_gCn, x_gNl, x_aug, x_augV, x_ipAdd, x_ipSub, x_ipXor, x_pC, x_vMC, x_oV, x_bV, x_vO, x_tst, x_unBl, x_tnot, x_tand, x_tor, x_vAnd, x_vOr, x_vNot, x_vIf, x_toD, x_toDL, x_shalL, x_shalV, x_nm, x_nmO, x_pNm, x_pNmO, x_lookV, x_lookN, x_lookL, x_lookD, x_lookO, x_lookP, x_node, x_atO, x_atP, x_at, x_atS, x_chI, x_chF, x_some, x_map, x_vL, x_vLO, x_frzV, x_frzN, x_frzO, x_pFld, x_pIx, x_pD, x_pLk, x_pAt, x_dataV, x_dataL, x_dataO, x_stepIV, x_stepIL, x_stepOV, x_stepOLf, x_tOpd, x_tOpdL, x_itL, x_itF, x_itT, x_atN, x_atM, x_ixN, x_oOp, x_oU, x_pOp, x_pU, x_oA, x_pA, x_paNil, x_paCons, x_looks0, x_looks, x_aNil, x_aCons, x_vNil, x_vCons, x_vStar, x_starO, x_oLst, x_vTup, x_pTup, x_add, x_addL, x_addT, x_addS, x_sub, x_band, x_bor, x_bxor, x_mul, x_fdiv, x_mod, x_pow, x_shl, x_shr, x_neg, x_lt, x_le, x_gt', x_ge, x_eqI, x_neI, x_eqS, x_neS, x_eqB, x_neB, x_is, x_isnot, x_ixT, x_ixL, x_ixF, x_ixS, x_lenL, x_lenT, x_lenF, x_lenS, x_abs, x_min, x_max, x_int, x_intB, x_list, x_tup, x_oSl, x_ipNo, x_ipSome, x_ipO, x_slT, x_slL, x_slF, x_slS, x_put, x_putO, x_putL, x_putAt, x_putAO, x_tput, x_app, x_appO, x_appO2, x_mv, x_mvO, x_for, x_iIt, x_iterL, x_iterT, x_iterF, x_iterS, x_rsOk, x_rsX, x_call, x_callO, x_take0, x_takeV, x_takeN, x_takeO, x_give0, x_giveV, x_giveN, x_finN, x_finR, x_finX, x_finI, x_fnOut, x_optRF, x_outs0, x_outsT, x_outsF, x_ok0, x_okT, x_okF, x_iEnM, x_mExt, x_extO, x_seqL, x_seqT, x_pop, x_popO, x_oM, x_strOut, x_count, x_starts, x_sumL, x_sortedL, x_join, x_lstZip, x_iZpM, x_isD_nn, x_isD_nb, x_isD_bn, x_isD_bb, x_isD_in, x_isD_ib, x_isD_sn, x_isD_sb, x_isD_ln, x_isD_lb, x_isD_tn, x_isD_tb, x_isi_n_int, x_isi_n_bool, x_isi_n_str, x_isi_n_list, x_isi_n_tuple, x_isi_b_int, x_isi_b_bool, x_isi_b_str, x_isi_b_list, x_isi_b_tuple, x_isi_i_int, x_isi_i_bool, x_isi_i_str, x_isi_i_list, x_isi_i_tuple, x_isi_s_int, x_isi_s_bool, x_isi_s_str, x_isi_s_list, x_isi_s_tuple, x_isi_l_int, x_isi_l_bool, x_isi_l_str, x_isi_l_list, x_isi_l_tuple, x_isi_t_int, x_isi_t_bool, x_isi_t_str, x_isi_t_list, x_isi_t_tuple, x_tru, x_truN, x_truB, x_truI, x_truL, x_truF, x_truT, x_truS, x_R1, x_r1K, x_R2, x_r2K, x_in62, x_lcM, x_lcGo, x_lcRes, x_okW0, x_okW, x_okC1, x_okC2, x_okC3, x_wipe0, x_wipe, x_rest0, x_rest, x_joinS, x_chain, x_chO, x_zipT_LL, x_zpL_LL, x_zipT_LT, x_zpL_LT, x_zipT_TL, x_zpL_TL, x_zipT_TT, x_zpL_TT, x_ext2, x_ext3, x_eqIL, x_eqIT, x_cut, x_callT, x_callTO, x_drop1, x_mk0, x_mkV, x_mkK, x_fldX, x_mMake, x_setA, x_boolB, x_boolI, x_stepFL, x_eqIR, x_eqBB, Int.cast_ofNat_Int, small_of, Bool.and_self, Bool.and_true, Bool.true_and, List.getElem?_cons_zero, List.getElem?_cons_succ, List.set_cons_zero, List.set_cons_succ, List.map_cons, List.map_nil, List.replicate_zero, List.replicate_succ, List.cons_append, List.nil_append, List.length_cons, List.length_nil, leafs_snoc, leafs_app, leafs_set, leafs_len, leafs_get, Bool.not_true, Bool.not_false, Bool.false_eq_true, if_true, if_false, ite_true, ite_false, decide_eq_true_eq, Bool.not_eq_true, Bool.not_eq_true', decide_eq_false_iff_not, Nat.zero_add, Option.map_some, Int.toNat_natCast, decide_true, decide_false, reduceIte, reduceCtorEq, Int.reduceToNat, Int.reduceNeg, Int.reduceAdd, Int.reduceSub, Int.reduceMul, Int.reduceLT, Int.reduceLE, Int.reducePow, Nat.reduceLT, Nat.reduceLeDiff, Nat.reduceAdd, Nat.reduceMul, Nat.reduceSub, Int.reduceMod, Int.reduceDiv, decide_eq_true_eq, Int.reduceEq, Nat.reduceEqDiff]
      try rfl
    · have hh : hit l n k y = false := by
        cases z : hit l n k y with
        | false => rfl
        | true => exact absurd (hit_iff.mp z).1 hk0
      rw [hh, decide_eq_false_iff_not] at hlt
      have k0 : 1 ≤ k := by
        rcases Nat.eq_zero_or_pos k with z | z
        · subst z; exact absurd (Nat.zero_mod _) hk0
        · exact z
      have gk : (dis ((vrow (stepsN l n true) r).take k))[k - 1]? = some (.int (r.getD (k - k % stepsN l n true) 0)) := by
        rw [dis_get, take_last k0 (by rw [vrow_len]; omega), vrow_get (by omega), mod_pred (by omega) hk0]
        rfl
      have i1 : ((-1 : Int) + (k : Int)).toNat = k - 1 := by omega
      simp -implicitDefEqProofs (disch := walk_at "d") only [hp, hlt, td, i1, gk, x_bnd, x_ret, x_opt, x_bind, x_bindX, x_bindS, x_bindI, x_out, x_outX, x_outS, x_outI, x_thenS, x_seq, x_nx, x_nbrk, x_ncnt, x_nret, x_nexc, x_nstuck, x_nI, x_nil, x_brk, x_cnt, x_drop, x_sret, x_retN, x_sif, x_iteSM, x_iteM, x_asg, x_optOut, x_gt, x_gNm, x_gTp, x_gCn, x_gNl, x_aug, x_augV, x_ipAdd, x_ipSub, x_ipXor, x_pC, x_vMC, x_oV, x_bV, x_vO, x_tst, x_unBl, x_tnot, x_tand, x_tor, x_vAnd, x_vOr, x_vNot, x_vIf, x_toD, x_toDL, x_shalL, x_shalV, x_nm, x_nmO, x_pNm, x_pNmO, x_lookV, x_lookN, x_lookL, x_lookD, x_lookO, x_lookP, x_node, x_atO, x_atP, x_at, x_atS, x_chI, x_chF, x_some, x_map, x_vL, x_vLO, x_frzV, x_frzN, x_frzO, x_pFld, x_pIx, x_pD, x_pLk, x_pAt, x_dataV, x_dataL, x_dataO, x_stepIV, x_stepIL, x_stepOV, x_stepOLf, x_tOpd, x_tOpdL, x_itL, x_itF, x_itT, x_atN, x_atM, x_ixN, x_oOp, x_oU, x_pOp, x_pU, x_oA, x_pA, x_paNil, x_paCons, x_looks0, x_looks, x_aNil, x_aCons, x_vNil, x_vCons, x_vStar, x_starO, x_oLst, x_vTup, x_pTup, x_add, x_addL, x_addT, x_addS, x_sub, x_band, x_bor, x_bxor, x_mul, x_fdiv, x_mod, x_pow, x_shl, x_shr, x_neg, x_lt, x_le, x_gt', x_ge, x_eqI, x_neI, x_eqS, x_neS, x_eqB, x_neB, x_is, x_isnot, x_ixT, x_ixL, x_ixF, x_ixS, x_lenL, x_lenT, x_lenF, x_lenS, x_abs, x_min, x_max, x_int, x_intB, x_list, x_tup, x_oSl, x_ipNo, x_ipSome, x_ipO, x_slT, x_slL, x_slF, x_slS, x_put, x_putO, x_putL, x_putAt, x_putAO, x_tput, x_app, x_appO, x_appO2, x_mv, x_mvO, x_for, x_iIt, x_iterL, x_iterT, x_iterF, x_iterS, x_rsOk, x_rsX, x_call, x_callO, x_take0, x_takeV, x_takeN, x_takeO, x_give0, x_giveV, x_giveN, x_finN, x_finR, x_finX, x_finI, x_fnOut, x_optRF, x_outs0, x_outsT, x_outsF, x_ok0, x_okT, x_okF, x_iEnM, x_mExt, x_extO, x_seqL, x_seqT, x_pop, x_popO, x_oM, x_strOut, x_count, x_starts, x_sumL, x_sortedL, x_join, x_lstZip, x_iZpM, x_isD_nn, x_isD_nb, x_isD_bn, x_isD_bb, x_isD_in, x_isD_ib, x_isD_sn, x_isD_sb, x_isD_ln, x_isD_lb, x_isD_tn, x_isD_tb, x_isi_n_int, x_isi_n_bool, x_isi_n_str, x_isi_n_list, x_isi_n_tuple, x_isi_b_int, x_isi_b_bool, x_isi_b_str, x_isi_b_list, x_isi_b_tuple, x_isi_i_int, x_isi_i_bool, x_isi_i_str, x_isi_i_list, x_isi_i_tuple, x_isi_s_int, x_isi_s_bool, x_isi_s_str, x_isi_s_list, x_isi_s_tuple, x_isi_l_int, x_isi_l_bool, x_isi_l_str, x_isi_l_list, x_isi_l_tuple, x_isi_t_int, x_isi_t_bool, x_isi_t_str, x_isi_t_list, x_isi_t_tuple, x_tru, x_truN, x_truB, x_truI, x_truL, x_truF, x_truT, x_truS, x_R1, x_r1K, x_R2, x_r2K, x_in62, x_lcM, x_lcGo, x_lcRes, x_okW0, x_okW, x_okC1, x_okC2, x_okC3, x_wipe0, x_wipe, x_rest0, x_rest, x_joinS, x_chain, x_chO, x_zipT_LL, x_zpL_LL, x_zipT_LT, x_zpL_LT, x_zipT_TL, x_zpL_TL, x_zipT_TT, x_zpL_TT, x_ext2, x_ext3, x_eqIL, x_eqIT, x_cut, x_callT, x_callTO, x_drop1, x_mk0, x_mkV, x_mkK, x_fldX, x_mMake, x_setA, x_boolB, x_boolI, x_stepFL, x_eqIR, x_eqBB, Int.cast_ofNat_Int, small_of, Bool.and_self, Bool.and_true, Bool.true_and, List.getElem?_cons_zero, List.getElem?_cons_succ, List.set_cons_zero, List.set_cons_succ, List.map_cons, List.map_nil, List.replicate_zero, List.replicate_succ, List.cons_append, List.nil_append, List.length_cons, List.length_nil, leafs_snoc, leafs_app, leafs_set, leafs_len, leafs_get, Bool.not_true, Bool.not_false, Bool.false_eq_true, if_true, if_false, ite_true, ite_false, decide_eq_true_eq, Bool.not_eq_true, Bool.not_eq_true', decide_eq_false_iff_not, Nat.zero_add, Option.map_some, Int.toNat_natCast, decide_true, decide_false, reduceIte, reduceCtorEq, Int.reduceToNat, Int.reduceNeg, Int.reduceAdd, Int.reduceSub, Int.reduceMul, Int.reduceLT, Int.reduceLE, Int.reducePow, Nat.reduceLT, Nat.reduceLeDiff, Nat.reduceAdd, Nat.reduceMul, Nat.reduceSub, Int.reduceMod, Int.reduceDiv, decide_eq_true_eq, Int.reduceEq, Nat.reduceEqDiff]
      try rfl
  rw [rgD_len, Nat.zero_add] at k2
  have hall : (vrow (stepsN l n true) r).take w = vrow (stepsN l n true) r := List.take_of_length_le (by rw [vrow_len]; omega)
  rw [hall] at k2
  subst k2
  exact ⟨c, k1⟩

end KL

namespace KL
open PySem PySem.Spec PyProof.Rows L2 Evl KP KM
local macro_rules | `(tactic| walk_at "d") => `(tactic| first | omega | (simp only [List.length_map, List.length_append, List.length_cons, List.length_nil, leafs_len, dis_len]; omega) | (simp; done))
local macro_rules | `(tactic| walk_at "m") => `(tactic| simp -implicitDefEqProofs (disch := walk_at "d") only [x_bnd, x_ret, x_opt, x_bind, x_bindX, x_bindS, x_bindI, x_out, x_outX, x_outS, x_outI, x_thenS, x_seq, x_nx, x_nbrk, x_ncnt, x_nret, x_nexc, x_nstuck, x_nI, x_nil, x_brk, x_cnt, x_drop, x_sret, x_retN, x_sif, x_iteSM, x_iteM, x_asg, x_optOut, x_gt, x_gNm, x_gTp, x_gCn, x_gNl, x_aug, x_augV, x_ipAdd, x_ipSub, x_ipXor, x_pC, x_vMC, x_oV, x_bV, x_vO, x_tst, x_unBl, x_tnot, x_tand, x_tor, x_vAnd, x_vOr, x_vNot, x_vIf, x_toD, x_toDL, x_shalL, x_shalV, x_nm, x_nmO, x_pNm, x_pNmO, x_lookV, x_lookN, x_lookL, x_lookD, x_lookO, x_lookP, x_node, x_atO, x_atP, x_at, x_atS, x_chI, x_chF, x_some, x_map, x_vL, x_vLO, x_frzV, x_frzN, x_frzO, x_pFld, x_pIx, x_pD, x_pLk, x_pAt, x_dataV, x_dataL, x_dataO, x_stepIV, x_stepIL, x_stepOV, x_stepOLf, x_tOpd, x_tOpdL, x_itL, x_itF, x_itT, x_atN, x_atM, x_ixN, x_oOp, x_oU, x_pOp, x_pU, x_oA, x_pA, x_paNil, x_paCons, x_looks0, x_looks, x_aNil, x_aCons, x_vNil, x_vCons, x_vStar, x_starO, x_oLst, x_vTup, x_pTup, x_add, x_addL, x_addT, x_addS, x_sub, x_band, x_bor, x_bxor, x_mul, x_fdiv, x_mod, x_pow, x_shl, x_shr, x_neg, x_lt, x_le, x_gt', x_ge, x_eqI, x_neI, x_eqS, x_neS, x_eqB, x_neB, x_is, x_isnot, x_ixT, x_ixL, x_ixF, x_ixS, x_lenL, x_lenT, x_lenF, x_lenS, x_abs, x_min, x_max, x_int, x_intB, x_list, x_tup, x_oSl, x_ipNo, x_ipSome, x_ipO, x_slT, x_slL, x_slF, x_slS, x_put, x_putO, x_putL, x_putAt, x_putAO, x_tput, x_app, x_appO, x_appO2, x_mv, x_mvO, x_for, x_iIt, x_iterL, x_iterT, x_iterF, x_iterS, x_rsOk, x_rsX, x_call, x_callO, x_take0, x_takeV, x_takeN, x_takeO, x_give0, x_giveV, x_giveN, x_finN, x_finR, x_finX, x_finI, x_fnOut, x_optRF, x_outs0, x_outsT, x_outsF, x_ok0, x_okT, x_okF, x_iEnM, x_mExt, x_extO, x_seqL, x_seqT, x_pop, x_popO, x_oM, x_strOut, x_count, x_starts, x_sumL, x_sortedL, x_join, x_lstZip, x_iZpM, x_isD_nn, x_isD_nb, x_isD_bn, x_isD_bb, x_isD_in, x_isD_ib, x_isD_sn, x_isD_sb, x_isD_ln, x_isD_lb, x_isD_tn, x_isD_tb, x_isi_n_int, x_isi_n_bool, x_isi_n_str, x_isi_n_list, x_isi_n_tuple, x_isi_b_int, x_isi_b_bool, x_isi_b_str, x_isi_b_list, x_isi_b_tuple, x_isi_i_int, x_isi_i_bool, x_isi_i_str, x_isi_i_list, x_isi_i_tuple, x_isi_s_int, x_isi_s_bool, x_isi_s_str, x_isi_s_list, x_isi_s_tuple, x_isi_l_int, x_isi_l_bool, x_isi_l_str, x_isi_l_list, x_isi_l_tuple, x_isi_t_int, x_isi_t_bool, x_isi_t_str, x_isi_t_list, x_isi_t_tuple, x_tru, x_truN, x_truB, x_truI, x_truL, x_truF, x_truT, x_truS, x_R1, x_r1K, x_R2, x_r2K, x_in62, x_lcM, x_lcGo, x_lcRes, x_okW0, x_okW, x_okC1, x_okC2, x_okC3, x_wipe0, x_wipe, x_rest0, x_rest, x_joinS, x_chain, x_chO, x_zipT_LL, x_zpL_LL, x_zipT_LT, x_zpL_LT, x_zipT_TL, x_zpL_TL, x_zipT_TT, x_zpL_TT, x_ext2, x_ext3, x_eqIL, x_eqIT, x_cut, x_callT, x_callTO, x_drop1, x_mk0, x_mkV, x_mkK, x_fldX, x_mMake, x_setA, x_boolB, x_boolI, x_stepFL, x_eqIR, x_eqBB, Int.cast_ofNat_Int, small_of, Bool.and_self, Bool.and_true, Bool.true_and, List.getElem?_cons_zero, List.getElem?_cons_succ, List.set_cons_zero, List.set_cons_succ, List.map_cons, List.map_nil, List.replicate_zero, List.replicate_succ, List.cons_append, List.nil_append, List.length_cons, List.length_nil, leafs_snoc, leafs_app, leafs_set, leafs_len, leafs_get, Bool.not_true, Bool.not_false, Bool.false_eq_true, if_true, if_false, ite_true, ite_false, decide_eq_true_eq, Bool.not_eq_true, Bool.not_eq_true', decide_eq_false_iff_not, Nat.zero_add, Option.map_some, Int.toNat_natCast, decide_true, decide_false, reduceIte, reduceCtorEq, Int.reduceToNat, Int.reduceNeg, Int.reduceAdd, Int.reduceSub, Int.reduceMul, Int.reduceLT, Int.reduceLE, Int.reducePow, Nat.reduceLT, Nat.reduceLeDiff, Nat.reduceAdd, Nat.reduceMul, Nat.reduceSub, Int.reduceMod, Int.reduceDiv, decide_eq_true_eq, Int.reduceEq, Nat.reduceEqDiff])

theorem h0 : leafs [] = ([] : List T) := rfl
theorem e_view {l : List Bool} {n w : Nat} {R : List (List Int)} (hl : l.length ≤ 6) (hn : n ≤ l.length) (s : Shp w R) : m_law_view [.val (trD R), .lst (leafs (grd l)), .val (.int ((n + 1 : Nat) : Int))] =
    .ok (.val (trD (V (stepsN l n true) (stepsN l n false) R))) [.val (trD R), .lst (leafs (grd l)), .val (.int ((n + 1 : Nat) : Int))] := by
  have s2 := steps_lt (n := n) (b := false) hl
  have sw := s.w1
  have sh := s.h1
  obtain ⟨r0, hr0, hw0⟩ := s.get s.h0
  have g0 : (dit R)[0]? = some (.tup (dis r0)) := by rw [dit_get, hr0]; rfl
  have z0 : (dis r0).length ≤ 16777216 := by rw [dis_len]; omega
  have zR : (dit R).length ≤ 16777216 := by rw [dit_len]; omega
  have iw : in62 ((w : Nat) : Int) = true := x_in62 (by omega) (by omega)
  have iR : in62 ((R.length : Nat) : Int) = true := x_in62 (by omega) (by omega)
  obtain ⟨e', k1, c4, c5, c6, k2⟩ := forM_inv (g := gNm 4) (body := l_law_view_1) (fun k env => ∃ c4 c5 c6, env = [some (.val (trD R)), some (.lst (leafs (grd l))), some (.val (.int ((n + 1 : Nat) : Int))), some (.lst (leafs (dit ((V (stepsN l n true) (stepsN l n false) R).take k)))), c4, c5, c6])
      (rgD 0 R.length) 0 [some (.val (trD R)), some (.lst (leafs (grd l))), some (.val (.int ((n + 1 : Nat) : Int))), some (.lst []), none, none, none] ⟨none, none, none, rfl⟩ fun k d env hd hp => by
    obtain ⟨c4, c5, c6, rfl⟩ := hp
    obtain ⟨hk, rfl⟩ := rgD_get hd
    rw [Nat.zero_add]
    obtain ⟨r, hr, hw⟩ := s.get hk
    have hv := V_get (a := stepsN l n true) (b := stepsN l n false) hk
    have hp : m_law_pass [.val (.int 0), .val (.int (k : Nat)), .lst (leafs (grd l))] = _ := e_pass (x := 0) (y := k) hl
    have hlt := pass_lt (x := 0) (y := k) hn
    have tl : ((V (stepsN l n true) (stepsN l n false) R).take k).length = k := by rw [List.length_take, V_len]; omega
    have td := dit_len ((V (stepsN l n true) (stepsN l n false) R).take k)
    rw [tl] at td
    have iw2 : ((w : Nat) : Int).toNat = w := Int.toNat_natCast w
    by_cases hk0 : k % stepsN l n false = 0
    · rw [hit_iff.mpr ⟨Nat.zero_mod _, hk0⟩, decide_eq_true_eq] at hlt
      obtain ⟨c, lp⟩ := e_line hl hn s hr hk0 (.lst (leafs (dit ((V (stepsN l n true) (stepsN l n false) R).take k)))) c6
      refine ⟨_, [some (.val (trD R)), some (.lst (leafs (grd l))), some (.val (.int ((n + 1 : Nat) : Int))), some (.lst (leafs (dit ((V (stepsN l n true) (stepsN l n false) R).take (k + 1))))), some (.val (.int (k : Nat))), some (.lst (leafs (dis (vrow (stepsN l n true) r)))), c], rfl, .inl ?_, _, _, _, rfl⟩
      have e0 : k - k % stepsN l n false = k := by omega
      have gD : R.getD k [] = r := by rw [List.getD_eq_getElem?_getD, hr]; rfl
      rw [e0, gD] at hv
      rw [take_snoc hv, dit_app]
      unfold trD at lp ⊢
      unfold l_law_view_1
      simp -implicitDefEqProofs (disch := walk_at "d") only [hp, hlt, g0, dis_len, hw0, iw, iw2, h0, lp, td, x_bnd, x_ret, x_opt, x_bind, x_bindX, x_bindS, x_bindI, x_out, x_outX, x_outS, x_outI, x_thenS, x_seq, x_nx, x_nbrk, x_ncnt, x_nret, x_nexc, x_nstuck, x_nI, x_nil, x_brk, x_cnt, x_drop, x_sret, x_retN, x_sif, x_iteSM, x_iteM, x_asg, x_optOut, x_gt, x_gNm, x_gTp, x_gCn, x_gNl, x_aug, x_augV, x_ipAdd, x_ipSub, x_ipXor, x_pC, x_vMC, x_oV, x_bV, x_vO, x_tst, x_unBl, x_tnot, x_tand, x_tor, x_vAnd, x_vOr, x_vNot, x_vIf, x_toD, x_toDL, x_shalL, x_shalV, x_nm, x_nmO, x_pNm, x_pNmO, x_lookV, x_lookN, x_lookL, x_lookD, x_lookO, x_lookP, x_node, x_atO, x_atP, x_at, x_atS, x_chI, x_chF, x_some, x_map, x_vL, x_vLO, x_frzV, x_frzN, x_frzO, x_pFld, x_pIx, x_pD, x_pLk, x_pAt, x_dataV, x_dataL, x_dataO, x_stepIV, x_stepIL, x_stepOV, x_stepOLf, x_tOpd, x_tOpdL, x_itL, x_itF, x_itT, x_atN, x_atM, x_ixN, x_oOp, x_oU, x_pOp, x_pU, x_oA, x_pA, x_paNil, x_paCons, x_looks0, x_looks, x_aNil, x_aCons, x_vNil, x_vCons, x_vStar, x_starO, x_oLst, x_vTup, x_pTup, x_add, x_addL, x_addT, x_addS, x_sub, x_band, x_bor, x_bxor, x_mul, x_fdiv, x_mod, x_pow, x_shl, x_shr, x_neg, x_lt, x_le, x_gt', x_ge, x_eqI, x_neI, x_eqS, x_neS, x_eqB, x_neB, x_is, x_isnot, x_ixT, x_ixL, x_ixF, x_ixS, x_lenL, x_lenT, x_lenF, x_lenS, x_abs, x_min, x_max, x_int, x_intB, x_list, x_tup, x_oSl, x_ipNo, x_ipSome, x_ipO, x_slT, x_slL, x_slF, x_slS, x_put, x_putO, x_putL, x_putAt, x_putAO, x_tput, x_app, x_appO, x_appO2, x_mv, x_mvO, x_for, x_iIt, x_iterL, x_iterT, x_iterF, x_iterS, x_rsOk, x_rsX, x_call, x_callO, x_take0, x_takeV, x_takeN, x_takeO, x_give0, x_giveV, x_giveN, x_finN, x_finR, x_finX, x_finI, x_fnOut, x_optRF, x_outs0, x_outsT, x_outsF, x_ok0, x_okT, x_okF, x_iEnM, x_mExt, x_extO, x_seqL, x_seqT, x_pop, x_popO, x_oM, x_strOut, x_count, x_starts, x_sumL, x_sortedL, x_join, x_lstZip, x_iZpM, x_isD_nn, x_isD_nb, x_isD_bn, x_isD_bb, x_isD_in, x_isD_ib, x_isD_sn, x_isD_sb, x_isD_ln, x_isD_lb, x_isD_tn, x_isD_tb, x_isi_n_int, x_isi_n_bool, x_isi_n_str, x_isi_n_list, x_isi_n_tuple, x_isi_b_int, x_isi_b_bool, x_isi_b_str, x_isi_b_list, x_isi_b_tuple, x_isi_i_int, x_isi_i_bool, x_isi_i_str, x_isi_i_list, x_isi_i_tuple, x_isi_s_int, x_isi_s_bool, x_isi_s_str, x_isi_s_list, x_isi_s_tuple, x_isi_l_int, x_isi_l_bool, x_isi_l_str, x_isi_l_list, x_isi_l_tuple, x_isi_t_int, x_isi_t_bool, x_isi_t_str, x_isi_t_list, x_isi_t_tuple, x_tru, x_truN, x_truB, x_truI, x_truL, x_truF, x_truT, x_truS, x_R1, x_r1K, x_R2, x_r2K, x_in62, x_lcM, x_lcGo, x_lcRes, x_okW0, x_okW, x_okC1, x_okC2, x_okC3, x_wipe0, x_wipe, x_rest0, x_rest, x_joinS, x_chain, x_chO, x_zipT_LL, x_zpL_LL, x_zipT_LT, x_zpL_LT, x_zipT_TL, x_zpL_TL, x_zipT_TT, x_zpL_TT, x_ext2, x_ext3, x_eqIL, x_eqIT, x_cut, x_callT, x_callTO, x_drop1, x_mk0, x_mkV, x_mkK, x_fldX, x_mMake, x_setA, x_boolB, x_boolI, x_stepFL, x_eqIR, x_eqBB, Int.cast_ofNat_Int, small_of, Bool.and_self, Bool.and_true, Bool.true_and, List.getElem?_cons_zero, List.getElem?_cons_succ, List.set_cons_zero, List.set_cons_succ, List.map_cons, List.map_nil, List.replicate_zero, List.replicate_succ, List.cons_append, List.nil_append, List.length_cons, List.length_nil, leafs_snoc, leafs_app, leafs_set, leafs_len, leafs_get, Bool.not_true, Bool.not_false, Bool.false_eq_true, if_true, if_false, ite_true, ite_false, decide_eq_true_eq, Bool.not_eq_true, Bool.not_eq_true', decide_eq_false_iff_not, Nat.zero_add, Option.map_some, Int.toNat_natCast, decide_true, decide_false, reduceIte, reduceCtorEq, Int.reduceToNat, Int.reduceNeg, Int.reduceAdd, Int.reduceSub, Int.reduceMul, Int.reduceLT, Int.reduceLE, Int.reducePow, Nat.reduceLT, Nat.reduceLeDiff, Nat.reduceAdd, Nat.reduceMul, Nat.reduceSub, Int.reduceMod, Int.reduceDiv, decide_eq_true_eq, Int.reduceEq, Nat.reduceEqDiff]
      try rfl
    · have hh : hit l n 0 k = false := by
        cases z : hit l n 0 k with
        | false => rfl
        | true => exact absurd (hit_iff.mp z).2 hk0
      rw [hh, decide_eq_false_iff_not] at hlt
      have k0 : 1 ≤ k := by
        rcases Nat.eq_zero_or_pos k with z | z
        · subst z; exact absurd (Nat.zero_mod _) hk0
        · exact z
      refine ⟨_, [some (.val (trD R)), some (.lst (leafs (grd l))), some (.val (.int ((n + 1 : Nat) : Int))), some (.lst (leafs (dit ((V (stepsN l n true) (stepsN l n false) R).take (k + 1))))), some (.val (.int (k : Nat))), some (.lst (leafs (dis (vrow (stepsN l n true) (R.getD (k - k % stepsN l n false) []))))), c6], rfl, .inl ?_, _, _, _, rfl⟩
      have gk : (dit ((V (stepsN l n true) (stepsN l n false) R).take k))[k - 1]? = some (.tup (dis (vrow (stepsN l n true) (R.getD (k - k % stepsN l n false) [])))) := by
        rw [dit_get, take_last k0 (by rw [V_len]; omega), V_get (by omega), mod_pred (by omega) hk0]
        rfl
      have i1 : ((-1 : Int) + (k : Int)).toNat = k - 1 := by omega
      rw [take_snoc hv, dit_app]
      unfold l_law_view_1 trD
      simp -implicitDefEqProofs (disch := walk_at "d") only [hp, hlt, td, i1, gk, x_bnd, x_ret, x_opt, x_bind, x_bindX, x_bindS, x_bindI, x_out, x_outX, x_outS, x_outI, x_thenS, x_seq, x_nx, x_nbrk, x_ncnt, x_nret, x_nexc, x_nstuck, x_nI, x_nil, x_brk, x_cnt, x_drop, x_sret, x_retN, x_sif, x_iteSM, x_iteM, x_asg, x_optOut, x_gt, x_gNm, x_gTp, x_gCn, x_gNl, x_aug, x_augV, x_ipAdd, x_ipSub, x_ipXor, x_pC, x_vMC, x_oV, x_bV, x_vO, x_tst, x_unBl, x_tnot, x_tand, x_tor, x_vAnd, x_vOr, x_vNot, x_vIf, x_toD, x_toDL, x_shalL, x_shalV, x_nm, x_nmO, x_pNm, x_pNmO, x_lookV, x_lookN, x_lookL, x_lookD, x_lookO, x_lookP, x_node, x_atO, x_atP, x_at, x_atS, x_chI, x_chF, x_some, x_map, x_vL, x_vLO, x_frzV, x_frzN, x_frzO, x_pFld, x_pIx, x_pD, x_pLk, x_pAt, x_dataV, x_dataL, x_dataO, x_stepIV, x_stepIL, x_stepOV, x_stepOLf, x_tOpd, x_tOpdL, x_itL, x_itF, x_itT, x_atN, x_atM, x_ixN, x_oOp, x_oU, x_pOp, x_pU, x_oA, x_pA, x_paNil, x_paCons, x_looks0, x_looks, x_aNil, x_aCons, x_vNil, x_vCons, x_vStar, x_starO, x_oLst, x_vTup, x_pTup, x_add, x_addL, x_addT, x_addS, x_sub, x_band, x_bor, x_bxor, x_mul, x_fdiv, x_mod, x_pow, x_shl, x_shr, x_neg, x_lt, x_le, x_gt', x_ge, x_eqI, x_neI, x_eqS, x_neS, x_eqB, x_neB, x_is, x_isnot, x_ixT, x_ixL, x_ixF, x_ixS, x_lenL, x_lenT, x_lenF, x_lenS, x_abs, x_min, x_max, x_int, x_intB, x_list, x_tup, x_oSl, x_ipNo, x_ipSome, x_ipO, x_slT, x_slL, x_slF, x_slS, x_put, x_putO, x_putL, x_putAt, x_putAO, x_tput, x_app, x_appO, x_appO2, x_mv, x_mvO, x_for, x_iIt, x_iterL, x_iterT, x_iterF, x_iterS, x_rsOk, x_rsX, x_call, x_callO, x_take0, x_takeV, x_takeN, x_takeO, x_give0, x_giveV, x_giveN, x_finN, x_finR, x_finX, x_finI, x_fnOut, x_optRF, x_outs0, x_outsT, x_outsF, x_ok0, x_okT, x_okF, x_iEnM, x_mExt, x_extO, x_seqL, x_seqT, x_pop, x_popO, x_oM, x_strOut, x_count, x_starts, x_sumL, x_sortedL, x_join, x_lstZip, x_iZpM, x_isD_nn, x_isD_nb, x_isD_bn, x_isD_bb, x_isD_in, x_isD_ib, x_isD_sn, x_isD_sb, x_isD_ln, x_isD_lb, x_isD_tn, x_isD_tb, x_isi_n_int, x_isi_n_bool, x_isi_n_str, x_isi_n_list, x_isi_n_tuple, x_isi_b_int, x_isi_b_bool, x_isi_b_str, x_isi_b_list, x_isi_b_tuple, x_isi_i_int, x_isi_i_bool, x_isi_i_str, x_isi_i_list, x_isi_i_tuple, x_isi_s_int, x_isi_s_bool, x_isi_s_str, x_isi_s_list, x_isi_s_tuple, x_isi_l_int, x_isi_l_bool, x_isi_l_str, x_isi_l_list, x_isi_l_tuple, x_isi_t_int, x_isi_t_bool, x_isi_t_str, x_isi_t_list, x_isi_t_tuple, x_tru, x_truN, x_truB, x_truI, x_truL, x_truF, x_truT, x_truS, x_R1, x_r1K, x_R2, x_r2K, x_in62, x_lcM, x_lcGo, x_lcRes, x_okW0, x_okW, x_okC1, x_okC2, x_okC3, x_wipe0, x_wipe, x_rest0, x_rest, x_joinS, x_chain, x_chO, x_zipT_LL, x_zpL_LL, x_zipT_LT, x_zpL_LT, x_zipT_TL, x_zpL_TL, x_zipT_TT, x_zpL_TT, x_ext2, x_ext3, x_eqIL, x_eqIT, x_cut, x_callT, x_callTO, x_drop1, x_mk0, x_mkV, x_mkK, x_fldX, x_mMake, x_setA, x_boolB, x_boolI, x_stepFL, x_eqIR, x_eqBB, Int.cast_ofNat_Int, small_of, Bool.and_self, Bool.and_true, Bool.true_and, List.getElem?_cons_zero, List.getElem?_cons_succ, List.set_cons_zero, List.set_cons_succ, List.map_cons, List.map_nil, List.replicate_zero, List.replicate_succ, List.cons_append, List.nil_append, List.length_cons, List.length_nil, leafs_snoc, leafs_app, leafs_set, leafs_len, leafs_get, Bool.not_true, Bool.not_false, Bool.false_eq_true, if_true, if_false, ite_true, ite_false, decide_eq_true_eq, Bool.not_eq_true, Bool.not_eq_true', decide_eq_false_iff_not, Nat.zero_add, Option.map_some, Int.toNat_natCast, decide_true, decide_false, reduceIte, reduceCtorEq, Int.reduceToNat, Int.reduceNeg, Int.reduceAdd, Int.reduceSub, Int.reduceMul, Int.reduceLT, Int.reduceLE, Int.reducePow, Nat.reduceLT, Nat.reduceLeDiff, Nat.reduceAdd, Nat.reduceMul, Nat.reduceSub, Int.reduceMod, Int.reduceDiv, decide_eq_true_eq, Int.reduceEq, Nat.reduceEqDiff]
      try rfl
  rw [rgD_len, Nat.zero_add] at k2
  have hall : (V (stepsN l n true) (stepsN l n false) R).take R.length = V (stepsN l n true) (stepsN l n false) R := List.take_of_length_le (by rw [V_len]; omega)
  rw [hall] at k2
  subst k2
  have iR2 : ((R.length : Nat) : Int).toNat = R.length := Int.toNat_natCast _
  unfold m_law_view
  rw [x_fn rfl]
  unfold trD at k1 ⊢
  simp -implicitDefEqProofs (disch := walk_at "d") only [dit_len, iR, iR2, h0, k1, x_bnd, x_ret, x_opt, x_bind, x_bindX, x_bindS, x_bindI, x_out, x_outX, x_outS, x_outI, x_thenS, x_seq, x_nx, x_nbrk, x_ncnt, x_nret, x_nexc, x_nstuck, x_nI, x_nil, x_brk, x_cnt, x_drop, x_sret, x_retN, x_sif, x_iteSM, x_iteM, x_asg, x_optOut, x_gt, x_gNm, x_gTp, x_gCn, x_gNl, x_aug, x_augV, x_ipAdd, x_ipSub, x_ipXor, x_pC, x_vMC, x_oV, x_bV, x_vO, x_tst, x_unBl, x_tnot, x_tand, x_tor, x_vAnd, x_vOr, x_vNot, x_vIf, x_toD, x_toDL, x_shalL, x_shalV, x_nm, x_nmO, x_pNm, x_pNmO, x_lookV, x_lookN, x_lookL, x_lookD, x_lookO, x_lookP, x_node, x_atO, x_atP, x_at, x_atS, x_chI, x_chF, x_some, x_map, x_vL, x_vLO, x_frzV, x_frzN, x_frzO, x_pFld, x_pIx, x_pD, x_pLk, x_pAt, x_dataV, x_dataL, x_dataO, x_stepIV, x_stepIL, x_stepOV, x_stepOLf, x_tOpd, x_tOpdL, x_itL, x_itF, x_itT, x_atN, x_atM, x_ixN, x_oOp, x_oU, x_pOp, x_pU, x_oA, x_pA, x_paNil, x_paCons, x_looks0, x_looks, x_aNil, x_aCons, x_vNil, x_vCons, x_vStar, x_starO, x_oLst, x_vTup, x_pTup, x_add, x_addL, x_addT, x_addS, x_sub, x_band, x_bor, x_bxor, x_mul, x_fdiv, x_mod, x_pow, x_shl, x_shr, x_neg, x_lt, x_le, x_gt', x_ge, x_eqI, x_neI, x_eqS, x_neS, x_eqB, x_neB, x_is, x_isnot, x_ixT, x_ixL, x_ixF, x_ixS, x_lenL, x_lenT, x_lenF, x_lenS, x_abs, x_min, x_max, x_int, x_intB, x_list, x_tup, x_oSl, x_ipNo, x_ipSome, x_ipO, x_slT, x_slL, x_slF, x_slS, x_put, x_putO, x_putL, x_putAt, x_putAO, x_tput, x_app, x_appO, x_appO2, x_mv, x_mvO, x_for, x_iIt, x_iterL, x_iterT, x_iterF, x_iterS, x_rsOk, x_rsX, x_call, x_callO, x_take0, x_takeV, x_takeN, x_takeO, x_give0, x_giveV, x_giveN, x_finN, x_finR, x_finX, x_finI, x_fnOut, x_optRF, x_outs0, x_outsT, x_outsF, x_ok0, x_okT, x_okF, x_iEnM, x_mExt, x_extO, x_seqL, x_seqT, x_pop, x_popO, x_oM, x_strOut, x_count, x_starts, x_sumL, x_sortedL, x_join, x_lstZip, x_iZpM, x_isD_nn, x_isD_nb, x_isD_bn, x_isD_bb, x_isD_in, x_isD_ib, x_isD_sn, x_isD_sb, x_isD_ln, x_isD_lb, x_isD_tn, x_isD_tb, x_isi_n_int, x_isi_n_bool, x_isi_n_str, x_isi_n_list, x_isi_n_tuple, x_isi_b_int, x_isi_b_bool, x_isi_b_str, x_isi_b_list, x_isi_b_tuple, x_isi_i_int, x_isi_i_bool, x_isi_i_str, x_isi_i_list, x_isi_i_tuple, x_isi_s_int, x_isi_s_bool, x_isi_s_str, x_isi_s_list, x_isi_s_tuple, x_isi_l_int, x_isi_l_bool, x_isi_l_str, x_isi_l_list, x_isi_l_tuple, x_isi_t_int, x_isi_t_bool, x_isi_t_str, x_isi_t_list, x_isi_t_tuple, x_tru, x_truN, x_truB, x_truI, x_truL, x_truF, x_truT, x_truS, x_R1, x_r1K, x_R2, x_r2K, x_in62, x_lcM, x_lcGo, x_lcRes, x_okW0, x_okW, x_okC1, x_okC2, x_okC3, x_wipe0, x_wipe, x_rest0, x_rest, x_joinS, x_chain, x_chO, x_zipT_LL, x_zpL_LL, x_zipT_LT, x_zpL_LT, x_zipT_TL, x_zpL_TL, x_zipT_TT, x_zpL_TT, x_ext2, x_ext3, x_eqIL, x_eqIT, x_cut, x_callT, x_callTO, x_drop1, x_mk0, x_mkV, x_mkK, x_fldX, x_mMake, x_setA, x_boolB, x_boolI, x_stepFL, x_eqIR, x_eqBB, Int.cast_ofNat_Int, small_of, Bool.and_self, Bool.and_true, Bool.true_and, List.getElem?_cons_zero, List.getElem?_cons_succ, List.set_cons_zero, List.set_cons_succ, List.map_cons, List.map_nil, List.replicate_zero, List.replicate_succ, List.cons_append, List.nil_append, List.length_cons, List.length_nil, leafs_snoc, leafs_app, leafs_set, leafs_len, leafs_get, Bool.not_true, Bool.not_false, Bool.false_eq_true, if_true, if_false, ite_true, ite_false, decide_eq_true_eq, Bool.not_eq_true, Bool.not_eq_true', decide_eq_false_iff_not, Nat.zero_add, Option.map_some, Int.toNat_natCast, decide_true, decide_false, reduceIte, reduceCtorEq, Int.reduceToNat, Int.reduceNeg, Int.reduceAdd, Int.reduceSub, Int.reduceMul, Int.reduceLT, Int.reduceLE, Int.reducePow, Nat.reduceLT, Nat.reduceLeDiff, Nat.reduceAdd, Nat.reduceMul, Nat.reduceSub, Int.reduceMod, Int.reduceDiv, decide_eq_true_eq, Int.reduceEq, Nat.reduceEqDiff]
/-- rows as lists -/
def lit (A : List (List Int)) : List T := A.map fun a => .lst (leafs (dis a))
theorem lit_len (A : List (List Int)) : (lit A).length = A.length := List.length_map _
theorem lit_toD (A : List (List Int)) : toD (.lst (lit A)) = .lst (A.map fun a => .lst (dis a)) := by
  show D.lst (toDs (lit A)) = _
  congr 1
  unfold lit
  induction A with
  | nil => rfl
  | cons a A ih =>
    show toD (.lst (leafs (dis a))) :: toDs _ = _
    rw [ih, x_toDL]
    rfl
def vwf (a : Nat) (r : List Int) : D → D
  | .int x => .int (r.getD (x.toNat - x.toNat % a) 0)
  | _ => .non
theorem vwf_int (a : Nat) (r : List Int) (x : Nat) : vwf a r (.int (x : Nat)) = .int (r.getD (x - x % a) 0) := by
  show D.int (r.getD (((x : Nat) : Int).toNat - ((x : Nat) : Int).toNat % a) 0) = _
  rw [Int.toNat_natCast]
theorem e_coarse {l : List Bool} {n w : Nat} {m : Int} {R : List (List Int)} (hl : l.length ≤ 6) (hn : n ≤ l.length) (s : Shp w R) : m_coarse_view [shT m R, .val (.str (wS l)), .val (.int ((n + 1 : Nat) : Int))] =
    .ok (shT m (V (stepsN l n true) (stepsN l n false) R)) [shT m R, .val (.str (wS l)), .val (.int ((n + 1 : Nat) : Int))] := by
  have s1 := steps_lt (n := n) (b := true) hl
  have s2 := steps_lt (n := n) (b := false) hl
  have sw := s.w1
  have sh := s.h1
  have wd := s.wid
  have iw : in62 ((w : Nat) : Int) = true := x_in62 (by omega) (by omega)
  have iR : in62 ((R.length : Nat) : Int) = true := x_in62 (by omega) (by omega)
  have iw2 : ((w : Nat) : Int).toNat = w := Int.toNat_natCast w
  have iR2 : ((R.length : Nat) : Int).toNat = R.length := Int.toNat_natCast _
  have gs := e_gsteps (n := n) hl
  have en : ((n + 1 : Nat) : Int) - 1 = (n : Nat) := by omega
  obtain ⟨e', k1, c6, c7, k2⟩ := forM_inv (g := gNm 6) (body := l_coarse_view_1) (fun k env => ∃ c6 c7, env = [some (shT m R), some (.val (.str (wS l))), some (.val (.int ((n + 1 : Nat) : Int))), some (.val (.int (stepsN l n true : Nat))), some (.val (.int (stepsN l n false : Nat))), some (.lst (lit ((V (stepsN l n true) (stepsN l n false) R).take k))), c6, c7, none])
      (rgD 0 R.length) 0 [some (shT m R), some (.val (.str (wS l))), some (.val (.int ((n + 1 : Nat) : Int))), some (.val (.int (stepsN l n true : Nat))), some (.val (.int (stepsN l n false : Nat))), some (.lst []), none, none, none] ⟨none, none, rfl⟩ fun k d env hd hp => by
    obtain ⟨c6, c7, rfl⟩ := hp
    obtain ⟨hk, rfl⟩ := rgD_get hd
    rw [Nat.zero_add]
    have hv := V_get (a := stepsN l n true) (b := stepsN l n false) hk
    have hkm : k - k % stepsN l n false < R.length := Nat.lt_of_le_of_lt (Nat.sub_le _ _) hk
    obtain ⟨r, hr, hw⟩ := s.get hkm
    have gD : R.getD (k - k % stepsN l n false) [] = r := by rw [List.getD_eq_getElem?_getD, hr]; rfl
    rw [gD] at hv
    have gR : (dit R)[k - k % stepsN l n false]? = some (.tup (dis r)) := by rw [dit_get, hr]; rfl
    have mb := Nat.mod_le k (stepsN l n false)
    have ik : ((k : Nat) : Int) - ((k : Nat) : Int) % ((stepsN l n false : Nat) : Int) = ((k - k % stepsN l n false : Nat) : Int) := by omega
    have lp : ∀ c, lcLoop [8] (gNm 8) tYesM l_coarse_view_0 (rgD 0 w) [] [some (shT m R), some (.val (.str (wS l))), some (.val (.int ((n + 1 : Nat) : Int))), some (.val (.int (stepsN l n true : Nat))), some (.val (.int (stepsN l n false : Nat))), some (.lst (lit ((V (stepsN l n true) (stepsN l n false) R).take k))), c, some (.val (.tup (dis r))), none]
        = .ok (leafs (dis (vrow (stepsN l n true) r))) [some (shT m R), some (.val (.str (wS l))), some (.val (.int ((n + 1 : Nat) : Int))), some (.val (.int (stepsN l n true : Nat))), some (.val (.int (stepsN l n false : Nat))), some (.lst (lit ((V (stepsN l n true) (stepsN l n false) R).take k))), c, some (.val (.tup (dis r))), none] := fun c => by
      have e : dis (vrow (stepsN l n true) r) = ((rgD 0 w).filter fun _ => true).map (vwf (stepsN l n true) r) := by
        rw [List.filter_eq_self.mpr (fun _ _ => rfl)]
        unfold dis vrow rgD
        rw [List.map_map, List.map_map, hw]
        refine List.map_congr_left fun x _ => ?_
        show D.int _ = vwf _ r (D.int (0 + (x : Int)))
        rw [Int.zero_add, vwf_int]
      rw [e]
      refine lcLoop_filt _ (fun _ => true) _ (rgD 0 w) (by rw [rgD_len]; omega) fun d hd => ?_
      obtain ⟨x, hx, rfl⟩ := rg_mem hd
      have mx := Nat.mod_le x (stepsN l n true)
      have ix : ((x : Nat) : Int) - ((x : Nat) : Int) % ((stepsN l n true : Nat) : Int) = ((x - x % stepsN l n true : Nat) : Int) := by omega
      have gx : (dis r)[x - x % stepsN l n true]? = some (.int (r.getD (x - x % stepsN l n true) 0)) := by
        obtain ⟨v, hv⟩ := KM.lt_get (show x - x % stepsN l n true < r.length by omega)
        rw [dis_get, hv, List.getD_eq_getElem?_getD, hv]
        rfl
      refine ⟨_, rfl, rfl, fun _ => ?_, rfl⟩
      rw [vwf_int]
      unfold l_coarse_view_0
      simp -implicitDefEqProofs (disch := walk_at "d") only [ix, gx, x_bnd, x_ret, x_opt, x_bind, x_bindX, x_bindS, x_bindI, x_out, x_outX, x_outS, x_outI, x_thenS, x_seq, x_nx, x_nbrk, x_ncnt, x_nret, x_nexc, x_nstuck, x_nI, x_nil, x_brk, x_cnt, x_drop, x_sret, x_retN, x_sif, x_iteSM, x_iteM, x_asg, x_optOut, x_gt, x_gNm, x_gTp, x_gCn, x_gNl, x_aug, x_augV, x_ipAdd, x_ipSub, x_ipXor, x_pC, x_vMC, x_oV, x_bV, x_vO, x_tst, x_unBl, x_tnot, x_tand, x_tor, x_vAnd, x_vOr, x_vNot, x_vIf, x_toD, x_toDL, x_shalL, x_shalV, x_nm, x_nmO, x_pNm, x_pNmO, x_lookV, x_lookN, x_lookL, x_lookD, x_lookO, x_lookP, x_node, x_atO, x_atP, x_at, x_atS, x_chI, x_chF, x_some, x_map, x_vL, x_vLO, x_frzV, x_frzN, x_frzO, x_pFld, x_pIx, x_pD, x_pLk, x_pAt, x_dataV, x_dataL, x_dataO, x_stepIV, x_stepIL, x_stepOV, x_stepOLf, x_tOpd, x_tOpdL, x_itL, x_itF, x_itT, x_atN, x_atM, x_ixN, x_oOp, x_oU, x_pOp, x_pU, x_oA, x_pA, x_paNil, x_paCons, x_looks0, x_looks, x_aNil, x_aCons, x_vNil, x_vCons, x_vStar, x_starO, x_oLst, x_vTup, x_pTup, x_add, x_addL, x_addT, x_addS, x_sub, x_band, x_bor, x_bxor, x_mul, x_fdiv, x_mod, x_pow, x_shl, x_shr, x_neg, x_lt, x_le, x_gt', x_ge, x_eqI, x_neI, x_eqS, x_neS, x_eqB, x_neB, x_is, x_isnot, x_ixT, x_ixL, x_ixF, x_ixS, x_lenL, x_lenT, x_lenF, x_lenS, x_abs, x_min, x_max, x_int, x_intB, x_list, x_tup, x_oSl, x_ipNo, x_ipSome, x_ipO, x_slT, x_slL, x_slF, x_slS, x_put, x_putO, x_putL, x_putAt, x_putAO, x_tput, x_app, x_appO, x_appO2, x_mv, x_mvO, x_for, x_iIt, x_iterL, x_iterT, x_iterF, x_iterS, x_rsOk, x_rsX, x_call, x_callO, x_take0, x_takeV, x_takeN, x_takeO, x_give0, x_giveV, x_giveN, x_finN, x_finR, x_finX, x_finI, x_fnOut, x_optRF, x_outs0, x_outsT, x_outsF, x_ok0, x_okT, x_okF, x_iEnM, x_mExt, x_extO, x_seqL, x_seqT, x_pop, x_popO, x_oM, x_strOut, x_count, x_starts, x_sumL, x_sortedL, x_join, x_lstZip, x_iZpM, x_isD_nn, x_isD_nb, x_isD_bn, x_isD_bb, x_isD_in, x_isD_ib, x_isD_sn, x_isD_sb, x_isD_ln, x_isD_lb, x_isD_tn, x_isD_tb, x_isi_n_int, x_isi_n_bool, x_isi_n_str, x_isi_n_list, x_isi_n_tuple, x_isi_b_int, x_isi_b_bool, x_isi_b_str, x_isi_b_list, x_isi_b_tuple, x_isi_i_int, x_isi_i_bool, x_isi_i_str, x_isi_i_list, x_isi_i_tuple, x_isi_s_int, x_isi_s_bool, x_isi_s_str, x_isi_s_list, x_isi_s_tuple, x_isi_l_int, x_isi_l_bool, x_isi_l_str, x_isi_l_list, x_isi_l_tuple, x_isi_t_int, x_isi_t_bool, x_isi_t_str, x_isi_t_list, x_isi_t_tuple, x_tru, x_truN, x_truB, x_truI, x_truL, x_truF, x_truT, x_truS, x_R1, x_r1K, x_R2, x_r2K, x_in62, x_lcM, x_lcGo, x_lcRes, x_okW0, x_okW, x_okC1, x_okC2, x_okC3, x_wipe0, x_wipe, x_rest0, x_rest, x_joinS, x_chain, x_chO, x_zipT_LL, x_zpL_LL, x_zipT_LT, x_zpL_LT, x_zipT_TL, x_zpL_TL, x_zipT_TT, x_zpL_TT, x_ext2, x_ext3, x_eqIL, x_eqIT, x_cut, x_callT, x_callTO, x_drop1, x_mk0, x_mkV, x_mkK, x_fldX, x_mMake, x_setA, x_boolB, x_boolI, x_stepFL, x_eqIR, x_eqBB, Int.cast_ofNat_Int, small_of, Bool.and_self, Bool.and_true, Bool.true_and, List.getElem?_cons_zero, List.getElem?_cons_succ, List.set_cons_zero, List.set_cons_succ, List.map_cons, List.map_nil, List.replicate_zero, List.replicate_succ, List.cons_append, List.nil_append, List.length_cons, List.length_nil, leafs_snoc, leafs_app, leafs_set, leafs_len, leafs_get, Bool.not_true, Bool.not_false, Bool.false_eq_true, if_true, if_false, ite_true, ite_false, decide_eq_true_eq, Bool.not_eq_true, Bool.not_eq_true', decide_eq_false_iff_not, Nat.zero_add, Option.map_some, Int.toNat_natCast, decide_true, decide_false, reduceIte, reduceCtorEq, Int.reduceToNat, Int.reduceNeg, Int.reduceAdd, Int.reduceSub, Int.reduceMul, Int.reduceLT, Int.reduceLE, Int.reducePow, Nat.reduceLT, Nat.reduceLeDiff, Nat.reduceAdd, Nat.reduceMul, Nat.reduceSub, Int.reduceMod, Int.reduceDiv, decide_eq_true_eq, Int.reduceEq, Nat.reduceEqDiff]
      try rfl
    refine ⟨_, [some (shT m R), some (.val (.str (wS l))), some (.val (.int ((n + 1 : Nat) : Int))), some (.val (.int (stepsN l n true : Nat))), some (.val (.int (stepsN l n false : Nat))), some (.lst (lit ((V (stepsN l n true) (stepsN l n false) R).take (k + 1)))), some (.val (.int (k : Nat))), some (.val (.tup (dis r))), none], rfl, .inl ?_, _, _, rfl⟩
    have tl : (lit ((V (stepsN l n true) (stepsN l n false) R).take k)).length = k := by rw [lit_len, List.length_take, V_len]; omega
    have la : lit ((V (stepsN l n true) (stepsN l n false) R).take k ++ [vrow (stepsN l n true) r]) = lit ((V (stepsN l n true) (stepsN l n false) R).take k) ++ [.lst (leafs (dis (vrow (stepsN l n true) r)))] := List.map_append
    rw [take_snoc hv, la]
    unfold l_coarse_view_1
    simp -implicitDefEqProofs (disch := walk_at "d") only [fo2, fo3, trD, ik, gR, wd, iw, iw2, lp, tl, x_bnd, x_ret, x_opt, x_bind, x_bindX, x_bindS, x_bindI, x_out, x_outX, x_outS, x_outI, x_thenS, x_seq, x_nx, x_nbrk, x_ncnt, x_nret, x_nexc, x_nstuck, x_nI, x_nil, x_brk, x_cnt, x_drop, x_sret, x_retN, x_sif, x_iteSM, x_iteM, x_asg, x_optOut, x_gt, x_gNm, x_gTp, x_gCn, x_gNl, x_aug, x_augV, x_ipAdd, x_ipSub, x_ipXor, x_pC, x_vMC, x_oV, x_bV, x_vO, x_tst, x_unBl, x_tnot, x_tand, x_tor, x_vAnd, x_vOr, x_vNot, x_vIf, x_toD, x_toDL, x_shalL, x_shalV, x_nm, x_nmO, x_pNm, x_pNmO, x_lookV, x_lookN, x_lookL, x_lookD, x_lookO, x_lookP, x_node, x_atO, x_atP, x_at, x_atS, x_chI, x_chF, x_some, x_map, x_vL, x_vLO, x_frzV, x_frzN, x_frzO, x_pFld, x_pIx, x_pD, x_pLk, x_pAt, x_dataV, x_dataL, x_dataO, x_stepIV, x_stepIL, x_stepOV, x_stepOLf, x_tOpd, x_tOpdL, x_itL, x_itF, x_itT, x_atN, x_atM, x_ixN, x_oOp, x_oU, x_pOp, x_pU, x_oA, x_pA, x_paNil, x_paCons, x_looks0, x_looks, x_aNil, x_aCons, x_vNil, x_vCons, x_vStar, x_starO, x_oLst, x_vTup, x_pTup, x_add, x_addL, x_addT, x_addS, x_sub, x_band, x_bor, x_bxor, x_mul, x_fdiv, x_mod, x_pow, x_shl, x_shr, x_neg, x_lt, x_le, x_gt', x_ge, x_eqI, x_neI, x_eqS, x_neS, x_eqB, x_neB, x_is, x_isnot, x_ixT, x_ixL, x_ixF, x_ixS, x_lenL, x_lenT, x_lenF, x_lenS, x_abs, x_min, x_max, x_int, x_intB, x_list, x_tup, x_oSl, x_ipNo, x_ipSome, x_ipO, x_slT, x_slL, x_slF, x_slS, x_put, x_putO, x_putL, x_putAt, x_putAO, x_tput, x_app, x_appO, x_appO2, x_mv, x_mvO, x_for, x_iIt, x_iterL, x_iterT, x_iterF, x_iterS, x_rsOk, x_rsX, x_call, x_callO, x_take0, x_takeV, x_takeN, x_takeO, x_give0, x_giveV, x_giveN, x_finN, x_finR, x_finX, x_finI, x_fnOut, x_optRF, x_outs0, x_outsT, x_outsF, x_ok0, x_okT, x_okF, x_iEnM, x_mExt, x_extO, x_seqL, x_seqT, x_pop, x_popO, x_oM, x_strOut, x_count, x_starts, x_sumL, x_sortedL, x_join, x_lstZip, x_iZpM, x_isD_nn, x_isD_nb, x_isD_bn, x_isD_bb, x_isD_in, x_isD_ib, x_isD_sn, x_isD_sb, x_isD_ln, x_isD_lb, x_isD_tn, x_isD_tb, x_isi_n_int, x_isi_n_bool, x_isi_n_str, x_isi_n_list, x_isi_n_tuple, x_isi_b_int, x_isi_b_bool, x_isi_b_str, x_isi_b_list, x_isi_b_tuple, x_isi_i_int, x_isi_i_bool, x_isi_i_str, x_isi_i_list, x_isi_i_tuple, x_isi_s_int, x_isi_s_bool, x_isi_s_str, x_isi_s_list, x_isi_s_tuple, x_isi_l_int, x_isi_l_bool, x_isi_l_str, x_isi_l_list, x_isi_l_tuple, x_isi_t_int, x_isi_t_bool, x_isi_t_str, x_isi_t_list, x_isi_t_tuple, x_tru, x_truN, x_truB, x_truI, x_truL, x_truF, x_truT, x_truS, x_R1, x_r1K, x_R2, x_r2K, x_in62, x_lcM, x_lcGo, x_lcRes, x_okW0, x_okW, x_okC1, x_okC2, x_okC3, x_wipe0, x_wipe, x_rest0, x_rest, x_joinS, x_chain, x_chO, x_zipT_LL, x_zpL_LL, x_zipT_LT, x_zpL_LT, x_zipT_TL, x_zpL_TL, x_zipT_TT, x_zpL_TT, x_ext2, x_ext3, x_eqIL, x_eqIT, x_cut, x_callT, x_callTO, x_drop1, x_mk0, x_mkV, x_mkK, x_fldX, x_mMake, x_setA, x_boolB, x_boolI, x_stepFL, x_eqIR, x_eqBB, Int.cast_ofNat_Int, small_of, Bool.and_self, Bool.and_true, Bool.true_and, List.getElem?_cons_zero, List.getElem?_cons_succ, List.set_cons_zero, List.set_cons_succ, List.map_cons, List.map_nil, List.replicate_zero, List.replicate_succ, List.cons_append, List.nil_append, List.length_cons, List.length_nil, leafs_snoc, leafs_app, leafs_set, leafs_len, leafs_get, Bool.not_true, Bool.not_false, Bool.false_eq_true, if_true, if_false, ite_true, ite_false, decide_eq_true_eq, Bool.not_eq_true, Bool.not_eq_true', decide_eq_false_iff_not, Nat.zero_add, Option.map_some, Int.toNat_natCast, decide_true, decide_false, reduceIte, reduceCtorEq, Int.reduceToNat, Int.reduceNeg, Int.reduceAdd, Int.reduceSub, Int.reduceMul, Int.reduceLT, Int.reduceLE, Int.reducePow, Nat.reduceLT, Nat.reduceLeDiff, Nat.reduceAdd, Nat.reduceMul, Nat.reduceSub, Int.reduceMod, Int.reduceDiv, decide_eq_true_eq, Int.reduceEq, Nat.reduceEqDiff]
    try rfl
  rw [rgD_len, Nat.zero_add] at k2
  have hall : (V (stepsN l n true) (stepsN l n false) R).take R.length = V (stepsN l n true) (stepsN l n false) R := List.take_of_length_le (by rw [V_len]; omega)
  rw [hall] at k2
  subst k2
  have sv := s.V (a := stepsN l n true) (b := stepsN l n false)
  have ei := e_init m (.lst ((V (stepsN l n true) (stepsN l n false) R).map fun a => .lst (dis a))) _ (V (stepsN l n true) (stepsN l n false) R) rfl (by rw [List.map_map]; rfl) sv.h0 sv.h1 (fun r hr => by rw [sv.al r hr]; omega)
  have em : ∀ e, mkO "Sheet" m_Sheet__init [.int m, .lst ((V (stepsN l n true) (stepsN l n false) R).map fun a => .lst (dis a))] e = .ok (shT m (V (stepsN l n true) (stepsN l n false) R)) e := fun e => x_mkO ei e
  unfold m_coarse_view
  rw [x_fn rfl]
  simp -implicitDefEqProofs (disch := walk_at "d") only [en, gs, fo4, fo1, iR, iR2, h0, k1, lit_toD, em, x_bnd, x_ret, x_opt, x_bind, x_bindX, x_bindS, x_bindI, x_out, x_outX, x_outS, x_outI, x_thenS, x_seq, x_nx, x_nbrk, x_ncnt, x_nret, x_nexc, x_nstuck, x_nI, x_nil, x_brk, x_cnt, x_drop, x_sret, x_retN, x_sif, x_iteSM, x_iteM, x_asg, x_optOut, x_gt, x_gNm, x_gTp, x_gCn, x_gNl, x_aug, x_augV, x_ipAdd, x_ipSub, x_ipXor, x_pC, x_vMC, x_oV, x_bV, x_vO, x_tst, x_unBl, x_tnot, x_tand, x_tor, x_vAnd, x_vOr, x_vNot, x_vIf, x_toD, x_toDL, x_shalL, x_shalV, x_nm, x_nmO, x_pNm, x_pNmO, x_lookV, x_lookN, x_lookL, x_lookD, x_lookO, x_lookP, x_node, x_atO, x_atP, x_at, x_atS, x_chI, x_chF, x_some, x_map, x_vL, x_vLO, x_frzV, x_frzN, x_frzO, x_pFld, x_pIx, x_pD, x_pLk, x_pAt, x_dataV, x_dataL, x_dataO, x_stepIV, x_stepIL, x_stepOV, x_stepOLf, x_tOpd, x_tOpdL, x_itL, x_itF, x_itT, x_atN, x_atM, x_ixN, x_oOp, x_oU, x_pOp, x_pU, x_oA, x_pA, x_paNil, x_paCons, x_looks0, x_looks, x_aNil, x_aCons, x_vNil, x_vCons, x_vStar, x_starO, x_oLst, x_vTup, x_pTup, x_add, x_addL, x_addT, x_addS, x_sub, x_band, x_bor, x_bxor, x_mul, x_fdiv, x_mod, x_pow, x_shl, x_shr, x_neg, x_lt, x_le, x_gt', x_ge, x_eqI, x_neI, x_eqS, x_neS, x_eqB, x_neB, x_is, x_isnot, x_ixT, x_ixL, x_ixF, x_ixS, x_lenL, x_lenT, x_lenF, x_lenS, x_abs, x_min, x_max, x_int, x_intB, x_list, x_tup, x_oSl, x_ipNo, x_ipSome, x_ipO, x_slT, x_slL, x_slF, x_slS, x_put, x_putO, x_putL, x_putAt, x_putAO, x_tput, x_app, x_appO, x_appO2, x_mv, x_mvO, x_for, x_iIt, x_iterL, x_iterT, x_iterF, x_iterS, x_rsOk, x_rsX, x_call, x_callO, x_take0, x_takeV, x_takeN, x_takeO, x_give0, x_giveV, x_giveN, x_finN, x_finR, x_finX, x_finI, x_fnOut, x_optRF, x_outs0, x_outsT, x_outsF, x_ok0, x_okT, x_okF, x_iEnM, x_mExt, x_extO, x_seqL, x_seqT, x_pop, x_popO, x_oM, x_strOut, x_count, x_starts, x_sumL, x_sortedL, x_join, x_lstZip, x_iZpM, x_isD_nn, x_isD_nb, x_isD_bn, x_isD_bb, x_isD_in, x_isD_ib, x_isD_sn, x_isD_sb, x_isD_ln, x_isD_lb, x_isD_tn, x_isD_tb, x_isi_n_int, x_isi_n_bool, x_isi_n_str, x_isi_n_list, x_isi_n_tuple, x_isi_b_int, x_isi_b_bool, x_isi_b_str, x_isi_b_list, x_isi_b_tuple, x_isi_i_int, x_isi_i_bool, x_isi_i_str, x_isi_i_list, x_isi_i_tuple, x_isi_s_int, x_isi_s_bool, x_isi_s_str, x_isi_s_list, x_isi_s_tuple, x_isi_l_int, x_isi_l_bool, x_isi_l_str, x_isi_l_list, x_isi_l_tuple, x_isi_t_int, x_isi_t_bool, x_isi_t_str, x_isi_t_list, x_isi_t_tuple, x_tru, x_truN, x_truB, x_truI, x_truL, x_truF, x_truT, x_truS, x_R1, x_r1K, x_R2, x_r2K, x_in62, x_lcM, x_lcGo, x_lcRes, x_okW0, x_okW, x_okC1, x_okC2, x_okC3, x_wipe0, x_wipe, x_rest0, x_rest, x_joinS, x_chain, x_chO, x_zipT_LL, x_zpL_LL, x_zipT_LT, x_zpL_LT, x_zipT_TL, x_zpL_TL, x_zipT_TT, x_zpL_TT, x_ext2, x_ext3, x_eqIL, x_eqIT, x_cut, x_callT, x_callTO, x_drop1, x_mk0, x_mkV, x_mkK, x_fldX, x_mMake, x_setA, x_boolB, x_boolI, x_stepFL, x_eqIR, x_eqBB, Int.cast_ofNat_Int, small_of, Bool.and_self, Bool.and_true, Bool.true_and, List.getElem?_cons_zero, List.getElem?_cons_succ, List.set_cons_zero, List.set_cons_succ, List.map_cons, List.map_nil, List.replicate_zero, List.replicate_succ, List.cons_append, List.nil_append, List.length_cons, List.length_nil, leafs_snoc, leafs_app, leafs_set, leafs_len, leafs_get, Bool.not_true, Bool.not_false, Bool.false_eq_true, if_true, if_false, ite_true, ite_false, decide_eq_true_eq, Bool.not_eq_true, Bool.not_eq_true', decide_eq_false_iff_not, Nat.zero_add, Option.map_some, Int.toNat_natCast, decide_true, decide_false, reduceIte, reduceCtorEq, Int.reduceToNat, Int.reduceNeg, Int.reduceAdd, Int.reduceSub, Int.reduceMul, Int.reduceLT, Int.reduceLE, Int.reducePow, Nat.reduceLT, Nat.reduceLeDiff, Nat.reduceAdd, Nat.reduceMul, Nat.reduceSub, Int.reduceMod, Int.reduceDiv, decide_eq_true_eq, Int.reduceEq, Nat.reduceEqDiff]

end KL

namespace KL
open PySem PySem.Spec PyProof.Rows L2 Evl KP KM
local macro_rules | `(tactic| walk_at "d") => `(tactic| first | omega | (simp only [List.length_map, List.length_append, List.length_cons, List.length_nil, leafs_len, dis_len]; omega) | (simp; done))
local macro_rules | `(tactic| walk_at "m") => `(tactic| simp -implicitDefEqProofs (disch := walk_at "d") only [x_bnd, x_ret, x_opt, x_bind, x_bindX, x_bindS, x_bindI, x_out, x_outX, x_outS, x_outI, x_thenS, x_seq, x_nx, x_nbrk, x_ncnt, x_nret, x_nexc, x_nstuck, x_nI, x_nil, x_brk, x_cnt, x_drop, x_sret, x_retN, x_sif, x_iteSM, x_iteM, x_asg, x_optOut, x_gt, x_gNm, x_gTp, x_gCn, x_gNl, x_aug, x_augV, x_ipAdd, x_ipSub, x_ipXor, x_pC, x_vMC, x_oV, x_bV, x_vO, x_tst, x_unBl, x_tnot, x_tand, x_tor, x_vAnd, x_vOr, x_vNot, x_vIf, x_toD, x_toDL, x_shalL, x_shalV, x_nm, x_nmO, x_pNm, x_pNmO, x_lookV, x_lookN, x_lookL, x_lookD, x_lookO, x_lookP, x_node, x_atO, x_atP, x_at, x_atS, x_chI, x_chF, x_some, x_map, x_vL, x_vLO, x_frzV, x_frzN, x_frzO, x_pFld, x_pIx, x_pD, x_pLk, x_pAt, x_dataV, x_dataL, x_dataO, x_stepIV, x_stepIL, x_stepOV, x_stepOLf, x_tOpd, x_tOpdL, x_itL, x_itF, x_itT, x_atN, x_atM, x_ixN, x_oOp, x_oU, x_pOp, x_pU, x_oA, x_pA, x_paNil, x_paCons, x_looks0, x_looks, x_aNil, x_aCons, x_vNil, x_vCons, x_vStar, x_starO, x_oLst, x_vTup, x_pTup, x_add, x_addL, x_addT, x_addS, x_sub, x_band, x_bor, x_bxor, x_mul, x_fdiv, x_mod, x_pow, x_shl, x_shr, x_neg, x_lt, x_le, x_gt', x_ge, x_eqI, x_neI, x_eqS, x_neS, x_eqB, x_neB, x_is, x_isnot, x_ixT, x_ixL, x_ixF, x_ixS, x_lenL, x_lenT, x_lenF, x_lenS, x_abs, x_min, x_max, x_int, x_intB, x_list, x_tup, x_oSl, x_ipNo, x_ipSome, x_ipO, x_slT, x_slL, x_slF, x_slS, x_put, x_putO, x_putL, x_putAt, x_putAO, x_tput, x_app, x_appO, x_appO2, x_mv, x_mvO, x_for, x_iIt, x_iterL, x_iterT, x_iterF, x_iterS, x_rsOk, x_rsX, x_call, x_callO, x_take0, x_takeV, x_takeN, x_takeO, x_give0, x_giveV, x_giveN, x_finN, x_finR, x_finX, x_finI, x_fnOut, x_optRF, x_outs0, x_outsT, x_outsF, x_ok0, x_okT, x_okF, x_iEnM, x_mExt, x_extO, x_seqL, x_seqT, x_pop, x_popO, x_oM, x_strOut, x_count, x_starts, x_sumL, x_sortedL, x_join, x_lstZip, x_iZpM, x_isD_nn, x_isD_nb, x_isD_bn, x_isD_bb, x_isD_in, x_isD_ib, x_isD_sn, x_isD_sb, x_isD_ln, x_isD_lb, x_isD_tn, x_isD_tb, x_isi_n_int, x_isi_n_bool, x_isi_n_str, x_isi_n_list, x_isi_n_tuple, x_isi_b_int, x_isi_b_bool, x_isi_b_str, x_isi_b_list, x_isi_b_tuple, x_isi_i_int, x_isi_i_bool, x_isi_i_str, x_isi_i_list, x_isi_i_tuple, x_isi_s_int, x_isi_s_bool, x_isi_s_str, x_isi_s_list, x_isi_s_tuple, x_isi_l_int, x_isi_l_bool, x_isi_l_str, x_isi_l_list, x_isi_l_tuple, x_isi_t_int, x_isi_t_bool, x_isi_t_str, x_isi_t_list, x_isi_t_tuple, x_tru, x_truN, x_truB, x_truI, x_truL, x_truF, x_truT, x_truS, x_R1, x_r1K, x_R2, x_r2K, x_in62, x_lcM, x_lcGo, x_lcRes, x_okW0, x_okW, x_okC1, x_okC2, x_okC3, x_wipe0, x_wipe, x_rest0, x_rest, x_joinS, x_chain, x_chO, x_zipT_LL, x_zpL_LL, x_zipT_LT, x_zpL_LT, x_zipT_TL, x_zpL_TL, x_zipT_TT, x_zpL_TT, x_ext2, x_ext3, x_eqIL, x_eqIT, x_cut, x_callT, x_callTO, x_drop1, x_mk0, x_mkV, x_mkK, x_fldX, x_mMake, x_setA, x_boolB, x_boolI, x_stepFL, x_eqIR, x_eqBB, Int.cast_ofNat_Int, small_of, Bool.and_self, Bool.and_true, Bool.true_and, List.getElem?_cons_zero, List.getElem?_cons_succ, List.set_cons_zero, List.set_cons_succ, List.map_cons, List.map_nil, List.replicate_zero, List.replicate_succ, List.cons_append, List.nil_append, List.length_cons, List.length_nil, leafs_snoc, leafs_app, leafs_set, leafs_len, leafs_get, Bool.not_true, Bool.not_false, Bool.false_eq_true, if_true, if_false, ite_true, ite_false, decide_eq_true_eq, Bool.not_eq_true, Bool.not_eq_true', decide_eq_false_iff_not, Nat.zero_add, Option.map_some, Int.toNat_natCast, decide_true, decide_false, reduceIte, reduceCtorEq, Int.reduceToNat, Int.reduceNeg, Int.reduceAdd, Int.reduceSub, Int.reduceMul, Int.reduceLT, Int.reduceLE, Int.reducePow, Nat.reduceLT, Nat.reduceLeDiff, Nat.reduceAdd, Nat.reduceMul, Nat.reduceSub, Int.reduceMod, Int.reduceDiv, decide_eq_true_eq, Int.reduceEq, Nat.reduceEqDiff])

/-! ### drawn sheets -/
theorem e_size {x : Dr} (hx : x.Ok) : ∃ (w h : Nat) (y : Dr), m_law_size [drw x] = .ok (.val (.tup [.int w, .int h])) [drw y] ∧ 1 ≤ w ∧ w ≤ 40 ∧ 1 ≤ h ∧ h ≤ 40 ∧ y.Ok := by
  have h1 := dn_ok hx (m := 16) (by decide)
  by_cases c0 : dv x 16 = 0
  · have a1 := dv_lo (x := dn x 16) (m := 40) (by decide)
    have a2 := dv_hi (x := dn x 16) (m := 40) (by decide)
    have h2 := dn_ok h1 (m := 40) (by decide)
    have b1 := dv_lo (x := dn (dn x 16) 40) (m := 40) (by decide)
    have b2 := dv_hi (x := dn (dn x 16) 40) (m := 40) (by decide)
    refine ⟨(1 + dv (dn x 16) 40).toNat, (1 + dv (dn (dn x 16) 40) 40).toNat, dn (dn (dn x 16) 40) 40, ?_, by omega, by omega, by omega, by omega, dn_ok h2 (by decide)⟩
    rw [show (((1 + dv (dn x 16) 40).toNat : Nat) : Int) = 1 + dv (dn x 16) 40 by omega, show (((1 + dv (dn (dn x 16) 40) 40).toNat : Nat) : Int) = 1 + dv (dn (dn x 16) 40) 40 by omega]
    unfold m_law_size
    rw [x_fn rfl]
    simp -implicitDefEqProofs (disch := walk_at "d") only [e_draw, c0, x_bnd, x_ret, x_opt, x_bind, x_bindX, x_bindS, x_bindI, x_out, x_outX, x_outS, x_outI, x_thenS, x_seq, x_nx, x_nbrk, x_ncnt, x_nret, x_nexc, x_nstuck, x_nI, x_nil, x_brk, x_cnt, x_drop, x_sret, x_retN, x_sif, x_iteSM, x_iteM, x_asg, x_optOut, x_gt, x_gNm, x_gTp, x_gCn, x_gNl, x_aug, x_augV, x_ipAdd, x_ipSub, x_ipXor, x_pC, x_vMC, x_oV, x_bV, x_vO, x_tst, x_unBl, x_tnot, x_tand, x_tor, x_vAnd, x_vOr, x_vNot, x_vIf, x_toD, x_toDL, x_shalL, x_shalV, x_nm, x_nmO, x_pNm, x_pNmO, x_lookV, x_lookN, x_lookL, x_lookD, x_lookO, x_lookP, x_node, x_atO, x_atP, x_at, x_atS, x_chI, x_chF, x_some, x_map, x_vL, x_vLO, x_frzV, x_frzN, x_frzO, x_pFld, x_pIx, x_pD, x_pLk, x_pAt, x_dataV, x_dataL, x_dataO, x_stepIV, x_stepIL, x_stepOV, x_stepOLf, x_tOpd, x_tOpdL, x_itL, x_itF, x_itT, x_atN, x_atM, x_ixN, x_oOp, x_oU, x_pOp, x_pU, x_oA, x_pA, x_paNil, x_paCons, x_looks0, x_looks, x_aNil, x_aCons, x_vNil, x_vCons, x_vStar, x_starO, x_oLst, x_vTup, x_pTup, x_add, x_addL, x_addT, x_addS, x_sub, x_band, x_bor, x_bxor, x_mul, x_fdiv, x_mod, x_pow, x_shl, x_shr, x_neg, x_lt, x_le, x_gt', x_ge, x_eqI, x_neI, x_eqS, x_neS, x_eqB, x_neB, x_is, x_isnot, x_ixT, x_ixL, x_ixF, x_ixS, x_lenL, x_lenT, x_lenF, x_lenS, x_abs, x_min, x_max, x_int, x_intB, x_list, x_tup, x_oSl, x_ipNo, x_ipSome, x_ipO, x_slT, x_slL, x_slF, x_slS, x_put, x_putO, x_putL, x_putAt, x_putAO, x_tput, x_app, x_appO, x_appO2, x_mv, x_mvO, x_for, x_iIt, x_iterL, x_iterT, x_iterF, x_iterS, x_rsOk, x_rsX, x_call, x_callO, x_take0, x_takeV, x_takeN, x_takeO, x_give0, x_giveV, x_giveN, x_finN, x_finR, x_finX, x_finI, x_fnOut, x_optRF, x_outs0, x_outsT, x_outsF, x_ok0, x_okT, x_okF, x_iEnM, x_mExt, x_extO, x_seqL, x_seqT, x_pop, x_popO, x_oM, x_strOut, x_count, x_starts, x_sumL, x_sortedL, x_join, x_lstZip, x_iZpM, x_isD_nn, x_isD_nb, x_isD_bn, x_isD_bb, x_isD_in, x_isD_ib, x_isD_sn, x_isD_sb, x_isD_ln, x_isD_lb, x_isD_tn, x_isD_tb, x_isi_n_int, x_isi_n_bool, x_isi_n_str, x_isi_n_list, x_isi_n_tuple, x_isi_b_int, x_isi_b_bool, x_isi_b_str, x_isi_b_list, x_isi_b_tuple, x_isi_i_int, x_isi_i_bool, x_isi_i_str, x_isi_i_list, x_isi_i_tuple, x_isi_s_int, x_isi_s_bool, x_isi_s_str, x_isi_s_list, x_isi_s_tuple, x_isi_l_int, x_isi_l_bool, x_isi_l_str, x_isi_l_list, x_isi_l_tuple, x_isi_t_int, x_isi_t_bool, x_isi_t_str, x_isi_t_list, x_isi_t_tuple, x_tru, x_truN, x_truB, x_truI, x_truL, x_truF, x_truT, x_truS, x_R1, x_r1K, x_R2, x_r2K, x_in62, x_lcM, x_lcGo, x_lcRes, x_okW0, x_okW, x_okC1, x_okC2, x_okC3, x_wipe0, x_wipe, x_rest0, x_rest, x_joinS, x_chain, x_chO, x_zipT_LL, x_zpL_LL, x_zipT_LT, x_zpL_LT, x_zipT_TL, x_zpL_TL, x_zipT_TT, x_zpL_TT, x_ext2, x_ext3, x_eqIL, x_eqIT, x_cut, x_callT, x_callTO, x_drop1, x_mk0, x_mkV, x_mkK, x_fldX, x_mMake, x_setA, x_boolB, x_boolI, x_stepFL, x_eqIR, x_eqBB, Int.cast_ofNat_Int, small_of, Bool.and_self, Bool.and_true, Bool.true_and, List.getElem?_cons_zero, List.getElem?_cons_succ, List.set_cons_zero, List.set_cons_succ, List.map_cons, List.map_nil, List.replicate_zero, List.replicate_succ, List.cons_append, List.nil_append, List.length_cons, List.length_nil, leafs_snoc, leafs_app, leafs_set, leafs_len, leafs_get, Bool.not_true, Bool.not_false, Bool.false_eq_true, if_true, if_false, ite_true, ite_false, decide_eq_true_eq, Bool.not_eq_true, Bool.not_eq_true', decide_eq_false_iff_not, Nat.zero_add, Option.map_some, Int.toNat_natCast, decide_true, decide_false, reduceIte, reduceCtorEq, Int.reduceToNat, Int.reduceNeg, Int.reduceAdd, Int.reduceSub, Int.reduceMul, Int.reduceLT, Int.reduceLE, Int.reducePow, Nat.reduceLT, Nat.reduceLeDiff, Nat.reduceAdd, Nat.reduceMul, Nat.reduceSub, Int.reduceMod, Int.reduceDiv, decide_eq_true_eq, Int.reduceEq, Nat.reduceEqDiff]
  · by_cases c1 : dv x 16 = 1
    · have a1 := dv_lo (x := dn x 16) (m := 2) (by decide)
      have a2 := dv_hi (x := dn x 16) (m := 2) (by decide)
      have hc : dv (dn x 16) 2 = 0 ∨ dv (dn x 16) 2 = 1 := by omega
      rcases hc with hc | hc
      · refine ⟨40, 2, dn (dn x 16) 2, ?_, by omega, by omega, by omega, by omega, dn_ok h1 (by decide)⟩
        unfold m_law_size
        rw [x_fn rfl]
        simp -implicitDefEqProofs (disch := walk_at "d") only [e_draw, c1, hc, x_bnd, x_ret, x_opt, x_bind, x_bindX, x_bindS, x_bindI, x_out, x_outX, x_outS, x_outI, x_thenS, x_seq, x_nx, x_nbrk, x_ncnt, x_nret, x_nexc, x_nstuck, x_nI, x_nil, x_brk, x_cnt, x_drop, x_sret, x_retN, x_sif, x_iteSM, x_iteM, x_asg, x_optOut, x_gt, x_gNm, x_gTp, x_gCn, x_gNl, x_aug, x_augV, x_ipAdd, x_ipSub, x_ipXor, x_pC, x_vMC, x_oV, x_bV, x_vO, x_tst, x_unBl, x_tnot, x_tand, x_tor, x_vAnd, x_vOr, x_vNot, x_vIf, x_toD, x_toDL, x_shalL, x_shalV, x_nm, x_nmO, x_pNm, x_pNmO, x_lookV, x_lookN, x_lookL, x_lookD, x_lookO, x_lookP, x_node, x_atO, x_atP, x_at, x_atS, x_chI, x_chF, x_some, x_map, x_vL, x_vLO, x_frzV, x_frzN, x_frzO, x_pFld, x_pIx, x_pD, x_pLk, x_pAt, x_dataV, x_dataL, x_dataO, x_stepIV, x_stepIL, x_stepOV, x_stepOLf, x_tOpd, x_tOpdL, x_itL, x_itF, x_itT, x_atN, x_atM, x_ixN, x_oOp, x_oU, x_pOp, x_pU, x_oA, x_pA, x_paNil, x_paCons, x_looks0, x_looks, x_aNil, x_aCons, x_vNil, x_vCons, x_vStar, x_starO, x_oLst, x_vTup, x_pTup, x_add, x_addL, x_addT, x_addS, x_sub, x_band, x_bor, x_bxor, x_mul, x_fdiv, x_mod, x_pow, x_shl, x_shr, x_neg, x_lt, x_le, x_gt', x_ge, x_eqI, x_neI, x_eqS, x_neS, x_eqB, x_neB, x_is, x_isnot, x_ixT, x_ixL, x_ixF, x_ixS, x_lenL, x_lenT, x_lenF, x_lenS, x_abs, x_min, x_max, x_int, x_intB, x_list, x_tup, x_oSl, x_ipNo, x_ipSome, x_ipO, x_slT, x_slL, x_slF, x_slS, x_put, x_putO, x_putL, x_putAt, x_putAO, x_tput, x_app, x_appO, x_appO2, x_mv, x_mvO, x_for, x_iIt, x_iterL, x_iterT, x_iterF, x_iterS, x_rsOk, x_rsX, x_call, x_callO, x_take0, x_takeV, x_takeN, x_takeO, x_give0, x_giveV, x_giveN, x_finN, x_finR, x_finX, x_finI, x_fnOut, x_optRF, x_outs0, x_outsT, x_outsF, x_ok0, x_okT, x_okF, x_iEnM, x_mExt, x_extO, x_seqL, x_seqT, x_pop, x_popO, x_oM, x_strOut, x_count, x_starts, x_sumL, x_sortedL, x_join, x_lstZip, x_iZpM, x_isD_nn, x_isD_nb, x_isD_bn, x_isD_bb, x_isD_in, x_isD_ib, x_isD_sn, x_isD_sb, x_isD_ln, x_isD_lb, x_isD_tn, x_isD_tb, x_isi_n_int, x_isi_n_bool, x_isi_n_str, x_isi_n_list, x_isi_n_tuple, x_isi_b_int, x_isi_b_bool, x_isi_b_str, x_isi_b_list, x_isi_b_tuple, x_isi_i_int, x_isi_i_bool, x_isi_i_str, x_isi_i_list, x_isi_i_tuple, x_isi_s_int, x_isi_s_bool, x_isi_s_str, x_isi_s_list, x_isi_s_tuple, x_isi_l_int, x_isi_l_bool, x_isi_l_str, x_isi_l_list, x_isi_l_tuple, x_isi_t_int, x_isi_t_bool, x_isi_t_str, x_isi_t_list, x_isi_t_tuple, x_tru, x_truN, x_truB, x_truI, x_truL, x_truF, x_truT, x_truS, x_R1, x_r1K, x_R2, x_r2K, x_in62, x_lcM, x_lcGo, x_lcRes, x_okW0, x_okW, x_okC1, x_okC2, x_okC3, x_wipe0, x_wipe, x_rest0, x_rest, x_joinS, x_chain, x_chO, x_zipT_LL, x_zpL_LL, x_zipT_LT, x_zpL_LT, x_zipT_TL, x_zpL_TL, x_zipT_TT, x_zpL_TT, x_ext2, x_ext3, x_eqIL, x_eqIT, x_cut, x_callT, x_callTO, x_drop1, x_mk0, x_mkV, x_mkK, x_fldX, x_mMake, x_setA, x_boolB, x_boolI, x_stepFL, x_eqIR, x_eqBB, Int.cast_ofNat_Int, small_of, Bool.and_self, Bool.and_true, Bool.true_and, List.getElem?_cons_zero, List.getElem?_cons_succ, List.set_cons_zero, List.set_cons_succ, List.map_cons, List.map_nil, List.replicate_zero, List.replicate_succ, List.cons_append, List.nil_append, List.length_cons, List.length_nil, leafs_snoc, leafs_app, leafs_set, leafs_len, leafs_get, Bool.not_true, Bool.not_false, Bool.false_eq_true, if_true, if_false, ite_true, ite_false, decide_eq_true_eq, Bool.not_eq_true, Bool.not_eq_true', decide_eq_false_iff_not, Nat.zero_add, Option.map_some, Int.toNat_natCast, decide_true, decide_false, reduceIte, reduceCtorEq, Int.reduceToNat, Int.reduceNeg, Int.reduceAdd, Int.reduceSub, Int.reduceMul, Int.reduceLT, Int.reduceLE, Int.reducePow, Nat.reduceLT, Nat.reduceLeDiff, Nat.reduceAdd, Nat.reduceMul, Nat.reduceSub, Int.reduceMod, Int.reduceDiv, decide_eq_true_eq, Int.reduceEq, Nat.reduceEqDiff]
        try rfl
      · refine ⟨2, 40, dn (dn x 16) 2, ?_, by omega, by omega, by omega, by omega, dn_ok h1 (by decide)⟩
        unfold m_law_size
        rw [x_fn rfl]
        simp -implicitDefEqProofs (disch := walk_at "d") only [e_draw, c1, hc, x_bnd, x_ret, x_opt, x_bind, x_bindX, x_bindS, x_bindI, x_out, x_outX, x_outS, x_outI, x_thenS, x_seq, x_nx, x_nbrk, x_ncnt, x_nret, x_nexc, x_nstuck, x_nI, x_nil, x_brk, x_cnt, x_drop, x_sret, x_retN, x_sif, x_iteSM, x_iteM, x_asg, x_optOut, x_gt, x_gNm, x_gTp, x_gCn, x_gNl, x_aug, x_augV, x_ipAdd, x_ipSub, x_ipXor, x_pC, x_vMC, x_oV, x_bV, x_vO, x_tst, x_unBl, x_tnot, x_tand, x_tor, x_vAnd, x_vOr, x_vNot, x_vIf, x_toD, x_toDL, x_shalL, x_shalV, x_nm, x_nmO, x_pNm, x_pNmO, x_lookV, x_lookN, x_lookL, x_lookD, x_lookO, x_lookP, x_node, x_atO, x_atP, x_at, x_atS, x_chI, x_chF, x_some, x_map, x_vL, x_vLO, x_frzV, x_frzN, x_frzO, x_pFld, x_pIx, x_pD, x_pLk, x_pAt, x_dataV, x_dataL, x_dataO, x_stepIV, x_stepIL, x_stepOV, x_stepOLf, x_tOpd, x_tOpdL, x_itL, x_itF, x_itT, x_atN, x_atM, x_ixN, x_oOp, x_oU, x_pOp, x_pU, x_oA, x_pA, x_paNil, x_paCons, x_looks0, x_looks, x_aNil, x_aCons, x_vNil, x_vCons, x_vStar, x_starO, x_oLst, x_vTup, x_pTup, x_add, x_addL, x_addT, x_addS, x_sub, x_band, x_bor, x_bxor, x_mul, x_fdiv, x_mod, x_pow, x_shl, x_shr, x_neg, x_lt, x_le, x_gt', x_ge, x_eqI, x_neI, x_eqS, x_neS, x_eqB, x_neB, x_is, x_isnot, x_ixT, x_ixL, x_ixF, x_ixS, x_lenL, x_lenT, x_lenF, x_lenS, x_abs, x_min, x_max, x_int, x_intB, x_list, x_tup, x_oSl, x_ipNo, x_ipSome, x_ipO, x_slT, x_slL, x_slF, x_slS, x_put, x_putO, x_putL, x_putAt, x_putAO, x_tput, x_app, x_appO, x_appO2, x_mv, x_mvO, x_for, x_iIt, x_iterL, x_iterT, x_iterF, x_iterS, x_rsOk, x_rsX, x_call, x_callO, x_take0, x_takeV, x_takeN, x_takeO, x_give0, x_giveV, x_giveN, x_finN, x_finR, x_finX, x_finI, x_fnOut, x_optRF, x_outs0, x_outsT, x_outsF, x_ok0, x_okT, x_okF, x_iEnM, x_mExt, x_extO, x_seqL, x_seqT, x_pop, x_popO, x_oM, x_strOut, x_count, x_starts, x_sumL, x_sortedL, x_join, x_lstZip, x_iZpM, x_isD_nn, x_isD_nb, x_isD_bn, x_isD_bb, x_isD_in, x_isD_ib, x_isD_sn, x_isD_sb, x_isD_ln, x_isD_lb, x_isD_tn, x_isD_tb, x_isi_n_int, x_isi_n_bool, x_isi_n_str, x_isi_n_list, x_isi_n_tuple, x_isi_b_int, x_isi_b_bool, x_isi_b_str, x_isi_b_list, x_isi_b_tuple, x_isi_i_int, x_isi_i_bool, x_isi_i_str, x_isi_i_list, x_isi_i_tuple, x_isi_s_int, x_isi_s_bool, x_isi_s_str, x_isi_s_list, x_isi_s_tuple, x_isi_l_int, x_isi_l_bool, x_isi_l_str, x_isi_l_list, x_isi_l_tuple, x_isi_t_int, x_isi_t_bool, x_isi_t_str, x_isi_t_list, x_isi_t_tuple, x_tru, x_truN, x_truB, x_truI, x_truL, x_truF, x_truT, x_truS, x_R1, x_r1K, x_R2, x_r2K, x_in62, x_lcM, x_lcGo, x_lcRes, x_okW0, x_okW, x_okC1, x_okC2, x_okC3, x_wipe0, x_wipe, x_rest0, x_rest, x_joinS, x_chain, x_chO, x_zipT_LL, x_zpL_LL, x_zipT_LT, x_zpL_LT, x_zipT_TL, x_zpL_TL, x_zipT_TT, x_zpL_TT, x_ext2, x_ext3, x_eqIL, x_eqIT, x_cut, x_callT, x_callTO, x_drop1, x_mk0, x_mkV, x_mkK, x_fldX, x_mMake, x_setA, x_boolB, x_boolI, x_stepFL, x_eqIR, x_eqBB, Int.cast_ofNat_Int, small_of, Bool.and_self, Bool.and_true, Bool.true_and, List.getElem?_cons_zero, List.getElem?_cons_succ, List.set_cons_zero, List.set_cons_succ, List.map_cons, List.map_nil, List.replicate_zero, List.replicate_succ, List.cons_append, List.nil_append, List.length_cons, List.length_nil, leafs_snoc, leafs_app, leafs_set, leafs_len, leafs_get, Bool.not_true, Bool.not_false, Bool.false_eq_true, if_true, if_false, ite_true, ite_false, decide_eq_true_eq, Bool.not_eq_true, Bool.not_eq_true', decide_eq_false_iff_not, Nat.zero_add, Option.map_some, Int.toNat_natCast, decide_true, decide_false, reduceIte, reduceCtorEq, Int.reduceToNat, Int.reduceNeg, Int.reduceAdd, Int.reduceSub, Int.reduceMul, Int.reduceLT, Int.reduceLE, Int.reducePow, Nat.reduceLT, Nat.reduceLeDiff, Nat.reduceAdd, Nat.reduceMul, Nat.reduceSub, Int.reduceMod, Int.reduceDiv, decide_eq_true_eq, Int.reduceEq, Nat.reduceEqDiff]
        try rfl
    · have a1 := dv_lo (x := dn x 16) (m := 8) (by decide)
      have a2 := dv_hi (x := dn x 16) (m := 8) (by decide)
      have h2 := dn_ok h1 (m := 8) (by decide)
      have b1 := dv_lo (x := dn (dn x 16) 8) (m := 6) (by decide)
      have b2 := dv_hi (x := dn (dn x 16) 8) (m := 6) (by decide)
      refine ⟨(1 + dv (dn x 16) 8).toNat, (1 + dv (dn (dn x 16) 8) 6).toNat, dn (dn (dn x 16) 8) 6, ?_, by omega, by omega, by omega, by omega, dn_ok h2 (by decide)⟩
      rw [show (((1 + dv (dn x 16) 8).toNat : Nat) : Int) = 1 + dv (dn x 16) 8 by omega, show (((1 + dv (dn (dn x 16) 8) 6).toNat : Nat) : Int) = 1 + dv (dn (dn x 16) 8) 6 by omega]
      unfold m_law_size
      rw [x_fn rfl]
      simp -implicitDefEqProofs (disch := walk_at "d") only [e_draw, c0, c1, x_bnd, x_ret, x_opt, x_bind, x_bindX, x_bindS, x_bindI, x_out, x_outX, x_outS, x_outI, x_thenS, x_seq, x_nx, x_nbrk, x_ncnt, x_nret, x_nexc, x_nstuck, x_nI, x_nil, x_brk, x_cnt, x_drop, x_sret, x_retN, x_sif, x_iteSM, x_iteM, x_asg, x_optOut, x_gt, x_gNm, x_gTp, x_gCn, x_gNl, x_aug, x_augV, x_ipAdd, x_ipSub, x_ipXor, x_pC, x_vMC, x_oV, x_bV, x_vO, x_tst, x_unBl, x_tnot, x_tand, x_tor, x_vAnd, x_vOr, x_vNot, x_vIf, x_toD, x_toDL, x_shalL, x_shalV, x_nm, x_nmO, x_pNm, x_pNmO, x_lookV, x_lookN, x_lookL, x_lookD, x_lookO, x_lookP, x_node, x_atO, x_atP, x_at, x_atS, x_chI, x_chF, x_some, x_map, x_vL, x_vLO, x_frzV, x_frzN, x_frzO, x_pFld, x_pIx, x_pD, x_pLk, x_pAt, x_dataV, x_dataL, x_dataO, x_stepIV, x_stepIL, x_stepOV, x_stepOLf, x_tOpd, x_tOpdL, x_itL, x_itF, x_itT, x_atN, x_atM, x_ixN, x_oOp, x_oU, x_pOp, x_pU, x_oA, x_pA, x_paNil, x_paCons, x_looks0, x_looks, x_aNil, x_aCons, x_vNil, x_vCons, x_vStar, x_starO, x_oLst, x_vTup, x_pTup, x_add, x_addL, x_addT, x_addS, x_sub, x_band, x_bor, x_bxor, x_mul, x_fdiv, x_mod, x_pow, x_shl, x_shr, x_neg, x_lt, x_le, x_gt', x_ge, x_eqI, x_neI, x_eqS, x_neS, x_eqB, x_neB, x_is, x_isnot, x_ixT, x_ixL, x_ixF, x_ixS, x_lenL, x_lenT, x_lenF, x_lenS, x_abs, x_min, x_max, x_int, x_intB, x_list, x_tup, x_oSl, x_ipNo, x_ipSome, x_ipO, x_slT, x_slL, x_slF, x_slS, x_put, x_putO, x_putL, x_putAt, x_putAO, x_tput, x_app, x_appO, x_appO2, x_mv, x_mvO, x_for, x_iIt, x_iterL, x_iterT, x_iterF, x_iterS, x_rsOk, x_rsX, x_call, x_callO, x_take0, x_takeV, x_takeN, x_takeO, x_give0, x_giveV, x_giveN, x_finN, x_finR, x_finX, x_finI, x_fnOut, x_optRF, x_outs0, x_outsT, x_outsF, x_ok0, x_okT, x_okF, x_iEnM, x_mExt, x_extO, x_seqL, x_seqT, x_pop, x_popO, x_oM, x_strOut, x_count, x_starts, x_sumL, x_sortedL, x_join, x_lstZip, x_iZpM, x_isD_nn, x_isD_nb, x_isD_bn, x_isD_bb, x_isD_in, x_isD_ib, x_isD_sn, x_isD_sb, x_isD_ln, x_isD_lb, x_isD_tn, x_isD_tb, x_isi_n_int, x_isi_n_bool, x_isi_n_str, x_isi_n_list, x_isi_n_tuple, x_isi_b_int, x_isi_b_bool, x_isi_b_str, x_isi_b_list, x_isi_b_tuple, x_isi_i_int, x_isi_i_bool, x_isi_i_str, x_isi_i_list, x_isi_i_tuple, x_isi_s_int, x_isi_s_bool, x_isi_s_str, x_isi_s_list, x_isi_s_tuple, x_isi_l_int, x_isi_l_bool, x_isi_l_str, x_isi_l_list, x_isi_l_tuple, x_isi_t_int, x_isi_t_bool, x_isi_t_str, x_isi_t_list, x_isi_t_tuple, x_tru, x_truN, x_truB, x_truI, x_truL, x_truF, x_truT, x_truS, x_R1, x_r1K, x_R2, x_r2K, x_in62, x_lcM, x_lcGo, x_lcRes, x_okW0, x_okW, x_okC1, x_okC2, x_okC3, x_wipe0, x_wipe, x_rest0, x_rest, x_joinS, x_chain, x_chO, x_zipT_LL, x_zpL_LL, x_zipT_LT, x_zpL_LT, x_zipT_TL, x_zpL_TL, x_zipT_TT, x_zpL_TT, x_ext2, x_ext3, x_eqIL, x_eqIT, x_cut, x_callT, x_callTO, x_drop1, x_mk0, x_mkV, x_mkK, x_fldX, x_mMake, x_setA, x_boolB, x_boolI, x_stepFL, x_eqIR, x_eqBB, Int.cast_ofNat_Int, small_of, Bool.and_self, Bool.and_true, Bool.true_and, List.getElem?_cons_zero, List.getElem?_cons_succ, List.set_cons_zero, List.set_cons_succ, List.map_cons, List.map_nil, List.replicate_zero, List.replicate_succ, List.cons_append, List.nil_append, List.length_cons, List.length_nil, leafs_snoc, leafs_app, leafs_set, leafs_len, leafs_get, Bool.not_true, Bool.not_false, Bool.false_eq_true, if_true, if_false, ite_true, ite_false, decide_eq_true_eq, Bool.not_eq_true, Bool.not_eq_true', decide_eq_false_iff_not, Nat.zero_add, Option.map_some, Int.toNat_natCast, decide_true, decide_false, reduceIte, reduceCtorEq, Int.reduceToNat, Int.reduceNeg, Int.reduceAdd, Int.reduceSub, Int.reduceMul, Int.reduceLT, Int.reduceLE, Int.reducePow, Nat.reduceLT, Nat.reduceLeDiff, Nat.reduceAdd, Nat.reduceMul, Nat.reduceSub, Int.reduceMod, Int.reduceDiv, decide_eq_true_eq, Int.reduceEq, Nat.reduceEqDiff]
/-- one of a list of ints -/
theorem e_pickI {x : Dr} {ms : List Int} (h : 0 < ms.length) (hz : ms.length ≤ 1000) (t : T) (ht : t = .val (.lst (dis ms))) : ∃ v, v ∈ ms ∧ m_law_pick [drw x, t] = .ok (.val (.int v)) [drw (dn x ms.length), t] := by
  subst ht
  have a1 := dv_lo (x := x) (m := ms.length) (by omega)
  have a2 := dv_hi (x := x) (m := ms.length) (by omega)
  obtain ⟨v, hv⟩ := KM.lt_get (show (dv x ms.length).toNat < ms.length by omega)
  have gd : (dis ms)[(dv x ms.length).toNat]? = some (.int v) := by rw [dis_get, hv]; rfl
  have hdr := e_draw (x := x) (m := ms.length) (by omega) (by omega)
  refine ⟨v, List.mem_of_getElem? hv, ?_⟩
  unfold m_law_pick
  rw [x_fn rfl]
  simp -implicitDefEqProofs (disch := walk_at "d") only [dis_len, hdr, gd, x_bnd, x_ret, x_opt, x_bind, x_bindX, x_bindS, x_bindI, x_out, x_outX, x_outS, x_outI, x_thenS, x_seq, x_nx, x_nbrk, x_ncnt, x_nret, x_nexc, x_nstuck, x_nI, x_nil, x_brk, x_cnt, x_drop, x_sret, x_retN, x_sif, x_iteSM, x_iteM, x_asg, x_optOut, x_gt, x_gNm, x_gTp, x_gCn, x_gNl, x_aug, x_augV, x_ipAdd, x_ipSub, x_ipXor, x_pC, x_vMC, x_oV, x_bV, x_vO, x_tst, x_unBl, x_tnot, x_tand, x_tor, x_vAnd, x_vOr, x_vNot, x_vIf, x_toD, x_toDL, x_shalL, x_shalV, x_nm, x_nmO, x_pNm, x_pNmO, x_lookV, x_lookN, x_lookL, x_lookD, x_lookO, x_lookP, x_node, x_atO, x_atP, x_at, x_atS, x_chI, x_chF, x_some, x_map, x_vL, x_vLO, x_frzV, x_frzN, x_frzO, x_pFld, x_pIx, x_pD, x_pLk, x_pAt, x_dataV, x_dataL, x_dataO, x_stepIV, x_stepIL, x_stepOV, x_stepOLf, x_tOpd, x_tOpdL, x_itL, x_itF, x_itT, x_atN, x_atM, x_ixN, x_oOp, x_oU, x_pOp, x_pU, x_oA, x_pA, x_paNil, x_paCons, x_looks0, x_looks, x_aNil, x_aCons, x_vNil, x_vCons, x_vStar, x_starO, x_oLst, x_vTup, x_pTup, x_add, x_addL, x_addT, x_addS, x_sub, x_band, x_bor, x_bxor, x_mul, x_fdiv, x_mod, x_pow, x_shl, x_shr, x_neg, x_lt, x_le, x_gt', x_ge, x_eqI, x_neI, x_eqS, x_neS, x_eqB, x_neB, x_is, x_isnot, x_ixT, x_ixL, x_ixF, x_ixS, x_lenL, x_lenT, x_lenF, x_lenS, x_abs, x_min, x_max, x_int, x_intB, x_list, x_tup, x_oSl, x_ipNo, x_ipSome, x_ipO, x_slT, x_slL, x_slF, x_slS, x_put, x_putO, x_putL, x_putAt, x_putAO, x_tput, x_app, x_appO, x_appO2, x_mv, x_mvO, x_for, x_iIt, x_iterL, x_iterT, x_iterF, x_iterS, x_rsOk, x_rsX, x_call, x_callO, x_take0, x_takeV, x_takeN, x_takeO, x_give0, x_giveV, x_giveN, x_finN, x_finR, x_finX, x_finI, x_fnOut, x_optRF, x_outs0, x_outsT, x_outsF, x_ok0, x_okT, x_okF, x_iEnM, x_mExt, x_extO, x_seqL, x_seqT, x_pop, x_popO, x_oM, x_strOut, x_count, x_starts, x_sumL, x_sortedL, x_join, x_lstZip, x_iZpM, x_isD_nn, x_isD_nb, x_isD_bn, x_isD_bb, x_isD_in, x_isD_ib, x_isD_sn, x_isD_sb, x_isD_ln, x_isD_lb, x_isD_tn, x_isD_tb, x_isi_n_int, x_isi_n_bool, x_isi_n_str, x_isi_n_list, x_isi_n_tuple, x_isi_b_int, x_isi_b_bool, x_isi_b_str, x_isi_b_list, x_isi_b_tuple, x_isi_i_int, x_isi_i_bool, x_isi_i_str, x_isi_i_list, x_isi_i_tuple, x_isi_s_int, x_isi_s_bool, x_isi_s_str, x_isi_s_list, x_isi_s_tuple, x_isi_l_int, x_isi_l_bool, x_isi_l_str, x_isi_l_list, x_isi_l_tuple, x_isi_t_int, x_isi_t_bool, x_isi_t_str, x_isi_t_list, x_isi_t_tuple, x_tru, x_truN, x_truB, x_truI, x_truL, x_truF, x_truT, x_truS, x_R1, x_r1K, x_R2, x_r2K, x_in62, x_lcM, x_lcGo, x_lcRes, x_okW0, x_okW, x_okC1, x_okC2, x_okC3, x_wipe0, x_wipe, x_rest0, x_rest, x_joinS, x_chain, x_chO, x_zipT_LL, x_zpL_LL, x_zipT_LT, x_zpL_LT, x_zipT_TL, x_zpL_TL, x_zipT_TT, x_zpL_TT, x_ext2, x_ext3, x_eqIL, x_eqIT, x_cut, x_callT, x_callTO, x_drop1, x_mk0, x_mkV, x_mkK, x_fldX, x_mMake, x_setA, x_boolB, x_boolI, x_stepFL, x_eqIR, x_eqBB, Int.cast_ofNat_Int, small_of, Bool.and_self, Bool.and_true, Bool.true_and, List.getElem?_cons_zero, List.getElem?_cons_succ, List.set_cons_zero, List.set_cons_succ, List.map_cons, List.map_nil, List.replicate_zero, List.replicate_succ, List.cons_append, List.nil_append, List.length_cons, List.length_nil, leafs_snoc, leafs_app, leafs_set, leafs_len, leafs_get, Bool.not_true, Bool.not_false, Bool.false_eq_true, if_true, if_false, ite_true, ite_false, decide_eq_true_eq, Bool.not_eq_true, Bool.not_eq_true', decide_eq_false_iff_not, Nat.zero_add, Option.map_some, Int.toNat_natCast, decide_true, decide_false, reduceIte, reduceCtorEq, Int.reduceToNat, Int.reduceNeg, Int.reduceAdd, Int.reduceSub, Int.reduceMul, Int.reduceLT, Int.reduceLE, Int.reducePow, Nat.reduceLT, Nat.reduceLeDiff, Nat.reduceAdd, Nat.reduceMul, Nat.reduceSub, Int.reduceMod, Int.reduceDiv, decide_eq_true_eq, Int.reduceEq, Nat.reduceEqDiff]
def mods : List Int := [1, 2, 2, 3, 4, 4, 5, 6, 8, 9, 12, 16, 256, 65535, 65536]
theorem e_modulus {x : Dr} (hx : x.Ok) : ∃ (m : Int) (y : Dr), m_law_modulus [drw x] = .ok (.val (.int m)) [drw y] ∧ 1 ≤ m ∧ m ≤ 65536 ∧ y.Ok := by
  have h1 := dn_ok hx (m := 4) (by decide)
  by_cases c0 : dv x 4 = 0
  · have a1 := dv_lo (x := dn x 4) (m := 65536) (by decide)
    have a2 := dv_hi (x := dn x 4) (m := 65536) (by decide)
    refine ⟨1 + dv (dn x 4) 65536, dn (dn x 4) 65536, ?_, by omega, by omega, dn_ok h1 (by decide)⟩
    unfold m_law_modulus
    rw [x_fn rfl]
    simp -implicitDefEqProofs (disch := walk_at "d") only [e_draw, c0, x_bnd, x_ret, x_opt, x_bind, x_bindX, x_bindS, x_bindI, x_out, x_outX, x_outS, x_outI, x_thenS, x_seq, x_nx, x_nbrk, x_ncnt, x_nret, x_nexc, x_nstuck, x_nI, x_nil, x_brk, x_cnt, x_drop, x_sret, x_retN, x_sif, x_iteSM, x_iteM, x_asg, x_optOut, x_gt, x_gNm, x_gTp, x_gCn, x_gNl, x_aug, x_augV, x_ipAdd, x_ipSub, x_ipXor, x_pC, x_vMC, x_oV, x_bV, x_vO, x_tst, x_unBl, x_tnot, x_tand, x_tor, x_vAnd, x_vOr, x_vNot, x_vIf, x_toD, x_toDL, x_shalL, x_shalV, x_nm, x_nmO, x_pNm, x_pNmO, x_lookV, x_lookN, x_lookL, x_lookD, x_lookO, x_lookP, x_node, x_atO, x_atP, x_at, x_atS, x_chI, x_chF, x_some, x_map, x_vL, x_vLO, x_frzV, x_frzN, x_frzO, x_pFld, x_pIx, x_pD, x_pLk, x_pAt, x_dataV, x_dataL, x_dataO, x_stepIV, x_stepIL, x_stepOV, x_stepOLf, x_tOpd, x_tOpdL, x_itL, x_itF, x_itT, x_atN, x_atM, x_ixN, x_oOp, x_oU, x_pOp, x_pU, x_oA, x_pA, x_paNil, x_paCons, x_looks0, x_looks, x_aNil, x_aCons, x_vNil, x_vCons, x_vStar, x_starO, x_oLst, x_vTup, x_pTup, x_add, x_addL, x_addT, x_addS, x_sub, x_band, x_bor, x_bxor, x_mul, x_fdiv, x_mod, x_pow, x_shl, x_shr, x_neg, x_lt, x_le, x_gt', x_ge, x_eqI, x_neI, x_eqS, x_neS, x_eqB, x_neB, x_is, x_isnot, x_ixT, x_ixL, x_ixF, x_ixS, x_lenL, x_lenT, x_lenF, x_lenS, x_abs, x_min, x_max, x_int, x_intB, x_list, x_tup, x_oSl, x_ipNo, x_ipSome, x_ipO, x_slT, x_slL, x_slF, x_slS, x_put, x_putO, x_putL, x_putAt, x_putAO, x_tput, x_app, x_appO, x_appO2, x_mv, x_mvO, x_for, x_iIt, x_iterL, x_iterT, x_iterF, x_iterS, x_rsOk, x_rsX, x_call, x_callO, x_take0, x_takeV, x_takeN, x_takeO, x_give0, x_giveV, x_giveN, x_finN, x_finR, x_finX, x_finI, x_fnOut, x_optRF, x_outs0, x_outsT, x_outsF, x_ok0, x_okT, x_okF, x_iEnM, x_mExt, x_extO, x_seqL, x_seqT, x_pop, x_popO, x_oM, x_strOut, x_count, x_starts, x_sumL, x_sortedL, x_join, x_lstZip, x_iZpM, x_isD_nn, x_isD_nb, x_isD_bn, x_isD_bb, x_isD_in, x_isD_ib, x_isD_sn, x_isD_sb, x_isD_ln, x_isD_lb, x_isD_tn, x_isD_tb, x_isi_n_int, x_isi_n_bool, x_isi_n_str, x_isi_n_list, x_isi_n_tuple, x_isi_b_int, x_isi_b_bool, x_isi_b_str, x_isi_b_list, x_isi_b_tuple, x_isi_i_int, x_isi_i_bool, x_isi_i_str, x_isi_i_list, x_isi_i_tuple, x_isi_s_int, x_isi_s_bool, x_isi_s_str, x_isi_s_list, x_isi_s_tuple, x_isi_l_int, x_isi_l_bool, x_isi_l_str, x_isi_l_list, x_isi_l_tuple, x_isi_t_int, x_isi_t_bool, x_isi_t_str, x_isi_t_list, x_isi_t_tuple, x_tru, x_truN, x_truB, x_truI, x_truL, x_truF, x_truT, x_truS, x_R1, x_r1K, x_R2, x_r2K, x_in62, x_lcM, x_lcGo, x_lcRes, x_okW0, x_okW, x_okC1, x_okC2, x_okC3, x_wipe0, x_wipe, x_rest0, x_rest, x_joinS, x_chain, x_chO, x_zipT_LL, x_zpL_LL, x_zipT_LT, x_zpL_LT, x_zipT_TL, x_zpL_TL, x_zipT_TT, x_zpL_TT, x_ext2, x_ext3, x_eqIL, x_eqIT, x_cut, x_callT, x_callTO, x_drop1, x_mk0, x_mkV, x_mkK, x_fldX, x_mMake, x_setA, x_boolB, x_boolI, x_stepFL, x_eqIR, x_eqBB, Int.cast_ofNat_Int, small_of, Bool.and_self, Bool.and_true, Bool.true_and, List.getElem?_cons_zero, List.getElem?_cons_succ, List.set_cons_zero, List.set_cons_succ, List.map_cons, List.map_nil, List.replicate_zero, List.replicate_succ, List.cons_append, List.nil_append, List.length_cons, List.length_nil, leafs_snoc, leafs_app, leafs_set, leafs_len, leafs_get, Bool.not_true, Bool.not_false, Bool.false_eq_true, if_true, if_false, ite_true, ite_false, decide_eq_true_eq, Bool.not_eq_true, Bool.not_eq_true', decide_eq_false_iff_not, Nat.zero_add, Option.map_some, Int.toNat_natCast, decide_true, decide_false, reduceIte, reduceCtorEq, Int.reduceToNat, Int.reduceNeg, Int.reduceAdd, Int.reduceSub, Int.reduceMul, Int.reduceLT, Int.reduceLE, Int.reducePow, Nat.reduceLT, Nat.reduceLeDiff, Nat.reduceAdd, Nat.reduceMul, Nat.reduceSub, Int.reduceMod, Int.reduceDiv, decide_eq_true_eq, Int.reduceEq, Nat.reduceEqDiff]
  · obtain ⟨v, hv, hp⟩ := e_pickI (x := dn x 4) (ms := mods) (by decide) (by decide) _ rfl
    have em : dis mods = [.int 1, .int 2, .int 2, .int 3, .int 4, .int 4, .int 5, .int 6, .int 8, .int 9, .int 12, .int 16, .int 256, .int 65535, .int 65536] := rfl
    rw [em] at hp
    have hb : ∀ v ∈ mods, 1 ≤ v ∧ v ≤ 65536 := by decide
    refine ⟨v, dn (dn x 4) 15, ?_, (hb v hv).1, (hb v hv).2, dn_ok h1 (by decide)⟩
    have e15 : ((mods.length : Nat) : Int) = 15 := rfl
    rw [e15] at hp
    unfold m_law_modulus
    rw [x_fn rfl]
    simp -implicitDefEqProofs (disch := walk_at "d") only [e_draw, c0, hp, x_bnd, x_ret, x_opt, x_bind, x_bindX, x_bindS, x_bindI, x_out, x_outX, x_outS, x_outI, x_thenS, x_seq, x_nx, x_nbrk, x_ncnt, x_nret, x_nexc, x_nstuck, x_nI, x_nil, x_brk, x_cnt, x_drop, x_sret, x_retN, x_sif, x_iteSM, x_iteM, x_asg, x_optOut, x_gt, x_gNm, x_gTp, x_gCn, x_gNl, x_aug, x_augV, x_ipAdd, x_ipSub, x_ipXor, x_pC, x_vMC, x_oV, x_bV, x_vO, x_tst, x_unBl, x_tnot, x_tand, x_tor, x_vAnd, x_vOr, x_vNot, x_vIf, x_toD, x_toDL, x_shalL, x_shalV, x_nm, x_nmO, x_pNm, x_pNmO, x_lookV, x_lookN, x_lookL, x_lookD, x_lookO, x_lookP, x_node, x_atO, x_atP, x_at, x_atS, x_chI, x_chF, x_some, x_map, x_vL, x_vLO, x_frzV, x_frzN, x_frzO, x_pFld, x_pIx, x_pD, x_pLk, x_pAt, x_dataV, x_dataL, x_dataO, x_stepIV, x_stepIL, x_stepOV, x_stepOLf, x_tOpd, x_tOpdL, x_itL, x_itF, x_itT, x_atN, x_atM, x_ixN, x_oOp, x_oU, x_pOp, x_pU, x_oA, x_pA, x_paNil, x_paCons, x_looks0, x_looks, x_aNil, x_aCons, x_vNil, x_vCons, x_vStar, x_starO, x_oLst, x_vTup, x_pTup, x_add, x_addL, x_addT, x_addS, x_sub, x_band, x_bor, x_bxor, x_mul, x_fdiv, x_mod, x_pow, x_shl, x_shr, x_neg, x_lt, x_le, x_gt', x_ge, x_eqI, x_neI, x_eqS, x_neS, x_eqB, x_neB, x_is, x_isnot, x_ixT, x_ixL, x_ixF, x_ixS, x_lenL, x_lenT, x_lenF, x_lenS, x_abs, x_min, x_max, x_int, x_intB, x_list, x_tup, x_oSl, x_ipNo, x_ipSome, x_ipO, x_slT, x_slL, x_slF, x_slS, x_put, x_putO, x_putL, x_putAt, x_putAO, x_tput, x_app, x_appO, x_appO2, x_mv, x_mvO, x_for, x_iIt, x_iterL, x_iterT, x_iterF, x_iterS, x_rsOk, x_rsX, x_call, x_callO, x_take0, x_takeV, x_takeN, x_takeO, x_give0, x_giveV, x_giveN, x_finN, x_finR, x_finX, x_finI, x_fnOut, x_optRF, x_outs0, x_outsT, x_outsF, x_ok0, x_okT, x_okF, x_iEnM, x_mExt, x_extO, x_seqL, x_seqT, x_pop, x_popO, x_oM, x_strOut, x_count, x_starts, x_sumL, x_sortedL, x_join, x_lstZip, x_iZpM, x_isD_nn, x_isD_nb, x_isD_bn, x_isD_bb, x_isD_in, x_isD_ib, x_isD_sn, x_isD_sb, x_isD_ln, x_isD_lb, x_isD_tn, x_isD_tb, x_isi_n_int, x_isi_n_bool, x_isi_n_str, x_isi_n_list, x_isi_n_tuple, x_isi_b_int, x_isi_b_bool, x_isi_b_str, x_isi_b_list, x_isi_b_tuple, x_isi_i_int, x_isi_i_bool, x_isi_i_str, x_isi_i_list, x_isi_i_tuple, x_isi_s_int, x_isi_s_bool, x_isi_s_str, x_isi_s_list, x_isi_s_tuple, x_isi_l_int, x_isi_l_bool, x_isi_l_str, x_isi_l_list, x_isi_l_tuple, x_isi_t_int, x_isi_t_bool, x_isi_t_str, x_isi_t_list, x_isi_t_tuple, x_tru, x_truN, x_truB, x_truI, x_truL, x_truF, x_truT, x_truS, x_R1, x_r1K, x_R2, x_r2K, x_in62, x_lcM, x_lcGo, x_lcRes, x_okW0, x_okW, x_okC1, x_okC2, x_okC3, x_wipe0, x_wipe, x_rest0, x_rest, x_joinS, x_chain, x_chO, x_zipT_LL, x_zpL_LL, x_zipT_LT, x_zpL_LT, x_zipT_TL, x_zpL_TL, x_zipT_TT, x_zpL_TT, x_ext2, x_ext3, x_eqIL, x_eqIT, x_cut, x_callT, x_callTO, x_drop1, x_mk0, x_mkV, x_mkK, x_fldX, x_mMake, x_setA, x_boolB, x_boolI, x_stepFL, x_eqIR, x_eqBB, Int.cast_ofNat_Int, small_of, Bool.and_self, Bool.and_true, Bool.true_and, List.getElem?_cons_zero, List.getElem?_cons_succ, List.set_cons_zero, List.set_cons_succ, List.map_cons, List.map_nil, List.replicate_zero, List.replicate_succ, List.cons_append, List.nil_append, List.length_cons, List.length_nil, leafs_snoc, leafs_app, leafs_set, leafs_len, leafs_get, Bool.not_true, Bool.not_false, Bool.false_eq_true, if_true, if_false, ite_true, ite_false, decide_eq_true_eq, Bool.not_eq_true, Bool.not_eq_true', decide_eq_false_iff_not, Nat.zero_add, Option.map_some, Int.toNat_natCast, decide_true, decide_false, reduceIte, reduceCtorEq, Int.reduceToNat, Int.reduceNeg, Int.reduceAdd, Int.reduceSub, Int.reduceMul, Int.reduceLT, Int.reduceLE, Int.reducePow, Nat.reduceLT, Nat.reduceLeDiff, Nat.reduceAdd, Nat.reduceMul, Nat.reduceSub, Int.reduceMod, Int.reduceDiv, decide_eq_true_eq, Int.reduceEq, Nat.reduceEqDiff]
/-- the value of a cell -/
def mann (m one two mn : Int) : Prop := 0 ≤ one ∧ one < m ∧ 0 ≤ two ∧ two < m
theorem e_cell {m one two mn : Int} {x : Dr} {k j : Nat} (hm : 0 < m) (hm2 : m ≤ 65536) (hx : x.Ok) (hmn : mann m one two mn) (hk : k ≤ 1000) (hj : j ≤ 1000) (w h out : T) (row : List Int) (hr : row.length ≤ 1000) (c : Option T) :
    ∃ (v : Int) (y : Dr), l_law_rows_0 [some (drw x), some (.val (.int m)), some w, some h, some (.val (.int mn)), some (.val (.int one)), some (.val (.int two)), some out, some (.val (.int (j : Nat))), some (.lst (leafs (dis row))), some (.val (.int (k : Nat))), c]
      = .nx [some (drw y), some (.val (.int m)), some w, some h, some (.val (.int mn)), some (.val (.int one)), some (.val (.int two)), some out, some (.val (.int (j : Nat))), some (.lst (leafs (dis (row ++ [v])))), some (.val (.int (k : Nat))), some (.val (.int v))] ∧ 0 ≤ v ∧ v < m ∧ y.Ok := by
  obtain ⟨p1, p2, p3, p4⟩ := hmn
  have rl := dis_len row
  have a1 := dv_lo (x := x) (m := 2) (by decide)
  have a2 := dv_hi (x := x) (m := 2) (by decide)
  have da : ∀ v, dis (row ++ [v]) = dis row ++ [.int v] := fun v => dis_app row [v]
  by_cases c1 : mn = 1
  · subst c1
    have hc : dv x 2 = 0 ∨ dv x 2 = 1 := by omega
    rcases hc with hc | hc
    · refine ⟨one, dn x 2, ?_, p1, p2, dn_ok hx (by decide)⟩
      rw [da]
      unfold l_law_rows_0
      simp -implicitDefEqProofs (disch := walk_at "d") only [e_draw, hc, x_bnd, x_ret, x_opt, x_bind, x_bindX, x_bindS, x_bindI, x_out, x_outX, x_outS, x_outI, x_thenS, x_seq, x_nx, x_nbrk, x_ncnt, x_nret, x_nexc, x_nstuck, x_nI, x_nil, x_brk, x_cnt, x_drop, x_sret, x_retN, x_sif, x_iteSM, x_iteM, x_asg, x_optOut, x_gt, x_gNm, x_gTp, x_gCn, x_gNl, x_aug, x_augV, x_ipAdd, x_ipSub, x_ipXor, x_pC, x_vMC, x_oV, x_bV, x_vO, x_tst, x_unBl, x_tnot, x_tand, x_tor, x_vAnd, x_vOr, x_vNot, x_vIf, x_toD, x_toDL, x_shalL, x_shalV, x_nm, x_nmO, x_pNm, x_pNmO, x_lookV, x_lookN, x_lookL, x_lookD, x_lookO, x_lookP, x_node, x_atO, x_atP, x_at, x_atS, x_chI, x_chF, x_some, x_map, x_vL, x_vLO, x_frzV, x_frzN, x_frzO, x_pFld, x_pIx, x_pD, x_pLk, x_pAt, x_dataV, x_dataL, x_dataO, x_stepIV, x_stepIL, x_stepOV, x_stepOLf, x_tOpd, x_tOpdL, x_itL, x_itF, x_itT, x_atN, x_atM, x_ixN, x_oOp, x_oU, x_pOp, x_pU, x_oA, x_pA, x_paNil, x_paCons, x_looks0, x_looks, x_aNil, x_aCons, x_vNil, x_vCons, x_vStar, x_starO, x_oLst, x_vTup, x_pTup, x_add, x_addL, x_addT, x_addS, x_sub, x_band, x_bor, x_bxor, x_mul, x_fdiv, x_mod, x_pow, x_shl, x_shr, x_neg, x_lt, x_le, x_gt', x_ge, x_eqI, x_neI, x_eqS, x_neS, x_eqB, x_neB, x_is, x_isnot, x_ixT, x_ixL, x_ixF, x_ixS, x_lenL, x_lenT, x_lenF, x_lenS, x_abs, x_min, x_max, x_int, x_intB, x_list, x_tup, x_oSl, x_ipNo, x_ipSome, x_ipO, x_slT, x_slL, x_slF, x_slS, x_put, x_putO, x_putL, x_putAt, x_putAO, x_tput, x_app, x_appO, x_appO2, x_mv, x_mvO, x_for, x_iIt, x_iterL, x_iterT, x_iterF, x_iterS, x_rsOk, x_rsX, x_call, x_callO, x_take0, x_takeV, x_takeN, x_takeO, x_give0, x_giveV, x_giveN, x_finN, x_finR, x_finX, x_finI, x_fnOut, x_optRF, x_outs0, x_outsT, x_outsF, x_ok0, x_okT, x_okF, x_iEnM, x_mExt, x_extO, x_seqL, x_seqT, x_pop, x_popO, x_oM, x_strOut, x_count, x_starts, x_sumL, x_sortedL, x_join, x_lstZip, x_iZpM, x_isD_nn, x_isD_nb, x_isD_bn, x_isD_bb, x_isD_in, x_isD_ib, x_isD_sn, x_isD_sb, x_isD_ln, x_isD_lb, x_isD_tn, x_isD_tb, x_isi_n_int, x_isi_n_bool, x_isi_n_str, x_isi_n_list, x_isi_n_tuple, x_isi_b_int, x_isi_b_bool, x_isi_b_str, x_isi_b_list, x_isi_b_tuple, x_isi_i_int, x_isi_i_bool, x_isi_i_str, x_isi_i_list, x_isi_i_tuple, x_isi_s_int, x_isi_s_bool, x_isi_s_str, x_isi_s_list, x_isi_s_tuple, x_isi_l_int, x_isi_l_bool, x_isi_l_str, x_isi_l_list, x_isi_l_tuple, x_isi_t_int, x_isi_t_bool, x_isi_t_str, x_isi_t_list, x_isi_t_tuple, x_tru, x_truN, x_truB, x_truI, x_truL, x_truF, x_truT, x_truS, x_R1, x_r1K, x_R2, x_r2K, x_in62, x_lcM, x_lcGo, x_lcRes, x_okW0, x_okW, x_okC1, x_okC2, x_okC3, x_wipe0, x_wipe, x_rest0, x_rest, x_joinS, x_chain, x_chO, x_zipT_LL, x_zpL_LL, x_zipT_LT, x_zpL_LT, x_zipT_TL, x_zpL_TL, x_zipT_TT, x_zpL_TT, x_ext2, x_ext3, x_eqIL, x_eqIT, x_cut, x_callT, x_callTO, x_drop1, x_mk0, x_mkV, x_mkK, x_fldX, x_mMake, x_setA, x_boolB, x_boolI, x_stepFL, x_eqIR, x_eqBB, Int.cast_ofNat_Int, small_of, Bool.and_self, Bool.and_true, Bool.true_and, List.getElem?_cons_zero, List.getElem?_cons_succ, List.set_cons_zero, List.set_cons_succ, List.map_cons, List.map_nil, List.replicate_zero, List.replicate_succ, List.cons_append, List.nil_append, List.length_cons, List.length_nil, leafs_snoc, leafs_app, leafs_set, leafs_len, leafs_get, Bool.not_true, Bool.not_false, Bool.false_eq_true, if_true, if_false, ite_true, ite_false, decide_eq_true_eq, Bool.not_eq_true, Bool.not_eq_true', decide_eq_false_iff_not, Nat.zero_add, Option.map_some, Int.toNat_natCast, decide_true, decide_false, reduceIte, reduceCtorEq, Int.reduceToNat, Int.reduceNeg, Int.reduceAdd, Int.reduceSub, Int.reduceMul, Int.reduceLT, Int.reduceLE, Int.reducePow, Nat.reduceLT, Nat.reduceLeDiff, Nat.reduceAdd, Nat.reduceMul, Nat.reduceSub, Int.reduceMod, Int.reduceDiv, decide_eq_true_eq, Int.reduceEq, Nat.reduceEqDiff]
      try rfl
    · refine ⟨two, dn x 2, ?_, p3, p4, dn_ok hx (by decide)⟩
      rw [da]
      unfold l_law_rows_0
      simp -implicitDefEqProofs (disch := walk_at "d") only [e_draw, hc, x_bnd, x_ret, x_opt, x_bind, x_bindX, x_bindS, x_bindI, x_out, x_outX, x_outS, x_outI, x_thenS, x_seq, x_nx, x_nbrk, x_ncnt, x_nret, x_nexc, x_nstuck, x_nI, x_nil, x_brk, x_cnt, x_drop, x_sret, x_retN, x_sif, x_iteSM, x_iteM, x_asg, x_optOut, x_gt, x_gNm, x_gTp, x_gCn, x_gNl, x_aug, x_augV, x_ipAdd, x_ipSub, x_ipXor, x_pC, x_vMC, x_oV, x_bV, x_vO, x_tst, x_unBl, x_tnot, x_tand, x_tor, x_vAnd, x_vOr, x_vNot, x_vIf, x_toD, x_toDL, x_shalL, x_shalV, x_nm, x_nmO, x_pNm, x_pNmO, x_lookV, x_lookN, x_lookL, x_lookD, x_lookO, x_lookP, x_node, x_atO, x_atP, x_at, x_atS, x_chI, x_chF, x_some, x_map, x_vL, x_vLO, x_frzV, x_frzN, x_frzO, x_pFld, x_pIx, x_pD, x_pLk, x_pAt, x_dataV, x_dataL, x_dataO, x_stepIV, x_stepIL, x_stepOV, x_stepOLf, x_tOpd, x_tOpdL, x_itL, x_itF, x_itT, x_atN, x_atM, x_ixN, x_oOp, x_oU, x_pOp, x_pU, x_oA, x_pA, x_paNil, x_paCons, x_looks0, x_looks, x_aNil, x_aCons, x_vNil, x_vCons, x_vStar, x_starO, x_oLst, x_vTup, x_pTup, x_add, x_addL, x_addT, x_addS, x_sub, x_band, x_bor, x_bxor, x_mul, x_fdiv, x_mod, x_pow, x_shl, x_shr, x_neg, x_lt, x_le, x_gt', x_ge, x_eqI, x_neI, x_eqS, x_neS, x_eqB, x_neB, x_is, x_isnot, x_ixT, x_ixL, x_ixF, x_ixS, x_lenL, x_lenT, x_lenF, x_lenS, x_abs, x_min, x_max, x_int, x_intB, x_list, x_tup, x_oSl, x_ipNo, x_ipSome, x_ipO, x_slT, x_slL, x_slF, x_slS, x_put, x_putO, x_putL, x_putAt, x_putAO, x_tput, x_app, x_appO, x_appO2, x_mv, x_mvO, x_for, x_iIt, x_iterL, x_iterT, x_iterF, x_iterS, x_rsOk, x_rsX, x_call, x_callO, x_take0, x_takeV, x_takeN, x_takeO, x_give0, x_giveV, x_giveN, x_finN, x_finR, x_finX, x_finI, x_fnOut, x_optRF, x_outs0, x_outsT, x_outsF, x_ok0, x_okT, x_okF, x_iEnM, x_mExt, x_extO, x_seqL, x_seqT, x_pop, x_popO, x_oM, x_strOut, x_count, x_starts, x_sumL, x_sortedL, x_join, x_lstZip, x_iZpM, x_isD_nn, x_isD_nb, x_isD_bn, x_isD_bb, x_isD_in, x_isD_ib, x_isD_sn, x_isD_sb, x_isD_ln, x_isD_lb, x_isD_tn, x_isD_tb, x_isi_n_int, x_isi_n_bool, x_isi_n_str, x_isi_n_list, x_isi_n_tuple, x_isi_b_int, x_isi_b_bool, x_isi_b_str, x_isi_b_list, x_isi_b_tuple, x_isi_i_int, x_isi_i_bool, x_isi_i_str, x_isi_i_list, x_isi_i_tuple, x_isi_s_int, x_isi_s_bool, x_isi_s_str, x_isi_s_list, x_isi_s_tuple, x_isi_l_int, x_isi_l_bool, x_isi_l_str, x_isi_l_list, x_isi_l_tuple, x_isi_t_int, x_isi_t_bool, x_isi_t_str, x_isi_t_list, x_isi_t_tuple, x_tru, x_truN, x_truB, x_truI, x_truL, x_truF, x_truT, x_truS, x_R1, x_r1K, x_R2, x_r2K, x_in62, x_lcM, x_lcGo, x_lcRes, x_okW0, x_okW, x_okC1, x_okC2, x_okC3, x_wipe0, x_wipe, x_rest0, x_rest, x_joinS, x_chain, x_chO, x_zipT_LL, x_zpL_LL, x_zipT_LT, x_zpL_LT, x_zipT_TL, x_zpL_TL, x_zipT_TT, x_zpL_TT, x_ext2, x_ext3, x_eqIL, x_eqIT, x_cut, x_callT, x_callTO, x_drop1, x_mk0, x_mkV, x_mkK, x_fldX, x_mMake, x_setA, x_boolB, x_boolI, x_stepFL, x_eqIR, x_eqBB, Int.cast_ofNat_Int, small_of, Bool.and_self, Bool.and_true, Bool.true_and, List.getElem?_cons_zero, List.getElem?_cons_succ, List.set_cons_zero, List.set_cons_succ, List.map_cons, List.map_nil, List.replicate_zero, List.replicate_succ, List.cons_append, List.nil_append, List.length_cons, List.length_nil, leafs_snoc, leafs_app, leafs_set, leafs_len, leafs_get, Bool.not_true, Bool.not_false, Bool.false_eq_true, if_true, if_false, ite_true, ite_false, decide_eq_true_eq, Bool.not_eq_true, Bool.not_eq_true', decide_eq_false_iff_not, Nat.zero_add, Option.map_some, Int.toNat_natCast, decide_true, decide_false, reduceIte, reduceCtorEq, Int.reduceToNat, Int.reduceNeg, Int.reduceAdd, Int.reduceSub, Int.reduceMul, Int.reduceLT, Int.reduceLE, Int.reducePow, Nat.reduceLT, Nat.reduceLeDiff, Nat.reduceAdd, Nat.reduceMul, Nat.reduceSub, Int.reduceMod, Int.reduceDiv, decide_eq_true_eq, Int.reduceEq, Nat.reduceEqDiff]
      try rfl
  · by_cases c2 : mn = 2
    · subst c2
      refine ⟨(one * k + two * j) % m, x, ?_, Int.emod_nonneg _ (by omega), Int.emod_lt_of_pos _ hm, hx⟩
      rw [da]
      unfold l_law_rows_0
      simp -implicitDefEqProofs (disch := walk_at "d") only [x_bnd, x_ret, x_opt, x_bind, x_bindX, x_bindS, x_bindI, x_out, x_outX, x_outS, x_outI, x_thenS, x_seq, x_nx, x_nbrk, x_ncnt, x_nret, x_nexc, x_nstuck, x_nI, x_nil, x_brk, x_cnt, x_drop, x_sret, x_retN, x_sif, x_iteSM, x_iteM, x_asg, x_optOut, x_gt, x_gNm, x_gTp, x_gCn, x_gNl, x_aug, x_augV, x_ipAdd, x_ipSub, x_ipXor, x_pC, x_vMC, x_oV, x_bV, x_vO, x_tst, x_unBl, x_tnot, x_tand, x_tor, x_vAnd, x_vOr, x_vNot, x_vIf, x_toD, x_toDL, x_shalL, x_shalV, x_nm, x_nmO, x_pNm, x_pNmO, x_lookV, x_lookN, x_lookL, x_lookD, x_lookO, x_lookP, x_node, x_atO, x_atP, x_at, x_atS, x_chI, x_chF, x_some, x_map, x_vL, x_vLO, x_frzV, x_frzN, x_frzO, x_pFld, x_pIx, x_pD, x_pLk, x_pAt, x_dataV, x_dataL, x_dataO, x_stepIV, x_stepIL, x_stepOV, x_stepOLf, x_tOpd, x_tOpdL, x_itL, x_itF, x_itT, x_atN, x_atM, x_ixN, x_oOp, x_oU, x_pOp, x_pU, x_oA, x_pA, x_paNil, x_paCons, x_looks0, x_looks, x_aNil, x_aCons, x_vNil, x_vCons, x_vStar, x_starO, x_oLst, x_vTup, x_pTup, x_add, x_addL, x_addT, x_addS, x_sub, x_band, x_bor, x_bxor, x_mul, x_fdiv, x_mod, x_pow, x_shl, x_shr, x_neg, x_lt, x_le, x_gt', x_ge, x_eqI, x_neI, x_eqS, x_neS, x_eqB, x_neB, x_is, x_isnot, x_ixT, x_ixL, x_ixF, x_ixS, x_lenL, x_lenT, x_lenF, x_lenS, x_abs, x_min, x_max, x_int, x_intB, x_list, x_tup, x_oSl, x_ipNo, x_ipSome, x_ipO, x_slT, x_slL, x_slF, x_slS, x_put, x_putO, x_putL, x_putAt, x_putAO, x_tput, x_app, x_appO, x_appO2, x_mv, x_mvO, x_for, x_iIt, x_iterL, x_iterT, x_iterF, x_iterS, x_rsOk, x_rsX, x_call, x_callO, x_take0, x_takeV, x_takeN, x_takeO, x_give0, x_giveV, x_giveN, x_finN, x_finR, x_finX, x_finI, x_fnOut, x_optRF, x_outs0, x_outsT, x_outsF, x_ok0, x_okT, x_okF, x_iEnM, x_mExt, x_extO, x_seqL, x_seqT, x_pop, x_popO, x_oM, x_strOut, x_count, x_starts, x_sumL, x_sortedL, x_join, x_lstZip, x_iZpM, x_isD_nn, x_isD_nb, x_isD_bn, x_isD_bb, x_isD_in, x_isD_ib, x_isD_sn, x_isD_sb, x_isD_ln, x_isD_lb, x_isD_tn, x_isD_tb, x_isi_n_int, x_isi_n_bool, x_isi_n_str, x_isi_n_list, x_isi_n_tuple, x_isi_b_int, x_isi_b_bool, x_isi_b_str, x_isi_b_list, x_isi_b_tuple, x_isi_i_int, x_isi_i_bool, x_isi_i_str, x_isi_i_list, x_isi_i_tuple, x_isi_s_int, x_isi_s_bool, x_isi_s_str, x_isi_s_list, x_isi_s_tuple, x_isi_l_int, x_isi_l_bool, x_isi_l_str, x_isi_l_list, x_isi_l_tuple, x_isi_t_int, x_isi_t_bool, x_isi_t_str, x_isi_t_list, x_isi_t_tuple, x_tru, x_truN, x_truB, x_truI, x_truL, x_truF, x_truT, x_truS, x_R1, x_r1K, x_R2, x_r2K, x_in62, x_lcM, x_lcGo, x_lcRes, x_okW0, x_okW, x_okC1, x_okC2, x_okC3, x_wipe0, x_wipe, x_rest0, x_rest, x_joinS, x_chain, x_chO, x_zipT_LL, x_zpL_LL, x_zipT_LT, x_zpL_LT, x_zipT_TL, x_zpL_TL, x_zipT_TT, x_zpL_TT, x_ext2, x_ext3, x_eqIL, x_eqIT, x_cut, x_callT, x_callTO, x_drop1, x_mk0, x_mkV, x_mkK, x_fldX, x_mMake, x_setA, x_boolB, x_boolI, x_stepFL, x_eqIR, x_eqBB, Int.cast_ofNat_Int, small_of, Bool.and_self, Bool.and_true, Bool.true_and, List.getElem?_cons_zero, List.getElem?_cons_succ, List.set_cons_zero, List.set_cons_succ, List.map_cons, List.map_nil, List.replicate_zero, List.replicate_succ, List.cons_append, List.nil_append, List.length_cons, List.length_nil, leafs_snoc, leafs_app, leafs_set, leafs_len, leafs_get, Bool.not_true, Bool.not_false, Bool.false_eq_true, if_true, if_false, ite_true, ite_false, decide_eq_true_eq, Bool.not_eq_true, Bool.not_eq_true', decide_eq_false_iff_not, Nat.zero_add, Option.map_some, Int.toNat_natCast, decide_true, decide_false, reduceIte, reduceCtorEq, Int.reduceToNat, Int.reduceNeg, Int.reduceAdd, Int.reduceSub, Int.reduceMul, Int.reduceLT, Int.reduceLE, Int.reducePow, Nat.reduceLT, Nat.reduceLeDiff, Nat.reduceAdd, Nat.reduceMul, Nat.reduceSub, Int.reduceMod, Int.reduceDiv, decide_eq_true_eq, Int.reduceEq, Nat.reduceEqDiff]
      try rfl
    · by_cases c3 : mn > 2
      · have b1 := dv_lo (x := x) hm
        have b2 := dv_hi (x := x) hm
        have hdr := e_draw (x := x) hm (by omega)
        refine ⟨dv x m, dn x m, ?_, b1, b2, dn_ok hx hm⟩
        rw [da]
        unfold l_law_rows_0
        simp -implicitDefEqProofs (disch := walk_at "d") only [hdr, c1, c2, c3, x_bnd, x_ret, x_opt, x_bind, x_bindX, x_bindS, x_bindI, x_out, x_outX, x_outS, x_outI, x_thenS, x_seq, x_nx, x_nbrk, x_ncnt, x_nret, x_nexc, x_nstuck, x_nI, x_nil, x_brk, x_cnt, x_drop, x_sret, x_retN, x_sif, x_iteSM, x_iteM, x_asg, x_optOut, x_gt, x_gNm, x_gTp, x_gCn, x_gNl, x_aug, x_augV, x_ipAdd, x_ipSub, x_ipXor, x_pC, x_vMC, x_oV, x_bV, x_vO, x_tst, x_unBl, x_tnot, x_tand, x_tor, x_vAnd, x_vOr, x_vNot, x_vIf, x_toD, x_toDL, x_shalL, x_shalV, x_nm, x_nmO, x_pNm, x_pNmO, x_lookV, x_lookN, x_lookL, x_lookD, x_lookO, x_lookP, x_node, x_atO, x_atP, x_at, x_atS, x_chI, x_chF, x_some, x_map, x_vL, x_vLO, x_frzV, x_frzN, x_frzO, x_pFld, x_pIx, x_pD, x_pLk, x_pAt, x_dataV, x_dataL, x_dataO, x_stepIV, x_stepIL, x_stepOV, x_stepOLf, x_tOpd, x_tOpdL, x_itL, x_itF, x_itT, x_atN, x_atM, x_ixN, x_oOp, x_oU, x_pOp, x_pU, x_oA, x_pA, x_paNil, x_paCons, x_looks0, x_looks, x_aNil, x_aCons, x_vNil, x_vCons, x_vStar, x_starO, x_oLst, x_vTup, x_pTup, x_add, x_addL, x_addT, x_addS, x_sub, x_band, x_bor, x_bxor, x_mul, x_fdiv, x_mod, x_pow, x_shl, x_shr, x_neg, x_lt, x_le, x_gt', x_ge, x_eqI, x_neI, x_eqS, x_neS, x_eqB, x_neB, x_is, x_isnot, x_ixT, x_ixL, x_ixF, x_ixS, x_lenL, x_lenT, x_lenF, x_lenS, x_abs, x_min, x_max, x_int, x_intB, x_list, x_tup, x_oSl, x_ipNo, x_ipSome, x_ipO, x_slT, x_slL, x_slF, x_slS, x_put, x_putO, x_putL, x_putAt, x_putAO, x_tput, x_app, x_appO, x_appO2, x_mv, x_mvO, x_for, x_iIt, x_iterL, x_iterT, x_iterF, x_iterS, x_rsOk, x_rsX, x_call, x_callO, x_take0, x_takeV, x_takeN, x_takeO, x_give0, x_giveV, x_giveN, x_finN, x_finR, x_finX, x_finI, x_fnOut, x_optRF, x_outs0, x_outsT, x_outsF, x_ok0, x_okT, x_okF, x_iEnM, x_mExt, x_extO, x_seqL, x_seqT, x_pop, x_popO, x_oM, x_strOut, x_count, x_starts, x_sumL, x_sortedL, x_join, x_lstZip, x_iZpM, x_isD_nn, x_isD_nb, x_isD_bn, x_isD_bb, x_isD_in, x_isD_ib, x_isD_sn, x_isD_sb, x_isD_ln, x_isD_lb, x_isD_tn, x_isD_tb, x_isi_n_int, x_isi_n_bool, x_isi_n_str, x_isi_n_list, x_isi_n_tuple, x_isi_b_int, x_isi_b_bool, x_isi_b_str, x_isi_b_list, x_isi_b_tuple, x_isi_i_int, x_isi_i_bool, x_isi_i_str, x_isi_i_list, x_isi_i_tuple, x_isi_s_int, x_isi_s_bool, x_isi_s_str, x_isi_s_list, x_isi_s_tuple, x_isi_l_int, x_isi_l_bool, x_isi_l_str, x_isi_l_list, x_isi_l_tuple, x_isi_t_int, x_isi_t_bool, x_isi_t_str, x_isi_t_list, x_isi_t_tuple, x_tru, x_truN, x_truB, x_truI, x_truL, x_truF, x_truT, x_truS, x_R1, x_r1K, x_R2, x_r2K, x_in62, x_lcM, x_lcGo, x_lcRes, x_okW0, x_okW, x_okC1, x_okC2, x_okC3, x_wipe0, x_wipe, x_rest0, x_rest, x_joinS, x_chain, x_chO, x_zipT_LL, x_zpL_LL, x_zipT_LT, x_zpL_LT, x_zipT_TL, x_zpL_TL, x_zipT_TT, x_zpL_TT, x_ext2, x_ext3, x_eqIL, x_eqIT, x_cut, x_callT, x_callTO, x_drop1, x_mk0, x_mkV, x_mkK, x_fldX, x_mMake, x_setA, x_boolB, x_boolI, x_stepFL, x_eqIR, x_eqBB, Int.cast_ofNat_Int, small_of, Bool.and_self, Bool.and_true, Bool.true_and, List.getElem?_cons_zero, List.getElem?_cons_succ, List.set_cons_zero, List.set_cons_succ, List.map_cons, List.map_nil, List.replicate_zero, List.replicate_succ, List.cons_append, List.nil_append, List.length_cons, List.length_nil, leafs_snoc, leafs_app, leafs_set, leafs_len, leafs_get, Bool.not_true, Bool.not_false, Bool.false_eq_true, if_true, if_false, ite_true, ite_false, decide_eq_true_eq, Bool.not_eq_true, Bool.not_eq_true', decide_eq_false_iff_not, Nat.zero_add, Option.map_some, Int.toNat_natCast, decide_true, decide_false, reduceIte, reduceCtorEq, Int.reduceToNat, Int.reduceNeg, Int.reduceAdd, Int.reduceSub, Int.reduceMul, Int.reduceLT, Int.reduceLE, Int.reducePow, Nat.reduceLT, Nat.reduceLeDiff, Nat.reduceAdd, Nat.reduceMul, Nat.reduceSub, Int.reduceMod, Int.reduceDiv, decide_eq_true_eq, Int.reduceEq, Nat.reduceEqDiff]
        try rfl
      · refine ⟨one, x, ?_, p1, p2, hx⟩
        rw [da]
        unfold l_law_rows_0
        simp -implicitDefEqProofs (disch := walk_at "d") only [c1, c2, c3, x_bnd, x_ret, x_opt, x_bind, x_bindX, x_bindS, x_bindI, x_out, x_outX, x_outS, x_outI, x_thenS, x_seq, x_nx, x_nbrk, x_ncnt, x_nret, x_nexc, x_nstuck, x_nI, x_nil, x_brk, x_cnt, x_drop, x_sret, x_retN, x_sif, x_iteSM, x_iteM, x_asg, x_optOut, x_gt, x_gNm, x_gTp, x_gCn, x_gNl, x_aug, x_augV, x_ipAdd, x_ipSub, x_ipXor, x_pC, x_vMC, x_oV, x_bV, x_vO, x_tst, x_unBl, x_tnot, x_tand, x_tor, x_vAnd, x_vOr, x_vNot, x_vIf, x_toD, x_toDL, x_shalL, x_shalV, x_nm, x_nmO, x_pNm, x_pNmO, x_lookV, x_lookN, x_lookL, x_lookD, x_lookO, x_lookP, x_node, x_atO, x_atP, x_at, x_atS, x_chI, x_chF, x_some, x_map, x_vL, x_vLO, x_frzV, x_frzN, x_frzO, x_pFld, x_pIx, x_pD, x_pLk, x_pAt, x_dataV, x_dataL, x_dataO, x_stepIV, x_stepIL, x_stepOV, x_stepOLf, x_tOpd, x_tOpdL, x_itL, x_itF, x_itT, x_atN, x_atM, x_ixN, x_oOp, x_oU, x_pOp, x_pU, x_oA, x_pA, x_paNil, x_paCons, x_looks0, x_looks, x_aNil, x_aCons, x_vNil, x_vCons, x_vStar, x_starO, x_oLst, x_vTup, x_pTup, x_add, x_addL, x_addT, x_addS, x_sub, x_band, x_bor, x_bxor, x_mul, x_fdiv, x_mod, x_pow, x_shl, x_shr, x_neg, x_lt, x_le, x_gt', x_ge, x_eqI, x_neI, x_eqS, x_neS, x_eqB, x_neB, x_is, x_isnot, x_ixT, x_ixL, x_ixF, x_ixS, x_lenL, x_lenT, x_lenF, x_lenS, x_abs, x_min, x_max, x_int, x_intB, x_list, x_tup, x_oSl, x_ipNo, x_ipSome, x_ipO, x_slT, x_slL, x_slF, x_slS, x_put, x_putO, x_putL, x_putAt, x_putAO, x_tput, x_app, x_appO, x_appO2, x_mv, x_mvO, x_for, x_iIt, x_iterL, x_iterT, x_iterF, x_iterS, x_rsOk, x_rsX, x_call, x_callO, x_take0, x_takeV, x_takeN, x_takeO, x_give0, x_giveV, x_giveN, x_finN, x_finR, x_finX, x_finI, x_fnOut, x_optRF, x_outs0, x_outsT, x_outsF, x_ok0, x_okT, x_okF, x_iEnM, x_mExt, x_extO, x_seqL, x_seqT, x_pop, x_popO, x_oM, x_strOut, x_count, x_starts, x_sumL, x_sortedL, x_join, x_lstZip, x_iZpM, x_isD_nn, x_isD_nb, x_isD_bn, x_isD_bb, x_isD_in, x_isD_ib, x_isD_sn, x_isD_sb, x_isD_ln, x_isD_lb, x_isD_tn, x_isD_tb, x_isi_n_int, x_isi_n_bool, x_isi_n_str, x_isi_n_list, x_isi_n_tuple, x_isi_b_int, x_isi_b_bool, x_isi_b_str, x_isi_b_list, x_isi_b_tuple, x_isi_i_int, x_isi_i_bool, x_isi_i_str, x_isi_i_list, x_isi_i_tuple, x_isi_s_int, x_isi_s_bool, x_isi_s_str, x_isi_s_list, x_isi_s_tuple, x_isi_l_int, x_isi_l_bool, x_isi_l_str, x_isi_l_list, x_isi_l_tuple, x_isi_t_int, x_isi_t_bool, x_isi_t_str, x_isi_t_list, x_isi_t_tuple, x_tru, x_truN, x_truB, x_truI, x_truL, x_truF, x_truT, x_truS, x_R1, x_r1K, x_R2, x_r2K, x_in62, x_lcM, x_lcGo, x_lcRes, x_okW0, x_okW, x_okC1, x_okC2, x_okC3, x_wipe0, x_wipe, x_rest0, x_rest, x_joinS, x_chain, x_chO, x_zipT_LL, x_zpL_LL, x_zipT_LT, x_zpL_LT, x_zipT_TL, x_zpL_TL, x_zipT_TT, x_zpL_TT, x_ext2, x_ext3, x_eqIL, x_eqIT, x_cut, x_callT, x_callTO, x_drop1, x_mk0, x_mkV, x_mkK, x_fldX, x_mMake, x_setA, x_boolB, x_boolI, x_stepFL, x_eqIR, x_eqBB, Int.cast_ofNat_Int, small_of, Bool.and_self, Bool.and_true, Bool.true_and, List.getElem?_cons_zero, List.getElem?_cons_succ, List.set_cons_zero, List.set_cons_succ, List.map_cons, List.map_nil, List.replicate_zero, List.replicate_succ, List.cons_append, List.nil_append, List.length_cons, List.length_nil, leafs_snoc, leafs_app, leafs_set, leafs_len, leafs_get, Bool.not_true, Bool.not_false, Bool.false_eq_true, if_true, if_false, ite_true, ite_false, decide_eq_true_eq, Bool.not_eq_true, Bool.not_eq_true', decide_eq_false_iff_not, Nat.zero_add, Option.map_some, Int.toNat_natCast, decide_true, decide_false, reduceIte, reduceCtorEq, Int.reduceToNat, Int.reduceNeg, Int.reduceAdd, Int.reduceSub, Int.reduceMul, Int.reduceLT, Int.reduceLE, Int.reducePow, Nat.reduceLT, Nat.reduceLeDiff, Nat.reduceAdd, Nat.reduceMul, Nat.reduceSub, Int.reduceMod, Int.reduceDiv, decide_eq_true_eq, Int.reduceEq, Nat.reduceEqDiff]
        try rfl
structure Rws (m : Int) (w h : Nat) (R : List (List Int)) : Prop where
  hl : R.length = h
  al : ∀ r ∈ R, r.length = w ∧ ∀ v ∈ r, 0 ≤ v ∧ v < m
theorem e_rows {m : Int} {x : Dr} {w h : Nat} (hm : 0 < m) (hm2 : m ≤ 65536) (hx : x.Ok) (hw : w ≤ 40) (hh : h ≤ 40) : ∃ (R : List (List Int)) (y : Dr), m_law_rows [drw x, .val (.int m), .val (.int (w : Nat)), .val (.int (h : Nat))] =
    .ok (.val (trD R)) [drw y, .val (.int m), .val (.int (w : Nat)), .val (.int (h : Nat))] ∧ Rws m w h R ∧ y.Ok := by
  have h1 := dn_ok hx (m := 5) (by decide)
  have h2 := dn_ok h1 hm
  have h3 := dn_ok h2 hm
  have b1 := dv_lo (x := dn x 5) hm
  have b2 := dv_hi (x := dn x 5) hm
  have d1 := dv_lo (x := dn (dn x 5) m) hm
  have d2 := dv_hi (x := dn (dn x 5) m) hm
  generalize hmn : dv x 5 = mn
  generalize hon : dv (dn x 5) m = one at b1 b2
  generalize htw : dv (dn (dn x 5) m) m = two at d1 d2
  generalize hy3 : dn (dn (dn x 5) m) m = y3 at h3
  have iw : in62 ((w : Nat) : Int) = true := x_in62 (by omega) (by omega)
  have ih : in62 ((h : Nat) : Int) = true := x_in62 (by omega) (by omega)
  have iw2 : ((w : Nat) : Int).toNat = w := Int.toNat_natCast w
  have ih2 : ((h : Nat) : Int).toNat = h := Int.toNat_natCast h
  obtain ⟨e', k1, R, y, c8, c9, c10, c11, k2, k3, k4⟩ := forM_inv (g := gNm 8) (body := l_law_rows_1) (fun k env => ∃ (R : List (List Int)) (y : Dr) (c8 c9 c10 c11 : Option T), env = [some (drw y), some (.val (.int m)), some (.val (.int (w : Nat))), some (.val (.int (h : Nat))), some (.val (.int mn)), some (.val (.int one)), some (.val (.int two)), some (.lst (leafs (dit R))), c8, c9, c10, c11] ∧ Rws m w k R ∧ y.Ok)
      (rgD 0 h) 0 [some (drw y3), some (.val (.int m)), some (.val (.int (w : Nat))), some (.val (.int (h : Nat))), some (.val (.int mn)), some (.val (.int one)), some (.val (.int two)), some (.lst []), none, none, none, none] ⟨[], y3, none, none, none, none, rfl, ⟨rfl, by simp⟩, h3⟩ fun j d env hd hp => by
    obtain ⟨R, y, c8, c9, c10, c11, rfl, q1, q2⟩ := hp
    obtain ⟨hj, rfl⟩ := rgD_get hd
    rw [Nat.zero_add] at q1 ⊢
    obtain ⟨e2, l1, row, y2, d10, d11, l2, l3, l4, l5⟩ := forM_inv (g := gNm 10) (body := l_law_rows_0) (fun k env => ∃ (row : List Int) (y : Dr) (c10 c11 : Option T), env = [some (drw y), some (.val (.int m)), some (.val (.int (w : Nat))), some (.val (.int (h : Nat))), some (.val (.int mn)), some (.val (.int one)), some (.val (.int two)), some (.lst (leafs (dit R))), some (.val (.int (j : Nat))), some (.lst (leafs (dis row))), c10, c11] ∧ row.length = k ∧ (∀ v ∈ row, 0 ≤ v ∧ v < m) ∧ y.Ok)
        (rgD 0 w) 0 [some (drw y), some (.val (.int m)), some (.val (.int (w : Nat))), some (.val (.int (h : Nat))), some (.val (.int mn)), some (.val (.int one)), some (.val (.int two)), some (.lst (leafs (dit R))), some (.val (.int (j : Nat))), some (.lst []), c10, c11] ⟨[], y, c10, c11, rfl, rfl, by simp, q2⟩ fun k d env hd hp => by
      obtain ⟨row, y, c10, c11, rfl, r1, r2, r3⟩ := hp
      obtain ⟨hk, rfl⟩ := rgD_get hd
      rw [Nat.zero_add] at r1 ⊢
      obtain ⟨v, z, s1, s2, s3, s4⟩ := e_cell (k := k) (j := j) (x := y) (mn := mn) hm hm2 r3 ⟨b1, b2, d1, d2⟩ (by omega) (by omega) (.val (.int (w : Nat))) (.val (.int (h : Nat))) (.lst (leafs (dit R))) row (by omega) c11
      exact ⟨_, _, rfl, .inl s1, row ++ [v], z, _, _, rfl, by simp [r1], fun u hu => by
        rcases List.mem_append.mp hu with e | e
        · exact r2 u e
        · rw [List.mem_singleton.mp e]; exact ⟨s2, s3⟩, s4⟩
    subst l2
    rw [rgD_len, Nat.zero_add] at l3
    have tl := dit_len R
    have ql := q1.hl
    refine ⟨_, [some (drw y2), some (.val (.int m)), some (.val (.int (w : Nat))), some (.val (.int (h : Nat))), some (.val (.int mn)), some (.val (.int one)), some (.val (.int two)), some (.lst (leafs (dit (R ++ [row])))), some (.val (.int (j : Nat))), some (.lst (leafs (dis row))), d10, d11], rfl, .inl ?_, R ++ [row], y2, _, _, _, _, rfl, ⟨by simp [ql], fun r hr => ?_⟩, l5⟩
    · unfold l_law_rows_1
      rw [dit_app]
      simp -implicitDefEqProofs (disch := walk_at "d") only [iw, iw2, h0, l1, tl, x_bnd, x_ret, x_opt, x_bind, x_bindX, x_bindS, x_bindI, x_out, x_outX, x_outS, x_outI, x_thenS, x_seq, x_nx, x_nbrk, x_ncnt, x_nret, x_nexc, x_nstuck, x_nI, x_nil, x_brk, x_cnt, x_drop, x_sret, x_retN, x_sif, x_iteSM, x_iteM, x_asg, x_optOut, x_gt, x_gNm, x_gTp, x_gCn, x_gNl, x_aug, x_augV, x_ipAdd, x_ipSub, x_ipXor, x_pC, x_vMC, x_oV, x_bV, x_vO, x_tst, x_unBl, x_tnot, x_tand, x_tor, x_vAnd, x_vOr, x_vNot, x_vIf, x_toD, x_toDL, x_shalL, x_shalV, x_nm, x_nmO, x_pNm, x_pNmO, x_lookV, x_lookN, x_lookL, x_lookD, x_lookO, x_lookP, x_node, x_atO, x_atP, x_at, x_atS, x_chI, x_chF, x_some, x_map, x_vL, x_vLO, x_frzV, x_frzN, x_frzO, x_pFld, x_pIx, x_pD, x_pLk, x_pAt, x_dataV, x_dataL, x_dataO, x_stepIV, x_stepIL, x_stepOV, x_stepOLf, x_tOpd, x_tOpdL, x_itL, x_itF, x_itT, x_atN, x_atM, x_ixN, x_oOp, x_oU, x_pOp, x_pU, x_oA, x_pA, x_paNil, x_paCons, x_looks0, x_looks, x_aNil, x_aCons, x_vNil, x_vCons, x_vStar, x_starO, x_oLst, x_vTup, x_pTup, x_add, x_addL, x_addT, x_addS, x_sub, x_band, x_bor, x_bxor, x_mul, x_fdiv, x_mod, x_pow, x_shl, x_shr, x_neg, x_lt, x_le, x_gt', x_ge, x_eqI, x_neI, x_eqS, x_neS, x_eqB, x_neB, x_is, x_isnot, x_ixT, x_ixL, x_ixF, x_ixS, x_lenL, x_lenT, x_lenF, x_lenS, x_abs, x_min, x_max, x_int, x_intB, x_list, x_tup, x_oSl, x_ipNo, x_ipSome, x_ipO, x_slT, x_slL, x_slF, x_slS, x_put, x_putO, x_putL, x_putAt, x_putAO, x_tput, x_app, x_appO, x_appO2, x_mv, x_mvO, x_for, x_iIt, x_iterL, x_iterT, x_iterF, x_iterS, x_rsOk, x_rsX, x_call, x_callO, x_take0, x_takeV, x_takeN, x_takeO, x_give0, x_giveV, x_giveN, x_finN, x_finR, x_finX, x_finI, x_fnOut, x_optRF, x_outs0, x_outsT, x_outsF, x_ok0, x_okT, x_okF, x_iEnM, x_mExt, x_extO, x_seqL, x_seqT, x_pop, x_popO, x_oM, x_strOut, x_count, x_starts, x_sumL, x_sortedL, x_join, x_lstZip, x_iZpM, x_isD_nn, x_isD_nb, x_isD_bn, x_isD_bb, x_isD_in, x_isD_ib, x_isD_sn, x_isD_sb, x_isD_ln, x_isD_lb, x_isD_tn, x_isD_tb, x_isi_n_int, x_isi_n_bool, x_isi_n_str, x_isi_n_list, x_isi_n_tuple, x_isi_b_int, x_isi_b_bool, x_isi_b_str, x_isi_b_list, x_isi_b_tuple, x_isi_i_int, x_isi_i_bool, x_isi_i_str, x_isi_i_list, x_isi_i_tuple, x_isi_s_int, x_isi_s_bool, x_isi_s_str, x_isi_s_list, x_isi_s_tuple, x_isi_l_int, x_isi_l_bool, x_isi_l_str, x_isi_l_list, x_isi_l_tuple, x_isi_t_int, x_isi_t_bool, x_isi_t_str, x_isi_t_list, x_isi_t_tuple, x_tru, x_truN, x_truB, x_truI, x_truL, x_truF, x_truT, x_truS, x_R1, x_r1K, x_R2, x_r2K, x_in62, x_lcM, x_lcGo, x_lcRes, x_okW0, x_okW, x_okC1, x_okC2, x_okC3, x_wipe0, x_wipe, x_rest0, x_rest, x_joinS, x_chain, x_chO, x_zipT_LL, x_zpL_LL, x_zipT_LT, x_zpL_LT, x_zipT_TL, x_zpL_TL, x_zipT_TT, x_zpL_TT, x_ext2, x_ext3, x_eqIL, x_eqIT, x_cut, x_callT, x_callTO, x_drop1, x_mk0, x_mkV, x_mkK, x_fldX, x_mMake, x_setA, x_boolB, x_boolI, x_stepFL, x_eqIR, x_eqBB, Int.cast_ofNat_Int, small_of, Bool.and_self, Bool.and_true, Bool.true_and, List.getElem?_cons_zero, List.getElem?_cons_succ, List.set_cons_zero, List.set_cons_succ, List.map_cons, List.map_nil, List.replicate_zero, List.replicate_succ, List.cons_append, List.nil_append, List.length_cons, List.length_nil, leafs_snoc, leafs_app, leafs_set, leafs_len, leafs_get, Bool.not_true, Bool.not_false, Bool.false_eq_true, if_true, if_false, ite_true, ite_false, decide_eq_true_eq, Bool.not_eq_true, Bool.not_eq_true', decide_eq_false_iff_not, Nat.zero_add, Option.map_some, Int.toNat_natCast, decide_true, decide_false, reduceIte, reduceCtorEq, Int.reduceToNat, Int.reduceNeg, Int.reduceAdd, Int.reduceSub, Int.reduceMul, Int.reduceLT, Int.reduceLE, Int.reducePow, Nat.reduceLT, Nat.reduceLeDiff, Nat.reduceAdd, Nat.reduceMul, Nat.reduceSub, Int.reduceMod, Int.reduceDiv, decide_eq_true_eq, Int.reduceEq, Nat.reduceEqDiff]
      try rfl
    · rcases List.mem_append.mp hr with e | e
      · exact q1.al r e
      · rw [List.mem_singleton.mp e]; exact ⟨l3, l4⟩
  subst k2
  rw [rgD_len, Nat.zero_add] at k3
  refine ⟨R, y, ?_, k3, k4⟩
  unfold m_law_rows
  rw [x_fn rfl]
  simp -implicitDefEqProofs (disch := walk_at "d") only [e_draw, hmn, hon, htw, hy3, ih, ih2, h0, k1, x_bnd, x_ret, x_opt, x_bind, x_bindX, x_bindS, x_bindI, x_out, x_outX, x_outS, x_outI, x_thenS, x_seq, x_nx, x_nbrk, x_ncnt, x_nret, x_nexc, x_nstuck, x_nI, x_nil, x_brk, x_cnt, x_drop, x_sret, x_retN, x_sif, x_iteSM, x_iteM, x_asg, x_optOut, x_gt, x_gNm, x_gTp, x_gCn, x_gNl, x_aug, x_augV, x_ipAdd, x_ipSub, x_ipXor, x_pC, x_vMC, x_oV, x_bV, x_vO, x_tst, x_unBl, x_tnot, x_tand, x_tor, x_vAnd, x_vOr, x_vNot, x_vIf, x_toD, x_toDL, x_shalL, x_shalV, x_nm, x_nmO, x_pNm, x_pNmO, x_lookV, x_lookN, x_lookL, x_lookD, x_lookO, x_lookP, x_node, x_atO, x_atP, x_at, x_atS, x_chI, x_chF, x_some, x_map, x_vL, x_vLO, x_frzV, x_frzN, x_frzO, x_pFld, x_pIx, x_pD, x_pLk, x_pAt, x_dataV, x_dataL, x_dataO, x_stepIV, x_stepIL, x_stepOV, x_stepOLf, x_tOpd, x_tOpdL, x_itL, x_itF, x_itT, x_atN, x_atM, x_ixN, x_oOp, x_oU, x_pOp, x_pU, x_oA, x_pA, x_paNil, x_paCons, x_looks0, x_looks, x_aNil, x_aCons, x_vNil, x_vCons, x_vStar, x_starO, x_oLst, x_vTup, x_pTup, x_add, x_addL, x_addT, x_addS, x_sub, x_band, x_bor, x_bxor, x_mul, x_fdiv, x_mod, x_pow, x_shl, x_shr, x_neg, x_lt, x_le, x_gt', x_ge, x_eqI, x_neI, x_eqS, x_neS, x_eqB, x_neB, x_is, x_isnot, x_ixT, x_ixL, x_ixF, x_ixS, x_lenL, x_lenT, x_lenF, x_lenS, x_abs, x_min, x_max, x_int, x_intB, x_list, x_tup, x_oSl, x_ipNo, x_ipSome, x_ipO, x_slT, x_slL, x_slF, x_slS, x_put, x_putO, x_putL, x_putAt, x_putAO, x_tput, x_app, x_appO, x_appO2, x_mv, x_mvO, x_for, x_iIt, x_iterL, x_iterT, x_iterF, x_iterS, x_rsOk, x_rsX, x_call, x_callO, x_take0, x_takeV, x_takeN, x_takeO, x_give0, x_giveV, x_giveN, x_finN, x_finR, x_finX, x_finI, x_fnOut, x_optRF, x_outs0, x_outsT, x_outsF, x_ok0, x_okT, x_okF, x_iEnM, x_mExt, x_extO, x_seqL, x_seqT, x_pop, x_popO, x_oM, x_strOut, x_count, x_starts, x_sumL, x_sortedL, x_join, x_lstZip, x_iZpM, x_isD_nn, x_isD_nb, x_isD_bn, x_isD_bb, x_isD_in, x_isD_ib, x_isD_sn, x_isD_sb, x_isD_ln, x_isD_lb, x_isD_tn, x_isD_tb, x_isi_n_int, x_isi_n_bool, x_isi_n_str, x_isi_n_list, x_isi_n_tuple, x_isi_b_int, x_isi_b_bool, x_isi_b_str, x_isi_b_list, x_isi_b_tuple, x_isi_i_int, x_isi_i_bool, x_isi_i_str, x_isi_i_list, x_isi_i_tuple, x_isi_s_int, x_isi_s_bool, x_isi_s_str, x_isi_s_list, x_isi_s_tuple, x_isi_l_int, x_isi_l_bool, x_isi_l_str, x_isi_l_list, x_isi_l_tuple, x_isi_t_int, x_isi_t_bool, x_isi_t_str, x_isi_t_list, x_isi_t_tuple, x_tru, x_truN, x_truB, x_truI, x_truL, x_truF, x_truT, x_truS, x_R1, x_r1K, x_R2, x_r2K, x_in62, x_lcM, x_lcGo, x_lcRes, x_okW0, x_okW, x_okC1, x_okC2, x_okC3, x_wipe0, x_wipe, x_rest0, x_rest, x_joinS, x_chain, x_chO, x_zipT_LL, x_zpL_LL, x_zipT_LT, x_zpL_LT, x_zipT_TL, x_zpL_TL, x_zipT_TT, x_zpL_TT, x_ext2, x_ext3, x_eqIL, x_eqIT, x_cut, x_callT, x_callTO, x_drop1, x_mk0, x_mkV, x_mkK, x_fldX, x_mMake, x_setA, x_boolB, x_boolI, x_stepFL, x_eqIR, x_eqBB, Int.cast_ofNat_Int, small_of, Bool.and_self, Bool.and_true, Bool.true_and, List.getElem?_cons_zero, List.getElem?_cons_succ, List.set_cons_zero, List.set_cons_succ, List.map_cons, List.map_nil, List.replicate_zero, List.replicate_succ, List.cons_append, List.nil_append, List.length_cons, List.length_nil, leafs_snoc, leafs_app, leafs_set, leafs_len, leafs_get, Bool.not_true, Bool.not_false, Bool.false_eq_true, if_true, if_false, ite_true, ite_false, decide_eq_true_eq, Bool.not_eq_true, Bool.not_eq_true', decide_eq_false_iff_not, Nat.zero_add, Option.map_some, Int.toNat_natCast, decide_true, decide_false, reduceIte, reduceCtorEq, Int.reduceToNat, Int.reduceNeg, Int.reduceAdd, Int.reduceSub, Int.reduceMul, Int.reduceLT, Int.reduceLE, Int.reducePow, Nat.reduceLT, Nat.reduceLeDiff, Nat.reduceAdd, Nat.reduceMul, Nat.reduceSub, Int.reduceMod, Int.reduceDiv, decide_eq_true_eq, Int.reduceEq, Nat.reduceEqDiff]
  try rfl

end KL

namespace KL
open PySem PySem.Spec PyProof.Rows L2 Evl KP KM
local macro_rules | `(tactic| walk_at "d") => `(tactic| first | omega | (simp only [List.length_map, List.length_append, List.length_cons, List.length_nil, leafs_len, dis_len]; omega) | (simp; done))
local macro_rules | `(tactic| walk_at "m") => `(tactic| simp -implicitDefEqProofs (disch := walk_at "d") only [x_bnd, x_ret, x_opt, x_bind, x_bindX, x_bindS, x_bindI, x_out, x_outX, x_outS, x_outI, x_thenS, x_seq, x_nx, x_nbrk, x_ncnt, x_nret, x_nexc, x_nstuck, x_nI, x_nil, x_brk, x_cnt, x_drop, x_sret, x_retN, x_sif, x_iteSM, x_iteM, x_asg, x_optOut, x_gt, x_gNm, x_gTp, x_gCn, x_gNl, x_aug, x_augV, x_ipAdd, x_ipSub, x_ipXor, x_pC, x_vMC, x_oV, x_bV, x_vO, x_tst, x_unBl, x_tnot, x_tand, x_tor, x_vAnd, x_vOr, x_vNot, x_vIf, x_toD, x_toDL, x_shalL, x_shalV, x_nm, x_nmO, x_pNm, x_pNmO, x_lookV, x_lookN, x_lookL, x_lookD, x_lookO, x_lookP, x_node, x_atO, x_atP, x_at, x_atS, x_chI, x_chF, x_some, x_map, x_vL, x_vLO, x_frzV, x_frzN, x_frzO, x_pFld, x_pIx, x_pD, x_pLk, x_pAt, x_dataV, x_dataL, x_dataO, x_stepIV, x_stepIL, x_stepOV, x_stepOLf, x_tOpd, x_tOpdL, x_itL, x_itF, x_itT, x_atN, x_atM, x_ixN, x_oOp, x_oU, x_pOp, x_pU, x_oA, x_pA, x_paNil, x_paCons, x_looks0, x_looks, x_aNil, x_aCons, x_vNil, x_vCons, x_vStar, x_starO, x_oLst, x_vTup, x_pTup, x_add, x_addL, x_addT, x_addS, x_sub, x_band, x_bor, x_bxor, x_mul, x_fdiv, x_mod, x_pow, x_shl, x_shr, x_neg, x_lt, x_le, x_gt', x_ge, x_eqI, x_neI, x_eqS, x_neS, x_eqB, x_neB, x_is, x_isnot, x_ixT, x_ixL, x_ixF, x_ixS, x_lenL, x_lenT, x_lenF, x_lenS, x_abs, x_min, x_max, x_int, x_intB, x_list, x_tup, x_oSl, x_ipNo, x_ipSome, x_ipO, x_slT, x_slL, x_slF, x_slS, x_put, x_putO, x_putL, x_putAt, x_putAO, x_tput, x_app, x_appO, x_appO2, x_mv, x_mvO, x_for, x_iIt, x_iterL, x_iterT, x_iterF, x_iterS, x_rsOk, x_rsX, x_call, x_callO, x_take0, x_takeV, x_takeN, x_takeO, x_give0, x_giveV, x_giveN, x_finN, x_finR, x_finX, x_finI, x_fnOut, x_optRF, x_outs0, x_outsT, x_outsF, x_ok0, x_okT, x_okF, x_iEnM, x_mExt, x_extO, x_seqL, x_seqT, x_pop, x_popO, x_oM, x_strOut, x_count, x_starts, x_sumL, x_sortedL, x_join, x_lstZip, x_iZpM, x_isD_nn, x_isD_nb, x_isD_bn, x_isD_bb, x_isD_in, x_isD_ib, x_isD_sn, x_isD_sb, x_isD_ln, x_isD_lb, x_isD_tn, x_isD_tb, x_isi_n_int, x_isi_n_bool, x_isi_n_str, x_isi_n_list, x_isi_n_tuple, x_isi_b_int, x_isi_b_bool, x_isi_b_str, x_isi_b_list, x_isi_b_tuple, x_isi_i_int, x_isi_i_bool, x_isi_i_str, x_isi_i_list, x_isi_i_tuple, x_isi_s_int, x_isi_s_bool, x_isi_s_str, x_isi_s_list, x_isi_s_tuple, x_isi_l_int, x_isi_l_bool, x_isi_l_str, x_isi_l_list, x_isi_l_tuple, x_isi_t_int, x_isi_t_bool, x_isi_t_str, x_isi_t_list, x_isi_t_tuple, x_tru, x_truN, x_truB, x_truI, x_truL, x_truF, x_truT, x_truS, x_R1, x_r1K, x_R2, x_r2K, x_in62, x_lcM, x_lcGo, x_lcRes, x_okW0, x_okW, x_okC1, x_okC2, x_okC3, x_wipe0, x_wipe, x_rest0, x_rest, x_joinS, x_chain, x_chO, x_zipT_LL, x_zpL_LL, x_zipT_LT, x_zpL_LT, x_zipT_TL, x_zpL_TL, x_zipT_TT, x_zpL_TT, x_ext2, x_ext3, x_eqIL, x_eqIT, x_cut, x_callT, x_callTO, x_drop1, x_mk0, x_mkV, x_mkK, x_fldX, x_mMake, x_setA, x_boolB, x_boolI, x_stepFL, x_eqIR, x_eqBB, Int.cast_ofNat_Int, small_of, Bool.and_self, Bool.and_true, Bool.true_and, List.getElem?_cons_zero, List.getElem?_cons_succ, List.set_cons_zero, List.set_cons_succ, List.map_cons, List.map_nil, List.replicate_zero, List.replicate_succ, List.cons_append, List.nil_append, List.length_cons, List.length_nil, leafs_snoc, leafs_app, leafs_set, leafs_len, leafs_get, Bool.not_true, Bool.not_false, Bool.false_eq_true, if_true, if_false, ite_true, ite_false, decide_eq_true_eq, Bool.not_eq_true, Bool.not_eq_true', decide_eq_false_iff_not, Nat.zero_add, Option.map_some, Int.toNat_natCast, decide_true, decide_false, reduceIte, reduceCtorEq, Int.reduceToNat, Int.reduceNeg, Int.reduceAdd, Int.reduceSub, Int.reduceMul, Int.reduceLT, Int.reduceLE, Int.reducePow, Nat.reduceLT, Nat.reduceLeDiff, Nat.reduceAdd, Nat.reduceMul, Nat.reduceSub, Int.reduceMod, Int.reduceDiv, decide_eq_true_eq, Int.reduceEq, Nat.reduceEqDiff])

/-! ### plain -/
theorem getD_map {α : Type} (f : Nat → α) (n k : Nat) (d : α) (h : k < n) : ((List.range n).map f).getD k d = f k := by
  rw [List.getD_eq_getElem?_getD, List.getElem?_map, List.getElem?_range h]
  rfl
theorem dvd_mod {a b k : Nat} (h : b ∣ a) : (k - k % a) % b = 0 := by
  have h1 : a ∣ k - k % a := Nat.dvd_sub_mod k
  exact Nat.mod_eq_zero_of_dvd (Nat.dvd_trans h h1)
theorem vrow_vrow {a c : Nat} (h : c ∣ a) (r : List Int) : vrow a (vrow c r) = vrow a r := by
  unfold vrow
  rw [List.length_map, List.length_range]
  refine List.map_congr_left fun x hx => ?_
  have hx := List.mem_range.mp hx
  rw [getD_map _ _ _ _ (Nat.lt_of_le_of_lt (Nat.sub_le _ _) hx), dvd_mod h, Nat.sub_zero]
theorem V_V {a b c d : Nat} (h1 : c ∣ a) (h2 : d ∣ b) (R : List (List Int)) : V a b (V c d R) = V a b R := by
  unfold V
  rw [List.length_map, List.length_range]
  refine List.map_congr_left fun y hy => ?_
  have hy := List.mem_range.mp hy
  rw [getD_map _ _ _ _ (Nat.lt_of_le_of_lt (Nat.sub_le _ _) hy), dvd_mod h2, Nat.sub_zero, vrow_vrow h1]
theorem map_getD {α : Type} (L : List α) (d : α) : ((List.range L.length).map fun k => L.getD k d) = L := by
  apply List.ext_getElem?
  intro k
  rw [List.getElem?_map]
  by_cases h : k < L.length
  · rw [List.getElem?_range h, List.getElem?_eq_getElem h]
    simp [List.getD_eq_getElem?_getD, List.getElem?_eq_getElem h]
  · rw [List.getElem?_eq_none (by simpa using h), List.getElem?_eq_none (by omega)]
    rfl
theorem vrow_one (r : List Int) : vrow 1 r = r := by
  unfold vrow
  simp only [Nat.mod_one, Nat.sub_zero]
  exact map_getD r 0
theorem V_one (R : List (List Int)) : V 1 1 R = R := by
  unfold V
  simp only [Nat.mod_one, Nat.sub_zero, vrow_one]
  exact map_getD R []
theorem steps_last (l : List Bool) (b : Bool) : stepsN l l.length b = 1 := by
  unfold stepsN
  rw [List.drop_length]
  rfl
theorem V_hit {l : List Bool} {n x y w : Nat} {R : List (List Int)} {r : List Int} {s : Int} (sh : Shp w R) (hy : R[y]? = some r) (hx : x < w) (hs : s ≠ r.getD x 0) :
    decide (V (stepsN l n true) (stepsN l n false) (R.set y (r.set x s)) = V (stepsN l n true) (stepsN l n false) R) = !hit l n x y := by
  have hyl : y < R.length := (List.getElem?_eq_some_iff.mp hy).1
  have hw : r.length = w := sh.al r (List.mem_of_getElem? hy)
  have gD : R.getD y [] = r := by rw [List.getD_eq_getElem?_getD, hy]; rfl
  cases hh : hit l n x y with
  | true =>
    obtain ⟨h1, h2⟩ := hit_iff.mp hh
    refine decide_eq_false fun e => hs ?_
    have e1 := congrArg (fun L => (L[y]?).map fun q => q[x]?) e
    rw [V_get (by simpa using hyl), V_get hyl, h2, Nat.sub_zero, gD] at e1
    have g2 : (R.set y (r.set x s)).getD y [] = r.set x s := by
      rw [List.getD_eq_getElem?_getD, List.getElem?_set_self hyl]
      rfl
    rw [g2] at e1
    simp only [Option.map_some] at e1
    rw [vrow_get (by simp; omega), vrow_get (by omega), h1, Nat.sub_zero] at e1
    have g3 : (r.set x s).getD x 0 = s := by
      rw [List.getD_eq_getElem?_getD, List.getElem?_set_self (by omega)]
      rfl
    rw [g3] at e1
    exact Option.some.inj (Option.some.inj e1)
  | false =>
    refine decide_eq_true ?_
    unfold V
    rw [List.length_set]
    refine List.map_congr_left fun y' hy' => ?_
    by_cases hk : y' - y' % stepsN l n false = y
    · have hb : y % stepsN l n false = 0 := by rw [← hk]; exact dvd_mod (Nat.dvd_refl _)
      have hxa : x % stepsN l n true ≠ 0 := fun z => by
        rw [hit_iff.mpr ⟨z, hb⟩] at hh
        cases hh
      rw [hk, gD, List.getD_eq_getElem?_getD, List.getElem?_set_self hyl]
      show vrow _ (r.set x s) = vrow _ r
      unfold vrow
      rw [List.length_set]
      refine List.map_congr_left fun x' hx' => ?_
      rw [List.getD_eq_getElem?_getD, List.getElem?_set_ne (fun z => hxa (by rw [z]; exact dvd_mod (Nat.dvd_refl _))), ← List.getD_eq_getElem?_getD]
    · rw [List.getD_eq_getElem?_getD, List.getElem?_set_ne (Ne.symm hk), ← List.getD_eq_getElem?_getD]
theorem set_eq {α : Type} {L : List α} {k : Nat} (v : α) (h : k < L.length) : L.take k ++ [v] ++ L.drop (k + 1) = L.set k v := by
  rw [List.set_eq_take_append_cons_drop, if_pos h, List.append_assoc]
  rfl
theorem cutD_to {ds : List D} {k : Nat} (h : k ≤ ds.length) : KM.cutD ds none (some (k : Nat)) = ds.take k := by
  unfold KM.cutD
  rw [HT.sIx_nat, show HT.sIx ds.length 0 none = 0 from rfl, Nat.min_eq_left h, List.drop_zero, Nat.sub_zero]
theorem cutD_from {ds : List D} {k : Nat} (h : k ≤ ds.length) : KM.cutD ds (some (k : Nat)) none = ds.drop k := by
  unfold KM.cutD
  rw [HT.sIx_nat, show HT.sIx ds.length ds.length none = ds.length from rfl, Nat.min_eq_left h]
  exact List.take_of_length_le (by rw [List.length_drop]; omega)
/-! ### what is asked of a view -/
theorem same_rows {w : Nat} {R : List (List Int)} (s : Shp w R) : sameOk 11 (trD R) = true := by
  show ((dit R).all (sameOk 10) && decide ((dit R).length ≤ 16777216)) = true
  have := s.h1
  have := s.w1
  rw [dit_len, decide_eq_true (by omega), Bool.and_true, List.all_eq_true]
  intro d hd
  obtain ⟨a, ha, rfl⟩ := dit_mem hd
  show ((dis a).all (sameOk 9) && decide ((dis a).length ≤ 16777216)) = true
  have := s.al a ha
  rw [dis_len, decide_eq_true (by omega), Bool.and_true, List.all_eq_true]
  intro d hd
  obtain ⟨n, _, rfl⟩ := dis_mem hd
  rfl
theorem e_shis {w : Nat} {m : Int} {R : List (List Int)} (s : Shp w R) : m_law_sheet_is [shT m R, .val (.int m), .val (trD R)] = .ok (.val (.bl true)) [shT m R, .val (.int m), .val (trD R)] := by
  have so : sameOk 12 (.tup [.int m, .int (w : Nat), .int (R.length : Nat), trD R]) = true := by
    have h := same_rows s
    have h1 : ∀ i, sameOk 11 (.int i) = true := fun _ => rfl
    show (List.all _ (sameOk 11) && _) = true
    simp [h, h1]
  have e := e_same 12 _ (.val (.tup [.int m, .int (w : Nat), .int (R.length : Nat), trD R])) (.val (.tup [.int m, .int (w : Nat), .int (R.length : Nat), trD R])) so (.val _) (.val _)
  have wd := s.wid
  have sh := s.h1
  have sw := s.w1
  obtain ⟨r0, hr0, hw0⟩ := s.get s.h0
  have g0 : (dit R)[0]? = some (.tup (dis r0)) := by rw [dit_get, hr0]; rfl
  have z0 : (dis r0).length ≤ 16777216 := by rw [dis_len]; omega
  have zR : (dit R).length ≤ 16777216 := by rw [dit_len]; omega
  unfold m_law_sheet_is
  rw [x_fn rfl]
  unfold trD at e ⊢
  simp -implicitDefEqProofs (disch := walk_at "d") only [fo1, fo2, fo3, fo4, trD, wd, g0, dis_len, dit_len, hw0, e, x_bnd, x_ret, x_opt, x_bind, x_bindX, x_bindS, x_bindI, x_out, x_outX, x_outS, x_outI, x_thenS, x_seq, x_nx, x_nbrk, x_ncnt, x_nret, x_nexc, x_nstuck, x_nI, x_nil, x_brk, x_cnt, x_drop, x_sret, x_retN, x_sif, x_iteSM, x_iteM, x_asg, x_optOut, x_gt, x_gNm, x_gTp, x_gCn, x_gNl, x_aug, x_augV, x_ipAdd, x_ipSub, x_ipXor, x_pC, x_vMC, x_oV, x_bV, x_vO, x_tst, x_unBl, x_tnot, x_tand, x_tor, x_vAnd, x_vOr, x_vNot, x_vIf, x_toD, x_toDL, x_shalL, x_shalV, x_nm, x_nmO, x_pNm, x_pNmO, x_lookV, x_lookN, x_lookL, x_lookD, x_lookO, x_lookP, x_node, x_atO, x_atP, x_at, x_atS, x_chI, x_chF, x_some, x_map, x_vL, x_vLO, x_frzV, x_frzN, x_frzO, x_pFld, x_pIx, x_pD, x_pLk, x_pAt, x_dataV, x_dataL, x_dataO, x_stepIV, x_stepIL, x_stepOV, x_stepOLf, x_tOpd, x_tOpdL, x_itL, x_itF, x_itT, x_atN, x_atM, x_ixN, x_oOp, x_oU, x_pOp, x_pU, x_oA, x_pA, x_paNil, x_paCons, x_looks0, x_looks, x_aNil, x_aCons, x_vNil, x_vCons, x_vStar, x_starO, x_oLst, x_vTup, x_pTup, x_add, x_addL, x_addT, x_addS, x_sub, x_band, x_bor, x_bxor, x_mul, x_fdiv, x_mod, x_pow, x_shl, x_shr, x_neg, x_lt, x_le, x_gt', x_ge, x_eqI, x_neI, x_eqS, x_neS, x_eqB, x_neB, x_is, x_isnot, x_ixT, x_ixL, x_ixF, x_ixS, x_lenL, x_lenT, x_lenF, x_lenS, x_abs, x_min, x_max, x_int, x_intB, x_list, x_tup, x_oSl, x_ipNo, x_ipSome, x_ipO, x_slT, x_slL, x_slF, x_slS, x_put, x_putO, x_putL, x_putAt, x_putAO, x_tput, x_app, x_appO, x_appO2, x_mv, x_mvO, x_for, x_iIt, x_iterL, x_iterT, x_iterF, x_iterS, x_rsOk, x_rsX, x_call, x_callO, x_take0, x_takeV, x_takeN, x_takeO, x_give0, x_giveV, x_giveN, x_finN, x_finR, x_finX, x_finI, x_fnOut, x_optRF, x_outs0, x_outsT, x_outsF, x_ok0, x_okT, x_okF, x_iEnM, x_mExt, x_extO, x_seqL, x_seqT, x_pop, x_popO, x_oM, x_strOut, x_count, x_starts, x_sumL, x_sortedL, x_join, x_lstZip, x_iZpM, x_isD_nn, x_isD_nb, x_isD_bn, x_isD_bb, x_isD_in, x_isD_ib, x_isD_sn, x_isD_sb, x_isD_ln, x_isD_lb, x_isD_tn, x_isD_tb, x_isi_n_int, x_isi_n_bool, x_isi_n_str, x_isi_n_list, x_isi_n_tuple, x_isi_b_int, x_isi_b_bool, x_isi_b_str, x_isi_b_list, x_isi_b_tuple, x_isi_i_int, x_isi_i_bool, x_isi_i_str, x_isi_i_list, x_isi_i_tuple, x_isi_s_int, x_isi_s_bool, x_isi_s_str, x_isi_s_list, x_isi_s_tuple, x_isi_l_int, x_isi_l_bool, x_isi_l_str, x_isi_l_list, x_isi_l_tuple, x_isi_t_int, x_isi_t_bool, x_isi_t_str, x_isi_t_list, x_isi_t_tuple, x_tru, x_truN, x_truB, x_truI, x_truL, x_truF, x_truT, x_truS, x_R1, x_r1K, x_R2, x_r2K, x_in62, x_lcM, x_lcGo, x_lcRes, x_okW0, x_okW, x_okC1, x_okC2, x_okC3, x_wipe0, x_wipe, x_rest0, x_rest, x_joinS, x_chain, x_chO, x_zipT_LL, x_zpL_LL, x_zipT_LT, x_zpL_LT, x_zipT_TL, x_zpL_TL, x_zipT_TT, x_zpL_TT, x_ext2, x_ext3, x_eqIL, x_eqIT, x_cut, x_callT, x_callTO, x_drop1, x_mk0, x_mkV, x_mkK, x_fldX, x_mMake, x_setA, x_boolB, x_boolI, x_stepFL, x_eqIR, x_eqBB, Int.cast_ofNat_Int, small_of, Bool.and_self, Bool.and_true, Bool.true_and, List.getElem?_cons_zero, List.getElem?_cons_succ, List.set_cons_zero, List.set_cons_succ, List.map_cons, List.map_nil, List.replicate_zero, List.replicate_succ, List.cons_append, List.nil_append, List.length_cons, List.length_nil, leafs_snoc, leafs_app, leafs_set, leafs_len, leafs_get, Bool.not_true, Bool.not_false, Bool.false_eq_true, if_true, if_false, ite_true, ite_false, decide_eq_true_eq, Bool.not_eq_true, Bool.not_eq_true', decide_eq_false_iff_not, Nat.zero_add, Option.map_some, Int.toNat_natCast, decide_true, decide_false, reduceIte, reduceCtorEq, Int.reduceToNat, Int.reduceNeg, Int.reduceAdd, Int.reduceSub, Int.reduceMul, Int.reduceLT, Int.reduceLE, Int.reducePow, Nat.reduceLT, Nat.reduceLeDiff, Nat.reduceAdd, Nat.reduceMul, Nat.reduceSub, Int.reduceMod, Int.reduceDiv, decide_eq_true_eq, Int.reduceEq, Nat.reduceEqDiff]
theorem e_vr {l : List Bool} {n w : Nat} {m : Int} {R due : List (List Int)} (hl : l.length ≤ 6) (hn : n ≤ l.length) (s : Shp w R) (hd : V (stepsN l n true) (stepsN l n false) R = due) :
    m_law_view_right [shT m R, .val (.str (wS l)), .val (.int ((n + 1 : Nat) : Int)), .val (.int m), .val (trD due)] = .ok (.val (.bl true)) [shT m R, .val (.str (wS l)), .val (.int ((n + 1 : Nat) : Int)), .val (.int m), .val (trD due)] := by
  subst hd
  have e1 := e_coarse (m := m) hl hn s
  have e2 := e_shis (m := m) (s.V (a := stepsN l n true) (b := stepsN l n false))
  unfold m_law_view_right
  rw [x_fn rfl]
  simp -implicitDefEqProofs (disch := walk_at "d") only [e1, e2, sh_shal, e_isS, x_bnd, x_ret, x_opt, x_bind, x_bindX, x_bindS, x_bindI, x_out, x_outX, x_outS, x_outI, x_thenS, x_seq, x_nx, x_nbrk, x_ncnt, x_nret, x_nexc, x_nstuck, x_nI, x_nil, x_brk, x_cnt, x_drop, x_sret, x_retN, x_sif, x_iteSM, x_iteM, x_asg, x_optOut, x_gt, x_gNm, x_gTp, x_gCn, x_gNl, x_aug, x_augV, x_ipAdd, x_ipSub, x_ipXor, x_pC, x_vMC, x_oV, x_bV, x_vO, x_tst, x_unBl, x_tnot, x_tand, x_tor, x_vAnd, x_vOr, x_vNot, x_vIf, x_toD, x_toDL, x_shalL, x_shalV, x_nm, x_nmO, x_pNm, x_pNmO, x_lookV, x_lookN, x_lookL, x_lookD, x_lookO, x_lookP, x_node, x_atO, x_atP, x_at, x_atS, x_chI, x_chF, x_some, x_map, x_vL, x_vLO, x_frzV, x_frzN, x_frzO, x_pFld, x_pIx, x_pD, x_pLk, x_pAt, x_dataV, x_dataL, x_dataO, x_stepIV, x_stepIL, x_stepOV, x_stepOLf, x_tOpd, x_tOpdL, x_itL, x_itF, x_itT, x_atN, x_atM, x_ixN, x_oOp, x_oU, x_pOp, x_pU, x_oA, x_pA, x_paNil, x_paCons, x_looks0, x_looks, x_aNil, x_aCons, x_vNil, x_vCons, x_vStar, x_starO, x_oLst, x_vTup, x_pTup, x_add, x_addL, x_addT, x_addS, x_sub, x_band, x_bor, x_bxor, x_mul, x_fdiv, x_mod, x_pow, x_shl, x_shr, x_neg, x_lt, x_le, x_gt', x_ge, x_eqI, x_neI, x_eqS, x_neS, x_eqB, x_neB, x_is, x_isnot, x_ixT, x_ixL, x_ixF, x_ixS, x_lenL, x_lenT, x_lenF, x_lenS, x_abs, x_min, x_max, x_int, x_intB, x_list, x_tup, x_oSl, x_ipNo, x_ipSome, x_ipO, x_slT, x_slL, x_slF, x_slS, x_put, x_putO, x_putL, x_putAt, x_putAO, x_tput, x_app, x_appO, x_appO2, x_mv, x_mvO, x_for, x_iIt, x_iterL, x_iterT, x_iterF, x_iterS, x_rsOk, x_rsX, x_call, x_callO, x_take0, x_takeV, x_takeN, x_takeO, x_give0, x_giveV, x_giveN, x_finN, x_finR, x_finX, x_finI, x_fnOut, x_optRF, x_outs0, x_outsT, x_outsF, x_ok0, x_okT, x_okF, x_iEnM, x_mExt, x_extO, x_seqL, x_seqT, x_pop, x_popO, x_oM, x_strOut, x_count, x_starts, x_sumL, x_sortedL, x_join, x_lstZip, x_iZpM, x_isD_nn, x_isD_nb, x_isD_bn, x_isD_bb, x_isD_in, x_isD_ib, x_isD_sn, x_isD_sb, x_isD_ln, x_isD_lb, x_isD_tn, x_isD_tb, x_isi_n_int, x_isi_n_bool, x_isi_n_str, x_isi_n_list, x_isi_n_tuple, x_isi_b_int, x_isi_b_bool, x_isi_b_str, x_isi_b_list, x_isi_b_tuple, x_isi_i_int, x_isi_i_bool, x_isi_i_str, x_isi_i_list, x_isi_i_tuple, x_isi_s_int, x_isi_s_bool, x_isi_s_str, x_isi_s_list, x_isi_s_tuple, x_isi_l_int, x_isi_l_bool, x_isi_l_str, x_isi_l_list, x_isi_l_tuple, x_isi_t_int, x_isi_t_bool, x_isi_t_str, x_isi_t_list, x_isi_t_tuple, x_tru, x_truN, x_truB, x_truI, x_truL, x_truF, x_truT, x_truS, x_R1, x_r1K, x_R2, x_r2K, x_in62, x_lcM, x_lcGo, x_lcRes, x_okW0, x_okW, x_okC1, x_okC2, x_okC3, x_wipe0, x_wipe, x_rest0, x_rest, x_joinS, x_chain, x_chO, x_zipT_LL, x_zpL_LL, x_zipT_LT, x_zpL_LT, x_zipT_TL, x_zpL_TL, x_zipT_TT, x_zpL_TT, x_ext2, x_ext3, x_eqIL, x_eqIT, x_cut, x_callT, x_callTO, x_drop1, x_mk0, x_mkV, x_mkK, x_fldX, x_mMake, x_setA, x_boolB, x_boolI, x_stepFL, x_eqIR, x_eqBB, Int.cast_ofNat_Int, small_of, Bool.and_self, Bool.and_true, Bool.true_and, List.getElem?_cons_zero, List.getElem?_cons_succ, List.set_cons_zero, List.set_cons_succ, List.map_cons, List.map_nil, List.replicate_zero, List.replicate_succ, List.cons_append, List.nil_append, List.length_cons, List.length_nil, leafs_snoc, leafs_app, leafs_set, leafs_len, leafs_get, Bool.not_true, Bool.not_false, Bool.false_eq_true, if_true, if_false, ite_true, ite_false, decide_eq_true_eq, Bool.not_eq_true, Bool.not_eq_true', decide_eq_false_iff_not, Nat.zero_add, Option.map_some, Int.toNat_natCast, decide_true, decide_false, reduceIte, reduceCtorEq, Int.reduceToNat, Int.reduceNeg, Int.reduceAdd, Int.reduceSub, Int.reduceMul, Int.reduceLT, Int.reduceLE, Int.reducePow, Nat.reduceLT, Nat.reduceLeDiff, Nat.reduceAdd, Nat.reduceMul, Nat.reduceSub, Int.reduceMod, Int.reduceDiv, decide_eq_true_eq, Int.reduceEq, Nat.reduceEqDiff]
theorem e_mk {w : Nat} {m : Int} {R : List (List Int)} (s : Shp w R) (rd : D) (h : rd = .tup (dit R) ∨ rd = .lst (dit R)) (e : KM.Env) : mkO "Sheet" m_Sheet__init [.int m, rd] e = .ok (shT m R) e := by
  have sw := s.w1
  have hm : (dit R).map items = R.map fun r => some (dis r) := by
    unfold dit
    rw [List.map_map]
    rfl
  refine x_mkO (e_init m rd (dit R) R ?_ hm s.h0 s.h1 (fun r hr => by rw [s.al r hr]; omega)) e
  rcases h with h | h <;> subst h <;> rfl

end KL

namespace KL
open PySem PySem.Spec PyProof.Rows L2 Evl KP KM
local macro_rules | `(tactic| walk_at "d") => `(tactic| first | omega | (simp only [List.length_map, List.length_append, List.length_cons, List.length_nil, leafs_len, dis_len]; omega) | (simp; done))
local macro_rules | `(tactic| walk_at "m") => `(tactic| simp -implicitDefEqProofs (disch := walk_at "d") only [x_bnd, x_ret, x_opt, x_bind, x_bindX, x_bindS, x_bindI, x_out, x_outX, x_outS, x_outI, x_thenS, x_seq, x_nx, x_nbrk, x_ncnt, x_nret, x_nexc, x_nstuck, x_nI, x_nil, x_brk, x_cnt, x_drop, x_sret, x_retN, x_sif, x_iteSM, x_iteM, x_asg, x_optOut, x_gt, x_gNm, x_gTp, x_gCn, x_gNl, x_aug, x_augV, x_ipAdd, x_ipSub, x_ipXor, x_pC, x_vMC, x_oV, x_bV, x_vO, x_tst, x_unBl, x_tnot, x_tand, x_tor, x_vAnd, x_vOr, x_vNot, x_vIf, x_toD, x_toDL, x_shalL, x_shalV, x_nm, x_nmO, x_pNm, x_pNmO, x_lookV, x_lookN, x_lookL, x_lookD, x_lookO, x_lookP, x_node, x_atO, x_atP, x_at, x_atS, x_chI, x_chF, x_some, x_map, x_vL, x_vLO, x_frzV, x_frzN, x_frzO, x_pFld, x_pIx, x_pD, x_pLk, x_pAt, x_dataV, x_dataL, x_dataO, x_stepIV, x_stepIL, x_stepOV, x_stepOLf, x_tOpd, x_tOpdL, x_itL, x_itF, x_itT, x_atN, x_atM, x_ixN, x_oOp, x_oU, x_pOp, x_pU, x_oA, x_pA, x_paNil, x_paCons, x_looks0, x_looks, x_aNil, x_aCons, x_vNil, x_vCons, x_vStar, x_starO, x_oLst, x_vTup, x_pTup, x_add, x_addL, x_addT, x_addS, x_sub, x_band, x_bor, x_bxor, x_mul, x_fdiv, x_mod, x_pow, x_shl, x_shr, x_neg, x_lt, x_le, x_gt', x_ge, x_eqI, x_neI, x_eqS, x_neS, x_eqB, x_neB, x_is, x_isnot, x_ixT, x_ixL, x_ixF, x_ixS, x_lenL, x_lenT, x_lenF, x_lenS, x_abs, x_min, x_max, x_int, x_intB, x_list, x_tup, x_oSl, x_ipNo, x_ipSome, x_ipO, x_slT, x_slL, x_slF, x_slS, x_put, x_putO, x_putL, x_putAt, x_putAO, x_tput, x_app, x_appO, x_appO2, x_mv, x_mvO, x_for, x_iIt, x_iterL, x_iterT, x_iterF, x_iterS, x_rsOk, x_rsX, x_call, x_callO, x_take0, x_takeV, x_takeN, x_takeO, x_give0, x_giveV, x_giveN, x_finN, x_finR, x_finX, x_finI, x_fnOut, x_optRF, x_outs0, x_outsT, x_outsF, x_ok0, x_okT, x_okF, x_iEnM, x_mExt, x_extO, x_seqL, x_seqT, x_pop, x_popO, x_oM, x_strOut, x_count, x_starts, x_sumL, x_sortedL, x_join, x_lstZip, x_iZpM, x_isD_nn, x_isD_nb, x_isD_bn, x_isD_bb, x_isD_in, x_isD_ib, x_isD_sn, x_isD_sb, x_isD_ln, x_isD_lb, x_isD_tn, x_isD_tb, x_isi_n_int, x_isi_n_bool, x_isi_n_str, x_isi_n_list, x_isi_n_tuple, x_isi_b_int, x_isi_b_bool, x_isi_b_str, x_isi_b_list, x_isi_b_tuple, x_isi_i_int, x_isi_i_bool, x_isi_i_str, x_isi_i_list, x_isi_i_tuple, x_isi_s_int, x_isi_s_bool, x_isi_s_str, x_isi_s_list, x_isi_s_tuple, x_isi_l_int, x_isi_l_bool, x_isi_l_str, x_isi_l_list, x_isi_l_tuple, x_isi_t_int, x_isi_t_bool, x_isi_t_str, x_isi_t_list, x_isi_t_tuple, x_tru, x_truN, x_truB, x_truI, x_truL, x_truF, x_truT, x_truS, x_R1, x_r1K, x_R2, x_r2K, x_in62, x_lcM, x_lcGo, x_lcRes, x_okW0, x_okW, x_okC1, x_okC2, x_okC3, x_wipe0, x_wipe, x_rest0, x_rest, x_joinS, x_chain, x_chO, x_zipT_LL, x_zpL_LL, x_zipT_LT, x_zpL_LT, x_zipT_TL, x_zpL_TL, x_zipT_TT, x_zpL_TT, x_ext2, x_ext3, x_eqIL, x_eqIT, x_cut, x_callT, x_callTO, x_drop1, x_mk0, x_mkV, x_mkK, x_fldX, x_mMake, x_setA, x_boolB, x_boolI, x_stepFL, x_eqIR, x_eqBB, Int.cast_ofNat_Int, small_of, Bool.and_self, Bool.and_true, Bool.true_and, List.getElem?_cons_zero, List.getElem?_cons_succ, List.set_cons_zero, List.set_cons_succ, List.map_cons, List.map_nil, List.replicate_zero, List.replicate_succ, List.cons_append, List.nil_append, List.length_cons, List.length_nil, leafs_snoc, leafs_app, leafs_set, leafs_len, leafs_get, Bool.not_true, Bool.not_false, Bool.false_eq_true, if_true, if_false, ite_true, ite_false, decide_eq_true_eq, Bool.not_eq_true, Bool.not_eq_true', decide_eq_false_iff_not, Nat.zero_add, Option.map_some, Int.toNat_natCast, decide_true, decide_false, reduceIte, reduceCtorEq, Int.reduceToNat, Int.reduceNeg, Int.reduceAdd, Int.reduceSub, Int.reduceMul, Int.reduceLT, Int.reduceLE, Int.reducePow, Nat.reduceLT, Nat.reduceLeDiff, Nat.reduceAdd, Nat.reduceMul, Nat.reduceSub, Int.reduceMod, Int.reduceDiv, decide_eq_true_eq, Int.reduceEq, Nat.reduceEqDiff])

/-! ### the law -/
theorem sample_ne {v q m : Int} (h0 : 0 ≤ v) (h1 : v < m) (h2 : 0 ≤ q) (h3 : q < m - 1) : (v + 1 + q) % m ≠ v := fun e => by
  have h := Int.emod_add_mul_ediv (v + 1 + q) m
  rw [e] at h
  have hd : m ∣ 1 + q := ⟨(v + 1 + q) / m, by omega⟩
  have := Int.le_of_dvd (by omega) hd
  omega
theorem row_set {r : List Int} {x : Nat} (s : Int) (h : x < r.length) : dis (r.take x) ++ [D.int s] ++ dis (r.drop (x + 1)) = dis (r.set x s) := by
  rw [← set_eq s h, dis_app, dis_app]
  rfl
theorem cutI_to {r : List Int} {x : Nat} (h : x ≤ r.length) : KM.cutI r none (some (x : Nat)) = r.take x := by
  unfold KM.cutI
  rw [HT.sIx_nat, show HT.sIx r.length 0 none = 0 from rfl, Nat.min_eq_left h, List.drop_zero, Nat.sub_zero]
theorem cutI_from {r : List Int} {x : Nat} (h : x ≤ r.length) : KM.cutI r (some (x : Nat)) none = r.drop x := by
  unfold KM.cutI
  rw [HT.sIx_nat, show HT.sIx r.length r.length none = r.length from rfl, Nat.min_eq_left h]
  exact List.take_of_length_le (by rw [List.length_drop]; omega)
theorem rows_set {R : List (List Int)} {y : Nat} (q : List Int) (h : y < R.length) : (dit R).take y ++ [D.tup (dis q)] ++ (dit R).drop (y + 1) = dit (R.set y q) := by
  rw [← set_eq q h, dit_app, dit_app]
  unfold dit
  rw [List.map_take, List.map_drop]
  rfl
theorem Shp.set {w y : Nat} {R : List (List Int)} (s : Shp w R) (q : List Int) (hq : q.length = w) : Shp w (R.set y q) := by
  refine ⟨by rw [List.length_set]; exact s.h0, by rw [List.length_set]; exact s.h1, s.w0, s.w1, fun r hr => ?_⟩
  rcases List.mem_or_eq_of_mem_set hr with h | h
  · exact s.al r h
  · rw [h]; exact hq
section
variable {l : List Bool} {n k w x y : Nat} {m : Int} {R : List (List Int)} {r : List Int} {dr : Dr}
theorem t_20 (hl : l.length ≤ 6) (hn : n ≤ l.length) (hm : 1 ≤ m) (hm2 : m ≤ 65536) (s : Shp w R) (hr : R[y]? = some r) (hx : x < w) (hv : ∀ v ∈ r, 0 ≤ v ∧ v < m) (hd : dr.Ok) (S c2 c3 c5 c6 c14 c15 c16 : T) (args : T) :
    ∃ outs, fnFin [false] [args] (b_law_20 [some S, some (drw dr), some c2, some c3, some (.val (.str (wS l))), some c5, some c6, some (.val (.int ((n + 1 : Nat) : Int))), some (.val (.int (x : Nat))), some (.val (.int (y : Nat))), some (.val (.int m)), some (.val (trD R)), some (.lst (leafs (grd l))), some (shT m R), some c14, some c15, some c16, none, none, none, none, none, none]) = .ok (.val (.bl true)) outs := by
  have es := e_shis (m := m) s
  unfold b_law_20
  by_cases h1 : m > 1
  · have hw : r.length = w := s.al r (List.mem_of_getElem? hr)
    have hy : y < R.length := (List.getElem?_eq_some_iff.mp hr).1
    have gR : (dit R)[y]? = some (.tup (dis r)) := by rw [dit_get, hr]; rfl
    obtain ⟨v, hrv⟩ := KM.lt_get (show x < r.length by omega)
    have gr : (dis r)[x]? = some (.int v) := by rw [dis_get, hrv]; rfl
    have gd : r.getD x 0 = v := by rw [List.getD_eq_getElem?_getD, hrv]; rfl
    obtain ⟨v0, v1⟩ := hv v (List.mem_of_getElem? hrv)
    have a1 := dv_lo (x := dr) (m := m - 1) (by omega)
    have a2 := dv_hi (x := dr) (m := m - 1) (by omega)
    have hdr := e_draw (x := dr) (m := m - 1) (by omega) (by omega)
    have sn := sample_ne v0 v1 a1 a2
    generalize hs : (v + 1 + dv dr (m - 1)) % m = sm at sn
    have c1 : KM.cutI r none (some (x : Nat)) = r.take x := cutI_to (by omega)
    have c2' : KM.cutI r (some ((x : Int) + 1)) none = r.drop (x + 1) := cutI_from (x := x + 1) (by omega)
    have c3' : KM.cutD (dit R) none (some (y : Nat)) = (dit R).take y := cutD_to (by rw [dit_len]; omega)
    have c4 : KM.cutD (dit R) (some ((y : Int) + 1)) none = (dit R).drop (y + 1) := cutD_from (k := y + 1) (by rw [dit_len]; omega)
    have sh := s.h1
    have sw := s.w1
    have t1 : (r.take x).length ≤ 1000 := by rw [List.length_take]; omega
    have t2 : (r.drop (x + 1)).length ≤ 1000 := by rw [List.length_drop]; omega
    have t3 : ((dit R).take y).length ≤ 1000 := by rw [List.length_take, dit_len]; omega
    have t4 : ((dit R).drop (y + 1)).length ≤ 1000 := by rw [List.length_drop, dit_len]; omega
    have r1 := row_set (r := r) (x := x) sm (by omega)
    have r2 := rows_set (R := R) (y := y) (r.set x sm) hy
    have s' := s.set (y := y) (r.set x sm) (by rw [List.length_set]; exact hw)
    have mk := fun e => e_mk (m := m) s' (.lst (dit (R.set y (r.set x sm)))) (.inr rfl) e
    have vw := e_view hl hn s'
    have vr := e_vr (m := m) hl hn s' rfl
    have k1 := e_coarse (m := m) hl hn s'
    have k2 := e_coarse (m := m) hl hn s
    have eo := e_opS m m (V (stepsN l n true) (stepsN l n false) (R.set y (r.set x sm))) (V (stepsN l n true) (stepsN l n false) R)
    have vh := V_hit (l := l) (n := n) (x := x) (y := y) (s := sm) s hr hx (by rw [gd]; exact sn)
    have ep := e_pass (x := x) (y := y) hl
    have pl := pass_lt (x := x) (y := y) hn
    rw [vh] at eo
    unfold trD at vw vr es ⊢
    cases hh : hit l n x y with
    | true =>
      rw [hh] at pl eo
      have pl : ((passN l x y : Nat) : Int) < ((n + 1 : Nat) : Int) := of_decide_eq_true pl
      have pg : ¬ ((passN l x y : Nat) : Int) ≥ ((n + 1 : Nat) : Int) := by omega
      simp -implicitDefEqProofs (disch := walk_at "d") only [h1, gR, gr, hdr, hs, c1, c2', r1, c3', c4, r2, mk, vw, vr, k1, k2, sh_toD, sh_shal, eo, ep, pg, es, x_bnd, x_ret, x_opt, x_bind, x_bindX, x_bindS, x_bindI, x_out, x_outX, x_outS, x_outI, x_thenS, x_seq, x_nx, x_nbrk, x_ncnt, x_nret, x_nexc, x_nstuck, x_nI, x_nil, x_brk, x_cnt, x_drop, x_sret, x_retN, x_sif, x_iteSM, x_iteM, x_asg, x_optOut, x_gt, x_gNm, x_gTp, x_gCn, x_gNl, x_aug, x_augV, x_ipAdd, x_ipSub, x_ipXor, x_pC, x_vMC, x_oV, x_bV, x_vO, x_tst, x_unBl, x_tnot, x_tand, x_tor, x_vAnd, x_vOr, x_vNot, x_vIf, x_toD, x_toDL, x_shalL, x_shalV, x_nm, x_nmO, x_pNm, x_pNmO, x_lookV, x_lookN, x_lookL, x_lookD, x_lookO, x_lookP, x_node, x_atO, x_atP, x_at, x_atS, x_chI, x_chF, x_some, x_map, x_vL, x_vLO, x_frzV, x_frzN, x_frzO, x_pFld, x_pIx, x_pD, x_pLk, x_pAt, x_dataV, x_dataL, x_dataO, x_stepIV, x_stepIL, x_stepOV, x_stepOLf, x_tOpd, x_tOpdL, x_itL, x_itF, x_itT, x_atN, x_atM, x_ixN, x_oOp, x_oU, x_pOp, x_pU, x_oA, x_pA, x_paNil, x_paCons, x_looks0, x_looks, x_aNil, x_aCons, x_vNil, x_vCons, x_vStar, x_starO, x_oLst, x_vTup, x_pTup, x_add, x_addL, x_addT, x_addS, x_sub, x_band, x_bor, x_bxor, x_mul, x_fdiv, x_mod, x_pow, x_shl, x_shr, x_neg, x_lt, x_le, x_gt', x_ge, x_eqI, x_neI, x_eqS, x_neS, x_eqB, x_neB, x_is, x_isnot, x_ixT, x_ixL, x_ixF, x_ixS, x_lenL, x_lenT, x_lenF, x_lenS, x_abs, x_min, x_max, x_int, x_intB, x_list, x_tup, x_oSl, x_ipNo, x_ipSome, x_ipO, x_slT, x_slL, x_slF, x_slS, x_put, x_putO, x_putL, x_putAt, x_putAO, x_tput, x_app, x_appO, x_appO2, x_mv, x_mvO, x_for, x_iIt, x_iterL, x_iterT, x_iterF, x_iterS, x_rsOk, x_rsX, x_call, x_callO, x_take0, x_takeV, x_takeN, x_takeO, x_give0, x_giveV, x_giveN, x_finN, x_finR, x_finX, x_finI, x_fnOut, x_optRF, x_outs0, x_outsT, x_outsF, x_ok0, x_okT, x_okF, x_iEnM, x_mExt, x_extO, x_seqL, x_seqT, x_pop, x_popO, x_oM, x_strOut, x_count, x_starts, x_sumL, x_sortedL, x_join, x_lstZip, x_iZpM, x_isD_nn, x_isD_nb, x_isD_bn, x_isD_bb, x_isD_in, x_isD_ib, x_isD_sn, x_isD_sb, x_isD_ln, x_isD_lb, x_isD_tn, x_isD_tb, x_isi_n_int, x_isi_n_bool, x_isi_n_str, x_isi_n_list, x_isi_n_tuple, x_isi_b_int, x_isi_b_bool, x_isi_b_str, x_isi_b_list, x_isi_b_tuple, x_isi_i_int, x_isi_i_bool, x_isi_i_str, x_isi_i_list, x_isi_i_tuple, x_isi_s_int, x_isi_s_bool, x_isi_s_str, x_isi_s_list, x_isi_s_tuple, x_isi_l_int, x_isi_l_bool, x_isi_l_str, x_isi_l_list, x_isi_l_tuple, x_isi_t_int, x_isi_t_bool, x_isi_t_str, x_isi_t_list, x_isi_t_tuple, x_tru, x_truN, x_truB, x_truI, x_truL, x_truF, x_truT, x_truS, x_R1, x_r1K, x_R2, x_r2K, x_in62, x_lcM, x_lcGo, x_lcRes, x_okW0, x_okW, x_okC1, x_okC2, x_okC3, x_wipe0, x_wipe, x_rest0, x_rest, x_joinS, x_chain, x_chO, x_zipT_LL, x_zpL_LL, x_zipT_LT, x_zpL_LT, x_zipT_TL, x_zpL_TL, x_zipT_TT, x_zpL_TT, x_ext2, x_ext3, x_eqIL, x_eqIT, x_cut, x_callT, x_callTO, x_drop1, x_mk0, x_mkV, x_mkK, x_fldX, x_mMake, x_setA, x_boolB, x_boolI, x_stepFL, x_eqIR, x_eqBB, Int.cast_ofNat_Int, small_of, Bool.and_self, Bool.and_true, Bool.true_and, List.getElem?_cons_zero, List.getElem?_cons_succ, List.set_cons_zero, List.set_cons_succ, List.map_cons, List.map_nil, List.replicate_zero, List.replicate_succ, List.cons_append, List.nil_append, List.length_cons, List.length_nil, leafs_snoc, leafs_app, leafs_set, leafs_len, leafs_get, Bool.not_true, Bool.not_false, Bool.false_eq_true, if_true, if_false, ite_true, ite_false, decide_eq_true_eq, Bool.not_eq_true, Bool.not_eq_true', decide_eq_false_iff_not, Nat.zero_add, Option.map_some, Int.toNat_natCast, decide_true, decide_false, reduceIte, reduceCtorEq, Int.reduceToNat, Int.reduceNeg, Int.reduceAdd, Int.reduceSub, Int.reduceMul, Int.reduceLT, Int.reduceLE, Int.reducePow, Nat.reduceLT, Nat.reduceLeDiff, Nat.reduceAdd, Nat.reduceMul, Nat.reduceSub, Int.reduceMod, Int.reduceDiv, decide_eq_true_eq, Int.reduceEq, Nat.reduceEqDiff]
      exact ⟨_, rfl⟩
    | false =>
      rw [hh] at pl eo
      have pl : ¬ ((passN l x y : Nat) : Int) < ((n + 1 : Nat) : Int) := of_decide_eq_false pl
      have pg : ((passN l x y : Nat) : Int) ≥ ((n + 1 : Nat) : Int) := by omega
      simp -implicitDefEqProofs (disch := walk_at "d") only [h1, gR, gr, hdr, hs, c1, c2', r1, c3', c4, r2, mk, vw, vr, k1, k2, sh_toD, sh_shal, eo, ep, pg, es, x_bnd, x_ret, x_opt, x_bind, x_bindX, x_bindS, x_bindI, x_out, x_outX, x_outS, x_outI, x_thenS, x_seq, x_nx, x_nbrk, x_ncnt, x_nret, x_nexc, x_nstuck, x_nI, x_nil, x_brk, x_cnt, x_drop, x_sret, x_retN, x_sif, x_iteSM, x_iteM, x_asg, x_optOut, x_gt, x_gNm, x_gTp, x_gCn, x_gNl, x_aug, x_augV, x_ipAdd, x_ipSub, x_ipXor, x_pC, x_vMC, x_oV, x_bV, x_vO, x_tst, x_unBl, x_tnot, x_tand, x_tor, x_vAnd, x_vOr, x_vNot, x_vIf, x_toD, x_toDL, x_shalL, x_shalV, x_nm, x_nmO, x_pNm, x_pNmO, x_lookV, x_lookN, x_lookL, x_lookD, x_lookO, x_lookP, x_node, x_atO, x_atP, x_at, x_atS, x_chI, x_chF, x_some, x_map, x_vL, x_vLO, x_frzV, x_frzN, x_frzO, x_pFld, x_pIx, x_pD, x_pLk, x_pAt, x_dataV, x_dataL, x_dataO, x_stepIV, x_stepIL, x_stepOV, x_stepOLf, x_tOpd, x_tOpdL, x_itL, x_itF, x_itT, x_atN, x_atM, x_ixN, x_oOp, x_oU, x_pOp, x_pU, x_oA, x_pA, x_paNil, x_paCons, x_looks0, x_looks, x_aNil, x_aCons, x_vNil, x_vCons, x_vStar, x_starO, x_oLst, x_vTup, x_pTup, x_add, x_addL, x_addT, x_addS, x_sub, x_band, x_bor, x_bxor, x_mul, x_fdiv, x_mod, x_pow, x_shl, x_shr, x_neg, x_lt, x_le, x_gt', x_ge, x_eqI, x_neI, x_eqS, x_neS, x_eqB, x_neB, x_is, x_isnot, x_ixT, x_ixL, x_ixF, x_ixS, x_lenL, x_lenT, x_lenF, x_lenS, x_abs, x_min, x_max, x_int, x_intB, x_list, x_tup, x_oSl, x_ipNo, x_ipSome, x_ipO, x_slT, x_slL, x_slF, x_slS, x_put, x_putO, x_putL, x_putAt, x_putAO, x_tput, x_app, x_appO, x_appO2, x_mv, x_mvO, x_for, x_iIt, x_iterL, x_iterT, x_iterF, x_iterS, x_rsOk, x_rsX, x_call, x_callO, x_take0, x_takeV, x_takeN, x_takeO, x_give0, x_giveV, x_giveN, x_finN, x_finR, x_finX, x_finI, x_fnOut, x_optRF, x_outs0, x_outsT, x_outsF, x_ok0, x_okT, x_okF, x_iEnM, x_mExt, x_extO, x_seqL, x_seqT, x_pop, x_popO, x_oM, x_strOut, x_count, x_starts, x_sumL, x_sortedL, x_join, x_lstZip, x_iZpM, x_isD_nn, x_isD_nb, x_isD_bn, x_isD_bb, x_isD_in, x_isD_ib, x_isD_sn, x_isD_sb, x_isD_ln, x_isD_lb, x_isD_tn, x_isD_tb, x_isi_n_int, x_isi_n_bool, x_isi_n_str, x_isi_n_list, x_isi_n_tuple, x_isi_b_int, x_isi_b_bool, x_isi_b_str, x_isi_b_list, x_isi_b_tuple, x_isi_i_int, x_isi_i_bool, x_isi_i_str, x_isi_i_list, x_isi_i_tuple, x_isi_s_int, x_isi_s_bool, x_isi_s_str, x_isi_s_list, x_isi_s_tuple, x_isi_l_int, x_isi_l_bool, x_isi_l_str, x_isi_l_list, x_isi_l_tuple, x_isi_t_int, x_isi_t_bool, x_isi_t_str, x_isi_t_list, x_isi_t_tuple, x_tru, x_truN, x_truB, x_truI, x_truL, x_truF, x_truT, x_truS, x_R1, x_r1K, x_R2, x_r2K, x_in62, x_lcM, x_lcGo, x_lcRes, x_okW0, x_okW, x_okC1, x_okC2, x_okC3, x_wipe0, x_wipe, x_rest0, x_rest, x_joinS, x_chain, x_chO, x_zipT_LL, x_zpL_LL, x_zipT_LT, x_zpL_LT, x_zipT_TL, x_zpL_TL, x_zipT_TT, x_zpL_TT, x_ext2, x_ext3, x_eqIL, x_eqIT, x_cut, x_callT, x_callTO, x_drop1, x_mk0, x_mkV, x_mkK, x_fldX, x_mMake, x_setA, x_boolB, x_boolI, x_stepFL, x_eqIR, x_eqBB, Int.cast_ofNat_Int, small_of, Bool.and_self, Bool.and_true, Bool.true_and, List.getElem?_cons_zero, List.getElem?_cons_succ, List.set_cons_zero, List.set_cons_succ, List.map_cons, List.map_nil, List.replicate_zero, List.replicate_succ, List.cons_append, List.nil_append, List.length_cons, List.length_nil, leafs_snoc, leafs_app, leafs_set, leafs_len, leafs_get, Bool.not_true, Bool.not_false, Bool.false_eq_true, if_true, if_false, ite_true, ite_false, decide_eq_true_eq, Bool.not_eq_true, Bool.not_eq_true', decide_eq_false_iff_not, Nat.zero_add, Option.map_some, Int.toNat_natCast, decide_true, decide_false, reduceIte, reduceCtorEq, Int.reduceToNat, Int.reduceNeg, Int.reduceAdd, Int.reduceSub, Int.reduceMul, Int.reduceLT, Int.reduceLE, Int.reducePow, Nat.reduceLT, Nat.reduceLeDiff, Nat.reduceAdd, Nat.reduceMul, Nat.reduceSub, Int.reduceMod, Int.reduceDiv, decide_eq_true_eq, Int.reduceEq, Nat.reduceEqDiff]
      exact ⟨_, rfl⟩
  · unfold trD at es ⊢
    simp -implicitDefEqProofs (disch := walk_at "d") only [h1, es, x_bnd, x_ret, x_opt, x_bind, x_bindX, x_bindS, x_bindI, x_out, x_outX, x_outS, x_outI, x_thenS, x_seq, x_nx, x_nbrk, x_ncnt, x_nret, x_nexc, x_nstuck, x_nI, x_nil, x_brk, x_cnt, x_drop, x_sret, x_retN, x_sif, x_iteSM, x_iteM, x_asg, x_optOut, x_gt, x_gNm, x_gTp, x_gCn, x_gNl, x_aug, x_augV, x_ipAdd, x_ipSub, x_ipXor, x_pC, x_vMC, x_oV, x_bV, x_vO, x_tst, x_unBl, x_tnot, x_tand, x_tor, x_vAnd, x_vOr, x_vNot, x_vIf, x_toD, x_toDL, x_shalL, x_shalV, x_nm, x_nmO, x_pNm, x_pNmO, x_lookV, x_lookN, x_lookL, x_lookD, x_lookO, x_lookP, x_node, x_atO, x_atP, x_at, x_atS, x_chI, x_chF, x_some, x_map, x_vL, x_vLO, x_frzV, x_frzN, x_frzO, x_pFld, x_pIx, x_pD, x_pLk, x_pAt, x_dataV, x_dataL, x_dataO, x_stepIV, x_stepIL, x_stepOV, x_stepOLf, x_tOpd, x_tOpdL, x_itL, x_itF, x_itT, x_atN, x_atM, x_ixN, x_oOp, x_oU, x_pOp, x_pU, x_oA, x_pA, x_paNil, x_paCons, x_looks0, x_looks, x_aNil, x_aCons, x_vNil, x_vCons, x_vStar, x_starO, x_oLst, x_vTup, x_pTup, x_add, x_addL, x_addT, x_addS, x_sub, x_band, x_bor, x_bxor, x_mul, x_fdiv, x_mod, x_pow, x_shl, x_shr, x_neg, x_lt, x_le, x_gt', x_ge, x_eqI, x_neI, x_eqS, x_neS, x_eqB, x_neB, x_is, x_isnot, x_ixT, x_ixL, x_ixF, x_ixS, x_lenL, x_lenT, x_lenF, x_lenS, x_abs, x_min, x_max, x_int, x_intB, x_list, x_tup, x_oSl, x_ipNo, x_ipSome, x_ipO, x_slT, x_slL, x_slF, x_slS, x_put, x_putO, x_putL, x_putAt, x_putAO, x_tput, x_app, x_appO, x_appO2, x_mv, x_mvO, x_for, x_iIt, x_iterL, x_iterT, x_iterF, x_iterS, x_rsOk, x_rsX, x_call, x_callO, x_take0, x_takeV, x_takeN, x_takeO, x_give0, x_giveV, x_giveN, x_finN, x_finR, x_finX, x_finI, x_fnOut, x_optRF, x_outs0, x_outsT, x_outsF, x_ok0, x_okT, x_okF, x_iEnM, x_mExt, x_extO, x_seqL, x_seqT, x_pop, x_popO, x_oM, x_strOut, x_count, x_starts, x_sumL, x_sortedL, x_join, x_lstZip, x_iZpM, x_isD_nn, x_isD_nb, x_isD_bn, x_isD_bb, x_isD_in, x_isD_ib, x_isD_sn, x_isD_sb, x_isD_ln, x_isD_lb, x_isD_tn, x_isD_tb, x_isi_n_int, x_isi_n_bool, x_isi_n_str, x_isi_n_list, x_isi_n_tuple, x_isi_b_int, x_isi_b_bool, x_isi_b_str, x_isi_b_list, x_isi_b_tuple, x_isi_i_int, x_isi_i_bool, x_isi_i_str, x_isi_i_list, x_isi_i_tuple, x_isi_s_int, x_isi_s_bool, x_isi_s_str, x_isi_s_list, x_isi_s_tuple, x_isi_l_int, x_isi_l_bool, x_isi_l_str, x_isi_l_list, x_isi_l_tuple, x_isi_t_int, x_isi_t_bool, x_isi_t_str, x_isi_t_list, x_isi_t_tuple, x_tru, x_truN, x_truB, x_truI, x_truL, x_truF, x_truT, x_truS, x_R1, x_r1K, x_R2, x_r2K, x_in62, x_lcM, x_lcGo, x_lcRes, x_okW0, x_okW, x_okC1, x_okC2, x_okC3, x_wipe0, x_wipe, x_rest0, x_rest, x_joinS, x_chain, x_chO, x_zipT_LL, x_zpL_LL, x_zipT_LT, x_zpL_LT, x_zipT_TL, x_zpL_TL, x_zipT_TT, x_zpL_TT, x_ext2, x_ext3, x_eqIL, x_eqIT, x_cut, x_callT, x_callTO, x_drop1, x_mk0, x_mkV, x_mkK, x_fldX, x_mMake, x_setA, x_boolB, x_boolI, x_stepFL, x_eqIR, x_eqBB, Int.cast_ofNat_Int, small_of, Bool.and_self, Bool.and_true, Bool.true_and, List.getElem?_cons_zero, List.getElem?_cons_succ, List.set_cons_zero, List.set_cons_succ, List.map_cons, List.map_nil, List.replicate_zero, List.replicate_succ, List.cons_append, List.nil_append, List.length_cons, List.length_nil, leafs_snoc, leafs_app, leafs_set, leafs_len, leafs_get, Bool.not_true, Bool.not_false, Bool.false_eq_true, if_true, if_false, ite_true, ite_false, decide_eq_true_eq, Bool.not_eq_true, Bool.not_eq_true', decide_eq_false_iff_not, Nat.zero_add, Option.map_some, Int.toNat_natCast, decide_true, decide_false, reduceIte, reduceCtorEq, Int.reduceToNat, Int.reduceNeg, Int.reduceAdd, Int.reduceSub, Int.reduceMul, Int.reduceLT, Int.reduceLE, Int.reducePow, Nat.reduceLT, Nat.reduceLeDiff, Nat.reduceAdd, Nat.reduceMul, Nat.reduceSub, Int.reduceMod, Int.reduceDiv, decide_eq_true_eq, Int.reduceEq, Nat.reduceEqDiff]
    exact ⟨_, rfl⟩
end

end KL

namespace KL
open PySem PySem.Spec PyProof.Rows L2 Evl KP KM
local macro_rules | `(tactic| walk_at "d") => `(tactic| first | omega | (simp only [List.length_map, List.length_append, List.length_cons, List.length_nil, leafs_len, dis_len]; omega) | (simp; done))
local macro_rules | `(tactic| walk_at "m") => `(tactic| simp -implicitDefEqProofs (disch := walk_at "d") only [x_bnd, x_ret, x_opt, x_bind, x_bindX, x_bindS, x_bindI, x_out, x_outX, x_outS, x_outI, x_thenS, x_seq, x_nx, x_nbrk, x_ncnt, x_nret, x_nexc, x_nstuck, x_nI, x_nil, x_brk, x_cnt, x_drop, x_sret, x_retN, x_sif, x_iteSM, x_iteM, x_asg, x_optOut, x_gt, x_gNm, x_gTp, x_gCn, x_gNl, x_aug, x_augV, x_ipAdd, x_ipSub, x_ipXor, x_pC, x_vMC, x_oV, x_bV, x_vO, x_tst, x_unBl, x_tnot, x_tand, x_tor, x_vAnd, x_vOr, x_vNot, x_vIf, x_toD, x_toDL, x_shalL, x_shalV, x_nm, x_nmO, x_pNm, x_pNmO, x_lookV, x_lookN, x_lookL, x_lookD, x_lookO, x_lookP, x_node, x_atO, x_atP, x_at, x_atS, x_chI, x_chF, x_some, x_map, x_vL, x_vLO, x_frzV, x_frzN, x_frzO, x_pFld, x_pIx, x_pD, x_pLk, x_pAt, x_dataV, x_dataL, x_dataO, x_stepIV, x_stepIL, x_stepOV, x_stepOLf, x_tOpd, x_tOpdL, x_itL, x_itF, x_itT, x_atN, x_atM, x_ixN, x_oOp, x_oU, x_pOp, x_pU, x_oA, x_pA, x_paNil, x_paCons, x_looks0, x_looks, x_aNil, x_aCons, x_vNil, x_vCons, x_vStar, x_starO, x_oLst, x_vTup, x_pTup, x_add, x_addL, x_addT, x_addS, x_sub, x_band, x_bor, x_bxor, x_mul, x_fdiv, x_mod, x_pow, x_shl, x_shr, x_neg, x_lt, x_le, x_gt', x_ge, x_eqI, x_neI, x_eqS, x_neS, x_eqB, x_neB, x_is, x_isnot, x_ixT, x_ixL, x_ixF, x_ixS, x_lenL, x_lenT, x_lenF, x_lenS, x_abs, x_min, x_max, x_int, x_intB, x_list, x_tup, x_oSl, x_ipNo, x_ipSome, x_ipO, x_slT, x_slL, x_slF, x_slS, x_put, x_putO, x_putL, x_putAt, x_putAO, x_tput, x_app, x_appO, x_appO2, x_mv, x_mvO, x_for, x_iIt, x_iterL, x_iterT, x_iterF, x_iterS, x_rsOk, x_rsX, x_call, x_callO, x_take0, x_takeV, x_takeN, x_takeO, x_give0, x_giveV, x_giveN, x_finN, x_finR, x_finX, x_finI, x_fnOut, x_optRF, x_outs0, x_outsT, x_outsF, x_ok0, x_okT, x_okF, x_iEnM, x_mExt, x_extO, x_seqL, x_seqT, x_pop, x_popO, x_oM, x_strOut, x_count, x_starts, x_sumL, x_sortedL, x_join, x_lstZip, x_iZpM, x_isD_nn, x_isD_nb, x_isD_bn, x_isD_bb, x_isD_in, x_isD_ib, x_isD_sn, x_isD_sb, x_isD_ln, x_isD_lb, x_isD_tn, x_isD_tb, x_isi_n_int, x_isi_n_bool, x_isi_n_str, x_isi_n_list, x_isi_n_tuple, x_isi_b_int, x_isi_b_bool, x_isi_b_str, x_isi_b_list, x_isi_b_tuple, x_isi_i_int, x_isi_i_bool, x_isi_i_str, x_isi_i_list, x_isi_i_tuple, x_isi_s_int, x_isi_s_bool, x_isi_s_str, x_isi_s_list, x_isi_s_tuple, x_isi_l_int, x_isi_l_bool, x_isi_l_str, x_isi_l_list, x_isi_l_tuple, x_isi_t_int, x_isi_t_bool, x_isi_t_str, x_isi_t_list, x_isi_t_tuple, x_tru, x_truN, x_truB, x_truI, x_truL, x_truF, x_truT, x_truS, x_R1, x_r1K, x_R2, x_r2K, x_in62, x_lcM, x_lcGo, x_lcRes, x_okW0, x_okW, x_okC1, x_okC2, x_okC3, x_wipe0, x_wipe, x_rest0, x_rest, x_joinS, x_chain, x_chO, x_zipT_LL, x_zpL_LL, x_zipT_LT, x_zpL_LT, x_zipT_TL, x_zpL_TL, x_zipT_TT, x_zpL_TT, x_ext2, x_ext3, x_eqIL, x_eqIT, x_cut, x_callT, x_callTO, x_drop1, x_mk0, x_mkV, x_mkK, x_fldX, x_mMake, x_setA, x_boolB, x_boolI, x_stepFL, x_eqIR, x_eqBB, Int.cast_ofNat_Int, small_of, Bool.and_self, Bool.and_true, Bool.true_and, List.getElem?_cons_zero, List.getElem?_cons_succ, List.set_cons_zero, List.set_cons_succ, List.map_cons, List.map_nil, List.replicate_zero, List.replicate_succ, List.cons_append, List.nil_append, List.length_cons, List.length_nil, leafs_snoc, leafs_app, leafs_set, leafs_len, leafs_get, Bool.not_true, Bool.not_false, Bool.false_eq_true, if_true, if_false, ite_true, ite_false, decide_eq_true_eq, Bool.not_eq_true, Bool.not_eq_true', decide_eq_false_iff_not, Nat.zero_add, Option.map_some, Int.toNat_natCast, decide_true, decide_false, reduceIte, reduceCtorEq, Int.reduceToNat, Int.reduceNeg, Int.reduceAdd, Int.reduceSub, Int.reduceMul, Int.reduceLT, Int.reduceLE, Int.reducePow, Nat.reduceLT, Nat.reduceLeDiff, Nat.reduceAdd, Nat.reduceMul, Nat.reduceSub, Int.reduceMod, Int.reduceDiv, decide_eq_true_eq, Int.reduceEq, Nat.reduceEqDiff])

section
variable {l : List Bool} {n k w h x y : Nat} {m : Int} {R : List (List Int)} {dr : Dr}
abbrev Vn (l : List Bool) (n : Nat) (R : List (List Int)) : List (List Int) := V (stepsN l n true) (stepsN l n false) R
theorem Rws.shp {m : Int} {w h : Nat} {R : List (List Int)} (q : Rws m w h R) (hw : 1 ≤ w) (hw2 : w ≤ 40) (hh : 1 ≤ h) (hh2 : h ≤ 40) : Shp w R :=
  ⟨by rw [q.hl]; omega, by rw [q.hl]; omega, by omega, by omega, fun r hr => (q.al r hr).1⟩
theorem t_17 (hl : l.length ≤ 6) (hnk : n ≤ k) (hk : k ≤ l.length) (hm : 1 ≤ m) (hm2 : m ≤ 65536) (q : Rws m w h R) (s : Shp w R) (hx : x < w) (hy : y < h) (hd : dr.Ok) (S c2 c3 c5 : T) (args : T) :
    ∃ outs, fnFin [false] [args] (b_law_17 [some S, some (drw dr), some c2, some c3, some (.val (.str (wS l))), some c5, some (.val (.int ((k + 1 : Nat) : Int))), some (.val (.int ((n + 1 : Nat) : Int))), some (.val (.int (x : Nat))), some (.val (.int (y : Nat))), some (.val (.int m)), some (.val (trD R)), some (.lst (leafs (grd l))), some (shT m R), some (.val (trD (Vn l n R))), some (.val (trD (Vn l k R))), none, none, none, none, none, none, none]) = .ok (.val (.bl true)) outs := by
  have hn : n ≤ l.length := by omega
  obtain ⟨r, hr, _⟩ := s.get (show y < R.length by rw [q.hl]; omega)
  have t20 := t_20 (dr := dr) hl hn hm hm2 s hr hx (q.al r (List.mem_of_getElem? hr)).2 hd S c2 c3 c5 (.val (.int ((k + 1 : Nat) : Int))) (.val (trD (Vn l n R))) (.val (trD (Vn l k R))) (shT m (Vn l k R)) args
  have sv := s.V (a := stepsN l k true) (b := stepsN l k false)
  have e1 := e_coarse (m := m) hl hk s
  have v1 := V_V (steps_dvd (l := l) (b := true) hnk) (steps_dvd (l := l) (b := false) hnk) R
  have v2 := V_V (Nat.dvd_refl (stepsN l k true)) (Nat.dvd_refl (stepsN l k false)) R
  have r1 := e_vr (m := m) hl hn sv v1
  have r2 := e_vr (m := m) hl hk sv v2
  have e2 := e_coarse (m := m) hl hn sv
  have e3 := e_coarse (m := m) hl hn s
  rw [v1] at e2
  have eo := e_opS m m (V (stepsN l n true) (stepsN l n false) R) (V (stepsN l n true) (stepsN l n false) R)
  rw [decide_eq_true rfl, decide_eq_true rfl, Bool.and_self] at eo
  unfold b_law_17
  unfold Vn at t20 ⊢
  simp -implicitDefEqProofs (disch := walk_at "d") only [e1, r1, r2, e2, e3, sh_toD, sh_shal, eo, x_bnd, x_ret, x_opt, x_bind, x_bindX, x_bindS, x_bindI, x_out, x_outX, x_outS, x_outI, x_thenS, x_seq, x_nx, x_nbrk, x_ncnt, x_nret, x_nexc, x_nstuck, x_nI, x_nil, x_brk, x_cnt, x_drop, x_sret, x_retN, x_sif, x_iteSM, x_iteM, x_asg, x_optOut, x_gt, x_gNm, x_gTp, x_gCn, x_gNl, x_aug, x_augV, x_ipAdd, x_ipSub, x_ipXor, x_pC, x_vMC, x_oV, x_bV, x_vO, x_tst, x_unBl, x_tnot, x_tand, x_tor, x_vAnd, x_vOr, x_vNot, x_vIf, x_toD, x_toDL, x_shalL, x_shalV, x_nm, x_nmO, x_pNm, x_pNmO, x_lookV, x_lookN, x_lookL, x_lookD, x_lookO, x_lookP, x_node, x_atO, x_atP, x_at, x_atS, x_chI, x_chF, x_some, x_map, x_vL, x_vLO, x_frzV, x_frzN, x_frzO, x_pFld, x_pIx, x_pD, x_pLk, x_pAt, x_dataV, x_dataL, x_dataO, x_stepIV, x_stepIL, x_stepOV, x_stepOLf, x_tOpd, x_tOpdL, x_itL, x_itF, x_itT, x_atN, x_atM, x_ixN, x_oOp, x_oU, x_pOp, x_pU, x_oA, x_pA, x_paNil, x_paCons, x_looks0, x_looks, x_aNil, x_aCons, x_vNil, x_vCons, x_vStar, x_starO, x_oLst, x_vTup, x_pTup, x_add, x_addL, x_addT, x_addS, x_sub, x_band, x_bor, x_bxor, x_mul, x_fdiv, x_mod, x_pow, x_shl, x_shr, x_neg, x_lt, x_le, x_gt', x_ge, x_eqI, x_neI, x_eqS, x_neS, x_eqB, x_neB, x_is, x_isnot, x_ixT, x_ixL, x_ixF, x_ixS, x_lenL, x_lenT, x_lenF, x_lenS, x_abs, x_min, x_max, x_int, x_intB, x_list, x_tup, x_oSl, x_ipNo, x_ipSome, x_ipO, x_slT, x_slL, x_slF, x_slS, x_put, x_putO, x_putL, x_putAt, x_putAO, x_tput, x_app, x_appO, x_appO2, x_mv, x_mvO, x_for, x_iIt, x_iterL, x_iterT, x_iterF, x_iterS, x_rsOk, x_rsX, x_call, x_callO, x_take0, x_takeV, x_takeN, x_takeO, x_give0, x_giveV, x_giveN, x_finN, x_finR, x_finX, x_finI, x_fnOut, x_optRF, x_outs0, x_outsT, x_outsF, x_ok0, x_okT, x_okF, x_iEnM, x_mExt, x_extO, x_seqL, x_seqT, x_pop, x_popO, x_oM, x_strOut, x_count, x_starts, x_sumL, x_sortedL, x_join, x_lstZip, x_iZpM, x_isD_nn, x_isD_nb, x_isD_bn, x_isD_bb, x_isD_in, x_isD_ib, x_isD_sn, x_isD_sb, x_isD_ln, x_isD_lb, x_isD_tn, x_isD_tb, x_isi_n_int, x_isi_n_bool, x_isi_n_str, x_isi_n_list, x_isi_n_tuple, x_isi_b_int, x_isi_b_bool, x_isi_b_str, x_isi_b_list, x_isi_b_tuple, x_isi_i_int, x_isi_i_bool, x_isi_i_str, x_isi_i_list, x_isi_i_tuple, x_isi_s_int, x_isi_s_bool, x_isi_s_str, x_isi_s_list, x_isi_s_tuple, x_isi_l_int, x_isi_l_bool, x_isi_l_str, x_isi_l_list, x_isi_l_tuple, x_isi_t_int, x_isi_t_bool, x_isi_t_str, x_isi_t_list, x_isi_t_tuple, x_tru, x_truN, x_truB, x_truI, x_truL, x_truF, x_truT, x_truS, x_R1, x_r1K, x_R2, x_r2K, x_in62, x_lcM, x_lcGo, x_lcRes, x_okW0, x_okW, x_okC1, x_okC2, x_okC3, x_wipe0, x_wipe, x_rest0, x_rest, x_joinS, x_chain, x_chO, x_zipT_LL, x_zpL_LL, x_zipT_LT, x_zpL_LT, x_zipT_TL, x_zpL_TL, x_zipT_TT, x_zpL_TT, x_ext2, x_ext3, x_eqIL, x_eqIT, x_cut, x_callT, x_callTO, x_drop1, x_mk0, x_mkV, x_mkK, x_fldX, x_mMake, x_setA, x_boolB, x_boolI, x_stepFL, x_eqIR, x_eqBB, Int.cast_ofNat_Int, small_of, Bool.and_self, Bool.and_true, Bool.true_and, List.getElem?_cons_zero, List.getElem?_cons_succ, List.set_cons_zero, List.set_cons_succ, List.map_cons, List.map_nil, List.replicate_zero, List.replicate_succ, List.cons_append, List.nil_append, List.length_cons, List.length_nil, leafs_snoc, leafs_app, leafs_set, leafs_len, leafs_get, Bool.not_true, Bool.not_false, Bool.false_eq_true, if_true, if_false, ite_true, ite_false, decide_eq_true_eq, Bool.not_eq_true, Bool.not_eq_true', decide_eq_false_iff_not, Nat.zero_add, Option.map_some, Int.toNat_natCast, decide_true, decide_false, reduceIte, reduceCtorEq, Int.reduceToNat, Int.reduceNeg, Int.reduceAdd, Int.reduceSub, Int.reduceMul, Int.reduceLT, Int.reduceLE, Int.reducePow, Nat.reduceLT, Nat.reduceLeDiff, Nat.reduceAdd, Nat.reduceMul, Nat.reduceSub, Int.reduceMod, Int.reduceDiv, decide_eq_true_eq, Int.reduceEq, Nat.reduceEqDiff]
  exact t20
theorem t_15 (hl : l.length ≤ 6) (hnk : n ≤ k) (hk : k ≤ l.length) (hm : 1 ≤ m) (hm2 : m ≤ 65536) (q : Rws m w h R) (s : Shp w R) (hx : x < w) (hy : y < h) (hd : dr.Ok) (S c2 c3 : T) (args : T) :
    ∃ outs, fnFin [false] [args] (b_law_15 [some S, some (drw dr), some c2, some c3, some (.val (.str (wS l))), some (.val (.int ((l.length + 1 : Nat) : Int))), some (.val (.int ((k + 1 : Nat) : Int))), some (.val (.int ((n + 1 : Nat) : Int))), some (.val (.int (x : Nat))), some (.val (.int (y : Nat))), some (.val (.int m)), some (.val (trD R)), some (.lst (leafs (grd l))), some (shT m R), some (.val (trD (Vn l n R))), some (.val (trD (Vn l k R))), none, none, none, none, none, none, none]) = .ok (.val (.bl true)) outs := by
  have hn : n ≤ l.length := by omega
  have t17 := t_17 hl hnk hk hm hm2 q s hx hy hd S c2 c3 (.val (.int ((l.length + 1 : Nat) : Int))) args
  have r1 := e_vr (m := m) hl hn s rfl
  have r2 := e_vr (m := m) hl hk s rfl
  have v1 : V (stepsN l l.length true) (stepsN l l.length false) R = R := by rw [steps_last, steps_last, V_one]
  have r3 := e_vr (m := m) hl (Nat.le_refl _) s v1
  have e1 := e_coarse (m := m) hl (Nat.le_refl _) s
  rw [v1] at e1
  have eo := e_opS m m R R
  rw [decide_eq_true rfl, decide_eq_true rfl, Bool.and_self] at eo
  unfold b_law_15
  unfold Vn at t17 ⊢
  simp -implicitDefEqProofs (disch := walk_at "d") only [r1, r2, r3, e1, sh_toD, sh_shal, eo, x_bnd, x_ret, x_opt, x_bind, x_bindX, x_bindS, x_bindI, x_out, x_outX, x_outS, x_outI, x_thenS, x_seq, x_nx, x_nbrk, x_ncnt, x_nret, x_nexc, x_nstuck, x_nI, x_nil, x_brk, x_cnt, x_drop, x_sret, x_retN, x_sif, x_iteSM, x_iteM, x_asg, x_optOut, x_gt, x_gNm, x_gTp, x_gCn, x_gNl, x_aug, x_augV, x_ipAdd, x_ipSub, x_ipXor, x_pC, x_vMC, x_oV, x_bV, x_vO, x_tst, x_unBl, x_tnot, x_tand, x_tor, x_vAnd, x_vOr, x_vNot, x_vIf, x_toD, x_toDL, x_shalL, x_shalV, x_nm, x_nmO, x_pNm, x_pNmO, x_lookV, x_lookN, x_lookL, x_lookD, x_lookO, x_lookP, x_node, x_atO, x_atP, x_at, x_atS, x_chI, x_chF, x_some, x_map, x_vL, x_vLO, x_frzV, x_frzN, x_frzO, x_pFld, x_pIx, x_pD, x_pLk, x_pAt, x_dataV, x_dataL, x_dataO, x_stepIV, x_stepIL, x_stepOV, x_stepOLf, x_tOpd, x_tOpdL, x_itL, x_itF, x_itT, x_atN, x_atM, x_ixN, x_oOp, x_oU, x_pOp, x_pU, x_oA, x_pA, x_paNil, x_paCons, x_looks0, x_looks, x_aNil, x_aCons, x_vNil, x_vCons, x_vStar, x_starO, x_oLst, x_vTup, x_pTup, x_add, x_addL, x_addT, x_addS, x_sub, x_band, x_bor, x_bxor, x_mul, x_fdiv, x_mod, x_pow, x_shl, x_shr, x_neg, x_lt, x_le, x_gt', x_ge, x_eqI, x_neI, x_eqS, x_neS, x_eqB, x_neB, x_is, x_isnot, x_ixT, x_ixL, x_ixF, x_ixS, x_lenL, x_lenT, x_lenF, x_lenS, x_abs, x_min, x_max, x_int, x_intB, x_list, x_tup, x_oSl, x_ipNo, x_ipSome, x_ipO, x_slT, x_slL, x_slF, x_slS, x_put, x_putO, x_putL, x_putAt, x_putAO, x_tput, x_app, x_appO, x_appO2, x_mv, x_mvO, x_for, x_iIt, x_iterL, x_iterT, x_iterF, x_iterS, x_rsOk, x_rsX, x_call, x_callO, x_take0, x_takeV, x_takeN, x_takeO, x_give0, x_giveV, x_giveN, x_finN, x_finR, x_finX, x_finI, x_fnOut, x_optRF, x_outs0, x_outsT, x_outsF, x_ok0, x_okT, x_okF, x_iEnM, x_mExt, x_extO, x_seqL, x_seqT, x_pop, x_popO, x_oM, x_strOut, x_count, x_starts, x_sumL, x_sortedL, x_join, x_lstZip, x_iZpM, x_isD_nn, x_isD_nb, x_isD_bn, x_isD_bb, x_isD_in, x_isD_ib, x_isD_sn, x_isD_sb, x_isD_ln, x_isD_lb, x_isD_tn, x_isD_tb, x_isi_n_int, x_isi_n_bool, x_isi_n_str, x_isi_n_list, x_isi_n_tuple, x_isi_b_int, x_isi_b_bool, x_isi_b_str, x_isi_b_list, x_isi_b_tuple, x_isi_i_int, x_isi_i_bool, x_isi_i_str, x_isi_i_list, x_isi_i_tuple, x_isi_s_int, x_isi_s_bool, x_isi_s_str, x_isi_s_list, x_isi_s_tuple, x_isi_l_int, x_isi_l_bool, x_isi_l_str, x_isi_l_list, x_isi_l_tuple, x_isi_t_int, x_isi_t_bool, x_isi_t_str, x_isi_t_list, x_isi_t_tuple, x_tru, x_truN, x_truB, x_truI, x_truL, x_truF, x_truT, x_truS, x_R1, x_r1K, x_R2, x_r2K, x_in62, x_lcM, x_lcGo, x_lcRes, x_okW0, x_okW, x_okC1, x_okC2, x_okC3, x_wipe0, x_wipe, x_rest0, x_rest, x_joinS, x_chain, x_chO, x_zipT_LL, x_zpL_LL, x_zipT_LT, x_zpL_LT, x_zipT_TL, x_zpL_TL, x_zipT_TT, x_zpL_TT, x_ext2, x_ext3, x_eqIL, x_eqIT, x_cut, x_callT, x_callTO, x_drop1, x_mk0, x_mkV, x_mkK, x_fldX, x_mMake, x_setA, x_boolB, x_boolI, x_stepFL, x_eqIR, x_eqBB, Int.cast_ofNat_Int, small_of, Bool.and_self, Bool.and_true, Bool.true_and, List.getElem?_cons_zero, List.getElem?_cons_succ, List.set_cons_zero, List.set_cons_succ, List.map_cons, List.map_nil, List.replicate_zero, List.replicate_succ, List.cons_append, List.nil_append, List.length_cons, List.length_nil, leafs_snoc, leafs_app, leafs_set, leafs_len, leafs_get, Bool.not_true, Bool.not_false, Bool.false_eq_true, if_true, if_false, ite_true, ite_false, decide_eq_true_eq, Bool.not_eq_true, Bool.not_eq_true', decide_eq_false_iff_not, Nat.zero_add, Option.map_some, Int.toNat_natCast, decide_true, decide_false, reduceIte, reduceCtorEq, Int.reduceToNat, Int.reduceNeg, Int.reduceAdd, Int.reduceSub, Int.reduceMul, Int.reduceLT, Int.reduceLE, Int.reducePow, Nat.reduceLT, Nat.reduceLeDiff, Nat.reduceAdd, Nat.reduceMul, Nat.reduceSub, Int.reduceMod, Int.reduceDiv, decide_eq_true_eq, Int.reduceEq, Nat.reduceEqDiff]
  exact t17
theorem t_13 (hl : l.length ≤ 6) (hnk : n ≤ k) (hk : k ≤ l.length) (hm : 1 ≤ m) (hm2 : m ≤ 65536) (q : Rws m w h R) (s : Shp w R) (hx : x < w) (hy : y < h) (hd : dr.Ok) (S c2 c3 : T) (args : T) :
    ∃ outs, fnFin [false] [args] (b_law_13 [some S, some (drw dr), some c2, some c3, some (.val (.str (wS l))), some (.val (.int ((l.length + 1 : Nat) : Int))), some (.val (.int ((k + 1 : Nat) : Int))), some (.val (.int ((n + 1 : Nat) : Int))), some (.val (.int (x : Nat))), some (.val (.int (y : Nat))), some (.val (.int m)), some (.val (trD R)), some (.lst (leafs (grd l))), some (shT m R), none, none, none, none, none, none, none, none, none]) = .ok (.val (.bl true)) outs := by
  have hn : n ≤ l.length := by omega
  have t15 := t_15 hl hnk hk hm hm2 q s hx hy hd S c2 c3 args
  have e1 := e_view hl hn s
  have e2 := e_view hl hk s
  unfold b_law_13
  unfold Vn at t15
  simp -implicitDefEqProofs (disch := walk_at "d") only [e1, e2, x_bnd, x_ret, x_opt, x_bind, x_bindX, x_bindS, x_bindI, x_out, x_outX, x_outS, x_outI, x_thenS, x_seq, x_nx, x_nbrk, x_ncnt, x_nret, x_nexc, x_nstuck, x_nI, x_nil, x_brk, x_cnt, x_drop, x_sret, x_retN, x_sif, x_iteSM, x_iteM, x_asg, x_optOut, x_gt, x_gNm, x_gTp, x_gCn, x_gNl, x_aug, x_augV, x_ipAdd, x_ipSub, x_ipXor, x_pC, x_vMC, x_oV, x_bV, x_vO, x_tst, x_unBl, x_tnot, x_tand, x_tor, x_vAnd, x_vOr, x_vNot, x_vIf, x_toD, x_toDL, x_shalL, x_shalV, x_nm, x_nmO, x_pNm, x_pNmO, x_lookV, x_lookN, x_lookL, x_lookD, x_lookO, x_lookP, x_node, x_atO, x_atP, x_at, x_atS, x_chI, x_chF, x_some, x_map, x_vL, x_vLO, x_frzV, x_frzN, x_frzO, x_pFld, x_pIx, x_pD, x_pLk, x_pAt, x_dataV, x_dataL, x_dataO, x_stepIV, x_stepIL, x_stepOV, x_stepOLf, x_tOpd, x_tOpdL, x_itL, x_itF, x_itT, x_atN, x_atM, x_ixN, x_oOp, x_oU, x_pOp, x_pU, x_oA, x_pA, x_paNil, x_paCons, x_looks0, x_looks, x_aNil, x_aCons, x_vNil, x_vCons, x_vStar, x_starO, x_oLst, x_vTup, x_pTup, x_add, x_addL, x_addT, x_addS, x_sub, x_band, x_bor, x_bxor, x_mul, x_fdiv, x_mod, x_pow, x_shl, x_shr, x_neg, x_lt, x_le, x_gt', x_ge, x_eqI, x_neI, x_eqS, x_neS, x_eqB, x_neB, x_is, x_isnot, x_ixT, x_ixL, x_ixF, x_ixS, x_lenL, x_lenT, x_lenF, x_lenS, x_abs, x_min, x_max, x_int, x_intB, x_list, x_tup, x_oSl, x_ipNo, x_ipSome, x_ipO, x_slT, x_slL, x_slF, x_slS, x_put, x_putO, x_putL, x_putAt, x_putAO, x_tput, x_app, x_appO, x_appO2, x_mv, x_mvO, x_for, x_iIt, x_iterL, x_iterT, x_iterF, x_iterS, x_rsOk, x_rsX, x_call, x_callO, x_take0, x_takeV, x_takeN, x_takeO, x_give0, x_giveV, x_giveN, x_finN, x_finR, x_finX, x_finI, x_fnOut, x_optRF, x_outs0, x_outsT, x_outsF, x_ok0, x_okT, x_okF, x_iEnM, x_mExt, x_extO, x_seqL, x_seqT, x_pop, x_popO, x_oM, x_strOut, x_count, x_starts, x_sumL, x_sortedL, x_join, x_lstZip, x_iZpM, x_isD_nn, x_isD_nb, x_isD_bn, x_isD_bb, x_isD_in, x_isD_ib, x_isD_sn, x_isD_sb, x_isD_ln, x_isD_lb, x_isD_tn, x_isD_tb, x_isi_n_int, x_isi_n_bool, x_isi_n_str, x_isi_n_list, x_isi_n_tuple, x_isi_b_int, x_isi_b_bool, x_isi_b_str, x_isi_b_list, x_isi_b_tuple, x_isi_i_int, x_isi_i_bool, x_isi_i_str, x_isi_i_list, x_isi_i_tuple, x_isi_s_int, x_isi_s_bool, x_isi_s_str, x_isi_s_list, x_isi_s_tuple, x_isi_l_int, x_isi_l_bool, x_isi_l_str, x_isi_l_list, x_isi_l_tuple, x_isi_t_int, x_isi_t_bool, x_isi_t_str, x_isi_t_list, x_isi_t_tuple, x_tru, x_truN, x_truB, x_truI, x_truL, x_truF, x_truT, x_truS, x_R1, x_r1K, x_R2, x_r2K, x_in62, x_lcM, x_lcGo, x_lcRes, x_okW0, x_okW, x_okC1, x_okC2, x_okC3, x_wipe0, x_wipe, x_rest0, x_rest, x_joinS, x_chain, x_chO, x_zipT_LL, x_zpL_LL, x_zipT_LT, x_zpL_LT, x_zipT_TL, x_zpL_TL, x_zipT_TT, x_zpL_TT, x_ext2, x_ext3, x_eqIL, x_eqIT, x_cut, x_callT, x_callTO, x_drop1, x_mk0, x_mkV, x_mkK, x_fldX, x_mMake, x_setA, x_boolB, x_boolI, x_stepFL, x_eqIR, x_eqBB, Int.cast_ofNat_Int, small_of, Bool.and_self, Bool.and_true, Bool.true_and, List.getElem?_cons_zero, List.getElem?_cons_succ, List.set_cons_zero, List.set_cons_succ, List.map_cons, List.map_nil, List.replicate_zero, List.replicate_succ, List.cons_append, List.nil_append, List.length_cons, List.length_nil, leafs_snoc, leafs_app, leafs_set, leafs_len, leafs_get, Bool.not_true, Bool.not_false, Bool.false_eq_true, if_true, if_false, ite_true, ite_false, decide_eq_true_eq, Bool.not_eq_true, Bool.not_eq_true', decide_eq_false_iff_not, Nat.zero_add, Option.map_some, Int.toNat_natCast, decide_true, decide_false, reduceIte, reduceCtorEq, Int.reduceToNat, Int.reduceNeg, Int.reduceAdd, Int.reduceSub, Int.reduceMul, Int.reduceLT, Int.reduceLE, Int.reducePow, Nat.reduceLT, Nat.reduceLeDiff, Nat.reduceAdd, Nat.reduceMul, Nat.reduceSub, Int.reduceMod, Int.reduceDiv, decide_eq_true_eq, Int.reduceEq, Nat.reduceEqDiff]
  exact t15
theorem grd_eq (l : List Bool) : grd l = ((rgD 0 (l.length + 1)).filter fun _ => true).map fun d => match d with | .int z => D.tup [.int (stepsN l z.toNat true : Nat), .int (stepsN l z.toNat false : Nat)] | _ => .non := by
  rw [List.filter_eq_self.mpr (fun _ _ => rfl)]
  unfold grd rgD
  rw [List.map_map]
  refine List.map_congr_left fun z _ => ?_
  show _ = D.tup [.int (stepsN l (0 + (z : Int)).toNat true : Nat), .int (stepsN l (0 + (z : Int)).toNat false : Nat)]
  rw [Int.zero_add, Int.toNat_natCast]
theorem t_8 {ns : List Int} (hz : ns.length ≤ 63) (hl : l.length ≤ 6) (hnk : n ≤ k) (hk : k ≤ l.length) (hw : 1 ≤ w) (hw2 : w ≤ 40) (hh : 1 ≤ h) (hh2 : h ≤ 40) (hx : x < w) (hy : y < h) (c1 args : T) :
    ∃ outs, fnFin [false] [args] (b_law_8 [some (.val (.fro (ns.map D.int))), some c1, some (.val (.int (w : Nat))), some (.val (.int (h : Nat))), some (.val (.str (wS l))), some (.val (.int ((l.length + 1 : Nat) : Int))), some (.val (.int ((k + 1 : Nat) : Int))), some (.val (.int ((n + 1 : Nat) : Int))), some (.val (.int (x : Nat))), some (.val (.int (y : Nat))), none, none, none, none, none, none, none, none, none, none, none, none, none]) = .ok (.val (.bl true)) outs := by
  obtain ⟨m, y1, p1, p2, p3, p4⟩ := e_modulus (drC_ok ns 1)
  obtain ⟨R, y2, q1, q2, q3⟩ := e_rows (m := m) (by omega) p3 p4 hw2 hh2
  have s := q2.shp hw hw2 hh hh2
  have t13 := t_13 hl hnk hk p2 p3 q2 s hx hy q3 (.val (.fro (ns.map D.int))) (.val (.int (w : Nat))) (.val (.int (h : Nat))) args
  have mk := fun e => e_mk (m := m) s (trD R) (.inl rfl) e
  have iw : in62 ((l.length + 1 : Nat) : Int) = true := x_in62 (by omega) (by omega)
  have iw2 : ((l.length + 1 : Nat) : Int).toNat = l.length + 1 := Int.toNat_natCast _
  have lp : lcLoop [22] (gNm 22) tYesM l_law_0 (rgD 0 (l.length + 1)) [] [some (.val (.fro (ns.map D.int))), some (drw y2), some (.val (.int (w : Nat))), some (.val (.int (h : Nat))), some (.val (.str (wS l))), some (.val (.int ((l.length + 1 : Nat) : Int))), some (.val (.int ((k + 1 : Nat) : Int))), some (.val (.int ((n + 1 : Nat) : Int))), some (.val (.int (x : Nat))), some (.val (.int (y : Nat))), some (.val (.int m)), some (.val (trD R)), none, none, none, none, none, none, none, none, none, none, none]
      = .ok (leafs (grd l)) [some (.val (.fro (ns.map D.int))), some (drw y2), some (.val (.int (w : Nat))), some (.val (.int (h : Nat))), some (.val (.str (wS l))), some (.val (.int ((l.length + 1 : Nat) : Int))), some (.val (.int ((k + 1 : Nat) : Int))), some (.val (.int ((n + 1 : Nat) : Int))), some (.val (.int (x : Nat))), some (.val (.int (y : Nat))), some (.val (.int m)), some (.val (trD R)), none, none, none, none, none, none, none, none, none, none, none] := by
    rw [grd_eq]
    refine lcLoop_filt _ (fun _ => true) _ (rgD 0 (l.length + 1)) (by rw [rgD_len]; omega) fun d hd => ?_
    obtain ⟨z, hz, rfl⟩ := rg_mem hd
    refine ⟨_, rfl, rfl, fun _ => ?_, rfl⟩
    have ls := e_lsteps (n := z) hl
    have zn : ((z : Nat) : Int).toNat = z := Int.toNat_natCast z
    unfold l_law_0
    simp -implicitDefEqProofs (disch := walk_at "d") only [ls, zn, x_bnd, x_ret, x_opt, x_bind, x_bindX, x_bindS, x_bindI, x_out, x_outX, x_outS, x_outI, x_thenS, x_seq, x_nx, x_nbrk, x_ncnt, x_nret, x_nexc, x_nstuck, x_nI, x_nil, x_brk, x_cnt, x_drop, x_sret, x_retN, x_sif, x_iteSM, x_iteM, x_asg, x_optOut, x_gt, x_gNm, x_gTp, x_gCn, x_gNl, x_aug, x_augV, x_ipAdd, x_ipSub, x_ipXor, x_pC, x_vMC, x_oV, x_bV, x_vO, x_tst, x_unBl, x_tnot, x_tand, x_tor, x_vAnd, x_vOr, x_vNot, x_vIf, x_toD, x_toDL, x_shalL, x_shalV, x_nm, x_nmO, x_pNm, x_pNmO, x_lookV, x_lookN, x_lookL, x_lookD, x_lookO, x_lookP, x_node, x_atO, x_atP, x_at, x_atS, x_chI, x_chF, x_some, x_map, x_vL, x_vLO, x_frzV, x_frzN, x_frzO, x_pFld, x_pIx, x_pD, x_pLk, x_pAt, x_dataV, x_dataL, x_dataO, x_stepIV, x_stepIL, x_stepOV, x_stepOLf, x_tOpd, x_tOpdL, x_itL, x_itF, x_itT, x_atN, x_atM, x_ixN, x_oOp, x_oU, x_pOp, x_pU, x_oA, x_pA, x_paNil, x_paCons, x_looks0, x_looks, x_aNil, x_aCons, x_vNil, x_vCons, x_vStar, x_starO, x_oLst, x_vTup, x_pTup, x_add, x_addL, x_addT, x_addS, x_sub, x_band, x_bor, x_bxor, x_mul, x_fdiv, x_mod, x_pow, x_shl, x_shr, x_neg, x_lt, x_le, x_gt', x_ge, x_eqI, x_neI, x_eqS, x_neS, x_eqB, x_neB, x_is, x_isnot, x_ixT, x_ixL, x_ixF, x_ixS, x_lenL, x_lenT, x_lenF, x_lenS, x_abs, x_min, x_max, x_int, x_intB, x_list, x_tup, x_oSl, x_ipNo, x_ipSome, x_ipO, x_slT, x_slL, x_slF, x_slS, x_put, x_putO, x_putL, x_putAt, x_putAO, x_tput, x_app, x_appO, x_appO2, x_mv, x_mvO, x_for, x_iIt, x_iterL, x_iterT, x_iterF, x_iterS, x_rsOk, x_rsX, x_call, x_callO, x_take0, x_takeV, x_takeN, x_takeO, x_give0, x_giveV, x_giveN, x_finN, x_finR, x_finX, x_finI, x_fnOut, x_optRF, x_outs0, x_outsT, x_outsF, x_ok0, x_okT, x_okF, x_iEnM, x_mExt, x_extO, x_seqL, x_seqT, x_pop, x_popO, x_oM, x_strOut, x_count, x_starts, x_sumL, x_sortedL, x_join, x_lstZip, x_iZpM, x_isD_nn, x_isD_nb, x_isD_bn, x_isD_bb, x_isD_in, x_isD_ib, x_isD_sn, x_isD_sb, x_isD_ln, x_isD_lb, x_isD_tn, x_isD_tb, x_isi_n_int, x_isi_n_bool, x_isi_n_str, x_isi_n_list, x_isi_n_tuple, x_isi_b_int, x_isi_b_bool, x_isi_b_str, x_isi_b_list, x_isi_b_tuple, x_isi_i_int, x_isi_i_bool, x_isi_i_str, x_isi_i_list, x_isi_i_tuple, x_isi_s_int, x_isi_s_bool, x_isi_s_str, x_isi_s_list, x_isi_s_tuple, x_isi_l_int, x_isi_l_bool, x_isi_l_str, x_isi_l_list, x_isi_l_tuple, x_isi_t_int, x_isi_t_bool, x_isi_t_str, x_isi_t_list, x_isi_t_tuple, x_tru, x_truN, x_truB, x_truI, x_truL, x_truF, x_truT, x_truS, x_R1, x_r1K, x_R2, x_r2K, x_in62, x_lcM, x_lcGo, x_lcRes, x_okW0, x_okW, x_okC1, x_okC2, x_okC3, x_wipe0, x_wipe, x_rest0, x_rest, x_joinS, x_chain, x_chO, x_zipT_LL, x_zpL_LL, x_zipT_LT, x_zpL_LT, x_zipT_TL, x_zpL_TL, x_zipT_TT, x_zpL_TT, x_ext2, x_ext3, x_eqIL, x_eqIT, x_cut, x_callT, x_callTO, x_drop1, x_mk0, x_mkV, x_mkK, x_fldX, x_mMake, x_setA, x_boolB, x_boolI, x_stepFL, x_eqIR, x_eqBB, Int.cast_ofNat_Int, small_of, Bool.and_self, Bool.and_true, Bool.true_and, List.getElem?_cons_zero, List.getElem?_cons_succ, List.set_cons_zero, List.set_cons_succ, List.map_cons, List.map_nil, List.replicate_zero, List.replicate_succ, List.cons_append, List.nil_append, List.length_cons, List.length_nil, leafs_snoc, leafs_app, leafs_set, leafs_len, leafs_get, Bool.not_true, Bool.not_false, Bool.false_eq_true, if_true, if_false, ite_true, ite_false, decide_eq_true_eq, Bool.not_eq_true, Bool.not_eq_true', decide_eq_false_iff_not, Nat.zero_add, Option.map_some, Int.toNat_natCast, decide_true, decide_false, reduceIte, reduceCtorEq, Int.reduceToNat, Int.reduceNeg, Int.reduceAdd, Int.reduceSub, Int.reduceMul, Int.reduceLT, Int.reduceLE, Int.reducePow, Nat.reduceLT, Nat.reduceLeDiff, Nat.reduceAdd, Nat.reduceMul, Nat.reduceSub, Int.reduceMod, Int.reduceDiv, decide_eq_true_eq, Int.reduceEq, Nat.reduceEqDiff]
    try rfl
  unfold b_law_8
  simp -implicitDefEqProofs (disch := walk_at "d") only [e_drawer hz, p1, q1, iw, iw2, lp, mk, x_bnd, x_ret, x_opt, x_bind, x_bindX, x_bindS, x_bindI, x_out, x_outX, x_outS, x_outI, x_thenS, x_seq, x_nx, x_nbrk, x_ncnt, x_nret, x_nexc, x_nstuck, x_nI, x_nil, x_brk, x_cnt, x_drop, x_sret, x_retN, x_sif, x_iteSM, x_iteM, x_asg, x_optOut, x_gt, x_gNm, x_gTp, x_gCn, x_gNl, x_aug, x_augV, x_ipAdd, x_ipSub, x_ipXor, x_pC, x_vMC, x_oV, x_bV, x_vO, x_tst, x_unBl, x_tnot, x_tand, x_tor, x_vAnd, x_vOr, x_vNot, x_vIf, x_toD, x_toDL, x_shalL, x_shalV, x_nm, x_nmO, x_pNm, x_pNmO, x_lookV, x_lookN, x_lookL, x_lookD, x_lookO, x_lookP, x_node, x_atO, x_atP, x_at, x_atS, x_chI, x_chF, x_some, x_map, x_vL, x_vLO, x_frzV, x_frzN, x_frzO, x_pFld, x_pIx, x_pD, x_pLk, x_pAt, x_dataV, x_dataL, x_dataO, x_stepIV, x_stepIL, x_stepOV, x_stepOLf, x_tOpd, x_tOpdL, x_itL, x_itF, x_itT, x_atN, x_atM, x_ixN, x_oOp, x_oU, x_pOp, x_pU, x_oA, x_pA, x_paNil, x_paCons, x_looks0, x_looks, x_aNil, x_aCons, x_vNil, x_vCons, x_vStar, x_starO, x_oLst, x_vTup, x_pTup, x_add, x_addL, x_addT, x_addS, x_sub, x_band, x_bor, x_bxor, x_mul, x_fdiv, x_mod, x_pow, x_shl, x_shr, x_neg, x_lt, x_le, x_gt', x_ge, x_eqI, x_neI, x_eqS, x_neS, x_eqB, x_neB, x_is, x_isnot, x_ixT, x_ixL, x_ixF, x_ixS, x_lenL, x_lenT, x_lenF, x_lenS, x_abs, x_min, x_max, x_int, x_intB, x_list, x_tup, x_oSl, x_ipNo, x_ipSome, x_ipO, x_slT, x_slL, x_slF, x_slS, x_put, x_putO, x_putL, x_putAt, x_putAO, x_tput, x_app, x_appO, x_appO2, x_mv, x_mvO, x_for, x_iIt, x_iterL, x_iterT, x_iterF, x_iterS, x_rsOk, x_rsX, x_call, x_callO, x_take0, x_takeV, x_takeN, x_takeO, x_give0, x_giveV, x_giveN, x_finN, x_finR, x_finX, x_finI, x_fnOut, x_optRF, x_outs0, x_outsT, x_outsF, x_ok0, x_okT, x_okF, x_iEnM, x_mExt, x_extO, x_seqL, x_seqT, x_pop, x_popO, x_oM, x_strOut, x_count, x_starts, x_sumL, x_sortedL, x_join, x_lstZip, x_iZpM, x_isD_nn, x_isD_nb, x_isD_bn, x_isD_bb, x_isD_in, x_isD_ib, x_isD_sn, x_isD_sb, x_isD_ln, x_isD_lb, x_isD_tn, x_isD_tb, x_isi_n_int, x_isi_n_bool, x_isi_n_str, x_isi_n_list, x_isi_n_tuple, x_isi_b_int, x_isi_b_bool, x_isi_b_str, x_isi_b_list, x_isi_b_tuple, x_isi_i_int, x_isi_i_bool, x_isi_i_str, x_isi_i_list, x_isi_i_tuple, x_isi_s_int, x_isi_s_bool, x_isi_s_str, x_isi_s_list, x_isi_s_tuple, x_isi_l_int, x_isi_l_bool, x_isi_l_str, x_isi_l_list, x_isi_l_tuple, x_isi_t_int, x_isi_t_bool, x_isi_t_str, x_isi_t_list, x_isi_t_tuple, x_tru, x_truN, x_truB, x_truI, x_truL, x_truF, x_truT, x_truS, x_R1, x_r1K, x_R2, x_r2K, x_in62, x_lcM, x_lcGo, x_lcRes, x_okW0, x_okW, x_okC1, x_okC2, x_okC3, x_wipe0, x_wipe, x_rest0, x_rest, x_joinS, x_chain, x_chO, x_zipT_LL, x_zpL_LL, x_zipT_LT, x_zpL_LT, x_zipT_TL, x_zpL_TL, x_zipT_TT, x_zpL_TT, x_ext2, x_ext3, x_eqIL, x_eqIT, x_cut, x_callT, x_callTO, x_drop1, x_mk0, x_mkV, x_mkK, x_fldX, x_mMake, x_setA, x_boolB, x_boolI, x_stepFL, x_eqIR, x_eqBB, Int.cast_ofNat_Int, small_of, Bool.and_self, Bool.and_true, Bool.true_and, List.getElem?_cons_zero, List.getElem?_cons_succ, List.set_cons_zero, List.set_cons_succ, List.map_cons, List.map_nil, List.replicate_zero, List.replicate_succ, List.cons_append, List.nil_append, List.length_cons, List.length_nil, leafs_snoc, leafs_app, leafs_set, leafs_len, leafs_get, Bool.not_true, Bool.not_false, Bool.false_eq_true, if_true, if_false, ite_true, ite_false, decide_eq_true_eq, Bool.not_eq_true, Bool.not_eq_true', decide_eq_false_iff_not, Nat.zero_add, Option.map_some, Int.toNat_natCast, decide_true, decide_false, reduceIte, reduceCtorEq, Int.reduceToNat, Int.reduceNeg, Int.reduceAdd, Int.reduceSub, Int.reduceMul, Int.reduceLT, Int.reduceLE, Int.reducePow, Nat.reduceLT, Nat.reduceLeDiff, Nat.reduceAdd, Nat.reduceMul, Nat.reduceSub, Int.reduceMod, Int.reduceDiv, decide_eq_true_eq, Int.reduceEq, Nat.reduceEqDiff]
  exact t13
theorem fin (ns : List Int) (hz : ns.length ≤ 63) : ∃ outs, m_law [.val (.fro (ns.map D.int))] = .ok (.val (.bl true)) outs := by
  obtain ⟨w, h, y1, p1, p2, p3, p4, p5, p6⟩ := e_size (drC_ok ns 0)
  obtain ⟨l, y2, q1, q2, q3⟩ := e_letters p6
  have wl := wS_len l
  have a1 := dv_lo (x := y2) (m := (l.length : Int) + 1) (by omega)
  have a2 := dv_hi (x := y2) (m := (l.length : Int) + 1) (by omega)
  have o1 := dn_ok q3 (m := (l.length : Int) + 1) (by omega)
  have d1 := e_draw (x := y2) (m := (l.length : Int) + 1) (by omega) (by omega)
  obtain ⟨k, hk⟩ : ∃ k : Nat, dv y2 ((l.length : Int) + 1) = k := ⟨(dv y2 ((l.length : Int) + 1)).toNat, by omega⟩
  rw [hk] at a1 a2 d1
  generalize dn y2 ((l.length : Int) + 1) = y3 at o1 d1
  have b1 := dv_lo (x := y3) (m := ((k + 1 : Nat) : Int)) (by omega)
  have b2 := dv_hi (x := y3) (m := ((k + 1 : Nat) : Int)) (by omega)
  have o2 := dn_ok o1 (m := ((k + 1 : Nat) : Int)) (by omega)
  have d2 := e_draw (x := y3) (m := ((k + 1 : Nat) : Int)) (by omega) (by omega)
  obtain ⟨n, hn⟩ : ∃ n : Nat, dv y3 ((k + 1 : Nat) : Int) = n := ⟨(dv y3 ((k + 1 : Nat) : Int)).toNat, by omega⟩
  rw [hn] at b1 b2 d2
  generalize dn y3 ((k + 1 : Nat) : Int) = y4 at o2 d2
  have c1 := dv_lo (x := y4) (m := (w : Int)) (by omega)
  have c2 := dv_hi (x := y4) (m := (w : Int)) (by omega)
  have o3 := dn_ok o2 (m := (w : Int)) (by omega)
  have d3 := e_draw (x := y4) (m := (w : Int)) (by omega) (by omega)
  obtain ⟨x, hx⟩ : ∃ x : Nat, dv y4 (w : Int) = x := ⟨(dv y4 (w : Int)).toNat, by omega⟩
  rw [hx] at c1 c2 d3
  generalize dn y4 (w : Int) = y5 at o3 d3
  have f1 := dv_lo (x := y5) (m := (h : Int)) (by omega)
  have f2 := dv_hi (x := y5) (m := (h : Int)) (by omega)
  have o4 := dn_ok o3 (m := (h : Int)) (by omega)
  have d4 := e_draw (x := y5) (m := (h : Int)) (by omega) (by omega)
  obtain ⟨y, hy⟩ : ∃ y : Nat, dv y5 (h : Int) = y := ⟨(dv y5 (h : Int)).toNat, by omega⟩
  rw [hy] at f1 f2 d4
  generalize dn y5 (h : Int) = y6 at o4 d4
  have t8 := t_8 hz q2 (show n ≤ k by omega) (show k ≤ l.length by omega) p2 p3 p4 p5 (show x < w by omega) (show y < h by omega) (drw y6) (.val (.fro (ns.map D.int)))
  have ek : (1 : Int) + (k : Nat) = ((k + 1 : Nat) : Int) := by omega
  have en : (1 : Int) + (n : Nat) = ((n + 1 : Nat) : Int) := by omega
  have ew : ((l.length + 1 : Nat) : Int) = (l.length : Int) + 1 := rfl
  rw [ew] at t8
  unfold m_law
  rw [x_fn rfl]
  simp -implicitDefEqProofs (disch := walk_at "d") only [e_drawer hz, p1, q1, wl, d1, ek, d2, en, d3, d4, x_bnd, x_ret, x_opt, x_bind, x_bindX, x_bindS, x_bindI, x_out, x_outX, x_outS, x_outI, x_thenS, x_seq, x_nx, x_nbrk, x_ncnt, x_nret, x_nexc, x_nstuck, x_nI, x_nil, x_brk, x_cnt, x_drop, x_sret, x_retN, x_sif, x_iteSM, x_iteM, x_asg, x_optOut, x_gt, x_gNm, x_gTp, x_gCn, x_gNl, x_aug, x_augV, x_ipAdd, x_ipSub, x_ipXor, x_pC, x_vMC, x_oV, x_bV, x_vO, x_tst, x_unBl, x_tnot, x_tand, x_tor, x_vAnd, x_vOr, x_vNot, x_vIf, x_toD, x_toDL, x_shalL, x_shalV, x_nm, x_nmO, x_pNm, x_pNmO, x_lookV, x_lookN, x_lookL, x_lookD, x_lookO, x_lookP, x_node, x_atO, x_atP, x_at, x_atS, x_chI, x_chF, x_some, x_map, x_vL, x_vLO, x_frzV, x_frzN, x_frzO, x_pFld, x_pIx, x_pD, x_pLk, x_pAt, x_dataV, x_dataL, x_dataO, x_stepIV, x_stepIL, x_stepOV, x_stepOLf, x_tOpd, x_tOpdL, x_itL, x_itF, x_itT, x_atN, x_atM, x_ixN, x_oOp, x_oU, x_pOp, x_pU, x_oA, x_pA, x_paNil, x_paCons, x_looks0, x_looks, x_aNil, x_aCons, x_vNil, x_vCons, x_vStar, x_starO, x_oLst, x_vTup, x_pTup, x_add, x_addL, x_addT, x_addS, x_sub, x_band, x_bor, x_bxor, x_mul, x_fdiv, x_mod, x_pow, x_shl, x_shr, x_neg, x_lt, x_le, x_gt', x_ge, x_eqI, x_neI, x_eqS, x_neS, x_eqB, x_neB, x_is, x_isnot, x_ixT, x_ixL, x_ixF, x_ixS, x_lenL, x_lenT, x_lenF, x_lenS, x_abs, x_min, x_max, x_int, x_intB, x_list, x_tup, x_oSl, x_ipNo, x_ipSome, x_ipO, x_slT, x_slL, x_slF, x_slS, x_put, x_putO, x_putL, x_putAt, x_putAO, x_tput, x_app, x_appO, x_appO2, x_mv, x_mvO, x_for, x_iIt, x_iterL, x_iterT, x_iterF, x_iterS, x_rsOk, x_rsX, x_call, x_callO, x_take0, x_takeV, x_takeN, x_takeO, x_give0, x_giveV, x_giveN, x_finN, x_finR, x_finX, x_finI, x_fnOut, x_optRF, x_outs0, x_outsT, x_outsF, x_ok0, x_okT, x_okF, x_iEnM, x_mExt, x_extO, x_seqL, x_seqT, x_pop, x_popO, x_oM, x_strOut, x_count, x_starts, x_sumL, x_sortedL, x_join, x_lstZip, x_iZpM, x_isD_nn, x_isD_nb, x_isD_bn, x_isD_bb, x_isD_in, x_isD_ib, x_isD_sn, x_isD_sb, x_isD_ln, x_isD_lb, x_isD_tn, x_isD_tb, x_isi_n_int, x_isi_n_bool, x_isi_n_str, x_isi_n_list, x_isi_n_tuple, x_isi_b_int, x_isi_b_bool, x_isi_b_str, x_isi_b_list, x_isi_b_tuple, x_isi_i_int, x_isi_i_bool, x_isi_i_str, x_isi_i_list, x_isi_i_tuple, x_isi_s_int, x_isi_s_bool, x_isi_s_str, x_isi_s_list, x_isi_s_tuple, x_isi_l_int, x_isi_l_bool, x_isi_l_str, x_isi_l_list, x_isi_l_tuple, x_isi_t_int, x_isi_t_bool, x_isi_t_str, x_isi_t_list, x_isi_t_tuple, x_tru, x_truN, x_truB, x_truI, x_truL, x_truF, x_truT, x_truS, x_R1, x_r1K, x_R2, x_r2K, x_in62, x_lcM, x_lcGo, x_lcRes, x_okW0, x_okW, x_okC1, x_okC2, x_okC3, x_wipe0, x_wipe, x_rest0, x_rest, x_joinS, x_chain, x_chO, x_zipT_LL, x_zpL_LL, x_zipT_LT, x_zpL_LT, x_zipT_TL, x_zpL_TL, x_zipT_TT, x_zpL_TT, x_ext2, x_ext3, x_eqIL, x_eqIT, x_cut, x_callT, x_callTO, x_drop1, x_mk0, x_mkV, x_mkK, x_fldX, x_mMake, x_setA, x_boolB, x_boolI, x_stepFL, x_eqIR, x_eqBB, Int.cast_ofNat_Int, small_of, Bool.and_self, Bool.and_true, Bool.true_and, List.getElem?_cons_zero, List.getElem?_cons_succ, List.set_cons_zero, List.set_cons_succ, List.map_cons, List.map_nil, List.replicate_zero, List.replicate_succ, List.cons_append, List.nil_append, List.length_cons, List.length_nil, leafs_snoc, leafs_app, leafs_set, leafs_len, leafs_get, Bool.not_true, Bool.not_false, Bool.false_eq_true, if_true, if_false, ite_true, ite_false, decide_eq_true_eq, Bool.not_eq_true, Bool.not_eq_true', decide_eq_false_iff_not, Nat.zero_add, Option.map_some, Int.toNat_natCast, decide_true, decide_false, reduceIte, reduceCtorEq, Int.reduceToNat, Int.reduceNeg, Int.reduceAdd, Int.reduceSub, Int.reduceMul, Int.reduceLT, Int.reduceLE, Int.reducePow, Nat.reduceLT, Nat.reduceLeDiff, Nat.reduceAdd, Nat.reduceMul, Nat.reduceSub, Int.reduceMod, Int.reduceDiv, decide_eq_true_eq, Int.reduceEq, Nat.reduceEqDiff]
  exact t8
end
/-! ### the end: what the top leaves, the row -/
abbrev R : PySem.W.OpenRow := PySem.W.OpenLaw.row PySem.Challenge.rw_keptpictures_k20_whole_coarse_views
abbrev hk : PySem.W.Hook := KP.hookE 5 fa fn ex
def ob (s : PySem.W.SharedT) : KP.AlE := KP.obsEG 5 fa fn ex (HandSHeadRun.getT s)
theorem ob_eq (s : PySem.W.SharedT) : ob s = hk.obs s.abs := KP.obsEG_eq (HandSHeadRun.getT_eq s)
def names : List Str := [Str.ofString "_wall", Str.ofString "grid_steps", Str.ofString "KeepError", Str.ofString "Unlike", Str.ofString "NoCell", Str.ofString "Sheet", Str.ofString "coarse_view", Str.ofString "_law_drawer", Str.ofString "_law_draw", Str.ofString "_law_pick", Str.ofString "_law_modulus", Str.ofString "_law_rows", Str.ofString "_law_letters", Str.ofString "_law_steps", Str.ofString "_law_int", Str.ofString "_law_same", Str.ofString "_law_sheet_is", Str.ofString "_law_size", Str.ofString "_law_pass", Str.ofString "_law_view", Str.ofString "_law_view_right"]
theorem run (w : World) : HandSHeadRun.RunEq R (PySem.W.view R.prog [26]) hk ob 8000 names w := by
  intro os
  kernel_rfl
end KL
open PySem PySem.W PySem.Calls PyProof.Rows
theorem PySem.Challenge.cw_keptpictures_k20_whole_coarse_views_holds : PySem.Challenge.rw_keptpictures_k20_whole_coarse_views.Holds := by
  w_on; o_law
  refine HandSHeadRun.head_any (r := KL.R) (q := view KL.R.prog [26]) (H := KL.hk) (ob := KL.ob) (M := 8000) (loose := KL.names) (d := HandSHeadRun.topDef KL.R.prog 26) (kwd := []) KL.ob_eq
    (by kernel_rfl) (fun s => by kernel_rfl) KL.run (by kernel_rfl) (by kernel_rfl) (by kernel_rfl) (by rfl) (by first | assumption | decide +kernel) (by decide +kernel) ⟨rfl, rfl, rfl, rfl, rfl, by decide +kernel⟩ ?hw ?hc
  case hw => w_witness2
  case hc =>
    refine L2.walk_ofE (l := PySem.Challenge.rw_keptpictures_k20_whole_coarse_views) (n := 63) (k := 17) (x := "script") (CX := L2.CX0) rfl (by decide) (by kernel_rfl) ⟨rfl, by decide, by decide⟩ ?F (fun _ _ _ _ z => z)
    intro w mg fa h Y G hmg0
    obtain ⟨K, KX, c, cx⟩ := Y
    have hmg : mg ("law" : PySem.Str) = some (.ref fa) := by
      have e : (HandSHeadRun.topDef KL.R.prog 26).name = ("law" : PySem.Str) := by kernel_rfl
      rw [← e]
      exact hmg0
    have hd : KL.Hd K mg := ⟨⟨h, KX, G⟩, c, cx⟩
    obtain ⟨fd, F⟩ := hd.def_ 18
    have ha := hd.glo 28
    cases hmg.symm.trans ha
    refine ⟨K, fd, KP.sp_law K, KX, fun s u => L2.FunD.bindsA (ps := ["script"]) F (fun _ _ _ _ _ _ us hl => match us, hl with | [_], _ => rfl) s [u] rfl, fun H a ns hl hO hS => ⟨.ref a, rfl, a, ns, rfl, KP.Scr.of hO hS, hl, fun _ => rfl⟩, fun base _ _ => ?_⟩
    exact KM.law_end (KL.ok_law hd F) KL.fin


