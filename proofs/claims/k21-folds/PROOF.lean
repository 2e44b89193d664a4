import PyProof.Rows.All
import Wide.All
import OpenK.AllK
import Wide.FinOn
import KE.KStateDown
import Lean
import HandS.Base
import HandS.Call
import HandS.List
import HandS.Comp
import HandS.Ends
import HandS.Dict
import HandS.Iter
import HandS.Text
import HandS.Words
import HandS.WordsList
import HandS.Defaults
import HandS.Evl
import HandS.Conv
import HandS.Deep
import HandS.IsInst
import HandS.TupAny
import HandS.TupLe
import HandS.Wide
import HandS.Zip
import HandS.Rev
import HandS.RevRange
import HandS.Star
import HandS.SortInts
import HandS.Head0
import HandS.Head1
import HandS.Head2
import HandS.HeadEnd
import HandS.HeadHook1
import HandS.HeadHook2
import PySem.Challenge.RW_keptpictures_k21_folds
set_option Elab.async false
set_option linter.all false
set_option maxRecDepth 100000
set_option maxHeartbeats 4000000
/-! The common layer: rules that serve operands of any kind, a def's contract in one piece, one step of a reading at a time. -/
namespace KP
open PySem PySem.Spec PyProof.Rows L2 Evl

/-! ### heaps -/
mutual
theorem dp_ex {K : PySem.W.Frag} {H H' : Hp} (e : Evl.Ex H H') : ∀ {d : PyData} {v : V}, Dp K H v d → Dp K H' v d
  | .none, _, h => by cases h; exact .non
  | .bool b, _, h => by cases h; exact .bl b
  | .int i, _, h => by cases h; exact .int i
  | .str x, _, h => by cases h; exact .str x
  | .list ds, _, h => by
    cases h with
    | lst hs ha => exact .lst (Evl.ex_l e hs) (dpAll_ex e ha)
  | .tuple ds, _, h => by
    cases h with
    | tup hs ha => exact .tup (Evl.ex_t e hs) (dpAll_ex e ha)
  | .dict _, _, h => by cases h
theorem dpAll_ex {K : PySem.W.Frag} {H H' : Hp} (e : Evl.Ex H H') : ∀ {ds : List PyData} {vs : List V}, DpAll K H vs ds → DpAll K H' vs ds
  | [], _, h => by cases h; exact .nil
  | d :: ds, _, h => by
    cases h with
    | cons h1 h2 => exact .cons (dp_ex e h1) (dpAll_ex e h2)
end
/-- a list or a tuple that can be read -/
def Sq (K : PySem.W.Frag) (H : Hp) (a : Addr) (xs : List V) : Prop := SqL K H a xs ∨ SqT K H a xs
theorem Sq.l {K : PySem.W.Frag} {H : Hp} {a : Addr} {xs : List V} (h : SqL K H a xs) : Sq K H a xs := .inl h
theorem Sq.t {K : PySem.W.Frag} {H : Hp} {a : Addr} {xs : List V} (h : SqT K H a xs) : Sq K H a xs := .inr h

/-! ### operators of any kind -/
section
variable {X : Cx}
def rAddG (K : PySem.W.Frag) : R2 := fun x y H Q => match x, y with
  | .int i, .int j => Q (.int (i + j)) H
  | .str i, .str j => i.length + j.length ≤ sizeLine ∧ Q (.str (i ++ j)) H
  | .ref a, .ref b => (∃ xs zs, H a = some (.lst xs) ∧ H b = some (.lst zs) ∧ xs.length + zs.length ≤ sizeLine ∧ ∀ p, H p = none → Q (.ref p) (upd H p (.lst (xs ++ zs)))) ∨
      (∃ xs ys, SqT K H a xs ∧ SqT K H b ys ∧ xs.length + ys.length ≤ sizeLine ∧ ∀ p H', Evl.Ex H H' → SqT K H' p (xs ++ ys) → (H' = H ∨ (H p = none ∧ H' = upd H p (.tup (xs ++ ys)))) → Q (.ref p) H')
  | _, _ => False
theorem op_addG : OpR X (binaryOp .Add) (rAddG X.K) := by
  intro pins s σ H x y v u Q I rx ry h
  cases x <;> cases y <;> try exact (show False from h).elim
  case int.int i j => exact op_add pins s σ H _ _ v u Q I rx ry ⟨i, j, rfl, rfl, h⟩
  case str.str i j => exact op_add_str pins s σ H _ _ v u Q I rx ry ⟨i, j, rfl, rfl, h.1, h.2⟩
  case ref.ref a b =>
    rcases (show _ ∨ _ from h) with ⟨xs, zs, h1, h2, h3, h4⟩ | ⟨xs, ys, h1, h2, h3, h4⟩
    · exact op_cat pins s σ H _ _ v u Q I rx ry ⟨a, b, xs, zs, rfl, rfl, h1, h2, h3, h4⟩
    · refine op_catA pins s σ H _ _ v u Q I rx ry ⟨a, b, xs, ys, rfl, rfl, h1, h2, h3, fun e => ?_, fun _ e => ?_, fun _ _ p hp => ?_⟩
      · subst e; exact h4 b H (Evl.Ex.refl H) h2 (.inl rfl)
      · subst e; exact h4 a H (Evl.Ex.refl H) (by rw [List.append_nil]; exact h1) (.inl rfl)
      · exact h4 p _ (Evl.Ex.new hp) (SqT.of upd_same) (.inr ⟨hp, rfl⟩)
def rIsG : R2 := fun x y H Q => match y with
  | .non => Q (.bl (decide (x = .non))) H
  | .bl b => Q (.bl (decide (x = .bl b))) H
  | _ => False
theorem is_plain {x : V} {v : Value} (r : RelV x v) (b : Bool) : plainIs v (.bool b) = true := by
  cases x <;> first
    | (cases r; rfl)
    | (obtain ⟨t, rfl⟩ := r; rfl)
theorem bool_of {x : V} {b : Bool} (r : RelV x (.bool b)) : x = .bl b := (Option.some.inj (show some (V.bl b) = some x from r.abs)).symm
theorem op_isG : OpR X (compareOp .Is) rIsG := by
  intro pins s σ H x y v u Q I rx ry h
  cases y <;> try exact (show False from h).elim
  case non => exact op_isN pins s σ H _ _ v u Q I rx ry ⟨rfl, h⟩
  case bl b =>
    cases (show u = Value.bool b from ry)
    have q : Q (.bl (decide (x = .bl b))) H := h
    by_cases e : x = .bl b
    · subst e
      cases (show v = Value.bool b from rx)
      exact wpAny_is_self rfl ⟨.bl true, H, I, rfl, by simpa using q⟩
    · exact wpAny_is_other (is_plain rx b) (fun z => e (by subst z; exact bool_of rx)) ⟨.bl false, H, I, rfl, by simpa [e] using q⟩
def rMulG : R2 := fun x y H Q => match x, y with
  | .int i, .int j => (CMul i j ∨ CMulW i j) ∧ Q (.int (i * j)) H
  | .ref a, .int k => ∃ xs, H a = some (.lst xs) ∧ -(2 ^ 63) ≤ k ∧ k < 2 ^ 63 ∧ xs.length * k.toNat ≤ sizeLine ∧ ∀ p, H p = none → Q (.ref p) (upd H p (.lst (List.replicate k.toNat xs).flatten))
  | _, _ => False
theorem op_mulG : OpR X (binaryOp .Mult) rMulG := by
  intro pins s σ H x y v u Q I rx ry h
  cases x <;> cases y <;> try exact (show False from h).elim
  case int.int i j =>
    obtain ⟨hc, h⟩ := (show (CMul i j ∨ CMulW i j) ∧ Q (.int (i * j)) H from h)
    rcases hc with hc | hc
    · exact op_mul pins s σ H _ _ v u Q I rx ry ⟨i, j, rfl, rfl, hc, h⟩
    · exact op_mulW pins s σ H _ _ v u Q I rx ry ⟨i, j, rfl, rfl, hc, h⟩
  case ref.int a k =>
    obtain ⟨xs, h1, h2, h3, h4, h5⟩ := h
    exact op_rep pins s σ H _ _ v u Q I rx ry ⟨a, k, xs, rfl, rfl, h1, h2, h3, h4, h5⟩
/-- order: ints; texts; tuples of ints -/
def rOrdG (K : PySem.W.Frag) (fi : Int → Int → Bool) : R2 := fun x y H Q => match x, y with
  | .int i, .int j => Q (.bl (fi i j)) H
  | _, _ => False
theorem op_ltG : OpR X (compareOp .Lt) (rOrdG X.K fun i j => decide (i < j)) := by
  intro pins s σ H x y v u Q I rx ry h
  cases x <;> cases y <;> try exact (show False from h).elim
  case int.int i j => exact op_lt pins s σ H _ _ v u Q I rx ry ⟨i, j, rfl, rfl, h⟩
theorem op_leG : OpR X (compareOp .LtE) (rOrdG X.K fun i j => decide (i ≤ j)) := by
  intro pins s σ H x y v u Q I rx ry h
  cases x <;> cases y <;> try exact (show False from h).elim
  case int.int i j => exact op_le pins s σ H _ _ v u Q I rx ry ⟨i, j, rfl, rfl, h⟩
theorem op_gtG : OpR X (compareOp .Gt) (rOrdG X.K fun i j => decide (j < i)) := by
  intro pins s σ H x y v u Q I rx ry h
  cases x <;> cases y <;> try exact (show False from h).elim
  case int.int i j => exact op_gt pins s σ H _ _ v u Q I rx ry ⟨i, j, rfl, rfl, h⟩
theorem op_geG : OpR X (compareOp .GtE) (rOrdG X.K fun i j => decide (j ≤ i)) := by
  intro pins s σ H x y v u Q I rx ry h
  cases x <;> cases y <;> try exact (show False from h).elim
  case int.int i j => exact op_ge pins s σ H _ _ v u Q I rx ry ⟨i, j, rfl, rfl, h⟩
/-- == : ints, texts, bools, None; else data of any depth -/
def rEqG (K : PySem.W.Frag) (neg : Bool) : R2 := fun x y H Q => match x, y with
  | .int i, .int j => Q (.bl (if neg then !decide (i = j) else decide (i = j))) H
  | .str i, .str j => Q (.bl (if neg then !decide (i = j) else decide (i = j))) H
  | .bl i, .bl j => Q (.bl (if neg then !decide (i = j) else decide (i = j))) H
  | x, y => ∃ d e, Dp K H x d ∧ Dp K H y e ∧ SeqAt.shaped d = true ∧ SeqAt.shaped e = true ∧ Q (.bl (if neg then !PyData.eqv d e else PyData.eqv d e)) H
theorem dec_V {α : Type} {f : α → V} [DecidableEq α] (inj : ∀ a b, f a = f b → a = b) (i j : α) : decide (f i = f j) = decide (i = j) := by
  by_cases e : i = j
  · rw [decide_eq_true e, decide_eq_true (congrArg f e)]
  · rw [decide_eq_false e, decide_eq_false fun z => e (inj _ _ z)]
theorem op_eqG (hu : X.A.units + 64 < cLine) : OpR X (compareOp .Eq) (rEqG X.K false) := by
  intro pins s σ H x y v u Q I rx ry h
  have gen : (∃ d e, Dp X.K H x d ∧ Dp X.K H y e ∧ SeqAt.shaped d = true ∧ SeqAt.shaped e = true ∧ Q (.bl (PyData.eqv d e)) H) → wpAny (model X.prog X.w) X.A (compareOp .Eq v u) (EP X pins σ Q) X.xe s :=
    fun g => op_eqD hu pins s σ H _ _ v u Q I rx ry g
  have sc : scal x y = true → Q (.bl (decide (x = y))) H → wpAny (model X.prog X.w) X.A (compareOp .Eq v u) (EP X pins σ Q) X.xe s :=
    fun g q => op_eq pins s σ H _ _ v u Q I rx ry ⟨g, q⟩
  cases x <;> cases y <;> first
    | exact gen h
    | (refine sc rfl ?_; rw [dec_V (f := V.int) (fun a b z => V.int.inj z)]; exact h)
    | (refine sc rfl ?_; rw [dec_V (f := V.str) (fun a b z => V.str.inj z)]; exact h)
    | (refine sc rfl ?_; rw [dec_V (f := V.bl) (fun a b z => V.bl.inj z)]; exact h)
theorem op_neG (hu : X.A.units + 64 < cLine) : OpR X (compareOp .NotEq) (rEqG X.K true) := by
  intro pins s σ H x y v u Q I rx ry h
  have gen : (∃ d e, Dp X.K H x d ∧ Dp X.K H y e ∧ SeqAt.shaped d = true ∧ SeqAt.shaped e = true ∧ Q (.bl (!PyData.eqv d e)) H) → wpAny (model X.prog X.w) X.A (compareOp .NotEq v u) (EP X pins σ Q) X.xe s :=
    fun g => op_neD hu pins s σ H _ _ v u Q I rx ry g
  have sc : scal x y = true → Q (.bl (!decide (x = y))) H → wpAny (model X.prog X.w) X.A (compareOp .NotEq v u) (EP X pins σ Q) X.xe s :=
    fun g q => op_ne pins s σ H _ _ v u Q I rx ry ⟨g, q⟩
  cases x <;> cases y <;> first
    | exact gen h
    | (refine sc rfl ?_; rw [dec_V (f := V.int) (fun a b z => V.int.inj z)]; exact h)
    | (refine sc rfl ?_; rw [dec_V (f := V.str) (fun a b z => V.str.inj z)]; exact h)
    | (refine sc rfl ?_; rw [dec_V (f := V.bl) (fun a b z => V.bl.inj z)]; exact h)
/-- x in a list or tuple of flat items; a text in a text -/
def rInG (K : PySem.W.Frag) (neg : Bool) : R2 := fun x y H Q => match y with
  | .ref p => ∃ xs, Sq K H p xs ∧ flatV x = true ∧ xs.all flatV = true ∧ Q (.bl (if neg then !inV x xs else inV x xs)) H
  | .str z => ∃ c : Nat, x = .str ⟨#[c]⟩ ∧ Q (.bl (if neg then !decide (c ∈ z.cps.toList) else decide (c ∈ z.cps.toList))) H
  | _ => False
theorem op_inG (hu : X.A.units + 64 < cLine) : OpR X (compareOp .In) (rInG X.K false) := by
  intro pins s σ H x y v u Q I rx ry h
  cases y <;> try exact (show False from h).elim
  case ref p =>
    obtain ⟨xs, h1, h2, h3, h4⟩ := h
    exact op_in_seq pins s σ H _ _ v u Q I rx ry ⟨p, xs, rfl, h1, h2, h3, h4⟩
  case str z =>
    obtain ⟨c, rfl, q⟩ := h
    exact op_in_sign pins s σ H _ _ v u Q I rx ry ⟨c, z, rfl, rfl, q⟩
theorem op_notInG (hu : X.A.units + 64 < cLine) : OpR X (compareOp .NotIn) (rInG X.K true) := by
  intro pins s σ H x y v u Q I rx ry h
  cases y <;> try exact (show False from h).elim
  case ref p =>
    obtain ⟨xs, h1, h2, h3, h4⟩ := h
    exact op_notIn_seq pins s σ H _ _ v u Q I rx ry ⟨p, xs, rfl, h1, h2, h3, h4⟩
  case str z =>
    obtain ⟨c, rfl, q⟩ := h
    exact op_notIn_sign pins s σ H _ _ v u Q I rx ry ⟨c, z, rfl, rfl, q⟩
def rIsnotG : R2 := fun x y H Q => match y with
  | .non => Q (.bl (!decide (x = .non))) H
  | .bl b => Q (.bl (!decide (x = .bl b))) H
  | _ => False
theorem op_isnotG : OpR X (compareOp .IsNot) rIsnotG := by
  intro pins s σ H x y v u Q I rx ry h
  cases y <;> try exact (show False from h).elim
  case non => exact op_notN pins s σ H _ _ v u Q I rx ry ⟨rfl, h⟩
  case bl b =>
    cases (show u = Value.bool b from ry)
    have q : Q (.bl (!decide (x = .bl b))) H := h
    by_cases e : x = .bl b
    · subst e
      cases (show v = Value.bool b from rx)
      exact wpAny_isNot_self rfl ⟨.bl false, H, I, rfl, by simpa using q⟩
    · exact wpAny_isNot_other (is_plain rx b) (fun z => e (by subst z; exact bool_of rx)) ⟨.bl true, H, I, rfl, by simpa [e] using q⟩
/-! ### subscripts, slices -/
def rIxG (K : PySem.W.Frag) : R2 := fun x y H Q => match x, y with
  | .ref p, .int i => ∃ xs v, Sq K H p xs ∧ atI xs i = some v ∧ Q v H
  | .str z, .int i => ∃ c, z.length ≤ sizeLine ∧ atI z.cps.toList i = some c ∧ Q (.str ⟨#[c]⟩) H
  | _, _ => False
theorem ix_G : IxR X (rIxG X.K) := by
  intro value slice pins s σ H x y v u Q I rx ry h hs
  cases x <;> cases y <;> try exact (show False from h).elim
  case ref.int p i =>
    obtain ⟨xs, w, h1, h2, h3⟩ := h
    rcases h1 with h1 | h1
    · exact ix_list value slice pins s σ H _ _ v u Q I rx ry ⟨p, xs, i, w, rfl, rfl, h1, h2, h3⟩ hs
    · exact ix_tup value slice pins s σ H _ _ v u Q I rx ry ⟨p, xs, i, w, rfl, rfl, h1, h2, h3⟩ hs
  case str.int z i =>
    obtain ⟨c, h1, h2, h3⟩ := h
    exact ix_str value slice pins s σ H _ _ v u Q I rx ry ⟨z, i, c, rfl, rfl, h1, h2, h3⟩ hs
def rSlG (K : PySem.W.Frag) : V → Option Int → Option Int → Hp → VK → Prop := fun x lo hi H Q => match x with
  | .ref a => (∃ xs, SqL K H a xs ∧ ∀ p, H p = none → Q (.ref p) (upd H p (.lst (cutV xs lo hi)))) ∨
      ∃ xs, SqT K H a xs ∧ ∀ p H', Evl.Ex H H' → SqT K H' p (cutV xs lo hi) → (H' = H ∨ (H p = none ∧ H' = upd H p (.tup (cutV xs lo hi)))) → Q (.ref p) H'
  | .str z => z.length ≤ sizeLine ∧ Q (.str (cutS z lo hi)) H
  | _ => False
theorem cutV_whole {xs : List V} {lo hi : Option Int} (h : HT.sIx xs.length 0 lo = 0 ∧ HT.sIx xs.length xs.length hi = xs.length) : cutV xs lo hi = xs := by
  unfold cutV
  rw [h.1, h.2]
  simp
theorem sl_G : SlR X (rSlG X.K) := by
  intro pins s σ H x v vl vu lo hi sl Q I rx hs pl pu h
  cases x <;> try exact (show False from h).elim
  case ref a =>
    rcases (show _ ∨ _ from h) with ⟨xs, h1, h2⟩ | ⟨xs, h1, h2⟩
    · exact sl_list pins s σ H _ v vl vu lo hi sl Q I rx hs pl pu ⟨a, xs, rfl, h1, h2⟩
    · refine sl_tupA pins s σ H _ v vl vu lo hi sl Q I rx hs pl pu ⟨a, xs, rfl, h1, fun e => ?_, fun _ p hp => ?_⟩
      · exact h2 a H (Evl.Ex.refl H) (by rw [cutV_whole e]; exact h1) (.inl rfl)
      · exact h2 p _ (Evl.Ex.new hp) (SqT.of upd_same) (.inr ⟨hp, rfl⟩)
  case str z =>
    obtain ⟨h1, h2⟩ := (show z.length ≤ sizeLine ∧ Q (.str (cutS z lo hi)) H from h)
    exact sl_str pins s σ H _ v vl vu lo hi sl Q I rx hs pl pu ⟨z, rfl, h1, h2⟩
/-! ### what a for walks: a list, a tuple, a text -/
def iGv (K : PySem.W.Frag) (x : V) (H1 : Hp) (R : It → Hp → Prop) : Prop := match x with
  | .ref a => ((∃ xs, SqL K H1 a xs) ∧ R (Itl K a) H1) ∨ ((∃ xs, SqT K H1 a xs) ∧ R (Itt K a) H1)
  | .str z => R (Its z) H1
  | _ => False
def iG (K : PySem.W.Frag) (tl : TE) : TI := fun σ H R => tl σ H fun x H1 => iGv K x H1 R
theorem pi_G {tg l : Expr} {tl : TE} (hl : PE X l tl) : PI X tg l (iG X.K tl) := by
  refine ⟨fun pins s σ H R I h => ?_⟩
  refine thn (hl.run pins s σ H _ I h) fun v s1 ⟨x, H1, I1, r1, q⟩ => ?_
  cases x with
  | ref a =>
    obtain rfl : v = Value.ref a := r1
    rcases (show _ ∨ _ from q) with ⟨⟨xs, hq⟩, q2⟩ | ⟨⟨xs, hq⟩, q2⟩
    · obtain ⟨its, rv, pl, hz⟩ := I1.list hq
      exact wpAny_pyIter_list pl.isList (pi_one (tk := s1.toks) I1 _ (turn_list a _) ⟨_, Heap.get?_push_size _ rfl, rfl, rfl⟩ q2)
    · obtain ⟨its, rv, pl, hz⟩ := I1.tuple hq
      exact wpAny_pyIter_tuple (show s1.heap.IsTuple a its.toArray from pl) (pi_one (tk := s1.toks) I1 _ (turn_tuple a _) ⟨_, Heap.get?_push_size _ rfl, rfl, rfl⟩ q2)
  | str z =>
    obtain ⟨t, rfl⟩ := r1
    cases ha : z.cps.all (· < 128) with
    | false => exact wpAny_pyIter_wide ha (pi_one (tk := s1.toks) I1 _ (turn_str _ z t "str_iterator" (.inr rfl)) ⟨_, Heap.get?_push_size _ rfl, rfl, rfl⟩ q)
    | true => exact wpAny_pyIter_ascii ha (pi_one (tk := s1.toks) I1 _ (turn_str _ z t "str_ascii_iterator" (.inl rfl)) ⟨_, Heap.get?_push_size _ rfl, rfl, rfl⟩ q)
  | _ => exact (show False from q).elim
/-! ### augmented -/
def ipF (f : Int → Int → Int) (C : Int → Int → Prop) : TIp := fun x y H Q => match x, y with
  | .int i, .int j => C i j ∧ Q (.int (f i j)) H
  | _, _ => False
theorem ip_ofI {op : Operator} {f : Int → Int → Int} {C : Int → Int → Prop} (o : OpR X (inplaceOp op) (rI C fun i j => .int (f i j))) : PIp X op (ipF f C) := by
  intro pins s σ H x y v u Q I rx ry h
  cases x <;> cases y <;> try exact (show False from h).elim
  case int.int i j => exact o pins s σ H _ _ v u Q I rx ry ⟨i, j, rfl, rfl, h.1, h.2⟩
theorem ip_ofI0 {op : Operator} {f : Int → Int → Int} (o : OpR X (inplaceOp op) (rI0 fun i j => .int (f i j))) : PIp X op (ipF f fun _ _ => True) := by
  intro pins s σ H x y v u Q I rx ry h
  cases x <;> cases y <;> try exact (show False from h).elim
  case int.int i j => exact o pins s σ H _ _ v u Q I rx ry ⟨i, j, rfl, rfl, h.2⟩
theorem ip_addG : PIp X .Add (ipF (fun i j => i + j) fun _ _ => True) := ip_ofI0 iop_add
theorem ip_subG : PIp X .Sub (ipF (fun i j => i - j) fun _ _ => True) := ip_ofI0 iop_sub
theorem ip_xorG : PIp X .BitXor (ipF (fun i j => Builtin.bitXor i j) fun _ _ => True) := ip_ofI0 iop_xor
theorem ip_mulG : PIp X .Mult (ipF (fun i j => i * j) CMul) := ip_ofI iop_mul
theorem ip_fdivG : PIp X .FloorDiv (ipF (fun i j => i / j) CDiv) := ip_ofI iop_fdiv
theorem ip_modG : PIp X .Mod (ipF (fun i j => i % j) fun _ j => 0 < j) := ip_ofI iop_mod
/-! ### isinstance with one built-in class -/
def tyN (K : PySem.W.Frag) (H : Hp) (x : V) (T : String) : Prop := TyX K H x (.type T)
def isiB (T c : String) : Option Bool := PySem.W.kitOne [] (.type T) (.type c)
theorem call_isiG : CallR X (.builtin "isinstance") (rIsi X.K) := call_isi
theorem hu64 {A : Around} {k : Nat} (hr : Room k A) : A.units + 64 < cLine := hr.units
end
/-! ### a def's contract in one piece -/
structure Cal (P : Program) (w : World) (K : PySem.W.Frag) (mg : Str → Option Value) (base : Heap) (CX : CXT) (k : Nat) (x : Str) (ps : List Str) (sp : Sp) : Prop where
  ex : ∃ (f : Addr) (fd : FuncData), mg x = some (.ref f) ∧ PySem.W.keepIn K (.ref f) = true ∧ Binds K fd ps [] ∧ FnOk P w K mg base CX k f fd ps sp
theorem Cal.mk' {P : Program} {w : World} {K : PySem.W.Frag} {mg : Str → Option Value} {base : Heap} {CX : CXT} {k : Nat} {x : Str} {ps : List Str} {sp : Sp} {f : Addr} {fd : FuncData} (h1 : mg x = some (.ref f)) (h2 : PySem.W.keepIn K (.ref f) = true) (h3 : Binds K fd ps []) (h4 : FnOk P w K mg base CX k f fd ps sp) : Cal P w K mg base CX k x ps sp := ⟨⟨f, fd, h1, h2, h3, h4⟩⟩
def tCal (sp : Sp) (E : XK) (t : TA) : TE := fun σ H Q => t σ H fun vs H1 => sp vs H1 Q E
theorem tCall_nil (sp : Sp) (E : XK) (t : TA) : tCall sp [] E t = tCal sp E t := by
  funext σ H Q
  unfold tCall tCal
  congr 1
  funext vs H1
  rw [List.append_nil]
section
variable {X : Cx} {CX : CXT} {k : Nat} {x : Str} {ps : List Str} {sp : Sp} {E : XK} {e : Expr} {es : List Expr} {t : TA} {p pos : Pos}
theorem pe_cal (C : Cal X.prog X.w X.K X.mg X.base CX k x ps sp) (hr : Room k X.A) (hg : Gl X x) (hx : Passes CX X E) (ha : PA X (e :: es) t)
    (hdb : (x == ("__debug__" : Str)) = false := by decide) (he : starEach (e :: es) X.env = (false, eval e X.env) :: starEach es X.env := by rfl) (hpl : (backTo pos (starEach es X.env)).any (·.1) = false := by rfl) :
    PE X (.Call (.Name x p) (e :: es) [] pos) (tCal sp E t) := by
  obtain ⟨f, fd, h1, h2, h3, h4⟩ := C.ex
  rw [← tCall_nil]
  exact pe_call h4 hr hg h1 h2 h3 .nil hx ha hdb he hpl
theorem pe_cal0 (C : Cal X.prog X.w X.K X.mg X.base CX k x ps sp) (hr : Room k X.A) (hg : Gl X x) (hx : Passes CX X E) (hdb : (x == ("__debug__" : Str)) = false := by decide) :
    PE X (.Call (.Name x p) [] [] pos) (tCal sp E tNil) := by
  obtain ⟨f, fd, h1, h2, h3, h4⟩ := C.ex
  rw [← tCall_nil]
  exact pe_call0 h4 hr hg h1 h2 h3 .nil hx hdb
theorem pe_globD {u : Addr} (hg : Gl X x) (hm : X.mg x = some (.ref u)) (hd : (x == ("__debug__" : Str)) = false := by decide) : PE X (.Name x pos) (tC (.ref u)) := pe_glob hg hm rfl hd
end
/-! ### the head's facts in one piece -/
structure Hd (fa : List He.Fa) (fn : List He.DefD) (K : PySem.W.Frag) (mg : Str → Option Value) : Prop where
  ex : ∃ h : Heap, K.In h ∧ h.Ns mainGlobals mg
  c : He.SaysD fa fn K
section
variable {fa : List He.Fa} {fn : List He.DefD} {K : PySem.W.Frag} {mg : Str → Option Value}
theorem Hd.free (hd : Hd fa fn K mg) {x : Str} (i : Nat) (h : fa[i]? = some (.free x) := by rfl) : mg x = none := by
  obtain ⟨hh, X, G⟩ := hd.ex
  exact He.free_ok X G (hd.c.fact i h)
theorem Hd.glo (hd : Hd fa fn K mg) {x : Str} (i : Nat) (h : fa[i]? = some (.glo x) := by rfl) : mg x = some (.ref (He.ga K x)) := by
  obtain ⟨hh, X, G⟩ := hd.ex
  exact He.glo_ok X G (hd.c.fact i h)
theorem Hd.def_ (hd : Hd fa fn K mg) (i : Nat) {d : He.DefD} (h : fn[i]? = some d := by rfl) : ∃ fd, FunD K d.name d.qual d.params d.body d.scope (d.dvs K) (d.kws K) (He.fAd K d.at_) fd := hd.c.def_ i h
end
/-! ### promises by the number of parameters -/
def sp0 (p : Hp → VK → XK → Prop) : Sp := fun vs H Q E => vs = [] ∧ p H Q E
def sp1 (p : V → Hp → VK → XK → Prop) : Sp := fun vs H Q E => ∃ a, vs = [a] ∧ p a H Q E
def sp2 (p : V → V → Hp → VK → XK → Prop) : Sp := fun vs H Q E => ∃ a b, vs = [a, b] ∧ p a b H Q E
def sp3 (p : V → V → V → Hp → VK → XK → Prop) : Sp := fun vs H Q E => ∃ a b c, vs = [a, b, c] ∧ p a b c H Q E
def sp4 (p : V → V → V → V → Hp → VK → XK → Prop) : Sp := fun vs H Q E => ∃ a b c d, vs = [a, b, c, d] ∧ p a b c d H Q E
def sp5 (p : V → V → V → V → V → Hp → VK → XK → Prop) : Sp := fun vs H Q E => ∃ a b c d e, vs = [a, b, c, d, e] ∧ p a b c d e H Q E
def sp6 (p : V → V → V → V → V → V → Hp → VK → XK → Prop) : Sp := fun vs H Q E => ∃ a b c d e f, vs = [a, b, c, d, e, f] ∧ p a b c d e f H Q E
end KP

/-! One step of a reading at a time: each lemma's conclusion begins with one reading's head. -/
namespace KP
open PySem PySem.Spec PyProof.Rows L2 Evl
section
variable {σ : L2.St} {H : Hp} {D : Ends} {t u tb2 : TS} {ta tb tc te : TE} {c c2 : TT} {g : TG} {i : Nat} {v x y : V} {Q : VK} {K : PySem.W.Frag} {a b cc d : L2.St → Hp → Prop} {r : VK} {tas : TA}
theorem w_seq (h : t ⟨u D, D.rt, D.bk, D.ct⟩ σ H) : tSeq t u D σ H := h
theorem w_cut (Mid : L2.St → Hp → Prop) (h1 : t ⟨Mid, D.rt, D.bk, D.ct⟩ σ H) (h2 : ∀ σ' H', Mid σ' H' → u D σ' H') : Evl.tCut t u D σ H := ⟨Mid, h1, h2⟩
theorem w_nx (h : a σ H) : Ends.nx ⟨a, r, b, cc⟩ σ H := h
theorem w_rt (h : r v H) : Ends.rt ⟨a, r, b, cc⟩ v H := h
theorem w_bk (h : b σ H) : Ends.bk ⟨a, r, b, cc⟩ σ H := h
theorem w_ct (h : cc σ H) : Ends.ct ⟨a, r, b, cc⟩ σ H := h
theorem w_next (h : D.nx σ H) : tNext D σ H := h
theorem w_break (h : D.bk σ H) : tBreak D σ H := h
theorem w_cont (h : D.ct σ H) : tCont D σ H := h
theorem w_asg (h : te σ H fun x H1 => g x σ H1 D.nx) : tAsg te g D σ H := h
theorem w_gname {R : L2.St → Hp → Prop} (h : R (σ.set i (some v)) H) : gName i v σ H R := h
theorem w_drop (h : te σ H fun _ H1 => D.nx σ H1) : tDrop te D σ H := h
theorem w_ret (h : te σ H D.rt) : tRet te D σ H := h
theorem w_retN (h : D.rt .non H) : tRetN D σ H := h
theorem w_if (h : c σ H fun b H1 => if b = true then t D σ H1 else u D σ H1) : tIfS c t u D σ H := h
theorem w_aug {ti : TIp} (h0 : σ[i]? = some (some x)) (h : te σ H fun y H1 => ti x y H1 fun z H2 => D.nx (σ.set i (some z)) H2) : tAug i te ti D σ H := ⟨x, h0, h⟩
theorem w_gsub {to ti : TE} {s : TSet} {R : L2.St → Hp → Prop} (h : to σ H fun o H1 => ti σ H1 fun j H2 => s o j v H2 fun H3 => R σ H3) : gSub to ti s v σ H R := h
theorem w_setL {p : Addr} {xs : List V} {k : Int} {j : Nat} {R : Hp → Prop} (h1 : H p = some (.lst xs)) (h2 : ixN xs.length k = some j) (h : R (upd H p (.lst (xs.set j v)))) : rSetL (.ref p) (.int k) v H R := ⟨p, xs, k, j, rfl, rfl, h1, h2, h⟩
theorem w_gtup {p : Addr} {xs : List V} {n : Nat} {tg : TGs} {R : L2.St → Hp → Prop} (h1 : SqT K H p xs) (h2 : xs.length = n) (h : tg xs σ H R) : gTup K n tg (.ref p) σ H R := ⟨p, xs, rfl, h1, h2, h⟩
theorem w_gcons {tg : TGs} {vs : List V} {R : L2.St → Hp → Prop} (h : g v σ H fun σ' H' => tg vs σ' H' R) : gCons g tg (v :: vs) σ H R := ⟨v, vs, rfl, h⟩
theorem w_gnil {R : L2.St → Hp → Prop} (h : R σ H) : gNil [] σ H R := ⟨rfl, h⟩
/-! expressions -/
theorem w_var (h0 : σ[i]? = some (some v)) (h : Q v H) : tVar i σ H Q := ⟨v, h0, h⟩
theorem w_c (h : Q v H) : tC v σ H Q := h
theorem w_op {r : R2} (h : ta σ H fun x H1 => tb σ H1 fun y H2 => r x y H2 Q) : tOp r ta tb σ H Q := h
theorem w_un {r : V → Hp → VK → Prop} (h : ta σ H fun x H1 => r x H1 Q) : tUn r ta σ H Q := h
theorem w_nil {R : List V → Hp → Prop} (h : R [] H) : tNil σ H R := h
theorem w_cons {R : List V → Hp → Prop} (h : ta σ H fun x H1 => tas σ H1 fun xs H2 => R (x :: xs) H2) : tCons ta tas σ H R := h
theorem w_cb {r : List V → Hp → VK → Prop} (h : tas σ H fun vs H1 => r vs H1 Q) : tCB r tas σ H Q := h
theorem w_cal {sp : Sp} {E : XK} (h : tas σ H fun vs H1 => sp vs H1 Q E) : tCal sp E tas σ H Q := h
/-- the value is a bool, with which R holds -/
def BlOk (x : V) (R : Bool → Prop) : Prop := ∃ k, x = .bl k ∧ R k
/-- the value's truth, with which R holds -/
def TruOk (K : PySem.W.Frag) (x : V) (H : Hp) (R : Bool → Hp → Prop) : Prop := ∃ k, TruV K x H k ∧ R k H
def tTruG (K : PySem.W.Frag) (ta : TE) : TT := fun σ H R => ta σ H fun x H' => TruOk K x H' R
theorem pt_truG {X : Cx} {e : Expr} {te : TE} (he : PE X e te) (hw : ∀ whole, isTrue e X.env whole = (do let v ← whole; standAt e.pos; holding [v] (truthy v))) : PT X e (tTruG X.K te) := pt_truth he hw
theorem w_truG {R : Bool → Hp → Prop} (h : te σ H fun x H' => TruOk K x H' R) : tTruG K te σ H R := h
theorem w_test {R : Bool → Hp → Prop} (h : te σ H fun x H' => BlOk x fun k => R k H') : tTest te σ H R := h
theorem w_tB {R : Bool → Hp → Prop} (h : te σ H fun x H' => BlOk x fun k => R k H') : tB te σ H R := h
theorem w_bl {k : Bool} {R : Bool → Prop} (h : R k) : BlOk (.bl k) R := ⟨k, rfl, h⟩
theorem w_tru {k : Bool} {R : Bool → Hp → Prop} (h : R k H) : TruOk K (.bl k) H R := ⟨k, rfl, h⟩
theorem w_truI {k : Int} {R : Bool → Hp → Prop} (h : R (k != 0) H) : TruOk K (.int k) H R := ⟨_, rfl, h⟩
theorem w_truN {R : Bool → Hp → Prop} (h : R false H) : TruOk K .non H R := ⟨_, rfl, h⟩
theorem w_truL {p : Addr} {xs : List V} {R : Bool → Hp → Prop} (h1 : Sq K H p xs) (h : R (!xs.isEmpty) H) : TruOk K (.ref p) H R := by
  rcases h1 with h1 | h1
  · exact ⟨_, .inl ⟨xs, h1, rfl⟩, h⟩
  · exact ⟨_, .inr (.inl ⟨xs, h1, rfl⟩), h⟩
theorem w_not {R : Bool → Hp → Prop} (h : c σ H fun b H1 => R (!b) H1) : tNot c σ H R := h
theorem w_and {R : Bool → Hp → Prop} (h : c σ H fun b H1 => if b = true then c2 σ H1 R else R false H1) : tAnd c c2 σ H R := h
theorem w_or {R : Bool → Hp → Prop} (h : c σ H fun b H1 => if b = true then R true H1 else c2 σ H1 R) : tOr c c2 σ H R := h
theorem w_andV (h : ta σ H fun x H1 => BlOk x fun b => if b = true then tb σ H1 Q else Q (.bl false) H1) : tAndV ta tb σ H Q := h
theorem w_orV (h : ta σ H fun x H1 => BlOk x fun b => if b = true then Q (.bl true) H1 else tb σ H1 Q) : tOrV ta tb σ H Q := h
theorem w_notV (h : ta σ H fun x H1 => BlOk x fun b => Q (.bl (!b)) H1) : tNotV ta σ H Q := h
theorem w_ife (h : c σ H fun b H1 => if b = true then ta σ H1 Q else tb σ H1 Q) : tIf c ta tb σ H Q := h
theorem w_chain {r1 r2 : R2} (h : ta σ H fun x H1 => tb σ H1 fun y H2 => r1 x y H2 fun z H3 => BlOk z fun k => if k = true then tc σ H3 fun w' H4 => r2 y w' H4 Q else Q (.bl false) H3) : tChain r1 r2 ta tb tc σ H Q := h
theorem w_tup (h : tas σ H fun xs H1 => xs.length ≤ sizeLine ∧ ∀ p, H1 p = none → Q (.ref p) (upd H1 p (.tup xs))) : tTup tas σ H Q := h
theorem w_lst (h : tas σ H fun xs H1 => xs.length ≤ sizeLine ∧ ∀ p, H1 p = none → Q (.ref p) (upd H1 p (.lst xs))) : tLst tas σ H Q := h
theorem w_sl {rr : V → Option Int → Option Int → Hp → VK → Prop} {tl th : TO} (h : te σ H fun x H1 => tl σ H1 fun l H2 => th σ H2 fun u H3 => rr x l u H3 Q) : tSl rr te tl th σ H Q := h
theorem w_nopart {R : Option Int → Hp → Prop} (h : R none H) : tNoPart σ H R := h
/-- the value is an int, with which R holds -/
def IntOk (x : V) (R : Int → Prop) : Prop := ∃ k, x = .int k ∧ R k
theorem w_part {R : Option Int → Hp → Prop} (h : te σ H fun x H1 => IntOk x fun k => R (some k) H1) : tPart te σ H R := h
theorem w_pint {k : Int} {R : Int → Prop} (h : R k) : IntOk (.int k) R := ⟨k, rfl, h⟩
theorem w_bm {T : String} {rr : V → List V → Hp → VK → Prop} (h : te σ H fun x H1 => tyV K T x H1 ∧ tas σ H1 fun xs H2 => rr x xs H2 Q) : tBM K T rr te tas σ H Q := h
theorem w_bm0 {T : String} {rr : V → List V → Hp → VK → Prop} (h : te σ H fun x H1 => tyV K T x H1 ∧ rr x [] H1 Q) : tBM0 K T rr te σ H Q := h
/-! values -/
theorem w_addI {i j : Int} (h : Q (.int (i + j)) H) : rAddG K (.int i) (.int j) H Q := h
theorem w_catL {p q : Addr} {xs zs : List V} (h1 : H p = some (.lst xs)) (h2 : H q = some (.lst zs)) (h3 : xs.length + zs.length ≤ 100000) (h : ∀ n, H n = none → Q (.ref n) (upd H n (.lst (xs ++ zs)))) : rAddG K (.ref p) (.ref q) H Q :=
  .inl ⟨xs, zs, h1, h2, sz_of h3, h⟩
theorem w_catT {p q : Addr} {xs zs : List V} (h1 : SqT K H p xs) (h2 : SqT K H q zs) (h3 : xs.length + zs.length ≤ 100000) (h : ∀ n H', Evl.Ex H H' → SqT K H' n (xs ++ zs) → Q (.ref n) H') : rAddG K (.ref p) (.ref q) H Q :=
  .inr ⟨xs, zs, h1, h2, sz_of h3, fun n H' e s _ => h n H' e s⟩
theorem w_I0 {gg : Int → Int → V} {i j : Int} (h : Q (gg i j) H) : rI0 gg (.int i) (.int j) H Q := ⟨i, j, rfl, rfl, h⟩
theorem w_I {C : Int → Int → Prop} {gg : Int → Int → V} {i j : Int} (hc : C i j) (h : Q (gg i j) H) : rI C gg (.int i) (.int j) H Q := ⟨i, j, rfl, rfl, hc, h⟩
theorem w_U {gg : Int → V} {i : Int} (h : Q (gg i) H) : rU gg (.int i) H Q := ⟨i, rfl, h⟩
theorem w_mulI {i j : Int} (hc : CMul i j ∨ CMulW i j) (h : Q (.int (i * j)) H) : rMulG (.int i) (.int j) H Q := ⟨hc, h⟩
theorem w_ord {f : Int → Int → Bool} {i j : Int} (h : Q (.bl (f i j)) H) : rOrdG K f (.int i) (.int j) H Q := h
theorem w_eqI {i j : Int} (h : Q (.bl (decide (i = j))) H) : rEqG K false (.int i) (.int j) H Q := h
theorem w_neI {i j : Int} (h : Q (.bl (!decide (i = j))) H) : rEqG K true (.int i) (.int j) H Q := h
theorem w_eqS {i j : Str} (h : Q (.bl (decide (i = j))) H) : rEqG K false (.str i) (.str j) H Q := h
theorem w_neS {i j : Str} (h : Q (.bl (!decide (i = j))) H) : rEqG K true (.str i) (.str j) H Q := h
theorem w_eqB {i j : Bool} (h : Q (.bl (decide (i = j))) H) : rEqG K false (.bl i) (.bl j) H Q := h
theorem w_neB {i j : Bool} (h : Q (.bl (!decide (i = j))) H) : rEqG K true (.bl i) (.bl j) H Q := h
theorem w_isN (h : Q (.bl (decide (x = .non))) H) : rIsG x .non H Q := h
theorem w_isB {k : Bool} (h : Q (.bl (decide (x = .bl k))) H) : rIsG x (.bl k) H Q := h
theorem w_isnotN (h : Q (.bl (!decide (x = .non))) H) : rIsnotG x .non H Q := h
theorem w_isnotB {k : Bool} (h : Q (.bl (!decide (x = .bl k))) H) : rIsnotG x (.bl k) H Q := h
theorem w_ix {p : Addr} {xs : List V} {k : Int} (h1 : Sq K H p xs) (h2 : atI xs k = some v) (h : Q v H) : rIxG K (.ref p) (.int k) H Q := ⟨xs, v, h1, h2, h⟩
theorem w_ipF {f : Int → Int → Int} {C : Int → Int → Prop} {i j : Int} (hc : C i j) (h : Q (.int (f i j)) H) : ipF f C (.int i) (.int j) H Q := ⟨hc, h⟩
theorem w_append {l : Addr} {xs : List V} (h1 : H l = some (.lst xs)) (h2 : xs.length < sizeLine) (h : Q .non (upd H l (.lst (xs ++ [y])))) : rAppend (.ref l) [y] H Q := ⟨l, xs, y, rfl, rfl, h1, h2, h⟩
theorem ty_list {p : Addr} {xs : List V} (h : H p = some (.lst xs)) : tyV K "list" (.ref p) H := Or.inl ⟨rfl, xs, SqL.of h⟩
theorem w_tyL {p : Addr} {xs : List V} {R : Prop} (h1 : H p = some (.lst xs)) (h : R) : tyV K "list" (.ref p) H ∧ R := ⟨ty_list h1, h⟩
theorem w_sz {n : Nat} {R : Prop} (h1 : n ≤ 100000) (h : R) : n ≤ sizeLine ∧ R := ⟨sz_of h1, h⟩
/-! promises -/
section
variable {E : XK} {v0 v1 v2 v3 v4 v5 : V}
theorem w_sp0 {p : Hp → VK → XK → Prop} (h : p H Q E) : sp0 p [] H Q E := ⟨rfl, h⟩
theorem w_sp1 {p : V → Hp → VK → XK → Prop} (h : p v0 H Q E) : sp1 p [v0] H Q E := ⟨_, rfl, h⟩
theorem w_sp2 {p : V → V → Hp → VK → XK → Prop} (h : p v0 v1 H Q E) : sp2 p [v0, v1] H Q E := ⟨_, _, rfl, h⟩
theorem w_sp3 {p : V → V → V → Hp → VK → XK → Prop} (h : p v0 v1 v2 H Q E) : sp3 p [v0, v1, v2] H Q E := ⟨_, _, _, rfl, h⟩
theorem w_sp4 {p : V → V → V → V → Hp → VK → XK → Prop} (h : p v0 v1 v2 v3 H Q E) : sp4 p [v0, v1, v2, v3] H Q E := ⟨_, _, _, _, rfl, h⟩
theorem w_sp5 {p : V → V → V → V → V → Hp → VK → XK → Prop} (h : p v0 v1 v2 v3 v4 H Q E) : sp5 p [v0, v1, v2, v3, v4] H Q E := ⟨_, _, _, _, _, rfl, h⟩
theorem w_sp6 {p : V → V → V → V → V → V → Hp → VK → XK → Prop} (h : p v0 v1 v2 v3 v4 v5 H Q E) : sp6 p [v0, v1, v2, v3, v4, v5] H Q E := ⟨_, _, _, _, _, _, rfl, h⟩
end
/-! tests -/
theorem kite_d {p : Prop} [Decidable p] {A B : Prop} (h1 : p → A) (h2 : ¬ p → B) : if decide p = true then A else B := by
  by_cases h : p
  · rw [decide_eq_true h]
    exact h1 h
  · rw [decide_eq_false h]
    exact h2 h
theorem kite_nd {p : Prop} [Decidable p] {A B : Prop} (h1 : ¬ p → A) (h2 : p → B) : if (!decide p) = true then A else B := by
  by_cases h : p
  · rw [decide_eq_true h]
    exact h2 h
  · rw [decide_eq_false h]
    exact h1 h
theorem kite_tt {A B : Prop} {i : Decidable (true = true)} (h : A) : @ite Prop (true = true) i A B := by rw [if_pos rfl]; exact h
theorem kite_ff {A B : Prop} {i : Decidable (false = true)} (h : B) : @ite Prop (false = true) i A B := by rw [if_neg Bool.false_ne_true]; exact h
theorem kite_nt {A B : Prop} {i : Decidable ((!true) = true)} (h : B) : @ite Prop ((!true) = true) i A B := if_neg (c := (!true) = true) Bool.false_ne_true ▸ h
theorem kite_nf {A B : Prop} {i : Decidable ((!false) = true)} (h : A) : @ite Prop ((!false) = true) i A B := if_pos (c := (!false) = true) rfl ▸ h
theorem kite_b {k : Bool} {A B : Prop} (h1 : k = true → A) (h2 : k = false → B) : if k = true then A else B := by
  cases k with
  | true => exact h1 rfl
  | false => exact h2 rfl
theorem kite_nb {k : Bool} {A B : Prop} (h1 : k = false → A) (h2 : k = true → B) : if (!k) = true then A else B := by
  cases k with
  | true => exact h2 rfl
  | false => exact h1 rfl
/-! heaps -/
theorem hp_new {p q : Addr} {o u : HO} (hn : H q = none) (h : H p = some u) : upd H q o p = some u := by rw [upd_ne (ne_of_none h hn)]; exact h
theorem hp_ne {p q : Addr} {o u : HO} (hn : p ≠ q) (h : H p = some u) : upd H q o p = some u := by rw [upd_ne hn]; exact h
end
/-! promises of the built-ins, named -/
theorem hp_ex {H H' : Hp} {p : Addr} {u : HO} (e : Evl.Ex H H') (h : H p = some u) : H' p = some u := e p u h
section
variable {X : Cx}
def rLenG (K : PySem.W.Frag) : List V → Hp → VK → Prop := fun xs H Q => ∃ x n, xs = [x] ∧ LenV K x H n ∧ Q (.int n) H
def rAbsG : List V → Hp → VK → Prop := fun xs H Q => ∃ i, xs = [.int i] ∧ Q (.int (if i < 0 then -i else i)) H
def rMinG : List V → Hp → VK → Prop := fun xs H Q => ∃ i j, xs = [.int i, .int j] ∧ Q (.int (if j < i then j else i)) H
def rMaxG : List V → Hp → VK → Prop := fun xs H Q => ∃ i j, xs = [.int i, .int j] ∧ Q (.int (if j > i then j else i)) H
def rIntG : List V → Hp → VK → Prop := fun xs H Q => (∃ i, xs = [.int i] ∧ Q (.int i) H) ∨ ∃ k, xs = [.bl k] ∧ Q (.int (if k then 1 else 0)) H
def rListG (K : PySem.W.Frag) : List V → Hp → VK → Prop := fun xs H Q => ∃ p ys, xs = [.ref p] ∧ (SqL K H p ys ∨ SqT K H p ys) ∧ ∀ l, H l = none → Q (.ref l) (upd H l (.lst ys))
def rTupG (K : PySem.W.Frag) : List V → Hp → VK → Prop := fun xs H Q => ∃ p ys, xs = [.ref p] ∧ ((SqL K H p ys ∧ ∀ l, H l = none → Q (.ref l) (upd H l (.tup ys))) ∨ (SqT K H p ys ∧ Q (.ref p) H))
theorem g_len : CallR X (.builtin "len") (rLenG X.K) := call_len
theorem g_abs : CallR X (.builtin "abs") rAbsG := call_abs
theorem g_min (hc : X.calm = true) : CallR X (.builtin "min") rMinG := call_min2 hc
theorem g_max (hc : X.calm = true) : CallR X (.builtin "max") rMaxG := call_max2 hc
theorem g_int : CallR X (.type "int") rIntG := call_int1
theorem g_list : CallR X (.type "list") (rListG X.K) := call_list_of
theorem g_tuple : CallR X (.type "tuple") (rTupG X.K) := call_tuple_of
end
section
variable {H : Hp} {Q : VK} {K : PySem.W.Frag}
theorem w_len {p : Addr} {xs : List V} (h1 : Sq K H p xs) (h : Q (.int xs.length) H) : rLenG K [.ref p] H Q := by
  rcases h1 with h1 | h1
  · exact ⟨.ref p, xs.length, rfl, .inl ⟨xs, h1, rfl⟩, h⟩
  · exact ⟨.ref p, xs.length, rfl, .inr ⟨xs, h1, rfl⟩, h⟩
theorem w_lenS {z : Str} (h1 : z.length ≤ sizeLine) (h : Q (.int z.length) H) : rLenG K [.str z] H Q := ⟨.str z, z.length, rfl, ⟨h1, rfl⟩, h⟩
theorem w_ixS {z : Str} {k : Int} {c : Nat} (h1 : z.length ≤ sizeLine) (h2 : atI z.cps.toList k = some c) (h : Q (.str ⟨#[c]⟩) H) : rIxG K (.str z) (.int k) H Q := ⟨c, h1, h2, h⟩
theorem w_abs {i : Int} (h : Q (.int (if i < 0 then -i else i)) H) : rAbsG [.int i] H Q := ⟨i, rfl, h⟩
theorem w_min {i j : Int} (h : Q (.int (if j < i then j else i)) H) : rMinG [.int i, .int j] H Q := ⟨i, j, rfl, h⟩
theorem w_max {i j : Int} (h : Q (.int (if j > i then j else i)) H) : rMaxG [.int i, .int j] H Q := ⟨i, j, rfl, h⟩
theorem w_int {i : Int} (h : Q (.int i) H) : rIntG [.int i] H Q := .inl ⟨i, rfl, h⟩
theorem w_list {p : Addr} {xs : List V} (h1 : Sq K H p xs) (h : ∀ l, H l = none → Q (.ref l) (upd H l (.lst xs))) : rListG K [.ref p] H Q := ⟨p, xs, rfl, h1, h⟩
theorem w_tupL {p : Addr} {xs : List V} (h1 : SqL K H p xs) (h : ∀ l, H l = none → Q (.ref l) (upd H l (.tup xs))) : rTupG K [.ref p] H Q := ⟨p, xs, rfl, .inl ⟨h1, h⟩⟩
theorem w_tupT {p : Addr} {xs : List V} (h1 : SqT K H p xs) (h : Q (.ref p) H) : rTupG K [.ref p] H Q := ⟨p, xs, rfl, .inr ⟨h1, h⟩⟩
/-- isinstance(x, a built-in class): the two classes' names decide -/
theorem w_isi {x : V} {T c : String} {b : Bool} (h1 : TyX K H x (.type T)) (h2 : PySem.W.kitOne K (.type T) (.type c) = some b) (h : Q (.bl b) H) : rIsi K [x, .ty c] H Q := ⟨x, .ty c, .type T, .type c, b, rfl, .ty c, h1, h2, h⟩
end
end KP

/-! Loops, comprehensions, data, drawers. -/
namespace KP
open PySem PySem.Spec PyProof.Rows L2 Evl
/-! ### loops -/
def ForOk (J : It) (g : TG) (tb : TS) (D : Ends) (σ : L2.St) (H1 : Hp) : Prop := ∃ W : Nat → Nat → L2.St → Hp → Prop, (∃ m, W 0 m σ H1) ∧ ∀ i m σ H, W i m σ H →
  (J.stop i H ∧ D.nx σ H) ∨ (J.go i H ∧ ∃ N : L2.St → Hp → Prop, (∀ σ' H', N σ' H' → ∃ m', m' < m ∧ W (i + 1) m' σ' H') ∧ ∀ x H', J.yld i H x H' → g x σ H' fun σ2 H2 => tb { D with nx := N, ct := N, bk := D.nx } σ2 H2)
section
variable {σ : L2.St} {H : Hp} {D : Ends} {tb : TS} {tl : TE} {g : TG} {wi : TI} {K : PySem.W.Frag} {tas : TA}
theorem w_for (h : wi σ H fun J H1 => ForOk J g tb D σ H1) : tFor wi g tb D σ H := h
theorem w_iG {R : It → Hp → Prop} (h : tl σ H fun x H1 => iGv K x H1 R) : iG K tl σ H R := h
def iR1v (vs : List V) (H1 : Hp) (R : It → Hp → Prop) : Prop := ∃ j : Int, vs = [.int j] ∧ -(2 ^ 62) ≤ j ∧ j < 2 ^ 62 ∧ R (Itr 0 j.toNat) H1
def iR2v (vs : List V) (H1 : Hp) (R : It → Hp → Prop) : Prop := ∃ i j : Int, vs = [.int i, .int j] ∧ (-(2 ^ 62) ≤ i ∧ i < 2 ^ 62 ∧ -(2 ^ 62) ≤ j ∧ j < 2 ^ 62) ∧ R (Itr i (j - i).toNat) H1
theorem w_iR1 {R : It → Hp → Prop} (h : tas σ H fun vs H1 => iR1v vs H1 R) : iRng1 tas σ H R := h
theorem w_iR2 {R : It → Hp → Prop} (h : tas σ H fun vs H1 => iR2v vs H1 R) : iRng2 tas σ H R := h
theorem w_forL {p : Addr} {xs : List V} (hS : SqL K H p xs) (Pv : Nat → L2.St → Hp → Prop) (h0 : Pv 0 σ H) (hl : ∀ i σ H, i ≤ xs.length → Pv i σ H → SqL K H p xs)
    (hs : ∀ i x σ H, xs[i]? = some x → Pv i σ H → g x σ H fun σ2 H2 => tb ⟨Pv (i + 1), D.rt, D.nx, Pv (i + 1)⟩ σ2 H2) (hd : ∀ σ H, Pv xs.length σ H → D.nx σ H) : iGv K (.ref p) H fun J H1 => ForOk J g tb D σ H1 :=
  .inl ⟨⟨xs, hS⟩, for_list Pv h0 hl hs hd⟩
theorem w_forT {p : Addr} {xs : List V} (hS : SqT K H p xs) (Pv : Nat → L2.St → Hp → Prop) (h0 : Pv 0 σ H) (hl : ∀ i σ H, i ≤ xs.length → Pv i σ H → SqT K H p xs)
    (hs : ∀ i x σ H, xs[i]? = some x → Pv i σ H → g x σ H fun σ2 H2 => tb ⟨Pv (i + 1), D.rt, D.nx, Pv (i + 1)⟩ σ2 H2) (hd : ∀ σ H, Pv xs.length σ H → D.nx σ H) : iGv K (.ref p) H fun J H1 => ForOk J g tb D σ H1 :=
  .inr ⟨⟨xs, hS⟩, for_tup Pv h0 hl hs hd⟩
/-- over range(n) -/
theorem w_forR1 {n : Int} (hn : n < 2 ^ 62) (hn0 : -(2 ^ 62) ≤ n) (Pv : Nat → L2.St → Hp → Prop) (h0 : Pv 0 σ H)
    (hs : ∀ (i : Nat) σ H, (i : Int) < n → Pv i σ H → g (.int i) σ H fun σ2 H2 => tb ⟨Pv (i + 1), D.rt, D.nx, Pv (i + 1)⟩ σ2 H2) (hd : ∀ σ H, Pv n.toNat σ H → D.nx σ H) : iR1v [.int n] H fun J H1 => ForOk J g tb D σ H1 :=
  ⟨n, rfl, hn0, hn, for_range (lo := 0) Pv h0 (fun i σ H hi p => by rw [Int.zero_add]; exact hs i σ H (by omega) p) hd⟩
theorem w_forR2 {lo n : Int} (hn : -(2 ^ 62) ≤ lo ∧ lo < 2 ^ 62 ∧ -(2 ^ 62) ≤ n ∧ n < 2 ^ 62) (Pv : Nat → L2.St → Hp → Prop) (h0 : Pv 0 σ H)
    (hs : ∀ (i : Nat) σ H, lo + (i : Int) < n → Pv i σ H → g (.int (lo + i)) σ H fun σ2 H2 => tb ⟨Pv (i + 1), D.rt, D.nx, Pv (i + 1)⟩ σ2 H2) (hd : ∀ σ H, Pv (n - lo).toNat σ H → D.nx σ H) : iR2v [.int lo, .int n] H fun J H1 => ForOk J g tb D σ H1 :=
  ⟨lo, n, rfl, hn, for_range (lo := lo) Pv h0 (fun i σ H hi p => hs i σ H (by omega) p) hd⟩
/-! ### comprehensions -/
def LcOk (J : It) (g : TG) (tt : TT) (te : TE) (vs : List Nat) (σ : L2.St) (Q : VK) (H1 : Hp) : Prop := ∀ D, H1 D = none → ∃ W : Nat → Nat → Hp → Prop, (∃ m, W 0 m (upd H1 D (.lst []))) ∧ ∀ i m H, W i m H →
  (J.stop i H ∧ Q (.ref D) H) ∨ (J.go i H ∧ ∃ Nx : Hp → Prop, (∀ H', Nx H' → ∃ m', m' < m ∧ W (i + 1) m' H') ∧ ∀ x H', J.yld i H x H' → g x (wipe σ vs) H' fun σ2 H2 => wipe σ2 vs = wipe σ vs ∧ tt σ2 H2 fun b H3 =>
    if b = true then te σ2 H3 fun y H4 => ∃ acc, H4 D = some (.lst acc) ∧ acc.length < sizeLine ∧ Nx (upd H4 D (.lst (acc ++ [y]))) else Nx H3)
theorem w_lc {tt : TT} {te : TE} {vs : List Nat} {Q : VK} (h : wi σ H fun J H1 => LcOk J g tt te vs σ Q H1) : tLc wi g tt te vs σ H Q := h
/-- a turn that always gives, over range(n); Pv: the new list's place, the turn, what is made so far, the heap -/
theorem w_lcR1 {te : TE} {vs : List Nat} {Q : VK} {j : Nat} {n : Int} (hn : n ≤ 100000) (hn0 : -(2 ^ 62) ≤ n) (Pv : Addr → Nat → List V → Hp → Prop) (hw : ∀ v, wipe ((wipe σ vs).set j (some v)) vs = wipe σ vs)
    (h0 : ∀ D, H D = none → Pv D 0 [] (upd H D (.lst [])))
    (hs : ∀ D (i : Nat) acc H' (R : VK), (i : Int) < n → acc.length = i → H D = none → Pv D i acc H' → (∀ y H4, H4 D = some (.lst acc) → Pv D (i + 1) (acc ++ [y]) (upd H4 D (.lst (acc ++ [y]))) → R y H4) → te ((wipe σ vs).set j (some (.int i))) H' R)
    (hd : ∀ D acc H', H D = none → acc.length = n.toNat → Pv D n.toNat acc H' → Q (.ref D) H') : iR1v [.int n] H fun J H1 => LcOk J (gName j) tYes te vs σ Q H1 :=
  ⟨n, rfl, by omega, by omega, fun D hD => ⟨fun i m H' => m = n.toNat - i ∧ i ≤ n.toNat ∧ ∃ acc, acc.length = i ∧ Pv D i acc H', ⟨n.toNat, by simp, Nat.zero_le _, [], rfl, h0 D hD⟩, by
    rintro i m H' ⟨rfl, hi, acc, hl, p⟩
    by_cases hlt : i < n.toNat
    · refine .inr ⟨hlt, fun H4 => ∃ acc, acc.length = i + 1 ∧ Pv D (i + 1) acc H4, fun H4 p4 => ⟨n.toNat - (i + 1), by omega, rfl, hlt, p4⟩, fun x H4 y => ?_⟩
      obtain ⟨e, y⟩ := y
      subst e y
      refine ⟨hw _, ?_⟩
      show te ((wipe σ vs).set j (some (.int ((0 : Int) + (i : Nat))))) _ _
      rw [Int.zero_add]
      refine hs D i acc H4 _ (by omega) hl hD p fun y H5 h5 p5 => ⟨acc, h5, sz_lt (by omega), acc ++ [y], by rw [List.length_append, hl]; rfl, p5⟩
    · have e : i = n.toNat := by omega
      subst e
      exact .inl ⟨Nat.le_refl _, hd D acc H' hD hl p⟩⟩⟩
/-- the same over a list that can be read throughout -/
theorem w_lcL {te : TE} {vs : List Nat} {Q : VK} {j : Nat} {p : Addr} {xs : List V} (hS : SqL K H p xs) (hz : xs.length ≤ 100000) (Pv : Addr → Nat → List V → Hp → Prop) (hw : ∀ v, wipe ((wipe σ vs).set j (some v)) vs = wipe σ vs)
    (h0 : ∀ D, H D = none → Pv D 0 [] (upd H D (.lst []))) (hl : ∀ D i acc H', H D = none → Pv D i acc H' → SqL K H' p xs)
    (hs : ∀ D (i : Nat) x acc H' (R : VK), xs[i]? = some x → acc.length = i → H D = none → Pv D i acc H' → (∀ y H4, H4 D = some (.lst acc) → Pv D (i + 1) (acc ++ [y]) (upd H4 D (.lst (acc ++ [y]))) → R y H4) → te ((wipe σ vs).set j (some x)) H' R)
    (hd : ∀ D acc H', H D = none → acc.length = xs.length → Pv D xs.length acc H' → Q (.ref D) H') : iGv K (.ref p) H fun J H1 => LcOk J (gName j) tYes te vs σ Q H1 :=
  .inl ⟨⟨xs, hS⟩, fun D hD => lc_list (xs := xs) (fun i H' => ∃ acc, acc.length = i ∧ Pv D i acc H') ⟨[], rfl, h0 D hD⟩ (fun i H' _ ⟨acc, _, p⟩ => hl D i acc H' hD p)
    (fun i x H' hx ⟨acc, ha, p⟩ => ⟨hw x, hs D i x acc H' _ hx ha hD p fun y H5 h5 p5 => ⟨acc, h5, sz_lt (by have := (List.getElem?_eq_some_iff.mp hx).1; omega), acc ++ [y], by rw [List.length_append, ha]; rfl, p5⟩⟩)
    fun H' ⟨acc, ha, p⟩ => hd D acc H' hD ha p⟩
theorem w_lcT {te : TE} {vs : List Nat} {Q : VK} {j : Nat} {p : Addr} {xs : List V} (hS : SqT K H p xs) (hz : xs.length ≤ 100000) (Pv : Addr → Nat → List V → Hp → Prop) (hw : ∀ v, wipe ((wipe σ vs).set j (some v)) vs = wipe σ vs)
    (h0 : ∀ D, H D = none → Pv D 0 [] (upd H D (.lst []))) (hl : ∀ D i acc H', H D = none → Pv D i acc H' → SqT K H' p xs)
    (hs : ∀ D (i : Nat) x acc H' (R : VK), xs[i]? = some x → acc.length = i → H D = none → Pv D i acc H' → (∀ y H4, H4 D = some (.lst acc) → Pv D (i + 1) (acc ++ [y]) (upd H4 D (.lst (acc ++ [y]))) → R y H4) → te ((wipe σ vs).set j (some x)) H' R)
    (hd : ∀ D acc H', H D = none → acc.length = xs.length → Pv D xs.length acc H' → Q (.ref D) H') : iGv K (.ref p) H fun J H1 => LcOk J (gName j) tYes te vs σ Q H1 :=
  .inr ⟨⟨xs, hS⟩, fun D hD => lc_tup (xs := xs) (fun i H' => ∃ acc, acc.length = i ∧ Pv D i acc H') ⟨[], rfl, h0 D hD⟩ (fun i H' _ ⟨acc, _, p⟩ => hl D i acc H' hD p)
    (fun i x H' hx ⟨acc, ha, p⟩ => ⟨hw x, hs D i x acc H' _ hx ha hD p fun y H5 h5 p5 => ⟨acc, h5, sz_lt (by have := (List.getElem?_eq_some_iff.mp hx).1; omega), acc ++ [y], by rw [List.length_append, ha]; rfl, p5⟩⟩)
    fun H' ⟨acc, ha, p⟩ => hd D acc H' hD ha p⟩
/-- list(range(..)), tuple(range(..)) -/
theorem w_lstRg {te : L2.St → Hp → (Int → Int → Hp → Prop) → Prop} {Q : VK} (h : te σ H fun a b H1 => RgOk a b ∧ ∀ q, H1 q = none → Q (.ref q) (upd H1 q (.lst (rgV a b)))) : tLstRg te σ H Q := h
theorem w_tupRg {te : L2.St → Hp → (Int → Int → Hp → Prop) → Prop} {Q : VK} (h : te σ H fun a b H1 => RgOk a b ∧ ∀ q, H1 q = none → Q (.ref q) (upd H1 q (.tup (rgV a b)))) : tTupRg te σ H Q := h
theorem w_rg1 {ta : TE} {R : Int → Int → Hp → Prop} (h : ta σ H fun x H1 => IntOk x fun n => R 0 n H1) : tRg1 ta σ H R := h
def IntOk2 (x y : V) (R : Int → Int → Prop) : Prop := ∃ i j, x = .int i ∧ y = .int j ∧ R i j
theorem w_int2 {i j : Int} {R : Int → Int → Prop} (h : R i j) : IntOk2 (.int i) (.int j) R := ⟨i, j, rfl, rfl, h⟩
theorem w_rg2 {ta tb : TE} {R : Int → Int → Hp → Prop} (h : ta σ H fun x H1 => tb σ H1 fun y H2 => IntOk2 x y fun i j => R i j H2) : tRg2 ta tb σ H R := h
/-- sorted(a list of ints) -/
theorem w_sorted {p : Addr} {ns : List Int} {Q : VK} (hS : SqL K H p (ns.map V.int)) (h : ∀ (ns' : List Int) (q : Addr), ns'.Perm ns → ns'.Pairwise (· ≤ ·) → H q = none → Q (.ref q) (upd H q (.lst (ns'.map V.int)))) : rSortedI K [.ref p] H Q := ⟨p, ns, rfl, hS, h⟩
end
/-! ### data -/
section
variable {K : PySem.W.Frag} {H : Hp}
theorem dpAll_ints : ∀ ns : List Int, DpAll K H (ns.map V.int) (ns.map PyData.int)
  | [] => .nil
  | n :: r => .cons (.int n) (dpAll_ints r)
theorem dp_ints {p : Addr} {ns : List Int} (h : SqL K H p (ns.map V.int)) : Dp K H (.ref p) (.list (ns.map PyData.int)) := .lst h (dpAll_ints ns)
theorem dp_intsT {p : Addr} {ns : List Int} (h : SqT K H p (ns.map V.int)) : Dp K H (.ref p) (.tuple (ns.map PyData.int)) := .tup h (dpAll_ints ns)
theorem lay_ints : ∀ ns : List Int, PyData.canLayAll0 (ns.map PyData.int) = true
  | [] => by simp [PyData.canLayAll0]
  | n :: r => by simp [PyData.canLayAll0, PyData.canLay0, lay_ints r]
theorem depth_ints : ∀ ns : List Int, PyData.depthAll (ns.map PyData.int) = 0
  | [] => by simp [PyData.depthAll]
  | n :: r => by simp [PyData.depthAll, PyData.depth, depth_ints r]
theorem sh_ints (ns : List Int) : SeqAt.shaped (.list (ns.map PyData.int)) = true := by
  have h1 := lay_ints ns
  have h2 := depth_ints ns
  simp [SeqAt.shaped, PyData.canLay0, PyData.depth, h1, h2]
theorem sh_intsT (ns : List Int) : SeqAt.shaped (.tuple (ns.map PyData.int)) = true := by
  have h1 := lay_ints ns
  have h2 := depth_ints ns
  simp [SeqAt.shaped, PyData.canLay0, PyData.depth, h1, h2]
theorem eqvAll_ints : ∀ ns ms : List Int, PyData.eqvAll (ns.map PyData.int) (ms.map PyData.int) = decide (ns = ms)
  | [], [] => by simp [PyData.eqvAll]
  | [], m :: ms => by simp [PyData.eqvAll]
  | n :: ns, [] => by simp [PyData.eqvAll]
  | n :: ns, m :: ms => by
    simp only [List.map_cons, PyData.eqvAll, PyData.eqv, eqvAll_ints ns ms, List.cons.injEq]
    by_cases h : n = m <;> simp [h]
theorem eqv_ints (ns ms : List Int) : PyData.eqv (.list (ns.map PyData.int)) (.list (ms.map PyData.int)) = decide (ns = ms) := by
  rw [PyData.eqv, eqvAll_ints]
theorem eqv_intsT (ns ms : List Int) : PyData.eqv (.tuple (ns.map PyData.int)) (.tuple (ms.map PyData.int)) = decide (ns = ms) := by
  rw [PyData.eqv, eqvAll_ints]
/-- == of two lists of ints, of two tuples of ints -/
theorem w_eqL {p q : Addr} {ns ms : List Int} {Q : VK} (h1 : SqL K H p (ns.map V.int)) (h2 : SqL K H q (ms.map V.int)) (h : Q (.bl (decide (ns = ms))) H) : rEqG K false (.ref p) (.ref q) H Q :=
  ⟨_, _, dp_ints h1, dp_ints h2, sh_ints ns, sh_ints ms, by rw [eqv_ints]; exact h⟩
theorem w_neL {p q : Addr} {ns ms : List Int} {Q : VK} (h1 : SqL K H p (ns.map V.int)) (h2 : SqL K H q (ms.map V.int)) (h : Q (.bl (!decide (ns = ms))) H) : rEqG K true (.ref p) (.ref q) H Q :=
  ⟨_, _, dp_ints h1, dp_ints h2, sh_ints ns, sh_ints ms, by rw [eqv_ints]; exact h⟩
theorem w_eqT {p q : Addr} {ns ms : List Int} {Q : VK} (h1 : SqT K H p (ns.map V.int)) (h2 : SqT K H q (ms.map V.int)) (h : Q (.bl (decide (ns = ms))) H) : rEqG K false (.ref p) (.ref q) H Q :=
  ⟨_, _, dp_intsT h1, dp_intsT h2, sh_intsT ns, sh_intsT ms, by rw [eqv_intsT]; exact h⟩
theorem w_neT {p q : Addr} {ns ms : List Int} {Q : VK} (h1 : SqT K H p (ns.map V.int)) (h2 : SqT K H q (ms.map V.int)) (h : Q (.bl (!decide (ns = ms))) H) : rEqG K true (.ref p) (.ref q) H Q :=
  ⟨_, _, dp_intsT h1, dp_intsT h2, sh_intsT ns, sh_intsT ms, by rw [eqv_intsT]; exact h⟩
theorem rgV_eq (n : Int) : rgV 0 n = ((List.range n.toNat).map fun i => ((i : Nat) : Int)).map V.int := by
  unfold rgV
  rw [List.map_map, Int.sub_zero]
  refine List.map_congr_left fun i _ => ?_
  show V.int (0 + (i : Int)) = V.int (i : Int)
  rw [Int.zero_add]
end
/-! ### drawers -/
section
variable {H H1 H2 : Hp} {a b p : Addr} {o : HO}
/-- a drawer stands at a -/
def Dr (H : Hp) (a : Addr) : Prop := ∃ d s c : Int, H a = some (.lst [.int d, .int s, .int c])
/-- what stood stands, but for the drawer at a, which is a drawer still -/
structure Dw (a : Addr) (H H' : Hp) : Prop where
  dr : Dr H' a
  kp : ∀ b o, b ≠ a → H b = some o → H' b = some o
theorem Dw.trans (x : Dw a H H1) (y : Dw a H1 H2) : Dw a H H2 := ⟨y.dr, fun b o n e => y.kp b o n (x.kp b o n e)⟩
theorem Dw.upd {d s c : Int} : Dw a H (L2.upd H a (.lst [.int d, .int s, .int c])) := ⟨⟨d, s, c, upd_same⟩, fun b o n e => by rw [upd_ne n]; exact e⟩
theorem Dw.refl (h : Dr H a) : Dw a H H := ⟨h, fun _ _ _ e => e⟩
/-- a new object -/
theorem Dw.new (h : Dr H a) (hp : H p = none) : Dw a H (L2.upd H p o) := by
  obtain ⟨d, s, c, h⟩ := h
  exact ⟨⟨d, s, c, hp_new hp h⟩, fun b u _ e => hp_new hp e⟩
theorem Dw.ex (h : Dr H a) (e : Evl.Ex H H1) : Dw a H H1 := by
  obtain ⟨d, s, c, h⟩ := h
  exact ⟨⟨d, s, c, e _ _ h⟩, fun b u _ q => e _ _ q⟩
theorem Dr.ne (h : Dr H a) (hp : H p = none) : a ≠ p := by
  obtain ⟨d, s, c, h⟩ := h
  exact ne_of_none h hp
/-- a list that is no drawer stays -/
theorem Dw.sqL {K : PySem.W.Frag} {xs : List V} (x : Dw a H H1) (n : p ≠ a) (h : SqL K H p xs) : SqL K H1 p xs := by
  rcases h with (h | ⟨o, h⟩) | h
  · exact .inl (.inl (x.kp _ _ n h))
  · exact .inl (.inr ⟨o, x.kp _ _ n h⟩)
  · exact .inr h
theorem Dw.sqT {K : PySem.W.Frag} {xs : List V} (x : Dw a H H1) (n : p ≠ a) (h : SqT K H p xs) : SqT K H1 p xs := by
  rcases h with (h | ⟨o, h⟩) | h
  · exact .inl (.inl (x.kp _ _ n h))
  · exact .inl (.inr ⟨o, x.kp _ _ n h⟩)
  · exact .inr h
end
/-! ### the script -/
/-- the law's script: it is known to the world, or stands in the written part; nothing that a law does changes it -/
def Scr (K : PySem.W.Frag) (H : Hp) (a : Addr) (ns : List Int) : Prop := (∃ o, H a = some (.frz o (.lst (ns.map V.int)))) ∨ ∀ H' : Hp, SqL K H' a (ns.map V.int)
section
variable {K : PySem.W.Frag} {H H1 : Hp} {a d p : Addr} {ns : List Int}
theorem Scr.sq (h : Scr K H a ns) : SqL K H a (ns.map V.int) := by
  rcases h with ⟨o, h⟩ | h
  · exact .inl (.inr ⟨o, h⟩)
  · exact h H
theorem Scr.of (hO : Only H) (h : SqL K H a (ns.map V.int)) : Scr K H a ns := by
  rcases h with (h | h) | h
  · rcases hO a with e | ⟨o, xs, e⟩
    · rw [e] at h; cases h
    · rw [e] at h; cases h
  · exact .inl h
  · exact .inr fun _ => .inr h
theorem Scr.dw (h : Scr K H a ns) (hd : Dr H d) (x : Dw d H H1) : Scr K H1 a ns := by
  rcases h with ⟨o, h⟩ | h
  · obtain ⟨d1, s1, c1, hd⟩ := hd
    exact .inl ⟨o, x.kp _ _ (ne_of h hd (by intro z; cases z)) h⟩
  · exact .inr h
theorem Scr.ex (h : Scr K H a ns) (e : Evl.Ex H H1) : Scr K H1 a ns := by
  rcases h with ⟨o, h⟩ | h
  · exact .inl ⟨o, e _ _ h⟩
  · exact .inr h
theorem Scr.new (h : Scr K H a ns) {o : HO} (hp : H p = none) : Scr K (upd H p o) a ns := h.ex (Evl.Ex.new hp)
end
def sp_law (K : PySem.W.Frag) : Sp := sp1 fun x H Q _ => ∃ (a : Addr) (ns : List Int), x = .ref a ∧ Scr K H a ns ∧ ns.length ≤ 63 ∧ ∀ H', Q (.bl true) H'
end KP

namespace KL
open PySem PySem.Spec PyProof.Rows L2 Evl KP
local macro_rules | `(tactic| walk_at "hp") => `(tactic| first
  | assumption
  | exact upd_same
  | ((with_reducible apply hp_new); (next => assumption); walk_at "hp")
  | ((with_reducible apply hp_ne); (next => assumption); walk_at "hp")
  | (apply hp_ex; (next => assumption); walk_at "hp"))
local macro_rules | `(tactic| walk_at "sqL") => `(tactic| first
  | assumption
  | (apply SqL.of; walk_at "hp")
  | ((with_reducible apply Evl.ex_l); (next => assumption); walk_at "sqL")
  | ((with_reducible apply Evl.ex_l); (next => apply Evl.Ex.new; assumption); walk_at "sqL"))
local macro_rules | `(tactic| walk_at "sqT") => `(tactic| first
  | assumption
  | (apply SqT.of; walk_at "hp")
  | ((with_reducible apply Evl.ex_t); (next => assumption); walk_at "sqT")
  | ((with_reducible apply Evl.ex_t); (next => apply Evl.Ex.new; assumption); walk_at "sqT"))
local macro_rules | `(tactic| walk_at "sq") => `(tactic| first
  | assumption
  | (apply Or.inl; walk_at "sqL")
  | (apply Or.inr; walk_at "sqT"))
local macro_rules | `(tactic| walk_at "cm") => `(tactic| first
  | exact .inl (.inl ⟨by omega, by omega⟩)
  | exact .inl (.inr ⟨by omega, by omega⟩))
local macro_rules | `(tactic| walk_at "dv") => `(tactic| first
  | exact ⟨by omega, by decide⟩
  | exact wide_div (b := 64) (by omega) (by omega) (by decide) (by decide))
local macro_rules | `(tactic| walk_at "pw") => `(tactic| exact ⟨by omega, by omega, by omega⟩)
local macro_rules | `(tactic| walk_at "s1") => `(tactic| first
  | with_reducible refine w_seq ?_
  | with_reducible refine w_nx ?_
  | with_reducible refine w_asg ?_
  | with_reducible refine w_op ?_
  | ((with_reducible refine' w_var ?k1 ?_); (case k1 => exact rfl))
  | with_reducible refine w_c ?_
  | ((with_reducible refine w_gname ?_); (try dsimp only [List.set_cons_succ, List.set_cons_zero]))
  | with_reducible refine w_addI ?_
  | with_reducible refine w_I0 ?_
  | with_reducible refine w_ord ?_
  | with_reducible refine w_eqI ?_
  | with_reducible refine w_neI ?_
  | ((with_reducible refine w_mulI ?k1 ?_); (case k1 => walk_at "cm"))
  | ((with_reducible refine w_I ?k1 ?_); (case k1 => walk_at "dv"))
  | ((with_reducible refine w_I ?k1 ?_); (case k1 => omega))
  | ((with_reducible refine w_I ?k1 ?_); (case k1 => walk_at "pw"))
  | with_reducible refine w_U ?_
  | with_reducible refine w_un ?_
  | with_reducible refine w_if ?_
  | with_reducible refine w_ret ?_
  | with_reducible refine w_rt ?_
  | with_reducible refine w_next ?_
  | with_reducible refine w_drop ?_
  | with_reducible refine w_cb ?_
  | with_reducible refine w_cal ?_
  | with_reducible refine w_cons ?_
  | with_reducible refine w_nil ?_
  | with_reducible refine w_test ?_
  | with_reducible refine w_bl ?_
  | with_reducible refine w_truG ?_
  | with_reducible refine w_tru ?_
  | with_reducible refine w_not ?_
  | with_reducible refine w_and ?_
  | with_reducible refine w_or ?_
  | with_reducible refine w_andV ?_
  | with_reducible refine w_orV ?_
  | with_reducible refine w_notV ?_
  | with_reducible refine w_ife ?_
  | with_reducible refine w_chain ?_
  | ((with_reducible refine' w_ix ?k1 ?k2 ?_); (case k1 => walk_at "sq"); (case k2 => exact rfl))
  | with_reducible refine w_int ?_
  | with_reducible refine w_abs ?_
  | with_reducible refine w_min ?_
  | with_reducible refine w_max ?_
  | ((with_reducible refine' w_len ?k1 ?_); (case k1 => walk_at "sq"))
  | with_reducible refine w_tup ?_
  | with_reducible refine w_lst ?_
  | with_reducible refine w_for ?_
  | with_reducible refine w_iG ?_
  | with_reducible refine w_iR1 ?_
  | with_reducible refine w_iR2 ?_
  | with_reducible refine w_lc ?_
  | with_reducible refine w_lstRg ?_
  | with_reducible refine w_tupRg ?_
  | with_reducible refine w_rg1 ?_
  | with_reducible refine w_rg2 ?_
  | with_reducible refine w_int2 ?_
  | with_reducible refine w_bk ?_
  | with_reducible refine w_ct ?_
  | with_reducible refine w_break ?_
  | with_reducible refine w_cont ?_
  | with_reducible refine w_retN ?_
  | with_reducible refine w_gsub ?_
  | ((with_reducible refine' w_setL ?k1 ?k2 ?_); (case k1 => walk_at "hp"); (case k2 => exact rfl); (try dsimp only [List.set_cons_succ, List.set_cons_zero, Int.reduceToNat]))
  | ((with_reducible refine' w_isi (TyX.base (TyOf.int _)) ?k1 ?_); (case k1 => walk_at "kit"))
  | ((with_reducible refine' w_isi (TyX.base (TyOf.bl _)) ?k1 ?_); (case k1 => walk_at "kit"))
  | ((with_reducible refine' w_isi (TyX.base (TyOf.str _)) ?k1 ?_); (case k1 => walk_at "kit"))
  | ((with_reducible refine' w_isi (TyX.base TyOf.non) ?k1 ?_); (case k1 => walk_at "kit"))
  | with_reducible refine w_isN ?_
  | with_reducible refine w_isB ?_
  | with_reducible refine w_isnotN ?_
  | with_reducible refine w_isnotB ?_
  | with_reducible refine w_eqS ?_
  | with_reducible refine w_neS ?_
  | with_reducible refine w_eqB ?_
  | with_reducible refine w_neB ?_
  | with_reducible refine w_sl ?_
  | with_reducible refine w_nopart ?_
  | with_reducible refine w_part ?_
  | with_reducible refine w_pint ?_
  | with_reducible refine w_bm ?_
  | with_reducible refine w_bm0 ?_
  | ((with_reducible refine' w_tyL ?k1 ?_); (case k1 => walk_at "hp"))
  | with_reducible refine w_sp1 ?_
  | with_reducible refine w_sp2 ?_
  | with_reducible refine w_sp3 ?_
  | with_reducible refine w_sp4 ?_
  | with_reducible refine w_sp5 ?_
  | with_reducible refine w_sp6 ?_
  | with_reducible refine w_sp0 ?_
  | ((with_reducible refine' w_aug ?k1 ?_); (case k1 => exact rfl))
  | with_reducible refine w_ipF True.intro ?_
  | ((with_reducible refine w_ipF ?k1 ?_); (case k1 => omega))
  | with_reducible refine kite_tt ?_
  | with_reducible refine kite_ff ?_
  | with_reducible refine kite_nt ?_
  | with_reducible refine kite_nf ?_
  | with_reducible refine w_gcons ?_
  | with_reducible refine w_gnil ?_)
local macro_rules | `(tactic| walk_at "s") => `(tactic| repeat (walk_at "s1"))
local macro_rules | `(tactic| walk_at "if") => `(tactic| first
  | with_reducible refine kite_d ?_ ?_
  | with_reducible refine kite_nd ?_ ?_
  | with_reducible refine kite_b ?_ ?_
  | with_reducible refine kite_nb ?_ ?_)
local macro_rules | `(tactic| walk_at "en") => `(tactic| dsimp only [Cx.nox, Cx.wish, cxOf, List.map_cons, List.map_nil])
local macro_rules | `(tactic| walk_at "sz") => `(tactic| refine ⟨sz_of (Nat.le_of_ble_eq_true rfl), ?_⟩)
local macro_rules | `(tactic| walk_at "kit") => `(tactic| first
  | exact kit_ty (r := true) (by decide +kernel)
  | exact kit_ty (r := false) (by decide +kernel))

def top (i : Nat) : Stmt := PySem.Challenge.pw_keptpictures_k21_folds.main.body.getD i (.Pass ⟨0, 0, 0, 0⟩)
abbrev s_law_drawer : Stmt := (top 4)
abbrev N_law_drawer : List Str := ["script", "k", "cell", "seed"]
theorem sc_law_drawer : FnScope N_law_drawer ["script", "k"] (defScope s_law_drawer) := ⟨rfl, rfl, rfl, by decide +kernel, rfl, by decide +kernel, by decide +kernel⟩
theorem st_law_drawer (v0 v1 : V) : start N_law_drawer [v0, v1] = [some v0, some v1, none, none] := rfl
abbrev s_law_draw : Stmt := (top 5)
abbrev N_law_draw : List Str := ["drawer", "many", "value", "one", "two"]
theorem sc_law_draw : FnScope N_law_draw ["drawer", "many"] (defScope s_law_draw) := ⟨rfl, rfl, rfl, by decide +kernel, rfl, by decide +kernel, by decide +kernel⟩
theorem st_law_draw (v0 v1 : V) : start N_law_draw [v0, v1] = [some v0, some v1, none, none, none] := rfl
abbrev s_law_pick : Stmt := (top 6)
abbrev N_law_pick : List Str := ["drawer", "choices"]
theorem sc_law_pick : FnScope N_law_pick ["drawer", "choices"] (defScope s_law_pick) := ⟨rfl, rfl, rfl, by decide +kernel, rfl, by decide +kernel, by decide +kernel⟩
theorem st_law_pick (v0 v1 : V) : start N_law_pick [v0, v1] = [some v0, some v1] := rfl
abbrev s_law_int : Stmt := (top 8)
abbrev N_law_int : List Str := ["value"]
theorem sc_law_int : FnScope N_law_int ["value"] (defScope s_law_int) := ⟨rfl, rfl, rfl, by decide +kernel, rfl, by decide +kernel, by decide +kernel⟩
theorem st_law_int (v0 : V) : start N_law_int [v0] = [some v0] := rfl
abbrev s_fold : Stmt := (top 1)
abbrev N_fold : List Str := ["residual", "modulus"]
theorem sc_fold : FnScope N_fold ["residual", "modulus"] (defScope s_fold) := ⟨rfl, rfl, rfl, by decide +kernel, rfl, by decide +kernel, by decide +kernel⟩
theorem st_fold (v0 v1 : V) : start N_fold [v0, v1] = [some v0, some v1] := rfl
abbrev s_unfold : Stmt := (top 2)
abbrev N_unfold : List Str := ["number", "modulus"]
theorem sc_unfold : FnScope N_unfold ["number", "modulus"] (defScope s_unfold) := ⟨rfl, rfl, rfl, by decide +kernel, rfl, by decide +kernel, by decide +kernel⟩
theorem st_unfold (v0 v1 : V) : start N_unfold [v0, v1] = [some v0, some v1] := rfl
abbrev s_law_modulus : Stmt := (top 7)
abbrev N_law_modulus : List Str := ["drawer"]
theorem sc_law_modulus : FnScope N_law_modulus ["drawer"] (defScope s_law_modulus) := ⟨rfl, rfl, rfl, by decide +kernel, rfl, by decide +kernel, by decide +kernel⟩
theorem st_law_modulus (v0 : V) : start N_law_modulus [v0] = [some v0] := rfl
abbrev s_law_fold_right : Stmt := (top 10)
abbrev N_law_fold_right : List Str := ["residual", "modulus", "told", "back"]
theorem sc_law_fold_right : FnScope N_law_fold_right ["residual", "modulus"] (defScope s_law_fold_right) := ⟨rfl, rfl, rfl, by decide +kernel, rfl, by decide +kernel, by decide +kernel⟩
theorem st_law_fold_right (v0 v1 : V) : start N_law_fold_right [v0, v1] = [some v0, some v1, none, none] := rfl
abbrev s_law_unfold_right : Stmt := (top 11)
abbrev N_law_unfold_right : List Str := ["number", "modulus", "told", "due", "back"]
theorem sc_law_unfold_right : FnScope N_law_unfold_right ["number", "modulus"] (defScope s_law_unfold_right) := ⟨rfl, rfl, rfl, by decide +kernel, rfl, by decide +kernel, by decide +kernel⟩
theorem st_law_unfold_right (v0 v1 : V) : start N_law_unfold_right [v0, v1] = [some v0, some v1, none, none, none] := rfl
abbrev s_law_both_ends : Stmt := (top 9)
abbrev N_law_both_ends : List Str := ["many", "modulus", "found", "low", "high", "k"]
theorem sc_law_both_ends : FnScope N_law_both_ends ["many", "modulus"] (defScope s_law_both_ends) := ⟨rfl, rfl, rfl, by decide +kernel, rfl, by decide +kernel, by decide +kernel⟩
theorem st_law_both_ends (v0 v1 : V) : start N_law_both_ends [v0, v1] = [some v0, some v1, none, none, none, none] := rfl
abbrev s_law : Stmt := (top 12)
abbrev N_law : List Str := ["script", "drawer", "modulus", "chosen", "one", "two", "residuals", "residual", "other", "many", "k", "due"]
theorem sc_law : FnScope N_law ["script"] (defScope s_law) := ⟨rfl, rfl, rfl, by decide +kernel, rfl, by decide +kernel, by decide +kernel⟩
theorem st_law (v0 : V) : start N_law [v0] = [some v0, none, none, none, none, none, none, none, none, none, none, none] := rfl
def d_law_drawer : He.DefD := ⟨("_law_drawer", none), "_law_drawer", "_law_drawer", defArgs s_law_drawer, defBody s_law_drawer, defScope s_law_drawer, [], []⟩
def d_law_draw : He.DefD := ⟨("_law_draw", none), "_law_draw", "_law_draw", defArgs s_law_draw, defBody s_law_draw, defScope s_law_draw, [], []⟩
def d_law_pick : He.DefD := ⟨("_law_pick", none), "_law_pick", "_law_pick", defArgs s_law_pick, defBody s_law_pick, defScope s_law_pick, [], []⟩
def d_law_int : He.DefD := ⟨("_law_int", none), "_law_int", "_law_int", defArgs s_law_int, defBody s_law_int, defScope s_law_int, [], []⟩
def d_fold : He.DefD := ⟨("fold", none), "fold", "fold", defArgs s_fold, defBody s_fold, defScope s_fold, [], []⟩
def d_unfold : He.DefD := ⟨("unfold", none), "unfold", "unfold", defArgs s_unfold, defBody s_unfold, defScope s_unfold, [], []⟩
def d_law_modulus : He.DefD := ⟨("_law_modulus", none), "_law_modulus", "_law_modulus", defArgs s_law_modulus, defBody s_law_modulus, defScope s_law_modulus, [], []⟩
def d_law_fold_right : He.DefD := ⟨("_law_fold_right", none), "_law_fold_right", "_law_fold_right", defArgs s_law_fold_right, defBody s_law_fold_right, defScope s_law_fold_right, [], []⟩
def d_law_unfold_right : He.DefD := ⟨("_law_unfold_right", none), "_law_unfold_right", "_law_unfold_right", defArgs s_law_unfold_right, defBody s_law_unfold_right, defScope s_law_unfold_right, [], []⟩
def d_law_both_ends : He.DefD := ⟨("_law_both_ends", none), "_law_both_ends", "_law_both_ends", defArgs s_law_both_ends, defBody s_law_both_ends, defScope s_law_both_ends, [], []⟩
def d_law : He.DefD := ⟨("law", none), "law", "law", defArgs s_law, defBody s_law, defScope s_law, [], []⟩
def fn : List He.DefD := [d_law_drawer, d_law_draw, d_law_pick, d_law_int, d_fold, d_unfold, d_law_modulus, d_law_fold_right, d_law_unfold_right, d_law_both_ends, d_law]
def fa : List He.Fa := [.free "len", .free "abs", .free "int", .glo "_law_drawer", .glo "_law_draw", .glo "_law_pick", .free "isinstance", .free "bool", .glo "_law_int", .glo "fold", .glo "unfold", .glo "_law_modulus", .free "min", .glo "_law_fold_right", .glo "_law_unfold_right", .free "range", .glo "_law_both_ends", .free "sorted", .free "list", .glo "law"]
abbrev Hd (K : PySem.W.Frag) (mg : Str → Option Value) : Prop := KP.Hd fa fn K mg
section
variable {P : Program} {w : World} {K : PySem.W.Frag} {mg : Str → Option Value} {base : Heap}

/-! ### the law's draws -/
theorem atI_mem {ns : List Int} {k : Int} (h0 : 0 ≤ k) (h1 : k < ns.length) : ∃ n, atI (ns.map V.int) k = some (.int n) := by
  obtain ⟨j, rfl⟩ := Int.eq_ofNat_of_zero_le h0
  have hj : j < ns.length := by omega
  exact ⟨ns[j], atI_nat (by rw [List.getElem?_map, List.getElem?_eq_getElem hj]; rfl)⟩
theorem at_ex {α : Type} {xs : List α} {k : Int} (h0 : 0 ≤ k) (h1 : k < xs.length) : ∃ (i : Nat) (v : α), k = i ∧ xs[i]? = some v ∧ atI xs k = some v := by
  obtain ⟨j, rfl⟩ := Int.eq_ofNat_of_zero_le h0
  have hj : j < xs.length := by omega
  exact ⟨j, xs[j], rfl, List.getElem?_eq_getElem hj, atI_nat (List.getElem?_eq_getElem hj)⟩
theorem dv_small {i m : Int} (h0 : 0 < m) (h1 : m < 2 ^ 64) : CDivW i m := wide_div (b := 64) h0 (by omega) (by decide) (by decide)
def sp_law_drawer (K : PySem.W.Frag) : Sp := sp2 fun x y H Q _ => ∃ (a : Addr) (ns : List Int) (k : Int), x = .ref a ∧ y = .int k ∧ Scr K H a ns ∧ 0 ≤ k ∧
  ∀ p H', H p = none → Evl.Ex H H' → Dr H' p → Q (.ref p) H'
theorem ap_drawer {K : PySem.W.Frag} {H : Hp} {Q : VK} {E : XK} {a : Addr} {ns : List Int} {k : Int} (h1 : Scr K H a ns) (h2 : 0 ≤ k) (q : ∀ p H', H p = none → Evl.Ex H H' → Dr H' p → Q (.ref p) H') :
    sp_law_drawer K [.ref a, .int k] H Q E := ⟨_, _, rfl, a, ns, k, rfl, rfl, h1, h2, q⟩
theorem ok_law_drawer (hd : Hd K mg) {fd : FuncData} (F : FunD K d_law_drawer.name d_law_drawer.qual d_law_drawer.params d_law_drawer.body d_law_drawer.scope (d_law_drawer.dvs K) (d_law_drawer.kws K) (He.fAd K d_law_drawer.at_) fd) : FnOk P w K mg base CX0 1 (He.fAd K d_law_drawer.at_) fd ["script", "k"] (sp_law_drawer K) := by
  refine FunD.ok F sc_law_drawer (fun vs H Q E h => ?_) (fun cdv A outer s H vs Q E hr h => ?_)
  · obtain ⟨v0, v1, rfl, _⟩ := h
    rfl
  obtain ⟨v0, v1, rfl, h⟩ := h
  rw [show start N_law_drawer [v0, v1] = _ from st_law_drawer v0 v1]
  refine ⟨_, PSs.nox ((pss_cons (ps_set (i := 2) sc_law_drawer.nd rfl (Or.inl rfl) pe_int)
      (pss_cons (ps_if (pt_cmpR op_ltG (pv 1) (pe_callB g_len (by rfl) (hd.free 0) (by decide +kernel) (pa_cons (pv 0) pa_nil)) (nomark _)) (pss_one (ps_set (i := 2) sc_law_drawer.nd rfl (Or.inl rfl) (pe_callB g_abs (by rfl) (hd.free 1) (by decide +kernel) (pa_cons (pe_ix ix_G (pv 0) (pv 1) (fun _ _ => rfl)) pa_nil)))) pss_nil)
      (pss_cons (ps_set (i := 3) sc_law_drawer.nd rfl (Or.inl rfl) (pe_op op_mod (pe_callTy g_int (by rfl) (hd.free 2) (by decide +kernel) (pa_cons (pe_op op_addG (pe_op op_addG (pv 2) (pe_op op_mulG pe_int (pv 1))) pe_int) pa_nil)) pe_int))
      (pss_cons (ps_if (pt_cmpR op_geG (pv 2) (pe_op op_pow pe_int pe_int) (nomark _)) (pss_one (ps_ret (pe_lst (pa_cons (pe_op op_sub (pv 2) (pe_op op_pow pe_int pe_int)) (pa_cons (pv 3) (pa_cons pe_int pa_nil)))))) pss_nil)
      (pss_one (ps_ret (pe_lst (pa_cons pe_int (pa_cons (pv 3) (pa_cons pe_int pa_nil))))))))))), ?_⟩
  obtain ⟨a, ns, k, rfl, rfl, hS0, h0, q0⟩ := h
  have hS := hS0.sq
  have q : ∀ p d s c, H p = none → Q (.ref p) (upd H p (.lst [.int d, .int s, .int c])) := fun p d s c hp => q0 p _ hp (Evl.Ex.new hp) ⟨d, s, c, upd_same⟩
  walk_at "en"
  walk_at "s"
  walk_at "if"
  · intro h1
    rw [List.length_map] at h1
    obtain ⟨n, hn⟩ := atI_mem h0 h1
    walk_at "s"
    refine w_ix (by walk_at "sq") hn ?_
    walk_at "s"
    walk_at "if"
    · intro h2
      walk_at "s"
      walk_at "sz"
      exact fun p hp => q _ _ _ _ hp
    · intro h2
      walk_at "s"
      walk_at "sz"
      exact fun p hp => q _ _ _ _ hp
  · intro h1
    walk_at "s"
    walk_at "if"
    · intro h2
      walk_at "s"
      walk_at "sz"
      exact fun p hp => q _ _ _ _ hp
    · intro h2
      walk_at "s"
      walk_at "sz"
      exact fun p hp => q _ _ _ _ hp
theorem cal_law_drawer (hd : Hd K mg) : Cal P w K mg base CX0 1 "_law_drawer" ["script", "k"] (sp_law_drawer K) := by
  obtain ⟨fd, F⟩ := hd.def_ 0
  exact .mk' (hd.glo 3) F.kp (FunD.bindsN F fun _ _ _ _ _ _ us hl => match us, hl with | [_, _], _ => rfl) (ok_law_drawer hd F)
/-- a drawer stands at a -/
def sp_law_draw (K : PySem.W.Frag) : Sp := sp2 fun x y H Q _ => ∃ (a : Addr) (m : Int), x = .ref a ∧ y = .int m ∧ Dr H a ∧ CDivW 0 m ∧ ∀ v H', 0 ≤ v → v < m → Dw a H H' → Q (.int v) H'
theorem ap_draw {K : PySem.W.Frag} {H : Hp} {Q : VK} {E : XK} {a : Addr} {m : Int} (h1 : Dr H a) (h2 : CDivW 0 m) (q : ∀ v H', 0 ≤ v → v < m → Dw a H H' → Q (.int v) H') : sp_law_draw K [.ref a, .int m] H Q E := ⟨_, _, rfl, a, m, rfl, rfl, h1, h2, q⟩
theorem ok_law_draw (hd : Hd K mg) {fd : FuncData} (F : FunD K d_law_draw.name d_law_draw.qual d_law_draw.params d_law_draw.body d_law_draw.scope (d_law_draw.dvs K) (d_law_draw.kws K) (He.fAd K d_law_draw.at_) fd) : FnOk P w K mg base CX0 1 (He.fAd K d_law_draw.at_) fd ["drawer", "many"] (sp_law_draw K) := by
  refine FunD.ok F sc_law_draw (fun vs H Q E h => ?_) (fun cdv A outer s H vs Q E hr h => ?_)
  · obtain ⟨v0, v1, rfl, _⟩ := h
    rfl
  obtain ⟨v0, v1, rfl, h⟩ := h
  rw [show start N_law_draw [v0, v1] = _ from st_law_draw v0 v1]
  refine ⟨_, PSs.nox ((pss_cons (ps_if (pt_cmpR op_gtG (pe_ix ix_G (pv 0) pe_int (fun _ _ => rfl)) pe_int (nomark _)) (pss_cons (ps_set (i := 2) sc_law_draw.nd rfl (Or.inl rfl) (pe_op op_mod (pe_callTy g_int (by rfl) (hd.free 2) (by decide +kernel) (pa_cons (pe_ix ix_G (pv 0) pe_int (fun _ _ => rfl)) pa_nil)) (pv 1)))
      (pss_cons (ps_asg (pe_op op_fdivW (pe_ix ix_G (pv 0) pe_int (fun _ _ => rfl)) (pv 1)) (pg_sub (pv 0) pe_int set_list))
      (pss_one (ps_ret (pv 2))))) pss_nil)
      (pss_cons (ps_asg (pe_op op_addG (pe_ix ix_G (pv 0) pe_int (fun _ _ => rfl)) pe_int) (pg_sub (pv 0) pe_int set_list))
      (pss_cons (ps_set (i := 3) sc_law_draw.nd rfl (Or.inl rfl) (pe_op op_mod (pe_callTy g_int (by rfl) (hd.free 2) (by decide +kernel) (pa_cons (pe_op op_addG (pe_op op_addG (pe_op op_mulG (pe_ix ix_G (pv 0) pe_int (fun _ _ => rfl)) pe_int) (pe_op op_mulG (pe_ix ix_G (pv 0) pe_int (fun _ _ => rfl)) pe_int)) pe_int) pa_nil)) pe_int))
      (pss_cons (ps_set (i := 4) sc_law_draw.nd rfl (Or.inl rfl) (pe_op op_mod (pe_callTy g_int (by rfl) (hd.free 2) (by decide +kernel) (pa_cons (pe_op op_addG (pe_op op_mulG (pv 3) (pe_op op_addG (pe_op op_fdivW (pv 3) pe_int) pe_int)) (pe_op op_mulG (pe_ix ix_G (pv 0) pe_int (fun _ _ => rfl)) pe_int)) pa_nil)) pe_int))
      (pss_one (ps_ret (pe_op op_mod (pe_callTy g_int (by rfl) (hd.free 2) (by decide +kernel) (pa_cons (pe_op op_fdivW (pv 4) pe_int) pa_nil)) (pv 1))))))))), ?_⟩
  obtain ⟨a, m, rfl, rfl, ⟨d, e, c, hD⟩, hm, q0⟩ := h
  have q : ∀ v d s c, 0 ≤ v → v < m → Q (.int v) (upd H a (.lst [.int d, .int s, .int c])) := fun v d s c h0 h1 => q0 v _ h0 h1 Dw.upd
  have hm0 : 0 < m := hm.1
  have hm1 : ∀ i, CDivW i m := fun _ => hm
  have hS : SqL K H a [.int d, .int e, .int c] := SqL.of hD
  walk_at "en"
  walk_at "s"
  walk_at "if"
  · intro h1
    walk_at "s"
    refine w_I (hm1 _) ?_
    walk_at "s"
    exact q _ _ _ _ (Int.emod_nonneg _ (by omega)) (Int.emod_lt_of_pos _ hm0)
  · intro h1
    walk_at "s"
    have b1 : 0 ≤ (e * 48271 + (c + 1) * 69621 + 12345) % 2147483647 := Int.emod_nonneg _ (by decide)
    have b2 : (e * 48271 + (c + 1) * 69621 + 12345) % 2147483647 < 2147483647 := Int.emod_lt_of_pos _ (by decide)
    generalize (e * 48271 + (c + 1) * 69621 + 12345) % 2147483647 = z at b1 b2 ⊢
    walk_at "s"
    exact q _ _ _ _ (Int.emod_nonneg _ (by omega)) (Int.emod_lt_of_pos _ hm0)
theorem cal_law_draw (hd : Hd K mg) : Cal P w K mg base CX0 1 "_law_draw" ["drawer", "many"] (sp_law_draw K) := by
  obtain ⟨fd, F⟩ := hd.def_ 1
  exact .mk' (hd.glo 4) F.kp (FunD.bindsN F fun _ _ _ _ _ _ us hl => match us, hl with | [_, _], _ => rfl) (ok_law_draw hd F)
/-- choices: a list, a tuple (it stands behind the draw, too) -/
def sp_law_pick (K : PySem.W.Frag) : Sp := sp2 fun x y H Q _ => ∃ (a : Addr), x = .ref a ∧ Dr H a ∧
  ((∃ (p : Addr) (xs : List V), y = .ref p ∧ 0 < xs.length ∧ xs.length < 2 ^ 60 ∧ (∀ H', Dw a H H' → Sq K H' p xs) ∧ ∀ v H', v ∈ xs → Dw a H H' → Q v H') ∨
  ∃ z : Str, y = .str z ∧ 0 < z.length ∧ z.length ≤ sizeLine ∧ ∀ (g : Nat) H', g ∈ z.cps.toList → Dw a H H' → Q (.str ⟨#[g]⟩) H')
theorem ap_pick {K : PySem.W.Frag} {H : Hp} {Q : VK} {E : XK} {a p : Addr} {xs : List V} (h1 : Dr H a) (h3 : 0 < xs.length) (h4 : xs.length < 2 ^ 60)
    (h5 : ∀ H', Dw a H H' → Sq K H' p xs) (q : ∀ v H', v ∈ xs → Dw a H H' → Q v H') : sp_law_pick K [.ref a, .ref p] H Q E := ⟨_, _, rfl, a, rfl, h1, .inl ⟨p, xs, rfl, h3, h4, h5, q⟩⟩
theorem ap_pickL {K : PySem.W.Frag} {H : Hp} {Q : VK} {E : XK} {a p : Addr} {xs : List V} (h1 : Dr H a) (h2 : p ≠ a) (h3 : H p = some (.lst xs)) (h4 : 0 < xs.length) (h5 : xs.length < 2 ^ 60)
    (q : ∀ v H', v ∈ xs → Dw a H H' → Q v H') : sp_law_pick K [.ref a, .ref p] H Q E := ap_pick h1 h4 h5 (fun H' x => .inl (SqL.of (x.kp _ _ h2 h3))) q
theorem ap_pickS {K : PySem.W.Frag} {H : Hp} {Q : VK} {E : XK} {a : Addr} {z : Str} (h1 : Dr H a) (h3 : 0 < z.length) (h4 : z.length ≤ sizeLine)
    (q : ∀ (g : Nat) H', g ∈ z.cps.toList → Dw a H H' → Q (.str ⟨#[g]⟩) H') : sp_law_pick K [.ref a, .str z] H Q E := ⟨_, _, rfl, a, rfl, h1, .inr ⟨z, rfl, h3, h4, q⟩⟩
theorem ok_law_pick (hd : Hd K mg) {fd : FuncData} (F : FunD K d_law_pick.name d_law_pick.qual d_law_pick.params d_law_pick.body d_law_pick.scope (d_law_pick.dvs K) (d_law_pick.kws K) (He.fAd K d_law_pick.at_) fd) : FnOk P w K mg base CX0 2 (He.fAd K d_law_pick.at_) fd ["drawer", "choices"] (sp_law_pick K) := by
  refine FunD.ok F sc_law_pick (fun vs H Q E h => ?_) (fun cdv A outer s H vs Q E hr h => ?_)
  · obtain ⟨v0, v1, rfl, _⟩ := h
    rfl
  obtain ⟨v0, v1, rfl, h⟩ := h
  rw [show start N_law_pick [v0, v1] = _ from st_law_pick v0 v1]
  refine ⟨_, PSs.nox ((pss_one (ps_ret (pe_ix ix_G (pv 1) (pe_cal (sp := sp_law_draw K) (cal_law_draw hd) (hr.mono (by decide)) rfl pass0 (pa_cons (pv 0) (pa_cons (pe_callB g_len (by rfl) (hd.free 0) (by decide +kernel) (pa_cons (pv 1) pa_nil)) pa_nil))) (fun _ _ => rfl))))), ?_⟩
  obtain ⟨a, rfl, hD, h⟩ := h
  rcases h with ⟨p, xs, rfl, hl, hl2, hS2, q⟩ | ⟨z, rfl, hl, hl2, q⟩
  · have hS := hS2 H (Dw.refl hD)
    walk_at "en"
    walk_at "s"
    refine ap_draw hD (dv_small (by omega) (by omega)) fun v H' h0 h1 hd => ?_
    walk_at "s"
    obtain ⟨i, w, e1, e2, e3⟩ := at_ex h0 h1
    exact w_ix (hS2 _ hd) e3 (q w _ (List.mem_of_getElem? e2) hd)
  · walk_at "en"
    walk_at "s"
    refine w_lenS hl2 ?_
    walk_at "s"
    refine ap_draw hD (dv_small (by omega) (by have := sizeLine_eq; omega)) fun v H' h0 h1 hd => ?_
    walk_at "s"
    obtain ⟨i, w, e1, e2, e3⟩ := at_ex (xs := z.cps.toList) h0 (by rw [Array.length_toList]; exact h1)
    exact w_ixS hl2 e3 (q w _ (List.mem_of_getElem? e2) hd)
theorem cal_law_pick (hd : Hd K mg) : Cal P w K mg base CX0 2 "_law_pick" ["drawer", "choices"] (sp_law_pick K) := by
  obtain ⟨fd, F⟩ := hd.def_ 2
  exact .mk' (hd.glo 5) F.kp (FunD.bindsN F fun _ _ _ _ _ _ us hl => match us, hl with | [_, _], _ => rfl) (ok_law_pick hd F)
def sp_law_int (K : PySem.W.Frag) : Sp := sp1 fun x H Q _ => ∃ i, x = .int i ∧ Q (.bl true) H
theorem ap_int {K : PySem.W.Frag} {H : Hp} {Q : VK} {E : XK} {i : Int} (q : Q (.bl true) H) : sp_law_int K [.int i] H Q E := ⟨_, rfl, i, rfl, q⟩
theorem ok_law_int (hd : Hd K mg) {fd : FuncData} (F : FunD K d_law_int.name d_law_int.qual d_law_int.params d_law_int.body d_law_int.scope (d_law_int.dvs K) (d_law_int.kws K) (He.fAd K d_law_int.at_) fd) : FnOk P w K mg base CX0 1 (He.fAd K d_law_int.at_) fd ["value"] (sp_law_int K) := by
  refine FunD.ok F sc_law_int (fun vs H Q E h => ?_) (fun cdv A outer s H vs Q E hr h => ?_)
  · obtain ⟨v0, rfl, _⟩ := h
    rfl
  obtain ⟨v0, rfl, h⟩ := h
  rw [show start N_law_int [v0] = _ from st_law_int v0]
  refine ⟨_, PSs.nox ((pss_one (ps_ret (pe_and (pe_callB call_isiG (by rfl) (hd.free 6) (by decide +kernel) (pa_cons (pv 0) (pa_cons (pe_bltn (v := .ty "int") (by rfl) (hd.free 2) (by decide +kernel) rfl) pa_nil))) (pe_one (pe_not (pe_callB call_isiG (by rfl) (hd.free 6) (by decide +kernel) (pa_cons (pv 0) (pa_cons (pe_bltn (v := .ty "bool") (by rfl) (hd.free 7) (by decide +kernel) rfl) pa_nil))))))))), ?_⟩
  obtain ⟨i, rfl, q⟩ := h
  walk_at "en"
  walk_at "s"
  exact q
theorem cal_law_int (hd : Hd K mg) : Cal P w K mg base CX0 1 "_law_int" ["value"] (sp_law_int K) := by
  obtain ⟨fd, F⟩ := hd.def_ 3
  exact .mk' (hd.glo 8) F.kp (FunD.bindsN F fun _ _ _ _ _ _ us hl => match us, hl with | [_], _ => rfl) (ok_law_int hd F)
/-! ### the program -/
def foldI (r m : Int) : Int := if 2 * r < m then 2 * r else 2 * (m - r) - 1
def unfoldI (n m : Int) : Int := if n % 2 = 0 then n / 2 else m - (n + 1) / 2
theorem fold_lo {r m : Int} (h0 : 0 ≤ r) (h1 : r < m) : 0 ≤ foldI r m := by unfold foldI; split <;> omega
theorem fold_hi {r m : Int} (h0 : 0 ≤ r) (h1 : r < m) : foldI r m < m := by unfold foldI; split <;> omega
theorem unfold_lo {r m : Int} (h0 : 0 ≤ r) (h1 : r < m) : 0 ≤ unfoldI r m := by unfold unfoldI; split <;> omega
theorem unfold_hi {r m : Int} (h0 : 0 ≤ r) (h1 : r < m) : unfoldI r m < m := by unfold unfoldI; split <;> omega
theorem unfold_fold {r m : Int} (h0 : 0 ≤ r) (h1 : r < m) : unfoldI (foldI r m) m = r := by
  unfold unfoldI foldI
  split <;> split <;> omega
theorem fold_unfold {r m : Int} (h0 : 0 ≤ r) (h1 : r < m) : foldI (unfoldI r m) m = r := by
  unfold unfoldI foldI
  split <;> split <;> omega
theorem fold_min {r m : Int} (h0 : 0 ≤ r) (h1 : r < m) : foldI r m = if 2 * (m - r) - 1 < 2 * r then 2 * (m - r) - 1 else 2 * r := by
  unfold foldI
  split <;> split <;> omega
def sp_fold (K : PySem.W.Frag) : Sp := sp2 fun x y H Q _ => ∃ r m : Int, x = .int r ∧ y = .int m ∧ Q (.int (foldI r m)) H
theorem ap_fold {K : PySem.W.Frag} {H : Hp} {Q : VK} {E : XK} {r m : Int} (q : Q (.int (foldI r m)) H) : sp_fold K [.int r, .int m] H Q E := ⟨_, _, rfl, r, m, rfl, rfl, q⟩
theorem ok_fold (hd : Hd K mg) {fd : FuncData} (F : FunD K d_fold.name d_fold.qual d_fold.params d_fold.body d_fold.scope (d_fold.dvs K) (d_fold.kws K) (He.fAd K d_fold.at_) fd) : FnOk P w K mg base CX0 1 (He.fAd K d_fold.at_) fd ["residual", "modulus"] (sp_fold K) := by
  refine FunD.ok F sc_fold (fun vs H Q E h => ?_) (fun cdv A outer s H vs Q E hr h => ?_)
  · obtain ⟨v0, v1, rfl, _⟩ := h
    rfl
  obtain ⟨v0, v1, rfl, h⟩ := h
  rw [show start N_fold [v0, v1] = _ from st_fold v0 v1]
  refine ⟨_, PSs.nox ((pss_cons (ps_if (pt_cmpR op_ltG (pe_op op_mulG pe_int (pv 0)) (pv 1) (nomark _)) (pss_one (ps_ret (pe_op op_mulG pe_int (pv 0)))) pss_nil)
      (pss_one (ps_ret (pe_op op_sub (pe_op op_mulG pe_int (pe_op op_sub (pv 1) (pv 0))) pe_int))))), ?_⟩
  obtain ⟨r, m, rfl, rfl, q⟩ := h
  walk_at "en"
  walk_at "s"
  walk_at "if"
  · intro h1
    walk_at "s"
    unfold foldI at q
    rw [if_pos h1] at q
    exact q
  · intro h1
    walk_at "s"
    unfold foldI at q
    rw [if_neg h1] at q
    exact q
theorem cal_fold (hd : Hd K mg) : Cal P w K mg base CX0 1 "fold" ["residual", "modulus"] (sp_fold K) := by
  obtain ⟨fd, F⟩ := hd.def_ 4
  exact .mk' (hd.glo 9) F.kp (FunD.bindsN F fun _ _ _ _ _ _ us hl => match us, hl with | [_, _], _ => rfl) (ok_fold hd F)
def sp_unfold (K : PySem.W.Frag) : Sp := sp2 fun x y H Q _ => ∃ r m : Int, x = .int r ∧ y = .int m ∧ Q (.int (unfoldI r m)) H
theorem ap_unfold {K : PySem.W.Frag} {H : Hp} {Q : VK} {E : XK} {r m : Int} (q : Q (.int (unfoldI r m)) H) : sp_unfold K [.int r, .int m] H Q E := ⟨_, _, rfl, r, m, rfl, rfl, q⟩
theorem ok_unfold (hd : Hd K mg) {fd : FuncData} (F : FunD K d_unfold.name d_unfold.qual d_unfold.params d_unfold.body d_unfold.scope (d_unfold.dvs K) (d_unfold.kws K) (He.fAd K d_unfold.at_) fd) : FnOk P w K mg base CX0 1 (He.fAd K d_unfold.at_) fd ["number", "modulus"] (sp_unfold K) := by
  refine FunD.ok F sc_unfold (fun vs H Q E h => ?_) (fun cdv A outer s H vs Q E hr h => ?_)
  · obtain ⟨v0, v1, rfl, _⟩ := h
    rfl
  obtain ⟨v0, v1, rfl, h⟩ := h
  rw [show start N_unfold [v0, v1] = _ from st_unfold v0 v1]
  refine ⟨_, PSs.nox ((pss_cons (ps_if (pt_cmpR (op_eqG (hu64 hr)) (pe_op op_mod (pv 0) pe_int) pe_int (nomark _)) (pss_one (ps_ret (pe_op op_fdivW (pv 0) pe_int))) pss_nil)
      (pss_one (ps_ret (pe_op op_sub (pv 1) (pe_op op_fdivW (pe_op op_addG (pv 0) pe_int) pe_int)))))), ?_⟩
  obtain ⟨r, m, rfl, rfl, q⟩ := h
  walk_at "en"
  walk_at "s"
  walk_at "if"
  · intro h1
    walk_at "s"
    unfold unfoldI at q
    rw [if_pos h1] at q
    exact q
  · intro h1
    walk_at "s"
    unfold unfoldI at q
    rw [if_neg h1] at q
    exact q
theorem cal_unfold (hd : Hd K mg) : Cal P w K mg base CX0 1 "unfold" ["number", "modulus"] (sp_unfold K) := by
  obtain ⟨fd, F⟩ := hd.def_ 5
  exact .mk' (hd.glo 10) F.kp (FunD.bindsN F fun _ _ _ _ _ _ us hl => match us, hl with | [_, _], _ => rfl) (ok_unfold hd F)
local macro_rules | `(tactic| walk_at "s1") => `(tactic| first
  | with_reducible refine ap_fold ?_
  | with_reducible refine ap_unfold ?_
  | with_reducible refine ap_int ?_)
def sp_law_modulus (K : PySem.W.Frag) : Sp := sp1 fun x H Q _ => ∃ a, x = .ref a ∧ Dr H a ∧ ∀ m H', 1 ≤ m → m ≤ 65536 → Dw a H H' → Q (.int m) H'
theorem ap_modulus {K : PySem.W.Frag} {H : Hp} {Q : VK} {E : XK} {a : Addr} (h : Dr H a) (q : ∀ m H', 1 ≤ m → m ≤ 65536 → Dw a H H' → Q (.int m) H') : sp_law_modulus K [.ref a] H Q E := ⟨_, rfl, a, rfl, h, q⟩
theorem ok_law_modulus (hd : Hd K mg) {fd : FuncData} (F : FunD K d_law_modulus.name d_law_modulus.qual d_law_modulus.params d_law_modulus.body d_law_modulus.scope (d_law_modulus.dvs K) (d_law_modulus.kws K) (He.fAd K d_law_modulus.at_) fd) : FnOk P w K mg base CX0 3 (He.fAd K d_law_modulus.at_) fd ["drawer"] (sp_law_modulus K) := by
  refine FunD.ok F sc_law_modulus (fun vs H Q E h => ?_) (fun cdv A outer s H vs Q E hr h => ?_)
  · obtain ⟨v0, rfl, _⟩ := h
    rfl
  obtain ⟨v0, rfl, h⟩ := h
  rw [show start N_law_modulus [v0] = _ from st_law_modulus v0]
  refine ⟨_, PSs.nox ((pss_cons (ps_if (pt_cmpR (op_eqG (hu64 hr)) (pe_cal (sp := sp_law_draw K) (cal_law_draw hd) (hr.mono (by decide)) rfl pass0 (pa_cons (pv 0) (pa_cons pe_int pa_nil))) pe_int (nomark _)) (pss_one (ps_ret (pe_op op_addG pe_int (pe_cal (sp := sp_law_draw K) (cal_law_draw hd) (hr.mono (by decide)) rfl pass0 (pa_cons (pv 0) (pa_cons pe_int pa_nil)))))) pss_nil)
      (pss_one (ps_ret (pe_cal (sp := sp_law_pick K) (cal_law_pick hd) (hr.mono (by decide)) rfl pass0 (pa_cons (pv 0) (pa_cons (pe_lst (pa_cons pe_int (pa_cons pe_int (pa_cons pe_int (pa_cons pe_int (pa_cons pe_int (pa_cons pe_int (pa_cons pe_int (pa_cons pe_int (pa_cons pe_int (pa_cons pe_int (pa_cons pe_int (pa_cons pe_int (pa_cons pe_int (pa_cons pe_int (pa_cons pe_int pa_nil)))))))))))))))) pa_nil))))))), ?_⟩
  obtain ⟨a, rfl, hD, q⟩ := h
  walk_at "en"
  walk_at "s"
  refine ap_draw hD (dv_small (by omega) (by omega)) fun v H1 h0 h1 hd1 => ?_
  walk_at "s"
  walk_at "if"
  · intro h2
    walk_at "s"
    refine ap_draw hd1.dr (dv_small (by omega) (by omega)) fun v H2 h0 h1 hd2 => ?_
    walk_at "s"
    exact q _ _ (by omega) (by omega) (hd1.trans hd2)
  · intro h2
    walk_at "s"
    walk_at "sz"
    intro p hp
    walk_at "s"
    have hn := Dw.new (o := .lst [.int 1, .int 2, .int 2, .int 3, .int 4, .int 4, .int 5, .int 6, .int 8, .int 9, .int 12, .int 16, .int 256, .int 65535, .int 65536]) hd1.dr hp
    refine ap_pickL hn.dr (hd1.dr.ne hp).symm upd_same (by decide) (by decide) fun v H2 hv hd2 => ?_
    have hm : ∃ m, v = .int m ∧ 1 ≤ m ∧ m ≤ 65536 := by
      simp only [List.mem_cons, List.not_mem_nil, or_false] at hv
      rcases hv with h | h | h | h | h | h | h | h | h | h | h | h | h | h | h <;> exact ⟨_, h, by decide, by decide⟩
    obtain ⟨m, rfl, b1, b2⟩ := hm
    walk_at "s"
    exact q _ _ b1 b2 (hd1.trans (hn.trans hd2))
theorem cal_law_modulus (hd : Hd K mg) : Cal P w K mg base CX0 3 "_law_modulus" ["drawer"] (sp_law_modulus K) := by
  obtain ⟨fd, F⟩ := hd.def_ 6
  exact .mk' (hd.glo 11) F.kp (FunD.bindsN F fun _ _ _ _ _ _ us hl => match us, hl with | [_], _ => rfl) (ok_law_modulus hd F)
def sp_law_fold_right (K : PySem.W.Frag) : Sp := sp2 fun x y H Q _ => ∃ r m : Int, x = .int r ∧ y = .int m ∧ 0 ≤ r ∧ r < m ∧ Q (.bl true) H
theorem ap_fold_right {K : PySem.W.Frag} {H : Hp} {Q : VK} {E : XK} {r m : Int} (h0 : 0 ≤ r) (h1 : r < m) (q : Q (.bl true) H) : sp_law_fold_right K [.int r, .int m] H Q E := ⟨_, _, rfl, r, m, rfl, rfl, h0, h1, q⟩
theorem ok_law_fold_right (hd : Hd K mg) {fd : FuncData} (F : FunD K d_law_fold_right.name d_law_fold_right.qual d_law_fold_right.params d_law_fold_right.body d_law_fold_right.scope (d_law_fold_right.dvs K) (d_law_fold_right.kws K) (He.fAd K d_law_fold_right.at_) fd) : FnOk P w K mg base CX0 2 (He.fAd K d_law_fold_right.at_) fd ["residual", "modulus"] (sp_law_fold_right K) := by
  refine FunD.ok F sc_law_fold_right (fun vs H Q E h => ?_) (fun cdv A outer s H vs Q E hr h => ?_)
  · obtain ⟨v0, v1, rfl, _⟩ := h
    rfl
  obtain ⟨v0, v1, rfl, h⟩ := h
  rw [show start N_law_fold_right [v0, v1] = _ from st_law_fold_right v0 v1]
  refine ⟨_, PSs.nox ((pss_cons (ps_set (i := 2) sc_law_fold_right.nd rfl (Or.inl rfl) (pe_cal (sp := sp_fold K) (cal_fold hd) (hr.mono (by decide)) rfl pass0 (pa_cons (pv 0) (pa_cons (pv 1) pa_nil))))
      (pss_cons (ps_if (PW.pt (pw_or (pt_not (pt_truG (pe_cal (sp := sp_law_int K) (cal_law_int hd) (hr.mono (by decide)) rfl pass0 (pa_cons (pv 2) pa_nil)) (by intro _; rfl))) (pw_or (pt_cmpR (op_neG (hu64 hr)) (pv 2) (pe_callB (g_min rfl) (by rfl) (hd.free 12) (by decide +kernel) (pa_cons (pe_op op_mulG pe_int (pv 0)) (pa_cons (pe_op op_sub (pe_op op_mulG pe_int (pe_op op_sub (pv 1) (pv 0))) pe_int) pa_nil))) (nomark _)) (pw_or1 (pt_not (pt_chain op_leG op_ltG pe_int (pv 2) (pv 1))))))) (pss_one (ps_ret pe_bl)) pss_nil)
      (pss_cons (ps_set (i := 3) sc_law_fold_right.nd rfl (Or.inl rfl) (pe_cal (sp := sp_unfold K) (cal_unfold hd) (hr.mono (by decide)) rfl pass0 (pa_cons (pv 2) (pa_cons (pv 1) pa_nil))))
      (pss_one (ps_ret (pe_and (pe_cal (sp := sp_law_int K) (cal_law_int hd) (hr.mono (by decide)) rfl pass0 (pa_cons (pv 3) pa_nil)) (pe_one (pe_cmpR (op_eqG (hu64 hr)) (pv 3) (pv 0) (nomark _)))))))))), ?_⟩
  obtain ⟨r, m, rfl, rfl, h0, h1, q⟩ := h
  have a1 := fold_lo h0 h1
  have a2 := fold_hi h0 h1
  have a3 := unfold_fold h0 h1
  have a4 := fold_min h0 h1
  walk_at "en"
  walk_at "s"
  rw [← a4]
  refine kite_nd (fun z => (z rfl).elim) fun _ => ?_
  walk_at "s"
  refine kite_d (fun _ => ?_) fun z => (z a1).elim
  walk_at "s"
  refine kite_nd (fun z => (z a2).elim) fun _ => ?_
  walk_at "s"
  rw [a3]
  walk_at "s"
  rw [decide_eq_true rfl]
  exact q
theorem cal_law_fold_right (hd : Hd K mg) : Cal P w K mg base CX0 2 "_law_fold_right" ["residual", "modulus"] (sp_law_fold_right K) := by
  obtain ⟨fd, F⟩ := hd.def_ 7
  exact .mk' (hd.glo 13) F.kp (FunD.bindsN F fun _ _ _ _ _ _ us hl => match us, hl with | [_, _], _ => rfl) (ok_law_fold_right hd F)
def sp_law_unfold_right (K : PySem.W.Frag) : Sp := sp2 fun x y H Q _ => ∃ r m : Int, x = .int r ∧ y = .int m ∧ 0 ≤ r ∧ r < m ∧ Q (.bl true) H
theorem ap_unfold_right {K : PySem.W.Frag} {H : Hp} {Q : VK} {E : XK} {r m : Int} (h0 : 0 ≤ r) (h1 : r < m) (q : Q (.bl true) H) : sp_law_unfold_right K [.int r, .int m] H Q E := ⟨_, _, rfl, r, m, rfl, rfl, h0, h1, q⟩
theorem ok_law_unfold_right (hd : Hd K mg) {fd : FuncData} (F : FunD K d_law_unfold_right.name d_law_unfold_right.qual d_law_unfold_right.params d_law_unfold_right.body d_law_unfold_right.scope (d_law_unfold_right.dvs K) (d_law_unfold_right.kws K) (He.fAd K d_law_unfold_right.at_) fd) : FnOk P w K mg base CX0 2 (He.fAd K d_law_unfold_right.at_) fd ["number", "modulus"] (sp_law_unfold_right K) := by
  refine FunD.ok F sc_law_unfold_right (fun vs H Q E h => ?_) (fun cdv A outer s H vs Q E hr h => ?_)
  · obtain ⟨v0, v1, rfl, _⟩ := h
    rfl
  obtain ⟨v0, v1, rfl, h⟩ := h
  rw [show start N_law_unfold_right [v0, v1] = _ from st_law_unfold_right v0 v1]
  refine ⟨_, PSs.nox ((pss_cons (ps_set (i := 2) sc_law_unfold_right.nd rfl (Or.inl rfl) (pe_cal (sp := sp_unfold K) (cal_unfold hd) (hr.mono (by decide)) rfl pass0 (pa_cons (pv 0) (pa_cons (pv 1) pa_nil))))
      (pss_cons (ps_set (i := 3) sc_law_unfold_right.nd rfl (Or.inl rfl) (pe_op op_fdivW (pv 0) pe_int))
      (pss_cons (ps_if (pt_cmpR (op_eqG (hu64 hr)) (pe_op op_mod (pe_callTy g_int (by rfl) (hd.free 2) (by decide +kernel) (pa_cons (pv 0) pa_nil)) pe_int) pe_int (nomark _)) (pss_one (ps_set (i := 3) sc_law_unfold_right.nd rfl (Or.inl rfl) (pe_op op_sub (pv 1) (pe_op op_fdivW (pe_op op_addG (pv 0) pe_int) pe_int)))) pss_nil)
      (pss_cons (ps_if (PW.pt (pw_or (pt_not (pt_truG (pe_cal (sp := sp_law_int K) (cal_law_int hd) (hr.mono (by decide)) rfl pass0 (pa_cons (pv 2) pa_nil)) (by intro _; rfl))) (pw_or (pt_cmpR (op_neG (hu64 hr)) (pv 2) (pv 3) (nomark _)) (pw_or1 (pt_not (pt_chain op_leG op_ltG pe_int (pv 2) (pv 1))))))) (pss_one (ps_ret pe_bl)) pss_nil)
      (pss_cons (ps_set (i := 4) sc_law_unfold_right.nd rfl (Or.inl rfl) (pe_cal (sp := sp_fold K) (cal_fold hd) (hr.mono (by decide)) rfl pass0 (pa_cons (pv 2) (pa_cons (pv 1) pa_nil))))
      (pss_one (ps_ret (pe_and (pe_cal (sp := sp_law_int K) (cal_law_int hd) (hr.mono (by decide)) rfl pass0 (pa_cons (pv 4) pa_nil)) (pe_one (pe_cmpR (op_eqG (hu64 hr)) (pv 4) (pv 0) (nomark _)))))))))))), ?_⟩
  obtain ⟨r, m, rfl, rfl, h0, h1, q⟩ := h
  have a1 := unfold_lo h0 h1
  have a2 := unfold_hi h0 h1
  have a3 := fold_unfold h0 h1
  have a4 : unfoldI r m = if r % 2 = 0 then r / 2 else m - (r + 1) / 2 := rfl
  walk_at "en"
  walk_at "s"
  walk_at "if"
  all_goals
    intro h2
    first | rw [if_pos (by omega)] at a4 | rw [if_neg (by omega)] at a4
    walk_at "s"
    refine kite_nd (fun z => (z a4).elim) fun _ => ?_
    walk_at "s"
    refine kite_d (fun _ => ?_) fun z => (z a1).elim
    walk_at "s"
    refine kite_nd (fun z => (z a2).elim) fun _ => ?_
    walk_at "s"
    rw [a3]
    walk_at "s"
    rw [decide_eq_true rfl]
    exact q
theorem cal_law_unfold_right (hd : Hd K mg) : Cal P w K mg base CX0 2 "_law_unfold_right" ["number", "modulus"] (sp_law_unfold_right K) := by
  obtain ⟨fd, F⟩ := hd.def_ 8
  exact .mk' (hd.glo 14) F.kp (FunD.bindsN F fun _ _ _ _ _ _ us hl => match us, hl with | [_, _], _ => rfl) (ok_law_unfold_right hd F)
local macro_rules | `(tactic| walk_at "s1") => `(tactic| first
  | with_reducible refine ap_fold_right (by assumption) (by assumption) ?_
  | with_reducible refine ap_unfold_right (by assumption) (by assumption) ?_)
/-! the first so many residuals, from both ends -/
def endsI (m : Int) (i : Nat) : Int := if (i : Int) % 2 = 0 then (i : Int) / 2 else m - ((i : Int) + 1) / 2
def sp_law_both_ends (K : PySem.W.Frag) : Sp := sp2 fun x y H Q _ => ∃ n m : Int, x = .int n ∧ y = .int m ∧ 0 ≤ n ∧ n ≤ 1000 ∧ ∀ p H', H p = none → Evl.Ex H H' → H' p = some (.lst ((List.range n.toNat).map fun i => V.int (endsI m i))) → Q (.ref p) H'
theorem ap_both_ends {K : PySem.W.Frag} {H : Hp} {Q : VK} {E : XK} {n m : Int} (h0 : 0 ≤ n) (h1 : n ≤ 1000) (q : ∀ p H', H p = none → Evl.Ex H H' → H' p = some (.lst ((List.range n.toNat).map fun i => V.int (endsI m i))) → Q (.ref p) H') : sp_law_both_ends K [.int n, .int m] H Q E := ⟨_, _, rfl, n, m, rfl, rfl, h0, h1, q⟩
theorem range_map_succ {f : Nat → V} (n : Nat) : (List.range (n + 1)).map f = (List.range n).map f ++ [f n] := by rw [List.range_succ, List.map_append]; rfl
theorem ok_law_both_ends (hd : Hd K mg) {fd : FuncData} (F : FunD K d_law_both_ends.name d_law_both_ends.qual d_law_both_ends.params d_law_both_ends.body d_law_both_ends.scope (d_law_both_ends.dvs K) (d_law_both_ends.kws K) (He.fAd K d_law_both_ends.at_) fd) : FnOk P w K mg base CX0 1 (He.fAd K d_law_both_ends.at_) fd ["many", "modulus"] (sp_law_both_ends K) := by
  refine FunD.ok F sc_law_both_ends (fun vs H Q E h => ?_) (fun cdv A outer s H vs Q E hr h => ?_)
  · obtain ⟨v0, v1, rfl, _⟩ := h
    rfl
  obtain ⟨v0, v1, rfl, h⟩ := h
  rw [show start N_law_both_ends [v0, v1] = _ from st_law_both_ends v0 v1]
  refine ⟨_, PSs.nox ((pss_cons (ps_set (i := 2) sc_law_both_ends.nd rfl (Or.inl rfl) (pe_lst pa_nil))
      (pss_cons (ps_set (i := 3) sc_law_both_ends.nd rfl (Or.inl rfl) pe_int)
      (pss_cons (ps_set (i := 4) sc_law_both_ends.nd rfl (Or.inl rfl) (pe_op op_sub (pv 1) pe_int))
      (pss_cons (ps_for PassesOwn.never rfl (pi_range1 rfl (hd.free 15) (pa_cons (pv 0) pa_nil)) (pg_name (i := 5) sc_law_both_ends.nd rfl (Or.inl rfl))
      (pss_one (ps_if (pt_cmpR (op_eqG (hu64 hr)) (pe_op op_mod (pe_callTy g_int (by rfl) (hd.free 2) (by decide +kernel) (pa_cons (pv 5) pa_nil)) pe_int) pe_int (nomark _)) (pss_cons (ps_expr (pe_bm PySem.F.plainAttrs_list PySem.F.slot_list_append PySem.F.type_list_append mt_append (pv 2) (pa_cons (pv 3) pa_nil)))
      (pss_one (ps_set (i := 3) sc_law_both_ends.nd rfl (Or.inl rfl) (pe_op op_addG (pv 3) pe_int)))) (pss_cons (ps_expr (pe_bm PySem.F.plainAttrs_list PySem.F.slot_list_append PySem.F.type_list_append mt_append (pv 2) (pa_cons (pv 4) pa_nil)))
      (pss_one (ps_set (i := 4) sc_law_both_ends.nd rfl (Or.inl rfl) (pe_op op_sub (pv 4) pe_int)))))))
      (pss_one (ps_ret (pv 2)))))))), ?_⟩
  obtain ⟨n, m, rfl, rfl, h0, h1, q⟩ := h
  walk_at "en"
  walk_at "s"
  walk_at "sz"
  intro p hp
  walk_at "s"
  refine w_forR1 (by omega) (by omega) (fun i σ H' => (∃ o, σ = [some (.int n), some (.int m), some (.ref p), some (.int (((i : Int) + 1) / 2)), some (.int (m - 1 - (i : Int) / 2)), o]) ∧ H' = upd H p (.lst ((List.range i).map fun i => V.int (endsI m i)))) ?_ ?_ ?_
  · exact ⟨⟨none, by rw [show m - 1 - ((0 : Nat) : Int) / 2 = m - 1 by omega]; rfl⟩, rfl⟩
  · rintro i σ H' hi ⟨⟨o, rfl⟩, rfl⟩
    walk_at "s"
    walk_at "if"
    · intro h2
      walk_at "s"
      refine w_append upd_same (sz_lt (by rw [List.length_map, List.length_range]; omega)) ?_
      walk_at "s"
      rw [upd_upd, range_map_succ]
      refine ⟨⟨some (.int i), ?_⟩, ?_⟩
      · have e1 : (((i + 1 : Nat) : Int) + 1) / 2 = ((i : Int) + 1) / 2 + 1 := by omega
        have e2 : m - 1 - ((i + 1 : Nat) : Int) / 2 = m - 1 - (i : Int) / 2 := by omega
        rw [e1, e2]
      · have e3 : endsI m i = ((i : Int) + 1) / 2 := by unfold endsI; rw [if_pos h2]; omega
        rw [e3]
    · intro h2
      walk_at "s"
      refine w_append upd_same (sz_lt (by rw [List.length_map, List.length_range]; omega)) ?_
      walk_at "s"
      rw [upd_upd, range_map_succ]
      refine ⟨⟨some (.int i), ?_⟩, ?_⟩
      · have e1 : (((i + 1 : Nat) : Int) + 1) / 2 = ((i : Int) + 1) / 2 := by omega
        have e2 : m - 1 - ((i + 1 : Nat) : Int) / 2 = m - 1 - (i : Int) / 2 - 1 := by omega
        rw [e1, e2]
      · have e3 : endsI m i = m - 1 - (i : Int) / 2 := by unfold endsI; rw [if_neg h2]; omega
        rw [e3]
  · rintro σ H' ⟨⟨o, rfl⟩, rfl⟩
    walk_at "s"
    exact q p _ hp (Evl.Ex.new hp) upd_same
theorem cal_law_both_ends (hd : Hd K mg) : Cal P w K mg base CX0 1 "_law_both_ends" ["many", "modulus"] (sp_law_both_ends K) := by
  obtain ⟨fd, F⟩ := hd.def_ 9
  exact .mk' (hd.glo 16) F.kp (FunD.bindsN F fun _ _ _ _ _ _ us hl => match us, hl with | [_, _], _ => rfl) (ok_law_both_ends hd F)
theorem fold_inj {r s m : Int} (h0 : 0 ≤ r) (h1 : r < m) (g0 : 0 ≤ s) (g1 : s < m) : (decide (decide (foldI r m = foldI s m) = decide (r = s))) = true := by
  have a := unfold_fold h0 h1
  have b := unfold_fold g0 g1
  by_cases e : r = s
  · subst e
    simp
  · have n : ¬ foldI r m = foldI s m := fun z => e (by rw [← a, ← b, z])
    rw [decide_eq_false e, decide_eq_false n]
    rfl
theorem ends_unfold {m : Int} (i : Nat) : unfoldI i m = endsI m i := rfl
theorem sorted_range : ∀ (l : List Int) (lo : Int), l.Pairwise (· < ·) → (∀ x ∈ l, lo ≤ x ∧ x < lo + l.length) → l = (List.range l.length).map fun i : Nat => lo + (i : Int)
  | [], _, _, _ => rfl
  | x :: r, lo, hp, hb => by
    obtain ⟨h1, h2⟩ := List.pairwise_cons.mp hp
    have hx := hb x List.mem_cons_self
    rw [List.length_cons] at hx
    have ih := sorted_range r (lo + 1) h2 fun y hy => by
      have a := h1 y hy
      have b := hb y (List.mem_cons_of_mem _ hy)
      rw [List.length_cons] at b
      omega
    have ex : x = lo := by
      cases r with
      | nil => simp at hx; omega
      | cons y s =>
        have a := h1 y List.mem_cons_self
        rw [List.length_cons, List.range_succ_eq_map, List.map_cons] at ih
        injection ih with e _
        simp at e
        omega
    rw [List.length_cons, List.range_succ_eq_map, List.map_cons, ex]
    congr 1
    · simp
    · rw [List.map_map]
      refine ih.trans (List.map_congr_left fun i _ => ?_)
      show lo + 1 + (i : Int) = lo + ((i + 1 : Nat) : Int)
      omega
theorem lt_of_le_nodup : ∀ {l : List Int}, l.Pairwise (· ≤ ·) → l.Nodup → l.Pairwise (· < ·)
  | [], _, _ => .nil
  | x :: r, h, n => by
    obtain ⟨h1, h2⟩ := List.pairwise_cons.mp h
    obtain ⟨n1, n2⟩ := List.nodup_cons.mp n
    refine List.pairwise_cons.mpr ⟨fun y hy => ?_, lt_of_le_nodup h2 n2⟩
    have a := h1 y hy
    have b : x ≠ y := fun e => n1 (e ▸ hy)
    omega
theorem sorted_folds {m : Int} (h0 : 1 ≤ m) {l : List Int} (hp : l.Perm ((List.range m.toNat).map fun i : Nat => foldI i m)) (hs : l.Pairwise (· ≤ ·)) : l = (List.range m.toNat).map fun i : Nat => (i : Int) := by
  have hlen : l.length = m.toNat := by rw [hp.length_eq, List.length_map, List.length_range]
  have hnd : l.Nodup := by
    rw [hp.nodup_iff]
    refine List.pairwise_map.mpr (List.Pairwise.imp_of_mem (fun {a b} ha hb hab e => ?_) (List.nodup_range (n := m.toNat)))
    rw [List.mem_range] at ha hb
    have u := unfold_fold (r := a) (m := m) (by omega) (by omega)
    have v := unfold_fold (r := b) (m := m) (by omega) (by omega)
    rw [e, v] at u
    exact hab (by omega)
  have hb : ∀ x ∈ l, (0 : Int) ≤ x ∧ x < 0 + l.length := fun x hx => by
    obtain ⟨i, hi, rfl⟩ := List.mem_map.mp (hp.mem_iff.mp hx)
    rw [List.mem_range] at hi
    have a := fold_lo (r := i) (m := m) (by omega) (by omega)
    have b := fold_hi (r := i) (m := m) (by omega) (by omega)
    rw [hlen]
    omega
  have e := sorted_range l 0 (lt_of_le_nodup hs hnd) hb
  rw [hlen] at e
  rw [e]
  exact List.map_congr_left fun i _ => Int.zero_add _
theorem ok_law (hd : Hd K mg) {fd : FuncData} (F : FunD K d_law.name d_law.qual d_law.params d_law.body d_law.scope (d_law.dvs K) (d_law.kws K) (He.fAd K d_law.at_) fd) : FnOk P w K mg base CX0 4 (He.fAd K d_law.at_) fd ["script"] (sp_law K) := by
  refine FunD.ok F sc_law (fun vs H Q E h => ?_) (fun cdv A outer s H vs Q E hr h => ?_)
  · obtain ⟨v0, rfl, _⟩ := h
    rfl
  obtain ⟨v0, rfl, h⟩ := h
  rw [show start N_law [v0] = _ from st_law v0]
  refine ⟨_, PSs.nox ((pss_cons (ps_set (i := 1) sc_law.nd rfl (Or.inl rfl) (pe_cal (sp := sp_law_drawer K) (cal_law_drawer hd) (hr.mono (by decide)) rfl pass0 (pa_cons (pv 0) (pa_cons pe_int pa_nil))))
      (pss_cons (ps_set (i := 2) sc_law.nd rfl (Or.inr rfl) (pe_cal (sp := sp_law_modulus K) (cal_law_modulus hd) (hr.mono (by decide)) rfl pass0 (pa_cons (pv 1) pa_nil)))
      (pss_cons (ps_set (i := 3) sc_law.nd rfl (Or.inl rfl) (pe_lst (pa_cons pe_int (pa_cons (pe_op op_sub (pv 2) pe_int) (pa_cons (pe_op op_fdivW (pv 2) pe_int) (pa_cons (pe_op op_fdivW (pe_op op_sub (pv 2) pe_int) pe_int) pa_nil))))))
      (pss_cons (ps_set (i := 3) sc_law.nd rfl (Or.inl rfl) (pe_op op_addG (pv 3) (pe_lst (pa_cons (pe_cal (sp := sp_law_draw K) (cal_law_draw hd) (hr.mono (by decide)) rfl pass0 (pa_cons (pv 1) (pa_cons (pv 2) pa_nil))) (pa_cons (pe_cal (sp := sp_law_draw K) (cal_law_draw hd) (hr.mono (by decide)) rfl pass0 (pa_cons (pv 1) (pa_cons (pv 2) pa_nil))) pa_nil)))))
      (pss_cons (ps_set (i := 4) sc_law.nd rfl (Or.inl rfl) (pe_cal (sp := sp_law_pick K) (cal_law_pick hd) (hr.mono (by decide)) rfl pass0 (pa_cons (pv 1) (pa_cons (pv 3) pa_nil))))
      (pss_cons (ps_set (i := 5) sc_law.nd rfl (Or.inl rfl) (pe_cal (sp := sp_law_draw K) (cal_law_draw hd) (hr.mono (by decide)) rfl pass0 (pa_cons (pe_cal (sp := sp_law_drawer K) (cal_law_drawer hd) (hr.mono (by decide)) rfl pass0 (pa_cons (pv 0) (pa_cons pe_int pa_nil))) (pa_cons (pv 2) pa_nil))))
      (pss_cons (ps_set (i := 6) sc_law.nd rfl (Or.inl rfl) (pe_lst (pa_cons pe_int (pa_cons (pe_op op_sub (pv 2) pe_int) (pa_cons (pe_op op_fdivW (pv 2) pe_int) (pa_cons (pv 4) (pa_cons (pe_op op_mod (pe_callTy g_int (by rfl) (hd.free 2) (by decide +kernel) (pa_cons (pe_op op_addG (pv 4) pe_int) pa_nil)) (pv 2)) (pa_cons (pv 5) pa_nil))))))))
      (pss_cons (ps_for PassesOwn.never rfl (pi_G (pv 6)) (pg_name (i := 7) sc_law.nd rfl (Or.inl rfl))
      (pss_cons (ps_if (PW.pt (pw_or (pt_not (pt_truG (pe_cal (sp := sp_law_fold_right K) (cal_law_fold_right hd) (hr.mono (by decide)) rfl pass0 (pa_cons (pv 7) (pa_cons (pv 2) pa_nil))) (by intro _; rfl))) (pw_or1 (pt_not (pt_truG (pe_cal (sp := sp_law_unfold_right K) (cal_law_unfold_right hd) (hr.mono (by decide)) rfl pass0 (pa_cons (pv 7) (pa_cons (pv 2) pa_nil))) (by intro _; rfl)))))) (pss_one (ps_ret pe_bl)) pss_nil)
      (pss_one (ps_for PassesOwn.never rfl (pi_G (pv 6)) (pg_name (i := 8) sc_law.nd rfl (Or.inl rfl))
      (pss_one (ps_if (pt_cmpR (op_neG (hu64 hr)) (pe_cmpR (op_eqG (hu64 hr)) (pe_cal (sp := sp_fold K) (cal_fold hd) (hr.mono (by decide)) rfl pass0 (pa_cons (pv 7) (pa_cons (pv 2) pa_nil))) (pe_cal (sp := sp_fold K) (cal_fold hd) (hr.mono (by decide)) rfl pass0 (pa_cons (pv 8) (pa_cons (pv 2) pa_nil))) (nomark _)) (pe_cmpR (op_eqG (hu64 hr)) (pv 7) (pv 8) (nomark _)) (nomark _)) (pss_one (ps_ret pe_bl)) pss_nil))))))
      (pss_cons (ps_set (i := 9) sc_law.nd rfl (Or.inl rfl) (pe_callB (g_min rfl) (by rfl) (hd.free 12) (by decide +kernel) (pa_cons (pv 2) (pa_cons pe_int pa_nil))))
      (Evl.pss_cut (ps_if (pt_cmpR op_leG (pv 2) pe_int (nomark _)) (pss_cons (ps_set (i := 9) sc_law.nd rfl (Or.inl rfl) (pv 2))
      (pss_one (ps_if (pt_cmpR (op_neG (hu64 hr)) (pe_callB cr_sortedI (by rfl) (hd.free 17) (by decide +kernel) (pa_cons (pe_lc (own := [("k", 10)]) (g := gName 10) (tt := tYes) (by rfl) sc_law.nd (pi_range1 rfl (hd.free 15) (pa_cons (pv 2) pa_nil)) (blkOk_by (own := [("k", 10)]) (N := N_law) (sc := defScope s_law) (by decide +kernel)) (fun _ _ _ _ _ => (pg_name (i := 10) sc_law.nd rfl (Or.inl rfl))) (fun _ _ _ _ _ => pts_nil) (fun _ _ _ _ _ => (pe_cal (sp := sp_fold K) (cal_fold hd) (hr.mono (by decide)) rfl pass0 (pa_cons (pv 10) (pa_cons (pv 2) pa_nil))))) pa_nil)) (pe_listRg rfl rfl (hd.free 18) (prg_1 rfl (hd.free 15) (pv 2))) (nomark _)) (pss_one (ps_ret pe_bl)) pss_nil))) pss_nil)
      (pss_cons (ps_set (i := 11) sc_law.nd rfl (Or.inl rfl) (pe_cal (sp := sp_law_both_ends K) (cal_law_both_ends hd) (hr.mono (by decide)) rfl pass0 (pa_cons (pv 9) (pa_cons (pv 2) pa_nil))))
      (pss_cons (ps_for PassesOwn.never rfl (pi_range1 rfl (hd.free 15) (pa_cons (pv 9) pa_nil)) (pg_name (i := 10) sc_law.nd rfl (Or.inl rfl))
      (pss_one (ps_if (PW.pt (pw_or (pt_cmpR (op_neG (hu64 hr)) (pe_cal (sp := sp_unfold K) (cal_unfold hd) (hr.mono (by decide)) rfl pass0 (pa_cons (pv 10) (pa_cons (pv 2) pa_nil))) (pe_ix ix_G (pv 11) (pv 10) (fun _ _ => rfl)) (nomark _)) (pw_or1 (pt_cmpR (op_neG (hu64 hr)) (pe_cal (sp := sp_fold K) (cal_fold hd) (hr.mono (by decide)) rfl pass0 (pa_cons (pe_ix ix_G (pv 11) (pv 10) (fun _ _ => rfl)) (pa_cons (pv 2) pa_nil))) (pv 10) (nomark _))))) (pss_one (ps_ret pe_bl)) pss_nil)))
      (pss_one (ps_ret pe_bl))))))))))))))), ?_⟩
  obtain ⟨a, ns, rfl, hS, hl, q⟩ := h
  walk_at "en"
  walk_at "s"
  refine ap_drawer hS (by omega) fun d H1 hd e1 D1 => ?_
  have S1 := hS.ex e1
  walk_at "s"
  refine ap_modulus D1 fun m H2 m0 m1 x2 => ?_
  have S2 := S1.dw D1 x2
  have D2 := x2.dr
  walk_at "s"
  walk_at "sz"
  intro p1 n1
  have x3 := Dw.new (o := .lst [.int 0, .int (m - 1), .int (m / 2), .int ((m - 1) / 2)]) D2 n1
  have S3 := S2.dw D2 x3
  have D3 := x3.dr
  have b1 := (D2.ne n1).symm
  walk_at "s"
  refine ap_draw D3 (dv_small (by omega) (by omega)) fun c1 H4 c10 c11 x4 => ?_
  have S4 := S3.dw D3 x4
  have D4 := x4.dr
  walk_at "s"
  refine ap_draw D4 (dv_small (by omega) (by omega)) fun c2 H5 c20 c21 x5 => ?_
  have S5 := S4.dw D4 x5
  have D5 := x5.dr
  have L5 := (x4.trans x5).kp _ _ b1 upd_same
  walk_at "s"
  walk_at "sz"
  intro p2 n2
  refine w_catL (hp_new n2 L5) upd_same (Nat.le_of_ble_eq_true rfl) fun p3 n3 => ?_
  walk_at "s"
  have x6 := Dw.new (o := .lst [.int c1, .int c2]) D5 n2
  have x7 := Dw.new (o := .lst ([.int 0, .int (m - 1), .int (m / 2), .int ((m - 1) / 2)] ++ [.int c1, .int c2])) x6.dr n3
  have S7 := (S5.dw D5 x6).dw x6.dr x7
  refine ap_pickL x7.dr (x6.dr.ne n3).symm upd_same (Nat.lt_of_lt_of_le Nat.zero_lt_one (Nat.le_of_ble_eq_true rfl)) (Nat.lt_of_le_of_lt (m := 6) (Nat.le_of_ble_eq_true rfl) (by decide)) fun v H8 hv x8 => ?_
  have hone : ∃ one, v = .int one ∧ 0 ≤ one ∧ one < m := by
    simp only [List.cons_append, List.nil_append, List.mem_cons, List.not_mem_nil, or_false] at hv
    rcases hv with h | h | h | h | h | h <;> exact ⟨_, h, by omega, by omega⟩
  obtain ⟨one, rfl, o0, o1⟩ := hone
  have S8 := S7.dw x7.dr x8
  walk_at "s"
  refine ap_drawer S8 (by omega) fun d2 H9 hd2 e9 D9 => ?_
  walk_at "s"
  refine ap_draw D9 (dv_small (by omega) (by omega)) fun two H10 t0 t1 x10 => ?_
  walk_at "s"
  have r0 : 0 ≤ (one + 1) % m := Int.emod_nonneg _ (by omega)
  have r1 : (one + 1) % m < m := Int.emod_lt_of_pos _ (by omega)
  walk_at "sz"
  intro p4 n4
  walk_at "s"
  generalize hr : (one + 1) % m = ro at *
  have hx : ∀ v ∈ [V.int 0, .int (m - 1), .int (m / 2), .int one, .int ro, .int two], ∃ r, v = .int r ∧ 0 ≤ r ∧ r < m := by
    intro v hv
    simp only [List.mem_cons, List.not_mem_nil, or_false] at hv
    rcases hv with h | h | h | h | h | h <;> exact ⟨_, h, by omega, by omega⟩
  generalize hL : [V.int 0, .int (m - 1), .int (m / 2), .int one, .int ro, .int two] = L at *
  have hp4 : upd H10 p4 (.lst L) p4 = some (.lst L) := upd_same
  revert hp4
  generalize upd H10 p4 (.lst L) = H11
  intro hp4
  refine w_forL (SqL.of hp4) (fun i σ H' => H11 = H' ∧ ∃ o1 o2 : Option V, σ = [some (.ref a), some (.ref d), some (.int m), some (.ref p3), some (.int one), some (.int two), some (.ref p4), o1, o2, none, none, none]) ⟨rfl, none, none, rfl⟩ ?_ ?_ ?_
  · rintro i σ H' _ ⟨rfl, _⟩
    exact SqL.of hp4
  · rintro i v σ H' hv ⟨rfl, o1, o2, rfl⟩
    obtain ⟨r, rfl, r0, r1⟩ := hx v (List.mem_of_getElem? hv)
    walk_at "s"
    refine w_forL (SqL.of hp4) (fun i σ H' => H11 = H' ∧ ∃ o2, σ = [some (.ref a), some (.ref d), some (.int m), some (.ref p3), some (.int one), some (.int two), some (.ref p4), some (.int r), o2, none, none, none]) ⟨rfl, o2, rfl⟩ ?_ ?_ ?_
    · rintro i σ H' _ ⟨rfl, _⟩
      exact SqL.of hp4
    · rintro i v σ H' hv ⟨rfl, o2, rfl⟩
      obtain ⟨s, rfl, s0, s1⟩ := hx v (List.mem_of_getElem? hv)
      walk_at "s"
      rw [fold_inj r0 r1 s0 s1]
      walk_at "s"
      exact ⟨rfl, _, rfl⟩
    · rintro σ H' ⟨rfl, o2, rfl⟩
      exact ⟨rfl, _, _, rfl⟩
  · rintro σ H' ⟨rfl, o1, o2, rfl⟩
    walk_at "s"
    refine w_cut (fun σ _ => ∃ (many : Int) (o3 : Option V), 1 ≤ many ∧ many ≤ m ∧ many ≤ 64 ∧ σ = [some (V.ref a), some (V.ref d), some (V.int m), some (V.ref p3), some (V.int one), some (V.int two),
        some (V.ref p4), o1, o2, some (V.int many), o3, none]) ?_ ?_
    rotate_left
    · rintro σ H' ⟨many, o3, z0, z1, z2, rfl⟩
      walk_at "s"
      refine ap_both_ends (by omega) (by omega) fun p H12 n7 e12 hp7 => ?_
      walk_at "s"
      refine w_forR1 (by omega) (by omega) (fun i σ H' => H12 = H' ∧ ∃ o3 : Option V, σ = [some (V.ref a), some (V.ref d), some (V.int m), some (V.ref p3), some (V.int one), some (V.int two),
          some (V.ref p4), o1, o2, some (V.int many), o3, some (.ref p)]) ⟨rfl, _, rfl⟩ ?_ ?_
      · rintro i σ H' hi ⟨rfl, o3, rfl⟩
        walk_at "s"
        have hat : atI ((List.range many.toNat).map fun i => V.int (endsI m i)) (i : Int) = some (.int (endsI m i)) := atI_nat (by
          rw [List.getElem?_map, List.getElem?_range (by omega)]
          rfl)
        refine w_ix (.inl (SqL.of hp7)) hat ?_
        walk_at "s"
        rw [ends_unfold, decide_eq_true rfl]
        walk_at "s"
        refine w_ix (.inl (SqL.of hp7)) hat ?_
        walk_at "s"
        rw [← ends_unfold, fold_unfold (by omega) (by omega), decide_eq_true rfl]
        walk_at "s"
        exact ⟨rfl, _, rfl⟩
      · rintro σ H' ⟨rfl, o3, rfl⟩
        walk_at "s"
        exact q _
    walk_at "s"
    walk_at "if"
    · intro h64
      walk_at "s"
      refine w_lcR1 (by omega) (by omega) (fun D i acc H' => H' = upd H11 D (.lst acc) ∧ acc = (List.range i).map fun i : Nat => V.int (foldI i m)) (fun v => rfl) (fun D _ => ⟨rfl, rfl⟩) ?_ ?_
      · rintro D i acc H' RR hi ha hD ⟨rfl, rfl⟩ hR
        walk_at "s"
        refine hR _ _ upd_same ⟨by rw [upd_upd], ?_⟩
        rw [range_map_succ]
      · rintro D acc H' hD ha ⟨rfl, rfl⟩
        walk_at "s"
        refine w_sorted (ns := (List.range m.toNat).map fun i : Nat => foldI i m) (by rw [List.map_map]; exact SqL.of upd_same) fun ns' q1 pm hs n5 => ?_
        have es := sorted_folds m0 pm hs
        subst es
        walk_at "s"
        refine ⟨RgOk.of_le (by omega) (by omega) (by omega) (by omega), fun q2 n6 => ?_⟩
        rw [rgV_eq]
        refine w_neL (SqL.of (hp_new n6 upd_same)) (SqL.of upd_same) ?_
        rw [decide_eq_true rfl]
        walk_at "s"
        exact ⟨m, none, by omega, by omega, by omega, rfl⟩
    · intro h64
      walk_at "s"
      exact ⟨if 40 < m then 40 else m, none, by split <;> omega, by split <;> omega, by split <;> omega, rfl⟩
theorem cal_law (hd : Hd K mg) : Cal P w K mg base CX0 4 "law" ["script"] (sp_law K) := by
  obtain ⟨fd, F⟩ := hd.def_ 10
  exact .mk' (hd.glo 19) F.kp (FunD.bindsN F fun _ _ _ _ _ _ us hl => match us, hl with | [_], _ => rfl) (ok_law hd F)
end
/-! ### the end: what the top leaves, the row -/
abbrev R : PySem.W.OpenRow := PySem.W.OpenLaw.row PySem.Challenge.rw_keptpictures_k21_folds
abbrev hk : PySem.W.Hook := He.hookD 4 fa fn
def ob (s : PySem.W.SharedT) : He.AlD := He.obsDG 4 fa fn (HandSHeadRun.getT s)
theorem ob_eq (s : PySem.W.SharedT) : ob s = hk.obs s.abs := He.obsDG_eq (HandSHeadRun.getT_eq s)
def names : List Str := ["fold", "unfold", "_law_drawer", "_law_draw", "_law_pick", "_law_modulus", "_law_int", "_law_both_ends", "_law_fold_right", "_law_unfold_right"]
theorem run (w : World) : HandSHeadRun.RunEq R (PySem.W.view R.prog [12]) hk ob 2000 names w := by
  intro os
  kernel_rfl
end KL
open PySem PySem.W PySem.Calls PyProof.Rows
theorem PySem.Challenge.cw_keptpictures_k21_folds_holds : PySem.Challenge.rw_keptpictures_k21_folds.Holds := by
  w_on; o_law
  refine HandSHeadRun.head_any (r := KL.R) (q := view KL.R.prog [12]) (H := KL.hk) (ob := KL.ob) (M := 2000) (loose := KL.names) (d := HandSHeadRun.topDef KL.R.prog 12) (kwd := []) KL.ob_eq
    (by kernel_rfl) (fun s => by kernel_rfl) KL.run (by kernel_rfl) (by kernel_rfl) (by kernel_rfl) (by rfl) (by first | assumption | decide +kernel) (by decide +kernel) ⟨rfl, rfl, rfl, rfl, rfl, by decide +kernel⟩ ?hw ?hc
  case hw => w_witness2
  case hc =>
    refine L2.walk_ofE (l := PySem.Challenge.rw_keptpictures_k21_folds) (n := 63) (k := 4) (x := "script") (CX := L2.CX0) rfl (by decide) (by kernel_rfl) ⟨rfl, by decide, by decide⟩ ?F (fun _ _ _ _ z => z)
    intro w mg fa h Y G hmg0
    obtain ⟨K, KX, c⟩ := Y
    have hmg : mg ("law" : PySem.Str) = some (.ref fa) := by
      have e : (HandSHeadRun.topDef KL.R.prog 12).name = ("law" : PySem.Str) := by kernel_rfl
      rw [← e]
      exact hmg0
    have hd : KL.Hd K mg := ⟨⟨h, KX, G⟩, c⟩
    obtain ⟨fd, F⟩ := hd.def_ 10
    have ha := hd.glo 19
    cases hmg.symm.trans ha
    refine ⟨K, fd, KP.sp_law K, KX, fun s u => L2.FunD.bindsA (ps := ["script"]) F (fun _ _ _ _ _ _ us hl => match us, hl with | [_], _ => rfl) s [u] rfl, fun H a ns hl hO hS => ⟨.ref a, rfl, a, ns, rfl, KP.Scr.of hO hS, hl, fun _ => rfl⟩, fun base _ _ => ?_⟩
    exact KL.ok_law hd F

