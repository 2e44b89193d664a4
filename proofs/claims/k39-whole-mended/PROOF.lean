import PyProof.Rows.All
import Wide.All
import OpenK.AllK
import Wide.FinOn
import KE.KStateDown
import Lean
import HandS.Base
import HandS.Call
import HandS.List
import HandS.Comp
import HandS.Ends
import HandS.Dict
import HandS.Iter
import HandS.Text
import HandS.Words
import HandS.WordsList
import HandS.Defaults
import HandS.Evl
import HandS.Conv
import HandS.Deep
import HandS.IsInst
import HandS.TupAny
import HandS.TupLe
import HandS.Wide
import HandS.Zip
import HandS.Rev
import HandS.RevRange
import HandS.Star
import HandS.SortInts
import HandS.Head0
import HandS.Head1
import HandS.Head2
import HandS.HeadEnd
import HandS.HeadHook1
import HandS.HeadHook2
import HandS.GenBody
import HandS.GenYield
import HandS.GenCall
import HandS.GenList
import PySem.Challenge.RW_keptpictures_k39_whole_mended
set_option Elab.async false
set_option linter.all false
set_option maxRecDepth 100000
set_option maxHeartbeats 4000000
/-! The common layer: rules that serve operands of any kind, a def's contract in one piece, one step of a reading at a time. -/
namespace KP
open PySem PySem.Spec PyProof.Rows L2 Evl

/-! ### heaps -/
mutual
theorem dp_ex {K : PySem.W.Frag} {H H' : Hp} (e : Evl.Ex H H') : ∀ {d : PyData} {v : V}, Dp K H v d → Dp K H' v d
  | .none, _, h => by cases h; exact .non
  | .bool b, _, h => by cases h; exact .bl b
  | .int i, _, h => by cases h; exact .int i
  | .str x, _, h => by cases h; exact .str x
  | .list ds, _, h => by
    cases h with
    | lst hs ha => exact .lst (Evl.ex_l e hs) (dpAll_ex e ha)
  | .tuple ds, _, h => by
    cases h with
    | tup hs ha => exact .tup (Evl.ex_t e hs) (dpAll_ex e ha)
  | .dict _, _, h => by cases h
theorem dpAll_ex {K : PySem.W.Frag} {H H' : Hp} (e : Evl.Ex H H') : ∀ {ds : List PyData} {vs : List V}, DpAll K H vs ds → DpAll K H' vs ds
  | [], _, h => by cases h; exact .nil
  | d :: ds, _, h => by
    cases h with
    | cons h1 h2 => exact .cons (dp_ex e h1) (dpAll_ex e h2)
end
/-- a list or a tuple that can be read -/
def Sq (K : PySem.W.Frag) (H : Hp) (a : Addr) (xs : List V) : Prop := SqL K H a xs ∨ SqT K H a xs
theorem Sq.l {K : PySem.W.Frag} {H : Hp} {a : Addr} {xs : List V} (h : SqL K H a xs) : Sq K H a xs := .inl h
theorem Sq.t {K : PySem.W.Frag} {H : Hp} {a : Addr} {xs : List V} (h : SqT K H a xs) : Sq K H a xs := .inr h

/-! ### operators of any kind -/
section
variable {X : Cx}
def rAddG (K : PySem.W.Frag) : R2 := fun x y H Q => match x, y with
  | .int i, .int j => Q (.int (i + j)) H
  | .str i, .str j => i.length + j.length ≤ sizeLine ∧ Q (.str (i ++ j)) H
  | .ref a, .ref b => (∃ xs zs, H a = some (.lst xs) ∧ H b = some (.lst zs) ∧ xs.length + zs.length ≤ sizeLine ∧ ∀ p, H p = none → Q (.ref p) (upd H p (.lst (xs ++ zs)))) ∨
      (∃ xs ys, SqT K H a xs ∧ SqT K H b ys ∧ xs.length + ys.length ≤ sizeLine ∧ ∀ p H', Evl.Ex H H' → SqT K H' p (xs ++ ys) → (H' = H ∨ (H p = none ∧ H' = upd H p (.tup (xs ++ ys)))) → Q (.ref p) H')
  | _, _ => False
theorem op_addG : OpR X (binaryOp .Add) (rAddG X.K) := by
  intro pins s σ H x y v u Q I rx ry h
  cases x <;> cases y <;> try exact (show False from h).elim
  case int.int i j => exact op_add pins s σ H _ _ v u Q I rx ry ⟨i, j, rfl, rfl, h⟩
  case str.str i j => exact op_add_str pins s σ H _ _ v u Q I rx ry ⟨i, j, rfl, rfl, h.1, h.2⟩
  case ref.ref a b =>
    rcases (show _ ∨ _ from h) with ⟨xs, zs, h1, h2, h3, h4⟩ | ⟨xs, ys, h1, h2, h3, h4⟩
    · exact op_cat pins s σ H _ _ v u Q I rx ry ⟨a, b, xs, zs, rfl, rfl, h1, h2, h3, h4⟩
    · refine op_catA pins s σ H _ _ v u Q I rx ry ⟨a, b, xs, ys, rfl, rfl, h1, h2, h3, fun e => ?_, fun _ e => ?_, fun _ _ p hp => ?_⟩
      · subst e; exact h4 b H (Evl.Ex.refl H) h2 (.inl rfl)
      · subst e; exact h4 a H (Evl.Ex.refl H) (by rw [List.append_nil]; exact h1) (.inl rfl)
      · exact h4 p _ (Evl.Ex.new hp) (SqT.of upd_same) (.inr ⟨hp, rfl⟩)
def rIsG : R2 := fun x y H Q => match y with
  | .non => Q (.bl (decide (x = .non))) H
  | .bl b => Q (.bl (decide (x = .bl b))) H
  | _ => False
theorem is_plain {x : V} {v : Value} (r : RelV x v) (b : Bool) : plainIs v (.bool b) = true := by
  cases x <;> first
    | (cases r; rfl)
    | (obtain ⟨t, rfl⟩ := r; rfl)
theorem bool_of {x : V} {b : Bool} (r : RelV x (.bool b)) : x = .bl b := (Option.some.inj (show some (V.bl b) = some x from r.abs)).symm
theorem op_isG : OpR X (compareOp .Is) rIsG := by
  intro pins s σ H x y v u Q I rx ry h
  cases y <;> try exact (show False from h).elim
  case non => exact op_isN pins s σ H _ _ v u Q I rx ry ⟨rfl, h⟩
  case bl b =>
    cases (show u = Value.bool b from ry)
    have q : Q (.bl (decide (x = .bl b))) H := h
    by_cases e : x = .bl b
    · subst e
      cases (show v = Value.bool b from rx)
      exact wpAny_is_self rfl ⟨.bl true, H, I, rfl, by simpa using q⟩
    · exact wpAny_is_other (is_plain rx b) (fun z => e (by subst z; exact bool_of rx)) ⟨.bl false, H, I, rfl, by simpa [e] using q⟩
def rMulG : R2 := fun x y H Q => match x, y with
  | .int i, .int j => (CMul i j ∨ CMulW i j) ∧ Q (.int (i * j)) H
  | .ref a, .int k => ∃ xs, H a = some (.lst xs) ∧ -(2 ^ 63) ≤ k ∧ k < 2 ^ 63 ∧ xs.length * k.toNat ≤ sizeLine ∧ ∀ p, H p = none → Q (.ref p) (upd H p (.lst (List.replicate k.toNat xs).flatten))
  | _, _ => False
theorem op_mulG : OpR X (binaryOp .Mult) rMulG := by
  intro pins s σ H x y v u Q I rx ry h
  cases x <;> cases y <;> try exact (show False from h).elim
  case int.int i j =>
    obtain ⟨hc, h⟩ := (show (CMul i j ∨ CMulW i j) ∧ Q (.int (i * j)) H from h)
    rcases hc with hc | hc
    · exact op_mul pins s σ H _ _ v u Q I rx ry ⟨i, j, rfl, rfl, hc, h⟩
    · exact op_mulW pins s σ H _ _ v u Q I rx ry ⟨i, j, rfl, rfl, hc, h⟩
  case ref.int a k =>
    obtain ⟨xs, h1, h2, h3, h4, h5⟩ := h
    exact op_rep pins s σ H _ _ v u Q I rx ry ⟨a, k, xs, rfl, rfl, h1, h2, h3, h4, h5⟩
/-- order: ints; texts; tuples of ints -/
def rOrdG (K : PySem.W.Frag) (fi : Int → Int → Bool) : R2 := fun x y H Q => match x, y with
  | .int i, .int j => Q (.bl (fi i j)) H
  | _, _ => False
theorem op_ltG : OpR X (compareOp .Lt) (rOrdG X.K fun i j => decide (i < j)) := by
  intro pins s σ H x y v u Q I rx ry h
  cases x <;> cases y <;> try exact (show False from h).elim
  case int.int i j => exact op_lt pins s σ H _ _ v u Q I rx ry ⟨i, j, rfl, rfl, h⟩
theorem op_leG : OpR X (compareOp .LtE) (rOrdG X.K fun i j => decide (i ≤ j)) := by
  intro pins s σ H x y v u Q I rx ry h
  cases x <;> cases y <;> try exact (show False from h).elim
  case int.int i j => exact op_le pins s σ H _ _ v u Q I rx ry ⟨i, j, rfl, rfl, h⟩
theorem op_gtG : OpR X (compareOp .Gt) (rOrdG X.K fun i j => decide (j < i)) := by
  intro pins s σ H x y v u Q I rx ry h
  cases x <;> cases y <;> try exact (show False from h).elim
  case int.int i j => exact op_gt pins s σ H _ _ v u Q I rx ry ⟨i, j, rfl, rfl, h⟩
theorem op_geG : OpR X (compareOp .GtE) (rOrdG X.K fun i j => decide (j ≤ i)) := by
  intro pins s σ H x y v u Q I rx ry h
  cases x <;> cases y <;> try exact (show False from h).elim
  case int.int i j => exact op_ge pins s σ H _ _ v u Q I rx ry ⟨i, j, rfl, rfl, h⟩
/-- == : ints, texts, bools, None; else data of any depth -/
def rEqG (K : PySem.W.Frag) (neg : Bool) : R2 := fun x y H Q => match x, y with
  | .int i, .int j => Q (.bl (if neg then !decide (i = j) else decide (i = j))) H
  | .str i, .str j => Q (.bl (if neg then !decide (i = j) else decide (i = j))) H
  | .bl i, .bl j => Q (.bl (if neg then !decide (i = j) else decide (i = j))) H
  | x, y => ∃ d e, Dp K H x d ∧ Dp K H y e ∧ SeqAt.shaped d = true ∧ SeqAt.shaped e = true ∧ Q (.bl (if neg then !PyData.eqv d e else PyData.eqv d e)) H
theorem dec_V {α : Type} {f : α → V} [DecidableEq α] (inj : ∀ a b, f a = f b → a = b) (i j : α) : decide (f i = f j) = decide (i = j) := by
  by_cases e : i = j
  · rw [decide_eq_true e, decide_eq_true (congrArg f e)]
  · rw [decide_eq_false e, decide_eq_false fun z => e (inj _ _ z)]
theorem op_eqG (hu : X.A.units + 64 < cLine) : OpR X (compareOp .Eq) (rEqG X.K false) := by
  intro pins s σ H x y v u Q I rx ry h
  have gen : (∃ d e, Dp X.K H x d ∧ Dp X.K H y e ∧ SeqAt.shaped d = true ∧ SeqAt.shaped e = true ∧ Q (.bl (PyData.eqv d e)) H) → wpAny (model X.prog X.w) X.A (compareOp .Eq v u) (EP X pins σ Q) X.xe s :=
    fun g => op_eqD hu pins s σ H _ _ v u Q I rx ry g
  have sc : scal x y = true → Q (.bl (decide (x = y))) H → wpAny (model X.prog X.w) X.A (compareOp .Eq v u) (EP X pins σ Q) X.xe s :=
    fun g q => op_eq pins s σ H _ _ v u Q I rx ry ⟨g, q⟩
  cases x <;> cases y <;> first
    | exact gen h
    | (refine sc rfl ?_; rw [dec_V (f := V.int) (fun a b z => V.int.inj z)]; exact h)
    | (refine sc rfl ?_; rw [dec_V (f := V.str) (fun a b z => V.str.inj z)]; exact h)
    | (refine sc rfl ?_; rw [dec_V (f := V.bl) (fun a b z => V.bl.inj z)]; exact h)
theorem op_neG (hu : X.A.units + 64 < cLine) : OpR X (compareOp .NotEq) (rEqG X.K true) := by
  intro pins s σ H x y v u Q I rx ry h
  have gen : (∃ d e, Dp X.K H x d ∧ Dp X.K H y e ∧ SeqAt.shaped d = true ∧ SeqAt.shaped e = true ∧ Q (.bl (!PyData.eqv d e)) H) → wpAny (model X.prog X.w) X.A (compareOp .NotEq v u) (EP X pins σ Q) X.xe s :=
    fun g => op_neD hu pins s σ H _ _ v u Q I rx ry g
  have sc : scal x y = true → Q (.bl (!decide (x = y))) H → wpAny (model X.prog X.w) X.A (compareOp .NotEq v u) (EP X pins σ Q) X.xe s :=
    fun g q => op_ne pins s σ H _ _ v u Q I rx ry ⟨g, q⟩
  cases x <;> cases y <;> first
    | exact gen h
    | (refine sc rfl ?_; rw [dec_V (f := V.int) (fun a b z => V.int.inj z)]; exact h)
    | (refine sc rfl ?_; rw [dec_V (f := V.str) (fun a b z => V.str.inj z)]; exact h)
    | (refine sc rfl ?_; rw [dec_V (f := V.bl) (fun a b z => V.bl.inj z)]; exact h)
/-- x in a list or tuple of flat items; a text in a text -/
def rInG (K : PySem.W.Frag) (neg : Bool) : R2 := fun x y H Q => match y with
  | .ref p => ∃ xs, Sq K H p xs ∧ flatV x = true ∧ xs.all flatV = true ∧ Q (.bl (if neg then !inV x xs else inV x xs)) H
  | .str z => ∃ c : Nat, x = .str ⟨#[c]⟩ ∧ Q (.bl (if neg then !decide (c ∈ z.cps.toList) else decide (c ∈ z.cps.toList))) H
  | _ => False
theorem op_inG (hu : X.A.units + 64 < cLine) : OpR X (compareOp .In) (rInG X.K false) := by
  intro pins s σ H x y v u Q I rx ry h
  cases y <;> try exact (show False from h).elim
  case ref p =>
    obtain ⟨xs, h1, h2, h3, h4⟩ := h
    exact op_in_seq pins s σ H _ _ v u Q I rx ry ⟨p, xs, rfl, h1, h2, h3, h4⟩
  case str z =>
    obtain ⟨c, rfl, q⟩ := h
    exact op_in_sign pins s σ H _ _ v u Q I rx ry ⟨c, z, rfl, rfl, q⟩
theorem op_notInG (hu : X.A.units + 64 < cLine) : OpR X (compareOp .NotIn) (rInG X.K true) := by
  intro pins s σ H x y v u Q I rx ry h
  cases y <;> try exact (show False from h).elim
  case ref p =>
    obtain ⟨xs, h1, h2, h3, h4⟩ := h
    exact op_notIn_seq pins s σ H _ _ v u Q I rx ry ⟨p, xs, rfl, h1, h2, h3, h4⟩
  case str z =>
    obtain ⟨c, rfl, q⟩ := h
    exact op_notIn_sign pins s σ H _ _ v u Q I rx ry ⟨c, z, rfl, rfl, q⟩
def rIsnotG : R2 := fun x y H Q => match y with
  | .non => Q (.bl (!decide (x = .non))) H
  | .bl b => Q (.bl (!decide (x = .bl b))) H
  | _ => False
theorem op_isnotG : OpR X (compareOp .IsNot) rIsnotG := by
  intro pins s σ H x y v u Q I rx ry h
  cases y <;> try exact (show False from h).elim
  case non => exact op_notN pins s σ H _ _ v u Q I rx ry ⟨rfl, h⟩
  case bl b =>
    cases (show u = Value.bool b from ry)
    have q : Q (.bl (!decide (x = .bl b))) H := h
    by_cases e : x = .bl b
    · subst e
      cases (show v = Value.bool b from rx)
      exact wpAny_isNot_self rfl ⟨.bl false, H, I, rfl, by simpa using q⟩
    · exact wpAny_isNot_other (is_plain rx b) (fun z => e (by subst z; exact bool_of rx)) ⟨.bl true, H, I, rfl, by simpa [e] using q⟩
/-! ### subscripts, slices -/
def rIxG (K : PySem.W.Frag) : R2 := fun x y H Q => match x, y with
  | .ref p, .int i => ∃ xs v, Sq K H p xs ∧ atI xs i = some v ∧ Q v H
  | .str z, .int i => ∃ c, z.length ≤ sizeLine ∧ atI z.cps.toList i = some c ∧ Q (.str ⟨#[c]⟩) H
  | _, _ => False
theorem ix_G : IxR X (rIxG X.K) := by
  intro value slice pins s σ H x y v u Q I rx ry h hs
  cases x <;> cases y <;> try exact (show False from h).elim
  case ref.int p i =>
    obtain ⟨xs, w, h1, h2, h3⟩ := h
    rcases h1 with h1 | h1
    · exact ix_list value slice pins s σ H _ _ v u Q I rx ry ⟨p, xs, i, w, rfl, rfl, h1, h2, h3⟩ hs
    · exact ix_tup value slice pins s σ H _ _ v u Q I rx ry ⟨p, xs, i, w, rfl, rfl, h1, h2, h3⟩ hs
  case str.int z i =>
    obtain ⟨c, h1, h2, h3⟩ := h
    exact ix_str value slice pins s σ H _ _ v u Q I rx ry ⟨z, i, c, rfl, rfl, h1, h2, h3⟩ hs
def rSlG (K : PySem.W.Frag) : V → Option Int → Option Int → Hp → VK → Prop := fun x lo hi H Q => match x with
  | .ref a => (∃ xs, SqL K H a xs ∧ ∀ p, H p = none → Q (.ref p) (upd H p (.lst (cutV xs lo hi)))) ∨
      ∃ xs, SqT K H a xs ∧ ∀ p H', Evl.Ex H H' → SqT K H' p (cutV xs lo hi) → (H' = H ∨ (H p = none ∧ H' = upd H p (.tup (cutV xs lo hi)))) → Q (.ref p) H'
  | .str z => z.length ≤ sizeLine ∧ Q (.str (cutS z lo hi)) H
  | _ => False
theorem cutV_whole {xs : List V} {lo hi : Option Int} (h : HT.sIx xs.length 0 lo = 0 ∧ HT.sIx xs.length xs.length hi = xs.length) : cutV xs lo hi = xs := by
  unfold cutV
  rw [h.1, h.2]
  simp
theorem sl_G : SlR X (rSlG X.K) := by
  intro pins s σ H x v vl vu lo hi sl Q I rx hs pl pu h
  cases x <;> try exact (show False from h).elim
  case ref a =>
    rcases (show _ ∨ _ from h) with ⟨xs, h1, h2⟩ | ⟨xs, h1, h2⟩
    · exact sl_list pins s σ H _ v vl vu lo hi sl Q I rx hs pl pu ⟨a, xs, rfl, h1, h2⟩
    · refine sl_tupA pins s σ H _ v vl vu lo hi sl Q I rx hs pl pu ⟨a, xs, rfl, h1, fun e => ?_, fun _ p hp => ?_⟩
      · exact h2 a H (Evl.Ex.refl H) (by rw [cutV_whole e]; exact h1) (.inl rfl)
      · exact h2 p _ (Evl.Ex.new hp) (SqT.of upd_same) (.inr ⟨hp, rfl⟩)
  case str z =>
    obtain ⟨h1, h2⟩ := (show z.length ≤ sizeLine ∧ Q (.str (cutS z lo hi)) H from h)
    exact sl_str pins s σ H _ v vl vu lo hi sl Q I rx hs pl pu ⟨z, rfl, h1, h2⟩
/-! ### what a for walks: a list, a tuple, a text -/
def iGv (K : PySem.W.Frag) (x : V) (H1 : Hp) (R : It → Hp → Prop) : Prop := match x with
  | .ref a => ((∃ xs, SqL K H1 a xs) ∧ R (Itl K a) H1) ∨ ((∃ xs, SqT K H1 a xs) ∧ R (Itt K a) H1)
  | .str z => R (Its z) H1
  | _ => False
def iG (K : PySem.W.Frag) (tl : TE) : TI := fun σ H R => tl σ H fun x H1 => iGv K x H1 R
theorem pi_G {tg l : Expr} {tl : TE} (hl : PE X l tl) : PI X tg l (iG X.K tl) := by
  refine ⟨fun pins s σ H R I h => ?_⟩
  refine thn (hl.run pins s σ H _ I h) fun v s1 ⟨x, H1, I1, r1, q⟩ => ?_
  cases x with
  | ref a =>
    obtain rfl : v = Value.ref a := r1
    rcases (show _ ∨ _ from q) with ⟨⟨xs, hq⟩, q2⟩ | ⟨⟨xs, hq⟩, q2⟩
    · obtain ⟨its, rv, pl, hz⟩ := I1.list hq
      exact wpAny_pyIter_list pl.isList (pi_one (tk := s1.toks) I1 _ (turn_list a _) ⟨_, Heap.get?_push_size _ rfl, rfl, rfl⟩ q2)
    · obtain ⟨its, rv, pl, hz⟩ := I1.tuple hq
      exact wpAny_pyIter_tuple (show s1.heap.IsTuple a its.toArray from pl) (pi_one (tk := s1.toks) I1 _ (turn_tuple a _) ⟨_, Heap.get?_push_size _ rfl, rfl, rfl⟩ q2)
  | str z =>
    obtain ⟨t, rfl⟩ := r1
    cases ha : z.cps.all (· < 128) with
    | false => exact wpAny_pyIter_wide ha (pi_one (tk := s1.toks) I1 _ (turn_str _ z t "str_iterator" (.inr rfl)) ⟨_, Heap.get?_push_size _ rfl, rfl, rfl⟩ q)
    | true => exact wpAny_pyIter_ascii ha (pi_one (tk := s1.toks) I1 _ (turn_str _ z t "str_ascii_iterator" (.inl rfl)) ⟨_, Heap.get?_push_size _ rfl, rfl, rfl⟩ q)
  | _ => exact (show False from q).elim
/-! ### augmented -/
def ipF (f : Int → Int → Int) (C : Int → Int → Prop) : TIp := fun x y H Q => match x, y with
  | .int i, .int j => C i j ∧ Q (.int (f i j)) H
  | _, _ => False
theorem ip_ofI {op : Operator} {f : Int → Int → Int} {C : Int → Int → Prop} (o : OpR X (inplaceOp op) (rI C fun i j => .int (f i j))) : PIp X op (ipF f C) := by
  intro pins s σ H x y v u Q I rx ry h
  cases x <;> cases y <;> try exact (show False from h).elim
  case int.int i j => exact o pins s σ H _ _ v u Q I rx ry ⟨i, j, rfl, rfl, h.1, h.2⟩
theorem ip_ofI0 {op : Operator} {f : Int → Int → Int} (o : OpR X (inplaceOp op) (rI0 fun i j => .int (f i j))) : PIp X op (ipF f fun _ _ => True) := by
  intro pins s σ H x y v u Q I rx ry h
  cases x <;> cases y <;> try exact (show False from h).elim
  case int.int i j => exact o pins s σ H _ _ v u Q I rx ry ⟨i, j, rfl, rfl, h.2⟩
theorem ip_addG : PIp X .Add (ipF (fun i j => i + j) fun _ _ => True) := ip_ofI0 iop_add
theorem ip_subG : PIp X .Sub (ipF (fun i j => i - j) fun _ _ => True) := ip_ofI0 iop_sub
theorem ip_xorG : PIp X .BitXor (ipF (fun i j => Builtin.bitXor i j) fun _ _ => True) := ip_ofI0 iop_xor
theorem ip_mulG : PIp X .Mult (ipF (fun i j => i * j) CMul) := ip_ofI iop_mul
theorem ip_fdivG : PIp X .FloorDiv (ipF (fun i j => i / j) CDiv) := ip_ofI iop_fdiv
theorem ip_modG : PIp X .Mod (ipF (fun i j => i % j) fun _ j => 0 < j) := ip_ofI iop_mod
/-! ### isinstance with one built-in class -/
def tyN (K : PySem.W.Frag) (H : Hp) (x : V) (T : String) : Prop := TyX K H x (.type T)
def isiB (T c : String) : Option Bool := PySem.W.kitOne [] (.type T) (.type c)
theorem call_isiG : CallR X (.builtin "isinstance") (rIsi X.K) := call_isi
theorem hu64 {A : Around} {k : Nat} (hr : Room k A) : A.units + 64 < cLine := hr.units
end
/-! ### a def's contract in one piece -/
structure Cal (P : Program) (w : World) (K : PySem.W.Frag) (mg : Str → Option Value) (base : Heap) (CX : CXT) (k : Nat) (x : Str) (ps : List Str) (sp : Sp) : Prop where
  ex : ∃ (f : Addr) (fd : FuncData), mg x = some (.ref f) ∧ PySem.W.keepIn K (.ref f) = true ∧ Binds K fd ps [] ∧ FnOk P w K mg base CX k f fd ps sp
theorem Cal.mk' {P : Program} {w : World} {K : PySem.W.Frag} {mg : Str → Option Value} {base : Heap} {CX : CXT} {k : Nat} {x : Str} {ps : List Str} {sp : Sp} {f : Addr} {fd : FuncData} (h1 : mg x = some (.ref f)) (h2 : PySem.W.keepIn K (.ref f) = true) (h3 : Binds K fd ps []) (h4 : FnOk P w K mg base CX k f fd ps sp) : Cal P w K mg base CX k x ps sp := ⟨⟨f, fd, h1, h2, h3, h4⟩⟩
def tCal (sp : Sp) (E : XK) (t : TA) : TE := fun σ H Q => t σ H fun vs H1 => sp vs H1 Q E
theorem tCall_nil (sp : Sp) (E : XK) (t : TA) : tCall sp [] E t = tCal sp E t := by
  funext σ H Q
  unfold tCall tCal
  congr 1
  funext vs H1
  rw [List.append_nil]
section
variable {X : Cx} {CX : CXT} {k : Nat} {x : Str} {ps : List Str} {sp : Sp} {E : XK} {e : Expr} {es : List Expr} {t : TA} {p pos : Pos}
theorem pe_cal (C : Cal X.prog X.w X.K X.mg X.base CX k x ps sp) (hr : Room k X.A) (hg : Gl X x) (hx : Passes CX X E) (ha : PA X (e :: es) t) (hdb : (x == ("__debug__" : Str)) = false := by decide)
    (he : starEach (e :: es) X.env = (false, eval e X.env) :: starEach es X.env := by rfl) (hpl : (backTo pos (starEach es X.env)).any (·.1) = false := by rfl) :
    PE X (.Call (.Name x p) (e :: es) [] pos) (tCal sp E t) := by
  obtain ⟨f, fd, h1, h2, h3, h4⟩ := C.ex
  rw [← tCall_nil]
  exact pe_call h4 hr hg h1 h2 h3 .nil hx ha hdb he hpl
theorem pe_cal0 (C : Cal X.prog X.w X.K X.mg X.base CX k x ps sp) (hr : Room k X.A) (hg : Gl X x) (hx : Passes CX X E) (hdb : (x == ("__debug__" : Str)) = false := by decide) :
    PE X (.Call (.Name x p) [] [] pos) (tCal sp E tNil) := by
  obtain ⟨f, fd, h1, h2, h3, h4⟩ := C.ex
  rw [← tCall_nil]
  exact pe_call0 h4 hr hg h1 h2 h3 .nil hx hdb
theorem pe_globD {u : Addr} (hg : Gl X x) (hm : X.mg x = some (.ref u)) (hd : (x == ("__debug__" : Str)) = false := by decide) : PE X (.Name x pos) (tC (.ref u)) := pe_glob hg hm rfl hd
end
/-! ### the head's facts in one piece; ex: what else K says -/
abbrev Ex1 : Type := PySem.W.Frag → Bool
def exAll (ex : List Ex1) (K : PySem.W.Frag) : Bool := ex.all fun f => f K
abbrev AlE : Type := He.AlD × Bool
def obsE (fa : List He.Fa) (fn : List He.DefD) (ex : List Ex1) (K : PySem.W.Frag) : AlE := (He.obsD fa fn K, exAll ex K)
def obsEG (n : Nat) (fa : List He.Fa) (fn : List He.DefD) (ex : List Ex1) (g : Addr → Option Obj) : AlE := obsE fa fn ex (He.frG g (He.asD g n))
def hookE (n : Nat) (fa : List He.Fa) (fn : List He.DefD) (ex : List Ex1) : PySem.W.Hook where
  α := AlE
  obs := fun s => obsEG n fa fn ex s.heap.get?
  val := fun _ => (He.valD fn, true)
  says := fun _ h => ∃ K : PySem.W.Frag, K.In h ∧ He.SaysD fa fn K ∧ exAll ex K = true
  of := fun _ _ e => ⟨_, He.frG_in, congrArg (fun z : AlE => z.1) e, congrArg (fun z : AlE => z.2) e⟩
  keeps := fun _ _ _ ⟨K, hK, c⟩ k => ⟨K, PySem.W.Frag.In.keeps hK k, c⟩
theorem obsEG_eq {n : Nat} {fa : List He.Fa} {fn : List He.DefD} {ex : List Ex1} {g : Addr → Option Obj} {s : Shared} (h : ∀ a, g a = s.heap.get? a) : obsEG n fa fn ex g = (hookE n fa fn ex).obs s := by
  have e : g = s.heap.get? := funext h
  rw [e] <;> rfl
structure Hd (fa : List He.Fa) (fn : List He.DefD) (ex : List Ex1) (K : PySem.W.Frag) (mg : Str → Option Value) : Prop where
  hp : ∃ h : Heap, K.In h ∧ h.Ns mainGlobals mg
  c : He.SaysD fa fn K
  x : exAll ex K = true
section
variable {fa : List He.Fa} {fn : List He.DefD} {ex : List Ex1} {K : PySem.W.Frag} {mg : Str → Option Value}
theorem Hd.free (hd : Hd fa fn ex K mg) {x : Str} (i : Nat) (h : fa[i]? = some (.free x) := by rfl) : mg x = none := by
  obtain ⟨hh, X, G⟩ := hd.hp
  exact He.free_ok X G (hd.c.fact i h)
theorem Hd.glo (hd : Hd fa fn ex K mg) {x : Str} (i : Nat) (h : fa[i]? = some (.glo x) := by rfl) : mg x = some (.ref (He.ga K x)) := by
  obtain ⟨hh, X, G⟩ := hd.hp
  exact He.glo_ok X G (hd.c.fact i h)
theorem Hd.def_ (hd : Hd fa fn ex K mg) (i : Nat) {d : He.DefD} (h : fn[i]? = some d := by rfl) : ∃ fd, FunD K d.name d.qual d.params d.body d.scope (d.dvs K) (d.kws K) (He.fAd K d.at_) fd := hd.c.def_ i h
theorem Hd.more (hd : Hd fa fn ex K mg) (i : Nat) {f : Ex1} (h : ex[i]? = some f := by rfl) : f K = true := List.all_eq_true.mp hd.x f (List.mem_of_getElem? h)
end
/-! ### promises by the number of parameters -/
def sp0 (p : Hp → VK → XK → Prop) : Sp := fun vs H Q E => vs = [] ∧ p H Q E
def sp1 (p : V → Hp → VK → XK → Prop) : Sp := fun vs H Q E => ∃ a, vs = [a] ∧ p a H Q E
def sp2 (p : V → V → Hp → VK → XK → Prop) : Sp := fun vs H Q E => ∃ a b, vs = [a, b] ∧ p a b H Q E
def sp3 (p : V → V → V → Hp → VK → XK → Prop) : Sp := fun vs H Q E => ∃ a b c, vs = [a, b, c] ∧ p a b c H Q E
def sp4 (p : V → V → V → V → Hp → VK → XK → Prop) : Sp := fun vs H Q E => ∃ a b c d, vs = [a, b, c, d] ∧ p a b c d H Q E
def sp5 (p : V → V → V → V → V → Hp → VK → XK → Prop) : Sp := fun vs H Q E => ∃ a b c d e, vs = [a, b, c, d, e] ∧ p a b c d e H Q E
def sp6 (p : V → V → V → V → V → V → Hp → VK → XK → Prop) : Sp := fun vs H Q E => ∃ a b c d e f, vs = [a, b, c, d, e, f] ∧ p a b c d e f H Q E
end KP

/-! One step of a reading at a time: each lemma's conclusion begins with one reading's head. -/
namespace KP
open PySem PySem.Spec PyProof.Rows L2 Evl
section
variable {σ : L2.St} {H : Hp} {D : Ends} {t u tb2 : TS} {ta tb tc te : TE} {c c2 : TT} {g : TG} {i : Nat} {v x y : V} {Q : VK} {K : PySem.W.Frag} {a b cc d : L2.St → Hp → Prop} {r : VK} {tas : TA}
theorem w_seq (h : t ⟨u D, D.rt, D.bk, D.ct⟩ σ H) : tSeq t u D σ H := h
theorem w_cut (Mid : L2.St → Hp → Prop) (h1 : t ⟨Mid, D.rt, D.bk, D.ct⟩ σ H) (h2 : ∀ σ' H', Mid σ' H' → u D σ' H') : Evl.tCut t u D σ H := ⟨Mid, h1, h2⟩
theorem w_nx (h : a σ H) : Ends.nx ⟨a, r, b, cc⟩ σ H := h
theorem w_rt (h : r v H) : Ends.rt ⟨a, r, b, cc⟩ v H := h
theorem w_bk (h : b σ H) : Ends.bk ⟨a, r, b, cc⟩ σ H := h
theorem w_ct (h : cc σ H) : Ends.ct ⟨a, r, b, cc⟩ σ H := h
theorem w_next (h : D.nx σ H) : tNext D σ H := h
theorem w_break (h : D.bk σ H) : tBreak D σ H := h
theorem w_cont (h : D.ct σ H) : tCont D σ H := h
theorem w_asg (h : te σ H fun x H1 => g x σ H1 D.nx) : tAsg te g D σ H := h
theorem w_gname {R : L2.St → Hp → Prop} (h : R (σ.set i (some v)) H) : gName i v σ H R := h
theorem w_drop (h : te σ H fun _ H1 => D.nx σ H1) : tDrop te D σ H := h
theorem w_ret (h : te σ H D.rt) : tRet te D σ H := h
theorem w_retN (h : D.rt .non H) : tRetN D σ H := h
theorem w_if (h : c σ H fun b H1 => if b = true then t D σ H1 else u D σ H1) : tIfS c t u D σ H := h
theorem w_aug {ti : TIp} (h0 : σ[i]? = some (some x)) (h : te σ H fun y H1 => ti x y H1 fun z H2 => D.nx (σ.set i (some z)) H2) : tAug i te ti D σ H := ⟨x, h0, h⟩
theorem w_gsub {to ti : TE} {s : TSet} {R : L2.St → Hp → Prop} (h : to σ H fun o H1 => ti σ H1 fun j H2 => s o j v H2 fun H3 => R σ H3) : gSub to ti s v σ H R := h
theorem w_setL {p : Addr} {xs : List V} {k : Int} {j : Nat} {R : Hp → Prop} (h1 : H p = some (.lst xs)) (h2 : ixN xs.length k = some j) (h : R (upd H p (.lst (xs.set j v)))) : rSetL (.ref p) (.int k) v H R := ⟨p, xs, k, j, rfl, rfl, h1, h2, h⟩
theorem w_gtup {p : Addr} {xs : List V} {n : Nat} {tg : TGs} {R : L2.St → Hp → Prop} (h1 : SqT K H p xs) (h2 : xs.length = n) (h : tg xs σ H R) : gTup K n tg (.ref p) σ H R := ⟨p, xs, rfl, h1, h2, h⟩
theorem w_gcons {tg : TGs} {vs : List V} {R : L2.St → Hp → Prop} (h : g v σ H fun σ' H' => tg vs σ' H' R) : gCons g tg (v :: vs) σ H R := ⟨v, vs, rfl, h⟩
theorem w_gnil {R : L2.St → Hp → Prop} (h : R σ H) : gNil [] σ H R := ⟨rfl, h⟩
/-! expressions -/
theorem w_var (h0 : σ[i]? = some (some v)) (h : Q v H) : tVar i σ H Q := ⟨v, h0, h⟩
theorem w_c (h : Q v H) : tC v σ H Q := h
theorem w_op {r : R2} (h : ta σ H fun x H1 => tb σ H1 fun y H2 => r x y H2 Q) : tOp r ta tb σ H Q := h
theorem w_un {r : V → Hp → VK → Prop} (h : ta σ H fun x H1 => r x H1 Q) : tUn r ta σ H Q := h
theorem w_nil {R : List V → Hp → Prop} (h : R [] H) : tNil σ H R := h
theorem w_cons {R : List V → Hp → Prop} (h : ta σ H fun x H1 => tas σ H1 fun xs H2 => R (x :: xs) H2) : tCons ta tas σ H R := h
theorem w_cb {r : List V → Hp → VK → Prop} (h : tas σ H fun vs H1 => r vs H1 Q) : tCB r tas σ H Q := h
theorem w_cal {sp : Sp} {E : XK} (h : tas σ H fun vs H1 => sp vs H1 Q E) : tCal sp E tas σ H Q := h
/-- the value is a bool, with which R holds -/
def BlOk (x : V) (R : Bool → Prop) : Prop := ∃ k, x = .bl k ∧ R k
/-- the value's truth, with which R holds -/
def TruOk (K : PySem.W.Frag) (x : V) (H : Hp) (R : Bool → Hp → Prop) : Prop := ∃ k, TruV K x H k ∧ R k H
def tTruG (K : PySem.W.Frag) (ta : TE) : TT := fun σ H R => ta σ H fun x H' => TruOk K x H' R
theorem pt_truG {X : Cx} {e : Expr} {te : TE} (he : PE X e te) (hw : ∀ whole, isTrue e X.env whole = (do let v ← whole; standAt e.pos; holding [v] (truthy v))) : PT X e (tTruG X.K te) := pt_truth he hw
theorem w_truG {R : Bool → Hp → Prop} (h : te σ H fun x H' => TruOk K x H' R) : tTruG K te σ H R := h
theorem w_test {R : Bool → Hp → Prop} (h : te σ H fun x H' => BlOk x fun k => R k H') : tTest te σ H R := h
theorem w_tB {R : Bool → Hp → Prop} (h : te σ H fun x H' => BlOk x fun k => R k H') : tB te σ H R := h
theorem w_bl {k : Bool} {R : Bool → Prop} (h : R k) : BlOk (.bl k) R := ⟨k, rfl, h⟩
theorem w_tru {k : Bool} {R : Bool → Hp → Prop} (h : R k H) : TruOk K (.bl k) H R := ⟨k, rfl, h⟩
theorem w_truI {k : Int} {R : Bool → Hp → Prop} (h : R (k != 0) H) : TruOk K (.int k) H R := ⟨_, rfl, h⟩
theorem w_truN {R : Bool → Hp → Prop} (h : R false H) : TruOk K .non H R := ⟨_, rfl, h⟩
theorem w_truL {p : Addr} {xs : List V} {R : Bool → Hp → Prop} (h1 : Sq K H p xs) (h : R (!xs.isEmpty) H) : TruOk K (.ref p) H R := by
  rcases h1 with h1 | h1
  · exact ⟨_, .inl ⟨xs, h1, rfl⟩, h⟩
  · exact ⟨_, .inr (.inl ⟨xs, h1, rfl⟩), h⟩
theorem w_not {R : Bool → Hp → Prop} (h : c σ H fun b H1 => R (!b) H1) : tNot c σ H R := h
theorem w_and {R : Bool → Hp → Prop} (h : c σ H fun b H1 => if b = true then c2 σ H1 R else R false H1) : tAnd c c2 σ H R := h
theorem w_or {R : Bool → Hp → Prop} (h : c σ H fun b H1 => if b = true then R true H1 else c2 σ H1 R) : tOr c c2 σ H R := h
theorem w_andV (h : ta σ H fun x H1 => BlOk x fun b => if b = true then tb σ H1 Q else Q (.bl false) H1) : tAndV ta tb σ H Q := h
theorem w_orV (h : ta σ H fun x H1 => BlOk x fun b => if b = true then Q (.bl true) H1 else tb σ H1 Q) : tOrV ta tb σ H Q := h
theorem w_notV (h : ta σ H fun x H1 => BlOk x fun b => Q (.bl (!b)) H1) : tNotV ta σ H Q := h
theorem w_ife (h : c σ H fun b H1 => if b = true then ta σ H1 Q else tb σ H1 Q) : tIf c ta tb σ H Q := h
theorem w_chain {r1 r2 : R2} (h : ta σ H fun x H1 => tb σ H1 fun y H2 => r1 x y H2 fun z H3 => BlOk z fun k => if k = true then tc σ H3 fun w' H4 => r2 y w' H4 Q else Q (.bl false) H3) : tChain r1 r2 ta tb tc σ H Q := h
theorem w_tup (h : tas σ H fun xs H1 => xs.length ≤ sizeLine ∧ ∀ p, H1 p = none → Q (.ref p) (upd H1 p (.tup xs))) : tTup tas σ H Q := h
theorem w_lst (h : tas σ H fun xs H1 => xs.length ≤ sizeLine ∧ ∀ p, H1 p = none → Q (.ref p) (upd H1 p (.lst xs))) : tLst tas σ H Q := h
theorem w_sl {rr : V → Option Int → Option Int → Hp → VK → Prop} {tl th : TO} (h : te σ H fun x H1 => tl σ H1 fun l H2 => th σ H2 fun u H3 => rr x l u H3 Q) : tSl rr te tl th σ H Q := h
theorem w_nopart {R : Option Int → Hp → Prop} (h : R none H) : tNoPart σ H R := h
/-- the value is an int, with which R holds -/
def IntOk (x : V) (R : Int → Prop) : Prop := ∃ k, x = .int k ∧ R k
theorem w_part {R : Option Int → Hp → Prop} (h : te σ H fun x H1 => IntOk x fun k => R (some k) H1) : tPart te σ H R := h
theorem w_pint {k : Int} {R : Int → Prop} (h : R k) : IntOk (.int k) R := ⟨k, rfl, h⟩
theorem w_bm {T : String} {rr : V → List V → Hp → VK → Prop} (h : te σ H fun x H1 => tyV K T x H1 ∧ tas σ H1 fun xs H2 => rr x xs H2 Q) : tBM K T rr te tas σ H Q := h
theorem w_bm0 {T : String} {rr : V → List V → Hp → VK → Prop} (h : te σ H fun x H1 => tyV K T x H1 ∧ rr x [] H1 Q) : tBM0 K T rr te σ H Q := h
/-! values -/
theorem w_addI {i j : Int} (h : Q (.int (i + j)) H) : rAddG K (.int i) (.int j) H Q := h
theorem w_catL {p q : Addr} {xs zs : List V} (h1 : H p = some (.lst xs)) (h2 : H q = some (.lst zs)) (h3 : xs.length + zs.length ≤ 100000) (h : ∀ n, H n = none → Q (.ref n) (upd H n (.lst (xs ++ zs)))) : rAddG K (.ref p) (.ref q) H Q :=
  .inl ⟨xs, zs, h1, h2, sz_of h3, h⟩
theorem w_catT {p q : Addr} {xs zs : List V} (h1 : SqT K H p xs) (h2 : SqT K H q zs) (h3 : xs.length + zs.length ≤ 100000) (h : ∀ n H', Evl.Ex H H' → SqT K H' n (xs ++ zs) → Q (.ref n) H') : rAddG K (.ref p) (.ref q) H Q :=
  .inr ⟨xs, zs, h1, h2, sz_of h3, fun n H' e s _ => h n H' e s⟩
theorem w_I0 {gg : Int → Int → V} {i j : Int} (h : Q (gg i j) H) : rI0 gg (.int i) (.int j) H Q := ⟨i, j, rfl, rfl, h⟩
theorem w_I {C : Int → Int → Prop} {gg : Int → Int → V} {i j : Int} (hc : C i j) (h : Q (gg i j) H) : rI C gg (.int i) (.int j) H Q := ⟨i, j, rfl, rfl, hc, h⟩
theorem w_U {gg : Int → V} {i : Int} (h : Q (gg i) H) : rU gg (.int i) H Q := ⟨i, rfl, h⟩
theorem w_mulI {i j : Int} (hc : CMul i j ∨ CMulW i j) (h : Q (.int (i * j)) H) : rMulG (.int i) (.int j) H Q := ⟨hc, h⟩
theorem w_ord {f : Int → Int → Bool} {i j : Int} (h : Q (.bl (f i j)) H) : rOrdG K f (.int i) (.int j) H Q := h
theorem w_eqI {i j : Int} (h : Q (.bl (decide (i = j))) H) : rEqG K false (.int i) (.int j) H Q := h
theorem w_neI {i j : Int} (h : Q (.bl (!decide (i = j))) H) : rEqG K true (.int i) (.int j) H Q := h
theorem w_eqS {i j : Str} (h : Q (.bl (decide (i = j))) H) : rEqG K false (.str i) (.str j) H Q := h
theorem w_neS {i j : Str} (h : Q (.bl (!decide (i = j))) H) : rEqG K true (.str i) (.str j) H Q := h
theorem w_eqB {i j : Bool} (h : Q (.bl (decide (i = j))) H) : rEqG K false (.bl i) (.bl j) H Q := h
theorem w_neB {i j : Bool} (h : Q (.bl (!decide (i = j))) H) : rEqG K true (.bl i) (.bl j) H Q := h
theorem w_isN (h : Q (.bl (decide (x = .non))) H) : rIsG x .non H Q := h
theorem w_isB {k : Bool} (h : Q (.bl (decide (x = .bl k))) H) : rIsG x (.bl k) H Q := h
theorem w_isnotN (h : Q (.bl (!decide (x = .non))) H) : rIsnotG x .non H Q := h
theorem w_isnotB {k : Bool} (h : Q (.bl (!decide (x = .bl k))) H) : rIsnotG x (.bl k) H Q := h
theorem w_ix {p : Addr} {xs : List V} {k : Int} (h1 : Sq K H p xs) (h2 : atI xs k = some v) (h : Q v H) : rIxG K (.ref p) (.int k) H Q := ⟨xs, v, h1, h2, h⟩
theorem w_ipF {f : Int → Int → Int} {C : Int → Int → Prop} {i j : Int} (hc : C i j) (h : Q (.int (f i j)) H) : ipF f C (.int i) (.int j) H Q := ⟨hc, h⟩
theorem w_append {l : Addr} {xs : List V} (h1 : H l = some (.lst xs)) (h2 : xs.length < sizeLine) (h : Q .non (upd H l (.lst (xs ++ [y])))) : rAppend (.ref l) [y] H Q := ⟨l, xs, y, rfl, rfl, h1, h2, h⟩
theorem ty_list {p : Addr} {xs : List V} (h : H p = some (.lst xs)) : tyV K "list" (.ref p) H := Or.inl ⟨rfl, xs, SqL.of h⟩
theorem w_tyL {p : Addr} {xs : List V} {R : Prop} (h1 : H p = some (.lst xs)) (h : R) : tyV K "list" (.ref p) H ∧ R := ⟨ty_list h1, h⟩
theorem w_sz {n : Nat} {R : Prop} (h1 : n ≤ 100000) (h : R) : n ≤ sizeLine ∧ R := ⟨sz_of h1, h⟩
/-! promises -/
section
variable {E : XK} {v0 v1 v2 v3 v4 v5 : V}
theorem w_sp0 {p : Hp → VK → XK → Prop} (h : p H Q E) : sp0 p [] H Q E := ⟨rfl, h⟩
theorem w_sp1 {p : V → Hp → VK → XK → Prop} (h : p v0 H Q E) : sp1 p [v0] H Q E := ⟨_, rfl, h⟩
theorem w_sp2 {p : V → V → Hp → VK → XK → Prop} (h : p v0 v1 H Q E) : sp2 p [v0, v1] H Q E := ⟨_, _, rfl, h⟩
theorem w_sp3 {p : V → V → V → Hp → VK → XK → Prop} (h : p v0 v1 v2 H Q E) : sp3 p [v0, v1, v2] H Q E := ⟨_, _, _, rfl, h⟩
theorem w_sp4 {p : V → V → V → V → Hp → VK → XK → Prop} (h : p v0 v1 v2 v3 H Q E) : sp4 p [v0, v1, v2, v3] H Q E := ⟨_, _, _, _, rfl, h⟩
theorem w_sp5 {p : V → V → V → V → V → Hp → VK → XK → Prop} (h : p v0 v1 v2 v3 v4 H Q E) : sp5 p [v0, v1, v2, v3, v4] H Q E := ⟨_, _, _, _, _, rfl, h⟩
theorem w_sp6 {p : V → V → V → V → V → V → Hp → VK → XK → Prop} (h : p v0 v1 v2 v3 v4 v5 H Q E) : sp6 p [v0, v1, v2, v3, v4, v5] H Q E := ⟨_, _, _, _, _, _, rfl, h⟩
end
/-! tests -/
theorem kite_d {p : Prop} [Decidable p] {A B : Prop} (h1 : p → A) (h2 : ¬ p → B) : if decide p = true then A else B := by
  by_cases h : p
  · rw [decide_eq_true h]
    exact h1 h
  · rw [decide_eq_false h]
    exact h2 h
theorem kite_nd {p : Prop} [Decidable p] {A B : Prop} (h1 : ¬ p → A) (h2 : p → B) : if (!decide p) = true then A else B := by
  by_cases h : p
  · rw [decide_eq_true h]
    exact h2 h
  · rw [decide_eq_false h]
    exact h1 h
theorem kite_tt {A B : Prop} {i : Decidable (true = true)} (h : A) : @ite Prop (true = true) i A B := by rw [if_pos rfl]; exact h
theorem kite_ff {A B : Prop} {i : Decidable (false = true)} (h : B) : @ite Prop (false = true) i A B := by rw [if_neg Bool.false_ne_true]; exact h
theorem kite_nt {A B : Prop} {i : Decidable ((!true) = true)} (h : B) : @ite Prop ((!true) = true) i A B := if_neg (c := (!true) = true) Bool.false_ne_true ▸ h
theorem kite_nf {A B : Prop} {i : Decidable ((!false) = true)} (h : A) : @ite Prop ((!false) = true) i A B := if_pos (c := (!false) = true) rfl ▸ h
theorem kite_b {k : Bool} {A B : Prop} (h1 : k = true → A) (h2 : k = false → B) : if k = true then A else B := by
  cases k with
  | true => exact h1 rfl
  | false => exact h2 rfl
theorem kite_nb {k : Bool} {A B : Prop} (h1 : k = false → A) (h2 : k = true → B) : if (!k) = true then A else B := by
  cases k with
  | true => exact h2 rfl
  | false => exact h1 rfl
/-! heaps -/
theorem hp_new {p q : Addr} {o u : HO} (hn : H q = none) (h : H p = some u) : upd H q o p = some u := by rw [upd_ne (ne_of_none h hn)]; exact h
theorem hp_ne {p q : Addr} {o u : HO} (hn : p ≠ q) (h : H p = some u) : upd H q o p = some u := by rw [upd_ne hn]; exact h
end
/-! promises of the built-ins, named -/
theorem hp_ex {H H' : Hp} {p : Addr} {u : HO} (e : Evl.Ex H H') (h : H p = some u) : H' p = some u := e p u h
section
variable {X : Cx}
def rLenG (K : PySem.W.Frag) : List V → Hp → VK → Prop := fun xs H Q => (∃ p ys, xs = [.ref p] ∧ Sq K H p ys ∧ (ys.length ≤ sizeLine → Q (.int ys.length) H)) ∨ ∃ z, xs = [.str z] ∧ z.length ≤ sizeLine ∧ Q (.int z.length) H
def rAbsG : List V → Hp → VK → Prop := fun xs H Q => ∃ i, xs = [.int i] ∧ Q (.int (if i < 0 then -i else i)) H
def rMinG : List V → Hp → VK → Prop := fun xs H Q => ∃ i j, xs = [.int i, .int j] ∧ Q (.int (if j < i then j else i)) H
def rMaxG : List V → Hp → VK → Prop := fun xs H Q => ∃ i j, xs = [.int i, .int j] ∧ Q (.int (if j > i then j else i)) H
def rIntG : List V → Hp → VK → Prop := fun xs H Q => (∃ i, xs = [.int i] ∧ Q (.int i) H) ∨ ∃ k, xs = [.bl k] ∧ Q (.int (if k then 1 else 0)) H
def rListG (K : PySem.W.Frag) : List V → Hp → VK → Prop := fun xs H Q => ∃ p ys, xs = [.ref p] ∧ (SqL K H p ys ∨ SqT K H p ys) ∧ ∀ l, H l = none → Q (.ref l) (upd H l (.lst ys))
def rTupG (K : PySem.W.Frag) : List V → Hp → VK → Prop := fun xs H Q => ∃ p ys, xs = [.ref p] ∧ ((SqL K H p ys ∧ ∀ l, H l = none → Q (.ref l) (upd H l (.tup ys))) ∨ (SqT K H p ys ∧ Q (.ref p) H))
theorem g_len : CallR X (.builtin "len") (rLenG X.K) := by
  intro pins s σ H xs us Q I r h
  rcases h with ⟨p, ys, rfl, hs, q⟩ | ⟨z, rfl, hz, q⟩
  · rcases hs with hs | hs
    · obtain ⟨_, _, _, hz⟩ := I.list hs
      exact call_len pins s σ H _ us Q I r ⟨.ref p, ys.length, rfl, .inl ⟨ys, hs, rfl⟩, q hz⟩
    · obtain ⟨_, _, _, hz⟩ := I.tuple hs
      exact call_len pins s σ H _ us Q I r ⟨.ref p, ys.length, rfl, .inr ⟨ys, hs, rfl⟩, q hz⟩
  · exact call_len pins s σ H _ us Q I r ⟨.str z, z.length, rfl, ⟨hz, rfl⟩, q⟩
theorem g_abs : CallR X (.builtin "abs") rAbsG := call_abs
theorem g_min (hc : X.calm = true) : CallR X (.builtin "min") rMinG := call_min2 hc
theorem g_max (hc : X.calm = true) : CallR X (.builtin "max") rMaxG := call_max2 hc
theorem g_int : CallR X (.type "int") rIntG := call_int1
theorem g_list : CallR X (.type "list") (rListG X.K) := call_list_of
theorem g_tuple : CallR X (.type "tuple") (rTupG X.K) := call_tuple_of
end
section
variable {H : Hp} {Q : VK} {K : PySem.W.Frag}
theorem w_len {p : Addr} {xs : List V} (h1 : Sq K H p xs) (h : Q (.int xs.length) H) : rLenG K [.ref p] H Q := .inl ⟨p, xs, rfl, h1, fun _ => h⟩
/-- .. with the length's bound -/
theorem w_lenB {p : Addr} {xs : List V} (h1 : Sq K H p xs) (h : xs.length ≤ sizeLine → Q (.int xs.length) H) : rLenG K [.ref p] H Q := .inl ⟨p, xs, rfl, h1, h⟩
/-- .. as a number -/
theorem w_lenN {p : Addr} {xs : List V} (h1 : Sq K H p xs) (h : xs.length ≤ 16777216 → Q (.int xs.length) H) : rLenG K [.ref p] H Q := .inl ⟨p, xs, rfl, h1, fun z => h (Nat.le_trans z (Nat.le_of_eq sizeLine_eq))⟩
/-- a starred part of a display -/
def StarOk (K : PySem.W.Frag) (x : V) (H : Hp) (R : List V → Prop) : Prop := ∃ p xs, x = V.ref p ∧ (SqT K H p xs ∨ SqL K H p xs) ∧ R xs
theorem w_star {σ : L2.St} {te : TE} {t : TA} {R : List V → Hp → Prop} (h : te σ H fun x H1 => StarOk K x H1 fun xs => t σ H1 fun ys H2 => R (xs ++ ys) H2) : StX.tStar K te t σ H R := h
theorem w_starR {p : Addr} {xs : List V} {R : List V → Prop} (h1 : Sq K H p xs) (h : R xs) : StarOk K (.ref p) H R := ⟨p, xs, rfl, h1.symm, h⟩
theorem w_in {x : V} {p : Addr} {xs : List V} (h1 : Sq K H p xs) (h2 : flatV x = true) (h3 : xs.all flatV = true) (h : Q (.bl (inV x xs)) H) : rInG K false x (.ref p) H Q := ⟨xs, h1, h2, h3, h⟩
theorem w_notin {x : V} {p : Addr} {xs : List V} (h1 : Sq K H p xs) (h2 : flatV x = true) (h3 : xs.all flatV = true) (h : Q (.bl (!inV x xs)) H) : rInG K true x (.ref p) H Q := ⟨xs, h1, h2, h3, h⟩
theorem w_lenS {z : Str} (h1 : z.length ≤ sizeLine) (h : Q (.int z.length) H) : rLenG K [.str z] H Q := .inr ⟨z, rfl, h1, h⟩
theorem w_ixS {z : Str} {k : Int} {c : Nat} (h1 : z.length ≤ sizeLine) (h2 : atI z.cps.toList k = some c) (h : Q (.str ⟨#[c]⟩) H) : rIxG K (.str z) (.int k) H Q := ⟨c, h1, h2, h⟩
theorem w_abs {i : Int} (h : Q (.int (if i < 0 then -i else i)) H) : rAbsG [.int i] H Q := ⟨i, rfl, h⟩
theorem w_min {i j : Int} (h : Q (.int (if j < i then j else i)) H) : rMinG [.int i, .int j] H Q := ⟨i, j, rfl, h⟩
theorem w_max {i j : Int} (h : Q (.int (if j > i then j else i)) H) : rMaxG [.int i, .int j] H Q := ⟨i, j, rfl, h⟩
theorem w_int {i : Int} (h : Q (.int i) H) : rIntG [.int i] H Q := .inl ⟨i, rfl, h⟩
theorem w_list {p : Addr} {xs : List V} (h1 : Sq K H p xs) (h : ∀ l, H l = none → Q (.ref l) (upd H l (.lst xs))) : rListG K [.ref p] H Q := ⟨p, xs, rfl, h1, h⟩
theorem w_tupL {p : Addr} {xs : List V} (h1 : SqL K H p xs) (h : ∀ l, H l = none → Q (.ref l) (upd H l (.tup xs))) : rTupG K [.ref p] H Q := ⟨p, xs, rfl, .inl ⟨h1, h⟩⟩
theorem w_tupT {p : Addr} {xs : List V} (h1 : SqT K H p xs) (h : Q (.ref p) H) : rTupG K [.ref p] H Q := ⟨p, xs, rfl, .inr ⟨h1, h⟩⟩
/-- isinstance(x, a built-in class): the two classes' names decide -/
theorem w_isi {x : V} {T c : String} {b : Bool} (h1 : TyX K H x (.type T)) (h2 : PySem.W.kitOne K (.type T) (.type c) = some b) (h : Q (.bl b) H) : rIsi K [x, .ty c] H Q := ⟨x, .ty c, .type T, .type c, b, rfl, .ty c, h1, h2, h⟩
end
end KP

/-! Loops, comprehensions, data, drawers. -/
namespace KP
open PySem PySem.Spec PyProof.Rows L2 Evl
/-! ### loops -/
def ForOk (J : It) (g : TG) (tb : TS) (D : Ends) (σ : L2.St) (H1 : Hp) : Prop := ∃ W : Nat → Nat → L2.St → Hp → Prop, (∃ m, W 0 m σ H1) ∧ ∀ i m σ H, W i m σ H →
  (J.stop i H ∧ D.nx σ H) ∨ (J.go i H ∧ ∃ N : L2.St → Hp → Prop, (∀ σ' H', N σ' H' → ∃ m', m' < m ∧ W (i + 1) m' σ' H') ∧ ∀ x H', J.yld i H x H' → g x σ H' fun σ2 H2 => tb { D with nx := N, ct := N, bk := D.nx } σ2 H2)
section
variable {σ : L2.St} {H : Hp} {D : Ends} {tb : TS} {tl : TE} {g : TG} {wi : TI} {K : PySem.W.Frag} {tas : TA}
theorem w_for (h : wi σ H fun J H1 => ForOk J g tb D σ H1) : tFor wi g tb D σ H := h
theorem w_iG {R : It → Hp → Prop} (h : tl σ H fun x H1 => iGv K x H1 R) : iG K tl σ H R := h
def iR1v (vs : List V) (H1 : Hp) (R : It → Hp → Prop) : Prop := ∃ j : Int, vs = [.int j] ∧ -(2 ^ 62) ≤ j ∧ j < 2 ^ 62 ∧ R (Itr 0 j.toNat) H1
def iR2v (vs : List V) (H1 : Hp) (R : It → Hp → Prop) : Prop := ∃ i j : Int, vs = [.int i, .int j] ∧ (-(2 ^ 62) ≤ i ∧ i < 2 ^ 62 ∧ -(2 ^ 62) ≤ j ∧ j < 2 ^ 62) ∧ R (Itr i (j - i).toNat) H1
theorem w_iR1 {R : It → Hp → Prop} (h : tas σ H fun vs H1 => iR1v vs H1 R) : iRng1 tas σ H R := h
theorem w_iR2 {R : It → Hp → Prop} (h : tas σ H fun vs H1 => iR2v vs H1 R) : iRng2 tas σ H R := h
theorem w_forL {p : Addr} {xs : List V} (hS : SqL K H p xs) (Pv : Nat → L2.St → Hp → Prop) (h0 : Pv 0 σ H) (hl : ∀ i σ H, i ≤ xs.length → Pv i σ H → SqL K H p xs)
    (hs : ∀ i x σ H, xs[i]? = some x → Pv i σ H → g x σ H fun σ2 H2 => tb ⟨Pv (i + 1), D.rt, D.nx, Pv (i + 1)⟩ σ2 H2) (hd : ∀ σ H, Pv xs.length σ H → D.nx σ H) : iGv K (.ref p) H fun J H1 => ForOk J g tb D σ H1 :=
  .inl ⟨⟨xs, hS⟩, for_list Pv h0 hl hs hd⟩
theorem w_forT {p : Addr} {xs : List V} (hS : SqT K H p xs) (Pv : Nat → L2.St → Hp → Prop) (h0 : Pv 0 σ H) (hl : ∀ i σ H, i ≤ xs.length → Pv i σ H → SqT K H p xs)
    (hs : ∀ i x σ H, xs[i]? = some x → Pv i σ H → g x σ H fun σ2 H2 => tb ⟨Pv (i + 1), D.rt, D.nx, Pv (i + 1)⟩ σ2 H2) (hd : ∀ σ H, Pv xs.length σ H → D.nx σ H) : iGv K (.ref p) H fun J H1 => ForOk J g tb D σ H1 :=
  .inr ⟨⟨xs, hS⟩, for_tup Pv h0 hl hs hd⟩
/-- over range(n) -/
theorem w_forR1 {n : Int} (hn : n < 2 ^ 62) (hn0 : -(2 ^ 62) ≤ n) (Pv : Nat → L2.St → Hp → Prop) (h0 : Pv 0 σ H)
    (hs : ∀ (i : Nat) σ H, (i : Int) < n → Pv i σ H → g (.int i) σ H fun σ2 H2 => tb ⟨Pv (i + 1), D.rt, D.nx, Pv (i + 1)⟩ σ2 H2) (hd : ∀ σ H, Pv n.toNat σ H → D.nx σ H) : iR1v [.int n] H fun J H1 => ForOk J g tb D σ H1 :=
  ⟨n, rfl, hn0, hn, for_range (lo := 0) Pv h0 (fun i σ H hi p => by rw [Int.zero_add]; exact hs i σ H (by omega) p) hd⟩
theorem w_forR2 {lo n : Int} (hn : -(2 ^ 62) ≤ lo ∧ lo < 2 ^ 62 ∧ -(2 ^ 62) ≤ n ∧ n < 2 ^ 62) (Pv : Nat → L2.St → Hp → Prop) (h0 : Pv 0 σ H)
    (hs : ∀ (i : Nat) σ H, lo + (i : Int) < n → Pv i σ H → g (.int (lo + i)) σ H fun σ2 H2 => tb ⟨Pv (i + 1), D.rt, D.nx, Pv (i + 1)⟩ σ2 H2) (hd : ∀ σ H, Pv (n - lo).toNat σ H → D.nx σ H) : iR2v [.int lo, .int n] H fun J H1 => ForOk J g tb D σ H1 :=
  ⟨lo, n, rfl, hn, for_range (lo := lo) Pv h0 (fun i σ H hi p => hs i σ H (by omega) p) hd⟩
/-- range(hi, lo, -1) -/
def iR3v (vs : List V) (H1 : Hp) (R : It → Hp → Prop) : Prop := ∃ (i j c : Int) (n : Nat), vs = [.int i, .int j, .int c] ∧ RgC i j c n ∧ R (Itc i c n) H1
theorem w_iR3 {R : It → Hp → Prop} (h : tas σ H fun vs H1 => iR3v vs H1 R) : iRng3 tas σ H R := h
theorem w_forDn {hi lo : Int} (b1 : -(2 ^ 62) ≤ hi) (b2 : hi < 2 ^ 62) (b3 : -(2 ^ 62) ≤ lo) (b4 : lo < 2 ^ 62) (Pv : Nat → L2.St → Hp → Prop) (h0 : Pv 0 σ H)
    (hs : ∀ (i : Nat) σ H, (i : Int) < hi - lo → Pv i σ H → g (.int (hi - i)) σ H fun σ2 H2 => tb ⟨Pv (i + 1), D.rt, D.nx, Pv (i + 1)⟩ σ2 H2) (hd : ∀ σ H, Pv (hi - lo).toNat σ H → D.nx σ H) : iR3v [.int hi, .int lo, .int (-1)] H fun J H1 => ForOk J g tb D σ H1 :=
  ⟨hi, lo, -1, _, rfl, RgC.neg b1 b2 b3 b4, for_rangeC Pv h0 (fun i σ H hi' p => by rw [show hi + (i : Int) * -1 = hi - i by omega]; exact hs i σ H (by omega) p) hd⟩
/-! ### comprehensions -/
def LcOk (J : It) (g : TG) (tt : TT) (te : TE) (vs : List Nat) (σ : L2.St) (Q : VK) (H1 : Hp) : Prop := ∀ L, H1 L = none → ∃ W : Nat → Nat → Hp → Prop, (∃ m, W 0 m (upd H1 L (.lst []))) ∧ ∀ k m G, W k m G →
  (J.stop k G ∧ Q (.ref L) G) ∨ (J.go k G ∧ ∃ nxt : Hp → Prop, (∀ G', nxt G' → ∃ m', m' < m ∧ W (k + 1) m' G') ∧ ∀ x G', J.yld k G x G' → g x (wipe σ vs) G' fun τ G2 => wipe τ vs = wipe σ vs ∧ tt τ G2 fun yes G3 =>
    if yes = true then te τ G3 fun y G4 => ∃ made, G4 L = some (.lst made) ∧ made.length < sizeLine ∧ nxt (upd G4 L (.lst (made ++ [y]))) else nxt G3)
theorem w_lc {tt : TT} {te : TE} {vs : List Nat} {Q : VK} (h : wi σ H fun J H1 => LcOk J g tt te vs σ Q H1) : tLc wi g tt te vs σ H Q := h
/-- a turn that always gives, over range(n); Pv: the new list's place, the turn, what is made so far, the heap -/
theorem w_lcR1 {te : TE} {vs : List Nat} {Q : VK} {j : Nat} {n : Int} (hn : n ≤ 100000) (hn0 : -(2 ^ 62) ≤ n) (Pv : Addr → Nat → List V → Hp → Prop) (hw : ∀ v, wipe ((wipe σ vs).set j (some v)) vs = wipe σ vs)
    (h0 : ∀ D, H D = none → Pv D 0 [] (upd H D (.lst [])))
    (hs : ∀ D (i : Nat) acc H' (R : VK), (i : Int) < n → acc.length = i → H D = none → Pv D i acc H' → (∀ y H4, H4 D = some (.lst acc) → Pv D (i + 1) (acc ++ [y]) (upd H4 D (.lst (acc ++ [y]))) → R y H4) → te ((wipe σ vs).set j (some (.int i))) H' R)
    (hd : ∀ D acc H', H D = none → acc.length = n.toNat → Pv D n.toNat acc H' → Q (.ref D) H') : iR1v [.int n] H fun J H1 => LcOk J (gName j) tYes te vs σ Q H1 :=
  ⟨n, rfl, by omega, by omega, fun D hD => ⟨fun i m H' => m = n.toNat - i ∧ i ≤ n.toNat ∧ ∃ acc, acc.length = i ∧ Pv D i acc H', ⟨n.toNat, by simp, Nat.zero_le _, [], rfl, h0 D hD⟩, by
    rintro i m H' ⟨rfl, hi, acc, hl, p⟩
    by_cases hlt : i < n.toNat
    · refine .inr ⟨hlt, fun H4 => ∃ acc, acc.length = i + 1 ∧ Pv D (i + 1) acc H4, fun H4 p4 => ⟨n.toNat - (i + 1), by omega, rfl, hlt, p4⟩, fun x H4 y => ?_⟩
      obtain ⟨e, y⟩ := y
      subst e y
      refine ⟨hw _, ?_⟩
      show te ((wipe σ vs).set j (some (.int ((0 : Int) + (i : Nat))))) _ _
      rw [Int.zero_add]
      refine hs D i acc H4 _ (by omega) hl hD p fun y H5 h5 p5 => ⟨acc, h5, sz_lt (by omega), acc ++ [y], by rw [List.length_append, hl]; rfl, p5⟩
    · have e : i = n.toNat := by omega
      subst e
      exact .inl ⟨Nat.le_refl _, hd D acc H' hD hl p⟩⟩⟩
/-- the same over a list that can be read throughout -/
theorem w_lcL {te : TE} {vs : List Nat} {Q : VK} {j : Nat} {p : Addr} {xs : List V} (hS : SqL K H p xs) (hz : xs.length ≤ 100000) (Pv : Addr → Nat → List V → Hp → Prop) (hw : ∀ v, wipe ((wipe σ vs).set j (some v)) vs = wipe σ vs)
    (h0 : ∀ D, H D = none → Pv D 0 [] (upd H D (.lst []))) (hl : ∀ D i acc H', H D = none → Pv D i acc H' → SqL K H' p xs)
    (hs : ∀ D (i : Nat) x acc H' (R : VK), xs[i]? = some x → acc.length = i → H D = none → Pv D i acc H' → (∀ y H4, H4 D = some (.lst acc) → Pv D (i + 1) (acc ++ [y]) (upd H4 D (.lst (acc ++ [y]))) → R y H4) → te ((wipe σ vs).set j (some x)) H' R)
    (hd : ∀ D acc H', H D = none → acc.length = xs.length → Pv D xs.length acc H' → Q (.ref D) H') : iGv K (.ref p) H fun J H1 => LcOk J (gName j) tYes te vs σ Q H1 :=
  .inl ⟨⟨xs, hS⟩, fun D hD => lc_list (xs := xs) (fun i H' => ∃ acc, acc.length = i ∧ Pv D i acc H') ⟨[], rfl, h0 D hD⟩ (fun i H' _ ⟨acc, _, p⟩ => hl D i acc H' hD p)
    (fun i x H' hx ⟨acc, ha, p⟩ => ⟨hw x, hs D i x acc H' _ hx ha hD p fun y H5 h5 p5 => ⟨acc, h5, sz_lt (by have := (List.getElem?_eq_some_iff.mp hx).1; omega), acc ++ [y], by rw [List.length_append, ha]; rfl, p5⟩⟩)
    fun H' ⟨acc, ha, p⟩ => hd D acc H' hD ha p⟩
theorem w_lcT {te : TE} {vs : List Nat} {Q : VK} {j : Nat} {p : Addr} {xs : List V} (hS : SqT K H p xs) (hz : xs.length ≤ 100000) (Pv : Addr → Nat → List V → Hp → Prop) (hw : ∀ v, wipe ((wipe σ vs).set j (some v)) vs = wipe σ vs)
    (h0 : ∀ D, H D = none → Pv D 0 [] (upd H D (.lst []))) (hl : ∀ D i acc H', H D = none → Pv D i acc H' → SqT K H' p xs)
    (hs : ∀ D (i : Nat) x acc H' (R : VK), xs[i]? = some x → acc.length = i → H D = none → Pv D i acc H' → (∀ y H4, H4 D = some (.lst acc) → Pv D (i + 1) (acc ++ [y]) (upd H4 D (.lst (acc ++ [y]))) → R y H4) → te ((wipe σ vs).set j (some x)) H' R)
    (hd : ∀ D acc H', H D = none → acc.length = xs.length → Pv D xs.length acc H' → Q (.ref D) H') : iGv K (.ref p) H fun J H1 => LcOk J (gName j) tYes te vs σ Q H1 :=
  .inr ⟨⟨xs, hS⟩, fun D hD => lc_tup (xs := xs) (fun i H' => ∃ acc, acc.length = i ∧ Pv D i acc H') ⟨[], rfl, h0 D hD⟩ (fun i H' _ ⟨acc, _, p⟩ => hl D i acc H' hD p)
    (fun i x H' hx ⟨acc, ha, p⟩ => ⟨hw x, hs D i x acc H' _ hx ha hD p fun y H5 h5 p5 => ⟨acc, h5, sz_lt (by have := (List.getElem?_eq_some_iff.mp hx).1; omega), acc ++ [y], by rw [List.length_append, ha]; rfl, p5⟩⟩)
    fun H' ⟨acc, ha, p⟩ => hd D acc H' hD ha p⟩
/-- with a test, over a tuple | a list -/
theorem w_lcTf {tt : TT} {te : TE} {vs : List Nat} {Q : VK} {j : Nat} {p : Addr} {xs : List V} (hS : SqT K H p xs) (hz : xs.length ≤ 100000) (Pv : Addr → Nat → List V → Hp → Prop) (hw : ∀ v, wipe ((wipe σ vs).set j (some v)) vs = wipe σ vs)
    (h0 : ∀ D, H D = none → Pv D 0 [] (upd H D (.lst []))) (hl : ∀ D i acc H', H D = none → Pv D i acc H' → SqT K H' p xs)
    (hs : ∀ D (i : Nat) x acc H' (R : VK) (R0 : Hp → Prop), xs[i]? = some x → acc.length ≤ i → H D = none → Pv D i acc H' → (∀ y H4, H4 D = some (.lst acc) → Pv D (i + 1) (acc ++ [y]) (upd H4 D (.lst (acc ++ [y]))) → R y H4) → (∀ H4, Pv D (i + 1) acc H4 → R0 H4) →
      tt ((wipe σ vs).set j (some x)) H' fun b H3 => if b = true then te ((wipe σ vs).set j (some x)) H3 R else R0 H3)
    (hd : ∀ D acc H', H D = none → Pv D xs.length acc H' → Q (.ref D) H') : iGv K (.ref p) H fun J H1 => LcOk J (gName j) tt te vs σ Q H1 :=
  .inr ⟨⟨xs, hS⟩, fun D hD => lc_tup (xs := xs) (fun i H' => ∃ acc, acc.length ≤ i ∧ Pv D i acc H') ⟨[], Nat.le_refl _, h0 D hD⟩ (fun i H' _ ⟨acc, _, p⟩ => hl D i acc H' hD p)
    (fun i x H' hx ⟨acc, ha, p⟩ => ⟨hw x, hs D i x acc H' _ _ hx ha hD p (fun y H5 h5 p5 => ⟨acc, h5, sz_lt (by have := (List.getElem?_eq_some_iff.mp hx).1; omega), acc ++ [y], by rw [List.length_append]; simp; omega, p5⟩) fun H5 p5 => ⟨acc, by omega, p5⟩⟩)
    fun H' ⟨acc, ha, p⟩ => hd D acc H' hD p⟩
theorem w_lcLf {tt : TT} {te : TE} {vs : List Nat} {Q : VK} {j : Nat} {p : Addr} {xs : List V} (hS : SqL K H p xs) (hz : xs.length ≤ 100000) (Pv : Addr → Nat → List V → Hp → Prop) (hw : ∀ v, wipe ((wipe σ vs).set j (some v)) vs = wipe σ vs)
    (h0 : ∀ D, H D = none → Pv D 0 [] (upd H D (.lst []))) (hl : ∀ D i acc H', H D = none → Pv D i acc H' → SqL K H' p xs)
    (hs : ∀ D (i : Nat) x acc H' (R : VK) (R0 : Hp → Prop), xs[i]? = some x → acc.length ≤ i → H D = none → Pv D i acc H' → (∀ y H4, H4 D = some (.lst acc) → Pv D (i + 1) (acc ++ [y]) (upd H4 D (.lst (acc ++ [y]))) → R y H4) → (∀ H4, Pv D (i + 1) acc H4 → R0 H4) →
      tt ((wipe σ vs).set j (some x)) H' fun b H3 => if b = true then te ((wipe σ vs).set j (some x)) H3 R else R0 H3)
    (hd : ∀ D acc H', H D = none → Pv D xs.length acc H' → Q (.ref D) H') : iGv K (.ref p) H fun J H1 => LcOk J (gName j) tt te vs σ Q H1 :=
  .inl ⟨⟨xs, hS⟩, fun D hD => lc_list (xs := xs) (fun i H' => ∃ acc, acc.length ≤ i ∧ Pv D i acc H') ⟨[], Nat.le_refl _, h0 D hD⟩ (fun i H' _ ⟨acc, _, p⟩ => hl D i acc H' hD p)
    (fun i x H' hx ⟨acc, ha, p⟩ => ⟨hw x, hs D i x acc H' _ _ hx ha hD p (fun y H5 h5 p5 => ⟨acc, h5, sz_lt (by have := (List.getElem?_eq_some_iff.mp hx).1; omega), acc ++ [y], by rw [List.length_append]; simp; omega, p5⟩) fun H5 p5 => ⟨acc, by omega, p5⟩⟩)
    fun H' ⟨acc, ha, p⟩ => hd D acc H' hD p⟩
/-- list(range(..)), tuple(range(..)) -/
theorem w_lstRg {te : L2.St → Hp → (Int → Int → Hp → Prop) → Prop} {Q : VK} (h : te σ H fun a b H1 => RgOk a b ∧ ∀ q, H1 q = none → Q (.ref q) (upd H1 q (.lst (rgV a b)))) : tLstRg te σ H Q := h
theorem w_tupRg {te : L2.St → Hp → (Int → Int → Hp → Prop) → Prop} {Q : VK} (h : te σ H fun a b H1 => RgOk a b ∧ ∀ q, H1 q = none → Q (.ref q) (upd H1 q (.tup (rgV a b)))) : tTupRg te σ H Q := h
theorem w_rg1 {ta : TE} {R : Int → Int → Hp → Prop} (h : ta σ H fun x H1 => IntOk x fun n => R 0 n H1) : tRg1 ta σ H R := h
def IntOk2 (x y : V) (R : Int → Int → Prop) : Prop := ∃ i j, x = .int i ∧ y = .int j ∧ R i j
theorem w_int2 {i j : Int} {R : Int → Int → Prop} (h : R i j) : IntOk2 (.int i) (.int j) R := ⟨i, j, rfl, rfl, h⟩
theorem w_rg2 {ta tb : TE} {R : Int → Int → Hp → Prop} (h : ta σ H fun x H1 => tb σ H1 fun y H2 => IntOk2 x y fun i j => R i j H2) : tRg2 ta tb σ H R := h
/-- sorted(a list of ints) -/
theorem w_sorted {p : Addr} {ns : List Int} {Q : VK} (hS : SqL K H p (ns.map V.int)) (h : ∀ (ns' : List Int) (q : Addr), ns'.Perm ns → ns'.Pairwise (· ≤ ·) → H q = none → Q (.ref q) (upd H q (.lst (ns'.map V.int)))) : rSortedI K [.ref p] H Q := ⟨p, ns, rfl, hS, h⟩
end
/-! ### data -/
section
variable {K : PySem.W.Frag} {H : Hp}
theorem dpAll_ints : ∀ ns : List Int, DpAll K H (ns.map V.int) (ns.map PyData.int)
  | [] => .nil
  | n :: r => .cons (.int n) (dpAll_ints r)
theorem dp_ints {p : Addr} {ns : List Int} (h : SqL K H p (ns.map V.int)) : Dp K H (.ref p) (.list (ns.map PyData.int)) := .lst h (dpAll_ints ns)
theorem dp_intsT {p : Addr} {ns : List Int} (h : SqT K H p (ns.map V.int)) : Dp K H (.ref p) (.tuple (ns.map PyData.int)) := .tup h (dpAll_ints ns)
theorem lay_ints : ∀ ns : List Int, PyData.canLayAll0 (ns.map PyData.int) = true
  | [] => by simp [PyData.canLayAll0]
  | n :: r => by simp [PyData.canLayAll0, PyData.canLay0, lay_ints r]
theorem depth_ints : ∀ ns : List Int, PyData.depthAll (ns.map PyData.int) = 0
  | [] => by simp [PyData.depthAll]
  | n :: r => by simp [PyData.depthAll, PyData.depth, depth_ints r]
theorem sh_ints (ns : List Int) : SeqAt.shaped (.list (ns.map PyData.int)) = true := by
  have h1 := lay_ints ns
  have h2 := depth_ints ns
  simp [SeqAt.shaped, PyData.canLay0, PyData.depth, h1, h2]
theorem sh_intsT (ns : List Int) : SeqAt.shaped (.tuple (ns.map PyData.int)) = true := by
  have h1 := lay_ints ns
  have h2 := depth_ints ns
  simp [SeqAt.shaped, PyData.canLay0, PyData.depth, h1, h2]
theorem eqvAll_ints : ∀ ns ms : List Int, PyData.eqvAll (ns.map PyData.int) (ms.map PyData.int) = decide (ns = ms)
  | [], [] => by simp [PyData.eqvAll]
  | [], m :: ms => by simp [PyData.eqvAll]
  | n :: ns, [] => by simp [PyData.eqvAll]
  | n :: ns, m :: ms => by
    simp only [List.map_cons, PyData.eqvAll, PyData.eqv, eqvAll_ints ns ms, List.cons.injEq]
    by_cases h : n = m <;> simp [h]
theorem eqv_ints (ns ms : List Int) : PyData.eqv (.list (ns.map PyData.int)) (.list (ms.map PyData.int)) = decide (ns = ms) := by
  rw [PyData.eqv, eqvAll_ints]
theorem eqv_intsT (ns ms : List Int) : PyData.eqv (.tuple (ns.map PyData.int)) (.tuple (ms.map PyData.int)) = decide (ns = ms) := by
  rw [PyData.eqv, eqvAll_ints]
/-- == of two lists of ints, of two tuples of ints -/
theorem w_eqL {p q : Addr} {ns ms : List Int} {Q : VK} (h1 : SqL K H p (ns.map V.int)) (h2 : SqL K H q (ms.map V.int)) (h : Q (.bl (decide (ns = ms))) H) : rEqG K false (.ref p) (.ref q) H Q :=
  ⟨_, _, dp_ints h1, dp_ints h2, sh_ints ns, sh_ints ms, by rw [eqv_ints]; exact h⟩
theorem w_neL {p q : Addr} {ns ms : List Int} {Q : VK} (h1 : SqL K H p (ns.map V.int)) (h2 : SqL K H q (ms.map V.int)) (h : Q (.bl (!decide (ns = ms))) H) : rEqG K true (.ref p) (.ref q) H Q :=
  ⟨_, _, dp_ints h1, dp_ints h2, sh_ints ns, sh_ints ms, by rw [eqv_ints]; exact h⟩
theorem w_eqT {p q : Addr} {ns ms : List Int} {Q : VK} (h1 : SqT K H p (ns.map V.int)) (h2 : SqT K H q (ms.map V.int)) (h : Q (.bl (decide (ns = ms))) H) : rEqG K false (.ref p) (.ref q) H Q :=
  ⟨_, _, dp_intsT h1, dp_intsT h2, sh_intsT ns, sh_intsT ms, by rw [eqv_intsT]; exact h⟩
theorem w_neT {p q : Addr} {ns ms : List Int} {Q : VK} (h1 : SqT K H p (ns.map V.int)) (h2 : SqT K H q (ms.map V.int)) (h : Q (.bl (!decide (ns = ms))) H) : rEqG K true (.ref p) (.ref q) H Q :=
  ⟨_, _, dp_intsT h1, dp_intsT h2, sh_intsT ns, sh_intsT ms, by rw [eqv_intsT]; exact h⟩
theorem rgV_eq (n : Int) : rgV 0 n = ((List.range n.toNat).map fun i => ((i : Nat) : Int)).map V.int := by
  unfold rgV
  rw [List.map_map, Int.sub_zero]
  refine List.map_congr_left fun i _ => ?_
  show V.int (0 + (i : Int)) = V.int (i : Int)
  rw [Int.zero_add]
end
/-! ### drawers -/
section
variable {H H1 H2 : Hp} {a b p : Addr} {o : HO}
/-- a drawer stands at a -/
def Dr (H : Hp) (a : Addr) : Prop := ∃ d s c : Int, H a = some (.lst [.int d, .int s, .int c])
/-- what stood stands, but for the drawer at a, which is a drawer still -/
structure Dw (a : Addr) (H H' : Hp) : Prop where
  dr : Dr H' a
  kp : ∀ b o, b ≠ a → H b = some o → H' b = some o
theorem Dw.trans (x : Dw a H H1) (y : Dw a H1 H2) : Dw a H H2 := ⟨y.dr, fun b o n e => y.kp b o n (x.kp b o n e)⟩
theorem Dw.upd {d s c : Int} : Dw a H (L2.upd H a (.lst [.int d, .int s, .int c])) := ⟨⟨d, s, c, upd_same⟩, fun b o n e => by rw [upd_ne n]; exact e⟩
theorem Dw.refl (h : Dr H a) : Dw a H H := ⟨h, fun _ _ _ e => e⟩
/-- a new object -/
theorem Dw.new (h : Dr H a) (hp : H p = none) : Dw a H (L2.upd H p o) := by
  obtain ⟨d, s, c, h⟩ := h
  exact ⟨⟨d, s, c, hp_new hp h⟩, fun b u _ e => hp_new hp e⟩
theorem Dw.ex (h : Dr H a) (e : Evl.Ex H H1) : Dw a H H1 := by
  obtain ⟨d, s, c, h⟩ := h
  exact ⟨⟨d, s, c, e _ _ h⟩, fun b u _ q => e _ _ q⟩
theorem Dr.ne (h : Dr H a) (hp : H p = none) : a ≠ p := by
  obtain ⟨d, s, c, h⟩ := h
  exact ne_of_none h hp
/-- a list that is no drawer stays -/
theorem Dw.sqL {K : PySem.W.Frag} {xs : List V} (x : Dw a H H1) (n : p ≠ a) (h : SqL K H p xs) : SqL K H1 p xs := by
  rcases h with (h | ⟨o, h⟩) | h
  · exact .inl (.inl (x.kp _ _ n h))
  · exact .inl (.inr ⟨o, x.kp _ _ n h⟩)
  · exact .inr h
theorem Dw.sqT {K : PySem.W.Frag} {xs : List V} (x : Dw a H H1) (n : p ≠ a) (h : SqT K H p xs) : SqT K H1 p xs := by
  rcases h with (h | ⟨o, h⟩) | h
  · exact .inl (.inl (x.kp _ _ n h))
  · exact .inl (.inr ⟨o, x.kp _ _ n h⟩)
  · exact .inr h
end
/-! ### the script -/
/-- the law's script: it is known to the world, or stands in the written part; nothing that a law does changes it -/
def Scr (K : PySem.W.Frag) (H : Hp) (a : Addr) (ns : List Int) : Prop := (∃ o, H a = some (.frz o (.lst (ns.map V.int)))) ∨ ∀ H' : Hp, SqL K H' a (ns.map V.int)
section
variable {K : PySem.W.Frag} {H H1 : Hp} {a d p : Addr} {ns : List Int}
theorem Scr.sq (h : Scr K H a ns) : SqL K H a (ns.map V.int) := by
  rcases h with ⟨o, h⟩ | h
  · exact .inl (.inr ⟨o, h⟩)
  · exact h H
theorem Scr.of (hO : Only H) (h : SqL K H a (ns.map V.int)) : Scr K H a ns := by
  rcases h with (h | h) | h
  · rcases hO a with e | ⟨o, xs, e⟩
    · rw [e] at h; cases h
    · rw [e] at h; cases h
  · exact .inl h
  · exact .inr fun _ => .inr h
theorem Scr.dw (h : Scr K H a ns) (hd : Dr H d) (x : Dw d H H1) : Scr K H1 a ns := by
  rcases h with ⟨o, h⟩ | h
  · obtain ⟨d1, s1, c1, hd⟩ := hd
    exact .inl ⟨o, x.kp _ _ (ne_of h hd (by intro z; cases z)) h⟩
  · exact .inr h
theorem Scr.ex (h : Scr K H a ns) (e : Evl.Ex H H1) : Scr K H1 a ns := by
  rcases h with ⟨o, h⟩ | h
  · exact .inl ⟨o, e _ _ h⟩
  · exact .inr h
theorem Scr.new (h : Scr K H a ns) {o : HO} (hp : H p = none) : Scr K (upd H p o) a ns := h.ex (Evl.Ex.new hp)
end
def sp_law (K : PySem.W.Frag) : Sp := sp1 fun x H Q _ => ∃ (a : Addr) (ns : List Int), x = .ref a ∧ Scr K H a ns ∧ ns.length ≤ 63 ∧ ∀ H', Q (.bl true) H'
/-! ### classes of data -/
section
variable {K : PySem.W.Frag} {H : Hp} {p : Addr} {xs : List V}
theorem ty_tup (h : SqT K H p xs) : TyX K H (.ref p) (.type "tuple") := by
  rcases h with (h | ⟨o, h⟩) | ⟨o, its, n, h1, h2, _⟩
  · exact .base (.tup h)
  · exact .fTuple h
  · exact .kTuple h1 h2
theorem ty_lst (h : SqL K H p xs) : TyX K H (.ref p) (.type "list") := by
  rcases h with (h | ⟨o, h⟩) | ⟨o, its, n, h1, h2, _⟩
  · exact .base (.lst h)
  · exact .base (.frz h)
  · exact .kList h1 h2
theorem dpAll_len : ∀ {vs : List V} {ds : List PyData}, DpAll K H vs ds → vs.length = ds.length
  | _, [], h => by cases h; rfl
  | _, d :: ds, h => by
    cases h with
    | cons _ h2 => rw [List.length_cons, List.length_cons, dpAll_len h2]
theorem dpAll_get : ∀ {vs : List V} {ds : List PyData} {i : Nat} {v : V}, DpAll K H vs ds → vs[i]? = some v → ∃ d, ds[i]? = some d ∧ Dp K H v d
  | _, [], i, v, h, e => by cases h; simp at e
  | _, d :: ds, 0, v, h, e => by
    cases h with
    | cons h1 _ =>
      simp at e
      subst e
      exact ⟨d, rfl, h1⟩
  | _, d :: ds, i + 1, v, h, e => by
    cases h with
    | cons _ h2 =>
      obtain ⟨d', e1, e2⟩ := dpAll_get h2 (by simpa using e)
      exact ⟨d', by simpa using e1, e2⟩
theorem depth_get : ∀ {ds : List PyData} {i : Nat} {d : PyData}, ds[i]? = some d → d.depth ≤ PyData.depthAll ds
  | [], i, d, e => by simp at e
  | c :: ds, 0, d, e => by
    simp at e
    subst e
    simp only [PyData.depthAll]
    omega
  | c :: ds, i + 1, d, e => by
    have h := depth_get (ds := ds) (i := i) (d := d) (by simpa using e)
    simp only [PyData.depthAll]
    omega
end
/-! ### slices -/
section
variable {K : PySem.W.Frag} {H : Hp} {p : Addr} {xs : List V} {lo hi : Option Int} {Q : VK}
theorem w_slL (h1 : SqL K H p xs) (h : ∀ q, H q = none → Q (.ref q) (upd H q (.lst (cutV xs lo hi)))) : rSlG K (.ref p) lo hi H Q := .inl ⟨xs, h1, h⟩
theorem w_slT (h1 : SqT K H p xs) (h : ∀ q H', Evl.Ex H H' → SqT K H' q (cutV xs lo hi) → Q (.ref q) H') : rSlG K (.ref p) lo hi H Q := .inr ⟨xs, h1, fun q H' e s _ => h q H' e s⟩
theorem cut_to {k : Nat} : cutV xs none (some (k : Int)) = xs.take k := by
  unfold cutV
  rw [HT.sIx_none, HT.sIx_nat, List.drop_zero, Nat.sub_zero]
  rcases Nat.le_total k xs.length with h | h
  · rw [Nat.min_eq_left h]
  · rw [Nat.min_eq_right h, List.take_length, List.take_of_length_le h]
theorem cut_from {k : Nat} : cutV xs (some (k : Int)) none = xs.drop k := by
  unfold cutV
  rw [HT.sIx_none, HT.sIx_nat]
  rcases Nat.le_total k xs.length with h | h
  · rw [Nat.min_eq_left h, List.take_of_length_le (by rw [List.length_drop]; omega)]
  · rw [Nat.min_eq_right h, List.drop_of_length_le h, List.drop_length, List.take_nil]
theorem cut_both {j k : Nat} (h : j ≤ k) (hk : k ≤ xs.length) : cutV xs (some (j : Int)) (some (k : Int)) = (xs.drop j).take (k - j) := by
  unfold cutV
  rw [HT.sIx_nat, HT.sIx_nat, Nat.min_eq_left hk, Nat.min_eq_left (Nat.le_trans h hk)]
theorem sIx_neg {n d k : Nat} (h0 : 0 < k) (h : k ≤ n) : HT.sIx n d (some (-(k : Int))) = n - k := by
  show (if -(k : Int) < 0 then (-(k : Int) + (n : Int)).toNat else min (-(k : Int)).toNat n) = n - k
  rw [if_pos (by omega)]
  omega
theorem cut_last {k : Nat} (h0 : 0 < k) (h : k ≤ xs.length) : cutV xs (some (-(k : Int))) none = xs.drop (xs.length - k) := by
  unfold cutV
  rw [HT.sIx_none, sIx_neg h0 h, List.take_of_length_le (by rw [List.length_drop]; omega)]
theorem cut_but {k : Nat} (h0 : 0 < k) (h : k ≤ xs.length) : cutV xs none (some (-(k : Int))) = xs.take (xs.length - k) := by
  unfold cutV
  rw [HT.sIx_none, sIx_neg h0 h, List.drop_zero, Nat.sub_zero]
theorem cut_mid {j k : Nat} (h0 : 0 < k) (h : j + k ≤ xs.length) : cutV xs (some (j : Int)) (some (-(k : Int))) = (xs.drop j).take (xs.length - k - j) := by
  unfold cutV
  rw [HT.sIx_nat, sIx_neg h0 (by omega), Nat.min_eq_left (by omega)]
end
/-! ### lists of numbers -/
def nv (l : List Nat) : List V := l.map fun n : Nat => V.int (n : Int)
theorem nv_get {l : List Nat} {i : Nat} {v : V} (h : (nv l)[i]? = some v) : ∃ n, l[i]? = some n ∧ v = .int n := by
  unfold nv at h
  rw [List.getElem?_map] at h
  cases e : l[i]? with
  | none => rw [e] at h; cases h
  | some n => rw [e] at h; exact ⟨n, rfl, (Option.some.inj h).symm⟩
theorem nv_at {l : List Nat} {i n : Nat} (h : l[i]? = some n) : atI (nv l) (i : Int) = some (.int n) := atI_nat (by unfold nv; rw [List.getElem?_map, h]; rfl)
theorem nv_len (l : List Nat) : (nv l).length = l.length := by unfold nv; exact List.length_map ..
theorem nv_ints (l : List Nat) : nv l = (l.map fun n : Nat => (n : Int)).map V.int := by
  unfold nv
  rw [List.map_map]
  rfl
theorem nv_app (a b : List Nat) : nv (a ++ b) = nv a ++ nv b := by unfold nv; exact List.map_append
theorem nv_cons (k : Nat) (c : List Nat) : nv (k :: c) = V.int (k : Int) :: nv c := by unfold nv; rfl
theorem nv_take (l : List Nat) (k : Nat) : (nv l).take k = nv (l.take k) := by unfold nv; exact List.map_take.symm
theorem nv_drop (l : List Nat) (k : Nat) : (nv l).drop k = nv (l.drop k) := by unfold nv; exact List.map_drop.symm
theorem nv_set (l : List Nat) (k n : Nat) : (nv l).set k (.int n) = nv (l.set k n) := by unfold nv; exact List.map_set.symm
theorem flat_nv (l : List Nat) : (nv l).all flatV = true := by
  unfold nv
  rw [List.all_map]
  exact List.all_eq_true.mpr fun _ _ => rfl
theorem inV_nv (a : Nat) (l : List Nat) : inV (V.int a) (nv l) = decide (a ∈ l) := by
  induction l with
  | nil => rfl
  | cons b l ih =>
    have e : inV (V.int a) (nv (b :: l)) = (((b : Int) == (a : Int)) || inV (V.int a) (nv l)) := rfl
    rw [e, ih]
    by_cases h : a = b
    · subst h
      simp
    · have h2 : ¬ (b : Int) = (a : Int) := by omega
      simp [h, h2]
theorem nat_ints_inj : ∀ {a b : List Nat}, a.map (fun n : Nat => (n : Int)) = b.map (fun n : Nat => (n : Int)) → a = b
  | [], [], _ => rfl
  | [], _ :: _, h => nomatch h
  | _ :: _, [], h => nomatch h
  | x :: a, y :: b, h => by
    rw [List.map_cons, List.map_cons] at h
    injection h with h1 h2
    rw [nat_ints_inj h2, Int.ofNat.inj h1]
theorem dec_nv (a b : List Nat) : decide (a.map (fun n : Nat => (n : Int)) = b.map (fun n : Nat => (n : Int))) = decide (a = b) := by
  by_cases h : a = b
  · rw [h, decide_eq_true rfl, decide_eq_true rfl]
  · rw [decide_eq_false h, decide_eq_false fun z => h (nat_ints_inj z)]
theorem w_eqNT {K : PySem.W.Frag} {H : Hp} {p q : Addr} {a b : List Nat} {Q : VK} (h1 : SqT K H p (nv a)) (h2 : SqT K H q (nv b)) (h : Q (.bl (decide (a = b))) H) : rEqG K false (.ref p) (.ref q) H Q :=
  w_eqT (by rw [← nv_ints]; exact h1) (by rw [← nv_ints]; exact h2) (by rw [dec_nv]; exact h)
theorem w_eqNL {K : PySem.W.Frag} {H : Hp} {p q : Addr} {a b : List Nat} {Q : VK} (h1 : SqL K H p (nv a)) (h2 : SqL K H q (nv b)) (h : Q (.bl (decide (a = b))) H) : rEqG K false (.ref p) (.ref q) H Q :=
  w_eqL (by rw [← nv_ints]; exact h1) (by rw [← nv_ints]; exact h2) (by rw [dec_nv]; exact h)
theorem dp_nv {K : PySem.W.Frag} {H : Hp} {p : Addr} {l : List Nat} (h : SqT K H p (nv l)) : Dp K H (.ref p) (.tuple ((l.map fun n : Nat => (n : Int)).map PyData.int)) := dp_intsT (by rw [← nv_ints]; exact h)
theorem depth_nv (l : List Int) : (PyData.tuple (l.map PyData.int)).depth < 8 := by
  simp only [PyData.depth, depth_ints]
  omega
theorem none_ex {H H' : Hp} {t : Addr} (e : Evl.Ex H H') (h : H' t = none) : H t = none := by
  cases q : H t with
  | none => rfl
  | some o => rw [e _ _ q] at h; cases h
theorem none_dw {a p : Addr} {H H' : Hp} (x : Dw a H H') (hD : Dr H a) (h : H' p = none) : H p = none := by
  cases q : H p with
  | none => rfl
  | some o =>
    by_cases e : p = a
    · subst e
      obtain ⟨d, s, c, h2⟩ := x.dr
      rw [h2] at h
      cases h
    · rw [x.kp _ _ e q] at h
      cases h
theorem Dw.fresh {a p : Addr} {H H' : Hp} {o : HO} (x : Dw a H H') (hp : H p = none) (hn : a ≠ p) : Dw a H (L2.upd H' p o) := by
  obtain ⟨⟨d, s, c, h⟩, kp⟩ := x
  exact ⟨⟨d, s, c, by rw [upd_ne hn]; exact h⟩, fun b u n e => by rw [upd_ne (ne_of_none e hp)]; exact kp b u n e⟩
section
variable {K : PySem.W.Frag} {H : Hp} {p : Addr} {l : List Nat} {i : Int} {Q : VK}
theorem w_slToL (k : Nat) (h1 : SqL K H p (nv l)) (e : i = k) (h : ∀ q, H q = none → Q (.ref q) (upd H q (.lst (nv (l.take k))))) : rSlG K (.ref p) none (some i) H Q := by
  subst e
  exact w_slL h1 fun q hq => by rw [cut_to, nv_take]; exact h q hq
theorem w_slFromL (k : Nat) (h1 : SqL K H p (nv l)) (e : i = k) (h : ∀ q, H q = none → Q (.ref q) (upd H q (.lst (nv (l.drop k))))) : rSlG K (.ref p) (some i) none H Q := by
  subst e
  exact w_slL h1 fun q hq => by rw [cut_from, nv_drop]; exact h q hq
theorem w_slToT (k : Nat) (h1 : SqT K H p (nv l)) (e : i = k) (h : ∀ q H', Evl.Ex H H' → SqT K H' q (nv (l.take k)) → Q (.ref q) H') : rSlG K (.ref p) none (some i) H Q := by
  subst e
  exact w_slT h1 fun q H' x hq => h q H' x (by rw [cut_to, nv_take] at hq; exact hq)
theorem w_slFromT (k : Nat) (h1 : SqT K H p (nv l)) (e : i = k) (h : ∀ q H', Evl.Ex H H' → SqT K H' q (nv (l.drop k)) → Q (.ref q) H') : rSlG K (.ref p) (some i) none H Q := by
  subst e
  exact w_slT h1 fun q H' x hq => h q H' x (by rw [cut_from, nv_drop] at hq; exact hq)
theorem w_catNL {q : Addr} {a b : List Nat} (h1 : H p = some (.lst (nv a))) (h2 : H q = some (.lst (nv b))) (h3 : a.length + b.length ≤ 100000) (h : ∀ n, H n = none → Q (.ref n) (upd H n (.lst (nv (a ++ b))))) : rAddG K (.ref p) (.ref q) H Q :=
  w_catL h1 h2 (by rw [nv_len, nv_len]; exact h3) fun n hn => by rw [← nv_app]; exact h n hn
end
end KP

/-! Generators: if and for in a generator's body. -/
namespace KP
open PySem PySem.Spec PyProof.Rows L2 GenW Evl
section
variable {X : Cx} {pos : Pos}
/-- what waits behind a loop of a generator's body -/
abbrev backB (Y : Cx) (kf : Flow → Sem PySem.Fin) (jf : Value → Sem PySem.Fin) (gf : Bool → Bool) (lf : List Value → List Value) : Result → Sem PySem.Fin := fun res =>
  ((match res with
    | .ok fl => (.pure fl : Sem Flow)
    | .error ex => .raise ex).onRaise (cameBack Y.env)).wrap kf jf gf lf
abbrev frB (Y : Cx) (kf : Flow → Sem PySem.Fin) (jf : Value → Sem PySem.Fin) (gf : Bool → Bool) (lf : List Value → List Value) (code : Code) (at_ : Pos) (rest : List Frame) : List Frame := .ret (backB Y kf jf gf lf) none (gf false) (lf []) code at_ [] :: rest
/-- an exception leaves the loop -/
abbrev leaveB (Y : Cx) (ex : Value) : Sem PySem.Fin := (show Sem Unit from (do noteFrame ex Y.env; theTreesLotGoes ex)).wrap (fun _ => .raise ex) .raise id id
def tGIf (c : TT) (t u : TGn) : TGn := fun D ys σ H => c σ H fun b H1 => if b = true then t D ys σ H1 else u D ys σ H1
theorem gs_if {c : Expr} {a b : List Stmt} {tc : TT} {t u : TGn} (hc : PT X c tc) (ha : GSs X a t) (hb : GSs X b u) : GS X (.If c a b pos) (tGIf tc t u) := by
  refine ⟨fun A S ip R n ys s₀ cd fs K J gd lv s σ H D g hn k hI ht => ?_⟩
  obtain ⟨acc, cc, r, I⟩ := hI
  rw [exec_If]
  apply seg_bind_wrap; apply wpAny_standAt
  refine seg_bind_wrap ?_
  rw [g.over]
  refine wpAny_mono (hc.run _ s σ H _ I ht) (fun bv s' hb' => ?_) fun x s' hx => k.exc n s₀ x s' hx
  obtain ⟨H2, I2, q2⟩ := hb'
  cases bv with
  | true => exact ha.run A S ip R n ys s₀ cd fs K J gd lv s' σ H2 D g hn k ⟨acc, cc, r, I2⟩ q2
  | false => exact hb.run A S ip R n ys s₀ cd fs K J gd lv s' σ H2 D g hn k ⟨acc, cc, r, I2⟩ q2
def tGFor (wi : TI) (g : TG) (tb : TGn) : TGn := fun D ys σ H => wi σ H fun J H1 => ∃ W : Nat → Nat → List V → L2.St → Hp → Prop, (∃ m, W 0 m ys σ H1) ∧ ∀ i m ys σ H, W i m ys σ H →
  (J.stop i H ∧ D.nx ys σ H) ∨ (J.go i H ∧ ∃ N : List V → L2.St → Hp → Prop, (∀ ys' σ' H', N ys' σ' H' → ∃ m', m' < m ∧ W (i + 1) m' ys' σ' H') ∧ ∀ x H', J.yld i H x H' → g x σ H' fun σ2 H2 => tb { D with nx := N, ct := N, bk := D.nx } ys σ2 H2)
theorem gs_for {tg iter : Expr} {body : List Stmt} {wi : TI} {g : TG} {tb : TGn} (hp : PassesOwn (model X.prog X.w) X.A X.env X.xe) (hcm : X.calm = true) (hi : PI X tg iter wi) (hg : PG X tg g) (hb : GSs X body tb)
    (hs : ∀ x, foldedSetIterable iter X.env x = pure x := by intro _; rfl) : GS X (.For tg iter body [] pos) (tGFor wi g tb) := by
  refine ⟨fun A S ip R n ys s₀ c fs K J gd lv s σ H D g' hn k hI ht => ?_⟩
  obtain ⟨acc, cc, r, I⟩ := hI
  rw [exec_For]
  apply seg_bind_wrap; apply wpAny_standAt
  refine seg_bind_wrap ?_
  rw [g'.over]
  refine wpAny_mono (hi.run _ s σ H _ I ht) (fun v s1 h1 => ?_) fun x s' hx => k.exc n s₀ x s' hx
  refine seg_bind_wrap (wpAny_of_eq (hs v) ?_)
  apply seg_bind_wrap; apply wpAny_standAt
  apply seg_bind_wrap; apply wpAny_holding
  rw [g'.over]
  refine wpAny_mono h1 (fun itv s2 h2 => ?_) fun x s' hx => k.exc n s₀ x s' hx
  obtain ⟨it, fp, tn, J', H2, e, I2, T, st2, f2, W, ⟨m0, w0⟩, turn⟩ := h2
  subst e
  refine seg_call fun p => ?_
  have gl := fun (kk : Result → Sem PySem.Fin) => gc_loop (k := kk) (c' := .forLoop tg (.ref it) body [] X.env) (l := lv []) (kp := []) (p := p) g' rfl rfl
  have gl2 := fun (kk : Result → Sem PySem.Fin) => gc_loop (k := kk) (c' := .block [] X.env) (l := lv []) (kp := []) (p := p) g' rfl rfl
  have hfS : ∀ b ∈ fp, b ≠ S := fun b hb e => (f2 b hb).2.2.2.2.2 (S, lstObj acc cc) (List.mem_append_right _ List.mem_cons_self) e.symm
  have stat : ∀ {H' : Hp} {acc' : Array Value} {cc' : Nat}, (∀ b ∈ fp, H' b = none) → ∀ b ∈ fp, FpOk X ((S, lstObj acc' cc') :: ip) H' b := fun {H' acc' cc'} hn b hb => by
    obtain ⟨q0, q1, q2, q3, q4, q5⟩ := f2 b hb
    refine ⟨hn b hb, q1, q2, q3, q4, fun p hp => ?_⟩
    rcases List.mem_append.mp hp with z | z
    · exact q5 p (List.mem_append_left _ z)
    · rcases List.mem_cons.mp z with z | z
      · rw [z]
        exact (hfS b hb).symm
      · exact q5 p (List.mem_append_right _ (List.mem_cons_of_mem _ z))
  have loop : ∀ (m n i : Nat) (ys : List V) (s₀ s : Shared) (σ : L2.St) (H : Hp), n + ys.length = sizeLine → W i m ys σ H → (∀ b ∈ fp, H b = none) → tn i s.heap → GI X S ip ys σ H s →
      Seg (model X.prog X.w) A R (GY X S) n s₀ (.forLoop tg (.ref it) body [] X.env) ((model X.prog X.w).den (.forLoop tg (.ref it) body [] X.env))
        (frB X K J gd lv c p fs) s := by

    refine fun m0' => Nat.strongRecOn m0' fun m ih => ?_
    ·
      intro n i ys s₀ s σ H hn w hfr hst hI
      have ee : ∀ (n : Nat) (s₀ : Shared) (x : Value) (s' : Shared), X.xe x s' → Seg (model X.prog X.w) A R (GY X S) n s₀ (.forLoop tg (.ref it) body [] X.env)
          (leaveB X x)
          (frB X K J gd lv c p fs) s' := fun n s₀ x s' hx => by
        refine seg_wrap ?_
        rw [(gl _).over]
        have out : ∀ (z : Value) (s3 : Shared), cameBackBy (model X.prog X.w) X.A X.env X.xe z s3 → Seg (model X.prog X.w) A R (GY X S) n s₀ (.forLoop tg (.ref it) body [] X.env) (.raise z) (frB X K J gd lv c p fs) s3 := fun z s3 hz => seg_leaf (.error z) (seg_cameBack g' k hz)
        exact wpAny_bind (wpAny_mono (hp x s' hx) (fun _ s3 hz => wpAny_theTreesLotGoes (out x s3 hz)) fun z s3 hz => out z s3 hz)
      have ee2 : ∀ (n : Nat) (s₀ : Shared) (x : Value) (s' : Shared), X.xe x s' → Seg (model X.prog X.w) A R (GY X S) n s₀ (.forLoop tg (.ref it) body [] X.env)
          ((do noteFrame x X.env; theTreesLotGoes x : Sem Unit).bind (fun _ => .raise x))
          (frB X K J gd lv c p fs) s' := fun n s₀ x s' hx => by
        have q := ee n s₀ x s' hx
        rw [Sem.bind_eq_wrap]
        exact q
      obtain ⟨acc, cc, r, I⟩ := hI
      show Seg _ A R _ n s₀ _ ((forTurn tg (.ref it) body [] X.env).onRaise (fun x => do noteFrame x X.env; theTreesLotGoes x)) _ s
      rw [Sem.onRaise_eq_wrap]
      simp only [forTurn]
      apply seg_bind_wrap; apply wpAny_standAt
      refine seg_bind_wrap ?_
      rw [(gl _).over]
      refine wpAny_onRaise ?_
      rcases turn i m ys σ H w with ⟨stop, qn⟩ | ⟨go, N, hN, step⟩
      · refine wpAny_mono (T.done X rfl rfl rfl hcm i _ s σ H X.xe I (stat hfr) hst stop) (fun rr s4 hr4 => ?_) fun x s' hx => wpAny_standAt (ee2 n s₀ x s' hx)
        obtain ⟨hr, I4⟩ := hr4
        subst hr
        refine seg_again rfl ?_
        refine seg_leaf (.ok .next) (k.ok n ys s₀ s4 .next hn ⟨σ, H, ⟨acc, cc, r, I4⟩, qn⟩)
      · refine wpAny_mono (T.item X rfl rfl rfl hcm i _ s σ H X.xe I (stat hfr) hst go) (fun rr s4 hr4 => ?_) fun x s' hx => wpAny_standAt (ee2 n s₀ x s' hx)
        obtain ⟨u, hr, h4⟩ := hr4
        subst hr
        refine seg_bind_wrap ?_
        rw [(gl _).over]
        refine wpAny_mono h4 (fun _ s5 h5 => ?_) fun x s' hx => ee2 n s₀ x s' hx
        obtain ⟨x, H5, I5, r5, y5, st5, fr5⟩ := h5
        have J5 := Inv.pinned I5 (stat fr5) (T.obj _ _ st5)
        refine seg_bind_wrap ?_
        rw [(gl _).over]
        refine wpAny_mono (hg.run _ s5 σ H5 x u _ J5 r5 (step x H5 y5)) (fun _ s6 h6 => ?_) fun x s' hx => ee2 n s₀ x s' hx
        obtain ⟨σ6, H6, I6, q6⟩ := h6
        rw [Sem.bind_eq_wrap', Sem.wrap_wrap]
        rw [Sem.wrap_congr (execs body X.env) _ _ (K' := fun f => match f with
            | .next | .cont => .pure (.again (.forLoop tg (.ref it) body [] X.env))
            | .brk => .pure (.done .next)
            | .ret v => .pure (.done (.ret v))) (H' := (fun e => (do noteFrame e X.env; theTreesLotGoes e : Sem Unit).wrap (fun _ => .raise e) .raise id id))
          (fun f => by cases f <;> rfl)
          (fun e => by first | exact Sem.bind_eq_wrap _ _ | (show (do noteFrame e X.env; theTreesLotGoes e : Sem Unit).bind (fun _ => .raise e) = _; rw [Sem.bind_eq_wrap]))]
        have gx := gl (backB X K J gd lv)
        have gb : GC X S (ip ++ pinsAt fp s5.heap) A (.forLoop tg (.ref it) body [] X.env) (frB X K J gd lv c p fs) id :=
          ⟨gx.pn, fun p hp => by
            rcases List.mem_append.mp hp with z | z
            · exact gx.ip p z
            · exact hfS _ (of_pinsAt z).1, gx.apart, gx.over, gx.split, gx.guard, gx.gd⟩
        have un : ∀ {ys' : List V} {σ' : L2.St} {H' : Hp} {s' : Shared}, GI X S (ip ++ pinsAt fp s5.heap) ys' σ' H' s' → GI X S ip ys' σ' H' s' := fun {ys' σ' H' s'} hI => by
          obtain ⟨a1, c1, r1, I1⟩ := hI
          exact ⟨a1, c1, r1, Inv.unpinned (pins := (S, lstObj a1 c1) :: ip) (pl := pinsAt fp s5.heap) I1⟩
        refine hb.run A S (ip ++ pinsAt fp s5.heap) R n ys s₀ _ _ _ _ id id s6 σ6 H6 { D with nx := N, ct := N, bk := D.nx } gb hn ⟨fun n' ys' s₀' s3 f hn' hs => ?_, fun n' s₀' x s3 hx => ee n' s₀' x s3 hx⟩ ⟨acc, cc, r, I6⟩ q6
        have again : ∀ {ys' : List V} {σ7 : L2.St} {H7 : Hp}, n' + ys'.length = sizeLine → GI X S (ip ++ pinsAt fp s5.heap) ys' σ7 H7 s3 → N ys' σ7 H7 → Seg (model X.prog X.w) A R (GY X S) n' s₀' (.forLoop tg (.ref it) body [] X.env) (.pure (.again (.forLoop tg (.ref it) body [] X.env)))
            (frB X K J gd lv c p fs) s3 := fun {ys' σ7 H7} hn' I7 n7 => by
          obtain ⟨m', hm, w7⟩ := hN ys' σ7 H7 n7
          obtain ⟨a1, c1, r1, I1⟩ := id I7
          have pin : ∀ b ∈ fp, ∀ o, s5.heap.get? b = some o → s3.heap.get? b = some o ∧ H7 b = none := fun b hb o e => by
            have q := I1.pin (b, o) (List.mem_append_right _ (List.mem_cons_of_mem _ (List.mem_append_right _ (mem_pinsAt hb e))))
            exact ⟨q.1, q.2.1⟩
          refine seg_again rfl (ih m' hm n' (i + 1) ys' s₀' s3 σ7 H7 hn' w7 (fun b hb => ?_) (T.keep _ _ _ st5 fun b hb o e => (pin b hb o e).1) (un I7))
          obtain ⟨ob, eo, _⟩ := T.obj _ _ st5 b hb
          exact (pin b hb ob eo).2
        cases f with
        | next => obtain ⟨σ3, H3, I3, n3⟩ := hs; exact again hn' I3 n3
        | cont => obtain ⟨σ3, H3, I3, n3⟩ := hs; exact again hn' I3 n3
        | brk =>
          obtain ⟨σ3, H3, I3, n3⟩ := hs
          exact seg_leaf (.ok .next) (k.ok n' ys' s₀' s3 .next hn' ⟨σ3, H3, un I3, n3⟩)
        | ret v =>
          obtain ⟨x3, σ3, H3, I3, r3, n3⟩ := hs
          exact seg_leaf (.ok (.ret v)) (k.ok n' ys' s₀' s3 (.ret v) hn' ⟨x3, σ3, H3, un I3, r3, n3⟩)
  exact loop m0 n 0 ys s₀ s2 σ H2 hn w0 (fun b hb => (f2 b hb).1) st2 ⟨acc, cc, r, I2⟩
theorem gi_wish {E : Value → Shared → Prop} : GI (X.wish E) = GI X := by
  funext S ip ys σ H s
  exact propext ⟨fun ⟨a, c, r, I⟩ => ⟨a, c, r, I.unwish⟩, fun ⟨a, c, r, I⟩ => ⟨a, c, r, I.wish E⟩⟩
theorem gy_wish {E : Value → Shared → Prop} {S : Addr} : GY (X.wish E) S = GY X S := by
  unfold GY
  rw [gi_wish]
theorem gsp_wish {E : Value → Shared → Prop} {S : Addr} : GSP (X.wish E) S = GSP X S := by
  funext ip D ys f s
  cases f <;> (unfold GSP; rw [gi_wish])
theorem GSs.nox {st : List Stmt} {t : TGn} (h : GSs X.nox st t) : GSs X st t := by
  constructor
  intro A S ip R n ys s₀ c fs K J gd lv s σ H D g hn k hI ht
  have r := h.run A S ip R n ys s₀ c fs K J gd lv s σ H D ⟨g.pn, g.ip, g.apart, g.over, g.split, g.guard, g.gd⟩ hn ⟨fun n ys s₀ s f hn hs => by
    have q := k.ok n ys s₀ s f hn (by rw [gsp_wish] at hs; exact hs)
    rw [gy_wish]
    exact q, fun n s₀ e s hx => False.elim hx⟩ (by rw [gi_wish]; exact hI) ht
  rw [gy_wish] at r
  exact r
end
/-! ### a generator def's contract -/
structure CalG (P : Program) (w : World) (K : PySem.W.Frag) (mg : Str → Option Value) (base : Heap) (k : Nat) (x : Str) (ps : List Str) (sp : SpG) : Prop where
  ex : ∃ (f : Addr) (fd : FuncData), mg x = some (.ref f) ∧ PySem.W.keepIn K (.ref f) = true ∧ Binds K fd ps [] ∧ GFn P w K mg base k f fd ps sp
theorem CalG.mk' {P : Program} {w : World} {K : PySem.W.Frag} {mg : Str → Option Value} {base : Heap} {k : Nat} {x : Str} {ps : List Str} {sp : SpG} {f : Addr} {fd : FuncData} (h1 : mg x = some (.ref f)) (h2 : PySem.W.keepIn K (.ref f) = true) (h3 : Binds K fd ps []) (h4 : GFn P w K mg base k f fd ps sp) :
    CalG P w K mg base k x ps sp := ⟨f, fd, h1, h2, h3, h4⟩
theorem FunD.gok {P : Program} {w : World} {K : PySem.W.Frag} {mg : Str → Option Value} {base : Heap} {k : Nat} {f : Addr} {fd : FuncData} {x qual : Str} {params : Arguments} {body : List Stmt} {scope : Scope} {dvs : List V} {kws : List (Str × V)} {N ps : List Str} {sp : SpG}
    (F : FunD K x qual params body scope dvs kws f fd) (S : GScope N ps scope) (len : ∀ vs H Q E, sp vs H Q E → vs.length = ps.length)
    (hbody : ∀ (cdv : Value) (A : Around) (outer : List Env) (s : Shared) (H : Hp) (vs : List V) (Q : List V → Hp → Prop) (E : XK) (pn : List (Addr × Obj)), Room k (A.deeper (envOfC qual scope s.heap.objs.size f cdv)) → sp vs H Q E →
      ∃ t, GSs (gcxOf P w K mg base N qual scope f cdv A outer s H E pn) body t ∧ t { nx := fun ys _ H' => Q ys H', rt := fun ys v H' => v = .non ∧ Q ys H' } [] (start N vs) H) : GFn P w K mg base (k + 1) f fd ps sp := by
  obtain ⟨cl, di, dV, kV, doc, pm, an, cdv, ct, slo, rfl, found, hcode, _⟩ := F.ex
  exact gfn_of found hcode S len fun A outer s H vs Q E pn hr h => hbody cdv A outer s H vs Q E pn hr h
def tCalG (sp : SpG) (E : XK) (t : TA) : TGen := fun σ H cont => t σ H fun vs H1 => sp vs H1 cont E
theorem tCallG_nil (sp : SpG) (E : XK) (t : TA) : tCallG sp [] E t = tCalG sp E t := by
  funext σ H Q
  unfold tCallG tCalG
  congr 1
  funext vs H1
  rw [List.append_nil]
theorem boot_listT : bootBuiltins "list" = some (.type "list") := by decide +kernel
section
variable {X : Cx} {k : Nat} {x : Str} {ps : List Str} {sp : SpG} {e : Expr} {es : List Expr} {t : TA} {p p0 pos pos0 : Pos}
/-- list(f(e, ..)) of a generator def -/
theorem pe_listCal (C : CalG X.prog X.w X.K X.mg X.base k x ps sp) (hr : Room (k + 3) X.A) (hgl : Gl X "list") (hml : X.mg "list" = none) (hg : Gl X x) (ha : PA X (e :: es) t)
    (hdb : (x == ("__debug__" : Str)) = false := by decide) (he : starEach (e :: es) X.env = (false, eval e X.env) :: starEach es X.env := by rfl) (hpl : (backTo pos (starEach es X.env)).any (·.1) = false := by rfl)
    (he2 : starEach [.Call (.Name x p) (e :: es) [] pos] X.env = (false, eval (.Call (.Name x p) (e :: es) [] pos) X.env) :: starEach [] X.env := by rfl) :
    PE X (.Call (.Name "list" p0) [.Call (.Name x p) (e :: es) [] pos] [] pos0) (tListG (tCalG sp (fun _ _ _ => False) t)) := by
  obtain ⟨f, fd, h1, h2, h3, h4⟩ := C.ex
  rw [← tCallG_nil]
  exact pe_listG (pgen_call h4 (hr.mono (by omega)) hg h1 h2 h3 .nil ha hdb he hpl) (fun _ _ _ _ _ _ _ c => by
    obtain ⟨a, B, H', cls, d, _, _, _, _, _, _, _, z⟩ := c
    exact z.elim) (fun _ _ _ z => z.elim) hr hgl hml boot_listT (by decide) (by decide) he2
end
/-! ### readings -/
section
variable {σ : L2.St} {H : Hp} {D : GEnds} {ys : List V} {t u : TGn} {ts : TS} {te : TE} {c : TT} {wi : TI} {g : TG} {a : List V → L2.St → Hp → Prop} {b : List V → VK} {cc d : List V → L2.St → Hp → Prop} {tl : TE} {K : PySem.W.Frag} {tas : TA}
theorem w_gthen (h : t ⟨fun ys' σ' H' => u D ys' σ' H', D.rt, D.bk, D.ct⟩ ys σ H) : tGThen t u D ys σ H := h
theorem w_plain (h : ts ⟨D.nx ys, D.rt ys, D.bk ys, D.ct ys⟩ σ H) : tPlain ts D ys σ H := h
theorem w_g0 (h : D.nx ys σ H) : tG0 D ys σ H := h
theorem w_gnx (h : a ys σ H) : GEnds.nx ⟨a, b, cc, d⟩ ys σ H := h
theorem w_gyield (hl : ys.length < 16777216) (h : te σ H fun x H1 => D.nx (ys ++ [x]) σ H1) : tGYield te D ys σ H := ⟨by rw [sizeLine_eq]; exact hl, h⟩
theorem w_gif (h : c σ H fun b H1 => if b = true then t D ys σ H1 else u D ys σ H1) : tGIf c t u D ys σ H := h
def GForOk (J : It) (g : TG) (tb : TGn) (D : GEnds) (ys : List V) (σ : L2.St) (H1 : Hp) : Prop := ∃ W : Nat → Nat → List V → L2.St → Hp → Prop, (∃ m, W 0 m ys σ H1) ∧ ∀ i m ys σ H, W i m ys σ H →
  (J.stop i H ∧ D.nx ys σ H) ∨ (J.go i H ∧ ∃ N : List V → L2.St → Hp → Prop, (∀ ys' σ' H', N ys' σ' H' → ∃ m', m' < m ∧ W (i + 1) m' ys' σ' H') ∧ ∀ x H', J.yld i H x H' → g x σ H' fun σ2 H2 => tb { D with nx := N, ct := N, bk := D.nx } ys σ2 H2)
theorem w_gfor (h : wi σ H fun J H1 => GForOk J g t D ys σ H1) : tGFor wi g t D ys σ H := h
/-- the turns are known beforehand: n of them, the i-th gives v i -/
theorem gfor_fn {J : It} {n : Nat} {v : Nat → V} (hgo : ∀ i H, i < n → J.go i H) (hst : ∀ i H, n ≤ i → J.stop i H) (hy : ∀ i H x H', J.yld i H x H' → H' = H ∧ x = v i) (Pv : Nat → List V → L2.St → Hp → Prop) (h0 : Pv 0 ys σ H)
    (hs : ∀ i ys σ H, i < n → Pv i ys σ H → g (v i) σ H fun σ2 H2 => t ⟨Pv (i + 1), D.rt, D.nx, Pv (i + 1)⟩ ys σ2 H2) (hd : ∀ ys σ H, Pv n ys σ H → D.nx ys σ H) : GForOk J g t D ys σ H := by
  refine ⟨fun i m ys σ H => m = n - i ∧ i ≤ n ∧ Pv i ys σ H, ⟨n, by simp, Nat.zero_le _, h0⟩, ?_⟩
  rintro i m ys σ H ⟨rfl, hi, p⟩
  by_cases hlt : i < n
  · refine .inr ⟨hgo i H hlt, Pv (i + 1), fun ys' σ' H' p' => ⟨n - (i + 1), by omega, rfl, hlt, p'⟩, fun x H' y => ?_⟩
    obtain ⟨e1, e2⟩ := hy i H x H' y
    subst e1 e2
    exact hs i ys σ _ hlt p
  · have e : i = n := by omega
    subst e
    exact .inl ⟨hst _ H (Nat.le_refl _), hd ys σ H p⟩
theorem w_gforR1 {n : Int} (hn : n < 2 ^ 62) (hn0 : -(2 ^ 62) ≤ n) (Pv : Nat → List V → L2.St → Hp → Prop) (h0 : Pv 0 ys σ H)
    (hs : ∀ (i : Nat) ys σ H, (i : Int) < n → Pv i ys σ H → g (.int i) σ H fun σ2 H2 => t ⟨Pv (i + 1), D.rt, D.nx, Pv (i + 1)⟩ ys σ2 H2) (hd : ∀ ys σ H, Pv n.toNat ys σ H → D.nx ys σ H) : iR1v [.int n] H fun J H1 => GForOk J g t D ys σ H1 :=
  ⟨n, rfl, hn0, hn, gfor_fn (n := n.toNat) (v := fun i => .int i) (fun _ _ h => h) (fun _ _ h => h) (fun i H x H' y => ⟨y.1, by rw [y.2, Int.zero_add]⟩) Pv h0 (fun i ys σ H hi p => hs i ys σ H (by omega) p) hd⟩
theorem w_gforDn {hi lo : Int} (b1 : -(2 ^ 62) ≤ hi) (b2 : hi < 2 ^ 62) (b3 : -(2 ^ 62) ≤ lo) (b4 : lo < 2 ^ 62) (Pv : Nat → List V → L2.St → Hp → Prop) (h0 : Pv 0 ys σ H)
    (hs : ∀ (i : Nat) ys σ H, (i : Int) < hi - lo → Pv i ys σ H → g (.int (hi - i)) σ H fun σ2 H2 => t ⟨Pv (i + 1), D.rt, D.nx, Pv (i + 1)⟩ ys σ2 H2) (hd : ∀ ys σ H, Pv (hi - lo).toNat ys σ H → D.nx ys σ H) : iR3v [.int hi, .int lo, .int (-1)] H fun J H1 => GForOk J g t D ys σ H1 :=
  ⟨hi, lo, -1, _, rfl, RgC.neg b1 b2 b3 b4, gfor_fn (n := (hi - lo).toNat) (v := fun i => .int (hi - i)) (fun _ _ h => h) (fun _ _ h => h) (fun i H x H' y => ⟨y.1, by rw [y.2]; congr 1; omega⟩) Pv h0 (fun i ys σ H hi' p => hs i ys σ H (by omega) p) hd⟩
theorem w_listG {tg : TGen} {Q : VK} (h : tg σ H fun out H2 => ∀ p, H2 p = none → Q (.ref p) (upd H2 p (.lst out))) : tListG tg σ H Q := h
theorem w_calG {sp : SpG} {E : XK} {Q : List V → Hp → Prop} (h : tas σ H fun vs H1 => sp vs H1 Q E) : tCalG sp E tas σ H Q := h
end
def sg1 (p : V → Hp → (List V → Hp → Prop) → XK → Prop) : SpG := fun vs H Q E => ∃ a, vs = [a] ∧ p a H Q E
def sg2 (p : V → V → Hp → (List V → Hp → Prop) → XK → Prop) : SpG := fun vs H Q E => ∃ a b, vs = [a, b] ∧ p a b H Q E
def sg3 (p : V → V → V → Hp → (List V → Hp → Prop) → XK → Prop) : SpG := fun vs H Q E => ∃ a b c, vs = [a, b, c] ∧ p a b c H Q E
end KP

namespace KL
open PySem PySem.Spec PyProof.Rows L2 Evl KP
local macro_rules | `(tactic| walk_at "hp") => `(tactic| first
  | assumption
  | exact upd_same
  | ((with_reducible apply hp_new); (next => assumption); walk_at "hp")
  | ((with_reducible apply hp_ne); (next => assumption); walk_at "hp")
  | (apply hp_ex; (next => assumption); walk_at "hp"))
local macro_rules | `(tactic| walk_at "sqL") => `(tactic| first
  | assumption
  | (apply SqL.of; walk_at "hp")
  | ((with_reducible apply Evl.ex_l); (next => assumption); walk_at "sqL")
  | ((with_reducible apply Evl.ex_l); (next => apply Evl.Ex.new; assumption); walk_at "sqL"))
local macro_rules | `(tactic| walk_at "sqT") => `(tactic| first
  | assumption
  | (apply SqT.of; walk_at "hp")
  | ((with_reducible apply Evl.ex_t); (next => assumption); walk_at "sqT")
  | ((with_reducible apply Evl.ex_t); (next => apply Evl.Ex.new; assumption); walk_at "sqT"))
local macro_rules | `(tactic| walk_at "sq") => `(tactic| first
  | assumption
  | (apply Or.inl; walk_at "sqL")
  | (apply Or.inr; walk_at "sqT"))
local macro_rules | `(tactic| walk_at "cm") => `(tactic| first
  | exact .inl (.inl ⟨by omega, by omega⟩)
  | exact .inl (.inr ⟨by omega, by omega⟩))
local macro_rules | `(tactic| walk_at "dv") => `(tactic| first
  | exact ⟨by omega, by decide⟩
  | exact wide_div (b := 64) (by omega) (by omega) (by decide) (by decide))
local macro_rules | `(tactic| walk_at "pw") => `(tactic| exact ⟨by omega, by omega, by omega⟩)
local macro_rules | `(tactic| walk_at "s1") => `(tactic| first
  | with_reducible refine w_seq ?_
  | with_reducible refine w_nx ?_
  | with_reducible refine w_asg ?_
  | with_reducible refine w_op ?_
  | ((with_reducible refine' w_var ?k1 ?_); (case k1 => exact rfl))
  | with_reducible refine w_c ?_
  | ((with_reducible refine w_gname ?_); (try dsimp only [List.set_cons_succ, List.set_cons_zero]))
  | with_reducible refine w_addI ?_
  | with_reducible refine w_I0 ?_
  | with_reducible refine w_ord ?_
  | with_reducible refine w_eqI ?_
  | with_reducible refine w_neI ?_
  | ((with_reducible refine w_mulI ?k1 ?_); (case k1 => walk_at "cm"))
  | ((with_reducible refine w_I ?k1 ?_); (case k1 => walk_at "dv"))
  | ((with_reducible refine w_I ?k1 ?_); (case k1 => omega))
  | ((with_reducible refine w_I ?k1 ?_); (case k1 => walk_at "pw"))
  | with_reducible refine w_U ?_
  | with_reducible refine w_un ?_
  | with_reducible refine w_if ?_
  | with_reducible refine w_ret ?_
  | with_reducible refine w_rt ?_
  | with_reducible refine w_next ?_
  | with_reducible refine w_drop ?_
  | with_reducible refine w_cb ?_
  | with_reducible refine w_cal ?_
  | with_reducible refine w_cons ?_
  | with_reducible refine w_nil ?_
  | with_reducible refine w_test ?_
  | with_reducible refine w_bl ?_
  | with_reducible refine w_truG ?_
  | with_reducible refine w_tru ?_
  | with_reducible refine w_not ?_
  | with_reducible refine w_and ?_
  | with_reducible refine w_or ?_
  | with_reducible refine w_andV ?_
  | with_reducible refine w_orV ?_
  | with_reducible refine w_notV ?_
  | with_reducible refine w_ife ?_
  | with_reducible refine w_chain ?_
  | ((with_reducible refine' w_ix ?k1 ?k2 ?_); (case k1 => walk_at "sq"); (case k2 => exact rfl))
  | with_reducible refine w_int ?_
  | with_reducible refine w_abs ?_
  | with_reducible refine w_min ?_
  | with_reducible refine w_max ?_
  | ((with_reducible refine' w_lenN ?k1 fun _ => ?_); (case k1 => walk_at "sq"))
  | with_reducible refine w_star ?_
  | ((with_reducible refine' w_starR ?k1 ?_); (case k1 => walk_at "sq"))
  | with_reducible refine w_iR3 ?_
  | with_reducible refine w_tup ?_
  | with_reducible refine w_lst ?_
  | with_reducible refine w_for ?_
  | with_reducible refine w_iG ?_
  | with_reducible refine w_iR1 ?_
  | with_reducible refine w_iR2 ?_
  | with_reducible refine w_lc ?_
  | with_reducible refine w_lstRg ?_
  | with_reducible refine w_tupRg ?_
  | with_reducible refine w_rg1 ?_
  | with_reducible refine w_rg2 ?_
  | with_reducible refine w_int2 ?_
  | with_reducible refine w_bk ?_
  | with_reducible refine w_ct ?_
  | with_reducible refine w_break ?_
  | with_reducible refine w_cont ?_
  | with_reducible refine w_retN ?_
  | with_reducible refine w_gsub ?_
  | ((with_reducible refine' w_setL ?k1 ?k2 ?_); (case k1 => walk_at "hp"); (case k2 => exact rfl); (try dsimp only [List.set_cons_succ, List.set_cons_zero, Int.reduceToNat]))
  | ((with_reducible refine' w_isi (TyX.base (TyOf.int _)) ?k1 ?_); (case k1 => walk_at "kit"))
  | ((with_reducible refine' w_isi (TyX.base (TyOf.bl _)) ?k1 ?_); (case k1 => walk_at "kit"))
  | ((with_reducible refine' w_isi (TyX.base (TyOf.str _)) ?k1 ?_); (case k1 => walk_at "kit"))
  | ((with_reducible refine' w_isi (TyX.base TyOf.non) ?k1 ?_); (case k1 => walk_at "kit"))
  | with_reducible refine w_isN ?_
  | with_reducible refine w_isB ?_
  | with_reducible refine w_isnotN ?_
  | with_reducible refine w_isnotB ?_
  | with_reducible refine w_eqS ?_
  | with_reducible refine w_neS ?_
  | with_reducible refine w_eqB ?_
  | with_reducible refine w_neB ?_
  | with_reducible refine w_sl ?_
  | with_reducible refine w_nopart ?_
  | with_reducible refine w_part ?_
  | with_reducible refine w_pint ?_
  | with_reducible refine w_bm ?_
  | with_reducible refine w_bm0 ?_
  | ((with_reducible refine' w_tyL ?k1 ?_); (case k1 => walk_at "hp"))
  | with_reducible refine w_sp1 ?_
  | with_reducible refine w_sp2 ?_
  | with_reducible refine w_sp3 ?_
  | with_reducible refine w_sp4 ?_
  | with_reducible refine w_sp5 ?_
  | with_reducible refine w_sp6 ?_
  | with_reducible refine w_sp0 ?_
  | ((with_reducible refine' w_aug ?k1 ?_); (case k1 => exact rfl))
  | with_reducible refine w_ipF True.intro ?_
  | ((with_reducible refine w_ipF ?k1 ?_); (case k1 => omega))
  | with_reducible refine kite_tt ?_
  | with_reducible refine kite_ff ?_
  | with_reducible refine kite_nt ?_
  | with_reducible refine kite_nf ?_
  | with_reducible refine w_gthen ?_
  | with_reducible refine w_plain ?_
  | with_reducible refine w_g0 ?_
  | with_reducible refine w_gnx ?_
  | with_reducible refine w_gif ?_
  | with_reducible refine w_gfor ?_
  | with_reducible refine w_listG ?_
  | with_reducible refine w_calG ?_
  | ((with_reducible refine w_gyield ?k1 ?_); (case k1 => walk_at "gy"))
  | with_reducible refine w_gcons ?_
  | with_reducible refine w_gnil ?_)
local macro_rules | `(tactic| walk_at "s") => `(tactic| repeat (walk_at "s1"))
local macro_rules | `(tactic| walk_at "if") => `(tactic| first
  | with_reducible refine kite_d ?_ ?_
  | with_reducible refine kite_nd ?_ ?_
  | with_reducible refine kite_b ?_ ?_
  | with_reducible refine kite_nb ?_ ?_)
local macro_rules | `(tactic| walk_at "en") => `(tactic| dsimp only [Cx.nox, Cx.wish, cxOf, L2.gcxOf, List.map_cons, List.map_nil])
local macro_rules | `(tactic| walk_at "sz") => `(tactic| refine ⟨sz_of (Nat.le_of_ble_eq_true rfl), ?_⟩)
local macro_rules | `(tactic| walk_at "kit") => `(tactic| first
  | exact kit_ty (r := true) (by decide +kernel)
  | exact kit_ty (r := false) (by decide +kernel))

def top (i : Nat) : Stmt := PySem.Challenge.pw_keptpictures_k39_whole_mended.main.body.getD i (.Pass ⟨0, 0, 0, 0⟩)
abbrev s_law_drawer : Stmt := (top 14)
abbrev N_law_drawer : List Str := ["script", "k", "cell", "seed"]
theorem sc_law_drawer : FnScope N_law_drawer ["script", "k"] (defScope s_law_drawer) := ⟨rfl, rfl, rfl, by decide +kernel, rfl, by decide +kernel, by decide +kernel⟩
theorem st_law_drawer (v0 v1 : V) : start N_law_drawer [v0, v1] = [some v0, some v1, none, none] := rfl
abbrev s_law_draw : Stmt := (top 15)
abbrev N_law_draw : List Str := ["drawer", "many", "value", "one", "two"]
theorem sc_law_draw : FnScope N_law_draw ["drawer", "many"] (defScope s_law_draw) := ⟨rfl, rfl, rfl, by decide +kernel, rfl, by decide +kernel, by decide +kernel⟩
theorem st_law_draw (v0 v1 : V) : start N_law_draw [v0, v1] = [some v0, some v1, none, none, none] := rfl
abbrev s_law_pick : Stmt := (top 16)
abbrev N_law_pick : List Str := ["drawer", "choices"]
theorem sc_law_pick : FnScope N_law_pick ["drawer", "choices"] (defScope s_law_pick) := ⟨rfl, rfl, rfl, by decide +kernel, rfl, by decide +kernel, by decide +kernel⟩
theorem st_law_pick (v0 v1 : V) : start N_law_pick [v0, v1] = [some v0, some v1] := rfl
abbrev s_law_int : Stmt := (top 17)
abbrev N_law_int : List Str := ["value"]
theorem sc_law_int : FnScope N_law_int ["value"] (defScope s_law_int) := ⟨rfl, rfl, rfl, by decide +kernel, rfl, by decide +kernel, by decide +kernel⟩
theorem st_law_int (v0 : V) : start N_law_int [v0] = [some v0] := rfl
abbrev s_law_same : Stmt := (top 18)
abbrev N_law_same : List Str := ["got", "due", "k"]
theorem sc_law_same : FnScope N_law_same ["got", "due"] (defScope s_law_same) := ⟨rfl, rfl, rfl, by decide +kernel, rfl, by decide +kernel, by decide +kernel⟩
theorem st_law_same (v0 v1 : V) : start N_law_same [v0, v1] = [some v0, some v1, none] := rfl
abbrev s_double : Stmt := (top 2)
abbrev N_double : List Str := ["number", "twice"]
theorem sc_double : FnScope N_double ["number"] (defScope s_double) := ⟨rfl, rfl, rfl, by decide +kernel, rfl, by decide +kernel, by decide +kernel⟩
theorem st_double (v0 : V) : start N_double [v0] = [some v0, none] := rfl
abbrev s_closing : Stmt := (top 3)
abbrev N_closing : List Str := ["kind", "content", "length", "total", "turn", "number"]
theorem sc_closing : FnScope N_closing ["kind", "content"] (defScope s_closing) := ⟨rfl, rfl, rfl, by decide +kernel, rfl, by decide +kernel, by decide +kernel⟩
theorem st_closing (v0 v1 : V) : start N_closing [v0, v1] = [some v0, some v1, none, none, none, none] := rfl
abbrev s_is_piece : Stmt := (top 5)
abbrev N_is_piece : List Str := ["data", "byte"]
theorem sc_is_piece : FnScope N_is_piece ["data"] (defScope s_is_piece) := ⟨rfl, rfl, rfl, by decide +kernel, rfl, by decide +kernel, by decide +kernel⟩
theorem st_is_piece (v0 : V) : start N_is_piece [v0] = [some v0, none] := rfl
abbrev s_is_sound : Stmt := (top 6)
abbrev N_is_sound : List Str := ["piece", "kind"]
theorem sc_is_sound : FnScope N_is_sound ["piece"] (defScope s_is_sound) := ⟨rfl, rfl, rfl, by decide +kernel, rfl, by decide +kernel, by decide +kernel⟩
theorem st_is_sound (v0 : V) : start N_is_sound [v0] = [some v0, none] := rfl
abbrev s_law_double : Stmt := (top 19)
abbrev N_law_double : List Str := ["number"]
theorem sc_law_double : FnScope N_law_double ["number"] (defScope s_law_double) := ⟨rfl, rfl, rfl, by decide +kernel, rfl, by decide +kernel, by decide +kernel⟩
theorem st_law_double (v0 : V) : start N_law_double [v0] = [some v0] := rfl
abbrev s_law_chunk : Stmt := (top 20)
abbrev N_law_chunk : List Str := ["manner", "content", "row", "total", "turn", "number"]
theorem sc_law_chunk : FnScope N_law_chunk ["manner", "content"] (defScope s_law_chunk) := ⟨rfl, rfl, rfl, by decide +kernel, rfl, by decide +kernel, by decide +kernel⟩
theorem st_law_chunk (v0 v1 : V) : start N_law_chunk [v0, v1] = [some v0, some v1, none, none, none, none] := rfl
abbrev s_replaced : Stmt := (top 8)
abbrev N_replaced : List Str := ["piece", "place", "byte"]
theorem sc_replaced : FnScope N_replaced ["piece", "place", "byte"] (defScope s_replaced) := ⟨rfl, rfl, rfl, by decide +kernel, rfl, by decide +kernel, by decide +kernel⟩
theorem st_replaced (v0 v1 v2 : V) : start N_replaced [v0, v1, v2] = [some v0, some v1, some v2] := rfl
abbrev s_with_other_marks : Stmt := (top 9)
abbrev N_with_other_marks : List Str := ["piece", "kind"]
theorem sc_with_other_marks : L2.GScope N_with_other_marks ["piece"] (defScope s_with_other_marks) := ⟨rfl, rfl, rfl, by decide +kernel, rfl, by decide +kernel, by decide +kernel⟩
theorem st_with_other_marks (v0 : V) : start N_with_other_marks [v0] = [some v0, none] := rfl
abbrev s_with_other_closing : Stmt := (top 10)
abbrev N_with_other_closing : List Str := ["piece", "due", "place"]
theorem sc_with_other_closing : L2.GScope N_with_other_closing ["piece"] (defScope s_with_other_closing) := ⟨rfl, rfl, rfl, by decide +kernel, rfl, by decide +kernel, by decide +kernel⟩
theorem st_with_other_closing (v0 : V) : start N_with_other_closing [v0] = [some v0, none, none] := rfl
abbrev s_with_other_content : Stmt := (top 11)
abbrev N_with_other_content : List Str := ["piece", "due", "change", "turned", "moved", "place"]
theorem sc_with_other_content : L2.GScope N_with_other_content ["piece"] (defScope s_with_other_content) := ⟨rfl, rfl, rfl, by decide +kernel, rfl, by decide +kernel, by decide +kernel⟩
theorem st_with_other_content (v0 : V) : start N_with_other_content [v0] = [some v0, none, none, none, none, none] := rfl
abbrev s_mended : Stmt := (top 12)
abbrev N_mended : List Str := ["piece", "candidates", "candidate"]
theorem sc_mended : FnScope N_mended ["piece"] (defScope s_mended) := ⟨rfl, rfl, rfl, by decide +kernel, rfl, by decide +kernel, by decide +kernel⟩
theorem st_mended (v0 : V) : start N_mended [v0] = [some v0, none, none] := rfl
abbrev s_law_size : Stmt := (top 21)
abbrev N_law_size : List Str := ["drawer", "size"]
theorem sc_law_size : FnScope N_law_size ["drawer"] (defScope s_law_size) := ⟨rfl, rfl, rfl, by decide +kernel, rfl, by decide +kernel, by decide +kernel⟩
theorem st_law_size (v0 : V) : start N_law_size [v0] = [some v0, none] := rfl
abbrev s_law_replaced : Stmt := (top 22)
abbrev N_law_replaced : List Str := ["drawer", "chunk", "one", "two", "first", "last", "change", "way", "other", "steps", "k", "hurt", "found"]
theorem sc_law_replaced : FnScope N_law_replaced ["drawer", "chunk"] (defScope s_law_replaced) := ⟨rfl, rfl, rfl, by decide +kernel, rfl, by decide +kernel, by decide +kernel⟩
theorem st_law_replaced (v0 v1 : V) : start N_law_replaced [v0, v1] = [some v0, some v1, none, none, none, none, none, none, none, none, none, none, none] := rfl
abbrev s_law_sound : Stmt := (top 23)
abbrev N_law_sound : List Str := ["piece"]
theorem sc_law_sound : FnScope N_law_sound ["piece"] (defScope s_law_sound) := ⟨rfl, rfl, rfl, by decide +kernel, rfl, by decide +kernel, by decide +kernel⟩
theorem st_law_sound (v0 : V) : start N_law_sound [v0] = [some v0] := rfl
abbrev s_law_near : Stmt := (top 24)
abbrev N_law_near : List Str := ["piece", "total", "value", "found", "at", "others", "other"]
theorem sc_law_near : FnScope N_law_near ["piece"] (defScope s_law_near) := ⟨rfl, rfl, rfl, by decide +kernel, rfl, by decide +kernel, by decide +kernel⟩
theorem st_law_near (v0 : V) : start N_law_near [v0] = [some v0, none, none, none, none, none, none] := rfl
abbrev s_law : Stmt := (top 25)
abbrev N_law : List Str := ["script", "drawer", "manner", "size", "chunk", "way", "piece", "many", "other", "due", "near", "k"]
theorem sc_law : FnScope N_law ["script"] (defScope s_law) := ⟨rfl, rfl, rfl, by decide +kernel, rfl, by decide +kernel, by decide +kernel⟩
theorem st_law (v0 : V) : start N_law [v0] = [some v0, none, none, none, none, none, none, none, none, none, none, none] := rfl
def d_law_drawer : He.DefD := ⟨("_law_drawer", none), "_law_drawer", "_law_drawer", defArgs s_law_drawer, defBody s_law_drawer, defScope s_law_drawer, [], []⟩
def d_law_draw : He.DefD := ⟨("_law_draw", none), "_law_draw", "_law_draw", defArgs s_law_draw, defBody s_law_draw, defScope s_law_draw, [], []⟩
def d_law_pick : He.DefD := ⟨("_law_pick", none), "_law_pick", "_law_pick", defArgs s_law_pick, defBody s_law_pick, defScope s_law_pick, [], []⟩
def d_law_int : He.DefD := ⟨("_law_int", none), "_law_int", "_law_int", defArgs s_law_int, defBody s_law_int, defScope s_law_int, [], []⟩
def d_law_same : He.DefD := ⟨("_law_same", none), "_law_same", "_law_same", defArgs s_law_same, defBody s_law_same, defScope s_law_same, [], []⟩
def d_double : He.DefD := ⟨("double", none), "double", "double", defArgs s_double, defBody s_double, defScope s_double, [], []⟩
def d_closing : He.DefD := ⟨("closing", none), "closing", "closing", defArgs s_closing, defBody s_closing, defScope s_closing, [], []⟩
def d_is_piece : He.DefD := ⟨("is_piece", none), "is_piece", "is_piece", defArgs s_is_piece, defBody s_is_piece, defScope s_is_piece, [], []⟩
def d_is_sound : He.DefD := ⟨("is_sound", none), "is_sound", "is_sound", defArgs s_is_sound, defBody s_is_sound, defScope s_is_sound, [], []⟩
def d_law_double : He.DefD := ⟨("_law_double", none), "_law_double", "_law_double", defArgs s_law_double, defBody s_law_double, defScope s_law_double, [], []⟩
def d_law_chunk : He.DefD := ⟨("_law_chunk", none), "_law_chunk", "_law_chunk", defArgs s_law_chunk, defBody s_law_chunk, defScope s_law_chunk, [], []⟩
def d_replaced : He.DefD := ⟨("replaced", none), "replaced", "replaced", defArgs s_replaced, defBody s_replaced, defScope s_replaced, [], []⟩
def d_with_other_marks : He.DefD := ⟨("with_other_marks", none), "with_other_marks", "with_other_marks", defArgs s_with_other_marks, defBody s_with_other_marks, defScope s_with_other_marks, [], []⟩
def d_with_other_closing : He.DefD := ⟨("with_other_closing", none), "with_other_closing", "with_other_closing", defArgs s_with_other_closing, defBody s_with_other_closing, defScope s_with_other_closing, [], []⟩
def d_with_other_content : He.DefD := ⟨("with_other_content", none), "with_other_content", "with_other_content", defArgs s_with_other_content, defBody s_with_other_content, defScope s_with_other_content, [], []⟩
def d_mended : He.DefD := ⟨("mended", none), "mended", "mended", defArgs s_mended, defBody s_mended, defScope s_mended, [], []⟩
def d_law_size : He.DefD := ⟨("_law_size", none), "_law_size", "_law_size", defArgs s_law_size, defBody s_law_size, defScope s_law_size, [], []⟩
def d_law_replaced : He.DefD := ⟨("_law_replaced", none), "_law_replaced", "_law_replaced", defArgs s_law_replaced, defBody s_law_replaced, defScope s_law_replaced, [], []⟩
def d_law_sound : He.DefD := ⟨("_law_sound", none), "_law_sound", "_law_sound", defArgs s_law_sound, defBody s_law_sound, defScope s_law_sound, [], []⟩
def d_law_near : He.DefD := ⟨("_law_near", none), "_law_near", "_law_near", defArgs s_law_near, defBody s_law_near, defScope s_law_near, [], []⟩
def d_law : He.DefD := ⟨("law", none), "law", "law", defArgs s_law, defBody s_law, defScope s_law, [], []⟩
def fn : List He.DefD := [d_law_drawer, d_law_draw, d_law_pick, d_law_int, d_law_same, d_double, d_closing, d_is_piece, d_is_sound, d_law_double, d_law_chunk, d_replaced, d_with_other_marks, d_with_other_closing, d_with_other_content, d_mended, d_law_size, d_law_replaced, d_law_sound, d_law_near, d_law]
def fa : List He.Fa := [.free "len", .free "abs", .free "int", .glo "_law_drawer", .glo "_law_draw", .glo "_law_pick", .free "isinstance", .free "bool", .glo "_law_int", .glo "_law_same", .free "str", .free "tuple", .free "list", .free "range", .glo "double", .glo "closing", .glo "is_piece", .glo "KINDS", .glo "is_sound", .glo "_law_double", .glo "_law_chunk", .glo "replaced", .glo "with_other_marks", .glo "with_other_closing", .glo "with_other_content", .glo "mended", .glo "_law_size", .free "min", .free "max", .glo "_law_replaced", .glo "_law_sound", .glo "_law_near", .glo "law"]
def ex : List KP.Ex1 := [fun K => He.tupB K "KINDS" [.str "head", .str "palette", .str "data", .str "spare", .str "end"]]
abbrev Hd (K : PySem.W.Frag) (mg : Str → Option Value) : Prop := KP.Hd fa fn ex K mg
theorem k_KINDS {K : PySem.W.Frag} {mg : Str → Option Value} (hd : Hd K mg) (H : Hp) : SqT K H (He.ga K "KINDS") [.str "head", .str "palette", .str "data", .str "spare", .str "end"] := He.tupB_ok (hd.more 0) H
section
variable {P : Program} {w : World} {K : PySem.W.Frag} {mg : Str → Option Value} {base : Heap}

local macro_rules | `(tactic| walk_at "gy") => `(tactic| omega)
/-! ### the law's draws -/
theorem atI_mem {ns : List Int} {k : Int} (h0 : 0 ≤ k) (h1 : k < ns.length) : ∃ n, atI (ns.map V.int) k = some (.int n) := by
  obtain ⟨j, rfl⟩ := Int.eq_ofNat_of_zero_le h0
  have hj : j < ns.length := by omega
  exact ⟨ns[j], atI_nat (by rw [List.getElem?_map, List.getElem?_eq_getElem hj]; rfl)⟩
theorem at_ex {α : Type} {xs : List α} {k : Int} (h0 : 0 ≤ k) (h1 : k < xs.length) : ∃ (i : Nat) (v : α), k = i ∧ xs[i]? = some v ∧ atI xs k = some v := by
  obtain ⟨j, rfl⟩ := Int.eq_ofNat_of_zero_le h0
  have hj : j < xs.length := by omega
  exact ⟨j, xs[j], rfl, List.getElem?_eq_getElem hj, atI_nat (List.getElem?_eq_getElem hj)⟩
theorem dv_small {i m : Int} (h0 : 0 < m) (h1 : m < 2 ^ 64) : CDivW i m := wide_div (b := 64) h0 (by omega) (by decide) (by decide)
def sp_law_drawer (K : PySem.W.Frag) : Sp := sp2 fun x y H Q _ => ∃ (a : Addr) (ns : List Int) (k : Int), x = .ref a ∧ y = .int k ∧ Scr K H a ns ∧ 0 ≤ k ∧
  ∀ p H', H p = none → Evl.Ex H H' → Dr H' p → Q (.ref p) H'
theorem ap_drawer {K : PySem.W.Frag} {H : Hp} {Q : VK} {E : XK} {a : Addr} {ns : List Int} {k : Int} (h1 : Scr K H a ns) (h2 : 0 ≤ k) (q : ∀ p H', H p = none → Evl.Ex H H' → Dr H' p → Q (.ref p) H') :
    sp_law_drawer K [.ref a, .int k] H Q E := ⟨_, _, rfl, a, ns, k, rfl, rfl, h1, h2, q⟩
theorem ok_law_drawer (hd : Hd K mg) {fd : FuncData} (F : FunD K d_law_drawer.name d_law_drawer.qual d_law_drawer.params d_law_drawer.body d_law_drawer.scope (d_law_drawer.dvs K) (d_law_drawer.kws K) (He.fAd K d_law_drawer.at_) fd) : FnOk P w K mg base CX0 1 (He.fAd K d_law_drawer.at_) fd ["script", "k"] (sp_law_drawer K) := by
  refine FunD.ok F sc_law_drawer (fun vs H Q E h => ?_) (fun cdv A outer s H vs Q E hr h => ?_)
  · obtain ⟨v0, v1, rfl, _⟩ := h
    rfl
  obtain ⟨v0, v1, rfl, h⟩ := h
  rw [show start N_law_drawer [v0, v1] = _ from st_law_drawer v0 v1]
  refine ⟨_, PSs.nox ((pss_cons (ps_set (i := 2) sc_law_drawer.nd rfl (Or.inl rfl) pe_int)
      (pss_cons (ps_if (pt_cmpR op_ltG (pv 1) (pe_callB g_len (by rfl) (hd.free 0) (by decide +kernel) (pa_cons (pv 0) pa_nil)) (nomark _)) (pss_one (ps_set (i := 2) sc_law_drawer.nd rfl (Or.inl rfl) (pe_callB g_abs (by rfl) (hd.free 1) (by decide +kernel) (pa_cons (pe_ix ix_G (pv 0) (pv 1) (fun _ _ => rfl)) pa_nil)))) pss_nil)
      (pss_cons (ps_set (i := 3) sc_law_drawer.nd rfl (Or.inl rfl) (pe_op op_mod (pe_callTy g_int (by rfl) (hd.free 2) (by decide +kernel) (pa_cons (pe_op op_addG (pe_op op_addG (pv 2) (pe_op op_mulG pe_int (pv 1))) pe_int) pa_nil)) pe_int))
      (pss_cons (ps_if (pt_cmpR op_geG (pv 2) (pe_op op_pow pe_int pe_int) (nomark _)) (pss_one (ps_ret (pe_lst (pa_cons (pe_op op_sub (pv 2) (pe_op op_pow pe_int pe_int)) (pa_cons (pv 3) (pa_cons pe_int pa_nil)))))) pss_nil)
      (pss_one (ps_ret (pe_lst (pa_cons pe_int (pa_cons (pv 3) (pa_cons pe_int pa_nil))))))))))), ?_⟩
  obtain ⟨a, ns, k, rfl, rfl, hS0, h0, q0⟩ := h
  have hS := hS0.sq
  have q : ∀ p d s c, H p = none → Q (.ref p) (upd H p (.lst [.int d, .int s, .int c])) := fun p d s c hp => q0 p _ hp (Evl.Ex.new hp) ⟨d, s, c, upd_same⟩
  walk_at "en"
  walk_at "s"
  walk_at "if"
  · intro h1
    rw [List.length_map] at h1
    obtain ⟨n, hn⟩ := atI_mem h0 h1
    walk_at "s"
    refine w_ix (by walk_at "sq") hn ?_
    walk_at "s"
    walk_at "if"
    · intro h2
      walk_at "s"
      walk_at "sz"
      exact fun p hp => q _ _ _ _ hp
    · intro h2
      walk_at "s"
      walk_at "sz"
      exact fun p hp => q _ _ _ _ hp
  · intro h1
    walk_at "s"
    walk_at "if"
    · intro h2
      walk_at "s"
      walk_at "sz"
      exact fun p hp => q _ _ _ _ hp
    · intro h2
      walk_at "s"
      walk_at "sz"
      exact fun p hp => q _ _ _ _ hp
theorem cal_law_drawer (hd : Hd K mg) : Cal P w K mg base CX0 1 "_law_drawer" ["script", "k"] (sp_law_drawer K) := by
  obtain ⟨fd, F⟩ := hd.def_ 0
  exact .mk' (hd.glo 3) F.kp (FunD.bindsN F fun _ _ _ _ _ _ us hl => match us, hl with | [_, _], _ => rfl) (ok_law_drawer hd F)
/-- a drawer stands at a -/
def sp_law_draw (K : PySem.W.Frag) : Sp := sp2 fun x y H Q _ => ∃ (a : Addr) (m : Int), x = .ref a ∧ y = .int m ∧ Dr H a ∧ CDivW 0 m ∧ ∀ v H', 0 ≤ v → v < m → Dw a H H' → Q (.int v) H'
theorem ap_draw {K : PySem.W.Frag} {H : Hp} {Q : VK} {E : XK} {a : Addr} {m : Int} (h1 : Dr H a) (h2 : CDivW 0 m) (q : ∀ v H', 0 ≤ v → v < m → Dw a H H' → Q (.int v) H') : sp_law_draw K [.ref a, .int m] H Q E := ⟨_, _, rfl, a, m, rfl, rfl, h1, h2, q⟩
theorem ok_law_draw (hd : Hd K mg) {fd : FuncData} (F : FunD K d_law_draw.name d_law_draw.qual d_law_draw.params d_law_draw.body d_law_draw.scope (d_law_draw.dvs K) (d_law_draw.kws K) (He.fAd K d_law_draw.at_) fd) : FnOk P w K mg base CX0 1 (He.fAd K d_law_draw.at_) fd ["drawer", "many"] (sp_law_draw K) := by
  refine FunD.ok F sc_law_draw (fun vs H Q E h => ?_) (fun cdv A outer s H vs Q E hr h => ?_)
  · obtain ⟨v0, v1, rfl, _⟩ := h
    rfl
  obtain ⟨v0, v1, rfl, h⟩ := h
  rw [show start N_law_draw [v0, v1] = _ from st_law_draw v0 v1]
  refine ⟨_, PSs.nox ((pss_cons (ps_if (pt_cmpR op_gtG (pe_ix ix_G (pv 0) pe_int (fun _ _ => rfl)) pe_int (nomark _)) (pss_cons (ps_set (i := 2) sc_law_draw.nd rfl (Or.inl rfl) (pe_op op_mod (pe_callTy g_int (by rfl) (hd.free 2) (by decide +kernel) (pa_cons (pe_ix ix_G (pv 0) pe_int (fun _ _ => rfl)) pa_nil)) (pv 1)))
      (pss_cons (ps_asg (pe_op op_fdivW (pe_ix ix_G (pv 0) pe_int (fun _ _ => rfl)) (pv 1)) (pg_sub (pv 0) pe_int set_list))
      (pss_one (ps_ret (pv 2))))) pss_nil)
      (pss_cons (ps_asg (pe_op op_addG (pe_ix ix_G (pv 0) pe_int (fun _ _ => rfl)) pe_int) (pg_sub (pv 0) pe_int set_list))
      (pss_cons (ps_set (i := 3) sc_law_draw.nd rfl (Or.inl rfl) (pe_op op_mod (pe_callTy g_int (by rfl) (hd.free 2) (by decide +kernel) (pa_cons (pe_op op_addG (pe_op op_addG (pe_op op_mulG (pe_ix ix_G (pv 0) pe_int (fun _ _ => rfl)) pe_int) (pe_op op_mulG (pe_ix ix_G (pv 0) pe_int (fun _ _ => rfl)) pe_int)) pe_int) pa_nil)) pe_int))
      (pss_cons (ps_set (i := 4) sc_law_draw.nd rfl (Or.inl rfl) (pe_op op_mod (pe_callTy g_int (by rfl) (hd.free 2) (by decide +kernel) (pa_cons (pe_op op_addG (pe_op op_mulG (pv 3) (pe_op op_addG (pe_op op_fdivW (pv 3) pe_int) pe_int)) (pe_op op_mulG (pe_ix ix_G (pv 0) pe_int (fun _ _ => rfl)) pe_int)) pa_nil)) pe_int))
      (pss_one (ps_ret (pe_op op_mod (pe_callTy g_int (by rfl) (hd.free 2) (by decide +kernel) (pa_cons (pe_op op_fdivW (pv 4) pe_int) pa_nil)) (pv 1))))))))), ?_⟩
  obtain ⟨a, m, rfl, rfl, ⟨d, e, c, hD⟩, hm, q0⟩ := h
  have q : ∀ v d s c, 0 ≤ v → v < m → Q (.int v) (upd H a (.lst [.int d, .int s, .int c])) := fun v d s c h0 h1 => q0 v _ h0 h1 Dw.upd
  have hm0 : 0 < m := hm.1
  have hm1 : ∀ i, CDivW i m := fun _ => hm
  have hS : SqL K H a [.int d, .int e, .int c] := SqL.of hD
  walk_at "en"
  walk_at "s"
  walk_at "if"
  · intro h1
    walk_at "s"
    refine w_I (hm1 _) ?_
    walk_at "s"
    exact q _ _ _ _ (Int.emod_nonneg _ (by omega)) (Int.emod_lt_of_pos _ hm0)
  · intro h1
    walk_at "s"
    have b1 : 0 ≤ (e * 48271 + (c + 1) * 69621 + 12345) % 2147483647 := Int.emod_nonneg _ (by decide)
    have b2 : (e * 48271 + (c + 1) * 69621 + 12345) % 2147483647 < 2147483647 := Int.emod_lt_of_pos _ (by decide)
    generalize (e * 48271 + (c + 1) * 69621 + 12345) % 2147483647 = z at b1 b2 ⊢
    walk_at "s"
    exact q _ _ _ _ (Int.emod_nonneg _ (by omega)) (Int.emod_lt_of_pos _ hm0)
theorem cal_law_draw (hd : Hd K mg) : Cal P w K mg base CX0 1 "_law_draw" ["drawer", "many"] (sp_law_draw K) := by
  obtain ⟨fd, F⟩ := hd.def_ 1
  exact .mk' (hd.glo 4) F.kp (FunD.bindsN F fun _ _ _ _ _ _ us hl => match us, hl with | [_, _], _ => rfl) (ok_law_draw hd F)
/-- choices: a list, a tuple (it stands behind the draw, too) -/
def sp_law_pick (K : PySem.W.Frag) : Sp := sp2 fun x y H Q _ => ∃ (a : Addr), x = .ref a ∧ Dr H a ∧
  ((∃ (p : Addr) (xs : List V), y = .ref p ∧ 0 < xs.length ∧ xs.length < 2 ^ 60 ∧ (∀ H', Dw a H H' → Sq K H' p xs) ∧ ∀ v H', v ∈ xs → Dw a H H' → Q v H') ∨
  ∃ z : Str, y = .str z ∧ 0 < z.length ∧ z.length ≤ sizeLine ∧ ∀ (g : Nat) H', g ∈ z.cps.toList → Dw a H H' → Q (.str ⟨#[g]⟩) H')
theorem ap_pick {K : PySem.W.Frag} {H : Hp} {Q : VK} {E : XK} {a p : Addr} {xs : List V} (h1 : Dr H a) (h3 : 0 < xs.length) (h4 : xs.length < 2 ^ 60)
    (h5 : ∀ H', Dw a H H' → Sq K H' p xs) (q : ∀ v H', v ∈ xs → Dw a H H' → Q v H') : sp_law_pick K [.ref a, .ref p] H Q E := ⟨_, _, rfl, a, rfl, h1, .inl ⟨p, xs, rfl, h3, h4, h5, q⟩⟩
theorem ap_pickL {K : PySem.W.Frag} {H : Hp} {Q : VK} {E : XK} {a p : Addr} {xs : List V} (h1 : Dr H a) (h2 : p ≠ a) (h3 : H p = some (.lst xs)) (h4 : 0 < xs.length) (h5 : xs.length < 2 ^ 60)
    (q : ∀ v H', v ∈ xs → Dw a H H' → Q v H') : sp_law_pick K [.ref a, .ref p] H Q E := ap_pick h1 h4 h5 (fun H' x => .inl (SqL.of (x.kp _ _ h2 h3))) q
theorem ap_pickS {K : PySem.W.Frag} {H : Hp} {Q : VK} {E : XK} {a : Addr} {z : Str} (h1 : Dr H a) (h3 : 0 < z.length) (h4 : z.length ≤ sizeLine)
    (q : ∀ (g : Nat) H', g ∈ z.cps.toList → Dw a H H' → Q (.str ⟨#[g]⟩) H') : sp_law_pick K [.ref a, .str z] H Q E := ⟨_, _, rfl, a, rfl, h1, .inr ⟨z, rfl, h3, h4, q⟩⟩
theorem ok_law_pick (hd : Hd K mg) {fd : FuncData} (F : FunD K d_law_pick.name d_law_pick.qual d_law_pick.params d_law_pick.body d_law_pick.scope (d_law_pick.dvs K) (d_law_pick.kws K) (He.fAd K d_law_pick.at_) fd) : FnOk P w K mg base CX0 2 (He.fAd K d_law_pick.at_) fd ["drawer", "choices"] (sp_law_pick K) := by
  refine FunD.ok F sc_law_pick (fun vs H Q E h => ?_) (fun cdv A outer s H vs Q E hr h => ?_)
  · obtain ⟨v0, v1, rfl, _⟩ := h
    rfl
  obtain ⟨v0, v1, rfl, h⟩ := h
  rw [show start N_law_pick [v0, v1] = _ from st_law_pick v0 v1]
  refine ⟨_, PSs.nox ((pss_one (ps_ret (pe_ix ix_G (pv 1) (pe_cal (sp := sp_law_draw K) (cal_law_draw hd) (hr.mono (by decide)) rfl pass0 (pa_cons (pv 0) (pa_cons (pe_callB g_len (by rfl) (hd.free 0) (by decide +kernel) (pa_cons (pv 1) pa_nil)) pa_nil))) (fun _ _ => rfl))))), ?_⟩
  obtain ⟨a, rfl, hD, h⟩ := h
  rcases h with ⟨p, xs, rfl, hl, hl2, hS2, q⟩ | ⟨z, rfl, hl, hl2, q⟩
  · have hS := hS2 H (Dw.refl hD)
    walk_at "en"
    walk_at "s"
    refine ap_draw hD (dv_small (by omega) (by omega)) fun v H' h0 h1 hd => ?_
    walk_at "s"
    obtain ⟨i, w, e1, e2, e3⟩ := at_ex h0 h1
    exact w_ix (hS2 _ hd) e3 (q w _ (List.mem_of_getElem? e2) hd)
  · walk_at "en"
    walk_at "s"
    refine w_lenS hl2 ?_
    walk_at "s"
    refine ap_draw hD (dv_small (by omega) (by have := sizeLine_eq; omega)) fun v H' h0 h1 hd => ?_
    walk_at "s"
    obtain ⟨i, w, e1, e2, e3⟩ := at_ex (xs := z.cps.toList) h0 (by rw [Array.length_toList]; exact h1)
    exact w_ixS hl2 e3 (q w _ (List.mem_of_getElem? e2) hd)
theorem cal_law_pick (hd : Hd K mg) : Cal P w K mg base CX0 2 "_law_pick" ["drawer", "choices"] (sp_law_pick K) := by
  obtain ⟨fd, F⟩ := hd.def_ 2
  exact .mk' (hd.glo 5) F.kp (FunD.bindsN F fun _ _ _ _ _ _ us hl => match us, hl with | [_, _], _ => rfl) (ok_law_pick hd F)
/-! ### the law's own == through tuples and lists, where it must be True -/
def isI : PyData → Bool
  | .int _ => true
  | _ => false
def sp_law_int (K : PySem.W.Frag) : Sp := sp1 fun x H Q _ => ∃ d, Dp K H x d ∧ Q (.bl (isI d)) H
theorem ap_int {K : PySem.W.Frag} {H : Hp} {Q : VK} {E : XK} {i : Int} (q : Q (.bl true) H) : sp_law_int K [.int i] H Q E := ⟨_, rfl, .int i, .int i, q⟩
theorem ok_law_int (hd : Hd K mg) {fd : FuncData} (F : FunD K d_law_int.name d_law_int.qual d_law_int.params d_law_int.body d_law_int.scope (d_law_int.dvs K) (d_law_int.kws K) (He.fAd K d_law_int.at_) fd) : FnOk P w K mg base CX0 1 (He.fAd K d_law_int.at_) fd ["value"] (sp_law_int K) := by
  refine FunD.ok F sc_law_int (fun vs H Q E h => ?_) (fun cdv A outer s H vs Q E hr h => ?_)
  · obtain ⟨v0, rfl, _⟩ := h
    rfl
  obtain ⟨v0, rfl, h⟩ := h
  rw [show start N_law_int [v0] = _ from st_law_int v0]
  refine ⟨_, PSs.nox ((pss_one (ps_ret (pe_and (pe_callB call_isiG (by rfl) (hd.free 6) (by decide +kernel) (pa_cons (pv 0) (pa_cons (pe_bltn (v := .ty "int") (by rfl) (hd.free 2) (by decide +kernel) rfl) pa_nil))) (pe_one (pe_not (pe_callB call_isiG (by rfl) (hd.free 6) (by decide +kernel) (pa_cons (pv 0) (pa_cons (pe_bltn (v := .ty "bool") (by rfl) (hd.free 7) (by decide +kernel) rfl) pa_nil))))))))), ?_⟩
  obtain ⟨d, hd, q⟩ := h
  walk_at "en"
  cases hd with
  | non =>
    walk_at "s"
    exact q
  | bl b =>
    walk_at "s"
    exact q
  | int i =>
    walk_at "s"
    exact q
  | str z =>
    walk_at "s"
    exact q
  | lst h1 h2 =>
    walk_at "s"
    refine w_isi (ty_lst h1) (kit_ty (r := false) (by decide +kernel)) ?_
    walk_at "s"
    exact q
  | tup h1 h2 =>
    walk_at "s"
    refine w_isi (ty_tup h1) (kit_ty (r := false) (by decide +kernel)) ?_
    walk_at "s"
    exact q
theorem cal_law_int (hd : Hd K mg) : Cal P w K mg base CX0 1 "_law_int" ["value"] (sp_law_int K) := by
  obtain ⟨fd, F⟩ := hd.def_ 3
  exact .mk' (hd.glo 8) F.kp (FunD.bindsN F fun _ _ _ _ _ _ us hl => match us, hl with | [_], _ => rfl) (ok_law_int hd F)
def sp_law_same (n : Nat) (K : PySem.W.Frag) : Sp := sp2 fun x y H Q _ => ∃ d, Dp K H x d ∧ Dp K H y d ∧ d.depth < n ∧ Q (.bl true) H
theorem no_law_same {K : PySem.W.Frag} {vs : List V} {H : Hp} {Q : VK} {E : XK} (h : sp_law_same 0 K vs H Q E) : False := by
  obtain ⟨_, _, _, _, _, _, h, _⟩ := h
  omega
theorem ap_same {n : Nat} {K : PySem.W.Frag} {H : Hp} {Q : VK} {E : XK} {x y : V} (d : PyData) (h1 : Dp K H x d) (h2 : Dp K H y d) (h3 : d.depth < n) (q : Q (.bl true) H) : sp_law_same n K [x, y] H Q E := ⟨_, _, rfl, d, h1, h2, h3, q⟩
theorem ok_law_same (hd : Hd K mg) {fd : FuncData} (F : FunD K d_law_same.name d_law_same.qual d_law_same.params d_law_same.body d_law_same.scope (d_law_same.dvs K) (d_law_same.kws K) (He.fAd K d_law_same.at_) fd) : ∀ n : Nat, FnOk P w K mg base CX0 (n + 2) (He.fAd K d_law_same.at_) fd ["got", "due"] (sp_law_same n K) := by
  refine Nat.rec (motive := fun n => FnOk P w K mg base CX0 (n + 2) (He.fAd K d_law_same.at_) fd ["got", "due"] (sp_law_same n K)) ⟨fun vs H Q E h => (no_law_same h).elim, fun _ _ _ _ _ _ _ _ _ _ _ _ _ h => (no_law_same h).elim⟩ fun n ihn => ?_
  have ih : Cal P w K mg base CX0 (n + 2) "_law_same" ["got", "due"] (sp_law_same n K) := .mk' (hd.glo 9) F.kp (FunD.bindsN F fun _ _ _ _ _ _ us hl => match us, hl with | [_, _], _ => rfl) ihn
  refine FnOk.mono (FunD.ok (k := n + 2) F sc_law_same (fun vs H Q E h => ?_) (fun cdv A outer s H vs Q E hr h => ?_)) (by omega)
  · obtain ⟨v0, v1, rfl, _⟩ := h
    rfl
  obtain ⟨v0, v1, rfl, h⟩ := h
  rw [show start N_law_same [v0, v1] = _ from st_law_same v0 v1]
  refine ⟨_, PSs.nox ((pss_cons (ps_if (pt_cmpR op_isG (pv 1) pe_non (nomark _)) (pss_one (ps_ret (pe_cmpR op_isG (pv 0) pe_non (nomark _)))) pss_nil)
      (pss_cons (ps_if (pt_cmpR op_isG (pv 1) pe_bl (nomark _)) (pss_one (ps_ret (pe_cmpR op_isG (pv 0) pe_bl (nomark _)))) pss_nil)
      (pss_cons (ps_if (pt_cmpR op_isG (pv 1) pe_bl (nomark _)) (pss_one (ps_ret (pe_cmpR op_isG (pv 0) pe_bl (nomark _)))) pss_nil)
      (pss_cons (ps_if (pt_truG (pe_callB call_isiG (by rfl) (hd.free 6) (by decide +kernel) (pa_cons (pv 1) (pa_cons (pe_bltn (v := .ty "int") (by rfl) (hd.free 2) (by decide +kernel) rfl) pa_nil))) (by intro _; rfl)) (pss_one (ps_ret (pe_and (pe_cal (sp := sp_law_int K) (cal_law_int hd) (hr.mono (by omega)) rfl pass0 (pa_cons (pv 0) pa_nil)) (pe_one (pe_cmpR (op_eqG (hu64 hr)) (pv 0) (pv 1) (nomark _)))))) pss_nil)
      (pss_cons (ps_if (pt_truG (pe_callB call_isiG (by rfl) (hd.free 6) (by decide +kernel) (pa_cons (pv 1) (pa_cons (pe_bltn (v := .ty "str") (by rfl) (hd.free 10) (by decide +kernel) rfl) pa_nil))) (by intro _; rfl)) (pss_one (ps_ret (pe_and (pe_callB call_isiG (by rfl) (hd.free 6) (by decide +kernel) (pa_cons (pv 0) (pa_cons (pe_bltn (v := .ty "str") (by rfl) (hd.free 10) (by decide +kernel) rfl) pa_nil))) (pe_one (pe_cmpR (op_eqG (hu64 hr)) (pv 0) (pv 1) (nomark _)))))) pss_nil)
      (pss_cons (ps_if (pt_truG (pe_callB call_isiG (by rfl) (hd.free 6) (by decide +kernel) (pa_cons (pv 1) (pa_cons (pe_bltn (v := .ty "tuple") (by rfl) (hd.free 11) (by decide +kernel) rfl) pa_nil))) (by intro _; rfl)) (pss_one (ps_if (pt_not (pt_truG (pe_callB call_isiG (by rfl) (hd.free 6) (by decide +kernel) (pa_cons (pv 0) (pa_cons (pe_bltn (v := .ty "tuple") (by rfl) (hd.free 11) (by decide +kernel) rfl) pa_nil))) (by intro _; rfl))) (pss_one (ps_ret pe_bl)) pss_nil)) (pss_one (ps_if (pt_not (pt_truG (pe_callB call_isiG (by rfl) (hd.free 6) (by decide +kernel) (pa_cons (pv 0) (pa_cons (pe_bltn (v := .ty "list") (by rfl) (hd.free 12) (by decide +kernel) rfl) pa_nil))) (by intro _; rfl))) (pss_one (ps_ret pe_bl)) pss_nil)))
      (pss_cons (ps_if (pt_cmpR (op_neG (hu64 hr)) (pe_callB g_len (by rfl) (hd.free 0) (by decide +kernel) (pa_cons (pv 0) pa_nil)) (pe_callB g_len (by rfl) (hd.free 0) (by decide +kernel) (pa_cons (pv 1) pa_nil)) (nomark _)) (pss_one (ps_ret pe_bl)) pss_nil)
      (pss_cons (ps_for PassesOwn.never rfl (pi_range1 rfl (hd.free 13) (pa_cons (pe_callB g_len (by rfl) (hd.free 0) (by decide +kernel) (pa_cons (pv 1) pa_nil)) pa_nil)) (pg_name (i := 2) sc_law_same.nd rfl (Or.inl rfl))
      (pss_one (ps_if (pt_not (pt_truG (pe_cal (sp := sp_law_same n K) ih hr rfl pass0 (pa_cons (pe_ix ix_G (pv 0) (pv 2) (fun _ _ => rfl)) (pa_cons (pe_ix ix_G (pv 1) (pv 2) (fun _ _ => rfl)) pa_nil))) (by intro _; rfl))) (pss_one (ps_ret pe_bl)) pss_nil)))
      (pss_one (ps_ret pe_bl))))))))))), ?_⟩
  obtain ⟨d, h1, h2, hn, q⟩ := h
  walk_at "en"
  cases h2 with
  | non =>
    cases h1
    walk_at "s"
    refine kite_d (fun _ => ?_) fun z => (z rfl).elim
    walk_at "s"
    rw [decide_eq_true rfl]
    exact q
  | bl b =>
    cases h1
    walk_at "s"
    refine kite_d (fun z => nomatch z) fun _ => ?_
    walk_at "s"
    cases b with
    | true =>
      refine kite_d (fun _ => ?_) fun z => (z rfl).elim
      walk_at "s"
      rw [decide_eq_true rfl]
      exact q
    | false =>
      refine kite_d (fun z => nomatch z) fun _ => ?_
      walk_at "s"
      refine kite_d (fun _ => ?_) fun z => (z rfl).elim
      walk_at "s"
      rw [decide_eq_true rfl]
      exact q
  | int i =>
    cases h1
    walk_at "s"
    refine kite_d (fun z => nomatch z) fun _ => ?_
    walk_at "s"
    refine kite_d (fun z => nomatch z) fun _ => ?_
    walk_at "s"
    refine kite_d (fun z => nomatch z) fun _ => ?_
    walk_at "s"
    refine ap_int ?_
    walk_at "s"
    rw [decide_eq_true rfl]
    exact q
  | str z =>
    cases h1
    walk_at "s"
    refine kite_d (fun z => nomatch z) fun _ => ?_
    walk_at "s"
    refine kite_d (fun z => nomatch z) fun _ => ?_
    walk_at "s"
    refine kite_d (fun z => nomatch z) fun _ => ?_
    walk_at "s"
    rw [decide_eq_true rfl]
    exact q
  | @lst a ys ds hy hys =>
    cases h1 with
    | @lst b xs _ hx hxs =>
    walk_at "s"
    refine kite_d (fun z => nomatch z) fun _ => ?_
    walk_at "s"
    refine kite_d (fun z => nomatch z) fun _ => ?_
    walk_at "s"
    refine kite_d (fun z => nomatch z) fun _ => ?_
    walk_at "s"
    refine w_isi (ty_lst hy) (kit_ty (r := false) (by decide +kernel)) ?_
    walk_at "s"
    refine w_isi (ty_lst hy) (kit_ty (r := false) (by decide +kernel)) ?_
    walk_at "s"
    refine w_isi (ty_lst hy) (kit_ty (r := false) (by decide +kernel)) ?_
    walk_at "s"
    refine w_isi (ty_lst hx) (kit_ty (r := true) (by decide +kernel)) ?_
    walk_at "s"
    have e1 := dpAll_len hxs
    have e2 := dpAll_len hys
    rw [e1, e2]
    refine kite_nd (fun z => (z rfl).elim) fun _ => ?_
    walk_at "s"
    refine w_forR1 (by omega) (by omega) (fun i σ H' => H = H' ∧ ∃ o : Option V, σ = [some (V.ref b), some (V.ref a), o]) ⟨rfl, none, rfl⟩ ?_ ?_
    · rintro i σ H' hi ⟨rfl, o, rfl⟩
      walk_at "s"
      obtain ⟨v, hv⟩ : ∃ v, xs[i]? = some v := ⟨xs[i], List.getElem?_eq_getElem (by omega)⟩
      obtain ⟨u, hu⟩ : ∃ v, ys[i]? = some v := ⟨ys[i], List.getElem?_eq_getElem (by omega)⟩
      refine w_ix (.inl hx) (atI_nat hv) ?_
      walk_at "s"
      refine w_ix (.inl hy) (atI_nat hu) ?_
      walk_at "s"
      obtain ⟨c, hc, dv⟩ := dpAll_get hxs hv
      obtain ⟨c', hc', du⟩ := dpAll_get hys hu
      rw [hc] at hc'
      cases hc'
      have hd := depth_get hc
      refine ap_same c dv du (by simp only [PyData.depth] at hn; omega) ?_
      walk_at "s"
      exact ⟨rfl, _, rfl⟩
    · rintro σ H' ⟨rfl, o, rfl⟩
      walk_at "s"
      exact q
  | @tup a ys ds hy hys =>
    cases h1 with
    | @tup b xs _ hx hxs =>
    walk_at "s"
    refine kite_d (fun z => nomatch z) fun _ => ?_
    walk_at "s"
    refine kite_d (fun z => nomatch z) fun _ => ?_
    walk_at "s"
    refine kite_d (fun z => nomatch z) fun _ => ?_
    walk_at "s"
    refine w_isi (ty_tup hy) (kit_ty (r := false) (by decide +kernel)) ?_
    walk_at "s"
    refine w_isi (ty_tup hy) (kit_ty (r := false) (by decide +kernel)) ?_
    walk_at "s"
    refine w_isi (ty_tup hy) (kit_ty (r := true) (by decide +kernel)) ?_
    walk_at "s"
    refine w_isi (ty_tup hx) (kit_ty (r := true) (by decide +kernel)) ?_
    walk_at "s"
    have e1 := dpAll_len hxs
    have e2 := dpAll_len hys
    rw [e1, e2]
    refine kite_nd (fun z => (z rfl).elim) fun _ => ?_
    walk_at "s"
    refine w_forR1 (by omega) (by omega) (fun i σ H' => H = H' ∧ ∃ o : Option V, σ = [some (V.ref b), some (V.ref a), o]) ⟨rfl, none, rfl⟩ ?_ ?_
    · rintro i σ H' hi ⟨rfl, o, rfl⟩
      walk_at "s"
      obtain ⟨v, hv⟩ : ∃ v, xs[i]? = some v := ⟨xs[i], List.getElem?_eq_getElem (by omega)⟩
      obtain ⟨u, hu⟩ : ∃ v, ys[i]? = some v := ⟨ys[i], List.getElem?_eq_getElem (by omega)⟩
      refine w_ix (.inr hx) (atI_nat hv) ?_
      walk_at "s"
      refine w_ix (.inr hy) (atI_nat hu) ?_
      walk_at "s"
      obtain ⟨c, hc, dv⟩ := dpAll_get hxs hv
      obtain ⟨c', hc', du⟩ := dpAll_get hys hu
      rw [hc] at hc'
      cases hc'
      have hd := depth_get hc
      refine ap_same c dv du (by simp only [PyData.depth] at hn; omega) ?_
      walk_at "s"
      exact ⟨rfl, _, rfl⟩
    · rintro σ H' ⟨rfl, o, rfl⟩
      walk_at "s"
      exact q
theorem cal_law_same (hd : Hd K mg) (n : Nat) : Cal P w K mg base CX0 (n + 2) "_law_same" ["got", "due"] (sp_law_same n K) := by
  obtain ⟨fd, F⟩ := hd.def_ 4
  exact .mk' (hd.glo 9) F.kp (FunD.bindsN F fun _ _ _ _ _ _ us hl => match us, hl with | [_, _], _ => rfl) (ok_law_same hd F n)
/-! ### the carryless sum, the turn -/
theorem nat_xor_and (a : Nat) : ∀ b, (a ^^^ b) + 2 * (a &&& b) = a + b := by
  induction a using Nat.strongRecOn with
  | _ a ih =>
    intro b
    by_cases h : a = 0
    · subst h; simp
    · have h1 := ih (a / 2) (by omega) (b / 2)
      have e1 : (a ^^^ b) / 2 = a / 2 ^^^ b / 2 := Nat.xor_div_two
      have e2 : (a &&& b) / 2 = a / 2 &&& b / 2 := Nat.and_div_two
      have e3 : (a ^^^ b) % 2 = 1 ↔ ¬ (a % 2 = 1 ↔ b % 2 = 1) := Nat.xor_mod_two_eq_one
      have e4 : (a &&& b) % 2 = 1 ↔ a % 2 = 1 ∧ b % 2 = 1 := Nat.and_mod_two_eq_one
      rw [← e1, ← e2] at h1
      omega
theorem bx (a b : Nat) : Builtin.bitXor (a : Int) (b : Int) = ((a ^^^ b : Nat) : Int) := by
  rw [bitXor_and]
  have e : Builtin.bitAnd (a : Int) (b : Int) = ((a &&& b : Nat) : Int) := by
    unfold Builtin.bitAnd
    rw [decide_eq_true (Int.natCast_nonneg a), decide_eq_true (Int.natCast_nonneg b)]
    rfl
  rw [e]
  have h := nat_xor_and a b
  omega
def dbl (n : Nat) : Nat := if 2 * n < 128 then 2 * n else (2 * n - 128) ^^^ 3
theorem dbl_tab : ((List.range 128).all fun a => decide (dbl a < 128) && ((List.range 128).all fun b => dbl (a ^^^ b) == dbl a ^^^ dbl b)) = true := by decide +kernel
theorem dbl_lt {a : Nat} (h : a < 128) : dbl a < 128 := by
  have := List.all_eq_true.mp dbl_tab a (List.mem_range.mpr h)
  simp only [Bool.and_eq_true, decide_eq_true_eq] at this
  exact this.1
theorem dbl_xor {a b : Nat} (h : a < 128) (h2 : b < 128) : dbl (a ^^^ b) = dbl a ^^^ dbl b := by
  have := List.all_eq_true.mp dbl_tab a (List.mem_range.mpr h)
  simp only [Bool.and_eq_true] at this
  exact eq_of_beq (List.all_eq_true.mp this.2 b (List.mem_range.mpr h2))
theorem xor7 {a b : Nat} (h : a < 128) (h2 : b < 128) : a ^^^ b < 128 := Nat.xor_lt_two_pow (n := 7) h h2
/-- the rest below 131, carryless, by fuel -/
def red : Nat → Nat → Nat
  | 0, _ => 0
  | k + 1, n => dbl (red k (n / 2)) ^^^ (n % 2)
theorem red_lt : ∀ k n, red k n < 128
  | 0, _ => Nat.zero_lt_succ _
  | k + 1, n => xor7 (dbl_lt (red_lt k _)) (by omega)
theorem red_zero : ∀ k, red k 0 = 0
  | 0 => rfl
  | k + 1 => by
    show dbl (red k (0 / 2)) ^^^ (0 % 2) = 0
    rw [Nat.zero_div, red_zero k]
    rfl
theorem xor4 (A B a b : Nat) : (A ^^^ B) ^^^ (a ^^^ b) = (A ^^^ a) ^^^ (B ^^^ b) := by
  rw [Nat.xor_assoc, ← Nat.xor_assoc B a b, Nat.xor_comm B a, Nat.xor_assoc a B b, ← Nat.xor_assoc]
theorem red_xor : ∀ k a b, red k (a ^^^ b) = red k a ^^^ red k b
  | 0, _, _ => (Nat.xor_self 0).symm
  | k + 1, a, b => by
    show dbl (red k ((a ^^^ b) / 2)) ^^^ ((a ^^^ b) % 2) = (dbl (red k (a / 2)) ^^^ (a % 2)) ^^^ (dbl (red k (b / 2)) ^^^ (b % 2))
    have e1 : (a ^^^ b) / 2 = a / 2 ^^^ b / 2 := Nat.xor_div_two
    have e2 : (a ^^^ b) % 2 = (a % 2) ^^^ (b % 2) := Nat.xor_mod_two_pow (n := 1)
    rw [e1, red_xor k, dbl_xor (red_lt k _) (red_lt k _), e2]
    exact xor4 _ _ _ _
theorem red_more : ∀ k n, n < 2 ^ k → red (k + 1) n = red k n
  | 0, n, h => by
    have : n = 0 := by omega
    subst this
    rfl
  | k + 1, n, h => by
    show dbl (red (k + 1) (n / 2)) ^^^ (n % 2) = dbl (red k (n / 2)) ^^^ (n % 2)
    rw [red_more k (n / 2) (by rw [Nat.pow_succ] at h; omega)]
theorem red_fuel {k n : Nat} (h : n < 2 ^ k) : ∀ j, red (k + j) n = red k n
  | 0 => rfl
  | j + 1 => by
    rw [← Nat.add_assoc, red_more (k + j) n (Nat.lt_of_lt_of_le h (Nat.pow_le_pow_right (by decide) (by omega))), red_fuel h j]
theorem red_twice (k n : Nat) : red (k + 1) (2 * n) = dbl (red k n) := by
  show dbl (red k (2 * n / 2)) ^^^ (2 * n % 2) = _
  rw [show 2 * n / 2 = n by omega, show 2 * n % 2 = 0 by omega, Nat.xor_zero]
theorem red_small {n : Nat} (h : n < 128) : ∀ j, red (7 + j) n = n := fun j => by
  rw [red_fuel (k := 7) h j]
  have t : ((List.range 128).all fun n => red 7 n == n) = true := by decide +kernel
  exact eq_of_beq (List.all_eq_true.mp t n (List.mem_range.mpr h))
theorem red_131 : ∀ k, red (8 + k) (131 * 2 ^ k) = 0
  | 0 => by decide +kernel
  | k + 1 => by
    rw [show 131 * 2 ^ (k + 1) = 2 * (131 * 2 ^ k) by rw [Nat.pow_succ]; omega, ← Nat.add_assoc, red_twice, red_131 k]
    decide
def far : Nat := 1900 + 99
def Rd (n : Nat) : Nat := red (far + 1) n
theorem Rd_131 {k : Nat} (h : k ≤ 1900) : Rd (131 * 2 ^ k) = 0 := by
  have e : far + 1 = 8 + k + (1992 - k) := by unfold far; omega
  unfold Rd
  rw [e, red_fuel, red_131]
  rw [Nat.pow_add]
  exact Nat.mul_lt_mul_of_pos_right (by decide) (Nat.pow_pos (by decide))
theorem Rd_twice {n : Nat} (h : n < 2 ^ far) : Rd (2 * n) = dbl (Rd n) := by
  unfold Rd
  rw [red_twice, red_fuel h 1]
theorem Rd_small {n : Nat} (h : n < 128) : Rd n = n := by
  have e : far + 1 = 7 + 1993 := by unfold far; omega
  unfold Rd
  rw [e, red_small h]
theorem Rd_xor (a b : Nat) : Rd (a ^^^ b) = Rd a ^^^ Rd b := red_xor _ a b
theorem fold_take {α β : Type} {f : β → α → β} {l : List α} {i : Nat} {x : α} {b : β} (h : l[i]? = some x) : (l.take (i + 1)).foldl f b = f ((l.take i).foldl f b) x := by
  rw [List.take_add_one, h, List.foldl_append]
  rfl
def restF (r x : Nat) : Nat := (2 * r) ^^^ x
def turnF (t x : Nat) : Nat := dbl t ^^^ x
def xorF (t x : Nat) : Nat := t ^^^ x
def restOf (l : List Nat) : Nat := l.foldl restF 0
def turnOf (l : List Nat) : Nat := l.foldl turnF 0
def xorOf (l : List Nat) : Nat := l.foldl xorF 0
theorem lt_up {a m n : Nat} (h : a < 2 ^ m) (hm : m ≤ n) : a < 2 ^ n := Nat.lt_of_lt_of_le h (Nat.pow_le_pow_right (by decide) hm)
theorem rest_fold : ∀ (l : List Nat) (r b : Nat), (∀ x ∈ l, x < 128) → r < 2 ^ b → 7 ≤ b → b + l.length ≤ 1990 → l.foldl restF r < 2 ^ (b + l.length) ∧ Rd (l.foldl restF r) = l.foldl turnF (Rd r)
  | [], r, b, _, h, _, _ => ⟨h, rfl⟩
  | x :: l, r, b, hx, h, h7, hb => by
    rw [List.length_cons] at hb
    have x7 : x < 128 := hx x List.mem_cons_self
    have a1 : 2 * r < 2 ^ (b + 1) := by rw [Nat.pow_succ]; omega
    have a2 : x < 2 ^ (b + 1) := lt_up (m := 7) x7 (by omega)
    have a3 : restF r x < 2 ^ (b + 1) := Nat.xor_lt_two_pow a1 a2
    obtain ⟨h1, h2⟩ := rest_fold l (restF r x) (b + 1) (fun y hy => hx y (List.mem_cons_of_mem _ hy)) a3 (by omega) (by omega)
    refine ⟨?_, ?_⟩
    · rw [List.length_cons, show b + (l.length + 1) = b + 1 + l.length by omega]
      exact h1
    · have e : Rd (restF r x) = turnF (Rd r) x := by
        unfold restF turnF
        rw [Rd_xor, Rd_twice (lt_up h (by unfold far; omega)), Rd_small x7]
      rw [List.foldl_cons, List.foldl_cons, h2, e]
theorem rest_lt {l : List Nat} (hx : ∀ x ∈ l, x < 128) (hl : l.length ≤ 1900) : restOf l < 2 ^ (7 + l.length) := (rest_fold l 0 7 hx (by decide) (by omega) (by omega)).1
theorem rest_turn {l : List Nat} (hx : ∀ x ∈ l, x < 128) (hl : l.length ≤ 1900) : Rd (restOf l) = turnOf l := by
  have h := (rest_fold l 0 7 hx (by decide) (by omega) (by omega)).2
  rw [Rd_small (n := 0) (by decide)] at h
  exact h
theorem q_one {q : Nat} (h : q < 2) (c : q % 2 = 1) : q = 1 := by omega
theorem q_zero {q : Nat} (h : q < 2) (c : ¬ q % 2 = 1) : q = 0 := by omega
/-- one step of the division -/
def divS (r k : Nat) : Nat := if r / 2 ^ (k + 7) % 2 = 1 then r ^^^ (131 * 2 ^ k) else r
theorem divS_ok {r k : Nat} (h : r < 2 ^ (k + 8)) (hk : k ≤ 1900) : divS r k < 2 ^ (k + 7) ∧ Rd (divS r k) = Rd r := by
  have e8 : 2 ^ (k + 8) = 2 * 2 ^ (k + 7) := by rw [show k + 8 = (k + 7) + 1 by omega, Nat.pow_succ]; omega
  have q : r / 2 ^ (k + 7) < 2 := Nat.div_lt_of_lt_mul (by rw [Nat.mul_comm, ← e8]; exact h)
  unfold divS
  split
  · rename_i c
    have q1 : r / 2 ^ (k + 7) = 1 := q_one q c
    refine ⟨?_, ?_⟩
    · refine Nat.lt_pow_two_of_testBit _ fun i hi => ?_
      rw [Nat.testBit_xor]
      by_cases e : i = k + 7
      · subst e
        have t1 : r.testBit (k + 7) = true := by rw [Nat.testBit_eq_decide_div_mod_eq, q1]; rfl
        have t2 : (131 * 2 ^ k).testBit (k + 7) = true := by
          rw [Nat.testBit_eq_decide_div_mod_eq, Nat.pow_add, ← Nat.div_div_eq_div_mul, Nat.mul_div_cancel _ (Nat.pow_pos (by decide))]
          rfl
        rw [t1, t2]
        rfl
      · have t1 : r.testBit i = false := Nat.testBit_lt_two_pow (lt_up h (by omega))
        have t2 : (131 * 2 ^ k).testBit i = false := by
          refine Nat.testBit_lt_two_pow (lt_up (m := k + 8) ?_ (by omega))
          rw [show k + 8 = 8 + k by omega, Nat.pow_add]
          exact Nat.mul_lt_mul_of_pos_right (by decide) (Nat.pow_pos (by decide))
        rw [t1, t2]
        rfl
    · rw [Rd_xor, Rd_131 hk, Nat.xor_zero]
  · rename_i c
    refine ⟨?_, rfl⟩
    have q0 : r / 2 ^ (k + 7) = 0 := q_zero q c
    rcases (Nat.div_eq_zero_iff).mp q0 with z | z
    · exact absurd z (Nat.ne_of_gt (Nat.pow_pos (by decide)))
    · exact z
/-! ### the sum, bit by bit -/
theorem par_xor {o : Nat} : ∀ p q : Bool, o % 2 = p.toNat → (o + q.toNat) % 2 = (p ^^ q).toNat
  | true, true, h => by have h : o % 2 = 1 := h; show (o + 1) % 2 = 0; omega
  | true, false, h => by have h : o % 2 = 1 := h; show (o + 0) % 2 = 1; omega
  | false, true, h => by have h : o % 2 = 0 := h; show (o + 1) % 2 = 1; omega
  | false, false, h => by have h : o % 2 = 0 := h; show (o + 0) % 2 = 0; omega
def onesF (k o x : Nat) : Nat := o + x / 2 ^ k % 2
theorem ones_fold (k : Nat) : ∀ (l : List Nat) (o t : Nat), o % 2 = t / 2 ^ k % 2 → l.foldl (onesF k) o % 2 = l.foldl xorF t / 2 ^ k % 2
  | [], _, _, h => h
  | x :: l, o, t, h => by
    refine ones_fold k l (onesF k o x) (xorF t x) ?_
    have e : ∀ n : Nat, n / 2 ^ k % 2 = (n.testBit k).toNat := fun n => by
      rw [Nat.testBit_eq_decide_div_mod_eq]
      rcases Nat.mod_two_eq_zero_or_one (n / 2 ^ k) with p | p <;> rw [p] <;> rfl
    unfold onesF xorF
    rw [e] at h ⊢
    rw [e, Nat.testBit_xor]
    exact par_xor _ _ h
theorem ones_of (k : Nat) (l : List Nat) : l.foldl (onesF k) 0 % 2 = xorOf l / 2 ^ k % 2 := ones_fold k l 0 0 (by simp)
theorem xor_lt : ∀ (l : List Nat) (t : Nat), (∀ x ∈ l, x < 128) → t < 128 → l.foldl xorF t < 128
  | [], _, _, h => h
  | x :: l, t, hx, h => xor_lt l _ (fun y hy => hx y (List.mem_cons_of_mem _ hy)) (xor7 h (hx x List.mem_cons_self))
theorem turn_lt : ∀ (l : List Nat) (t : Nat), (∀ x ∈ l, x < 128) → t < 128 → l.foldl turnF t < 128
  | [], _, _, h => h
  | x :: l, t, hx, h => turn_lt l _ (fun y hy => hx y (List.mem_cons_of_mem _ hy)) (xor7 (dbl_lt h) (hx x List.mem_cons_self))
theorem bits_up (X k : Nat) : X % 2 ^ (k + 1) = if X / 2 ^ k % 2 = 1 then X % 2 ^ k + 2 ^ k else X % 2 ^ k := by
  rw [Nat.mod_pow_succ]
  rcases Nat.mod_two_eq_zero_or_one (X / 2 ^ k) with p | p <;> rw [p] <;> simp
/-! ### the ring -/
def it : Nat → Nat → Nat
  | 0, n => n
  | k + 1, n => dbl (it k n)
def hlv (n : Nat) : Nat := if n % 2 = 0 then n / 2 else (n ^^^ 131) / 2
theorem hlv_dbl {n : Nat} (h : n < 128) : hlv (dbl n) = n := by
  have t : ((List.range 128).all fun n => hlv (dbl n) == n) = true := by decide +kernel
  exact eq_of_beq (List.all_eq_true.mp t n (List.mem_range.mpr h))
theorem it_lt {n : Nat} (h : n < 128) : ∀ k, it k n < 128
  | 0 => h
  | k + 1 => dbl_lt (it_lt h k)
theorem it_add (n : Nat) (j : Nat) : ∀ i, it (i + j) n = it i (it j n)
  | 0 => by rw [Nat.zero_add]; rfl
  | i + 1 => by
    rw [show i + 1 + j = (i + j) + 1 by omega]
    show dbl (it (i + j) n) = dbl (it i (it j n))
    rw [it_add n j i]
theorem it_inj {a b : Nat} (ha : a < 128) (hb : b < 128) : ∀ k, it k a = it k b → a = b
  | 0, h => h
  | k + 1, h => it_inj ha hb k (by
    have e : hlv (dbl (it k a)) = hlv (dbl (it k b)) := congrArg hlv h
    rw [hlv_dbl (it_lt ha k), hlv_dbl (it_lt hb k)] at e
    exact e)
def noBack (n : Nat) : Nat → Nat → Bool
  | 0, c => c == n
  | k + 1, c => c != n && c != 0 && noBack n k (dbl c)
theorem noBack_it {n : Nat} : ∀ (k j c : Nat), noBack n k c = true → (j < k → it j c ≠ n ∧ it j c ≠ 0) ∧ (j = k → it j c = n)
  | 0, j, c, h => ⟨fun z => by omega, fun z => by subst z; exact eq_of_beq h⟩
  | k + 1, 0, c, h => by
    simp only [noBack, Bool.and_eq_true, bne_iff_ne] at h
    exact ⟨fun _ => h.1, fun z => by omega⟩
  | k + 1, j + 1, c, h => by
    simp only [noBack, Bool.and_eq_true, bne_iff_ne] at h
    obtain ⟨h1, h2⟩ := noBack_it k j (dbl c) h.2
    have e : it (j + 1) c = it j (dbl c) := it_add c 1 j
    rw [e]
    exact ⟨fun z => h1 (by omega), fun z => h2 (by omega)⟩
theorem back_tab {n : Nat} (h0 : 0 < n) (h : n < 128) : noBack n 126 (dbl n) = true := by
  have t : ((List.range 128).all fun n => n == 0 || noBack n 126 (dbl n)) = true := by decide +kernel
  have := List.all_eq_true.mp t n (List.mem_range.mpr h)
  rw [Bool.or_eq_true] at this
  rcases this with z | z
  · have := eq_of_beq z
    omega
  · exact z
theorem it_ne {n k : Nat} (h0 : 0 < n) (h : n < 128) (k0 : 0 < k) (k1 : k < 127) : it k n ≠ n := by
  obtain ⟨j, rfl⟩ : ∃ j, k = j + 1 := ⟨k - 1, by omega⟩
  rw [it_add n 1 j]
  exact ((noBack_it 126 j (dbl n) (back_tab h0 h)).1 (by omega)).1
theorem it_pos {n : Nat} (h0 : 0 < n) (h : n < 128) {k : Nat} (k1 : k < 127) : 0 < it k n := by
  rcases Nat.eq_zero_or_pos k with e | e
  · subst e
    exact h0
  · obtain ⟨j, rfl⟩ : ∃ j, k = j + 1 := ⟨k - 1, by omega⟩
    rw [it_add n 1 j]
    exact Nat.pos_of_ne_zero ((noBack_it 126 j (dbl n) (back_tab h0 h)).1 (by omega)).2
theorem it_127 {n : Nat} (h0 : 0 < n) (h : n < 128) : it 127 n = n := by
  rw [show 127 = 126 + 1 by rfl, it_add n 1 126]
  exact (noBack_it 126 126 (dbl n) (back_tab h0 h)).2 rfl
theorem it_apart {n : Nat} (h0 : 0 < n) (h : n < 128) {i j : Nat} (hij : j < i) (hi : i < 127) : it i n ≠ it j n := fun e => by
  have e2 : it i n = it j (it (i - j) n) := by rw [← it_add, show j + (i - j) = i by omega]
  rw [e2] at e
  exact it_ne h0 h (k := i - j) (by omega) (by omega) (it_inj (it_lt h _) h j e)

theorem ox1 {k : Nat} (h : k < 100) : CPow 1 k := ⟨by omega, by omega, by decide⟩
def sp_double (K : PySem.W.Frag) : Sp := sp1 fun x H Q _ => ∃ n : Nat, x = .int n ∧ n < 128 ∧ Q (.int (dbl n)) H
theorem ap_double {K : PySem.W.Frag} {H : Hp} {Q : VK} {E : XK} {n : Nat} (h : n < 128) (q : Q (.int (dbl n)) H) : sp_double K [.int n] H Q E := ⟨_, rfl, n, rfl, h, q⟩
theorem ok_double (hd : Hd K mg) {fd : FuncData} (F : FunD K d_double.name d_double.qual d_double.params d_double.body d_double.scope (d_double.dvs K) (d_double.kws K) (He.fAd K d_double.at_) fd) : FnOk P w K mg base CX0 1 (He.fAd K d_double.at_) fd ["number"] (sp_double K) := by
  refine FunD.ok F sc_double (fun vs H Q E h => ?_) (fun cdv A outer s H vs Q E hr h => ?_)
  · obtain ⟨v0, rfl, _⟩ := h
    rfl
  obtain ⟨v0, rfl, h⟩ := h
  rw [show start N_double [v0] = _ from st_double v0]
  refine ⟨_, PSs.nox ((pss_cons (ps_set (i := 1) sc_double.nd rfl (Or.inl rfl) (pe_op op_mulG pe_int (pv 0)))
      (pss_cons (ps_if (pt_cmpR op_ltG (pv 1) pe_int (nomark _)) (pss_one (ps_ret (pv 1))) pss_nil)
      (pss_one (ps_ret (pe_op op_xor (pe_op op_sub (pv 1) pe_int) pe_int)))))), ?_⟩
  obtain ⟨n, rfl, hn, q⟩ := h
  walk_at "en"
  walk_at "s"
  walk_at "if"
  · intro h1
    walk_at "s"
    have e : dbl n = 2 * n := if_pos (by omega)
    rw [e] at q
    exact q
  · intro h1
    walk_at "s"
    have e : dbl n = (2 * n - 128) ^^^ 3 := if_neg (by omega)
    rw [e] at q
    rw [show (2 : Int) * n - 128 = ((2 * n - 128 : Nat) : Int) by omega]
    rw [← bx] at q
    exact q
theorem cal_double (hd : Hd K mg) : Cal P w K mg base CX0 1 "double" ["number"] (sp_double K) := by
  obtain ⟨fd, F⟩ := hd.def_ 5
  exact .mk' (hd.glo 14) F.kp (FunD.bindsN F fun _ _ _ _ _ _ us hl => match us, hl with | [_], _ => rfl) (ok_double hd F)
def rowOf (k : Nat) (c : List Nat) : List Nat := k :: (c ++ [c.length % 128])
theorem row_lt {k : Nat} {c : List Nat} (hk : k < 128) (hc : ∀ x ∈ c, x < 128) : ∀ x ∈ rowOf k c, x < 128 := by
  intro x hx
  simp only [rowOf, List.mem_cons, List.mem_append, List.not_mem_nil, or_false] at hx
  rcases hx with h | h | h
  · omega
  · exact hc x h
  · omega
theorem row_len (k : Nat) (c : List Nat) : (rowOf k c).length = c.length + 2 := by simp [rowOf]
/-- the closing's three numbers -/
def clo (k : Nat) (c : List Nat) : List Nat := [c.length % 128, xorOf (rowOf k c), turnOf (rowOf k c)]
def sp_closing (K : PySem.W.Frag) : Sp := sp2 fun x y H Q _ => ∃ (k : Nat) (p : Addr) (c : List Nat), x = .int k ∧ y = .ref p ∧ k < 128 ∧ SqT K H p (nv c) ∧ (∀ x ∈ c, x < 128) ∧ c.length ≤ 1800 ∧
  ∀ t H', H t = none → Evl.Ex H H' → SqT K H' t (nv (clo k c)) → Q (.ref t) H'
theorem ap_closing {K : PySem.W.Frag} {H : Hp} {Q : VK} {E : XK} {k : Nat} {p : Addr} {c : List Nat} (h1 : k < 128) (h2 : SqT K H p (nv c)) (h3 : ∀ x ∈ c, x < 128) (h4 : c.length ≤ 1800)
    (q : ∀ t H', H t = none → Evl.Ex H H' → SqT K H' t (nv (clo k c)) → Q (.ref t) H') : sp_closing K [.int k, .ref p] H Q E := ⟨_, _, rfl, k, p, c, rfl, rfl, h1, h2, h3, h4, q⟩
theorem nv_row (k : Nat) (c : List Nat) : V.int (k : Int) :: (nv c ++ [V.int (((nv c).length : Int) % 128)]) = nv (rowOf k c) := by
  rw [nv_len, show ((c.length : Int) % 128) = ((c.length % 128 : Nat) : Int) by omega]
  unfold rowOf
  rw [show nv (k :: (c ++ [c.length % 128])) = V.int (k : Int) :: nv (c ++ [c.length % 128]) by unfold nv; rfl, nv_app]
  rfl
theorem ok_closing (hd : Hd K mg) {fd : FuncData} (F : FunD K d_closing.name d_closing.qual d_closing.params d_closing.body d_closing.scope (d_closing.dvs K) (d_closing.kws K) (He.fAd K d_closing.at_) fd) : FnOk P w K mg base CX0 2 (He.fAd K d_closing.at_) fd ["kind", "content"] (sp_closing K) := by
  refine FunD.ok F sc_closing (fun vs H Q E h => ?_) (fun cdv A outer s H vs Q E hr h => ?_)
  · obtain ⟨v0, v1, rfl, _⟩ := h
    rfl
  obtain ⟨v0, v1, rfl, h⟩ := h
  rw [show start N_closing [v0, v1] = _ from st_closing v0 v1]
  refine ⟨_, PSs.nox ((pss_cons (ps_set (i := 2) sc_closing.nd rfl (Or.inl rfl) (pe_op op_mod (pe_callB g_len (by rfl) (hd.free 0) (by decide +kernel) (pa_cons (pv 1) pa_nil)) pe_int))
      (pss_cons (ps_set (i := 3) sc_closing.nd rfl (Or.inl rfl) pe_int)
      (pss_cons (ps_set (i := 4) sc_closing.nd rfl (Or.inl rfl) pe_int)
      (pss_cons (ps_for PassesOwn.never rfl (pi_G (pe_lst (pa_cons (pv 0) (StX.pa_star (pv 1) (pa_cons (pv 2) pa_nil))))) (pg_name (i := 5) sc_closing.nd rfl (Or.inl rfl))
      (pss_cons (ps_set (i := 3) sc_closing.nd rfl (Or.inl rfl) (pe_op op_xor (pv 3) (pv 5)))
      (pss_one (ps_set (i := 4) sc_closing.nd rfl (Or.inl rfl) (pe_op op_xor (pe_cal (sp := sp_double K) (cal_double hd) (hr.mono (by decide)) rfl pass0 (pa_cons (pv 4) pa_nil)) (pv 5))))))
      (pss_one (ps_ret (pe_tup (pa_cons (pv 2) (pa_cons (pv 3) (pa_cons (pv 4) pa_nil))))))))))), ?_⟩
  obtain ⟨k, p, c, rfl, rfl, hk, hS, hc, hl, q⟩ := h
  have hr := row_lt hk hc
  walk_at "en"
  walk_at "s"
  refine ⟨sz_of (by rw [List.length_cons, List.length_append, nv_len]; simp; omega), fun r hr0 => ?_⟩
  rw [nv_row]
  refine w_forL (SqL.of upd_same) (fun i σ H' => upd H r (.lst (nv (rowOf k c))) = H' ∧ ∃ o : Option V, σ = [some (.int k), some (.ref p), some (.int ((nv c).length % 128)), some (.int (((rowOf k c).take i).foldl xorF 0 : Nat)), some (.int (((rowOf k c).take i).foldl turnF 0 : Nat)), o]) ⟨rfl, none, rfl⟩ ?_ ?_ ?_
  · rintro i σ H' _ ⟨rfl, _⟩
    exact SqL.of upd_same
  · rintro i v σ H' hv ⟨rfl, o, rfl⟩
    obtain ⟨n, hn, rfl⟩ := nv_get hv
    have t7 : ((rowOf k c).take i).foldl turnF 0 < 128 := turn_lt _ _ (fun x hx => hr x (List.mem_of_mem_take hx)) (by decide)
    walk_at "s"
    rw [bx]
    walk_at "s"
    refine ap_double t7 ?_
    walk_at "s"
    rw [bx]
    rw [fold_take hn, fold_take hn]
    exact ⟨rfl, _, rfl⟩
  · rintro σ H' ⟨rfl, o, rfl⟩
    rw [nv_len, nv_len, List.take_length]
    walk_at "s"
    walk_at "sz"
    intro t ht
    have e : ((c.length : Int) % 128) = ((c.length % 128 : Nat) : Int) := by omega
    rw [e]
    exact q t _ (by
      have := ht
      by_cases z : t = r
      · subst z
        exact hr0
      · rw [upd_ne z] at this
        exact this) ((Evl.Ex.new hr0).trans (Evl.Ex.new ht)) (SqT.of (by rw [upd_same]; rfl))
theorem cal_closing (hd : Hd K mg) : Cal P w K mg base CX0 2 "closing" ["kind", "content"] (sp_closing K) := by
  obtain ⟨fd, F⟩ := hd.def_ 6
  exact .mk' (hd.glo 15) F.kp (FunD.bindsN F fun _ _ _ _ _ _ us hl => match us, hl with | [_, _], _ => rfl) (ok_closing hd F)
/-! ### a piece, told -/
def isPieceN (l : List Nat) : Bool := match l with
  | [] => false
  | b :: _ => decide (127 < b) && decide ((l.filter fun x => decide (127 < x)).length = 1)
def soundN (l : List Nat) : Bool := decide (4 ≤ l.length) && (isPieceN l && (decide (l.headD 0 < 133) && decide (l.drop (l.length - 3) = clo (l.headD 0 - 128) ((l.drop 1).take (l.length - 4)))))
theorem filter_take {f : Nat → Bool} {l : List Nat} {i x : Nat} (h : l[i]? = some x) : (l.take (i + 1)).filter f = if f x then (l.take i).filter f ++ [x] else (l.take i).filter f := by
  rw [List.take_add_one, h, List.filter_append]
  cases e : f x <;> simp [e]
def sp_is_piece (K : PySem.W.Frag) : Sp := sp1 fun x H Q _ => ∃ (p : Addr) (l : List Nat), x = .ref p ∧ SqT K H p (nv l) ∧ l.length ≤ 2000 ∧ ∀ H', Evl.Ex H H' → Q (.bl (isPieceN l)) H'
theorem ap_is_piece {K : PySem.W.Frag} {H : Hp} {Q : VK} {E : XK} {p : Addr} {l : List Nat} (h1 : SqT K H p (nv l)) (h2 : l.length ≤ 2000) (q : ∀ H', Evl.Ex H H' → Q (.bl (isPieceN l)) H') : sp_is_piece K [.ref p] H Q E := ⟨_, rfl, p, l, rfl, h1, h2, q⟩
theorem ok_is_piece (hd : Hd K mg) {fd : FuncData} (F : FunD K d_is_piece.name d_is_piece.qual d_is_piece.params d_is_piece.body d_is_piece.scope (d_is_piece.dvs K) (d_is_piece.kws K) (He.fAd K d_is_piece.at_) fd) : FnOk P w K mg base CX0 1 (He.fAd K d_is_piece.at_) fd ["data"] (sp_is_piece K) := by
  refine FunD.ok F sc_is_piece (fun vs H Q E h => ?_) (fun cdv A outer s H vs Q E hr h => ?_)
  · obtain ⟨v0, rfl, _⟩ := h
    rfl
  obtain ⟨v0, rfl, h⟩ := h
  rw [show start N_is_piece [v0] = _ from st_is_piece v0]
  refine ⟨_, PSs.nox ((pss_one (ps_ret (pe_and (pe_cmpR op_gtG (pe_callB g_len (by rfl) (hd.free 0) (by decide +kernel) (pa_cons (pv 0) pa_nil)) pe_int (nomark _)) (pe_and (pe_cmpR op_gtG (pe_ix ix_G (pv 0) pe_int (fun _ _ => rfl)) pe_int (nomark _)) (pe_one (pe_cmpR (op_eqG (hu64 hr)) (pe_callB g_len (by rfl) (hd.free 0) (by decide +kernel) (pa_cons (pe_lc (own := [("byte", 1)]) (g := gName 1) (by rfl) sc_is_piece.nd (pi_G (pv 0)) (blkOk_by (own := [("byte", 1)]) (N := N_is_piece) (sc := defScope s_is_piece) (by decide +kernel)) (fun _ _ _ _ _ => (pg_name (i := 1) sc_is_piece.nd rfl (Or.inl rfl))) (fun _ _ _ _ _ => pts_one (pt_cmpR op_gtG (pv 1) pe_int (nomark _))) (fun _ _ _ _ _ => (pv 1))) pa_nil)) pe_int (nomark _)))))))), ?_⟩
  obtain ⟨p, l, rfl, hS, hl, q⟩ := h
  walk_at "en"
  walk_at "s"
  cases l with
  | nil =>
    refine kite_d (fun z => absurd z (by decide)) fun _ => ?_
    walk_at "s"
    exact q _ (Evl.Ex.refl _)
  | cons b l =>
    refine kite_d (fun _ => ?_) fun z => (z (by rw [nv_len, List.length_cons]; omega)).elim
    walk_at "s"
    refine w_ix (.inr hS) (nv_at (i := 0) rfl) ?_
    walk_at "s"
    have e1 : isPieceN (b :: l) = (decide (127 < b) && decide (((b :: l).filter fun x => decide (127 < x)).length = 1)) := rfl
    refine kite_d (fun hb => ?_) fun hb => ?_
    · walk_at "s"
      refine w_lcTf hS (by rw [nv_len]; omega) (fun D i acc H' => H' = upd H D (.lst acc) ∧ acc = nv (((b :: l).take i).filter fun x => decide (127 < x))) (fun v => rfl) (fun D hD => ⟨rfl, rfl⟩) ?_ ?_ ?_
      · rintro D i acc H' hD ⟨rfl, rfl⟩
        exact Evl.ex_t (Evl.Ex.new hD) hS
      · rintro D i v acc H' R R0 hv ha hD ⟨rfl, rfl⟩ hR hR0
        obtain ⟨n, hn, rfl⟩ := nv_get hv
        have ef := filter_take (f := fun x => decide (127 < x)) hn
        walk_at "s"
        refine kite_d (fun h => ?_) fun h => ?_
        · rw [if_pos (decide_eq_true (by omega))] at ef
          walk_at "s"
          refine hR _ _ upd_same ⟨by rw [upd_upd], ?_⟩
          rw [ef, nv_app]
          rfl
        · rw [if_neg (by rw [decide_eq_true_eq]; omega)] at ef
          refine hR0 _ ⟨rfl, ?_⟩
          rw [ef]
      · rintro D acc H' hD ⟨rfl, rfl⟩
        rw [nv_len, List.take_length] at *
        walk_at "s"
        rw [nv_len]
        have e2 := q (upd H D (.lst (nv ((b :: l).filter fun x => decide (127 < x))))) (Evl.Ex.new hD)
        rw [e1, decide_eq_true (show 127 < b by omega), Bool.true_and] at e2
        rw [decide_eq_decide.mpr (show (((((b :: l).filter fun x => decide (127 < x)).length : Nat) : Int) = 1) ↔ (((b :: l).filter fun x => decide (127 < x)).length = 1) by omega)]
        exact e2
    · walk_at "s"
      rw [e1, decide_eq_false (show ¬ 127 < b by omega)] at q
      exact q _ (Evl.Ex.refl _)
theorem cal_is_piece (hd : Hd K mg) : Cal P w K mg base CX0 1 "is_piece" ["data"] (sp_is_piece K) := by
  obtain ⟨fd, F⟩ := hd.def_ 7
  exact .mk' (hd.glo 16) F.kp (FunD.bindsN F fun _ _ _ _ _ _ us hl => match us, hl with | [_], _ => rfl) (ok_is_piece hd F)
theorem piece_tail {l : List Nat} (h : isPieceN l = true) : ∃ b r, l = b :: r ∧ 127 < b ∧ ∀ x ∈ r, x < 128 := by
  cases l with
  | nil => cases h
  | cons b r =>
    have e1 : isPieceN (b :: r) = (decide (127 < b) && decide (((b :: r).filter fun x => decide (127 < x)).length = 1)) := rfl
    rw [e1, Bool.and_eq_true, decide_eq_true_eq, decide_eq_true_eq] at h
    obtain ⟨h1, h2⟩ := h
    refine ⟨b, r, rfl, h1, fun x hx => ?_⟩
    rw [List.filter_cons, if_pos (decide_eq_true h1), List.length_cons] at h2
    by_cases z : 127 < x
    · have : x ∈ r.filter fun x => decide (127 < x) := List.mem_filter.mpr ⟨hx, decide_eq_true z⟩
      have := List.length_pos_of_mem this
      omega
    · omega
def sp_is_sound (K : PySem.W.Frag) : Sp := sp1 fun x H Q _ => ∃ (p : Addr) (l : List Nat), x = .ref p ∧ SqT K H p (nv l) ∧ l.length ≤ 1800 ∧ ∀ H', Evl.Ex H H' → Q (.bl (soundN l)) H'
theorem ap_is_sound {K : PySem.W.Frag} {H : Hp} {Q : VK} {E : XK} {p : Addr} {l : List Nat} (h1 : SqT K H p (nv l)) (h2 : l.length ≤ 1800) (q : ∀ H', Evl.Ex H H' → Q (.bl (soundN l)) H') : sp_is_sound K [.ref p] H Q E := ⟨_, rfl, p, l, rfl, h1, h2, q⟩
theorem ok_is_sound (hd : Hd K mg) {fd : FuncData} (F : FunD K d_is_sound.name d_is_sound.qual d_is_sound.params d_is_sound.body d_is_sound.scope (d_is_sound.dvs K) (d_is_sound.kws K) (He.fAd K d_is_sound.at_) fd) : FnOk P w K mg base CX0 3 (He.fAd K d_is_sound.at_) fd ["piece"] (sp_is_sound K) := by
  refine FunD.ok F sc_is_sound (fun vs H Q E h => ?_) (fun cdv A outer s H vs Q E hr h => ?_)
  · obtain ⟨v0, rfl, _⟩ := h
    rfl
  obtain ⟨v0, rfl, h⟩ := h
  rw [show start N_is_sound [v0] = _ from st_is_sound v0]
  refine ⟨_, PSs.nox ((pss_cons (ps_if (PW.pt (pw_or (pt_cmpR op_ltG (pe_callB g_len (by rfl) (hd.free 0) (by decide +kernel) (pa_cons (pv 0) pa_nil)) pe_int (nomark _)) (pw_or1 (pt_not (pt_truG (pe_cal (sp := sp_is_piece K) (cal_is_piece hd) (hr.mono (by decide)) rfl pass0 (pa_cons (pv 0) pa_nil)) (by intro _; rfl)))))) (pss_one (ps_ret pe_bl)) pss_nil)
      (pss_cons (ps_set (i := 1) sc_is_sound.nd rfl (Or.inl rfl) (pe_op op_sub (pe_ix ix_G (pv 0) pe_int (fun _ _ => rfl)) pe_int))
      (pss_cons (ps_if (pt_cmpR op_geG (pv 1) (pe_callB g_len (by rfl) (hd.free 0) (by decide +kernel) (pa_cons (pe_globD rfl (hd.glo 17)) pa_nil)) (nomark _)) (pss_one (ps_ret pe_bl)) pss_nil)
      (pss_one (ps_ret (pe_cmpR (op_eqG (hu64 hr)) (pe_callTy g_tuple (by rfl) (hd.free 11) (by decide +kernel) (pa_cons (pe_slice sl_G (pv 0) (po_some (pe_un un_neg pe_int)) po_none) pa_nil)) (pe_cal (sp := sp_closing K) (cal_closing hd) (hr.mono (by decide)) rfl pass0 (pa_cons (pv 1) (pa_cons (pe_slice sl_G (pv 0) (po_some pe_int) (po_some (pe_un un_neg pe_int))) pa_nil))) (nomark _)))))))), ?_⟩
  obtain ⟨p, l, rfl, hS, hl, q⟩ := h
  walk_at "en"
  walk_at "s"
  rw [nv_len]
  by_cases h4 : 4 ≤ l.length
  rotate_left
  · have e : soundN l = false := by unfold soundN; rw [decide_eq_false h4]; rfl
    rw [e] at q
    refine kite_d (fun _ => ?_) fun z => absurd (show (l.length : Int) < 4 by omega) z
    walk_at "s"
    exact q _ (Evl.Ex.refl _)
  refine kite_d (fun z => absurd z (by omega)) fun _ => ?_
  walk_at "s"
  refine ap_is_piece hS (by omega) fun H1 x1 => ?_
  have hS1 := Evl.ex_t x1 hS
  walk_at "s"
  cases hp : isPieceN l with
  | false =>
    have e : soundN l = false := by unfold soundN; rw [hp, decide_eq_true h4]; rfl
    rw [e] at q
    walk_at "s"
    exact q _ x1
  | true =>
    walk_at "s"
    obtain ⟨b, r, rfl, hb, hr⟩ := piece_tail hp
    refine w_ix (.inr hS1) (nv_at (i := 0) rfl) ?_
    walk_at "s"
    refine w_lenN (.inr (k_KINDS hd _)) fun _ => ?_
    walk_at "s"
    have es : soundN (b :: r) = (decide (b < 133) && decide ((b :: r).drop ((b :: r).length - 3) = clo (b - 128) (((b :: r).drop 1).take ((b :: r).length - 4)))) := by
      unfold soundN
      rw [hp, decide_eq_true h4]
      rfl
    refine kite_d (fun h => ?_) fun h => ?_
    · walk_at "s"
      simp only [List.length_cons, List.length_nil] at h
      rw [es, decide_eq_false (show ¬ b < 133 by omega)] at q
      exact q _ x1
    · walk_at "s"
      simp only [List.length_cons, List.length_nil] at h
      rw [es, decide_eq_true (show b < 133 by omega), Bool.true_and] at q
      refine w_slT hS1 fun p2 H2 x2 h2 => ?_
      rw [show (-3 : Int) = -((3 : Nat) : Int) from rfl, cut_last (by omega) (by rw [nv_len]; omega), nv_drop, nv_len] at h2
      walk_at "s"
      refine w_tupT h2 ?_
      walk_at "s"
      refine w_slT (Evl.ex_t x2 hS1) fun p3 H3 x3 h3 => ?_
      rw [show (-3 : Int) = -((3 : Nat) : Int) from rfl, show (1 : Int) = ((1 : Nat) : Int) from rfl, cut_mid (by omega) (by rw [nv_len]; omega), nv_drop, nv_take, nv_len] at h3
      rw [show (b :: r).length - 3 - 1 = (b :: r).length - 4 by omega] at h3
      walk_at "s"
      rw [show (b : Int) - 128 = ((b - 128 : Nat) : Int) by omega]
      refine ap_closing (by omega) h3 (fun x hx => hr x (List.mem_of_mem_drop (i := 0) (by
        have := List.mem_of_mem_take hx
        exact this))) (by rw [List.length_take]; omega) fun p4 H4 n4 x4 h4 => ?_
      walk_at "s"
      refine w_eqNT (Evl.ex_t (x3.trans x4) h2) h4 ?_
      exact q _ (((x1.trans x2).trans x3).trans x4)
theorem cal_is_sound (hd : Hd K mg) : Cal P w K mg base CX0 3 "is_sound" ["piece"] (sp_is_sound K) := by
  obtain ⟨fd, F⟩ := hd.def_ 8
  exact .mk' (hd.glo 18) F.kp (FunD.bindsN F fun _ _ _ _ _ _ us hl => match us, hl with | [_], _ => rfl) (ok_is_sound hd F)
def sp_law_double (K : PySem.W.Frag) : Sp := sp1 fun x H Q _ => ∃ n : Nat, x = .int n ∧ n < 128 ∧ Q (.int (dbl n)) H
theorem ap_law_double {K : PySem.W.Frag} {H : Hp} {Q : VK} {E : XK} {n : Nat} (h : n < 128) (q : Q (.int (dbl n)) H) : sp_law_double K [.int n] H Q E := ⟨_, rfl, n, rfl, h, q⟩
theorem ok_law_double (hd : Hd K mg) {fd : FuncData} (F : FunD K d_law_double.name d_law_double.qual d_law_double.params d_law_double.body d_law_double.scope (d_law_double.dvs K) (d_law_double.kws K) (He.fAd K d_law_double.at_) fd) : FnOk P w K mg base CX0 1 (He.fAd K d_law_double.at_) fd ["number"] (sp_law_double K) := by
  refine FunD.ok F sc_law_double (fun vs H Q E h => ?_) (fun cdv A outer s H vs Q E hr h => ?_)
  · obtain ⟨v0, rfl, _⟩ := h
    rfl
  obtain ⟨v0, rfl, h⟩ := h
  rw [show start N_law_double [v0] = _ from st_law_double v0]
  refine ⟨_, PSs.nox ((pss_cons (ps_if (pt_cmpR op_ltG (pv 0) pe_int (nomark _)) (pss_one (ps_ret (pe_op op_mulG pe_int (pv 0)))) pss_nil)
      (pss_one (ps_ret (pe_op op_xor (pe_op op_sub (pe_op op_mulG pe_int (pv 0)) pe_int) pe_int))))), ?_⟩
  obtain ⟨n, rfl, hn, q⟩ := h
  walk_at "en"
  walk_at "s"
  walk_at "if"
  · intro h1
    walk_at "s"
    have e : dbl n = 2 * n := if_pos (by omega)
    rw [e] at q
    exact q
  · intro h1
    walk_at "s"
    have e : dbl n = (2 * n - 128) ^^^ 3 := if_neg (by omega)
    rw [e] at q
    rw [show (2 : Int) * n - 128 = ((2 * n - 128 : Nat) : Int) by omega]
    rw [← bx] at q
    exact q
theorem cal_law_double (hd : Hd K mg) : Cal P w K mg base CX0 1 "_law_double" ["number"] (sp_law_double K) := by
  obtain ⟨fd, F⟩ := hd.def_ 9
  exact .mk' (hd.glo 19) F.kp (FunD.bindsN F fun _ _ _ _ _ _ us hl => match us, hl with | [_], _ => rfl) (ok_law_double hd F)
/-- a whole chunk -/
def chk (k : Nat) (c : List Nat) : List Nat := (128 + k) :: (c ++ clo k c)
theorem chk_len (k : Nat) (c : List Nat) : (chk k c).length = c.length + 4 := by simp [chk, clo]
def sp_law_chunk (K : PySem.W.Frag) : Sp := sp2 fun x y H Q _ => ∃ (k : Nat) (p : Addr) (c : List Nat), x = .int k ∧ y = .ref p ∧ k < 128 ∧ Sq K H p (nv c) ∧ (∀ x ∈ c, x < 128) ∧ c.length ≤ 1800 ∧
  ∀ t H', H t = none → Evl.Ex H H' → H' t = some (.lst (nv (chk k c))) → Q (.ref t) H'
theorem ap_law_chunk {K : PySem.W.Frag} {H : Hp} {Q : VK} {E : XK} {k : Nat} {p : Addr} {c : List Nat} (h1 : k < 128) (h2 : Sq K H p (nv c)) (h3 : ∀ x ∈ c, x < 128) (h4 : c.length ≤ 1800)
    (q : ∀ t H', H t = none → Evl.Ex H H' → H' t = some (.lst (nv (chk k c))) → Q (.ref t) H') : sp_law_chunk K [.int k, .ref p] H Q E := ⟨_, _, rfl, k, p, c, rfl, rfl, h1, h2, h3, h4, q⟩
theorem ex_sq {K : PySem.W.Frag} {H H' : Hp} {p : Addr} {xs : List V} (e : Evl.Ex H H') (h : Sq K H p xs) : Sq K H' p xs := by
  rcases h with h | h
  · exact .inl (Evl.ex_l e h)
  · exact .inr (Evl.ex_t e h)
theorem ok_law_chunk (hd : Hd K mg) {fd : FuncData} (F : FunD K d_law_chunk.name d_law_chunk.qual d_law_chunk.params d_law_chunk.body d_law_chunk.scope (d_law_chunk.dvs K) (d_law_chunk.kws K) (He.fAd K d_law_chunk.at_) fd) : FnOk P w K mg base CX0 2 (He.fAd K d_law_chunk.at_) fd ["manner", "content"] (sp_law_chunk K) := by
  refine FunD.ok F sc_law_chunk (fun vs H Q E h => ?_) (fun cdv A outer s H vs Q E hr h => ?_)
  · obtain ⟨v0, v1, rfl, _⟩ := h
    rfl
  obtain ⟨v0, v1, rfl, h⟩ := h
  rw [show start N_law_chunk [v0, v1] = _ from st_law_chunk v0 v1]
  refine ⟨_, PSs.nox ((pss_cons (ps_set (i := 2) sc_law_chunk.nd rfl (Or.inl rfl) (pe_op op_addG (pe_op op_addG (pe_lst (pa_cons (pv 0) pa_nil)) (pe_callTy g_list (by rfl) (hd.free 12) (by decide +kernel) (pa_cons (pv 1) pa_nil))) (pe_lst (pa_cons (pe_op op_mod (pe_callTy g_int (by rfl) (hd.free 2) (by decide +kernel) (pa_cons (pe_callB g_len (by rfl) (hd.free 0) (by decide +kernel) (pa_cons (pv 1) pa_nil)) pa_nil)) pe_int) pa_nil))))
      (pss_cons (ps_set (i := 3) sc_law_chunk.nd rfl (Or.inl rfl) pe_int)
      (pss_cons (ps_set (i := 4) sc_law_chunk.nd rfl (Or.inl rfl) pe_int)
      (pss_cons (ps_for PassesOwn.never rfl (pi_G (pv 2)) (pg_name (i := 5) sc_law_chunk.nd rfl (Or.inl rfl))
      (pss_cons (ps_set (i := 3) sc_law_chunk.nd rfl (Or.inl rfl) (pe_op op_xor (pv 3) (pv 5)))
      (pss_one (ps_set (i := 4) sc_law_chunk.nd rfl (Or.inl rfl) (pe_op op_xor (pe_cal (sp := sp_law_double K) (cal_law_double hd) (hr.mono (by decide)) rfl pass0 (pa_cons (pv 4) pa_nil)) (pv 5))))))
      (pss_one (ps_ret (pe_op op_addG (pe_op op_addG (pe_lst (pa_cons (pe_op op_addG pe_int (pv 0)) pa_nil)) (pe_slice sl_G (pv 2) (po_some pe_int) po_none)) (pe_lst (pa_cons (pv 3) (pa_cons (pv 4) pa_nil))))))))))), ?_⟩
  obtain ⟨k, p, c, rfl, rfl, hk, hS, hc, hl, q⟩ := h
  have hr := row_lt hk hc
  walk_at "en"
  walk_at "s"
  walk_at "sz"
  intro p1 hp1
  have e1 := Evl.Ex.new (o := .lst [V.int k]) hp1
  walk_at "s"
  refine w_list (ex_sq e1 hS) fun p2 hp2 => ?_
  have e2 := e1.trans (Evl.Ex.new (o := .lst (nv c)) hp2)
  walk_at "s"
  refine w_catL (hp_new hp2 upd_same) upd_same (by rw [nv_len]; simp; omega) fun p3 hp3 => ?_
  walk_at "s"
  have e3 := e2.trans (Evl.Ex.new (o := .lst ([V.int k] ++ nv c)) hp3)
  refine w_lenN (ex_sq e3 hS) fun _ => ?_
  walk_at "s"
  walk_at "sz"
  intro p4 hp4
  refine w_catL (hp_new hp4 upd_same) upd_same (by rw [List.length_append, nv_len]; simp; omega) fun p5 hp5 => ?_
  walk_at "s"
  have e4 := e3.trans (Evl.Ex.new (o := .lst [V.int (((nv c).length : Int) % 128)]) hp4)
  have e5 := e4.trans (Evl.Ex.new (o := .lst ([V.int k] ++ nv c ++ [V.int (((nv c).length : Int) % 128)])) hp5)
  have hL := upd_same (H := (upd (upd (upd (upd H p1 (.lst [V.int k])) p2 (.lst (nv c))) p3 (.lst ([V.int k] ++ nv c))) p4 (.lst [V.int (((nv c).length : Int) % 128)]))) (a := p5) (o := .lst ([V.int k] ++ nv c ++ [V.int (((nv c).length : Int) % 128)]))
  revert e5 hL
  generalize upd (upd (upd (upd (upd H p1 (.lst [V.int k])) p2 (.lst (nv c))) p3 (.lst ([V.int k] ++ nv c))) p4 (.lst [V.int (((nv c).length : Int) % 128)])) p5 (.lst ([V.int k] ++ nv c ++ [V.int (((nv c).length : Int) % 128)])) = H5
  intro e5 hL
  have eR : [V.int k] ++ nv c ++ [V.int (((nv c).length : Int) % 128)] = nv (rowOf k c) := by rw [← nv_row]; simp
  rw [eR] at hL
  have hlen : (rowOf k c).length = c.length + 2 := row_len k c
  have hdrop : (rowOf k c).drop 1 = c ++ [c.length % 128] := rfl
  have hck : [V.int (128 + (k : Int))] ++ nv (c ++ [c.length % 128]) ++ [V.int (xorOf (rowOf k c) : Nat), V.int (turnOf (rowOf k c) : Nat)] = nv (chk k c) := by
    unfold chk clo
    rw [nv_cons, nv_app, nv_app]
    simp [nv]
  generalize hrow : rowOf k c = row at *
  refine w_forL (SqL.of hL) (fun i σ H' => H5 = H' ∧ ∃ o : Option V, σ = [some (.int k), some (.ref p), some (.ref p5), some (.int ((row.take i).foldl xorF 0 : Nat)), some (.int ((row.take i).foldl turnF 0 : Nat)), o]) ⟨rfl, none, rfl⟩ ?_ ?_ ?_
  · rintro i σ H' _ ⟨rfl, _⟩
    exact SqL.of hL
  · rintro i v σ H' hv ⟨rfl, o, rfl⟩
    obtain ⟨n, hn, rfl⟩ := nv_get hv
    have t7 : (row.take i).foldl turnF 0 < 128 := turn_lt _ _ (fun x hx => hr x (List.mem_of_mem_take hx)) (by decide)
    walk_at "s"
    rw [bx]
    walk_at "s"
    refine ap_law_double t7 ?_
    walk_at "s"
    rw [bx]
    rw [fold_take hn, fold_take hn]
    exact ⟨rfl, _, rfl⟩
  · rintro σ H' ⟨rfl, o, rfl⟩
    rw [nv_len, List.take_length]
    walk_at "s"
    walk_at "sz"
    intro q1 h1
    walk_at "s"
    refine w_slL (SqL.of (hp_new h1 hL)) fun q2 h2 => ?_
    rw [show (1 : Int) = ((1 : Nat) : Int) from rfl, cut_from, nv_drop, hdrop]
    walk_at "s"
    refine w_catL (hp_new h2 upd_same) upd_same (by rw [nv_len, List.length_append]; simp; omega) fun q3 h3 => ?_
    walk_at "s"
    walk_at "sz"
    intro q4 h4
    refine w_catL (hp_new h4 upd_same) upd_same (by rw [List.length_append, nv_len, List.length_append]; simp; omega) fun q5 h5 => ?_
    have e9 := ((((e5.trans (Evl.Ex.new (o := .lst [V.int (128 + (k : Int))]) h1)).trans (Evl.Ex.new (o := .lst (nv (c ++ [c.length % 128]))) h2)).trans (Evl.Ex.new (o := .lst ([V.int (128 + (k : Int))] ++ nv (c ++ [c.length % 128]))) h3)).trans (Evl.Ex.new (o := .lst [V.int (xorOf row : Nat), V.int (turnOf row : Nat)]) h4))
    refine q q5 _ (none_ex e9 h5) (e9.trans (Evl.Ex.new h5)) ?_
    rw [upd_same, ← hck]
    rfl
theorem cal_law_chunk (hd : Hd K mg) : Cal P w K mg base CX0 2 "_law_chunk" ["manner", "content"] (sp_law_chunk K) := by
  obtain ⟨fd, F⟩ := hd.def_ 10
  exact .mk' (hd.glo 20) F.kp (FunD.bindsN F fun _ _ _ _ _ _ us hl => match us, hl with | [_, _], _ => rfl) (ok_law_chunk hd F)
/-! ### one place replaced -/
theorem set_take {l : List Nat} {i v : Nat} (h : i < l.length) : l.take i ++ v :: l.drop (i + 1) = l.set i v := by
  rw [List.set_eq_take_append_cons_drop, if_pos h]
def sp_replaced (K : PySem.W.Frag) : Sp := sp3 fun x y z H Q _ => ∃ (p : Addr) (l : List Nat) (i v : Nat), x = .ref p ∧ y = .int i ∧ z = .int v ∧ SqT K H p (nv l) ∧ i < l.length ∧ l.length ≤ 2000 ∧ ∀ t H', Evl.Ex H H' → SqT K H' t (nv (l.set i v)) → Q (.ref t) H'
theorem ap_replaced1 {K : PySem.W.Frag} {H : Hp} {Q : VK} {E : XK} {p : Addr} {l : List Nat} {i v : Nat} (h1 : SqT K H p (nv l)) (h2 : i < l.length) (h3 : l.length ≤ 2000) (q : ∀ t H', Evl.Ex H H' → SqT K H' t (nv (l.set i v)) → Q (.ref t) H') : sp_replaced K [.ref p, .int i, .int v] H Q E :=
  ⟨_, _, _, rfl, p, l, i, v, rfl, rfl, rfl, h1, h2, h3, q⟩
theorem ok_replaced (hd : Hd K mg) {fd : FuncData} (F : FunD K d_replaced.name d_replaced.qual d_replaced.params d_replaced.body d_replaced.scope (d_replaced.dvs K) (d_replaced.kws K) (He.fAd K d_replaced.at_) fd) : FnOk P w K mg base CX0 1 (He.fAd K d_replaced.at_) fd ["piece", "place", "byte"] (sp_replaced K) := by
  refine FunD.ok F sc_replaced (fun vs H Q E h => ?_) (fun cdv A outer s H vs Q E hr h => ?_)
  · obtain ⟨v0, v1, v2, rfl, _⟩ := h
    rfl
  obtain ⟨v0, v1, v2, rfl, h⟩ := h
  rw [show start N_replaced [v0, v1, v2] = _ from st_replaced v0 v1 v2]
  refine ⟨_, PSs.nox ((pss_one (ps_ret (pe_tup (StX.pa_star (pe_slice sl_G (pv 0) po_none (po_some (pv 1))) (pa_cons (pv 2) (StX.pa_star (pe_slice sl_G (pv 0) (po_some (pe_op op_addG (pv 1) pe_int)) po_none) pa_nil))))))), ?_⟩
  obtain ⟨p, l, i, v, rfl, rfl, rfl, hS, hi, hl, q⟩ := h
  walk_at "en"
  walk_at "s"
  refine w_slToT i hS rfl fun q1 H1 e1 h1 => ?_
  walk_at "s"
  refine w_slFromT (i + 1) (Evl.ex_t e1 hS) (by omega) fun q2 H2 e2 h2 => ?_
  have h1' := Evl.ex_t e2 h1
  walk_at "s"
  refine ⟨sz_of (by rw [List.length_append, List.length_cons, List.length_append, nv_len, nv_len, List.length_take, List.length_drop]; simp; omega), fun t ht => ?_⟩
  refine q t _ ((e1.trans e2).trans (Evl.Ex.new ht)) (SqT.of ?_)
  rw [upd_same, ← set_take hi, nv_app, nv_cons, List.append_nil]
theorem cal_replaced (hd : Hd K mg) : Cal P w K mg base CX0 1 "replaced" ["piece", "place", "byte"] (sp_replaced K) := by
  obtain ⟨fd, F⟩ := hd.def_ 11
  exact .mk' (hd.glo 21) F.kp (FunD.bindsN F fun _ _ _ _ _ _ us hl => match us, hl with | [_, _, _], _ => rfl) (ok_replaced hd F)
/-! ### what a generator hands out: tuples of numbers -/
def Outs (K : PySem.W.Frag) (H : Hp) (out : List V) (ls : List (List Nat)) : Prop := out.length = ls.length ∧ ∀ (i : Nat) (v : V) (l : List Nat), out[i]? = some v → ls[i]? = some l → ∃ t, v = .ref t ∧ SqT K H t (nv l)
theorem Outs.nil {K : PySem.W.Frag} {H : Hp} : Outs K H [] [] := ⟨rfl, fun i v l h => by simp at h⟩
theorem Outs.ex {K : PySem.W.Frag} {H H' : Hp} {out : List V} {ls : List (List Nat)} (e : Evl.Ex H H') (h : Outs K H out ls) : Outs K H' out ls := ⟨h.1, fun i v l h1 h2 => by
  obtain ⟨t, e1, e2⟩ := h.2 i v l h1 h2
  exact ⟨t, e1, Evl.ex_t e e2⟩⟩
theorem Outs.app {K : PySem.W.Frag} {H : Hp} {a b : List V} {ls ms : List (List Nat)} (h : Outs K H a ls) (h2 : Outs K H b ms) : Outs K H (a ++ b) (ls ++ ms) := ⟨by rw [List.length_append, List.length_append, h.1, h2.1], fun i v l e1 e2 => by
  by_cases z : i < a.length
  · rw [List.getElem?_append_left z] at e1
    rw [List.getElem?_append_left (by rw [← h.1]; exact z)] at e2
    exact h.2 i v l e1 e2
  · rw [List.getElem?_append_right (by omega)] at e1
    rw [List.getElem?_append_right (by rw [← h.1]; omega), ← h.1] at e2
    exact h2.2 _ v l e1 e2⟩
theorem Outs.one {K : PySem.W.Frag} {H : Hp} {t : Addr} {l : List Nat} (h : SqT K H t (nv l)) : Outs K H [.ref t] [l] := ⟨rfl, fun i v m e1 e2 => by
  cases i with
  | zero =>
    simp at e1 e2
    subst e1 e2
    exact ⟨t, rfl, h⟩
  | succ i => simp at e1⟩
theorem range_snoc {α : Type} (f : Nat → α) (n : Nat) : (List.range (n + 1)).map f = (List.range n).map f ++ [f n] := by rw [List.range_succ, List.map_append]; rfl
theorem Outs.upd {K : PySem.W.Frag} {H : Hp} {out xs : List V} {ls : List (List Nat)} {p : Addr} {o : HO} (h : Outs K H out ls) (hp : H p = some (.lst xs)) : Outs K (upd H p o) out ls := ⟨h.1, fun i v l h1 h2 => by
  obtain ⟨t, e1, e2⟩ := h.2 i v l h1 h2
  refine ⟨t, e1, ?_⟩
  rcases e2 with (e2 | ⟨u, e2⟩) | e2
  · exact .inl (.inl (by rw [upd_ne (ne_of e2 hp (by intro z; cases z))]; exact e2))
  · exact .inl (.inr ⟨u, by rw [upd_ne (ne_of e2 hp (by intro z; cases z))]; exact e2⟩)
  · exact .inr e2⟩
theorem ex_fresh {H H' : Hp} {p : Addr} {o : HO} (x : Evl.Ex H H') (hp : H p = none) : Evl.Ex H (upd H' p o) := fun b u e => by
  rw [upd_ne (ne_of_none e hp)]
  exact x b u e
theorem w_extend {H : Hp} {Q : VK} {l b : Addr} {xs zs : List V} (h1 : H l = some (.lst xs)) (h2 : H b = some (.lst zs)) (h3 : xs.length + zs.length ≤ 100000) (q : Q .non (upd H l (.lst (xs ++ zs)))) : rExtend (.ref l) [.ref b] H Q := ⟨l, b, xs, zs, rfl, rfl, h1, h2, sz_of h3, q⟩
def marksL (l : List Nat) (n : Nat) : List (List Nat) := (List.range n).map fun i => l.set 0 (128 + i)
def sp_with_other_marks (K : PySem.W.Frag) : L2.SpG := sg1 fun x H Q _ => ∃ (p : Addr) (l : List Nat), x = .ref p ∧ SqT K H p (nv l) ∧ 0 < l.length ∧ l.length ≤ 2000 ∧ ∀ out H', Evl.Ex H H' → Outs K H' out (marksL l 5) → Q out H'
theorem ap_marks {K : PySem.W.Frag} {H : Hp} {Q : List V → Hp → Prop} {E : XK} {p : Addr} {l : List Nat} (h1 : SqT K H p (nv l)) (h2 : 0 < l.length) (h3 : l.length ≤ 2000) (q : ∀ out H', Evl.Ex H H' → Outs K H' out (marksL l 5) → Q out H') : sp_with_other_marks K [.ref p] H Q E := ⟨_, rfl, p, l, rfl, h1, h2, h3, q⟩
theorem ok_with_other_marks (hd : Hd K mg) {fd : FuncData} (F : FunD K d_with_other_marks.name d_with_other_marks.qual d_with_other_marks.params d_with_other_marks.body d_with_other_marks.scope (d_with_other_marks.dvs K) (d_with_other_marks.kws K) (He.fAd K d_with_other_marks.at_) fd) : L2.GFn P w K mg base 2 (He.fAd K d_with_other_marks.at_) fd ["piece"] (sp_with_other_marks K) := by
  refine FunD.gok F sc_with_other_marks (fun vs H Q E h => ?_) (fun cdv A outer s H vs Q E pn hr h => ?_)
  · obtain ⟨v0, rfl, _⟩ := h
    rfl
  obtain ⟨v0, rfl, h⟩ := h
  rw [show start N_with_other_marks [v0] = _ from st_with_other_marks v0]
  refine ⟨_, GSs.nox (gss_cons (gs_for PassesOwn.never rfl (pi_range1 rfl (hd.free 13) (pa_cons (pe_callB g_len (by rfl) (hd.free 0) (by decide +kernel) (pa_cons (pe_globD rfl (hd.glo 17)) pa_nil)) pa_nil)) (pg_name (i := 1) sc_with_other_marks.nd rfl (Or.inl rfl))
      (gss_cons (gs_yield (pe_cal (sp := sp_replaced K) (cal_replaced hd) (hr.mono (by decide)) rfl pass0 (pa_cons (pv 0) (pa_cons pe_int (pa_cons (pe_op op_addG pe_int (pv 1)) pa_nil)))))
      gss_nil))
      gss_nil), ?_⟩
  obtain ⟨p, l, rfl, hS, h0, hl, q⟩ := h
  walk_at "en"
  walk_at "s"
  refine w_lenN (.inr (k_KINDS hd _)) fun _ => ?_
  refine w_gforR1 (by simp) (by simp) (fun i ys σ H' => Evl.Ex H H' ∧ Outs K H' ys (marksL l i) ∧ ∃ o : Option V, σ = [some (.ref p), o]) ⟨Evl.Ex.refl _, Outs.nil, none, rfl⟩ ?_ ?_
  · rintro i ys σ H' hi ⟨e, ho, o, rfl⟩
    have hlen := ho.1
    rw [marksL, List.length_map, List.length_range] at hlen
    simp only [List.length_cons, List.length_nil] at hi
    walk_at "s"
    rw [show (128 : Int) + (i : Int) = ((128 + i : Nat) : Int) by omega]
    refine ap_replaced1 (i := 0) (Evl.ex_t e hS) h0 hl fun t H2 e2 h2 => ?_
    walk_at "s"
    refine ⟨e.trans e2, ?_, _, rfl⟩
    rw [marksL, range_snoc]
    exact (ho.ex e2).app (Outs.one h2)
  · rintro ys σ H' ⟨e, ho, o, rfl⟩
    exact q ys H' e ho
theorem cal_with_other_marks (hd : Hd K mg) : CalG P w K mg base 2 "with_other_marks" ["piece"] (sp_with_other_marks K) := by
  obtain ⟨fd, F⟩ := hd.def_ 12
  exact .mk' (hd.glo 22) F.kp (FunD.bindsN F fun _ _ _ _ _ _ us hl => match us, hl with | [_], _ => rfl) (ok_with_other_marks hd F)
/-! the pieces' parts -/
def kOf (l : List Nat) : Nat := l.headD 0 - 128
def cOf (l : List Nat) : List Nat := (l.drop 1).take (l.length - 4)
/-- a mark, then bytes below 128 -/
def Good (l : List Nat) : Prop := ∃ k r, l = (128 + k) :: r ∧ k < 128 ∧ (∀ x ∈ r, x < 128) ∧ 3 ≤ r.length
def closL (l : List Nat) (n : Nat) : List (List Nat) := (List.range n).map fun i => l.set (l.length - 3 + i) ((clo (kOf l) (cOf l)).getD i 0)
theorem Good.parts {l : List Nat} (h : Good l) : kOf l < 128 ∧ (∀ x ∈ cOf l, x < 128) ∧ 4 ≤ l.length ∧ l[0]? = some (128 + kOf l) ∧ (cOf l).length = l.length - 4 := by
  obtain ⟨k, r, rfl, h1, h2, h3⟩ := h
  have e : kOf ((128 + k) :: r) = k := by simp [kOf]
  refine ⟨by rw [e]; exact h1, fun x hx => h2 x (List.mem_of_mem_take hx), by rw [List.length_cons]; omega, by rw [e]; rfl, ?_⟩
  unfold cOf
  rw [List.length_take, List.length_drop, List.length_cons]
  omega
def sp_with_other_closing (K : PySem.W.Frag) : L2.SpG := sg1 fun x H Q _ => ∃ (p : Addr) (l : List Nat), x = .ref p ∧ SqT K H p (nv l) ∧ Good l ∧ l.length ≤ 1800 ∧ ∀ out H', Evl.Ex H H' → Outs K H' out (closL l 3) → Q out H'
theorem ap_clos {K : PySem.W.Frag} {H : Hp} {Q : List V → Hp → Prop} {E : XK} {p : Addr} {l : List Nat} (h1 : SqT K H p (nv l)) (h2 : Good l) (h3 : l.length ≤ 1800) (q : ∀ out H', Evl.Ex H H' → Outs K H' out (closL l 3) → Q out H') : sp_with_other_closing K [.ref p] H Q E := ⟨_, rfl, p, l, rfl, h1, h2, h3, q⟩
theorem cut_c {l : List Nat} (h : 4 ≤ l.length) : cutV (nv l) (some 1) (some (-3)) = nv (cOf l) := by
  rw [show (-3 : Int) = -((3 : Nat) : Int) from rfl, show (1 : Int) = ((1 : Nat) : Int) from rfl, cut_mid (by omega) (by rw [nv_len]; omega), nv_drop, nv_take, nv_len]
  rfl
theorem ok_with_other_closing (hd : Hd K mg) {fd : FuncData} (F : FunD K d_with_other_closing.name d_with_other_closing.qual d_with_other_closing.params d_with_other_closing.body d_with_other_closing.scope (d_with_other_closing.dvs K) (d_with_other_closing.kws K) (He.fAd K d_with_other_closing.at_) fd) : L2.GFn P w K mg base 3 (He.fAd K d_with_other_closing.at_) fd ["piece"] (sp_with_other_closing K) := by
  refine FunD.gok F sc_with_other_closing (fun vs H Q E h => ?_) (fun cdv A outer s H vs Q E pn hr h => ?_)
  · obtain ⟨v0, rfl, _⟩ := h
    rfl
  obtain ⟨v0, rfl, h⟩ := h
  rw [show start N_with_other_closing [v0] = _ from st_with_other_closing v0]
  refine ⟨_, GSs.nox (gss_cons (gs_ps (ps_set (i := 1) sc_with_other_closing.nd rfl (Or.inl rfl) (pe_cal (sp := sp_closing K) (cal_closing hd) (hr.mono (by decide)) rfl pass0 (pa_cons (pe_op op_sub (pe_ix ix_G (pv 0) pe_int (fun _ _ => rfl)) pe_int) (pa_cons (pe_slice sl_G (pv 0) (po_some pe_int) (po_some (pe_un un_neg pe_int))) pa_nil)))))
      (gss_cons (gs_for PassesOwn.never rfl (pi_range1 rfl (hd.free 13) (pa_cons pe_int pa_nil)) (pg_name (i := 2) sc_with_other_closing.nd rfl (Or.inl rfl))
      (gss_cons (gs_yield (pe_cal (sp := sp_replaced K) (cal_replaced hd) (hr.mono (by decide)) rfl pass0 (pa_cons (pv 0) (pa_cons (pe_op op_addG (pe_op op_sub (pe_callB g_len (by rfl) (hd.free 0) (by decide +kernel) (pa_cons (pv 0) pa_nil)) pe_int) (pv 2)) (pa_cons (pe_ix ix_G (pv 1) (pv 2) (fun _ _ => rfl)) pa_nil)))))
      gss_nil))
      gss_nil)), ?_⟩
  obtain ⟨p, l, rfl, hS, hg, hl, q⟩ := h
  obtain ⟨g1, g2, g3, g4, g5⟩ := hg.parts
  walk_at "en"
  walk_at "s"
  refine w_ix (.inr hS) (nv_at (i := 0) g4) ?_
  walk_at "s"
  rw [show ((128 + kOf l : Nat) : Int) - 128 = (kOf l : Int) by omega]
  refine w_slT hS fun p1 H1 e1 h1 => ?_
  rw [cut_c g3] at h1
  walk_at "s"
  refine ap_closing g1 h1 g2 (by omega) fun b H2 nb e2 hB => ?_
  have e12 := e1.trans e2
  walk_at "s"
  refine w_gforR1 (by omega) (by omega) (fun i ys σ H' => Evl.Ex H2 H' ∧ Outs K H' ys (closL l i) ∧ ∃ o : Option V, σ = [some (.ref p), some (.ref b), o]) ⟨Evl.Ex.refl _, Outs.nil, none, rfl⟩ ?_ ?_
  · rintro i ys σ H' hi ⟨e, ho, o, rfl⟩
    have hlen := ho.1
    rw [closL, List.length_map, List.length_range] at hlen
    have hS' := Evl.ex_t e (Evl.ex_t e12 hS)
    have hB' := Evl.ex_t e hB
    walk_at "s"
    have hget : (clo (kOf l) (cOf l))[i]? = some ((clo (kOf l) (cOf l)).getD i 0) := by
      rw [List.getD_eq_getElem?_getD, List.getElem?_eq_getElem (by simp [clo]; omega)]
      rfl
    refine w_ix (.inr hB') (nv_at hget) ?_
    walk_at "s"
    rw [nv_len, show ((l.length : Int) - 3 + i) = ((l.length - 3 + i : Nat) : Int) by omega]
    refine ap_replaced1 hS' (by omega) (by omega) fun t H3 e3 h3 => ?_
    walk_at "s"
    refine ⟨e.trans e3, ?_, _, rfl⟩
    rw [closL, range_snoc]
    exact (ho.ex e3).app (Outs.one h3)
  · rintro ys σ H' ⟨e, ho, o, rfl⟩
    exact q ys H' (e12.trans e) ho
theorem cal_with_other_closing (hd : Hd K mg) : CalG P w K mg base 3 "with_other_closing" ["piece"] (sp_with_other_closing K) := by
  obtain ⟨fd, F⟩ := hd.def_ 13
  exact .mk' (hd.glo 23) F.kp (FunD.bindsN F fun _ _ _ _ _ _ us hl => match us, hl with | [_], _ => rfl) (ok_with_other_closing hd F)
theorem nv_neg {l : List Nat} {k : Nat} (h0 : 0 < k) (h : k ≤ l.length) : atI (nv l) (-(k : Int)) = some (.int (l.getD (l.length - k) 0)) := by
  unfold atI ixN
  rw [if_neg (by omega), nv_len, if_pos (by omega)]
  show (nv l)[(-(k : Int) + (l.length : Int)).toNat]? = _
  rw [show (-(k : Int) + (l.length : Int)).toNat = l.length - k by omega]
  unfold nv
  rw [List.getElem?_map, List.getElem?_eq_getElem (by omega), List.getD_eq_getElem?_getD, List.getElem?_eq_getElem (by omega)]
  rfl
theorem getD_some {l : List Nat} {i : Nat} (h : i < l.length) : l[i]? = some (l.getD i 0) := by
  rw [List.getD_eq_getElem?_getD, List.getElem?_eq_getElem h]
  rfl
theorem Good.tail {l : List Nat} (h : Good l) {i : Nat} (h0 : 0 < i) : l.getD i 0 < 128 := by
  obtain ⟨k, r, rfl, h1, h2, h3⟩ := h
  obtain ⟨j, rfl⟩ : ∃ j, i = j + 1 := ⟨i - 1, by omega⟩
  rw [List.getD_cons_succ, List.getD_eq_getElem?_getD]
  cases e : r[j]? with
  | none => decide
  | some x => exact h2 x (List.mem_of_getElem? e)
def chg (l : List Nat) : Nat := xorOf (rowOf (kOf l) (cOf l)) ^^^ l.getD (l.length - 2) 0
def trn (l : List Nat) : Nat := turnOf (rowOf (kOf l) (cOf l)) ^^^ l.getD (l.length - 1) 0
theorem Good.chg {l : List Nat} (h : Good l) : chg l < 128 := by
  obtain ⟨g1, g2, g3, g4, g5⟩ := h.parts
  exact xor7 (xor_lt _ _ (row_lt g1 g2) (by decide)) (h.tail (by omega))
def conOk (l : List Nat) (j : Nat) : Bool := decide (it (j + 1) (chg l) = trn l) && decide (0 < chg l)
def conF (l : List Nat) (j : Nat) : List Nat := l.set (l.length - 4 - j) (l.getD (l.length - 4 - j) 0 ^^^ chg l)
def contL (l : List Nat) (n : Nat) : List (List Nat) := ((List.range n).filter (conOk l)).map (conF l)
theorem contL_succ (l : List Nat) (n : Nat) : contL l (n + 1) = if conOk l n = true then contL l n ++ [conF l n] else contL l n := by
  unfold contL
  rw [List.range_succ, List.filter_append]
  cases e : conOk l n <;> simp [e]
def sp_with_other_content (K : PySem.W.Frag) : L2.SpG := sg1 fun x H Q _ => ∃ (p : Addr) (l : List Nat), x = .ref p ∧ SqT K H p (nv l) ∧ Good l ∧ l.length ≤ 1800 ∧ ∀ out H', Evl.Ex H H' → Outs K H' out (contL l (l.length - 4)) → Q out H'
theorem ap_cont {K : PySem.W.Frag} {H : Hp} {Q : List V → Hp → Prop} {E : XK} {p : Addr} {l : List Nat} (h1 : SqT K H p (nv l)) (h2 : Good l) (h3 : l.length ≤ 1800) (q : ∀ out H', Evl.Ex H H' → Outs K H' out (contL l (l.length - 4)) → Q out H') : sp_with_other_content K [.ref p] H Q E := ⟨_, rfl, p, l, rfl, h1, h2, h3, q⟩
theorem contL_len (l : List Nat) (n : Nat) : (contL l n).length ≤ n := by
  unfold contL
  rw [List.length_map]
  have := List.length_filter_le (conOk l) (List.range n)
  rw [List.length_range] at this
  exact this
theorem ok_with_other_content (hd : Hd K mg) {fd : FuncData} (F : FunD K d_with_other_content.name d_with_other_content.qual d_with_other_content.params d_with_other_content.body d_with_other_content.scope (d_with_other_content.dvs K) (d_with_other_content.kws K) (He.fAd K d_with_other_content.at_) fd) : L2.GFn P w K mg base 3 (He.fAd K d_with_other_content.at_) fd ["piece"] (sp_with_other_content K) := by
  refine FunD.gok F sc_with_other_content (fun vs H Q E h => ?_) (fun cdv A outer s H vs Q E pn hr h => ?_)
  · obtain ⟨v0, rfl, _⟩ := h
    rfl
  obtain ⟨v0, rfl, h⟩ := h
  rw [show start N_with_other_content [v0] = _ from st_with_other_content v0]
  refine ⟨_, GSs.nox (gss_cons (gs_ps (ps_set (i := 1) sc_with_other_content.nd rfl (Or.inl rfl) (pe_cal (sp := sp_closing K) (cal_closing hd) (hr.mono (by decide)) rfl pass0 (pa_cons (pe_op op_sub (pe_ix ix_G (pv 0) pe_int (fun _ _ => rfl)) pe_int) (pa_cons (pe_slice sl_G (pv 0) (po_some pe_int) (po_some (pe_un un_neg pe_int))) pa_nil)))))
      (gss_cons (gs_ps (ps_set (i := 2) sc_with_other_content.nd rfl (Or.inl rfl) (pe_op op_xor (pe_ix ix_G (pv 1) pe_int (fun _ _ => rfl)) (pe_ix ix_G (pv 0) (pe_un un_neg pe_int) (fun _ _ => rfl)))))
      (gss_cons (gs_ps (ps_set (i := 3) sc_with_other_content.nd rfl (Or.inl rfl) (pe_op op_xor (pe_ix ix_G (pv 1) pe_int (fun _ _ => rfl)) (pe_ix ix_G (pv 0) (pe_un un_neg pe_int) (fun _ _ => rfl)))))
      (gss_cons (gs_ps (ps_set (i := 4) sc_with_other_content.nd rfl (Or.inl rfl) (pv 2)))
      (gss_cons (gs_for PassesOwn.never rfl (pi_range3 rfl (hd.free 13) (pa_cons (pe_op op_sub (pe_callB g_len (by rfl) (hd.free 0) (by decide +kernel) (pa_cons (pv 0) pa_nil)) pe_int) (pa_cons pe_int (pa_cons (pe_un un_neg pe_int) pa_nil)))) (pg_name (i := 5) sc_with_other_content.nd rfl (Or.inl rfl))
      (gss_cons (gs_ps (ps_set (i := 4) sc_with_other_content.nd rfl (Or.inl rfl) (pe_cal (sp := sp_double K) (cal_double hd) (hr.mono (by decide)) rfl pass0 (pa_cons (pv 4) pa_nil))))
      (gss_cons (gs_if (PW.pt (pw_and (pt_cmpR (op_eqG (hu64 hr)) (pv 4) (pv 3) (nomark _)) (pw_and1 (pt_cmpR op_gtG (pv 2) pe_int (nomark _))))) (gss_cons (gs_yield (pe_cal (sp := sp_replaced K) (cal_replaced hd) (hr.mono (by decide)) rfl pass0 (pa_cons (pv 0) (pa_cons (pv 5) (pa_cons (pe_op op_xor (pe_ix ix_G (pv 0) (pv 5) (fun _ _ => rfl)) (pv 2)) pa_nil)))))
      gss_nil) gss_nil)
      gss_nil)))
      gss_nil))))), ?_⟩
  obtain ⟨p, l, rfl, hS, hg, hl, q⟩ := h
  obtain ⟨g1, g2, g3, g4, g5⟩ := hg.parts
  have hc7 := hg.chg
  walk_at "en"
  walk_at "s"
  refine w_ix (.inr hS) (nv_at (i := 0) g4) ?_
  walk_at "s"
  rw [show ((128 + kOf l : Nat) : Int) - 128 = (kOf l : Int) by omega]
  refine w_slT hS fun p1 H1 e1 h1 => ?_
  rw [cut_c g3] at h1
  walk_at "s"
  refine ap_closing g1 h1 g2 (by omega) fun b H2 nb e2 hB => ?_
  have e12 := e1.trans e2
  have hS2 := Evl.ex_t e12 hS
  walk_at "s"
  refine w_ix (.inr hS2) (nv_neg (k := 2) (by decide) (by omega)) ?_
  walk_at "s"
  rw [bx]
  refine w_ix (.inr hS2) (nv_neg (k := 1) (by decide) (by omega)) ?_
  walk_at "s"
  rw [bx]
  have ec : xorOf (rowOf (kOf l) (cOf l)) ^^^ l.getD (l.length - 2) 0 = chg l := rfl
  have et : turnOf (rowOf (kOf l) (cOf l)) ^^^ l.getD (l.length - 1) 0 = trn l := rfl
  rw [ec, et, nv_len]
  refine w_gforDn (by omega) (by omega) (by omega) (by omega) (fun i ys σ H' => Evl.Ex H2 H' ∧ Outs K H' ys (contL l i) ∧ ∃ o : Option V, σ = [some (.ref p), some (.ref b), some (.int (chg l)), some (.int (trn l)), some (.int (it i (chg l) : Nat)), o]) ⟨Evl.Ex.refl _, Outs.nil, none, rfl⟩ ?_ ?_
  · rintro i ys σ H' hi ⟨e, ho, o, rfl⟩
    have hlen := ho.1
    have hlen2 := contL_len l i
    have hS' := Evl.ex_t e hS2
    have hsuc := contL_succ l i
    have eok : conOk l i = (decide (it (i + 1) (chg l) = trn l) && decide (0 < chg l)) := rfl
    walk_at "s"
    refine ap_double (it_lt hc7 i) ?_
    rw [show dbl (it i (chg l)) = it (i + 1) (chg l) from rfl]
    walk_at "s"
    refine kite_d (fun ha => ?_) fun ha => ?_
    · walk_at "s"
      refine kite_d (fun hb => ?_) fun hb => ?_
      · walk_at "s"
        rw [show ((l.length : Int) - 4 - i) = ((l.length - 4 - i : Nat) : Int) by omega]
        refine w_ix (.inr hS') (nv_at (getD_some (by omega))) ?_
        walk_at "s"
        rw [bx]
        refine ap_replaced1 hS' (by omega) (by omega) fun t H3 e3 h3 => ?_
        walk_at "s"
        rw [eok, decide_eq_true (show it (i + 1) (chg l) = trn l by omega), decide_eq_true (show 0 < chg l by omega)] at hsuc
        refine ⟨e.trans e3, ?_, _, rfl⟩
        rw [hsuc]
        exact (ho.ex e3).app (Outs.one h3)
      · walk_at "s"
        rw [eok, decide_eq_false (show ¬ 0 < chg l by omega), Bool.and_false] at hsuc
        refine ⟨e, ?_, _, rfl⟩
        rw [hsuc]
        exact ho
    · walk_at "s"
      rw [eok, decide_eq_false (show ¬ it (i + 1) (chg l) = trn l by omega), Bool.false_and] at hsuc
      refine ⟨e, ?_, _, rfl⟩
      rw [hsuc]
      exact ho
  · rintro ys σ H' ⟨e, ho, o, rfl⟩
    rw [show ((l.length : Int) - 4 - 0).toNat = l.length - 4 by omega] at ho
    exact q ys H' (e12.trans e) ho
theorem cal_with_other_content (hd : Hd K mg) : CalG P w K mg base 3 "with_other_content" ["piece"] (sp_with_other_content K) := by
  obtain ⟨fd, F⟩ := hd.def_ 14
  exact .mk' (hd.glo 24) F.kp (FunD.bindsN F fun _ _ _ _ _ _ us hl => match us, hl with | [_], _ => rfl) (ok_with_other_content hd F)
/-! ### mended -/
def cands (l : List Nat) : List (List Nat) := marksL l 5 ++ (if kOf l < 5 then closL l 3 ++ contL l (l.length - 4) else [])
def mendN (l : List Nat) : Option (List Nat) := if soundN l = true then some l else (cands l).find? soundN
def MV (K : PySem.W.Frag) (H : Hp) (v : V) : Option (List Nat) → Prop
  | none => v = .non
  | some m => ∃ t, v = .ref t ∧ SqT K H t (nv m)
def sp_mended (K : PySem.W.Frag) : Sp := sp1 fun x H Q _ => ∃ (p : Addr) (l : List Nat), x = .ref p ∧ SqT K H p (nv l) ∧ Good l ∧ l.length ≤ 1700 ∧ ∀ v H', Evl.Ex H H' → MV K H' v (mendN l) → Q v H'
theorem ap_mended {K : PySem.W.Frag} {H : Hp} {Q : VK} {E : XK} {p : Addr} {l : List Nat} (h1 : SqT K H p (nv l)) (h2 : Good l) (h3 : l.length ≤ 1700) (q : ∀ v H', Evl.Ex H H' → MV K H' v (mendN l) → Q v H') : sp_mended K [.ref p] H Q E := ⟨_, rfl, p, l, rfl, h1, h2, h3, q⟩
theorem find_take {f : List Nat → Bool} {ls : List (List Nat)} {i : Nat} {m : List Nat} (h : ls[i]? = some m) (h2 : ∀ x ∈ ls.take i, f x = false) (h3 : f m = true) : ls.find? f = some m := by
  obtain ⟨hi, e⟩ := List.getElem?_eq_some_iff.mp h
  rw [← List.take_append_drop i ls, List.find?_append, List.find?_eq_none.mpr (by simpa using h2), List.drop_eq_getElem_cons hi, e, List.find?_cons, h3]
  rfl
theorem closL_len (l : List Nat) (n : Nat) : (closL l n).length = n := by unfold closL; rw [List.length_map, List.length_range]
theorem marksL_len (l : List Nat) (n : Nat) : (marksL l n).length = n := by unfold marksL; rw [List.length_map, List.length_range]
theorem cand_len {l m : List Nat} (h : m ∈ cands l) : m.length = l.length := by
  unfold cands at h
  rcases List.mem_append.mp h with h | h
  · obtain ⟨i, _, rfl⟩ := List.mem_map.mp h
    rw [List.length_set]
  · split at h
    · rcases List.mem_append.mp h with h | h
      · obtain ⟨i, _, rfl⟩ := List.mem_map.mp h
        rw [List.length_set]
      · obtain ⟨i, _, rfl⟩ := List.mem_map.mp h
        unfold conF
        rw [List.length_set]
    · simp at h
theorem ok_mended (hd : Hd K mg) {fd : FuncData} (F : FunD K d_mended.name d_mended.qual d_mended.params d_mended.body d_mended.scope (d_mended.dvs K) (d_mended.kws K) (He.fAd K d_mended.at_) fd) : FnOk P w K mg base CX0 7 (He.fAd K d_mended.at_) fd ["piece"] (sp_mended K) := by
  refine FunD.ok F sc_mended (fun vs H Q E h => ?_) (fun cdv A outer s H vs Q E hr h => ?_)
  · obtain ⟨v0, rfl, _⟩ := h
    rfl
  obtain ⟨v0, rfl, h⟩ := h
  rw [show start N_mended [v0] = _ from st_mended v0]
  refine ⟨_, PSs.nox ((pss_cons (ps_if (pt_truG (pe_cal (sp := sp_is_sound K) (cal_is_sound hd) (hr.mono (by decide)) rfl pass0 (pa_cons (pv 0) pa_nil)) (by intro _; rfl)) (pss_one (ps_ret (pe_callTy g_tuple (by rfl) (hd.free 11) (by decide +kernel) (pa_cons (pv 0) pa_nil)))) pss_nil)
      (pss_cons (ps_set (i := 1) sc_mended.nd rfl (Or.inl rfl) (pe_listCal (sp := sp_with_other_marks K) (cal_with_other_marks hd) (hr.mono (by decide)) (by rfl) (hd.free 12) (by rfl) (pa_cons (pv 0) pa_nil)))
      (Evl.pss_cut (ps_if (pt_cmpR op_ltG (pe_op op_sub (pe_ix ix_G (pv 0) pe_int (fun _ _ => rfl)) pe_int) (pe_callB g_len (by rfl) (hd.free 0) (by decide +kernel) (pa_cons (pe_globD rfl (hd.glo 17)) pa_nil)) (nomark _)) (pss_cons (ps_expr (pe_bm PySem.F.plainAttrs_list PySem.F.slot_list_extend PySem.F.type_list_extend mt_extend (pv 1) (pa_cons (pe_listCal (sp := sp_with_other_closing K) (cal_with_other_closing hd) (hr.mono (by decide)) (by rfl) (hd.free 12) (by rfl) (pa_cons (pv 0) pa_nil)) pa_nil)))
      (pss_one (ps_expr (pe_bm PySem.F.plainAttrs_list PySem.F.slot_list_extend PySem.F.type_list_extend mt_extend (pv 1) (pa_cons (pe_listCal (sp := sp_with_other_content K) (cal_with_other_content hd) (hr.mono (by decide)) (by rfl) (hd.free 12) (by rfl) (pa_cons (pv 0) pa_nil)) pa_nil))))) pss_nil)
      (pss_cons (ps_for PassesOwn.never rfl (pi_G (pv 1)) (pg_name (i := 2) sc_mended.nd rfl (Or.inl rfl))
      (pss_one (ps_if (pt_truG (pe_cal (sp := sp_is_sound K) (cal_is_sound hd) (hr.mono (by decide)) rfl pass0 (pa_cons (pv 2) pa_nil)) (by intro _; rfl)) (pss_one (ps_ret (pv 2))) pss_nil)))
      (pss_one (ps_ret pe_non))))))), ?_⟩
  obtain ⟨p, l, rfl, hS, hg, hl, q⟩ := h
  obtain ⟨g1, g2, g3, g4, g5⟩ := hg.parts
  walk_at "en"
  walk_at "s"
  refine ap_is_sound hS (by omega) fun H1 e1 => ?_
  have hS1 := Evl.ex_t e1 hS
  walk_at "s"
  cases hsn : soundN l with
  | true =>
    walk_at "s"
    refine w_tupT hS1 ?_
    walk_at "s"
    refine q _ H1 e1 ?_
    unfold mendN
    rw [if_pos hsn]
    exact ⟨p, rfl, hS1⟩
  | false =>
    have em : mendN l = (cands l).find? soundN := if_neg (by rw [hsn]; decide)
    rw [em] at q
    walk_at "s"
    refine ap_marks hS1 (by omega) (by omega) fun out H2 e2 ho L hL => ?_
    have e3 := e2.trans (Evl.Ex.new (o := .lst out) hL)
    have hS3 := Evl.ex_t e3 hS1
    have hoL := ho.ex (Evl.Ex.new (o := .lst out) hL)
    have ol := ho.1
    rw [marksL_len] at ol
    walk_at "s"
    refine w_cut (fun σ H' => Evl.Ex H1 H' ∧ (∃ out, H' L = some (.lst out) ∧ Outs K H' out (cands l)) ∧ σ = [some (.ref p), some (.ref L), none]) ?_ ?_
    · walk_at "s"
      refine w_ix (.inr hS3) (nv_at (i := 0) g4) ?_
      walk_at "s"
      refine w_lenN (.inr (k_KINDS hd _)) fun _ => ?_
      walk_at "s"
      refine kite_d (fun hk => ?_) fun hk => ?_
      · simp only [List.length_cons, List.length_nil] at hk
        walk_at "s"
        have hL3 : upd H2 L (.lst out) L = some (.lst out) := upd_same
        have hL0 : H1 L = none := none_ex e2 hL
        refine ap_clos hS3 hg (by omega) fun out2 H5 e5 ho2 M hM => ?_
        walk_at "s"
        have e6 := e5.trans (Evl.Ex.new (o := .lst out2) hM)
        have ol2 := ho2.1
        rw [closL_len] at ol2
        refine w_extend (e6 _ _ hL3) upd_same (by omega) ?_
        have e7 : Evl.Ex H1 (upd (upd H5 M (.lst out2)) L (.lst (out ++ out2))) := ex_fresh (e3.trans e6) hL0
        have hoA : Outs K (upd (upd H5 M (.lst out2)) L (.lst (out ++ out2))) (out ++ out2) (marksL l 5 ++ closL l 3) := by
          refine Outs.upd ?_ (e6 _ _ hL3)
          exact (hoL.ex e6).app (ho2.ex (Evl.Ex.new hM))
        have hL7 := upd_same (H := upd H5 M (.lst out2)) (a := L) (o := .lst (out ++ out2))
        revert e7 hoA hL7
        generalize upd (upd H5 M (.lst out2)) L (.lst (out ++ out2)) = H7
        intro e7 hoA hL7
        have hS7 := Evl.ex_t e7 hS1
        walk_at "s"
        refine ap_cont hS7 hg (by omega) fun out3 H8 e8 ho3 N hN => ?_
        walk_at "s"
        have e9 := e8.trans (Evl.Ex.new (o := .lst out3) hN)
        have ol3 := ho3.1
        have ol4 := contL_len l (l.length - 4)
        refine w_extend (e9 _ _ hL7) upd_same (by rw [List.length_append]; omega) ?_
        walk_at "s"
        refine ⟨ex_fresh (e7.trans e9) hL0, ⟨_, upd_same, ?_⟩, rfl⟩
        unfold cands
        rw [if_pos (by omega), ← List.append_assoc]
        exact Outs.upd ((hoA.ex e9).app (ho3.ex (Evl.Ex.new hN))) (e9 _ _ hL7)
      · simp only [List.length_cons, List.length_nil] at hk
        walk_at "s"
        refine ⟨e3, ⟨out, upd_same, ?_⟩, rfl⟩
        unfold cands
        rw [if_neg (by omega), List.append_nil]
        exact hoL
    rintro σ H4 ⟨e4, ⟨out, hout, ho⟩, rfl⟩
    have hS4 := Evl.ex_t e4 hS1
    walk_at "s"
    refine w_forL (SqL.of hout) (fun i σ H' => Evl.Ex H4 H' ∧ (∀ x ∈ (cands l).take i, soundN x = false) ∧ ∃ o : Option V, σ = [some (.ref p), some (.ref L), o]) ⟨Evl.Ex.refl _, by simp, none, rfl⟩ ?_ ?_ ?_
    · rintro i σ H' _ ⟨e, _⟩
      exact SqL.of (e _ _ hout)
    · rintro i v σ H' hv ⟨e, hno, o, rfl⟩
      have hi : i < (cands l).length := by rw [← ho.1]; exact (List.getElem?_eq_some_iff.mp hv).1
      have hm : (cands l)[i]? = some (cands l)[i] := List.getElem?_eq_getElem hi
      generalize (cands l)[i] = m at hm
      obtain ⟨t, rfl, ht⟩ := ho.2 i v m hv hm
      have hml := cand_len (List.mem_of_getElem? hm)
      walk_at "s"
      refine ap_is_sound (Evl.ex_t e ht) (by omega) fun H5 e5 => ?_
      walk_at "s"
      cases hs : soundN m with
      | true =>
        walk_at "s"
        refine q _ _ (e1.trans (e4.trans (e.trans e5))) ?_
        rw [find_take hm hno hs]
        exact ⟨t, rfl, Evl.ex_t (e.trans e5) ht⟩
      | false =>
        walk_at "s"
        refine ⟨e.trans e5, fun x hx => ?_, _, rfl⟩
        rw [List.take_add_one, hm] at hx
        rcases List.mem_append.mp hx with z | z
        · exact hno x z
        · simp at z
          subst z
          exact hs
    · rintro σ H' ⟨e, hno, o, rfl⟩
      walk_at "s"
      refine q _ _ (e1.trans (e4.trans e)) ?_
      rw [ho.1, List.take_length] at hno
      rw [List.find?_eq_none.mpr (by simpa using hno)]
      rfl
theorem cal_mended (hd : Hd K mg) : Cal P w K mg base CX0 7 "mended" ["piece"] (sp_mended K) := by
  obtain ⟨fd, F⟩ := hd.def_ 15
  exact .mk' (hd.glo 25) F.kp (FunD.bindsN F fun _ _ _ _ _ _ us hl => match us, hl with | [_], _ => rfl) (ok_mended hd F)
/-! ### the code's distance -/
theorem turn_xor (l : List Nat) : ∀ t d : Nat, (∀ x ∈ l, x < 128) → t < 128 → d < 128 → l.foldl turnF (t ^^^ d) = l.foldl turnF t ^^^ it l.length d := by
  induction l with
  | nil => intro t d _ _ _; rfl
  | cons x l ih =>
    intro t d hx ht hd
    have hx1 := hx x List.mem_cons_self
    have e : turnF (t ^^^ d) x = turnF t x ^^^ dbl d := by
      unfold turnF
      rw [dbl_xor ht hd, Nat.xor_assoc, Nat.xor_assoc, Nat.xor_comm (dbl d) x]
    rw [List.foldl_cons, List.foldl_cons, e, ih (turnF t x) (dbl d) (fun y hy => hx y (List.mem_cons_of_mem _ hy)) (xor7 (dbl_lt ht) hx1) (dbl_lt hd), List.length_cons, it_add d 1 l.length]
    rfl
theorem xor_xor (l : List Nat) : ∀ t d : Nat, l.foldl xorF (t ^^^ d) = l.foldl xorF t ^^^ d := by
  induction l with
  | nil => intro t d; rfl
  | cons x l ih =>
    intro t d
    have e : xorF (t ^^^ d) x = xorF t x ^^^ d := by
      unfold xorF
      rw [Nat.xor_assoc, Nat.xor_assoc, Nat.xor_comm d x]
    rw [List.foldl_cons, List.foldl_cons, e, ih]
/-- the i-th changed by e -/
def hurtL (l : List Nat) (i e : Nat) : List Nat := l.set i (l.getD i 0 ^^^ e)
theorem hurt_len (l : List Nat) (i e : Nat) : (hurtL l i e).length = l.length := by simp [hurtL]
theorem hurt_lt {l : List Nat} {i e : Nat} (h : ∀ x ∈ l, x < 128) (he : e < 128) : ∀ x ∈ hurtL l i e, x < 128 := by
  intro x hx
  rcases List.mem_or_eq_of_mem_set hx with z | z
  · exact h x z
  · subst z
    refine xor7 ?_ he
    rw [List.getD_eq_getElem?_getD]
    cases q : l[i]? with
    | none => decide
    | some y => exact h y (List.mem_of_getElem? q)
theorem hurt_xor (l : List Nat) : ∀ (t i e : Nat), i < l.length → (hurtL l i e).foldl xorF t = l.foldl xorF t ^^^ e := by
  induction l with
  | nil => intro t i e h; simp at h
  | cons x l ih =>
    intro t i e h
    cases i with
    | zero =>
      show l.foldl xorF (t ^^^ (x ^^^ e)) = l.foldl xorF (t ^^^ x) ^^^ e
      rw [← Nat.xor_assoc, xor_xor]
    | succ i =>
      show (hurtL l i e).foldl xorF (t ^^^ x) = l.foldl xorF (t ^^^ x) ^^^ e
      exact ih _ i e (by simpa using h)
theorem hurt_turn (l : List Nat) : ∀ (t i e : Nat), (∀ x ∈ l, x < 128) → t < 128 → e < 128 → i < l.length → (hurtL l i e).foldl turnF t = l.foldl turnF t ^^^ it (l.length - 1 - i) e := by
  induction l with
  | nil => intro t i e _ _ _ h; simp at h
  | cons x l ih =>
    intro t i e hx ht he h
    have hx1 := hx x List.mem_cons_self
    cases i with
    | zero =>
      show l.foldl turnF (dbl t ^^^ (x ^^^ e)) = l.foldl turnF (dbl t ^^^ x) ^^^ it (l.length + 1 - 1 - 0) e
      rw [← Nat.xor_assoc, turn_xor l _ _ (fun y hy => hx y (List.mem_cons_of_mem _ hy)) (xor7 (dbl_lt ht) hx1) he]
      rfl
    | succ i =>
      show (hurtL l i e).foldl turnF (dbl t ^^^ x) = l.foldl turnF (dbl t ^^^ x) ^^^ it (l.length + 1 - 1 - (i + 1)) e
      rw [ih _ i e (fun y hy => hx y (List.mem_cons_of_mem _ hy)) (xor7 (dbl_lt ht) hx1) he (by simpa using h)]
      congr 2
      omega
theorem xor_move {a b c : Nat} (h : a ^^^ b = a ^^^ c) : b = c := by
  have := congrArg (a ^^^ ·) h
  simpa [← Nat.xor_assoc] using this
theorem xor_none {a b : Nat} (h : a ^^^ b = a) : b = 0 := xor_move (a := a) (by rw [h, Nat.xor_zero])
/-! a chunk as its row and the two sums -/
def enc (row : List Nat) (y z : Nat) : List Nat := (128 + row.headD 0) :: (row.drop 1 ++ [y, z])
theorem chk_enc (k : Nat) (c : List Nat) : chk k c = enc (rowOf k c) (xorOf (rowOf k c)) (turnOf (rowOf k c)) := by
  unfold chk enc clo rowOf
  simp
theorem sound_enc {row : List Nat} {y z : Nat} (hr : ∀ x ∈ row, x < 128) (hl : 2 ≤ row.length) (h : soundN (enc row y z) = true) : y = xorOf row ∧ z = turnOf row := by
  obtain ⟨k, r, rfl⟩ : ∃ k r, row = k :: r := by
    cases row with
    | nil => simp at hl
    | cons k r => exact ⟨k, r, rfl⟩
  obtain ⟨c, x, rfl⟩ : ∃ c x, r = c ++ [x] := by
    rcases List.eq_nil_or_concat r with e | ⟨c, x, e⟩
    · subst e; simp at hl
    · exact ⟨c, x, by rw [e, List.concat_eq_append]⟩
  have e1 : enc (k :: (c ++ [x])) y z = (128 + k) :: (c ++ [x, y, z]) := by simp [enc]
  rw [e1] at h
  unfold soundN at h
  simp only [Bool.and_eq_true, decide_eq_true_eq] at h
  obtain ⟨_, _, _, h⟩ := h
  have l1 : ((128 + k) :: (c ++ [x, y, z])).length = c.length + 4 := by simp
  rw [l1, show c.length + 4 - 3 = c.length + 1 by omega, List.drop_succ_cons, List.drop_left, List.drop_succ_cons, List.drop_zero, show c.length + 4 - 4 = c.length by omega, List.take_left] at h
  have l2 : ((128 + k) :: (c ++ [x, y, z])).headD 0 - 128 = k := by simp
  rw [l2] at h
  unfold clo at h
  injection h with h1 h
  injection h with h2 h
  injection h with h3 _
  have e2 : rowOf k c = k :: (c ++ [x]) := by unfold rowOf; rw [← h1]
  rw [e2] at h2 h3
  exact ⟨h2, h3⟩
theorem xor128 {k e : Nat} (h : k < 128) (he : e < 128) : (128 + k) ^^^ e = 128 + (k ^^^ e) := by
  have t : ((List.range 128).all fun k => (List.range 128).all fun e => (128 + k) ^^^ e == 128 + (k ^^^ e)) = true := by decide +kernel
  exact eq_of_beq (List.all_eq_true.mp (List.all_eq_true.mp t k (List.mem_range.mpr h)) e (List.mem_range.mpr he))
/-- a change in the row -/
theorem hurt_row {row : List Nat} {y z i e : Nat} (hr : ∀ x ∈ row, x < 128) (he : e < 128) (hi : i < row.length) : hurtL (enc row y z) i e = enc (hurtL row i e) y z := by
  obtain ⟨k, r, rfl⟩ : ∃ k r, row = k :: r := by
    cases row with
    | nil => simp at hi
    | cons k r => exact ⟨k, r, rfl⟩
  have hk := hr k List.mem_cons_self
  cases i with
  | zero =>
    show ((128 + k) ^^^ e) :: (r ++ [y, z]) = (128 + (k ^^^ e)) :: (r ++ [y, z])
    rw [xor128 hk he]
  | succ i =>
    have hi2 : i < r.length := by simpa using hi
    show (128 + k) :: (r ++ [y, z]).set i ((r ++ [y, z]).getD i 0 ^^^ e) = (128 + k) :: (r.set i (r.getD i 0 ^^^ e) ++ [y, z])
    rw [List.set_append_left _ _ hi2]
    congr 4
    simp [List.getElem?_append_left hi2]
theorem hurt_y {row : List Nat} {y z e : Nat} (hl : 1 ≤ row.length) : hurtL (enc row y z) row.length e = enc row (y ^^^ e) z := by
  obtain ⟨k, r, rfl⟩ : ∃ k r, row = k :: r := by
    cases row with
    | nil => simp at hl
    | cons k r => exact ⟨k, r, rfl⟩
  show (128 + k) :: (r ++ [y, z]).set r.length ((r ++ [y, z]).getD r.length 0 ^^^ e) = (128 + k) :: (r ++ [y ^^^ e, z])
  rw [List.set_append_right _ _ (Nat.le_refl _)]
  simp
theorem hurt_z {row : List Nat} {y z e : Nat} (hl : 1 ≤ row.length) : hurtL (enc row y z) (row.length + 1) e = enc row y (z ^^^ e) := by
  obtain ⟨k, r, rfl⟩ : ∃ k r, row = k :: r := by
    cases row with
    | nil => simp at hl
    | cons k r => exact ⟨k, r, rfl⟩
  show (128 + k) :: (r ++ [y, z]).set (r.length + 1) ((r ++ [y, z]).getD (r.length + 1) 0 ^^^ e) = (128 + k) :: (r ++ [y, z ^^^ e])
  rw [List.set_append_right _ _ (by omega)]
  simp [List.getElem?_append_right]
theorem one_hurt {k : Nat} {c : List Nat} {i e : Nat} (hk : k < 128) (hc : ∀ x ∈ c, x < 128) (he0 : 0 < e) (he : e < 128) (hi : i + 1 < (chk k c).length) : soundN (hurtL (chk k c) i e) = false := by
  have hr := row_lt hk hc
  have hl := row_len k c
  rw [chk_len] at hi
  rw [chk_enc]
  generalize rowOf k c = row at *
  rw [Bool.eq_false_iff]
  intro h
  by_cases h1 : i < row.length
  · rw [hurt_row hr he h1] at h
    obtain ⟨a, _⟩ := sound_enc (hurt_lt hr he) (by rw [hurt_len]; omega) h
    have b := hurt_xor row 0 i e h1
    have := xor_none (a := xorOf row) (b.symm.trans a.symm)
    omega
  · have : i = row.length := by omega
    subst this
    rw [hurt_y (by omega)] at h
    obtain ⟨a, _⟩ := sound_enc hr (by omega) h
    have := xor_none a
    omega
theorem two_hurt {k : Nat} {c : List Nat} {i j e f : Nat} (hk : k < 128) (hc : ∀ x ∈ c, x < 128) (he0 : 0 < e) (he : e < 128) (hf0 : 0 < f) (hf : f < 128) (hij : i < j) (hj : j < (chk k c).length) (h130 : (chk k c).length < 130) :
    soundN (hurtL (hurtL (chk k c) i e) j f) = false := by
  have hr := row_lt hk hc
  have hl := row_len k c
  rw [chk_len] at hj h130
  rw [chk_enc]
  generalize rowOf k c = row at *
  have hr2 := hurt_lt (i := i) hr he
  have hl2 := hurt_len row i e
  rw [Bool.eq_false_iff]
  intro h
  have itz : ∀ m, m < 127 → it m e ≠ 0 := fun m hm z => by have := it_pos he0 he hm; omega
  by_cases h1 : j < row.length
  · rw [hurt_row hr he (by omega), hurt_row hr2 hf (by omega)] at h
    obtain ⟨a, b⟩ := sound_enc (hurt_lt hr2 hf) (by rw [hurt_len, hl2]; omega) h
    have a2 : xorOf (hurtL (hurtL row i e) j f) = xorOf row ^^^ e ^^^ f := (hurt_xor (hurtL row i e) 0 j f (by omega)).trans (by rw [hurt_xor row 0 i e (by omega)]; rfl)
    have b2 : turnOf (hurtL (hurtL row i e) j f) = turnOf row ^^^ it (row.length - 1 - i) e ^^^ it (row.length - 1 - j) f := by
      have b3 := hurt_turn (hurtL row i e) 0 j f hr2 (by decide) hf (by omega)
      rw [hurt_turn row 0 i e hr (by decide) he (by omega), hl2] at b3
      exact b3
    rw [a2, Nat.xor_assoc] at a
    rw [b2, Nat.xor_assoc] at b
    have a3 : e = f := xor_move (a := e) (by rw [xor_none a.symm, Nat.xor_self])
    subst a3
    have b4 : it (row.length - 1 - i) e = it (row.length - 1 - j) e := xor_move (a := it (row.length - 1 - j) e) (by rw [Nat.xor_comm, xor_none b.symm, Nat.xor_self])
    exact it_apart he0 he (i := row.length - 1 - i) (j := row.length - 1 - j) (by omega) (by omega) b4
  · by_cases h2 : j = row.length
    · subst h2
      rw [hurt_row hr he (by omega)] at h
      have h3 := hurt_y (row := hurtL row i e) (y := xorOf row) (z := turnOf row) (e := f) (by omega)
      rw [hl2] at h3
      rw [h3] at h
      obtain ⟨a, b⟩ := sound_enc hr2 (by omega) h
      have b2 : turnOf (hurtL row i e) = turnOf row ^^^ it (row.length - 1 - i) e := hurt_turn row 0 i e hr (by decide) he (by omega)
      rw [b2] at b
      exact itz _ (by omega) (xor_none b.symm)
    · have h2 : j = row.length + 1 := by omega
      subst h2
      by_cases h4 : i < row.length
      · rw [hurt_row hr he (by omega)] at h
        have h3 := hurt_z (row := hurtL row i e) (y := xorOf row) (z := turnOf row) (e := f) (by omega)
        rw [hl2] at h3
        rw [h3] at h
        obtain ⟨a, b⟩ := sound_enc hr2 (by omega) h
        have a2 : xorOf (hurtL row i e) = xorOf row ^^^ e := hurt_xor row 0 i e h4
        rw [a2] at a
        have := xor_none a.symm
        omega
      · have h4 : i = row.length := by omega
        subst h4
        rw [hurt_y (by omega), hurt_z (by omega)] at h
        obtain ⟨a, b⟩ := sound_enc hr (by omega) h
        have := xor_none a
        omega
theorem chk_sound {k : Nat} {c : List Nat} (hk : k < 5) (hc : ∀ x ∈ c, x < 128) : soundN (chk k c) = true := by
  have hr := row_lt (k := k) (c := c) (by omega) hc
  have q1 : xorOf (rowOf k c) < 128 := xor_lt _ _ hr (by decide)
  have q2 : turnOf (rowOf k c) < 128 := turn_lt _ _ hr (by decide)
  unfold soundN
  have l1 : (chk k c).length = c.length + 4 := chk_len k c
  have p : isPieceN (chk k c) = true := by
    unfold chk isPieceN
    simp only [Bool.and_eq_true, decide_eq_true_eq]
    refine ⟨by omega, ?_⟩
    rw [List.filter_cons, if_pos (decide_eq_true (by omega)), List.length_cons, List.filter_eq_nil_iff.mpr]
    · rfl
    · intro x hx
      rw [decide_eq_true_eq]
      rcases List.mem_append.mp hx with h | h
      · have := hc x h
        omega
      · simp only [clo, List.mem_cons, List.not_mem_nil, or_false] at h
        rcases h with h | h | h <;> omega
  rw [p, l1, decide_eq_true (by omega)]
  unfold chk
  rw [show c.length + 4 - 3 = c.length + 1 by omega, List.drop_succ_cons, List.drop_left, List.drop_succ_cons, List.drop_zero, show c.length + 4 - 4 = c.length by omega, List.take_left]
  rw [show ((128 + k) :: (c ++ clo k c)).headD 0 = 128 + k from rfl, decide_eq_true (show 128 + k < 133 by omega), show 128 + k - 128 = k by omega, decide_eq_true rfl]
  rfl

/-! ### the mended one is the only one near -/
theorem good_parts {l : List Nat} (h : Good l) : ∃ k c x y z, l = (128 + k) :: (c ++ [x, y, z]) ∧ k < 128 ∧ (∀ x ∈ c, x < 128) ∧ x < 128 ∧ y < 128 ∧ z < 128 ∧ kOf l = k ∧ cOf l = c := by
  obtain ⟨k, r, rfl, h1, h2, h3⟩ := h
  have e : r = r.take (r.length - 3) ++ r.drop (r.length - 3) := (List.take_append_drop _ _).symm
  have lt : (r.drop (r.length - 3)).length = 3 := by rw [List.length_drop]; omega
  match hd : r.drop (r.length - 3), lt with
  | [x, y, z], _ =>
    rw [hd] at e
    have m : ∀ w ∈ [x, y, z], w < 128 := fun w hw => h2 w (by rw [e]; exact List.mem_append_right _ hw)
    refine ⟨k, r.take (r.length - 3), x, y, z, by rw [← e], h1, fun w hw => h2 w (List.mem_of_mem_take hw), m x (by simp), m y (by simp), m z (by simp), by simp [kOf], ?_⟩
    unfold cOf
    rw [List.drop_succ_cons, List.drop_zero, List.length_cons]
    congr 1
theorem sound_good {l : List Nat} (h : Good l) : soundN l = (decide (kOf l < 5) && decide (l = chk (kOf l) (cOf l))) := by
  obtain ⟨k, c, x, y, z, e, hk, hc, hx, hy, hz, ek, ec⟩ := good_parts h
  rw [ek, ec]
  subst e
  have l1 : ((128 + k) :: (c ++ [x, y, z])).length = c.length + 4 := by simp
  have p : isPieceN ((128 + k) :: (c ++ [x, y, z])) = true := by
    unfold isPieceN
    simp only [Bool.and_eq_true, decide_eq_true_eq]
    refine ⟨by omega, ?_⟩
    rw [List.filter_cons, if_pos (decide_eq_true (by omega)), List.length_cons, List.filter_eq_nil_iff.mpr]
    · rfl
    · intro w hw
      rw [decide_eq_true_eq]
      rcases List.mem_append.mp hw with h | h
      · have := hc w h
        omega
      · simp only [List.mem_cons, List.not_mem_nil, or_false] at h
        rcases h with h | h | h <;> omega
  unfold soundN
  rw [p, l1, decide_eq_true (by omega), show c.length + 4 - 3 = c.length + 1 by omega, List.drop_succ_cons, List.drop_left, List.drop_succ_cons, List.drop_zero, show c.length + 4 - 4 = c.length by omega, List.take_left]
  rw [show ((128 + k) :: (c ++ [x, y, z])).headD 0 = 128 + k from rfl, show 128 + k - 128 = k by omega, Bool.true_and, Bool.true_and]
  rw [decide_eq_decide.mpr (show 128 + k < 133 ↔ k < 5 by omega)]
  congr 1
  refine decide_eq_decide.mpr ⟨fun e => by unfold chk; rw [e], fun e => ?_⟩
  unfold chk at e
  injection e with _ e
  exact List.append_cancel_left e
/-- one place at most is another -/
def Near (l m : List Nat) : Prop := ∃ i v, m = l.set i v
theorem good_sound {m : List Nat} (h : soundN m = true) : ∃ k c, k < 5 ∧ m = chk k c ∧ ∀ x ∈ c, x < 128 := by
  have h0 := h
  unfold soundN at h
  simp only [Bool.and_eq_true, decide_eq_true_eq] at h
  obtain ⟨h4, hp, h5, h6⟩ := h
  obtain ⟨b, r, rfl, hb, hr⟩ := piece_tail hp
  have hg : Good (b :: r) := ⟨b - 128, r, by rw [show 128 + (b - 128) = b by omega], by simp at h5; omega, hr, by simp at h4; omega⟩
  rw [sound_good hg, Bool.and_eq_true, decide_eq_true_eq, decide_eq_true_eq] at h0
  exact ⟨_, _, h0.1, h0.2, hg.parts.2.1⟩
theorem hurt_of {l : List Nat} {i v : Nat} (h : i < l.length) : l.set i v = hurtL l i (l.getD i 0 ^^^ v) := by
  unfold hurtL
  rw [← Nat.xor_assoc, Nat.xor_self, Nat.zero_xor]
theorem chk_good {k : Nat} {c : List Nat} (hk : k < 128) (hc : ∀ x ∈ c, x < 128) : Good (chk k c) := by
  have hr := row_lt hk hc
  have q1 : xorOf (rowOf k c) < 128 := xor_lt _ _ hr (by decide)
  have q2 : turnOf (rowOf k c) < 128 := turn_lt _ _ hr (by decide)
  refine ⟨k, c ++ clo k c, rfl, hk, fun x hx => ?_, by rw [List.length_append]; simp [clo]⟩
  rcases List.mem_append.mp hx with h | h
  · exact hc x h
  · simp only [clo, List.mem_cons, List.not_mem_nil, or_false] at h
    rcases h with h | h | h <;> omega
/-- two places of two good lists differ by what is below 128 -/
theorem diff_lt {l m : List Nat} (hl : Good l) (hm : Good m) (i : Nat) : l.getD i 0 ^^^ m.getD i 0 < 128 := by
  cases i with
  | zero =>
    obtain ⟨k, r, rfl, h1, _, _⟩ := hl
    obtain ⟨j, t, rfl, h3, _, _⟩ := hm
    show (128 + k) ^^^ (128 + j) < 128
    have e1 : 128 + k = 128 ^^^ k := by have := xor128 (k := 0) (e := k) (by decide) h1; simpa using this.symm
    have e2 : 128 + j = 128 ^^^ j := by have := xor128 (k := 0) (e := j) (by decide) h3; simpa using this.symm
    rw [e1, e2, xor4, Nat.xor_self, Nat.zero_xor]
    exact xor7 h1 h3
  | succ i => exact xor7 (hl.tail (by omega)) (hm.tail (by omega))
theorem sound_good2 {m : List Nat} (h : soundN m = true) : Good m := by
  obtain ⟨k, c, hk, rfl, hc⟩ := good_sound h
  exact chk_good (by omega) hc
theorem near_set {l : List Nat} {i v : Nat} (hi : i < l.length) : (l.set i v).getD i 0 = v := by
  rw [List.getD_eq_getElem?_getD, List.getElem?_set_self hi]
  rfl
theorem set_self {l : List Nat} {i : Nat} : l.set i (l.getD i 0) = l := by
  by_cases h : i < l.length
  · rw [List.getD_eq_getElem?_getD, List.getElem?_eq_getElem h]
    exact List.set_getElem_self h
  · rw [List.set_eq_of_length_le (by omega)]
theorem last_hurt {k : Nat} {c : List Nat} {e : Nat} (hk : k < 128) (hc : ∀ x ∈ c, x < 128) (he0 : 0 < e) : soundN (hurtL (chk k c) (c.length + 3) e) = false := by
  have hr := row_lt hk hc
  have hl := row_len k c
  rw [chk_enc, Bool.eq_false_iff]
  intro h
  have h3 := hurt_z (row := rowOf k c) (y := xorOf (rowOf k c)) (z := turnOf (rowOf k c)) (e := e) (by omega)
  rw [hl] at h3
  rw [h3] at h
  obtain ⟨a, b⟩ := sound_enc hr (by omega) h
  have := xor_none b
  omega
theorem xor_zero_eq {a b : Nat} (h : a ^^^ b = 0) : b = a := xor_move (a := a) (b := b) (c := a) (by rw [h, Nat.xor_self])
theorem set_one {m : List Nat} {i v : Nat} (h1 : soundN m = true) (h2 : soundN (m.set i v) = true) : m.set i v = m := by
  by_cases hi : i < m.length
  rotate_left
  · exact List.set_eq_of_length_le (by omega)
  have g1 := sound_good2 h1
  have g2 := sound_good2 h2
  have d := diff_lt g1 g2 i
  rw [near_set hi] at d
  by_cases ev : m.getD i 0 ^^^ v = 0
  · have e2 : v = m.getD i 0 := xor_zero_eq ev
    rw [e2]
    exact set_self
  exfalso
  rw [hurt_of hi] at h2
  obtain ⟨k, c, hk, rfl, hc⟩ := good_sound h1
  have hl := chk_len k c
  by_cases z : i + 1 < (chk k c).length
  · rw [one_hurt (by omega) hc (by omega) d z] at h2
    cases h2
  · have : i = c.length + 3 := by omega
    subst this
    rw [last_hurt (by omega) hc (by omega)] at h2
    cases h2
theorem getD_set_ne {l : List Nat} {i j v : Nat} (h : i ≠ j) : (l.set i v).getD j 0 = l.getD j 0 := by
  rw [List.getD_eq_getElem?_getD, List.getD_eq_getElem?_getD, List.getElem?_set_ne h]
theorem set_two {m : List Nat} {i j v w : Nat} (h130 : m.length < 130) (hij : i < j) (hi : i < m.length) (hj : j < m.length) (gl : Good (m.set i v)) (h1 : soundN m = true) (h2 : soundN ((m.set i v).set j w) = true) : (m.set i v).set j w = m := by
  have g1 := sound_good2 h1
  have g2 := sound_good2 h2
  have d := diff_lt g1 gl i
  have d2 := diff_lt gl g2 j
  rw [near_set hi] at d
  rw [near_set (by rw [List.length_set]; exact hj)] at d2
  by_cases ev : m.getD i 0 ^^^ v = 0
  · have e2 : v = m.getD i 0 := xor_zero_eq ev
    rw [e2, set_self] at h2 ⊢
    exact set_one h1 h2
  by_cases ew : (m.set i v).getD j 0 ^^^ w = 0
  · have e2 : w = (m.set i v).getD j 0 := xor_zero_eq ew
    rw [e2, set_self] at h2 ⊢
    exact set_one h1 h2
  exfalso
  rw [hurt_of (l := m.set i v) (by rw [List.length_set]; exact hj), hurt_of (l := m) hi] at h2
  rw [hurt_of (l := m) hi] at d2 ew
  obtain ⟨k, c, hk, rfl, hc⟩ := good_sound h1
  rw [two_hurt (by omega) hc (by omega) d (by omega) d2 hij hj h130] at h2
  cases h2
/-- only one sound list is near -/
theorem near_one {l m n : List Nat} (hg : Good l) (h130 : l.length < 130) (h1 : soundN m = true) (h2 : soundN n = true) (n1 : Near l m) (n2 : Near l n) : n = m := by
  obtain ⟨i, v, rfl⟩ := n1
  obtain ⟨j, w, rfl⟩ := n2
  by_cases hi : i < l.length
  rotate_left
  · rw [List.set_eq_of_length_le (l := l) (i := i) (by omega)] at h1 ⊢
    exact set_one h1 h2
  by_cases hj : j < l.length
  rotate_left
  · rw [List.set_eq_of_length_le (l := l) (i := j) (by omega)] at h2 ⊢
    exact (set_one h2 h1).symm
  have el : (l.set i v).set i (l.getD i 0) = l := by rw [List.set_set, set_self]
  have el2 : (l.set j w).set j (l.getD j 0) = l := by rw [List.set_set, set_self]
  rcases Nat.lt_trichotomy i j with h | h | h
  · have := set_two (m := l.set i v) (i := i) (j := j) (v := l.getD i 0) (w := w) (by rw [List.length_set]; exact h130) h (by rw [List.length_set]; exact hi) (by rw [List.length_set]; exact hj) (by rw [el]; exact hg) h1 (by rw [el]; exact h2)
    rw [el] at this
    exact this
  · subst h
    have e : l.set i w = (l.set i v).set i w := by rw [List.set_set]
    rw [e] at h2 ⊢
    exact set_one h1 h2
  · have := set_two (m := l.set j w) (i := j) (j := i) (v := l.getD j 0) (w := v) (by rw [List.length_set]; exact h130) h (by rw [List.length_set]; exact hj) (by rw [List.length_set]; exact hi) (by rw [el2]; exact hg) h2 (by rw [el2]; exact h1)
    rw [el2] at this
    exact this.symm
theorem hurt_back {m : List Nat} {i e : Nat} (hi : i < m.length) : (hurtL m i e).set i ((hurtL m i e).getD i 0 ^^^ e) = m := by
  have e1 : (hurtL m i e).getD i 0 = m.getD i 0 ^^^ e := near_set hi
  rw [e1, Nat.xor_assoc, Nat.xor_self, Nat.xor_zero]
  unfold hurtL
  rw [List.set_set, set_self]
theorem mem_marks {k : Nat} {c : List Nat} {u : Nat} (hk : k < 5) : chk k c ∈ marksL ((chk k c).set 0 u) 5 :=
  List.mem_map.mpr ⟨k, List.mem_range.mpr hk, by rw [List.set_set]; rfl⟩
theorem hurt_cons {b : Nat} {r : List Nat} {i e : Nat} : hurtL (b :: r) (i + 1) e = b :: hurtL r i e := by
  unfold hurtL
  rw [List.getD_cons_succ, List.set_cons_succ]
theorem hurt_left {a b : List Nat} {i e : Nat} (h : i < a.length) : hurtL (a ++ b) i e = hurtL a i e ++ b := by
  unfold hurtL
  rw [List.set_append_left _ _ h]
  congr 3
  rw [List.getD_eq_getElem?_getD, List.getD_eq_getElem?_getD, List.getElem?_append_left h]
theorem hurt_right {a b : List Nat} {i e : Nat} : hurtL (a ++ b) (a.length + i) e = a ++ hurtL b i e := by
  unfold hurtL
  rw [List.set_append_right _ _ (by omega)]
  congr 1
  rw [List.getD_eq_getElem?_getD, List.getD_eq_getElem?_getD, List.getElem?_append_right (by omega), Nat.add_sub_cancel_left]
theorem cOf_app (b : Nat) (c t : List Nat) (h : t.length = 3) : cOf (b :: (c ++ t)) = c := by
  unfold cOf
  rw [List.drop_succ_cons, List.drop_zero, List.length_cons, List.length_append, h, show c.length + 3 + 1 - 4 = c.length by omega, List.take_left]
theorem kOf_cons (k : Nat) (r : List Nat) : kOf ((128 + k) :: r) = k := by simp [kOf]
theorem clo_len (k : Nat) (c : List Nat) : (clo k c).length = 3 := rfl
theorem mem_clos {k : Nat} {c : List Nat} {j e : Nat} (hj : j < 3) : chk k c ∈ closL (hurtL (chk k c) (c.length + 1 + j) e) 3 := by
  have e1 : hurtL (chk k c) (c.length + 1 + j) e = (128 + k) :: (c ++ hurtL (clo k c) j e) := by
    unfold chk
    rw [show c.length + 1 + j = c.length + j + 1 by omega, hurt_cons, hurt_right]
  have l3 : (hurtL (clo k c) j e).length = 3 := by rw [hurt_len, clo_len]
  have ek : kOf (hurtL (chk k c) (c.length + 1 + j) e) = k := by rw [e1, kOf_cons]
  have ec : cOf (hurtL (chk k c) (c.length + 1 + j) e) = c := by rw [e1, cOf_app _ _ _ l3]
  have el : (hurtL (chk k c) (c.length + 1 + j) e).length - 3 + j = c.length + 1 + j := by rw [hurt_len, chk_len]; omega
  refine List.mem_map.mpr ⟨j, List.mem_range.mpr hj, ?_⟩
  rw [ek, ec, el]
  unfold hurtL
  rw [List.set_set]
  have : (clo k c).getD j 0 = (chk k c).getD (c.length + 1 + j) 0 := by
    unfold chk
    rw [show c.length + 1 + j = c.length + j + 1 by omega, List.getD_cons_succ, List.getD_eq_getElem?_getD, List.getD_eq_getElem?_getD, List.getElem?_append_right (by omega), Nat.add_sub_cancel_left]
  rw [this, set_self]
theorem mem_cont {k : Nat} {c : List Nat} {i e : Nat} (hk : k < 128) (hc : ∀ x ∈ c, x < 128) (he0 : 0 < e) (he : e < 128) (hi : i < c.length) : chk k c ∈ contL (hurtL (chk k c) (i + 1) e) ((hurtL (chk k c) (i + 1) e).length - 4) := by
  have hr := row_lt hk hc
  have e1 : hurtL (chk k c) (i + 1) e = (128 + k) :: (hurtL c i e ++ clo k c) := by
    unfold chk
    rw [hurt_cons, hurt_left hi]
  have ek : kOf (hurtL (chk k c) (i + 1) e) = k := by rw [e1, kOf_cons]
  have ec : cOf (hurtL (chk k c) (i + 1) e) = hurtL c i e := by rw [e1, cOf_app _ _ _ (clo_len _ _)]
  have el : (hurtL (chk k c) (i + 1) e).length = c.length + 4 := by rw [hurt_len, chk_len]
  have er : rowOf k (hurtL c i e) = hurtL (rowOf k c) (i + 1) e := by
    unfold rowOf
    rw [hurt_cons, hurt_left hi, hurt_len]
  have hrl := row_len k c
  have ly : (hurtL (chk k c) (i + 1) e).getD (c.length + 2) 0 = xorOf (rowOf k c) := by
    rw [e1, show c.length + 2 = c.length + 1 + 1 by omega, List.getD_cons_succ, List.getD_eq_getElem?_getD, List.getElem?_append_right (by rw [hurt_len]; omega), hurt_len, show c.length + 1 - c.length = 1 by omega]
    rfl
  have lz : (hurtL (chk k c) (i + 1) e).getD (c.length + 3) 0 = turnOf (rowOf k c) := by
    rw [e1, show c.length + 3 = c.length + 2 + 1 by omega, List.getD_cons_succ, List.getD_eq_getElem?_getD, List.getElem?_append_right (by rw [hurt_len]; omega), hurt_len, show c.length + 2 - c.length = 2 by omega]
    rfl
  have hx : xorOf (hurtL (rowOf k c) (i + 1) e) = xorOf (rowOf k c) ^^^ e := hurt_xor _ 0 _ e (by omega)
  have ht : turnOf (hurtL (rowOf k c) (i + 1) e) = turnOf (rowOf k c) ^^^ it ((rowOf k c).length - 1 - (i + 1)) e := hurt_turn _ 0 _ e hr (by decide) he (by omega)
  have eg : chg (hurtL (chk k c) (i + 1) e) = e := by
    unfold chg
    rw [ek, ec, er, hx, el, show c.length + 4 - 2 = c.length + 2 by omega, ly, Nat.xor_comm, ← Nat.xor_assoc, Nat.xor_self, Nat.zero_xor]
  have et : trn (hurtL (chk k c) (i + 1) e) = it (c.length - i) e := by
    unfold trn
    rw [ek, ec, er, ht, el, show c.length + 4 - 1 = c.length + 3 by omega, lz, Nat.xor_comm, ← Nat.xor_assoc, Nat.xor_self, Nat.zero_xor, hrl, show c.length + 2 - 1 - (i + 1) = c.length - i by omega]
  refine List.mem_map.mpr ⟨c.length - 1 - i, List.mem_filter.mpr ⟨List.mem_range.mpr (by omega), ?_⟩, ?_⟩
  · unfold conOk
    rw [eg, et, show c.length - 1 - i + 1 = c.length - i by omega, decide_eq_true rfl, decide_eq_true he0]
    rfl
  · unfold conF
    rw [eg, el, show c.length + 4 - 4 - (c.length - 1 - i) = i + 1 by omega]
    exact hurt_back (by rw [chk_len]; omega)
/-- what is sound and near is found -/
theorem mem_near {l m : List Nat} (hg : Good l) (h1 : soundN m = true) (hn : Near l m) : m = l ∨ m ∈ cands l := by
  obtain ⟨i, v, e⟩ := hn
  by_cases hi : i < l.length
  rotate_left
  · rw [List.set_eq_of_length_le (by omega)] at e
    exact .inl e
  have g2 := sound_good2 h1
  have d := diff_lt g2 hg i
  have el : l = hurtL m i (m.getD i 0 ^^^ l.getD i 0) := by
    rw [← hurt_of (by rw [e, List.length_set]; exact hi), e, List.set_set, set_self]
  generalize m.getD i 0 ^^^ l.getD i 0 = x at d el
  have hml : i < m.length := by rw [e, List.length_set]; exact hi
  obtain ⟨k, c, hk, rfl, hc⟩ := good_sound h1
  by_cases hx : x = 0
  · left
    rw [el, hx]
    unfold hurtL
    rw [Nat.xor_zero, set_self]
  right
  rw [chk_len] at hml
  rw [el]
  unfold cands
  rw [List.mem_append]
  cases i with
  | zero => exact .inl (mem_marks hk)
  | succ i =>
    have ek : kOf (hurtL (chk k c) (i + 1) x) = k := by
      unfold chk
      rw [hurt_cons, kOf_cons]
    rw [ek, if_pos hk, List.mem_append]
    right
    by_cases hc1 : i < c.length
    · exact .inr (mem_cont (by omega) hc (by omega) d hc1)
    · left
      obtain ⟨j, hj⟩ : ∃ j, i + 1 = c.length + 1 + j := ⟨i - c.length, by omega⟩
      rw [hj]
      exact mem_clos (by omega)
theorem cands_near {l m : List Nat} (h : m ∈ cands l) : Near l m := by
  unfold cands at h
  rcases List.mem_append.mp h with h | h
  · obtain ⟨i, _, rfl⟩ := List.mem_map.mp h
    exact ⟨_, _, rfl⟩
  · split at h
    · rcases List.mem_append.mp h with h | h
      · obtain ⟨i, _, rfl⟩ := List.mem_map.mp h
        exact ⟨_, _, rfl⟩
      · obtain ⟨i, _, rfl⟩ := List.mem_map.mp h
        exact ⟨_, _, rfl⟩
    · simp at h
theorem mend_ok {l m : List Nat} (h : mendN l = some m) : soundN m = true ∧ Near l m := by
  unfold mendN at h
  split at h
  · cases h
    rename_i z
    exact ⟨z, 0, l.getD 0 0, set_self.symm⟩
  · exact ⟨List.find?_some h, cands_near (List.mem_of_find?_eq_some h)⟩
theorem mend_of {l m : List Nat} (hg : Good l) (h130 : l.length < 130) (h1 : soundN m = true) (hn : Near l m) : mendN l = some m := by
  cases h : mendN l with
  | some n =>
    obtain ⟨a, b⟩ := mend_ok h
    rw [near_one hg h130 h1 a hn b]
  | none =>
    exfalso
    unfold mendN at h
    split at h
    · cases h
    · rename_i z
      rcases mem_near hg h1 hn with e | e
      · subst e
        exact z h1
      · exact (List.find?_eq_none.mp h m e) h1
/-! ### the law's search -/
def totL (l : List Nat) : Nat := ((l.drop 1).take (l.length - 2)).foldl xorF (kOf l)
def othersL (l : List Nat) (i : Nat) : List Nat := if i = 0 then [128, 129, 130, 131, 132] else if i = l.length - 1 then [turnOf (rowOf (kOf l) (cOf l))] else if 0 < totL l then [l.getD i 0 ^^^ totL l] else []
def nearT (l : List Nat) (n : Nat) : List (List Nat) := ((List.range n).flatMap fun i => (othersL l i).map fun v => l.set i v).filter soundN
def nearL (l : List Nat) : List (List Nat) := if soundN l = true then [l] else nearT l l.length
theorem nearT_ok {l m : List Nat} {n : Nat} (h : m ∈ nearT l n) : soundN m = true ∧ Near l m := by
  obtain ⟨h1, h2⟩ := List.mem_filter.mp h
  obtain ⟨i, _, h3⟩ := List.mem_flatMap.mp h1
  obtain ⟨v, _, rfl⟩ := List.mem_map.mp h3
  exact ⟨h2, _, _, rfl⟩
theorem tot_hurt {k : Nat} {c : List Nat} {i x : Nat} (hi : i < c.length + 2) : totL (hurtL (chk k c) (i + 1) x) = x := by
  have eb : chk k c = (128 + k) :: ((c ++ [c.length % 128, xorOf (rowOf k c)]) ++ [turnOf (rowOf k c)]) := by simp [chk, clo]
  have lb : (c ++ [c.length % 128, xorOf (rowOf k c)]).length = c.length + 2 := by simp
  have e1 : hurtL (chk k c) (i + 1) x = (128 + k) :: (hurtL (c ++ [c.length % 128, xorOf (rowOf k c)]) i x ++ [turnOf (rowOf k c)]) := by
    rw [eb, hurt_cons, hurt_left (by omega)]
  unfold totL
  rw [e1, kOf_cons, List.drop_succ_cons, List.drop_zero, List.length_cons, List.length_append, hurt_len, lb, show c.length + 2 + [turnOf (rowOf k c)].length + 1 - 2 = (hurtL (c ++ [c.length % 128, xorOf (rowOf k c)]) i x).length by rw [hurt_len, lb]; simp, List.take_left, hurt_xor _ _ _ _ (by omega)]
  have e2 : (c ++ [c.length % 128, xorOf (rowOf k c)]).foldl xorF k = 0 := by
    rw [show c ++ [c.length % 128, xorOf (rowOf k c)] = (c ++ [c.length % 128]) ++ [xorOf (rowOf k c)] by simp, List.foldl_append]
    have e3 : (c ++ [c.length % 128]).foldl xorF k = xorOf (rowOf k c) := by
      show _ = (c ++ [c.length % 128]).foldl xorF (0 ^^^ k)
      rw [Nat.zero_xor]
    rw [e3]
    show xorOf (rowOf k c) ^^^ xorOf (rowOf k c) = 0
    exact Nat.xor_self _
  rw [e2, Nat.zero_xor]
theorem nearT_all {l m : List Nat} (hg : Good l) (h1 : soundN m = true) (hn : Near l m) (hne : m ≠ l) : m ∈ nearT l l.length := by
  obtain ⟨i, v, e⟩ := hn
  by_cases hi : i < l.length
  rotate_left
  · rw [List.set_eq_of_length_le (by omega)] at e
    exact absurd e hne
  have g2 := sound_good2 h1
  have d := diff_lt g2 hg i
  have el : l = hurtL m i (m.getD i 0 ^^^ l.getD i 0) := by
    rw [← hurt_of (by rw [e, List.length_set]; exact hi), e, List.set_set, set_self]
  generalize m.getD i 0 ^^^ l.getD i 0 = x at d el
  have hml : i < m.length := by rw [e, List.length_set]; exact hi
  have em : l.set i (m.getD i 0) = m := by
    rw [el]
    unfold hurtL
    rw [List.set_set, set_self]
  obtain ⟨k, c, hk, rfl, hc⟩ := good_sound h1
  have hll : l.length = c.length + 4 := by rw [el, hurt_len, chk_len]
  have hx : x ≠ 0 := fun hx => by
    rw [hx] at el
    unfold hurtL at el
    rw [Nat.xor_zero, set_self] at el
    exact hne el.symm
  refine List.mem_filter.mpr ⟨List.mem_flatMap.mpr ⟨i, List.mem_range.mpr hi, List.mem_map.mpr ⟨(chk k c).getD i 0, ?_, em⟩⟩, h1⟩
  unfold othersL
  cases i with
  | zero =>
    rw [if_pos rfl]
    have : (chk k c).getD 0 0 = 128 + k := rfl
    rw [this]
    simp only [List.mem_cons, List.not_mem_nil, or_false]
    omega
  | succ i =>
    rw [if_neg (by omega)]
    by_cases hz : i + 1 = l.length - 1
    · rw [if_pos hz]
      have e1 : l = (128 + k) :: (c ++ hurtL (clo k c) 2 x) := by
        rw [el]
        unfold chk
        rw [show i + 1 = c.length + 2 + 1 by omega, hurt_cons, hurt_right]
      rw [e1, kOf_cons, cOf_app _ _ _ (by rw [hurt_len, clo_len])]
      have : (chk k c).getD (i + 1) 0 = turnOf (rowOf k c) := by
        unfold chk
        rw [show i + 1 = c.length + 2 + 1 by omega, List.getD_cons_succ, List.getD_eq_getElem?_getD, List.getElem?_append_right (by omega), Nat.add_sub_cancel_left]
        rfl
      rw [this]
      exact List.mem_singleton.mpr rfl
    · rw [if_neg hz]
      have et : totL l = x := by rw [el]; exact tot_hurt (by omega)
      rw [et, if_pos (by omega)]
      have : l.getD (i + 1) 0 = (chk k c).getD (i + 1) 0 ^^^ x := by
        rw [el]
        exact near_set (by rw [chk_len]; omega)
      rw [this, Nat.xor_assoc, Nat.xor_self, Nat.xor_zero]
      exact List.mem_singleton.mpr rfl
theorem near_head {l : List Nat} (hg : Good l) (h130 : l.length < 130) : mendN l = (nearL l).head? := by
  by_cases hs : soundN l = true
  · unfold mendN nearL
    rw [if_pos hs, if_pos hs]
    rfl
  · have e : nearL l = nearT l l.length := if_neg hs
    rw [e]
    cases h : (nearT l l.length) with
    | cons m r =>
      obtain ⟨a, b⟩ := nearT_ok (l := l) (m := m) (n := l.length) (by rw [h]; exact List.mem_cons_self)
      exact mend_of hg h130 a b
    | nil =>
      cases hm : mendN l with
      | none => rfl
      | some m =>
        obtain ⟨a, b⟩ := mend_ok hm
        have := nearT_all hg a b (fun z => hs (z ▸ a))
        rw [h] at this
        simp at this
theorem mend_one {k : Nat} {c : List Nat} {i e : Nat} (hk : k < 5) (hc : ∀ x ∈ c, x < 128) (he : e < 128) (hl : c.length + 4 < 130) : mendN (hurtL (chk k c) i e) = some (chk k c) ∨ ¬ Good (hurtL (chk k c) i e) := by
  by_cases hg : Good (hurtL (chk k c) i e)
  · left
    refine mend_of hg (by rw [hurt_len, chk_len]; exact hl) (chk_sound hk hc) ⟨i, (chk k c).getD i 0, ?_⟩
    unfold hurtL
    rw [List.set_set, set_self]
  · exact .inr hg
theorem hurt_good {l : List Nat} {i e : Nat} (hg : Good l) (he : e < 128) : Good (hurtL l i e) := by
  obtain ⟨k, r, rfl, h1, h2, h3⟩ := hg
  cases i with
  | zero =>
    refine ⟨k ^^^ e, r, ?_, xor7 h1 he, h2, h3⟩
    show ((128 + k) ^^^ e) :: r = _
    rw [xor128 h1 he]
  | succ i => exact ⟨k, hurtL r i e, hurt_cons, h1, hurt_lt h2 he, by rw [hurt_len]; exact h3⟩
/-! ### the law's own defs -/
def sp_law_size (K : PySem.W.Frag) : Sp := sp1 fun x H Q _ => ∃ (a : Addr), x = .ref a ∧ Dr H a ∧ ∀ (s : Nat) H', Dw a H H' → s < 126 → Q (.int s) H'
theorem ap_size {K : PySem.W.Frag} {H : Hp} {Q : VK} {E : XK} {a : Addr} (h1 : Dr H a) (q : ∀ (s : Nat) H', Dw a H H' → s < 126 → Q (.int s) H') : sp_law_size K [.ref a] H Q E := ⟨_, rfl, a, rfl, h1, q⟩
theorem ok_law_size (hd : Hd K mg) {fd : FuncData} (F : FunD K d_law_size.name d_law_size.qual d_law_size.params d_law_size.body d_law_size.scope (d_law_size.dvs K) (d_law_size.kws K) (He.fAd K d_law_size.at_) fd) : FnOk P w K mg base CX0 3 (He.fAd K d_law_size.at_) fd ["drawer"] (sp_law_size K) := by
  refine FunD.ok F sc_law_size (fun vs H Q E h => ?_) (fun cdv A outer s H vs Q E hr h => ?_)
  · obtain ⟨v0, rfl, _⟩ := h
    rfl
  obtain ⟨v0, rfl, h⟩ := h
  rw [show start N_law_size [v0] = _ from st_law_size v0]
  refine ⟨_, PSs.nox ((pss_cons (ps_set (i := 1) sc_law_size.nd rfl (Or.inl rfl) (pe_cal (sp := sp_law_draw K) (cal_law_draw hd) (hr.mono (by decide)) rfl pass0 (pa_cons (pv 0) (pa_cons pe_int pa_nil))))
      (pss_cons (ps_if (pt_cmpR (op_eqG (hu64 hr)) (pe_cal (sp := sp_law_draw K) (cal_law_draw hd) (hr.mono (by decide)) rfl pass0 (pa_cons (pv 0) (pa_cons pe_int pa_nil))) pe_int (nomark _)) (pss_one (ps_set (i := 1) sc_law_size.nd rfl (Or.inl rfl) (pe_cal (sp := sp_law_draw K) (cal_law_draw hd) (hr.mono (by decide)) rfl pass0 (pa_cons (pv 0) (pa_cons pe_int pa_nil))))) pss_nil)
      (pss_one (ps_ret (pv 1)))))), ?_⟩
  obtain ⟨a, rfl, hD, q⟩ := h
  walk_at "en"
  walk_at "s"
  refine ap_draw hD (dv_small (by omega) (by omega)) fun s1 H1 h10 h11 x1 => ?_
  obtain ⟨s1, rfl⟩ := Int.eq_ofNat_of_zero_le h10
  walk_at "s"
  refine ap_draw x1.dr (dv_small (by omega) (by omega)) fun s2 H2 h20 h21 x2 => ?_
  walk_at "s"
  refine kite_d (fun hw => ?_) fun hw => ?_
  · walk_at "s"
    refine ap_draw x2.dr (dv_small (by omega) (by omega)) fun s3 H3 h30 h31 x3 => ?_
    obtain ⟨s3, rfl⟩ := Int.eq_ofNat_of_zero_le h30
    walk_at "s"
    exact q _ _ (x1.trans (x2.trans x3)) (by omega)
  · walk_at "s"
    exact q _ _ (x1.trans x2) (by omega)
theorem cal_law_size (hd : Hd K mg) : Cal P w K mg base CX0 3 "_law_size" ["drawer"] (sp_law_size K) := by
  obtain ⟨fd, F⟩ := hd.def_ 16
  exact .mk' (hd.glo 26) F.kp (FunD.bindsN F fun _ _ _ _ _ _ us hl => match us, hl with | [_], _ => rfl) (ok_law_size hd F)
def sp_law_replaced (K : PySem.W.Frag) : Sp := sp2 fun x y H Q _ => ∃ (a p : Addr) (k : Nat) (c : List Nat), x = .ref a ∧ y = .ref p ∧ Dr H a ∧ p ≠ a ∧ H p = some (.lst (nv (chk k c))) ∧ k < 128 ∧ (∀ x ∈ c, x < 128) ∧ c.length + 4 < 130 ∧
  ∀ (t g h : Addr) (i j e f : Nat) (H' : Hp), H t = none → H' t = some (.lst [.ref g, .ref h]) → Dw a H H' → g ≠ a → h ≠ a → i < j → j < c.length + 4 → 0 < e → e < 128 → 0 < f → f < 128 → H' g = some (.lst (nv (hurtL (chk k c) i e))) → H' h = some (.lst (nv (hurtL (hurtL (chk k c) i e) j f))) → Q (.ref t) H'
theorem ap_replaced {K : PySem.W.Frag} {H : Hp} {Q : VK} {E : XK} {a p : Addr} {k : Nat} {c : List Nat} (h1 : Dr H a) (h2 : p ≠ a) (h3 : H p = some (.lst (nv (chk k c)))) (h4 : k < 128) (h5 : ∀ x ∈ c, x < 128) (h6 : c.length + 4 < 130)
    (q : ∀ (t g h : Addr) (i j e f : Nat) (H' : Hp), H t = none → H' t = some (.lst [.ref g, .ref h]) → Dw a H H' → g ≠ a → h ≠ a → i < j → j < c.length + 4 → 0 < e → e < 128 → 0 < f → f < 128 → H' g = some (.lst (nv (hurtL (chk k c) i e))) → H' h = some (.lst (nv (hurtL (hurtL (chk k c) i e) j f))) → Q (.ref t) H') : sp_law_replaced K [.ref a, .ref p] H Q E := ⟨_, _, rfl, a, p, k, c, rfl, rfl, h1, h2, h3, h4, h5, h6, q⟩
theorem dbl_pos {n : Nat} (h0 : 0 < n) (h : n < 128) : 0 < dbl n := it_pos h0 h (k := 1) (by decide)
theorem ok_law_replaced (hd : Hd K mg) {fd : FuncData} (F : FunD K d_law_replaced.name d_law_replaced.qual d_law_replaced.params d_law_replaced.body d_law_replaced.scope (d_law_replaced.dvs K) (d_law_replaced.kws K) (He.fAd K d_law_replaced.at_) fd) : FnOk P w K mg base CX0 3 (He.fAd K d_law_replaced.at_) fd ["drawer", "chunk"] (sp_law_replaced K) := by
  refine FunD.ok F sc_law_replaced (fun vs H Q E h => ?_) (fun cdv A outer s H vs Q E hr h => ?_)
  · obtain ⟨v0, v1, rfl, _⟩ := h
    rfl
  obtain ⟨v0, v1, rfl, h⟩ := h
  rw [show start N_law_replaced [v0, v1] = _ from st_law_replaced v0 v1]
  refine ⟨_, PSs.nox ((pss_cons (ps_set (i := 2) sc_law_replaced.nd rfl (Or.inl rfl) (pe_cal (sp := sp_law_draw K) (cal_law_draw hd) (hr.mono (by decide)) rfl pass0 (pa_cons (pv 0) (pa_cons (pe_callB g_len (by rfl) (hd.free 0) (by decide +kernel) (pa_cons (pv 1) pa_nil)) pa_nil))))
      (pss_cons (ps_set (i := 3) sc_law_replaced.nd rfl (Or.inl rfl) (pe_op op_mod (pe_callTy g_int (by rfl) (hd.free 2) (by decide +kernel) (pa_cons (pe_op op_addG (pe_op op_addG (pv 2) pe_int) (pe_cal (sp := sp_law_draw K) (cal_law_draw hd) (hr.mono (by decide)) rfl pass0 (pa_cons (pv 0) (pa_cons (pe_op op_sub (pe_callB g_len (by rfl) (hd.free 0) (by decide +kernel) (pa_cons (pv 1) pa_nil)) pe_int) pa_nil)))) pa_nil)) (pe_callB g_len (by rfl) (hd.free 0) (by decide +kernel) (pa_cons (pv 1) pa_nil))))
      (pss_cons (ps_set (i := 4) sc_law_replaced.nd rfl (Or.inl rfl) (pe_callB (g_min rfl) (by rfl) (hd.free 27) (by decide +kernel) (pa_cons (pv 2) (pa_cons (pv 3) pa_nil))))
      (Evl.pss_cut (ps_set (i := 5) sc_law_replaced.nd rfl (Or.inl rfl) (pe_callB (g_max rfl) (by rfl) (hd.free 28) (by decide +kernel) (pa_cons (pv 2) (pa_cons (pv 3) pa_nil))))
      (pss_cons (ps_set (i := 6) sc_law_replaced.nd rfl (Or.inl rfl) (pe_op op_addG pe_int (pe_cal (sp := sp_law_draw K) (cal_law_draw hd) (hr.mono (by decide)) rfl pass0 (pa_cons (pv 0) (pa_cons (pe_cal (sp := sp_law_pick K) (cal_law_pick hd) (hr.mono (by decide)) rfl pass0 (pa_cons (pv 0) (pa_cons (pe_lst (pa_cons pe_int (pa_cons pe_int pa_nil))) pa_nil))) pa_nil)))))
      (pss_cons (ps_set (i := 7) sc_law_replaced.nd rfl (Or.inl rfl) (pe_cal (sp := sp_law_draw K) (cal_law_draw hd) (hr.mono (by decide)) rfl pass0 (pa_cons (pv 0) (pa_cons pe_int pa_nil))))
      (pss_cons (ps_set (i := 8) sc_law_replaced.nd rfl (Or.inl rfl) (pv 6))
      (Evl.pss_cut (ps_if (pt_cmpR (op_eqG (hu64 hr)) (pv 7) pe_int (nomark _)) (pss_one (ps_set (i := 8) sc_law_replaced.nd rfl (Or.inl rfl) (pe_op op_addG pe_int (pe_cal (sp := sp_law_draw K) (cal_law_draw hd) (hr.mono (by decide)) rfl pass0 (pa_cons (pv 0) (pa_cons pe_int pa_nil)))))) pss_nil)
      (Evl.pss_cut (ps_if (pt_cmpR (op_eqG (hu64 hr)) (pv 7) pe_int (nomark _)) (pss_cons (ps_set (i := 9) sc_law_replaced.nd rfl (Or.inl rfl) (pe_op op_sub (pv 5) (pv 4)))
      (pss_cons (ps_if (pt_cmpR (op_eqG (hu64 hr)) (pv 5) (pe_op op_sub (pe_callB g_len (by rfl) (hd.free 0) (by decide +kernel) (pa_cons (pv 1) pa_nil)) pe_int) (nomark _)) (pss_one (ps_set (i := 9) sc_law_replaced.nd rfl (Or.inl rfl) (pe_op op_sub (pv 9) pe_int))) pss_nil)
      (pss_one (ps_for PassesOwn.never rfl (pi_range1 rfl (hd.free 13) (pa_cons (pv 9) pa_nil)) (pg_name (i := 10) sc_law_replaced.nd rfl (Or.inl rfl))
      (pss_one (ps_set (i := 8) sc_law_replaced.nd rfl (Or.inl rfl) (pe_cal (sp := sp_law_double K) (cal_law_double hd) (hr.mono (by decide)) rfl pass0 (pa_cons (pv 8) pa_nil)))))))) pss_nil)
      (pss_cons (ps_set (i := 11) sc_law_replaced.nd rfl (Or.inl rfl) (pe_callTy g_list (by rfl) (hd.free 12) (by decide +kernel) (pa_cons (pv 1) pa_nil)))
      (pss_cons (ps_asg (pe_op op_xor (pe_ix ix_G (pv 11) (pv 4) (fun _ _ => rfl)) (pv 6)) (pg_sub (pv 11) (pv 4) set_list))
      (pss_cons (ps_set (i := 12) sc_law_replaced.nd rfl (Or.inl rfl) (pe_lst (pa_cons (pe_callTy g_list (by rfl) (hd.free 12) (by decide +kernel) (pa_cons (pv 11) pa_nil)) pa_nil)))
      (pss_cons (ps_asg (pe_op op_xor (pe_ix ix_G (pv 11) (pv 5) (fun _ _ => rfl)) (pv 8)) (pg_sub (pv 11) (pv 5) set_list))
      (pss_one (ps_ret (pe_op op_addG (pv 12) (pe_lst (pa_cons (pv 11) pa_nil))))))))))))))))))), ?_⟩
  obtain ⟨a, p, k, c, rfl, rfl, hD, hpa, hp, hk, hc, hl, q⟩ := h
  have hlen := chk_len k c
  have hlen2 : (nv (chk k c)).length = c.length + 4 := by rw [nv_len, hlen]
  walk_at "en"
  walk_at "s"
  refine ap_draw hD (dv_small (by omega) (by omega)) fun o H1 o0 o1 x1 => ?_
  have hp1 := x1.kp _ _ hpa hp
  walk_at "s"
  refine ap_draw x1.dr (dv_small (by omega) (by omega)) fun t H2 t0 t1 x2 => ?_
  have y2 := x1.trans x2
  have hp2 := y2.kp _ _ hpa hp
  walk_at "s"
  have m0 : 0 ≤ (o + 1 + t) % (((nv (chk k c)).length : Nat) : Int) := Int.emod_nonneg _ (by omega)
  have m1 : (o + 1 + t) % (((nv (chk k c)).length : Nat) : Int) < (((nv (chk k c)).length : Nat) : Int) := Int.emod_lt_of_pos _ (by omega)
  have m2 : (o + 1 + t) % (((nv (chk k c)).length : Nat) : Int) ≠ o := by
    rw [hlen2] at o1 t1 ⊢
    by_cases h : o + 1 + t < ((c.length + 4 : Nat) : Int)
    · rw [Int.emod_eq_of_lt (by omega) h]
      omega
    · rw [← Int.sub_emod_right, Int.emod_eq_of_lt (by omega) (by omega)]
      omega
  generalize (o + 1 + t) % (((nv (chk k c)).length : Nat) : Int) = u at *
  have hmm : ∃ i j : Nat, i < j ∧ j < c.length + 4 ∧ (if u < o then u else o) = (i : Int) ∧ (if u > o then u else o) = (j : Int) := by
    by_cases h : u < o
    · exact ⟨u.toNat, o.toNat, by omega, by omega, by rw [if_pos h]; omega, by rw [if_neg (by omega)]; omega⟩
    · exact ⟨o.toNat, u.toNat, by omega, by omega, by rw [if_neg h]; omega, by rw [if_pos (by omega)]; omega⟩
  obtain ⟨i, j, hij, hj, e1, e2⟩ := hmm
  rw [e1]
  refine w_cut (fun σ H' => H2 = H' ∧ σ = [some (.ref a), some (.ref p), some (.int o), some (.int u), some (.int i), some (.int j), none, none, none, none, none, none, none]) ?_ ?_
  · walk_at "s"
    rw [e2]
    exact ⟨rfl, rfl⟩
  rintro σ H' ⟨rfl, rfl⟩
  walk_at "s"
  walk_at "sz"
  intro q1 n1
  walk_at "s"
  have z1 := Dw.new (o := .lst [.int 7, .int 127]) x2.dr n1
  refine ap_pickL z1.dr (x2.dr.ne n1).symm upd_same (by decide) (by decide) fun v H3 hv x3 => ?_
  have hv2 : ∃ m : Int, v = .int m ∧ 0 < m ∧ m ≤ 127 := by
    simp only [List.mem_cons, List.not_mem_nil, or_false] at hv
    rcases hv with h | h
    · exact ⟨7, h, by decide, by decide⟩
    · exact ⟨127, h, by decide, by decide⟩
  obtain ⟨m, rfl, v0, v1⟩ := hv2
  walk_at "s"
  refine ap_draw x3.dr (dv_small (by omega) (by omega)) fun ch H4 ch0 ch1 x4 => ?_
  have y4 := y2.trans (z1.trans (x3.trans x4))
  obtain ⟨e, he, e0, e128⟩ : ∃ e : Nat, 1 + ch = (e : Int) ∧ 0 < e ∧ e < 128 := ⟨(1 + ch).toNat, by omega, by omega, by omega⟩
  walk_at "s"
  rw [he]
  refine ap_draw y4.dr (dv_small (by omega) (by omega)) fun way H5 w0 w1 x5 => ?_
  have y5 := y4.trans x5
  walk_at "s"
  refine w_cut (fun σ H' => Dw a H H' ∧ ∃ f : Nat, 0 < f ∧ f < 128 ∧ σ = [some (.ref a), some (.ref p), some (.int o), some (.int u), some (.int i), some (.int j), some (.int e), some (.int way), some (.int f), none, none, none, none]) ?_ ?_
  · walk_at "s"
    refine kite_d (fun hw => ?_) fun hw => ?_
    · walk_at "s"
      refine ap_draw y5.dr (dv_small (by omega) (by omega)) fun ot H6 ot0 ot1 x6 => ?_
      obtain ⟨f, hf, f0, f128⟩ : ∃ e : Nat, 1 + ot = (e : Int) ∧ 0 < e ∧ e < 128 := ⟨(1 + ot).toNat, by omega, by omega, by omega⟩
      walk_at "s"
      rw [hf]
      exact ⟨y5.trans x6, f, f0, f128, rfl⟩
    · walk_at "s"
      exact ⟨y5, e, e0, e128, rfl⟩
  rintro σ H6 ⟨y6, f, f0, f128, rfl⟩
  have hp6 := y6.kp _ _ hpa hp
  refine w_cut (fun σ H' => H6 = H' ∧ ∃ f : Nat, 0 < f ∧ f < 128 ∧ ∃ o9 o10 : Option V, σ = [some (.ref a), some (.ref p), some (.int o), some (.int u), some (.int i), some (.int j), some (.int e), some (.int way), some (.int f), o9, o10, none, none]) ?_ ?_
  · walk_at "s"
    refine kite_d (fun hw => ?_) fun hw => ?_
    · walk_at "s"
      refine kite_d (fun hz => ?_) fun hz => ?_
      all_goals
        walk_at "s"
        refine w_forR1 (by omega) (by omega) (fun n σ H' => H6 = H' ∧ ∃ f : Nat, 0 < f ∧ f < 128 ∧ ∃ o9 o10 : Option V, σ = [some (.ref a), some (.ref p), some (.int o), some (.int u), some (.int i), some (.int j), some (.int e), some (.int way), some (.int f), o9, o10, none, none]) ⟨rfl, f, f0, f128, _, _, rfl⟩ ?_ ?_
        · rintro n σ H' hn ⟨rfl, f, f0, f128, o9, o10, rfl⟩
          walk_at "s"
          refine ap_law_double f128 ?_
          walk_at "s"
          exact ⟨rfl, dbl f, dbl_pos f0 f128, dbl_lt f128, _, _, rfl⟩
        · rintro σ H' h
          walk_at "s"
          exact h
    · walk_at "s"
      exact ⟨rfl, f, f0, f128, _, _, rfl⟩
  rintro σ H' ⟨rfl, f, f0, f128, o9, o10, rfl⟩
  walk_at "s"
  refine w_list (.inl (SqL.of hp6)) fun h nh => ?_
  have xh := Dw.new (o := .lst (nv (chk k c))) y6.dr nh
  have hah : h ≠ a := (y6.dr.ne nh).symm
  walk_at "s"
  have hi2 : (chk k c)[i]? = some ((chk k c).getD i 0) := by rw [List.getD_eq_getElem?_getD, List.getElem?_eq_getElem (by omega)]; rfl
  refine w_ix (.inl (SqL.of upd_same)) (nv_at hi2) ?_
  walk_at "s"
  rw [bx]
  refine w_setL upd_same (j := i) (by unfold ixN; rw [if_pos (by omega), if_pos (by rw [hlen2]; omega)]; simp) ?_
  have hX : (chk k c).set i ((chk k c).getD i 0 ^^^ e) = hurtL (chk k c) i e := rfl
  rw [nv_set, upd_upd, hX]
  walk_at "s"
  refine w_list (.inl (SqL.of upd_same)) fun g ng => ?_
  walk_at "s"
  walk_at "sz"
  intro L nL
  walk_at "s"
  have lX := hurt_len (chk k c) i e
  have hH := none_dw y6 hD nh
  have d1 := Dw.fresh (o := .lst (nv (hurtL (chk k c) i e))) y6 hH hah.symm
  have d2 := d1.trans (Dw.new (o := .lst (nv (hurtL (chk k c) i e))) d1.dr ng)
  have d3 := d2.trans (Dw.new (o := .lst [.ref g]) d2.dr nL)
  have hag : g ≠ a := (d1.dr.ne ng).symm
  have hgh : h ≠ g := ne_of_none upd_same ng
  have hLh : h ≠ L := ne_of_none (hp_new ng upd_same) nL
  have hLg : g ≠ L := ne_of_none upd_same nL
  generalize hXe : hurtL (chk k c) i e = X at *
  have hj2 : X[j]? = some (X.getD j 0) := by rw [List.getD_eq_getElem?_getD, List.getElem?_eq_getElem (by omega)]; rfl
  refine w_ix (.inl (SqL.of (hp_new nL (hp_new ng upd_same)))) (nv_at hj2) ?_
  walk_at "s"
  rw [bx]
  refine w_setL (hp_new nL (hp_new ng upd_same)) (j := j) (by unfold ixN; rw [if_pos (by omega), if_pos (by rw [nv_len]; omega)]; simp) ?_
  rw [nv_set]
  have hY : X.set j (X.getD j 0 ^^^ f) = hurtL X j f := rfl
  have lY := hurt_len X j f
  rw [hY]
  generalize hYe : hurtL X j f = Y at *
  have d4 := Dw.fresh (o := .lst (nv Y)) d3 hH hah.symm
  have g1 : (upd (upd (upd (upd H6 h (.lst (nv X))) g (.lst (nv X))) L (.lst [.ref g])) h (.lst (nv Y))) g = some (.lst (nv X)) := by rw [upd_ne hgh.symm, upd_ne hLg, upd_same]
  have g2 : (upd (upd (upd (upd H6 h (.lst (nv X))) g (.lst (nv X))) L (.lst [.ref g])) h (.lst (nv Y))) L = some (.lst [.ref g]) := by rw [upd_ne hLh.symm, upd_same]
  have g3 : (upd (upd (upd (upd H6 h (.lst (nv X))) g (.lst (nv X))) L (.lst [.ref g])) h (.lst (nv Y))) h = some (.lst (nv Y)) := upd_same
  revert d4 g1 g2 g3
  generalize upd (upd (upd (upd H6 h (.lst (nv X))) g (.lst (nv X))) L (.lst [.ref g])) h (.lst (nv Y)) = H7
  intro d4 g1 g2 g3
  walk_at "s"
  walk_at "sz"
  intro M nM
  refine w_catL (hp_new nM g2) upd_same (by simp) fun t nt => ?_
  have d5 := d4.trans (Dw.new (o := .lst [.ref h]) d4.dr nM)
  have d6 := d5.trans (Dw.new (o := .lst ([.ref g] ++ [.ref h])) d5.dr nt)
  exact q t g h i j e f _ (none_dw d5 hD nt) upd_same d6 hag hah hij hj e0 e128 f0 f128 (by rw [hXe]; exact hp_new nt (hp_new nM g1)) (by rw [hXe, hYe]; exact hp_new nt (hp_new nM g3))
theorem cal_law_replaced (hd : Hd K mg) : Cal P w K mg base CX0 3 "_law_replaced" ["drawer", "chunk"] (sp_law_replaced K) := by
  obtain ⟨fd, F⟩ := hd.def_ 17
  exact .mk' (hd.glo 29) F.kp (FunD.bindsN F fun _ _ _ _ _ _ us hl => match us, hl with | [_, _], _ => rfl) (ok_law_replaced hd F)
def sp_law_sound (K : PySem.W.Frag) : Sp := sp1 fun x H Q _ => ∃ (p : Addr) (l : List Nat), x = .ref p ∧ SqT K H p (nv l) ∧ Good l ∧ l.length ≤ 1700 ∧ ∀ H', Evl.Ex H H' → Q (.bl (soundN l)) H'
theorem ap_law_sound {K : PySem.W.Frag} {H : Hp} {Q : VK} {E : XK} {p : Addr} {l : List Nat} (h1 : SqT K H p (nv l)) (h2 : Good l) (h3 : l.length ≤ 1700) (q : ∀ H', Evl.Ex H H' → Q (.bl (soundN l)) H') : sp_law_sound K [.ref p] H Q E := ⟨_, rfl, p, l, rfl, h1, h2, h3, q⟩
theorem ok_law_sound (hd : Hd K mg) {fd : FuncData} (F : FunD K d_law_sound.name d_law_sound.qual d_law_sound.params d_law_sound.body d_law_sound.scope (d_law_sound.dvs K) (d_law_sound.kws K) (He.fAd K d_law_sound.at_) fd) : FnOk P w K mg base CX0 3 (He.fAd K d_law_sound.at_) fd ["piece"] (sp_law_sound K) := by
  refine FunD.ok F sc_law_sound (fun vs H Q E h => ?_) (fun cdv A outer s H vs Q E hr h => ?_)
  · obtain ⟨v0, rfl, _⟩ := h
    rfl
  obtain ⟨v0, rfl, h⟩ := h
  rw [show start N_law_sound [v0] = _ from st_law_sound v0]
  refine ⟨_, PSs.nox ((pss_one (ps_ret (pe_and (pe_cmpR op_ltG (pe_ix ix_G (pv 0) pe_int (fun _ _ => rfl)) pe_int (nomark _)) (pe_one (pe_cmpR (op_eqG (hu64 hr)) (pe_callTy g_list (by rfl) (hd.free 12) (by decide +kernel) (pa_cons (pv 0) pa_nil)) (pe_cal (sp := sp_law_chunk K) (cal_law_chunk hd) (hr.mono (by decide)) rfl pass0 (pa_cons (pe_op op_sub (pe_ix ix_G (pv 0) pe_int (fun _ _ => rfl)) pe_int) (pa_cons (pe_slice sl_G (pv 0) (po_some pe_int) (po_some (pe_un un_neg pe_int))) pa_nil))) (nomark _))))))), ?_⟩
  obtain ⟨p, l, rfl, hS, hg, hl, q⟩ := h
  obtain ⟨g1, g2, g3, g4, g5⟩ := hg.parts
  rw [sound_good hg] at q
  walk_at "en"
  walk_at "s"
  refine w_ix (.inr hS) (nv_at (i := 0) g4) ?_
  walk_at "s"
  refine kite_d (fun hk => ?_) fun hk => ?_
  · rw [decide_eq_true (show kOf l < 5 by omega), Bool.true_and] at q
    walk_at "s"
    refine w_list (.inr hS) fun p1 n1 => ?_
    have e1 := Evl.Ex.new (o := .lst (nv l)) n1
    have hp1 : upd H p1 (.lst (nv l)) p1 = some (.lst (nv l)) := upd_same
    have hS1 := Evl.ex_t e1 hS
    walk_at "s"
    refine w_ix (.inr hS1) (nv_at (i := 0) g4) ?_
    walk_at "s"
    rw [show ((128 + kOf l : Nat) : Int) - 128 = (kOf l : Int) by omega]
    refine w_slT hS1 fun p2 H2 e2 h2 => ?_
    rw [cut_c g3] at h2
    walk_at "s"
    refine ap_law_chunk g1 (.inr h2) g2 (by omega) fun t H3 n3 e3 h3 => ?_
    walk_at "s"
    refine w_eqNL (SqL.of ((e2.trans e3) _ _ hp1)) (SqL.of h3) ?_
    exact q _ (e1.trans (e2.trans e3))
  · rw [decide_eq_false (show ¬ kOf l < 5 by omega), Bool.false_and] at q
    walk_at "s"
    exact q _ (Evl.Ex.refl _)
theorem cal_law_sound (hd : Hd K mg) : Cal P w K mg base CX0 3 "_law_sound" ["piece"] (sp_law_sound K) := by
  obtain ⟨fd, F⟩ := hd.def_ 18
  exact .mk' (hd.glo 30) F.kp (FunD.bindsN F fun _ _ _ _ _ _ us hl => match us, hl with | [_], _ => rfl) (ok_law_sound hd F)
theorem others_len (l : List Nat) (i : Nat) : (othersL l i).length ≤ 5 := by
  unfold othersL
  split
  · decide
  · split
    · simp
    · split <;> simp
theorem others_good {l : List Nat} {i n : Nat} (hg : Good l) (ht : totL l < 128) (hi : i < l.length) (h : n ∈ othersL l i) : Good (l.set i n) := by
  obtain ⟨g1, g2, g3, g4, g5⟩ := hg.parts
  have hlt : i ≠ 0 → n < 128 := fun h0 => by
    unfold othersL at h
    rw [if_neg h0] at h
    split at h
    · rw [List.mem_singleton.mp h]
      exact turn_lt _ _ (row_lt g1 g2) (by decide)
    · split at h
      · rw [List.mem_singleton.mp h]
        exact xor7 (hg.tail (by omega)) ht
      · simp at h
  obtain ⟨k, r, rfl, h1, h2, h3⟩ := hg
  cases i with
  | zero =>
    unfold othersL at h
    rw [if_pos rfl] at h
    simp only [List.mem_cons, List.not_mem_nil, or_false] at h
    exact ⟨n - 128, r, by rw [show 128 + (n - 128) = n by omega]; rfl, by omega, h2, h3⟩
  | succ i =>
    refine ⟨k, r.set i n, rfl, h1, fun x hx => ?_, by rw [List.length_set]; exact h3⟩
    rcases List.mem_or_eq_of_mem_set hx with z | z
    · exact h2 x z
    · rw [z]
      exact hlt (by omega)
theorem nearT_succ (l : List Nat) (n : Nat) : nearT l (n + 1) = nearT l n ++ ((othersL l n).map fun v => l.set n v).filter soundN := by
  unfold nearT
  rw [List.range_succ, List.flatMap_append, List.filter_append]
  simp
theorem filter_map_take {l : List Nat} {i x : Nat} {f : Nat → List Nat} (h : l[i]? = some x) : ((l.take (i + 1)).map f).filter soundN = if soundN (f x) = true then ((l.take i).map f).filter soundN ++ [f x] else ((l.take i).map f).filter soundN := by
  rw [List.take_add_one, h, List.map_append, List.filter_append]
  cases e : soundN (f x) <;> simp [e]
def sp_law_near (K : PySem.W.Frag) : Sp := sp1 fun x H Q _ => ∃ (p : Addr) (l : List Nat), x = .ref p ∧ SqT K H p (nv l) ∧ Good l ∧ l.length ≤ 1000 ∧ ∀ t out H', Evl.Ex H H' → H' t = some (.lst out) → Outs K H' out (nearL l) → Q (.ref t) H'
theorem ap_law_near {K : PySem.W.Frag} {H : Hp} {Q : VK} {E : XK} {p : Addr} {l : List Nat} (h1 : SqT K H p (nv l)) (h2 : Good l) (h3 : l.length ≤ 1000) (q : ∀ t out H', Evl.Ex H H' → H' t = some (.lst out) → Outs K H' out (nearL l) → Q (.ref t) H') : sp_law_near K [.ref p] H Q E := ⟨_, rfl, p, l, rfl, h1, h2, h3, q⟩
theorem ok_law_near (hd : Hd K mg) {fd : FuncData} (F : FunD K d_law_near.name d_law_near.qual d_law_near.params d_law_near.body d_law_near.scope (d_law_near.dvs K) (d_law_near.kws K) (He.fAd K d_law_near.at_) fd) : FnOk P w K mg base CX0 4 (He.fAd K d_law_near.at_) fd ["piece"] (sp_law_near K) := by
  refine FunD.ok F sc_law_near (fun vs H Q E h => ?_) (fun cdv A outer s H vs Q E hr h => ?_)
  · obtain ⟨v0, rfl, _⟩ := h
    rfl
  obtain ⟨v0, rfl, h⟩ := h
  rw [show start N_law_near [v0] = _ from st_law_near v0]
  refine ⟨_, PSs.nox ((pss_cons (ps_if (pt_truG (pe_cal (sp := sp_law_sound K) (cal_law_sound hd) (hr.mono (by decide)) rfl pass0 (pa_cons (pv 0) pa_nil)) (by intro _; rfl)) (pss_one (ps_ret (pe_lst (pa_cons (pv 0) pa_nil)))) pss_nil)
      (pss_cons (ps_set (i := 1) sc_law_near.nd rfl (Or.inl rfl) (pe_op op_sub (pe_ix ix_G (pv 0) pe_int (fun _ _ => rfl)) pe_int))
      (pss_cons (ps_for PassesOwn.never rfl (pi_G (pe_slice sl_G (pv 0) (po_some pe_int) (po_some (pe_un un_neg pe_int)))) (pg_name (i := 2) sc_law_near.nd rfl (Or.inl rfl))
      (pss_one (ps_set (i := 1) sc_law_near.nd rfl (Or.inl rfl) (pe_op op_xor (pv 1) (pv 2)))))
      (pss_cons (ps_set (i := 3) sc_law_near.nd rfl (Or.inl rfl) (pe_lst pa_nil))
      (pss_cons (ps_for PassesOwn.never rfl (pi_range1 rfl (hd.free 13) (pa_cons (pe_callB g_len (by rfl) (hd.free 0) (by decide +kernel) (pa_cons (pv 0) pa_nil)) pa_nil)) (pg_name (i := 4) sc_law_near.nd rfl (Or.inl rfl))
      (pss_cons (ps_set (i := 5) sc_law_near.nd rfl (Or.inl rfl) (pe_lst pa_nil))
      (Evl.pss_cut (ps_if (pt_cmpR (op_eqG (hu64 hr)) (pv 4) pe_int (nomark _)) (pss_one (ps_set (i := 5) sc_law_near.nd rfl (Or.inl rfl) (pe_lst (pa_cons pe_int (pa_cons pe_int (pa_cons pe_int (pa_cons pe_int (pa_cons pe_int pa_nil)))))))) (pss_one (ps_if (pt_cmpR (op_eqG (hu64 hr)) (pv 4) (pe_op op_sub (pe_callB g_len (by rfl) (hd.free 0) (by decide +kernel) (pa_cons (pv 0) pa_nil)) pe_int) (nomark _)) (pss_one (ps_set (i := 5) sc_law_near.nd rfl (Or.inl rfl) (pe_lst (pa_cons (pe_ix ix_G (pe_cal (sp := sp_law_chunk K) (cal_law_chunk hd) (hr.mono (by decide)) rfl pass0 (pa_cons (pe_op op_sub (pe_ix ix_G (pv 0) pe_int (fun _ _ => rfl)) pe_int) (pa_cons (pe_slice sl_G (pv 0) (po_some pe_int) (po_some (pe_un un_neg pe_int))) pa_nil))) (pe_un un_neg pe_int) (fun _ _ => rfl)) pa_nil)))) (pss_one (ps_if (pt_cmpR op_gtG (pv 1) pe_int (nomark _)) (pss_one (ps_set (i := 5) sc_law_near.nd rfl (Or.inl rfl) (pe_lst (pa_cons (pe_op op_xor (pe_ix ix_G (pv 0) (pv 4) (fun _ _ => rfl)) (pv 1)) pa_nil)))) pss_nil)))))
      (pss_one (ps_for PassesOwn.never rfl (pi_G (pv 5)) (pg_name (i := 2) sc_law_near.nd rfl (Or.inl rfl))
      (pss_cons (ps_set (i := 6) sc_law_near.nd rfl (Or.inl rfl) (pe_op op_addG (pe_op op_addG (pe_slice sl_G (pv 0) po_none (po_some (pv 4))) (pe_tup (pa_cons (pv 2) pa_nil))) (pe_slice sl_G (pv 0) (po_some (pe_op op_addG (pv 4) pe_int)) po_none)))
      (pss_one (ps_if (pt_truG (pe_cal (sp := sp_law_sound K) (cal_law_sound hd) (hr.mono (by decide)) rfl pass0 (pa_cons (pv 6) pa_nil)) (by intro _; rfl)) (pss_one (ps_expr (pe_bm PySem.F.plainAttrs_list PySem.F.slot_list_append PySem.F.type_list_append mt_append (pv 3) (pa_cons (pv 6) pa_nil)))) pss_nil))))))))
      (pss_one (ps_ret (pv 3))))))))), ?_⟩
  obtain ⟨p, l, rfl, hS, hg, hl, q⟩ := h
  obtain ⟨g1, g2, g3, g4, g5⟩ := hg.parts
  walk_at "en"
  walk_at "s"
  refine ap_law_sound hS hg (by omega) fun H1 e1 => ?_
  have hS1 := Evl.ex_t e1 hS
  walk_at "s"
  cases hs : soundN l with
  | true =>
    have e : nearL l = [l] := if_pos hs
    rw [e] at q
    walk_at "s"
    walk_at "sz"
    intro t ht
    exact q t _ _ (e1.trans (Evl.Ex.new ht)) upd_same (Outs.one (Evl.ex_t (Evl.Ex.new ht) hS1))
  | false =>
    have e : nearL l = nearT l l.length := if_neg (by rw [hs]; decide)
    rw [e] at q
    walk_at "s"
    refine w_ix (.inr hS1) (nv_at (i := 0) g4) ?_
    walk_at "s"
    rw [show ((128 + kOf l : Nat) : Int) - 128 = (kOf l : Int) by omega]
    refine w_slT hS1 fun p2 H2 e2 h2 => ?_
    rw [show (-1 : Int) = -((1 : Nat) : Int) from rfl, show (1 : Int) = ((1 : Nat) : Int) from rfl, cut_mid (by omega) (by rw [nv_len]; omega), nv_drop, nv_take, nv_len, show l.length - 1 - 1 = l.length - 2 by omega] at h2
    have hS2 := Evl.ex_t e2 hS1
    refine w_forT h2 (fun i σ H' => H2 = H' ∧ ∃ o2 : Option V, σ = [some (.ref p), some (.int ((((l.drop 1).take (l.length - 2)).take i).foldl xorF (kOf l) : Nat)), o2, none, none, none, none]) ⟨rfl, none, rfl⟩ ?_ ?_ ?_
    · rintro i σ H' _ ⟨rfl, _⟩
      exact h2
    · rintro i v σ H' hv ⟨rfl, o2, rfl⟩
      obtain ⟨n, hn, rfl⟩ := nv_get hv
      walk_at "s"
      rw [bx, fold_take (f := xorF) (b := kOf l) hn]
      exact ⟨rfl, _, rfl⟩
    rintro σ H' ⟨rfl, o2, rfl⟩
    rw [nv_len, List.take_length]
    have etot : ((l.drop 1).take (l.length - 2)).foldl xorF (kOf l) = totL l := rfl
    rw [etot]
    have htot : totL l < 128 := by
      refine xor_lt _ _ (fun x hx => ?_) g1
      obtain ⟨k, r, rfl, _, hr, _⟩ := hg
      exact hr x (List.mem_of_mem_take hx)
    walk_at "s"
    walk_at "sz"
    intro F hF
    walk_at "s"
    rw [nv_len]
    refine w_forR1 (by omega) (by omega) (fun i σ H' => Evl.Ex H2 H' ∧ (∃ out, H' F = some (.lst out) ∧ Outs K H' out (nearT l i) ∧ out.length ≤ 5 * i) ∧ ∃ o2 o4 o5 o6 : Option V, σ = [some (.ref p), some (.int (totL l)), o2, some (.ref F), o4, o5, o6])
      ⟨Evl.Ex.new hF, ⟨[], upd_same, Outs.nil, by simp⟩, _, _, _, _, rfl⟩ ?_ ?_
    · rintro i σ H' hi ⟨e, ⟨out, hout, ho, hol⟩, o2, o4, o5, o6, rfl⟩
      have hS' := Evl.ex_t e hS2
      walk_at "s"
      walk_at "sz"
      intro O nO
      have hFO : F ≠ O := ne_of_none hout nO
      have eO := Evl.Ex.new (o := .lst []) nO
      walk_at "s"
      refine w_cut (fun σ H' => Evl.Ex H2 H' ∧ (∃ out, H' F = some (.lst out) ∧ Outs K H' out (nearT l i) ∧ out.length ≤ 5 * i) ∧ ∃ Z, (H' Z = some (.lst (nv (othersL l i))) ∧ Z ≠ F) ∧ ∃ o2 o6 : Option V, σ = [some (.ref p), some (.int (totL l)), o2, some (.ref F), some (.int i), some (.ref Z), o6]) ?_ ?_
      · have hSO := Evl.ex_t eO hS'
        walk_at "s"
        refine kite_d (fun h0 => ?_) fun h0 => ?_
        · have h0 : i = 0 := by omega
          subst h0
          walk_at "s"
          walk_at "sz"
          intro Z nZ
          have x4 := Evl.Ex.new (o := .lst (nv [128, 129, 130, 131, 132])) nZ
          exact ⟨e.trans (eO.trans x4), ⟨out, (eO.trans x4) _ _ hout, ho.ex (eO.trans x4), hol⟩, Z, ⟨upd_same, (ne_of_none (eO _ _ hout) nZ).symm⟩, _, _, rfl⟩
        · walk_at "s"
          rw [nv_len]
          refine kite_d (fun h1 => ?_) fun h1 => ?_
          · have h1 : i = l.length - 1 := by omega
            have eo : othersL l i = [turnOf (rowOf (kOf l) (cOf l))] := by unfold othersL; rw [if_neg (by omega), if_pos h1]
            walk_at "s"
            refine w_ix (.inr hSO) (nv_at (i := 0) g4) ?_
            walk_at "s"
            rw [show ((128 + kOf l : Nat) : Int) - 128 = (kOf l : Int) by omega]
            refine w_slT hSO fun p3 H3 e3 h3 => ?_
            rw [cut_c g3] at h3
            walk_at "s"
            refine ap_law_chunk g1 (.inr h3) g2 (by omega) fun t H4 n4 e4 h4 => ?_
            walk_at "s"
            have hlast : (chk (kOf l) (cOf l)).getD ((chk (kOf l) (cOf l)).length - 1) 0 = turnOf (rowOf (kOf l) (cOf l)) := by
              rw [chk_len]
              unfold chk
              rw [show (cOf l).length + 4 - 1 = (cOf l).length + 2 + 1 by omega, List.getD_cons_succ, List.getD_eq_getElem?_getD, List.getElem?_append_right (by omega), Nat.add_sub_cancel_left]
              rfl
            refine w_ix (.inl (SqL.of h4)) (nv_neg (k := 1) (by decide) (by rw [chk_len]; omega)) ?_
            rw [hlast]
            walk_at "s"
            walk_at "sz"
            intro Z nZ
            have x3 := eO.trans (e3.trans e4)
            have x4 := x3.trans (Evl.Ex.new (o := .lst (nv [turnOf (rowOf (kOf l) (cOf l))])) nZ)
            exact ⟨e.trans x4, ⟨out, x4 _ _ hout, ho.ex x4, hol⟩, Z, ⟨by rw [eo]; exact upd_same, (ne_of_none (x3 _ _ hout) nZ).symm⟩, _, _, rfl⟩
          · walk_at "s"
            refine kite_d (fun h2 => ?_) fun h2 => ?_
            · have eo : othersL l i = [l.getD i 0 ^^^ totL l] := by unfold othersL; rw [if_neg (by omega), if_neg (by omega), if_pos (by omega)]
              walk_at "s"
              refine w_ix (.inr hSO) (nv_at (getD_some (by omega))) ?_
              walk_at "s"
              rw [bx]
              walk_at "sz"
              intro Z nZ
              have x4 := eO.trans (Evl.Ex.new (o := .lst (nv [l.getD i 0 ^^^ totL l])) nZ)
              exact ⟨e.trans x4, ⟨out, x4 _ _ hout, ho.ex x4, hol⟩, Z, ⟨by rw [eo]; exact upd_same, (ne_of_none (eO _ _ hout) nZ).symm⟩, _, _, rfl⟩
            · have eo : othersL l i = [] := by unfold othersL; rw [if_neg (by omega), if_neg (by omega), if_neg (by omega)]
              walk_at "s"
              exact ⟨e.trans eO, ⟨out, eO _ _ hout, ho.ex eO, hol⟩, O, ⟨by rw [eo]; exact upd_same, hFO.symm⟩, _, _, rfl⟩
      rintro σ H3 ⟨e3, ⟨out, hout, ho, hol⟩, Z, ⟨hZ, hZF⟩, o2, o6, rfl⟩
      walk_at "s"
      have hol5 := others_len l i
      refine w_forL (SqL.of hZ) (fun j σ H' => Evl.Ex H2 H' ∧ H' Z = some (.lst (nv (othersL l i))) ∧ (∃ out, H' F = some (.lst out) ∧ Outs K H' out (nearT l i ++ (((othersL l i).take j).map fun v => l.set i v).filter soundN) ∧ out.length ≤ 5 * i + j) ∧
          ∃ o2 o6 : Option V, σ = [some (.ref p), some (.int (totL l)), o2, some (.ref F), some (.int i), some (.ref Z), o6]) ⟨e3, hZ, ⟨out, hout, by simpa using ho, by omega⟩, _, _, rfl⟩ ?_ ?_ ?_
      · rintro j σ H' _ ⟨_, hZ, _⟩
        exact SqL.of hZ
      · rintro j v σ H' hv ⟨e4, hZ, ⟨out, hout, ho, hol⟩, o2, o6, rfl⟩
        obtain ⟨n, hn, rfl⟩ := nv_get hv
        have hjl : j < (othersL l i).length := (List.getElem?_eq_some_iff.mp hn).1
        have hgn : Good (l.set i n) := others_good hg htot (by omega) (List.mem_of_getElem? hn)
        have hS4 := Evl.ex_t e4 hS2
        walk_at "s"
        refine w_slToT i hS4 rfl fun q1 K1 y1 k1 => ?_
        walk_at "s"
        walk_at "sz"
        intro q2 m2
        have y2 := Evl.Ex.new (o := .tup (nv [n])) m2
        refine w_catT (zs := nv [n]) (Evl.ex_t y2 k1) (SqT.of upd_same) (by rw [nv_len, nv_len, List.length_take]; simp; omega) fun q3 K3 y3 k3 => ?_
        rw [← nv_app] at k3
        walk_at "s"
        refine w_slFromT (i + 1) (Evl.ex_t (y1.trans (y2.trans y3)) hS4) (by omega) fun q4 K4 y4 k4 => ?_
        refine w_catT (Evl.ex_t y4 k3) k4 (by rw [nv_len, nv_len, List.length_append, List.length_take, List.length_drop]; simp; omega) fun q5 K5 y5 k5 => ?_
        rw [← nv_app, List.append_assoc, List.singleton_append, set_take (by omega)] at k5
        walk_at "s"
        refine ap_law_sound k5 hgn (by rw [List.length_set]; omega) fun K6 y6 => ?_
        have y := y1.trans (y2.trans (y3.trans (y4.trans (y5.trans y6))))
        have hF6 := y _ _ hout
        have ft := filter_map_take (f := fun v => l.set i v) hn
        walk_at "s"
        cases hsn : soundN (l.set i n) with
        | true =>
          rw [hsn] at ft
          walk_at "s"
          refine w_append hF6 (sz_lt (by omega)) ?_
          walk_at "s"
          refine ⟨ex_fresh (e4.trans y) hF, by rw [upd_ne hZF]; exact y _ _ hZ, ⟨_, upd_same, ?_, by rw [List.length_append]; simp; omega⟩, _, _, rfl⟩
          rw [ft, if_pos rfl, ← List.append_assoc]
          exact Outs.upd ((ho.ex y).app (Outs.one (Evl.ex_t y6 k5))) hF6
        | false =>
          rw [hsn] at ft
          walk_at "s"
          refine ⟨e4.trans y, y _ _ hZ, ⟨out, hF6, ?_, by omega⟩, _, _, rfl⟩
          rw [ft, if_neg (by decide)]
          exact ho.ex y
      · rintro σ H' ⟨e4, hZ, ⟨out, hout, ho, hol⟩, o2, o6, rfl⟩
        rw [nv_len] at hol ho
        rw [List.take_length, ← nearT_succ] at ho
        exact ⟨e4, ⟨out, hout, ho, by omega⟩, _, _, _, _, rfl⟩
    · rintro σ H' ⟨e, ⟨out, hout, ho, hol⟩, o2, o4, o5, o6, rfl⟩
      walk_at "s"
      rw [Int.toNat_natCast] at ho
      exact q F out _ (e1.trans (e2.trans e)) hout ho
theorem cal_law_near (hd : Hd K mg) : Cal P w K mg base CX0 4 "_law_near" ["piece"] (sp_law_near K) := by
  obtain ⟨fd, F⟩ := hd.def_ 19
  exact .mk' (hd.glo 31) F.kp (FunD.bindsN F fun _ _ _ _ _ _ us hl => match us, hl with | [_], _ => rfl) (ok_law_near hd F)
theorem MV.ex {K : PySem.W.Frag} {H H' : Hp} {v : V} {o : Option (List Nat)} (e : Evl.Ex H H') (h : MV K H v o) : MV K H' v o := by
  cases o with
  | none => exact h
  | some m =>
    obtain ⟨t, e1, e2⟩ := h
    exact ⟨t, e1, Evl.ex_t e e2⟩
theorem MV.same {K : PySem.W.Frag} {H : Hp} {v w : V} {o : Option (List Nat)} (h : MV K H v o) (h2 : MV K H w o) : ∃ d, Dp K H v d ∧ Dp K H w d ∧ d.depth < 8 := by
  cases o with
  | none =>
    cases h
    cases h2
    exact ⟨.none, .non, .non, by simp [PyData.depth]⟩
  | some m =>
    obtain ⟨t, rfl, e2⟩ := h
    obtain ⟨u, rfl, e3⟩ := h2
    exact ⟨_, dp_nv e2, dp_nv e3, depth_nv _⟩
theorem mend_self {l : List Nat} (h : soundN l = true) : mendN l = some l := if_pos h
theorem ok_law (hd : Hd K mg) {fd : FuncData} (F : FunD K d_law.name d_law.qual d_law.params d_law.body d_law.scope (d_law.dvs K) (d_law.kws K) (He.fAd K d_law.at_) fd) : FnOk P w K mg base CX0 11 (He.fAd K d_law.at_) fd ["script"] (sp_law K) := by
  refine FunD.ok F sc_law (fun vs H Q E h => ?_) (fun cdv A outer s H vs Q E hr h => ?_)
  · obtain ⟨v0, rfl, _⟩ := h
    rfl
  obtain ⟨v0, rfl, h⟩ := h
  rw [show start N_law [v0] = _ from st_law v0]
  refine ⟨_, PSs.nox ((pss_cons (ps_set (i := 1) sc_law.nd rfl (Or.inr rfl) (pe_cal (sp := sp_law_drawer K) (cal_law_drawer hd) (hr.mono (by decide)) rfl pass0 (pa_cons (pv 0) (pa_cons pe_int pa_nil))))
      (pss_cons (ps_set (i := 2) sc_law.nd rfl (Or.inl rfl) (pe_cal (sp := sp_law_draw K) (cal_law_draw hd) (hr.mono (by decide)) rfl pass0 (pa_cons (pv 1) (pa_cons pe_int pa_nil))))
      (pss_cons (ps_set (i := 3) sc_law.nd rfl (Or.inl rfl) (pe_cal (sp := sp_law_size K) (cal_law_size hd) (hr.mono (by decide)) rfl pass0 (pa_cons (pv 1) pa_nil)))
      (pss_cons (ps_set (i := 4) sc_law.nd rfl (Or.inl rfl) (pe_cal (sp := sp_law_chunk K) (cal_law_chunk hd) (hr.mono (by decide)) rfl pass0 (pa_cons (pv 2) (pa_cons (pe_lc (own := [("k", 11)]) (g := gName 11) (tt := tYes) (by rfl) sc_law.nd (pi_range1 rfl (hd.free 13) (pa_cons (pv 3) pa_nil)) (blkOk_by (own := [("k", 11)]) (N := N_law) (sc := defScope s_law) (by decide +kernel)) (fun _ _ _ _ _ => (pg_name (i := 11) sc_law.nd rfl (Or.inl rfl))) (fun _ _ _ _ _ => pts_nil) (fun _ _ _ _ _ => (pe_cal (sp := sp_law_draw K) (cal_law_draw hd) (hr.mono (by decide)) rfl pass0 (pa_cons (pv 1) (pa_cons pe_int pa_nil))))) pa_nil))))
      (pss_cons (ps_set (i := 1) sc_law.nd rfl (Or.inr rfl) (pe_cal (sp := sp_law_drawer K) (cal_law_drawer hd) (hr.mono (by decide)) rfl pass0 (pa_cons (pv 0) (pa_cons pe_int pa_nil))))
      (pss_cons (ps_set (i := 5) sc_law.nd rfl (Or.inl rfl) (pe_cal (sp := sp_law_draw K) (cal_law_draw hd) (hr.mono (by decide)) rfl pass0 (pa_cons (pv 1) (pa_cons pe_int pa_nil))))
      (pss_cons (ps_set (i := 6) sc_law.nd rfl (Or.inl rfl) (pe_callTy g_list (by rfl) (hd.free 12) (by decide +kernel) (pa_cons (pv 4) pa_nil)))
      (Evl.pss_cut (ps_if (PW.pt (pw_or (pt_cmpR (op_eqG (hu64 hr)) (pv 5) pe_int (nomark _)) (pw_or1 (pt_cmpR (op_eqG (hu64 hr)) (pv 5) pe_int (nomark _))))) (pss_one (ps_set (i := 6) sc_law.nd rfl (Or.inl rfl) (pe_ix ix_G (pe_cal (sp := sp_law_replaced K) (cal_law_replaced hd) (hr.mono (by decide)) rfl pass0 (pa_cons (pv 1) (pa_cons (pv 4) pa_nil))) pe_int (fun _ _ => rfl)))) pss_nil)
      (Evl.pss_cut (ps_if (pt_cmpR (op_eqG (hu64 hr)) (pv 5) pe_int (nomark _)) (pss_one (ps_set (i := 6) sc_law.nd rfl (Or.inl rfl) (pe_ix ix_G (pe_cal (sp := sp_law_replaced K) (cal_law_replaced hd) (hr.mono (by decide)) rfl pass0 (pa_cons (pv 1) (pa_cons (pv 4) pa_nil))) pe_int (fun _ _ => rfl)))) pss_nil)
      (Evl.pss_cut (ps_if (pt_cmpR (op_eqG (hu64 hr)) (pv 5) pe_int (nomark _)) (pss_cons (ps_set (i := 3) sc_law.nd rfl (Or.inl rfl) (pe_cal (sp := sp_law_size K) (cal_law_size hd) (hr.mono (by decide)) rfl pass0 (pa_cons (pv 1) pa_nil)))
      (pss_cons (ps_set (i := 7) sc_law.nd rfl (Or.inr rfl) (pe_cal (sp := sp_law_pick K) (cal_law_pick hd) (hr.mono (by decide)) rfl pass0 (pa_cons (pv 1) (pa_cons (pe_lst (pa_cons pe_int (pa_cons pe_int pa_nil))) pa_nil))))
      (pss_one (ps_set (i := 6) sc_law.nd rfl (Or.inl rfl) (pe_op op_addG (pe_lst (pa_cons (pe_op op_addG pe_int (pe_cal (sp := sp_law_draw K) (cal_law_draw hd) (hr.mono (by decide)) rfl pass0 (pa_cons (pv 1) (pa_cons pe_int pa_nil)))) pa_nil)) (pe_lc (own := [("k", 11)]) (g := gName 11) (tt := tYes) (by rfl) sc_law.nd (pi_range1 rfl (hd.free 13) (pa_cons (pe_op op_addG pe_int (pv 3)) pa_nil)) (blkOk_by (own := [("k", 11)]) (N := N_law) (sc := defScope s_law) (by decide +kernel)) (fun _ _ _ _ _ => (pg_name (i := 11) sc_law.nd rfl (Or.inl rfl))) (fun _ _ _ _ _ => pts_nil) (fun _ _ _ _ _ => (pe_cal (sp := sp_law_draw K) (cal_law_draw hd) (hr.mono (by decide)) rfl pass0 (pa_cons (pv 1) (pa_cons (pv 7) pa_nil)))))))))) pss_nil)
      (Evl.pss_cut (ps_if (pt_cmpR (op_eqG (hu64 hr)) (pv 5) pe_int (nomark _)) (pss_cons (ps_set (i := 8) sc_law.nd rfl (Or.inl rfl) (pe_op op_addG pe_int (pe_cal (sp := sp_law_draw K) (cal_law_draw hd) (hr.mono (by decide)) rfl pass0 (pa_cons (pv 1) (pa_cons (pe_cal (sp := sp_law_pick K) (cal_law_pick hd) (hr.mono (by decide)) rfl pass0 (pa_cons (pv 1) (pa_cons (pe_lst (pa_cons pe_int (pa_cons pe_int pa_nil))) pa_nil))) pa_nil)))))
      (pss_one (ps_set (i := 6) sc_law.nd rfl (Or.inl rfl) (pe_cal (sp := sp_law_chunk K) (cal_law_chunk hd) (hr.mono (by decide)) rfl pass0 (pa_cons (pv 8) (pa_cons (pe_slice sl_G (pv 4) (po_some pe_int) (po_some (pe_un un_neg pe_int))) pa_nil)))))) pss_nil)
      (pss_cons (ps_set (i := 6) sc_law.nd rfl (Or.inl rfl) (pe_callTy g_tuple (by rfl) (hd.free 11) (by decide +kernel) (pa_cons (pv 6) pa_nil)))
      (pss_cons (ps_set (i := 9) sc_law.nd rfl (Or.inl rfl) (pe_callTy g_tuple (by rfl) (hd.free 11) (by decide +kernel) (pa_cons (pv 4) pa_nil)))
      (Evl.pss_cut (ps_if (pt_cmpR op_gtG (pv 5) pe_int (nomark _)) (pss_cons (ps_set (i := 9) sc_law.nd rfl (Or.inl rfl) pe_non)
      (pss_cons (ps_set (i := 10) sc_law.nd rfl (Or.inl rfl) (pe_cal (sp := sp_law_near K) (cal_law_near hd) (hr.mono (by decide)) rfl pass0 (pa_cons (pv 6) pa_nil)))
      (pss_one (ps_if (pt_cmpR op_gtG (pe_callB g_len (by rfl) (hd.free 0) (by decide +kernel) (pa_cons (pv 10) pa_nil)) pe_int (nomark _)) (pss_one (ps_set (i := 9) sc_law.nd rfl (Or.inl rfl) (pe_ix ix_G (pv 10) pe_int (fun _ _ => rfl)))) pss_nil)))) pss_nil)
      (pss_cons (ps_if (pt_not (pt_truG (pe_cal (sp := sp_law_same 8 K) (cal_law_same hd 8) (hr.mono (by decide)) rfl pass0 (pa_cons (pe_cal (sp := sp_mended K) (cal_mended hd) (hr.mono (by decide)) rfl pass0 (pa_cons (pv 6) pa_nil)) (pa_cons (pv 9) pa_nil))) (by intro _; rfl))) (pss_one (ps_ret pe_bl)) pss_nil)
      (pss_one (ps_ret (pe_cal (sp := sp_law_same 8 K) (cal_law_same hd 8) (hr.mono (by decide)) rfl pass0 (pa_cons (pe_cal (sp := sp_mended K) (cal_mended hd) (hr.mono (by decide)) rfl pass0 (pa_cons (pe_callTy g_tuple (by rfl) (hd.free 11) (by decide +kernel) (pa_cons (pv 4) pa_nil)) pa_nil)) (pa_cons (pe_callTy g_tuple (by rfl) (hd.free 11) (by decide +kernel) (pa_cons (pv 4) pa_nil)) pa_nil))))))))))))))))))))), ?_⟩
  obtain ⟨a, ns, rfl, hS, hl, q⟩ := h
  walk_at "en"
  walk_at "s"
  refine ap_drawer hS (by omega) fun d0 H1 hdn0 e1 D1 => ?_
  have S1 := hS.ex e1
  walk_at "s"
  refine ap_draw D1 (dv_small (by omega) (by omega)) fun m H2 m0 m1 x2 => ?_
  obtain ⟨m, rfl⟩ := Int.eq_ofNat_of_zero_le m0
  walk_at "s"
  refine ap_size x2.dr fun sz H3 x3 hsz => ?_
  have y3 := x2.trans x3
  walk_at "s"
  refine w_lcR1 (by omega) (by omega) (fun D i acc H' => Dw d0 H1 H' ∧ H' D = some (.lst acc) ∧ ∃ c : List Nat, acc = nv c ∧ (∀ x ∈ c, x < 128)) (fun v => rfl) (fun D hD4 => ⟨Dw.fresh y3 (none_dw y3 D1 hD4) (y3.dr.ne hD4), upd_same, [], rfl, by simp⟩) ?_ ?_
  · rintro D i acc H' RR hi ha hD4 ⟨x, hl, c, rfl, hc⟩ hR
    have hne : D ≠ d0 := (y3.dr.ne hD4).symm
    have hD0 : H1 D = none := none_dw y3 D1 hD4
    walk_at "s"
    refine ap_draw x.dr (dv_small (by omega) (by omega)) fun v H6 hv0 hv1 x6 => ?_
    obtain ⟨mm, rfl⟩ := Int.eq_ofNat_of_zero_le hv0
    refine hR _ _ (x6.kp _ _ hne hl) ⟨Dw.fresh (x.trans x6) hD0 hne.symm, upd_same, c ++ [mm], by rw [nv_app]; rfl, fun y hy => ?_⟩
    rcases List.mem_append.mp hy with h | h
    · exact hc y h
    · rw [List.mem_singleton.mp h]
      omega
  rintro D acc H4 hD4 ha ⟨x4, hDl, c, rfl, cb⟩
  rw [nv_len] at ha
  have cl : c.length < 126 := by omega
  walk_at "s"
  refine ap_law_chunk (by omega) (.inl (SqL.of hDl)) cb (by omega) fun p H5 n5 e5 hp5 => ?_
  have S5 := (S1.dw D1 x4).ex e5
  have hlen := chk_len m c
  have hcs := chk_sound (k := m) (c := c) (by omega) cb
  have hcg := chk_good (k := m) (c := c) (by omega) cb
  walk_at "s"
  refine ap_drawer S5 (by omega) fun d H6 hdn e6 D6 => ?_
  have hpd : p ≠ d := ne_of_none hp5 hdn
  have hp6 := e6 _ _ hp5
  walk_at "s"
  refine ap_draw D6 (dv_small (by omega) (by omega)) fun way H7 w0 w1 x7 => ?_
  have hp7 := x7.kp _ _ hpd hp6
  walk_at "s"
  refine w_list (.inl (SqL.of hp7)) fun pp npp => ?_
  have x8 := x7.trans (Dw.new (o := .lst (nv (chk m c))) x7.dr npp)
  walk_at "s"
  refine w_cut (fun σ H' => Dw d H6 H' ∧ (∃ pp l, H' pp = some (.lst (nv l)) ∧ Good l ∧ l.length < 130 ∧ (way ≤ 2 → mendN l = some (chk m c)) ∧ ∃ o3 o7 o8 : Option V, σ = [some (.ref a), some (.ref d), some (.int m), o3, some (.ref p), some (.int way), some (.ref pp), o7, o8, none, none, none])) ?_ ?_
  · have rep : sp_law_replaced K [.ref d, .ref p] (upd H7 pp (.lst (nv (chk m c)))) (fun x H1 => rIxG K x (.int 0) H1 fun z H' => gName 6 z [some (.ref a), some (.ref d), some (.int m), some (.int sz), some (.ref p), some (.int way), some (.ref pp), none, none, none, none, none] H' fun σ H' =>
        Dw d H6 H' ∧ (∃ pp l, H' pp = some (.lst (nv l)) ∧ Good l ∧ l.length < 130 ∧ (way ≤ 2 → mendN l = some (chk m c)) ∧ ∃ o3 o7 o8 : Option V, σ = [some (.ref a), some (.ref d), some (.int m), o3, some (.ref p), some (.int way), some (.ref pp), o7, o8, none, none, none])) E0 := by
      refine ap_replaced x8.dr hpd (x8.kp _ _ hpd hp6) (by omega) cb (by omega) fun t g h i j e f H9 nt ht x9 hg1 hh1 hij hj e0 e1 f0 f1 hg hh => ?_
      refine w_ix (k := 0) (v := .ref g) (.inl (SqL.of ht)) rfl ?_
      walk_at "s"
      have hgood := hurt_good (i := i) hcg e1
      refine ⟨x8.trans x9, g, _, hg, hgood, by rw [hurt_len]; omega, fun _ => ?_, _, _, _, rfl⟩
      rcases mend_one (k := m) (c := c) (i := i) (by omega) cb e1 (by omega) with z | z
      · exact z
      · exact absurd hgood z
    walk_at "s"
    refine kite_d (fun hw => ?_) fun hw => ?_
    · walk_at "s"
      exact rep
    · walk_at "s"
      refine kite_d (fun hw2 => ?_) fun hw2 => ?_
      · walk_at "s"
        exact rep
      · walk_at "s"
        exact ⟨x8, pp, _, upd_same, hcg, by omega, fun _ => mend_self hcs, _, _, _, rfl⟩
  rintro σ H8 ⟨x8, pp, l, hpp, hgl, hll, hml, o3, o7, o8, rfl⟩
  refine w_cut (fun σ H' => Dw d H6 H' ∧ (∃ pp l, H' pp = some (.lst (nv l)) ∧ Good l ∧ l.length < 130 ∧ (way ≤ 2 → mendN l = some (chk m c)) ∧ ∃ o3 o7 o8 : Option V, σ = [some (.ref a), some (.ref d), some (.int m), o3, some (.ref p), some (.int way), some (.ref pp), o7, o8, none, none, none])) ?_ ?_
  · walk_at "s"
    refine kite_d (fun hw => ?_) fun hw => ?_
    · walk_at "s"
      refine ap_replaced x8.dr hpd (x8.kp _ _ hpd hp6) (by omega) cb (by omega) fun t g h i j e f H9 nt ht x9 hg1 hh1 hij hj e0 e1 f0 f1 hg hh => ?_
      walk_at "s"
      exact ⟨x8.trans x9, h, _, hh, hurt_good (hurt_good hcg e1) f1, by rw [hurt_len, hurt_len]; omega, fun z => by omega, _, _, _, rfl⟩
    · walk_at "s"
      exact ⟨x8, pp, _, hpp, hgl, hll, hml, _, _, _, rfl⟩
  rintro σ H9 ⟨x9, pp, l, hpp, hgl, hll, hml, o3, o7, o8, rfl⟩
  refine w_cut (fun σ H' => Dw d H6 H' ∧ (∃ pp l, H' pp = some (.lst (nv l)) ∧ Good l ∧ l.length < 130 ∧ (way ≤ 2 → mendN l = some (chk m c)) ∧ ∃ o3 o7 o8 : Option V, σ = [some (.ref a), some (.ref d), some (.int m), o3, some (.ref p), some (.int way), some (.ref pp), o7, o8, none, none, none])) ?_ ?_
  · walk_at "s"
    refine kite_d (fun hw => ?_) fun hw => ?_
    · walk_at "s"
      refine ap_size x9.dr fun s2 K1 y1 hs2 => ?_
      walk_at "s"
      walk_at "sz"
      intro q1 m1
      walk_at "s"
      have z1 := Dw.new (o := .lst [.int 3, .int 128]) y1.dr m1
      refine ap_pickL z1.dr (y1.dr.ne m1).symm upd_same (by decide) (by decide) fun v K2 hv y2 => ?_
      have hv2 : ∃ mm : Int, v = .int mm ∧ 0 < mm ∧ mm ≤ 128 := by
        simp only [List.mem_cons, List.not_mem_nil, or_false] at hv
        rcases hv with h | h
        · exact ⟨3, h, by decide, by decide⟩
        · exact ⟨128, h, by decide, by decide⟩
      obtain ⟨mm, rfl, v0, v1⟩ := hv2
      walk_at "s"
      refine ap_draw y2.dr (dv_small (by omega) (by omega)) fun u K3 u0 u1 y3 => ?_
      obtain ⟨u, rfl⟩ := Int.eq_ofNat_of_zero_le u0
      walk_at "s"
      walk_at "sz"
      intro q2 m2
      have z3 := Dw.new (o := .lst [.int (128 + (u : Int))]) y3.dr m2
      have hq2 : upd K3 q2 (.lst [.int (128 + (u : Int))]) q2 = some (.lst [.int (128 + (u : Int))]) := upd_same
      have hq2d : q2 ≠ d := (y3.dr.ne m2).symm
      have x10 := x9.trans (y1.trans (z1.trans (y2.trans (y3.trans z3))))
      revert hq2 x10
      generalize upd K3 q2 (.lst [.int (128 + (u : Int))]) = K4
      intro hq2 x10
      walk_at "s"
      refine w_lcR1 (by omega) (by omega) (fun D i acc H' => Dw d K4 H' ∧ H' D = some (.lst acc) ∧ ∃ c : List Nat, acc = nv c ∧ (∀ x ∈ c, x < 128)) (fun v => rfl) (fun D hD4 => ⟨Dw.new x10.dr hD4, upd_same, [], rfl, by simp⟩) ?_ ?_
      · rintro D i acc H' RR hi ha hD4 ⟨x, hl, c, rfl, hc⟩ hR
        have hne : D ≠ d := (x10.dr.ne hD4).symm
        walk_at "s"
        refine ap_draw x.dr (dv_small (by omega) (by omega)) fun v H6 hv0 hv1 x6 => ?_
        obtain ⟨mm, rfl⟩ := Int.eq_ofNat_of_zero_le hv0
        refine hR _ _ (x6.kp _ _ hne hl) ⟨Dw.fresh (x.trans x6) hD4 hne.symm, upd_same, c ++ [mm], by rw [nv_app]; rfl, fun y hy => ?_⟩
        rcases List.mem_append.mp hy with h | h
        · exact hc y h
        · rw [List.mem_singleton.mp h]
          omega
      rintro D acc K5 hD4 ha ⟨y5, hDl, r, rfl, rb⟩
      rw [nv_len] at ha
      have hlr : r.length = 3 + s2 := by omega
      refine w_catL (y5.kp _ _ hq2d hq2) hDl (by rw [nv_len]; simp; omega) fun q3 m3 => ?_
      walk_at "s"
      refine ⟨x10.trans (y5.trans (Dw.new y5.dr m3)), q3, (128 + u) :: r, by rw [upd_same, nv_cons]; rfl, ⟨u, r, rfl, by omega, rb, by omega⟩, by rw [List.length_cons]; omega, fun z => by omega, _, _, _, rfl⟩
    · walk_at "s"
      exact ⟨x9, pp, _, hpp, hgl, hll, hml, _, _, _, rfl⟩
  rintro σ H10 ⟨x10, pp, l, hpp, hgl, hll, hml, o3, o7, o8, rfl⟩
  refine w_cut (fun σ H' => Dw d H6 H' ∧ (∃ pp l, H' pp = some (.lst (nv l)) ∧ Good l ∧ l.length < 130 ∧ (way ≤ 2 → mendN l = some (chk m c)) ∧ ∃ o3 o7 o8 : Option V, σ = [some (.ref a), some (.ref d), some (.int m), o3, some (.ref p), some (.int way), some (.ref pp), o7, o8, none, none, none])) ?_ ?_
  · walk_at "s"
    refine kite_d (fun hw => ?_) fun hw => ?_
    · walk_at "s"
      walk_at "sz"
      intro q1 m1
      walk_at "s"
      have z1 := Dw.new (o := .lst [.int 1, .int 123]) x10.dr m1
      refine ap_pickL z1.dr (x10.dr.ne m1).symm upd_same (by decide) (by decide) fun v K2 hv y2 => ?_
      have hv2 : ∃ mm : Int, v = .int mm ∧ 0 < mm ∧ mm ≤ 123 := by
        simp only [List.mem_cons, List.not_mem_nil, or_false] at hv
        rcases hv with h | h
        · exact ⟨1, h, by decide, by decide⟩
        · exact ⟨123, h, by decide, by decide⟩
      obtain ⟨mm, rfl, v0, v1⟩ := hv2
      walk_at "s"
      refine ap_draw y2.dr (dv_small (by omega) (by omega)) fun u K3 u0 u1 y3 => ?_
      obtain ⟨u, rfl⟩ := Int.eq_ofNat_of_zero_le u0
      have x11 := x10.trans (z1.trans (y2.trans y3))
      have hp11 := x11.kp _ _ hpd hp6
      walk_at "s"
      refine w_slL (SqL.of hp11) fun q2 m2 => ?_
      have ecut : cutV (nv (chk m c)) (some 1) (some (-3)) = nv c := by
        rw [cut_c (by omega)]
        unfold chk
        rw [cOf_app _ _ _ (clo_len _ _)]
      rw [ecut]
      have z3 := Dw.new (o := .lst (nv c)) y3.dr m2
      walk_at "s"
      rw [show (5 : Int) + (u : Int) = ((5 + u : Nat) : Int) by omega]
      refine ap_law_chunk (by omega) (.inl (SqL.of upd_same)) cb (by omega) fun t K4 n4 e4 h4 => ?_
      walk_at "s"
      exact ⟨x11.trans (z3.trans (Dw.ex z3.dr e4)), t, _, h4, chk_good (by omega) cb, by rw [chk_len]; omega, fun z => by omega, _, _, _, rfl⟩
    · walk_at "s"
      exact ⟨x10, pp, _, hpp, hgl, hll, hml, _, _, _, rfl⟩
  rintro σ H11 ⟨x11, pp, l, hpp, hgl, hll, hml, o3, o7, o8, rfl⟩
  have hp11 := x11.kp _ _ hpd hp6
  walk_at "s"
  refine w_tupL (SqL.of hpp) fun t1 n1 => ?_
  have e1 := Evl.Ex.new (o := .tup (nv l)) n1
  have ht1 : upd H11 t1 (.tup (nv l)) t1 = some (.tup (nv l)) := upd_same
  walk_at "s"
  refine w_tupL (SqL.of (e1 _ _ hp11)) fun t2 n2 => ?_
  have e2 := Evl.Ex.new (o := .tup (nv (chk m c))) n2
  have ht2 : upd (upd H11 t1 (.tup (nv l))) t2 (.tup (nv (chk m c))) t2 = some (.tup (nv (chk m c))) := upd_same
  have ht1' := e2 _ _ ht1
  have hp12 := e2 _ _ (e1 _ _ hp11)
  revert ht2 ht1' hp12
  generalize upd (upd H11 t1 (.tup (nv l))) t2 (.tup (nv (chk m c))) = H12
  intro ht2 ht1' hp12
  walk_at "s"
  refine w_cut (fun σ H' => Evl.Ex H12 H' ∧ ∃ v, MV K H' v (mendN l) ∧ ∃ o10 : Option V, σ = [some (.ref a), some (.ref d), some (.int m), o3, some (.ref p), some (.int way), some (.ref t1), o7, o8, some v, o10, none]) ?_ ?_
  · walk_at "s"
    refine kite_d (fun hw => ?_) fun hw => ?_
    · walk_at "s"
      refine ap_law_near (SqT.of ht1') hgl (by omega) fun t out H13 e13 ht ho => ?_
      rw [near_head hgl hll]
      have hol := ho.1
      walk_at "s"
      refine kite_d (fun hz => ?_) fun hz => ?_
      · have h0 : 0 < out.length := by omega
        have hm : (nearL l)[0]? = some (nearL l)[0] := List.getElem?_eq_getElem (by omega)
        have hv : out[0]? = some out[0] := List.getElem?_eq_getElem h0
        obtain ⟨u, eu, hu⟩ := ho.2 0 _ _ hv hm
        rw [eu] at hv
        walk_at "s"
        refine w_ix (.inl (SqL.of ht)) (atI_nat (j := 0) hv) ?_
        walk_at "s"
        refine ⟨e13, _, ?_, _, rfl⟩
        rw [List.head?_eq_getElem?, hm]
        exact ⟨u, rfl, hu⟩
      · have h0 : nearL l = [] := List.length_eq_zero_iff.mp (by omega)
        walk_at "s"
        rw [h0]
        exact ⟨e13, _, rfl, _, rfl⟩
    · walk_at "s"
      rw [hml (by omega)]
      exact ⟨Evl.Ex.refl _, _, ⟨t2, rfl, SqT.of ht2⟩, _, rfl⟩
  rintro σ H13 ⟨e13, v, hv, o10, rfl⟩
  walk_at "s"
  refine ap_mended (SqT.of (e13 _ _ ht1')) hgl (by omega) fun w1 H14 e14 hw1 => ?_
  walk_at "s"
  obtain ⟨dd, dd1, dd2, dd3⟩ := MV.same hw1 (hv.ex e14)
  refine ap_same dd dd1 dd2 dd3 ?_
  walk_at "s"
  have hp14 := e14 _ _ (e13 _ _ hp12)
  refine w_tupL (SqL.of hp14) fun t3 n3 => ?_
  have e15 := Evl.Ex.new (o := .tup (nv (chk m c))) n3
  walk_at "s"
  refine ap_mended (SqT.of upd_same) hcg (by omega) fun w2 H16 e16 hw2 => ?_
  rw [mend_self hcs] at hw2
  walk_at "s"
  refine w_tupL (SqL.of ((e15.trans e16) _ _ hp14)) fun t4 n4 => ?_
  have e17 := Evl.Ex.new (o := .tup (nv (chk m c))) n4
  walk_at "s"
  obtain ⟨d2, f1, f2, f3⟩ := MV.same (hw2.ex e17) ⟨t4, rfl, SqT.of upd_same⟩
  exact ap_same d2 f1 f2 f3 (q _)
theorem cal_law (hd : Hd K mg) : Cal P w K mg base CX0 11 "law" ["script"] (sp_law K) := by
  obtain ⟨fd, F⟩ := hd.def_ 20
  exact .mk' (hd.glo 32) F.kp (FunD.bindsN F fun _ _ _ _ _ _ us hl => match us, hl with | [_], _ => rfl) (ok_law hd F)
end
/-! ### the end: what the top leaves, the row -/
abbrev R : PySem.W.OpenRow := PySem.W.OpenLaw.row PySem.Challenge.rw_keptpictures_k39_whole_mended
abbrev hk : PySem.W.Hook := KP.hookE 4 fa fn ex
def ob (s : PySem.W.SharedT) : KP.AlE := KP.obsEG 4 fa fn ex (HandSHeadRun.getT s)
theorem ob_eq (s : PySem.W.SharedT) : ob s = hk.obs s.abs := KP.obsEG_eq (HandSHeadRun.getT_eq s)
def names : List Str := ["KINDS", "double", "closing", "is_piece", "is_sound", "replaced", "with_other_marks", "with_other_closing", "with_other_content", "mended", "_law_drawer", "_law_draw", "_law_pick", "_law_int", "_law_same", "_law_double", "_law_chunk", "_law_size", "_law_replaced", "_law_sound", "_law_near"]
theorem run (w : World) : HandSHeadRun.RunEq R (PySem.W.view R.prog [25]) hk ob 2000 names w := by
  intro os
  kernel_rfl
end KL
open PySem PySem.W PySem.Calls PyProof.Rows
theorem PySem.Challenge.cw_keptpictures_k39_whole_mended_holds : PySem.Challenge.rw_keptpictures_k39_whole_mended.Holds := by
  w_on; o_law
  refine HandSHeadRun.head_any (r := KL.R) (q := view KL.R.prog [25]) (H := KL.hk) (ob := KL.ob) (M := 2000) (loose := KL.names) (d := HandSHeadRun.topDef KL.R.prog 25) (kwd := []) KL.ob_eq
    (by kernel_rfl) (fun s => by kernel_rfl) KL.run (by kernel_rfl) (by kernel_rfl) (by kernel_rfl) (by rfl) (by first | assumption | decide +kernel) (by decide +kernel) ⟨rfl, rfl, rfl, rfl, rfl, by decide +kernel⟩ ?hw ?hc
  case hw => w_witness2
  case hc =>
    refine L2.walk_ofE (l := PySem.Challenge.rw_keptpictures_k39_whole_mended) (n := 63) (k := 11) (x := "script") (CX := L2.CX0) rfl (by decide) (by kernel_rfl) ⟨rfl, by decide, by decide⟩ ?F (fun _ _ _ _ z => z)
    intro w mg fa h Y G hmg0
    obtain ⟨K, KX, c, cx⟩ := Y
    have hmg : mg ("law" : PySem.Str) = some (.ref fa) := by
      have e : (HandSHeadRun.topDef KL.R.prog 25).name = ("law" : PySem.Str) := by kernel_rfl
      rw [← e]
      exact hmg0
    have hd : KL.Hd K mg := ⟨⟨h, KX, G⟩, c, cx⟩
    obtain ⟨fd, F⟩ := hd.def_ 20
    have ha := hd.glo 32
    cases hmg.symm.trans ha
    refine ⟨K, fd, KP.sp_law K, KX, fun s u => L2.FunD.bindsA (ps := ["script"]) F (fun _ _ _ _ _ _ us hl => match us, hl with | [_], _ => rfl) s [u] rfl, fun H a ns hl hO hS => ⟨.ref a, rfl, a, ns, rfl, KP.Scr.of hO hS, hl, fun _ => rfl⟩, fun base _ _ => ?_⟩
    exact KL.ok_law hd F

