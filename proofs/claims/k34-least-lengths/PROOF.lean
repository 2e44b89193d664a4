import PyProof.Rows.All
import Wide.All
import OpenK.AllK
import Wide.FinOn
import KE.KStateDown
import Lean
import HandS.Base
import HandS.Call
import HandS.List
import HandS.Comp
import HandS.Ends
import HandS.Dict
import HandS.Iter
import HandS.Text
import HandS.Words
import HandS.WordsList
import HandS.Defaults
import HandS.Evl
import HandS.Conv
import HandS.Deep
import HandS.IsInst
import HandS.TupAny
import HandS.TupLe
import HandS.Wide
import HandS.Zip
import HandS.Rev
import HandS.RevRange
import HandS.Star
import HandS.SortInts
import HandS.Head0
import HandS.Head1
import HandS.Head2
import HandS.HeadEnd
import HandS.HeadHook1
import HandS.HeadHook2
import HandS.ExcInit
import HandS.TupMul
import HandS.ExcOwn
import HandS.CallSlots
import HandS.TryMany
import HandS.Strs
import HandS.More
import HandS.GenBody
import HandS.GenYield
import HandS.GenCall
import HandS.GenList
import KE.GoesEnum
import KE.GoesZip
import KE.GoesMore
import PyProof.ListNew
import PyProof.ListRange
import HandS.ExcField
import HandS.ExcValue
import KE.KExcIs
import HandS.OwnEq
import HandS.HeadHook3
import HandS.OwnIter
import HandS.IterNext
import HandS.MakeKw
import HandS.SortRule
import HandS.ClsMeth
import HandS.WideBits
import PySem.Challenge.RW_keptpictures_k34_whole_least_lengths
set_option Elab.async false
set_option linter.all false
set_option maxRecDepth 100000
set_option maxHeartbeats 4000000
/-! The common layer: rules that serve operands of any kind, a def's contract in one piece, one step of a reading at a time. -/
namespace KP
open PySem PySem.Spec PyProof.Rows L2 Evl
/-! ### heaps -/
/-- a list or a tuple that can be read -/
def Sq (K : PySem.W.Frag) (H : Hp) (a : Addr) (xs : List V) : Prop := SqL K H a xs ∨ SqT K H a xs
theorem Sq.l {K : PySem.W.Frag} {H : Hp} {a : Addr} {xs : List V} (h : SqL K H a xs) : Sq K H a xs := .inl h
theorem Sq.t {K : PySem.W.Frag} {H : Hp} {a : Addr} {xs : List V} (h : SqT K H a xs) : Sq K H a xs := .inr h
/-! ### operators of any kind -/
section
variable {X : Cx}
def rAddG (K : PySem.W.Frag) : R2 := fun x y H Q => match x, y with
  | .int i, .int j => Q (.int (i + j)) H
  | .str i, .str j => i.length + j.length ≤ sizeLine ∧ Q (.str (i ++ j)) H
  | .ref a, .ref b => (∃ xs zs, H a = some (.lst xs) ∧ H b = some (.lst zs) ∧ xs.length + zs.length ≤ sizeLine ∧ ∀ p, H p = none → Q (.ref p) (upd H p (.lst (xs ++ zs)))) ∨
      (∃ xs ys, SqT K H a xs ∧ SqT K H b ys ∧ xs.length + ys.length ≤ sizeLine ∧ ∀ p H', Evl.Ex H H' → SqT K H' p (xs ++ ys) → (H' = H ∨ (H p = none ∧ H' = upd H p (.tup (xs ++ ys)))) → Q (.ref p) H')
  | _, _ => False
theorem op_addG : OpR X (binaryOp .Add) (rAddG X.K) := by
  intro pins s σ H x y v u Q I rx ry h
  cases x <;> cases y <;> try exact (show False from h).elim
  case int.int i j => exact op_add pins s σ H _ _ v u Q I rx ry ⟨i, j, rfl, rfl, h⟩
  case str.str i j => exact op_add_str pins s σ H _ _ v u Q I rx ry ⟨i, j, rfl, rfl, h.1, h.2⟩
  case ref.ref a b =>
    rcases (show _ ∨ _ from h) with ⟨xs, zs, h1, h2, h3, h4⟩ | ⟨xs, ys, h1, h2, h3, h4⟩
    · exact op_cat pins s σ H _ _ v u Q I rx ry ⟨a, b, xs, zs, rfl, rfl, h1, h2, h3, h4⟩
    · refine op_catA pins s σ H _ _ v u Q I rx ry ⟨a, b, xs, ys, rfl, rfl, h1, h2, h3, fun e => ?_, fun _ e => ?_, fun _ _ p hp => ?_⟩
      · subst e; exact h4 b H (Evl.Ex.refl H) h2 (.inl rfl)
      · subst e; exact h4 a H (Evl.Ex.refl H) (by rw [List.append_nil]; exact h1) (.inl rfl)
      · exact h4 p _ (Evl.Ex.new hp) (SqT.of upd_same) (.inr ⟨hp, rfl⟩)
def rIsG : R2 := fun x y H Q => match y with
  | .non => Q (.bl (decide (x = .non))) H
  | .bl b => Q (.bl (decide (x = .bl b))) H
  | _ => False
theorem is_plain {x : V} {v : Value} (r : RelV x v) (b : Bool) : plainIs v (.bool b) = true := by
  cases x <;> first
    | (cases r; rfl)
    | (obtain ⟨t, rfl⟩ := r; rfl)
theorem bool_of {x : V} {b : Bool} (r : RelV x (.bool b)) : x = .bl b := (Option.some.inj (show some (V.bl b) = some x from r.abs)).symm
theorem op_isG : OpR X (compareOp .Is) rIsG := by
  intro pins s σ H x y v u Q I rx ry h
  cases y <;> try exact (show False from h).elim
  case non => exact op_isN pins s σ H _ _ v u Q I rx ry ⟨rfl, h⟩
  case bl b =>
    cases (show u = Value.bool b from ry)
    have q : Q (.bl (decide (x = .bl b))) H := h
    by_cases e : x = .bl b
    · subst e
      cases (show v = Value.bool b from rx)
      exact wpAny_is_self rfl ⟨.bl true, H, I, rfl, by simpa using q⟩
    · exact wpAny_is_other (is_plain rx b) (fun z => e (by subst z; exact bool_of rx)) ⟨.bl false, H, I, rfl, by simpa [e] using q⟩
def rMulG : R2 := fun x y H Q => match x, y with
  | .int i, .int j => (CMul i j ∨ CMulW i j) ∧ Q (.int (i * j)) H
  | .ref a, .int k => ∃ xs, H a = some (.lst xs) ∧ -(2 ^ 63) ≤ k ∧ k < 2 ^ 63 ∧ xs.length * k.toNat ≤ sizeLine ∧ ∀ p, H p = none → Q (.ref p) (upd H p (.lst (List.replicate k.toNat xs).flatten))
  | _, _ => False
theorem op_mulG : OpR X (binaryOp .Mult) rMulG := by
  intro pins s σ H x y v u Q I rx ry h
  cases x <;> cases y <;> try exact (show False from h).elim
  case int.int i j =>
    obtain ⟨hc, h⟩ := (show (CMul i j ∨ CMulW i j) ∧ Q (.int (i * j)) H from h)
    rcases hc with hc | hc
    · exact op_mul pins s σ H _ _ v u Q I rx ry ⟨i, j, rfl, rfl, hc, h⟩
    · exact op_mulW pins s σ H _ _ v u Q I rx ry ⟨i, j, rfl, rfl, hc, h⟩
  case ref.int a k =>
    obtain ⟨xs, h1, h2, h3, h4, h5⟩ := h
    exact op_rep pins s σ H _ _ v u Q I rx ry ⟨a, k, xs, rfl, rfl, h1, h2, h3, h4, h5⟩
/-- order: ints; texts; tuples of ints -/
def rOrdG (K : PySem.W.Frag) (fi : Int → Int → Bool) : R2 := fun x y H Q => match x, y with
  | .int i, .int j => Q (.bl (fi i j)) H
  | _, _ => False
theorem op_ltG : OpR X (compareOp .Lt) (rOrdG X.K fun i j => decide (i < j)) := by
  intro pins s σ H x y v u Q I rx ry h
  cases x <;> cases y <;> try exact (show False from h).elim
  case int.int i j => exact op_lt pins s σ H _ _ v u Q I rx ry ⟨i, j, rfl, rfl, h⟩
theorem op_leG : OpR X (compareOp .LtE) (rOrdG X.K fun i j => decide (i ≤ j)) := by
  intro pins s σ H x y v u Q I rx ry h
  cases x <;> cases y <;> try exact (show False from h).elim
  case int.int i j => exact op_le pins s σ H _ _ v u Q I rx ry ⟨i, j, rfl, rfl, h⟩
theorem op_gtG : OpR X (compareOp .Gt) (rOrdG X.K fun i j => decide (j < i)) := by
  intro pins s σ H x y v u Q I rx ry h
  cases x <;> cases y <;> try exact (show False from h).elim
  case int.int i j => exact op_gt pins s σ H _ _ v u Q I rx ry ⟨i, j, rfl, rfl, h⟩
theorem op_geG : OpR X (compareOp .GtE) (rOrdG X.K fun i j => decide (j ≤ i)) := by
  intro pins s σ H x y v u Q I rx ry h
  cases x <;> cases y <;> try exact (show False from h).elim
  case int.int i j => exact op_ge pins s σ H _ _ v u Q I rx ry ⟨i, j, rfl, rfl, h⟩
/-- == : ints, texts, bools, None; else data of any depth -/
def rEqG (K : PySem.W.Frag) (neg : Bool) : R2 := fun x y H Q => match x, y with
  | .int i, .int j => Q (.bl (if neg then !decide (i = j) else decide (i = j))) H
  | .str i, .str j => Q (.bl (if neg then !decide (i = j) else decide (i = j))) H
  | .bl i, .bl j => Q (.bl (if neg then !decide (i = j) else decide (i = j))) H
  | x, y => ∃ d e, Dp K H x d ∧ Dp K H y e ∧ SeqAt.shaped d = true ∧ SeqAt.shaped e = true ∧ Q (.bl (if neg then !PyData.eqv d e else PyData.eqv d e)) H
theorem dec_V {α : Type} {f : α → V} [DecidableEq α] (inj : ∀ a b, f a = f b → a = b) (i j : α) : decide (f i = f j) = decide (i = j) := by
  by_cases e : i = j
  · rw [decide_eq_true e, decide_eq_true (congrArg f e)]
  · rw [decide_eq_false e, decide_eq_false fun z => e (inj _ _ z)]
theorem op_eqG (hu : X.A.units + 64 < cLine) : OpR X (compareOp .Eq) (rEqG X.K false) := by
  intro pins s σ H x y v u Q I rx ry h
  have gen : (∃ d e, Dp X.K H x d ∧ Dp X.K H y e ∧ SeqAt.shaped d = true ∧ SeqAt.shaped e = true ∧ Q (.bl (PyData.eqv d e)) H) → wpAny (model X.prog X.w) X.A (compareOp .Eq v u) (EP X pins σ Q) X.xe s :=
    fun g => op_eqD hu pins s σ H _ _ v u Q I rx ry g
  have sc : scal x y = true → Q (.bl (decide (x = y))) H → wpAny (model X.prog X.w) X.A (compareOp .Eq v u) (EP X pins σ Q) X.xe s :=
    fun g q => op_eq pins s σ H _ _ v u Q I rx ry ⟨g, q⟩
  cases x <;> cases y <;> first
    | exact gen h
    | (refine sc rfl ?_; rw [dec_V (f := V.int) (fun a b z => V.int.inj z)]; exact h)
    | (refine sc rfl ?_; rw [dec_V (f := V.str) (fun a b z => V.str.inj z)]; exact h)
    | (refine sc rfl ?_; rw [dec_V (f := V.bl) (fun a b z => V.bl.inj z)]; exact h)
theorem op_neG (hu : X.A.units + 64 < cLine) : OpR X (compareOp .NotEq) (rEqG X.K true) := by
  intro pins s σ H x y v u Q I rx ry h
  have gen : (∃ d e, Dp X.K H x d ∧ Dp X.K H y e ∧ SeqAt.shaped d = true ∧ SeqAt.shaped e = true ∧ Q (.bl (!PyData.eqv d e)) H) → wpAny (model X.prog X.w) X.A (compareOp .NotEq v u) (EP X pins σ Q) X.xe s :=
    fun g => op_neD hu pins s σ H _ _ v u Q I rx ry g
  have sc : scal x y = true → Q (.bl (!decide (x = y))) H → wpAny (model X.prog X.w) X.A (compareOp .NotEq v u) (EP X pins σ Q) X.xe s :=
    fun g q => op_ne pins s σ H _ _ v u Q I rx ry ⟨g, q⟩
  cases x <;> cases y <;> first
    | exact gen h
    | (refine sc rfl ?_; rw [dec_V (f := V.int) (fun a b z => V.int.inj z)]; exact h)
    | (refine sc rfl ?_; rw [dec_V (f := V.str) (fun a b z => V.str.inj z)]; exact h)
    | (refine sc rfl ?_; rw [dec_V (f := V.bl) (fun a b z => V.bl.inj z)]; exact h)
/-! ### subscripts, slices -/
def rIxG (K : PySem.W.Frag) : R2 := fun x y H Q => match x, y with
  | .ref p, .int i => ∃ xs v, Sq K H p xs ∧ atI xs i = some v ∧ Q v H
  | .str z, .int i => ∃ c, z.length ≤ sizeLine ∧ atI z.cps.toList i = some c ∧ Q (.str ⟨#[c]⟩) H
  | _, _ => False
theorem ix_G : IxR X (rIxG X.K) := by
  intro value slice pins s σ H x y v u Q I rx ry h hs
  cases x <;> cases y <;> try exact (show False from h).elim
  case ref.int p i =>
    obtain ⟨xs, w, h1, h2, h3⟩ := h
    rcases h1 with h1 | h1
    · exact ix_list value slice pins s σ H _ _ v u Q I rx ry ⟨p, xs, i, w, rfl, rfl, h1, h2, h3⟩ hs
    · exact ix_tup value slice pins s σ H _ _ v u Q I rx ry ⟨p, xs, i, w, rfl, rfl, h1, h2, h3⟩ hs
  case str.int z i =>
    obtain ⟨c, h1, h2, h3⟩ := h
    exact ix_str value slice pins s σ H _ _ v u Q I rx ry ⟨z, i, c, rfl, rfl, h1, h2, h3⟩ hs
def rSlG (K : PySem.W.Frag) : V → Option Int → Option Int → Hp → VK → Prop := fun x lo hi H Q => match x with
  | .ref a => (∃ xs, SqL K H a xs ∧ ∀ p, H p = none → Q (.ref p) (upd H p (.lst (cutV xs lo hi)))) ∨
      ∃ xs, SqT K H a xs ∧ ∀ p H', Evl.Ex H H' → SqT K H' p (cutV xs lo hi) → (H' = H ∨ (H p = none ∧ H' = upd H p (.tup (cutV xs lo hi)))) → Q (.ref p) H'
  | .str z => z.length ≤ sizeLine ∧ Q (.str (cutS z lo hi)) H
  | _ => False
theorem cutV_whole {xs : List V} {lo hi : Option Int} (h : HT.sIx xs.length 0 lo = 0 ∧ HT.sIx xs.length xs.length hi = xs.length) : cutV xs lo hi = xs := by
  unfold cutV
  rw [h.1, h.2]
  simp
theorem sl_G : SlR X (rSlG X.K) := by
  intro pins s σ H x v vl vu lo hi sl Q I rx hs pl pu h
  cases x <;> try exact (show False from h).elim
  case ref a =>
    rcases (show _ ∨ _ from h) with ⟨xs, h1, h2⟩ | ⟨xs, h1, h2⟩
    · exact sl_list pins s σ H _ v vl vu lo hi sl Q I rx hs pl pu ⟨a, xs, rfl, h1, h2⟩
    · refine sl_tupA pins s σ H _ v vl vu lo hi sl Q I rx hs pl pu ⟨a, xs, rfl, h1, fun e => ?_, fun _ p hp => ?_⟩
      · exact h2 a H (Evl.Ex.refl H) (by rw [cutV_whole e]; exact h1) (.inl rfl)
      · exact h2 p _ (Evl.Ex.new hp) (SqT.of upd_same) (.inr ⟨hp, rfl⟩)
  case str z =>
    obtain ⟨h1, h2⟩ := (show z.length ≤ sizeLine ∧ Q (.str (cutS z lo hi)) H from h)
    exact sl_str pins s σ H _ v vl vu lo hi sl Q I rx hs pl pu ⟨z, rfl, h1, h2⟩
/-! ### what a for walks: a list, a tuple, a text -/
def iGv (K : PySem.W.Frag) (x : V) (H1 : Hp) (R : It → Hp → Prop) : Prop := match x with
  | .ref a => ((∃ xs, SqL K H1 a xs) ∧ R (Itl K a) H1) ∨ ((∃ xs, SqT K H1 a xs) ∧ R (Itt K a) H1)
  | .str z => R (Its z) H1
  | _ => False
def iG (K : PySem.W.Frag) (tl : TE) : TI := fun σ H R => tl σ H fun x H1 => iGv K x H1 R
theorem pi_G {tg l : Expr} {tl : TE} (hl : PE X l tl) : PI X tg l (iG X.K tl) := by
  refine ⟨fun pins s σ H R I h => ?_⟩
  refine thn (hl.run pins s σ H _ I h) fun v s1 ⟨x, H1, I1, r1, q⟩ => ?_
  cases x with
  | ref a =>
    obtain rfl : v = Value.ref a := r1
    rcases (show _ ∨ _ from q) with ⟨⟨xs, hq⟩, q2⟩ | ⟨⟨xs, hq⟩, q2⟩
    · obtain ⟨its, rv, pl, hz⟩ := I1.list hq
      exact wpAny_pyIter_list pl.isList (pi_one (tk := s1.toks) I1 _ (turn_list a _) ⟨_, Heap.get?_push_size _ rfl, rfl, rfl⟩ q2)
    · obtain ⟨its, rv, pl, hz⟩ := I1.tuple hq
      exact wpAny_pyIter_tuple (show s1.heap.IsTuple a its.toArray from pl) (pi_one (tk := s1.toks) I1 _ (turn_tuple a _) ⟨_, Heap.get?_push_size _ rfl, rfl, rfl⟩ q2)
  | str z =>
    obtain ⟨t, rfl⟩ := r1
    cases ha : z.cps.all (· < 128) with
    | false => exact wpAny_pyIter_wide ha (pi_one (tk := s1.toks) I1 _ (turn_str _ z t "str_iterator" (.inr rfl)) ⟨_, Heap.get?_push_size _ rfl, rfl, rfl⟩ q)
    | true => exact wpAny_pyIter_ascii ha (pi_one (tk := s1.toks) I1 _ (turn_str _ z t "str_ascii_iterator" (.inl rfl)) ⟨_, Heap.get?_push_size _ rfl, rfl, rfl⟩ q)
  | _ => exact (show False from q).elim
/-! ### augmented -/
/-! ### isinstance with one built-in class -/
theorem call_isiG : CallR X (.builtin "isinstance") (rIsi X.K) := call_isi
theorem hu64 {A : Around} {k : Nat} (hr : Room k A) : A.units + 64 < cLine := hr.units
end
/-! ### a def's contract in one piece -/
structure Cal (P : Program) (w : World) (K : PySem.W.Frag) (mg : Str → Option Value) (base : Heap) (CX : CXT) (k : Nat) (x : Str) (ps : List Str) (sp : Sp) : Prop where
  ex : ∃ (f : Addr) (fd : FuncData), mg x = some (.ref f) ∧ PySem.W.keepIn K (.ref f) = true ∧ Binds K fd ps [] ∧ FnOk P w K mg base CX k f fd ps sp
theorem Cal.mk' {P : Program} {w : World} {K : PySem.W.Frag} {mg : Str → Option Value} {base : Heap} {CX : CXT} {k : Nat} {x : Str} {ps : List Str} {sp : Sp} {f : Addr} {fd : FuncData} (h1 : mg x = some (.ref f)) (h2 : PySem.W.keepIn K (.ref f) = true) (h3 : Binds K fd ps []) (h4 : FnOk P w K mg base CX k f fd ps sp) : Cal P w K mg base CX k x ps sp := ⟨⟨f, fd, h1, h2, h3, h4⟩⟩
/-! ### the head's facts in one piece; ex: what else K says -/
abbrev Ex1 : Type := PySem.W.Frag → Bool
def exAll (ex : List Ex1) (K : PySem.W.Frag) : Bool := ex.all fun f => f K
abbrev AlE : Type := He.AlD × Bool
def obsE (fa : List He.Fa) (fn : List He.DefD) (ex : List Ex1) (K : PySem.W.Frag) : AlE := (He.obsD fa fn K, exAll ex K)
def obsEG (n : Nat) (fa : List He.Fa) (fn : List He.DefD) (ex : List Ex1) (g : Addr → Option Obj) : AlE := obsE fa fn ex (He.frG g (He.asD g n))
def hookE (n : Nat) (fa : List He.Fa) (fn : List He.DefD) (ex : List Ex1) : PySem.W.Hook where
  α := AlE
  obs := fun s => obsEG n fa fn ex s.heap.get?
  val := fun _ => (He.valD fn, true)
  says := fun _ h => ∃ K : PySem.W.Frag, K.In h ∧ He.SaysD fa fn K ∧ exAll ex K = true
  of := fun _ _ e => ⟨_, He.frG_in, congrArg (fun z : AlE => z.1) e, congrArg (fun z : AlE => z.2) e⟩
  keeps := fun _ _ _ ⟨K, hK, c⟩ k => ⟨K, PySem.W.Frag.In.keeps hK k, c⟩
theorem obsEG_eq {n : Nat} {fa : List He.Fa} {fn : List He.DefD} {ex : List Ex1} {g : Addr → Option Obj} {s : Shared} (h : ∀ a, g a = s.heap.get? a) : obsEG n fa fn ex g = (hookE n fa fn ex).obs s := by
  have e : g = s.heap.get? := funext h
  rw [e] <;> rfl
structure Hd (fa : List He.Fa) (fn : List He.DefD) (ex : List Ex1) (K : PySem.W.Frag) (mg : Str → Option Value) : Prop where
  hp : ∃ h : Heap, K.In h ∧ h.Ns mainGlobals mg
  c : He.SaysD fa fn K
  x : exAll ex K = true
section
variable {fa : List He.Fa} {fn : List He.DefD} {ex : List Ex1} {K : PySem.W.Frag} {mg : Str → Option Value}
theorem Hd.free (hd : Hd fa fn ex K mg) {x : Str} (i : Nat) (h : fa[i]? = some (.free x) := by rfl) : mg x = none := by
  obtain ⟨hh, X, G⟩ := hd.hp
  exact He.free_ok X G (hd.c.fact i h)
theorem Hd.glo (hd : Hd fa fn ex K mg) {x : Str} (i : Nat) (h : fa[i]? = some (.glo x) := by rfl) : mg x = some (.ref (He.ga K x)) := by
  obtain ⟨hh, X, G⟩ := hd.hp
  exact He.glo_ok X G (hd.c.fact i h)
theorem Hd.def_ (hd : Hd fa fn ex K mg) (i : Nat) {d : He.DefD} (h : fn[i]? = some d := by rfl) : ∃ fd, FunD K d.name d.qual d.params d.body d.scope (d.dvs K) (d.kws K) (He.fAd K d.at_) fd := hd.c.def_ i h
end
/-! ### promises by the number of parameters -/
def sp1 (p : V → Hp → VK → XK → Prop) : Sp := fun vs H Q E => ∃ a, vs = [a] ∧ p a H Q E
end KP
/-! One step of a reading at a time: each lemma's conclusion begins with one reading's head. -/
namespace KP
open PySem PySem.Spec PyProof.Rows L2 Evl
section
variable {σ : L2.St} {H : Hp} {D : Ends} {t u tb2 : TS} {ta tb tc te : TE} {c c2 : TT} {g : TG} {i : Nat} {v x y : V} {Q : VK} {K : PySem.W.Frag} {a b cc d : L2.St → Hp → Prop} {r : VK} {tas : TA}
/-! expressions -/
/-- the value's truth, with which R holds -/
def TruOk (K : PySem.W.Frag) (x : V) (H : Hp) (R : Bool → Hp → Prop) : Prop := ∃ k, TruV K x H k ∧ R k H
def tTruG (K : PySem.W.Frag) (ta : TE) : TT := fun σ H R => ta σ H fun x H' => TruOk K x H' R
theorem pt_truG {X : Cx} {e : Expr} {te : TE} (he : PE X e te) (hw : ∀ whole, isTrue e X.env whole = (do let v ← whole; standAt e.pos; holding [v] (truthy v))) : PT X e (tTruG X.K te) := pt_truth he hw
/-! values -/
/-! promises -/
/-! tests -/
/-! heaps -/
theorem hp_new {p q : Addr} {o u : HO} (hn : H q = none) (h : H p = some u) : upd H q o p = some u := by rw [upd_ne (ne_of_none h hn)]; exact h
end
/-! promises of the built-ins, named -/
section
variable {X : Cx}
def rLenG (K : PySem.W.Frag) : List V → Hp → VK → Prop := fun xs H Q => (∃ p ys, xs = [.ref p] ∧ Sq K H p ys ∧ (ys.length ≤ sizeLine → Q (.int ys.length) H)) ∨ ∃ z, xs = [.str z] ∧ z.length ≤ sizeLine ∧ Q (.int z.length) H
def rAbsG : List V → Hp → VK → Prop := fun xs H Q => ∃ i, xs = [.int i] ∧ Q (.int (if i < 0 then -i else i)) H
def rMinG : List V → Hp → VK → Prop := fun xs H Q => ∃ i j, xs = [.int i, .int j] ∧ Q (.int (if j < i then j else i)) H
def rIntG : List V → Hp → VK → Prop := fun xs H Q => (∃ i, xs = [.int i] ∧ Q (.int i) H) ∨ ∃ k, xs = [.bl k] ∧ Q (.int (if k then 1 else 0)) H
def rListG (K : PySem.W.Frag) : List V → Hp → VK → Prop := fun xs H Q => ∃ p ys, xs = [.ref p] ∧ (SqL K H p ys ∨ SqT K H p ys) ∧ ∀ l, H l = none → Q (.ref l) (upd H l (.lst ys))
def rTupG (K : PySem.W.Frag) : List V → Hp → VK → Prop := fun xs H Q => ∃ p ys, xs = [.ref p] ∧ ((SqL K H p ys ∧ ∀ l, H l = none → Q (.ref l) (upd H l (.tup ys))) ∨ (SqT K H p ys ∧ Q (.ref p) H))
theorem g_len : CallR X (.builtin "len") (rLenG X.K) := by
  intro pins s σ H xs us Q I r h
  rcases h with ⟨p, ys, rfl, hs, q⟩ | ⟨z, rfl, hz, q⟩
  · rcases hs with hs | hs
    · obtain ⟨_, _, _, hz⟩ := I.list hs
      exact call_len pins s σ H _ us Q I r ⟨.ref p, ys.length, rfl, .inl ⟨ys, hs, rfl⟩, q hz⟩
    · obtain ⟨_, _, _, hz⟩ := I.tuple hs
      exact call_len pins s σ H _ us Q I r ⟨.ref p, ys.length, rfl, .inr ⟨ys, hs, rfl⟩, q hz⟩
  · exact call_len pins s σ H _ us Q I r ⟨.str z, z.length, rfl, ⟨hz, rfl⟩, q⟩
theorem g_abs : CallR X (.builtin "abs") rAbsG := call_abs
theorem g_min (hc : X.calm = true) : CallR X (.builtin "min") rMinG := call_min2 hc
theorem g_int : CallR X (.type "int") rIntG := call_int1
theorem g_list : CallR X (.type "list") (rListG X.K) := call_list_of
theorem g_tuple : CallR X (.type "tuple") (rTupG X.K) := call_tuple_of
end
end KP
/-! Loops, comprehensions, data, drawers. -/
namespace KP
open PySem PySem.Spec PyProof.Rows L2 Evl
/-! ### loops -/
/-! ### data -/
section
variable {K : PySem.W.Frag} {H : Hp}
theorem depth_ints : ∀ ns : List Int, PyData.depthAll (ns.map PyData.int) = 0
  | [] => by simp [PyData.depthAll]
  | n :: r => by simp [PyData.depthAll, PyData.depth, depth_ints r]
theorem eqvAll_ints : ∀ ns ms : List Int, PyData.eqvAll (ns.map PyData.int) (ms.map PyData.int) = decide (ns = ms)
  | [], [] => by simp [PyData.eqvAll]
  | [], m :: ms => by simp [PyData.eqvAll]
  | n :: ns, [] => by simp [PyData.eqvAll]
  | n :: ns, m :: ms => by
    simp only [List.map_cons, PyData.eqvAll, PyData.eqv, eqvAll_ints ns ms, List.cons.injEq]
    by_cases h : n = m <;> simp [h]
theorem eqv_ints (ns ms : List Int) : PyData.eqv (.list (ns.map PyData.int)) (.list (ms.map PyData.int)) = decide (ns = ms) := by
  rw [PyData.eqv, eqvAll_ints]
end
/-! ### drawers -/
section
variable {H H1 H2 : Hp} {a b p : Addr} {o : HO}
/-- a drawer stands at a -/
def Dr (H : Hp) (a : Addr) : Prop := ∃ d s c : Int, H a = some (.lst [.int d, .int s, .int c])
/-- what stood stands, but for the drawer at a, which is a drawer still -/
structure Dw (a : Addr) (H H' : Hp) : Prop where
  dr : Dr H' a
  kp : ∀ b o, b ≠ a → H b = some o → H' b = some o
theorem Dw.trans (x : Dw a H H1) (y : Dw a H1 H2) : Dw a H H2 := ⟨y.dr, fun b o n e => y.kp b o n (x.kp b o n e)⟩
theorem Dw.upd {d s c : Int} : Dw a H (L2.upd H a (.lst [.int d, .int s, .int c])) := ⟨⟨d, s, c, upd_same⟩, fun b o n e => by rw [upd_ne n]; exact e⟩
theorem Dw.refl (h : Dr H a) : Dw a H H := ⟨h, fun _ _ _ e => e⟩
/-- a new object -/
theorem Dw.new (h : Dr H a) (hp : H p = none) : Dw a H (L2.upd H p o) := by
  obtain ⟨d, s, c, h⟩ := h
  exact ⟨⟨d, s, c, hp_new hp h⟩, fun b u _ e => hp_new hp e⟩
theorem Dw.ex (h : Dr H a) (e : Evl.Ex H H1) : Dw a H H1 := by
  obtain ⟨d, s, c, h⟩ := h
  exact ⟨⟨d, s, c, e _ _ h⟩, fun b u _ q => e _ _ q⟩
/-- a list that is no drawer stays -/
theorem Dw.sqL {K : PySem.W.Frag} {xs : List V} (x : Dw a H H1) (n : p ≠ a) (h : SqL K H p xs) : SqL K H1 p xs := by
  rcases h with (h | ⟨o, h⟩) | h
  · exact .inl (.inl (x.kp _ _ n h))
  · exact .inl (.inr ⟨o, x.kp _ _ n h⟩)
  · exact .inr h
end
/-! ### the script -/
/-- the law's script: it is known to the world, or stands in the written part; nothing that a law does changes it -/
def Scr (K : PySem.W.Frag) (H : Hp) (a : Addr) (ns : List Int) : Prop := (∃ o, H a = some (.frz o (.lst (ns.map V.int)))) ∨ ∀ H' : Hp, SqL K H' a (ns.map V.int)
section
variable {K : PySem.W.Frag} {H H1 : Hp} {a d p : Addr} {ns : List Int}
theorem Scr.sq (h : Scr K H a ns) : SqL K H a (ns.map V.int) := by
  rcases h with ⟨o, h⟩ | h
  · exact .inl (.inr ⟨o, h⟩)
  · exact h H
theorem Scr.of (hO : Only H) (h : SqL K H a (ns.map V.int)) : Scr K H a ns := by
  rcases h with (h | h) | h
  · rcases hO a with e | ⟨o, xs, e⟩
    · rw [e] at h; cases h
    · rw [e] at h; cases h
  · exact .inl h
  · exact .inr fun _ => .inr h
theorem Scr.ex (h : Scr K H a ns) (e : Evl.Ex H H1) : Scr K H1 a ns := by
  rcases h with ⟨o, h⟩ | h
  · exact .inl ⟨o, e _ _ h⟩
  · exact .inr h
theorem Scr.new (h : Scr K H a ns) {o : HO} (hp : H p = none) : Scr K (upd H p o) a ns := h.ex (Evl.Ex.new hp)
end
def sp_law (K : PySem.W.Frag) : Sp := sp1 fun x H Q _ => ∃ (a : Addr) (ns : List Int), x = .ref a ∧ Scr K H a ns ∧ ns.length ≤ 63 ∧ ∀ H', Q (.bl true) H'
/-! ### classes of data -/
section
variable {K : PySem.W.Frag} {H : Hp} {p : Addr} {xs : List V}
theorem ty_tup (h : SqT K H p xs) : TyX K H (.ref p) (.type "tuple") := by
  rcases h with (h | ⟨o, h⟩) | ⟨o, its, n, h1, h2, _⟩
  · exact .base (.tup h)
  · exact .fTuple h
  · exact .kTuple h1 h2
end
/-! ### slices -/
/-! ### lists of numbers -/
def nv (l : List Nat) : List V := l.map fun n : Nat => V.int (n : Int)
theorem Dw.fresh {a p : Addr} {H H' : Hp} {o : HO} (x : Dw a H H') (hp : H p = none) (hn : a ≠ p) : Dw a H (L2.upd H' p o) := by
  obtain ⟨⟨d, s, c, h⟩, kp⟩ := x
  exact ⟨⟨d, s, c, by rw [upd_ne hn]; exact h⟩, fun b u n e => by rw [upd_ne (ne_of_none e hp)]; exact kp b u n e⟩
end KP
/-! The mirror's ground: data D, owned trees T, what they mean over the abstract heap; states of the mirror. -/
namespace KM
open PySem PySem.Spec PyProof.Rows L2 Evl KP
/-- data, as deep as it goes -/
inductive D where
  | non | bl (b : Bool) | int (i : Int) | str (x : Str) | ty (n : String) | glo (x : Str)
  | tup (ds : List D) | lst (ds : List D) | fro (ds : List D) | dic (ks ds : List D) | obj (c : Str) (ns : List Str) (ds : List D) | exc (c : Str) (ns : List Str) (ds : List D)
  deriving Inhabited
/-- a tree that is owned: its lists, dicts, instances are reached through it alone; leaves are data that nobody changes any more -/
inductive T where
  | val (d : D) | lst (ts : List T) | dic (ks ds : List D) | obj (c : Str) (ns : List Str) (ts : List T)
  deriving Inhabited
/-- a key of a dict -/
def dKey : Key → D
  | .inl i => .int i
  | .inr x => .str x
def dKeyT (k : List Key) : D := .tup (k.map dKey)
section
variable (K : PySem.W.Frag) (H : Hp) (O : List Addr)
def LstK (p : Addr) (xs : List V) : Prop := ∃ (o : Obj) (its : Array Value) (n : Nat), K.lookup p = some o ∧ o.cls = .type "list" ∧ o.dict = none ∧ o.data = .seq its n ∧ its.size ≤ sizeLine ∧ Vals xs its.toList
def TupK (p : Addr) (xs : List V) : Prop := ∃ (o : Obj) (its : Array Value) (n : Nat), K.lookup p = some o ∧ o.cls = .type "tuple" ∧ o.data = .seq its n ∧ its.size ≤ sizeLine ∧ Vals xs its.toList
def LstAt (p : Addr) (xs : List V) : Prop := p ∉ O ∧ H p = some (.lst xs)
/-- a list that nobody can write -/
def FroAt (p : Addr) (xs : List V) : Prop := (p ∉ O ∧ ∃ o, H p = some (.frz o (.lst xs))) ∨ LstK K p xs
def TupAt (p : Addr) (xs : List V) : Prop := (p ∉ O ∧ Rd H p (.tup xs)) ∨ TupK K p xs
/-- a dict with these keys and values -/
def DicH (p : Addr) (ks : List D) (vs : List V) : Prop :=
  (∃ keys : List Key, ks = keys.map dKey ∧ keys.length = vs.length ∧ Rd H p (.dK (keys.zip vs))) ∨ (∃ keys : List (List Key), ks = keys.map dKeyT ∧ keys.length = vs.length ∧ Rd H p (.dT (keys.zip vs)))
/-- at p: an exception of the class at C that was made, not raised; its attributes, the last one first -/
def ExAt (C p : Addr) (fs : List (Str × V)) : Prop := (fs = [] ∧ H p = some (exo p C none)) ∨ ∃ dx, dx ∉ O ∧ H p = some (exo p C (some dx)) ∧ H dx = some (exd dx fs)
mutual
/-- the value v is the data d; nothing of O is reached -/
def Rv : D → V → Prop
  | .non, v => v = .non
  | .bl b, v => v = .bl b
  | .int i, v => v = .int i
  | .str x, v => v = .str x
  | .ty n, v => v = .ty n
  | .glo x, v => v = .ref (He.ga K x)
  | .tup ds, v => ∃ p vs, v = .ref p ∧ TupAt K H O p vs ∧ Rvs ds vs
  | .lst ds, v => ∃ p vs, v = .ref p ∧ LstAt H O p vs ∧ Rvs ds vs
  | .fro ds, v => ∃ p vs, v = .ref p ∧ FroAt K H O p vs ∧ Rvs ds vs
  | .dic ks ds, v => ∃ p vs, v = .ref p ∧ p ∉ O ∧ DicH H p ks vs ∧ Rvs ds vs
  | .obj c ns ds, v => ∃ p dx vs, v = .ref p ∧ p ∉ O ∧ ns.length = vs.length ∧ H p = some (.ins (He.ga K c) dx (ns.zip vs)) ∧ Rvs ds vs
  | .exc c ns ds, v => ∃ p vs, v = .ref p ∧ p ∉ O ∧ ns.length = vs.length ∧ ExAt H O (He.ga K c) p (ns.zip vs) ∧ Rvs ds vs
def Rvs : List D → List V → Prop
  | [], vs => vs = []
  | d :: ds, vs => ∃ v vs', vs = v :: vs' ∧ Rv d v ∧ Rvs ds vs'
end
mutual
/-- the value v is the tree t, whose own objects lie at fp -/
def Ow : T → V → List Addr → Prop
  | .val d, v, fp => fp = [] ∧ Rv K H O d v
  | .lst ts, v, fp => ∃ p vs fq, v = .ref p ∧ fp = p :: fq ∧ H p = some (.lst vs) ∧ Ows ts vs fq
  | .dic ks ds, v, fp => ∃ p vs, v = .ref p ∧ fp = [p] ∧ Mut (H p) ∧ DicH H p ks vs ∧ Rvs K H O ds vs
  | .obj c ns ts, v, fp => ∃ p dx vs fq, v = .ref p ∧ fp = p :: fq ∧ ns.length = vs.length ∧ H p = some (.ins (He.ga K c) dx (ns.zip vs)) ∧ Ows ts vs fq
def Ows : List T → List V → List Addr → Prop
  | [], vs, fp => vs = [] ∧ fp = []
  | t :: ts, vs, fp => ∃ v vs' f1 f2, vs = v :: vs' ∧ fp = f1 ++ f2 ∧ Ow t v f1 ∧ Ows ts vs' f2
end
end
/-- the mirror's state: what each name holds; none: nothing that may be asked -/
abbrev Env := List (Option T)
section
variable (K : PySem.W.Frag) (H : Hp) (O : List Addr)
def Ce : Env → L2.St → List Addr → Prop
  | [], σ, W => σ = [] ∧ W = []
  | none :: env, σ, W => ∃ s σ', σ = s :: σ' ∧ Ce env σ' W
  | some t :: env, σ, W => ∃ v σ' f1 f2, σ = some v :: σ' ∧ W = f1 ++ f2 ∧ Ow K H O t v f1 ∧ Ce env σ' f2
end
/-! ### what stays -/
/-- all of H but what lies in O stays in H'; O' has of H nothing new -/
structure Lv (H : Hp) (O : List Addr) (H' : Hp) (O' : List Addr) : Prop where
  kp : ∀ p o, p ∉ O → H p = some o → H' p = some o
  out : ∀ p, p ∈ O' → p ∈ O ∨ H p = none
section
variable {K : PySem.W.Frag} {H H' : Hp} {O O' : List Addr}
theorem Lv.no (l : Lv H O H' O') {p : Addr} {o : HO} (hn : p ∉ O) (h : H p = some o) : p ∉ O' := fun z => by
  rcases l.out p z with z | z
  · exact hn z
  · rw [h] at z; cases z
theorem Lv.rd (l : Lv H O H' O') {p : Addr} {o : HO} (hn : p ∉ O) (h : Rd H p o) : p ∉ O' ∧ Rd H' p o := by
  rcases h with h | ⟨u, h⟩
  · exact ⟨l.no hn h, .inl (l.kp _ _ hn h)⟩
  · exact ⟨l.no hn h, .inr ⟨u, l.kp _ _ hn h⟩⟩
theorem LstAt.lv (l : Lv H O H' O') {p : Addr} {xs : List V} (h : LstAt H O p xs) : LstAt H' O' p xs := ⟨l.no h.1 h.2, l.kp _ _ h.1 h.2⟩
theorem FroAt.lv (l : Lv H O H' O') {p : Addr} {xs : List V} (h : FroAt K H O p xs) : FroAt K H' O' p xs := by
  rcases h with ⟨hn, o, h⟩ | h
  · exact .inl ⟨l.no hn h, o, l.kp _ _ hn h⟩
  · exact .inr h
theorem TupAt.lv (l : Lv H O H' O') {p : Addr} {xs : List V} (h : TupAt K H O p xs) : TupAt K H' O' p xs := by
  rcases h with ⟨hn, h⟩ | h
  · exact .inl (l.rd hn h)
  · exact .inr h
theorem DicH.at (l : Lv H O H' O') {p : Addr} (hn : p ∉ O) {ks : List D} {vs : List V} (h : DicH H p ks vs) : p ∉ O' ∧ DicH H' p ks vs := by
  rcases h with ⟨keys, e, z, h⟩ | ⟨keys, e, z, h⟩
  · obtain ⟨a, b⟩ := l.rd hn h
    exact ⟨a, .inl ⟨keys, e, z, b⟩⟩
  · obtain ⟨a, b⟩ := l.rd hn h
    exact ⟨a, .inr ⟨keys, e, z, b⟩⟩
theorem ExAt.lv (l : Lv H O H' O') {C p : Addr} {fs : List (Str × V)} (n : p ∉ O) (h : ExAt H O C p fs) : p ∉ O' ∧ ExAt H' O' C p fs := by
  rcases h with ⟨e, h⟩ | ⟨dx, nd, h, hd⟩
  · exact ⟨l.no n h, .inl ⟨e, l.kp _ _ n h⟩⟩
  · exact ⟨l.no n h, .inr ⟨dx, l.no nd hd, l.kp _ _ n h, l.kp _ _ nd hd⟩⟩
mutual
theorem Rv.lv (l : Lv H O H' O') : ∀ {d : D} {v : V}, Rv K H O d v → Rv K H' O' d v
  | .non, _, h => h
  | .bl _, _, h => h
  | .int _, _, h => h
  | .str _, _, h => h
  | .ty _, _, h => h
  | .glo _, _, h => h
  | .tup ds, _, ⟨p, vs, e, a, r⟩ => ⟨p, vs, e, a.lv l, Rvs.lv l r⟩
  | .lst ds, _, ⟨p, vs, e, a, r⟩ => ⟨p, vs, e, a.lv l, Rvs.lv l r⟩
  | .fro ds, _, ⟨p, vs, e, a, r⟩ => ⟨p, vs, e, a.lv l, Rvs.lv l r⟩
  | .dic ks ds, _, ⟨p, vs, e, n, a, r⟩ => ⟨p, vs, e, (a.at l n).1, (a.at l n).2, Rvs.lv l r⟩
  | .obj c ns ds, _, ⟨p, dx, vs, e, n, z, a, r⟩ => ⟨p, dx, vs, e, l.no n a, z, l.kp _ _ n a, Rvs.lv l r⟩
  | .exc c ns ds, _, ⟨p, vs, e, n, z, a, r⟩ => ⟨p, vs, e, (a.lv l n).1, z, (a.lv l n).2, Rvs.lv l r⟩
theorem Rvs.lv (l : Lv H O H' O') : ∀ {ds : List D} {vs : List V}, Rvs K H O ds vs → Rvs K H' O' ds vs
  | [], _, h => h
  | d :: ds, _, ⟨v, vs', e, a, r⟩ => ⟨v, vs', e, Rv.lv l a, Rvs.lv l r⟩
end
/-- H' has what H has at fp -/
def Kp (H H' : Hp) (fp : List Addr) : Prop := ∀ p ∈ fp, H' p = H p
theorem Kp.l {a b : List Addr} (k : Kp H H' (a ++ b)) : Kp H H' a := fun p hp => k p (List.mem_append_left _ hp)
theorem Kp.r {a b : List Addr} (k : Kp H H' (a ++ b)) : Kp H H' b := fun p hp => k p (List.mem_append_right _ hp)
theorem Kp.t {a : Addr} {b : List Addr} (k : Kp H H' (a :: b)) : Kp H H' b := fun p hp => k p (List.mem_cons_of_mem _ hp)
theorem Kp.h {a : Addr} {b : List Addr} (k : Kp H H' (a :: b)) : H' a = H a := k a List.mem_cons_self
mutual
theorem Ow.lv (l : Lv H O H' O') : ∀ {t : T} {v : V} {fp : List Addr}, Kp H H' fp → Ow K H O t v fp → Ow K H' O' t v fp
  | .val d, _, _, _, ⟨e, r⟩ => ⟨e, r.lv l⟩
  | .lst ts, _, _, k, ⟨p, vs, fq, e, ef, h, r⟩ => by
    subst ef
    exact ⟨p, vs, fq, e, rfl, by rw [k.h]; exact h, Ows.lv l k.t r⟩
  | .dic ks ds, _, _, k, ⟨p, vs, e, ef, m, h, r⟩ => by
    subst ef
    refine ⟨p, vs, e, rfl, by rw [k.h]; exact m, ?_, r.lv l⟩
    rcases h with ⟨keys, e, z, h⟩ | ⟨keys, e, z, h⟩
    · refine .inl ⟨keys, e, z, ?_⟩
      unfold Rd
      rw [k.h]
      exact h
    · refine .inr ⟨keys, e, z, ?_⟩
      unfold Rd
      rw [k.h]
      exact h
  | .obj c ns ts, _, _, k, ⟨p, dx, vs, fq, e, ef, z, h, r⟩ => by
    subst ef
    exact ⟨p, dx, vs, fq, e, rfl, z, by rw [k.h]; exact h, Ows.lv l k.t r⟩
theorem Ows.lv (l : Lv H O H' O') : ∀ {ts : List T} {vs : List V} {fp : List Addr}, Kp H H' fp → Ows K H O ts vs fp → Ows K H' O' ts vs fp
  | [], _, _, _, h => h
  | t :: ts, _, _, k, ⟨v, vs', f1, f2, e, ef, a, r⟩ => by
    subst ef
    exact ⟨v, vs', f1, f2, e, rfl, Ow.lv l k.l a, Ows.lv l k.r r⟩
end
theorem Ce.lv (l : Lv H O H' O') : ∀ {env : Env} {σ : L2.St} {W : List Addr}, Kp H H' W → Ce K H O env σ W → Ce K H' O' env σ W
  | [], _, _, _, h => h
  | none :: env, _, _, k, ⟨s, σ', e, r⟩ => ⟨s, σ', e, Ce.lv l k r⟩
  | some t :: env, _, _, k, ⟨v, σ', f1, f2, e, ef, a, r⟩ => by
    subst ef
    exact ⟨v, σ', f1, f2, e, rfl, a.lv l k.l, Ce.lv l k.r r⟩
theorem Mut.ex {p : Addr} (h : Mut (H p)) : ∃ o, H p = some o := by
  cases z : H p with
  | none => rw [z] at h; exact h.elim
  | some o => exact ⟨o, rfl⟩
theorem Mut.of {p : Addr} {o : HO} (e : H p = some o) (h : Mut (some o)) : Mut (H p) := by rw [e]; exact h
mutual
theorem Ow.dom : ∀ {t : T} {v : V} {fp : List Addr}, Ow K H O t v fp → ∀ p ∈ fp, Mut (H p)
  | .val d, _, _, ⟨e, _⟩ => by subst e; simp
  | .lst ts, _, _, ⟨p, vs, fq, e, ef, h, r⟩ => by
    subst ef
    intro q hq
    rcases List.mem_cons.mp hq with rfl | hq
    · exact Mut.of h trivial
    · exact Ows.dom r q hq
  | .dic ks ds, _, _, ⟨p, vs, e, ef, m, h, r⟩ => by
    subst ef
    intro q hq
    obtain rfl : q = p := by simpa using hq
    exact m
  | .obj c ns ts, _, _, ⟨p, dx, vs, fq, e, ef, z, h, r⟩ => by
    subst ef
    intro q hq
    rcases List.mem_cons.mp hq with rfl | hq
    · exact Mut.of h trivial
    · exact Ows.dom r q hq
theorem Ows.dom : ∀ {ts : List T} {vs : List V} {fp : List Addr}, Ows K H O ts vs fp → ∀ p ∈ fp, Mut (H p)
  | [], _, _, ⟨_, e⟩ => by subst e; simp
  | t :: ts, _, _, ⟨v, vs', f1, f2, e, ef, a, r⟩ => by
    subst ef
    intro q hq
    rcases List.mem_append.mp hq with hq | hq
    · exact Ow.dom a q hq
    · exact Ows.dom r q hq
end
theorem Ce.dom : ∀ {env : Env} {σ : L2.St} {W : List Addr}, Ce K H O env σ W → ∀ p ∈ W, Mut (H p)
  | [], _, _, ⟨_, e⟩ => by subst e; simp
  | none :: env, _, _, ⟨s, σ', e, r⟩ => Ce.dom r
  | some t :: env, _, _, ⟨v, σ', f1, f2, e, ef, a, r⟩ => by
    subst ef
    intro q hq
    rcases List.mem_append.mp hq with hq | hq
    · exact a.dom q hq
    · exact Ce.dom r q hq
theorem Ce.len : ∀ {env : Env} {σ : L2.St} {W : List Addr}, Ce K H O env σ W → σ.length = env.length
  | [], _, _, ⟨e, _⟩ => by subst e; rfl
  | none :: env, _, _, ⟨s, σ', e, r⟩ => by subst e; simp [Ce.len r]
  | some t :: env, _, _, ⟨v, σ', f1, f2, e, ef, a, r⟩ => by subst e; simp [Ce.len r]
end
/-! ### a tree becomes data -/
mutual
def toD : T → D
  | .val d => d
  | .lst ts => .lst (toDs ts)
  | .dic ks ds => .dic ks ds
  | .obj c ns ts => .obj c ns (toDs ts)
def toDs : List T → List D
  | [] => []
  | t :: ts => toD t :: toDs ts
end
section
variable {K : PySem.W.Frag} {H H' : Hp} {O O' : List Addr}
theorem Lv.sub (h : ∀ p ∈ O', p ∈ O) : Lv H O H O' := ⟨fun _ _ _ h => h, fun p z => .inl (h p z)⟩
mutual
theorem Ow.toD (hs : ∀ p ∈ O', p ∈ O) : ∀ {t : T} {v : V} {fp : List Addr}, (∀ p ∈ fp, p ∉ O') → Ow K H O t v fp → Rv K H O' (toD t) v
  | .val d, _, _, _, ⟨e, r⟩ => r.lv (Lv.sub hs)
  | .lst ts, _, _, n, ⟨p, vs, fq, e, ef, h, r⟩ => by
    subst ef
    exact ⟨p, vs, e, ⟨n p List.mem_cons_self, h⟩, Ows.toD hs (fun q hq => n q (List.mem_cons_of_mem _ hq)) r⟩
  | .dic ks ds, _, _, n, ⟨p, vs, e, ef, m, h, r⟩ => by
    subst ef
    exact ⟨p, vs, e, n p List.mem_cons_self, h, r.lv (Lv.sub hs)⟩
  | .obj c ns ts, _, _, n, ⟨p, dx, vs, fq, e, ef, z, h, r⟩ => by
    subst ef
    exact ⟨p, dx, vs, e, n p List.mem_cons_self, z, h, Ows.toD hs (fun q hq => n q (List.mem_cons_of_mem _ hq)) r⟩
theorem Ows.toD (hs : ∀ p ∈ O', p ∈ O) : ∀ {ts : List T} {vs : List V} {fp : List Addr}, (∀ p ∈ fp, p ∉ O') → Ows K H O ts vs fp → Rvs K H O' (toDs ts) vs
  | [], _, _, _, ⟨e, _⟩ => e
  | t :: ts, _, _, n, ⟨v, vs', f1, f2, e, ef, a, r⟩ => by
    subst ef
    exact ⟨v, vs', e, Ow.toD hs (fun q hq => n q (List.mem_append_left _ hq)) a, Ows.toD hs (fun q hq => n q (List.mem_append_right _ hq)) r⟩
end
theorem Rvs.len : ∀ {ds : List D} {vs : List V}, Rvs K H O ds vs → vs.length = ds.length
  | [], _, e => by cases (show _ = [] from e); rfl
  | d :: ds, _, ⟨v, vs', e, _, r⟩ => by subst e; simp [Rvs.len r]
theorem Ows.len : ∀ {ts : List T} {vs : List V} {fp : List Addr}, Ows K H O ts vs fp → vs.length = ts.length
  | [], _, _, ⟨e, _⟩ => by subst e; rfl
  | d :: ds, _, _, ⟨v, vs', _, _, e, _, _, r⟩ => by subst e; simp [Ows.len r]
theorem Rvs.get : ∀ {ds : List D} {vs : List V} {i : Nat} {d : D}, Rvs K H O ds vs → ds[i]? = some d → ∃ v, vs[i]? = some v ∧ Rv K H O d v
  | _ :: _, _, 0, _, ⟨v, vs', e, a, r⟩, h => by subst e; simp at h; subst h; exact ⟨v, rfl, a⟩
  | _ :: ds, _, i + 1, d, ⟨v, vs', e, a, r⟩, h => by
    subst e
    obtain ⟨w, h1, h2⟩ := Rvs.get (i := i) r (by simpa using h)
    exact ⟨w, by simpa using h1, h2⟩
theorem Rvs.app : ∀ {ds es : List D} {vs us : List V}, Rvs K H O ds vs → Rvs K H O es us → Rvs K H O (ds ++ es) (vs ++ us)
  | [], _, _, _, e, r => by cases (show _ = [] from e); exact r
  | d :: ds, es, _, us, ⟨v, vs', e, a, r⟩, q => by subst e; exact ⟨v, vs' ++ us, rfl, a, Rvs.app r q⟩
theorem Rvs.take : ∀ (n : Nat) {ds : List D} {vs : List V}, Rvs K H O ds vs → Rvs K H O (ds.take n) (vs.take n)
  | 0, _, _, _ => by simp [Rvs]
  | n + 1, [], _, e => by cases (show _ = [] from e); simp [Rvs]
  | n + 1, d :: ds, _, ⟨v, vs', e, a, r⟩ => by subst e; exact ⟨v, vs'.take n, rfl, a, Rvs.take n r⟩
theorem Rvs.drop : ∀ (n : Nat) {ds : List D} {vs : List V}, Rvs K H O ds vs → Rvs K H O (ds.drop n) (vs.drop n)
  | 0, _, _, r => r
  | n + 1, [], _, e => by cases (show _ = [] from e); simp [Rvs]
  | n + 1, d :: ds, _, ⟨v, vs', e, a, r⟩ => by subst e; exact Rvs.drop n r
theorem Rvs.set : ∀ (i : Nat) {ds : List D} {vs : List V} {d : D} {v : V}, Rvs K H O ds vs → Rv K H O d v → Rvs K H O (ds.set i d) (vs.set i v)
  | _, [], _, _, _, e, _ => by cases (show _ = [] from e); simp [Rvs]
  | 0, _ :: _, _, _, w, ⟨v, vs', e, a, r⟩, q => by subst e; exact ⟨w, vs', rfl, q, r⟩
  | i + 1, _ :: _, _, _, w, ⟨v, vs', e, a, r⟩, q => by subst e; exact ⟨v, vs'.set i w, rfl, a, Rvs.set i r q⟩
end
section
variable {K : PySem.W.Frag} {H : Hp} {O : List Addr}
theorem TupAt.of (hn : ∀ p ∈ O, Mut (H p)) {p : Addr} {xs : List V} (h : SqT K H p xs) : TupAt K H O p xs := by
  rcases h with h | h
  · refine .inl ⟨fun z => ?_, h⟩
    have m := hn p z
    rcases h with h | ⟨o, h⟩ <;> (rw [h] at m; exact m)
  · exact .inr h
end
end KM
/-! The mirror's judgements: operands, places, expressions. -/
namespace KM
open PySem PySem.Spec PyProof.Rows L2 Evl KP
/-! ### results -/
inductive Rs (α : Type) where
  | ok (a : α) (env : Env) | exc (c : Str) (ns : List Str) (ds : List D) (env : Env) | stuck
abbrev M (α : Type) := Env → Rs α
def M.ret {α : Type} (a : α) : M α := fun env => .ok a env
def M.bnd {α β : Type} (m : M α) (k : α → M β) : M β := fun env => match m env with
  | .ok a e => k a e
  | .exc c ns ds e => .exc c ns ds e
  | .stuck => .stuck
def M.opt {α : Type} : Option α → M α
  | some a => fun env => .ok a env
  | none => fun _ => .stuck
def Rs.To {α : Type} (r : Rs α) (Q : α → Env → Prop) (X : Str → List Str → List D → Env → Prop) : Prop := match r with
  | .ok a e => Q a e
  | .exc c ns ds e => X c ns ds e
  | .stuck => False
theorem Rs.To.mono {α : Type} {r : Rs α} {Q Q' : α → Env → Prop} {X X' : Str → List Str → List D → Env → Prop} (h : r.To Q X) (hq : ∀ a e, Q a e → Q' a e) (hx : ∀ c ns ds e, X c ns ds e → X' c ns ds e) : r.To Q' X' := by
  cases r with
  | ok a e => exact hq a e h
  | exc c ns ds e => exact hx c ns ds e h
  | stuck => exact h
theorem M.bnd_to {α β : Type} {m : M α} {k : α → M β} {env : Env} {Q : β → Env → Prop} {X : Str → List Str → List D → Env → Prop} (h : (m.bnd k env).To Q X) : (m env).To (fun a e => (k a e).To Q X) X := by
  unfold M.bnd at h
  cases z : m env with
  | ok a e => rw [z] at h; exact h
  | exc c ns ds e => rw [z] at h; exact h
  | stuck => rw [z] at h; exact h
theorem M.opt_to {α : Type} {o : Option α} {env : Env} {Q : α → Env → Prop} {X : Str → List Str → List D → Env → Prop} (h : (M.opt o env).To Q X) : ∃ a, o = some a ∧ Q a env := by
  cases o with
  | some a => exact ⟨a, rfl, h⟩
  | none => exact h.elim
/-! ### states -/
structure ER (K : PySem.W.Frag) (Oo W : List Addr) (σ : L2.St) (H : Hp) (env : Env) : Prop where
  ce : Ce K H (Oo ++ W) env σ W
  nd : W.Nodup
  dj : ∀ p ∈ W, p ∉ Oo
  dom : ∀ p ∈ Oo, Mut (H p)
section
variable {K : PySem.W.Frag} {H H' H1 H2 : Hp} {O O' Oo W W' W1 W2 fp : List Addr} {σ : L2.St} {env env' : Env}
theorem Lv.refl (H : Hp) (W : List Addr) : Lv H W H W := ⟨fun _ _ _ h => h, fun _ h => .inl h⟩
theorem Lv.trans (a : Lv H W H1 W1) (b : Lv H1 W1 H2 W2) : Lv H W H2 W2 :=
  ⟨fun p o n h => b.kp p o (a.no n h) (a.kp p o n h), fun p hp => by
    rcases b.out p hp with z | z
    · exact a.out p z
    · by_cases hn : p ∈ W
      · exact .inl hn
      · cases q : H p with
        | none => exact .inr rfl
        | some o => rw [a.kp p o hn q] at z; cases z⟩
/-- with others' objects -/
theorem Lv.oo (a : Lv H W H' W') (Oo : List Addr) : Lv H (Oo ++ W) H' (Oo ++ W') :=
  ⟨fun p o n h => a.kp p o (fun z => n (List.mem_append_right _ z)) h, fun p hp => by
    rcases List.mem_append.mp hp with z | z
    · exact .inl (List.mem_append_left _ z)
    · rcases a.out p z with z | z
      · exact .inl (List.mem_append_right _ z)
      · exact .inr z⟩
theorem Lv.ex (e : Evl.Ex H H') : Lv H W H' W := ⟨fun p o _ h => e p o h, fun p h => .inl h⟩
theorem Lv.less (h : ∀ p ∈ W', p ∈ W) : Lv H W H W' := ⟨fun _ _ _ h => h, fun p z => .inl (h p z)⟩
theorem Kp.ex (e : Evl.Ex H H') (d : ∀ p ∈ fp, Mut (H p)) : Kp H H' fp := fun p hp => by
  obtain ⟨o, h⟩ := Mut.ex (d p hp)
  rw [h]
  exact e p o h
/-- new objects -/
theorem ER.ex (E : ER K Oo W σ H env) (e : Evl.Ex H H') : ER K Oo W σ H' env :=
  ⟨E.ce.lv (Lv.ex e) (Kp.ex e E.ce.dom), E.nd, E.dj, fun p hp => by
    obtain ⟨o, h⟩ := Mut.ex (E.dom p hp)
    have m := E.dom p hp
    rw [h] at m
    rw [e p o h]
    exact m⟩
theorem ER.len (E : ER K Oo W σ H env) : σ.length = env.length := E.ce.len
theorem ER.domA (E : ER K Oo W σ H env) : ∀ p ∈ Oo ++ W, Mut (H p) := fun p hp => by
  rcases List.mem_append.mp hp with z | z
  · exact E.dom p z
  · exact E.ce.dom p z
theorem ER.new (E : ER K Oo W σ H env) {p : Addr} (hp : H p = none) : p ∉ Oo ++ W := fun z => by
  obtain ⟨o, h⟩ := Mut.ex (E.domA p z)
  rw [hp] at h; cases h
/-! ### one name's cell -/
theorem Ce.at : ∀ {env : Env} {σ : L2.St} {W : List Addr} {i : Nat} {t : T}, Ce K H O env σ W → env[i]? = some (some t) →
    ∃ v A f B, σ[i]? = some (some v) ∧ W = A ++ f ++ B ∧ Ow K H O t v f ∧
      ∀ {H' : Hp} {O' : List Addr} {c : Option T} {s : Option V} {f' : List Addr}, Lv H O H' O' → Kp H H' (A ++ B) → (∀ t', c = some t' → ∃ v', s = some v' ∧ Ow K H' O' t' v' f') → (c = none → f' = []) → Ce K H' O' (env.set i c) (σ.set i s) (A ++ f' ++ B)
  | [], _, _, _, _, _, h => by simp at h
  | c0 :: env, _, _, 0, t, hc, h => by
    simp at h
    subst h
    obtain ⟨v, σ', f1, f2, e, ef, a, r⟩ := hc
    subst e ef
    refine ⟨v, [], f1, f2, rfl, rfl, a, fun {H' O' c s f'} l k h1 h2 => ?_⟩
    have r' := r.lv l (show Kp H H' f2 from k)
    cases c with
    | none => rw [h2 rfl]; exact ⟨s, σ', rfl, r'⟩
    | some t' =>
      obtain ⟨v', e, o⟩ := h1 t' rfl
      exact ⟨v', σ', f', f2, by rw [← e]; rfl, rfl, o, r'⟩
  | none :: env, _, _, i + 1, t, ⟨s0, σ', e, r⟩, h => by
    subst e
    obtain ⟨v, A, f, B, h1, h2, h3, h4⟩ := Ce.at (i := i) r (by simpa using h)
    exact ⟨v, A, f, B, by simpa using h1, h2, h3, fun l k g1 g2 => ⟨s0, _, rfl, h4 l k g1 g2⟩⟩
  | some t0 :: env, _, _, i + 1, t, ⟨v0, σ', f1, f2, e, ef, a, r⟩, h => by
    subst e ef
    obtain ⟨v, A, f, B, h1, h2, h3, h4⟩ := Ce.at (i := i) r (by simpa using h)
    subst h2
    refine ⟨v, f1 ++ A, f, B, by simpa using h1, by simp, h3, fun {H' O' c s f'} l k g1 g2 => ?_⟩
    have k' : Kp H H' (f1 ++ (A ++ B)) := fun p hp => k p (by simpa using hp)
    exact ⟨v0, _, f1, A ++ f' ++ B, rfl, by simp, a.lv l k'.l, h4 l k'.r g1 g2⟩
/-- any cell is overwritten -/
theorem Ce.put : ∀ {env : Env} {σ : L2.St} {W : List Addr} {i : Nat}, Ce K H O env σ W → i < env.length →
    ∃ A f B, W = A ++ f ++ B ∧ ∀ {H' : Hp} {O' : List Addr} {c : Option T} {s : Option V} {f' : List Addr}, Lv H O H' O' → Kp H H' (A ++ B) → (∀ t', c = some t' → ∃ v', s = some v' ∧ Ow K H' O' t' v' f') → (c = none → f' = []) → Ce K H' O' (env.set i c) (σ.set i s) (A ++ f' ++ B)
  | [], _, _, _, _, h => by simp at h
  | none :: env, _, W, 0, ⟨s0, σ', e, r⟩, _ => by
    subst e
    refine ⟨[], [], W, rfl, fun {H' O' c s f'} l k h1 h2 => ?_⟩
    have r' := r.lv l (show Kp H H' W from k)
    cases c with
    | none => rw [h2 rfl]; exact ⟨s, σ', rfl, r'⟩
    | some t' =>
      obtain ⟨v', e, o⟩ := h1 t' rfl
      exact ⟨v', σ', f', W, by rw [← e]; rfl, rfl, o, r'⟩
  | some t0 :: env, _, _, 0, ⟨v0, σ', f1, f2, e, ef, a, r⟩, _ => by
    subst e ef
    refine ⟨[], f1, f2, rfl, fun {H' O' c s f'} l k h1 h2 => ?_⟩
    have r' := r.lv l (show Kp H H' f2 from k)
    cases c with
    | none => rw [h2 rfl]; exact ⟨s, σ', rfl, r'⟩
    | some t' =>
      obtain ⟨v', e, o⟩ := h1 t' rfl
      exact ⟨v', σ', f', f2, by rw [← e]; rfl, rfl, o, r'⟩
  | none :: env, _, _, i + 1, ⟨s0, σ', e, r⟩, h => by
    subst e
    obtain ⟨A, f, B, h2, h4⟩ := Ce.put (i := i) r (by simpa using h)
    exact ⟨A, f, B, h2, fun l k g1 g2 => ⟨s0, _, rfl, h4 l k g1 g2⟩⟩
  | some t0 :: env, _, _, i + 1, ⟨v0, σ', f1, f2, e, ef, a, r⟩, h => by
    subst e ef
    obtain ⟨A, f, B, h2, h4⟩ := Ce.put (i := i) r (by simpa using h)
    subst h2
    refine ⟨f1 ++ A, f, B, by simp, fun {H' O' c s f'} l k g1 g2 => ?_⟩
    have k' : Kp H H' (f1 ++ (A ++ B)) := fun p hp => k p (by simpa using hp)
    exact ⟨v0, _, f1, A ++ f' ++ B, rfl, by simp, a.lv l k'.l, h4 l k'.r g1 g2⟩
theorem Ce.app : ∀ {env env' : Env} {σ σ' : L2.St} {W W' : List Addr}, Ce K H O env σ W → Ce K H O env' σ' W' → Ce K H O (env ++ env') (σ ++ σ') (W ++ W')
  | [], _, _, _, _, _, ⟨e, e2⟩, h => by subst e e2; exact h
  | none :: env, _, _, _, _, _, ⟨s0, σ', e, r⟩, h => by subst e; exact ⟨s0, _, rfl, Ce.app r h⟩
  | some t0 :: env, _, _, _, _, _, ⟨v0, σ', f1, f2, e, ef, a, r⟩, h => by subst e ef; exact ⟨v0, _, f1, _, rfl, by simp, a, Ce.app r h⟩
theorem Ce.dead : ∀ n : Nat, Ce K H O (List.replicate n none) (List.replicate n none) []
  | 0 => ⟨rfl, rfl⟩
  | n + 1 => ⟨none, _, rfl, Ce.dead n⟩
end
/-! ### places -/
inductive Sg where
  | ix (k : Nat) | fld (f : Str)
def ixOf (f : Str) : List Str → Option Nat
  | [] => none
  | n :: ns => if f = n then some 0 else (ixOf f ns).map (· + 1)
theorem ixOf_lookup {α : Type} {f : Str} : ∀ {ns : List Str} {vs : List α} {k : Nat}, ns.length = vs.length → ixOf f ns = some k → ∃ v, vs[k]? = some v ∧ (ns.zip vs).lookup f = some v
  | [], _, _, _, h => by cases h
  | n :: ns, [], _, e, _ => by simp at e
  | n :: ns, v :: vs, k, e, h => by
    unfold ixOf at h
    rw [List.zip_cons_cons, List.lookup_cons]
    by_cases hf : f = n
    · rw [if_pos hf] at h
      cases h
      subst hf
      exact ⟨v, rfl, by simp⟩
    · rw [if_neg hf] at h
      cases z : ixOf f ns with
      | none => rw [z] at h; cases h
      | some j =>
        rw [z] at h
        cases h
        obtain ⟨w, h1, h2⟩ := ixOf_lookup (vs := vs) (by simpa using e) z
        refine ⟨w, by simpa using h1, ?_⟩
        rw [show (f == n) = false from by simpa using hf]
        exact h2
def T.child : T → Sg → Option T
  | .lst ts, .ix k => ts[k]?
  | .obj _ ns ts, .fld f => (ixOf f ns).bind fun k => ts[k]?
  | _, _ => none
def T.chput (t : T) (s : Sg) (u : T) : T := match t, s with
  | .lst ts, .ix k => .lst (ts.set k u)
  | .obj c ns ts, .fld f => match ixOf f ns with
    | some k => .obj c ns (ts.set k u)
    | none => t
  | t, _ => t
def T.at? : T → List Sg → Option T
  | t, [] => some t
  | t, s :: π => (t.child s).bind fun u => u.at? π
def T.put : T → List Sg → T → T
  | _, [], u => u
  | t, s :: π, u => match t.child s with
    | some w => t.chput s (w.put π u)
    | none => t
/-- from v by π one comes to w -/
def Nav (H : Hp) : V → List Sg → V → Prop
  | v, [], w => w = v
  | v, .ix k :: π, w => ∃ p vs u, v = .ref p ∧ H p = some (.lst vs) ∧ vs[k]? = some u ∧ Nav H u π w
  | v, .fld f :: π, w => ∃ p C dx fs u, v = .ref p ∧ H p = some (.ins C dx fs) ∧ fs.lookup f = some u ∧ Nav H u π w
section
variable {K : PySem.W.Frag} {H H' H1 H2 : Hp} {O O' Oo W W' W1 W2 fp : List Addr} {σ : L2.St} {env env' : Env}
theorem Nav.ex (e : Evl.Ex H H') : ∀ {π : List Sg} {v w : V}, Nav H v π w → Nav H' v π w
  | [], _, _, h => h
  | .ix k :: π, _, _, ⟨p, vs, u, a, b, c, d⟩ => ⟨p, vs, u, a, e _ _ b, c, Nav.ex e d⟩
  | .fld f :: π, _, _, ⟨p, C, dx, fs, u, a, b, c, d⟩ => ⟨p, C, dx, fs, u, a, e _ _ b, c, Nav.ex e d⟩
theorem Nav.inj : ∀ {π : List Sg} {v w w' : V}, Nav H v π w → Nav H v π w' → w = w'
  | [], _, _, _, h, h' => by rw [show _ = _ from h, show _ = _ from h']
  | .ix k :: π, _, _, _, ⟨p, vs, u, a, b, c, d⟩, ⟨p', vs', u', a', b', c', d'⟩ => by
    subst a; cases a'
    rw [b] at b'; cases b'
    rw [c] at c'; cases c'
    exact Nav.inj d d'
  | .fld f :: π, _, _, _, ⟨p, C, dx, fs, u, a, b, c, d⟩, ⟨p', C', dx', fs', u', a', b', c', d'⟩ => by
    subst a; cases a'
    rw [b] at b'; cases b'
    rw [c] at c'; cases c'
    exact Nav.inj d d'
theorem Nav.snoc {s : Sg} : ∀ {π : List Sg} {v w u : V}, Nav H v π w → Nav H w [s] u → Nav H v (π ++ [s]) u
  | [], _, _, _, h, g => by rw [show _ = _ from h] at g; exact g
  | .ix k :: π, _, _, _, ⟨p, vs, u, a, b, c, d⟩, g => ⟨p, vs, u, a, b, c, Nav.snoc d g⟩
  | .fld f :: π, _, _, _, ⟨p, C, dx, fs, u, a, b, c, d⟩, g => ⟨p, C, dx, fs, u, a, b, c, Nav.snoc d g⟩
theorem Ows.at : ∀ {ts : List T} {vs : List V} {fp : List Addr} {k : Nat} {t : T}, Ows K H O ts vs fp → ts[k]? = some t →
    ∃ v A f B, vs[k]? = some v ∧ fp = A ++ f ++ B ∧ Ow K H O t v f ∧ ∀ {H' : Hp} {O' : List Addr} {t' : T} {v' : V} {f' : List Addr}, Lv H O H' O' → Kp H H' (A ++ B) → Ow K H' O' t' v' f' → Ows K H' O' (ts.set k t') (vs.set k v') (A ++ f' ++ B)
  | [], _, _, _, _, _, h => by simp at h
  | t0 :: ts, _, _, 0, t, ⟨v0, vs', f1, f2, e, ef, a, r⟩, h => by
    simp at h
    subst h e ef
    exact ⟨v0, [], f1, f2, rfl, rfl, a, fun {H' O' t' v' f'} l k o => ⟨v', vs', f', f2, rfl, rfl, o, r.lv l k⟩⟩
  | t0 :: ts, _, _, k + 1, t, ⟨v0, vs', f1, f2, e, ef, a, r⟩, h => by
    subst e ef
    obtain ⟨v, A, f, B, h1, h2, h3, h4⟩ := Ows.at (k := k) r (by simpa using h)
    subst h2
    refine ⟨v, f1 ++ A, f, B, by simpa using h1, by simp, h3, fun {H' O' t' v' f'} l k o => ?_⟩
    have k' : Kp H H' (f1 ++ (A ++ B)) := fun p hp => k p (by simpa using hp)
    exact ⟨v0, _, f1, A ++ f' ++ B, rfl, by simp, a.lv l k'.l, h4 l k'.r o⟩
theorem set_same {α : Type} : ∀ {l : List α} {k : Nat} {x : α}, l[k]? = some x → l.set k x = l
  | [], _, _, h => by simp at h
  | _ :: _, 0, _, h => by simp at h; subst h; rfl
  | _ :: l, k + 1, x, h => by simp at h; rw [List.set_cons_succ, set_same (l := l) (by simpa using h)]
/-- THE PLACE: a node of an owned tree; what may be put there -/
theorem Ow.node : ∀ {π : List Sg} {t : T} {v : V} {fp : List Addr} {u : T}, Ow K H O t v fp → t.at? π = some u →
    ∃ w A f B, Nav H v π w ∧ fp = A ++ f ++ B ∧ Ow K H O u w f ∧ ∀ {H' : Hp} {O' : List Addr} {u' : T} {f' : List Addr}, Lv H O H' O' → Kp H H' (A ++ B) → Ow K H' O' u' w f' → Ow K H' O' (t.put π u') v (A ++ f' ++ B)
  | [], t, v, fp, u, o, h => by
    cases (show some t = some u from h)
    exact ⟨v, [], fp, [], rfl, by simp, o, fun {H' O' u' f'} l k o' => by simpa [T.put] using o'⟩
  | s :: π, t, v, fp, u, o, h => by
    unfold T.at? at h
    cases hc : t.child s with
    | none => rw [hc] at h; cases h
    | some c =>
      rw [hc] at h
      have h : c.at? π = some u := h
      cases t with
      | val d => cases s <;> cases hc
      | dic ks ds => cases s <;> cases hc
      | lst ts =>
        cases s with
        | fld f => cases hc
        | ix k =>
          have hc' : ts[k]? = some c := hc
          obtain ⟨p, vs, fq, e, ef, hp, r⟩ := o
          subst e ef
          obtain ⟨v1, A, f, B, g1, g2, g3, g4⟩ := r.at hc'
          subst g2
          obtain ⟨w, A', f', B', n1, n2, n3, n4⟩ := Ow.node g3 h
          subst n2
          refine ⟨w, p :: (A ++ A'), f', B' ++ B, ⟨p, vs, v1, rfl, hp, g1, n1⟩, by simp, n3, fun {H' O' u' f''} l k' o' => ?_⟩
          have kp : H' p = H p := k' p (by simp)
          have k1 : Kp H H' (A' ++ B') := fun q hq => k' q (by simp at hq ⊢; rcases hq with z | z <;> simp [z])
          have k2 : Kp H H' (A ++ B) := fun q hq => k' q (by simp at hq ⊢; rcases hq with z | z <;> simp [z])
          have := g4 l k2 (n4 l k1 o')
          rw [set_same g1] at this
          rw [T.put, hc]
          exact ⟨p, vs, _, rfl, by simp, by rw [kp]; exact hp, this⟩
      | obj c0 ns ts =>
        cases s with
        | ix k => cases hc
        | fld f0 =>
          have hc' : (ixOf f0 ns).bind (fun k => ts[k]?) = some c := hc
          cases hi : ixOf f0 ns with
          | none => rw [hi] at hc'; cases hc'
          | some k =>
            rw [hi] at hc'
            have hc' : ts[k]? = some c := hc'
            obtain ⟨p, dx, vs, fq, e, ef, hz, hp, r⟩ := o
            subst e ef
            obtain ⟨v1, A, f, B, g1, g2, g3, g4⟩ := r.at hc'
            subst g2
            obtain ⟨w, A', f', B', n1, n2, n3, n4⟩ := Ow.node g3 h
            subst n2
            obtain ⟨v2, q1, q2⟩ := ixOf_lookup hz hi
            rw [g1] at q1; cases q1
            refine ⟨w, p :: (A ++ A'), f', B' ++ B, ⟨p, _, dx, _, v1, rfl, hp, q2, n1⟩, by simp, n3, fun {H' O' u' f''} l k' o' => ?_⟩
            have kp : H' p = H p := k' p (by simp)
            have k1 : Kp H H' (A' ++ B') := fun q hq => k' q (by simp at hq ⊢; rcases hq with z | z <;> simp [z])
            have k2 : Kp H H' (A ++ B) := fun q hq => k' q (by simp at hq ⊢; rcases hq with z | z <;> simp [z])
            have := g4 l k2 (n4 l k1 o')
            rw [set_same g1] at this
            rw [T.put, hc]
            show Ow K H' O' (T.chput (.obj c0 ns ts) (.fld f0) _) _ _
            unfold T.chput
            dsimp only
            rw [hi]
            exact ⟨p, dx, vs, _, rfl, by simp, hz, by rw [kp]; exact hp, this⟩
end
/-! ### operands -/
inductive Opd where
  | val (d : D) | loc (i : Nat) (π : List Sg)
def unvals : List T → Option (List D)
  | [] => some []
  | .val d :: ts => (unvals ts).map (d :: ·)
  | _ :: _ => none
def shal : T → Option D
  | .val d => some d
  | .lst ts => (unvals ts).map .lst
  | .dic ks ds => some (.dic ks ds)
  | .obj c ns ts => (unvals ts).map (.obj c ns)
def nodeOf (env : Env) (i : Nat) (π : List Sg) : Option T := match env[i]? with
  | some (some t) => t.at? π
  | _ => none
def look (o : Opd) (env : Env) : Option D := match o with
  | .val d => some d
  | .loc i π => (nodeOf env i π).bind shal
/-- as Rv, but the value itself may be owned -/
def RSh (K : PySem.W.Frag) (H : Hp) (O : List Addr) : D → V → Prop
  | .tup ds, v => ∃ p vs, v = .ref p ∧ TupAt K H O p vs ∧ Rvs K H O ds vs
  | .lst ds, v => ∃ p vs, v = .ref p ∧ H p = some (.lst vs) ∧ Rvs K H O ds vs
  | .fro ds, v => ∃ p vs, v = .ref p ∧ SqL K H p vs ∧ Rvs K H O ds vs
  | .dic ks ds, v => ∃ p vs, v = .ref p ∧ DicH H p ks vs ∧ Rvs K H O ds vs
  | .obj c ns ds, v => ∃ p dx vs, v = .ref p ∧ ns.length = vs.length ∧ H p = some (.ins (He.ga K c) dx (ns.zip vs)) ∧ Rvs K H O ds vs
  | d, v => Rv K H O d v
def OpdR (K : PySem.W.Frag) (H : Hp) (O : List Addr) (σ : L2.St) : Opd → V → Prop
  | .val d, v => Rv K H O d v
  | .loc i π, v => ∃ r, σ[i]? = some (some r) ∧ Nav H r π v
section
variable {K : PySem.W.Frag} {H H' H1 H2 : Hp} {O O' Oo W W' W1 W2 fp : List Addr} {σ : L2.St} {env env' : Env}
theorem FroAt.sq {p : Addr} {xs : List V} (h : FroAt K H O p xs) : SqL K H p xs := by
  rcases h with ⟨_, o, h⟩ | h
  · exact .inl (.inr ⟨o, h⟩)
  · exact .inr h
theorem TupAt.sq {p : Addr} {xs : List V} (h : TupAt K H O p xs) : SqT K H p xs := by
  rcases h with ⟨_, h⟩ | h
  · exact .inl h
  · exact .inr h
theorem Rv.sh : ∀ {d : D} {v : V}, Rv K H O d v → RSh K H O d v
  | .non, _, h => h
  | .bl _, _, h => h
  | .int _, _, h => h
  | .str _, _, h => h
  | .ty _, _, h => h
  | .glo _, _, h => h
  | .tup ds, _, ⟨p, vs, e, a, r⟩ => ⟨p, vs, e, a, r⟩
  | .lst ds, _, ⟨p, vs, e, a, r⟩ => ⟨p, vs, e, a.2, r⟩
  | .fro ds, _, ⟨p, vs, e, a, r⟩ => ⟨p, vs, e, a.sq, r⟩
  | .dic ks ds, _, ⟨p, vs, e, n, a, r⟩ => ⟨p, vs, e, a, r⟩
  | .obj c ns ds, _, ⟨p, dx, vs, e, n, z, a, r⟩ => ⟨p, dx, vs, e, z, a, r⟩
  | .exc _ _ _, _, h => h
theorem Ows.vals : ∀ {ts : List T} {vs : List V} {fp : List Addr} {ds : List D}, Ows K H O ts vs fp → unvals ts = some ds → Rvs K H O ds vs ∧ fp = []
  | [], _, _, _, ⟨e, ef⟩, h => by cases h; subst e ef; exact ⟨rfl, rfl⟩
  | .val d :: ts, _, _, ds, ⟨v, vs', f1, f2, e, ef, ⟨e1, a⟩, r⟩, h => by
    unfold unvals at h
    cases z : unvals ts with
    | none => rw [z] at h; cases h
    | some es =>
      rw [z] at h; cases h
      obtain ⟨q1, q2⟩ := Ows.vals r z
      subst e ef e1 q2
      exact ⟨⟨v, vs', rfl, a, q1⟩, rfl⟩
  | .lst _ :: _, _, _, _, _, h => by cases h
  | .dic _ _ :: _, _, _, _, _, h => by cases h
  | .obj _ _ _ :: _, _, _, _, _, h => by cases h
theorem Ow.sh {t : T} {v : V} {d : D} (h : Ow K H O t v fp) (hs : shal t = some d) : RSh K H O d v := by
  cases t with
  | val e => cases hs; exact h.2.sh
  | lst ts =>
    obtain ⟨p, vs, fq, e, ef, hp, r⟩ := h
    have hs : (unvals ts).map D.lst = some d := hs
    cases z : unvals ts with
    | none => rw [z] at hs; cases hs
    | some ds => rw [z] at hs; cases hs; exact ⟨p, vs, e, hp, (r.vals z).1⟩
  | dic ks ds =>
    cases hs
    obtain ⟨p, vs, e, ef, m, a, r⟩ := h
    exact ⟨p, vs, e, a, r⟩
  | obj c ns ts =>
    obtain ⟨p, dx, vs, fq, e, ef, z0, hp, r⟩ := h
    have hs : (unvals ts).map (D.obj c ns) = some d := hs
    cases z : unvals ts with
    | none => rw [z] at hs; cases hs
    | some ds => rw [z] at hs; cases hs; exact ⟨p, dx, vs, e, z0, hp, (r.vals z).1⟩
/-- the node of a place -/
theorem ER.node (E : ER K Oo W σ H env) {i : Nat} {π : List Sg} {u : T} (h : nodeOf env i π = some u) :
    ∃ t r, env[i]? = some (some t) ∧ t.at? π = some u ∧ σ[i]? = some (some r) ∧ ∃ w A f B, Nav H r π w ∧ W = A ++ f ++ B ∧ Ow K H (Oo ++ W) u w f ∧
      ∀ {H' : Hp} {O' : List Addr} {u' : T} {f' : List Addr}, Lv H (Oo ++ W) H' O' → Kp H H' (A ++ B) → Ow K H' O' u' w f' → Ce K H' O' (env.set i (some (t.put π u'))) σ (A ++ f' ++ B) := by
  unfold nodeOf at h
  split at h
  · rename_i t ht
    obtain ⟨r, A, f, B, h1, h2, h3, h4⟩ := E.ce.at ht
    obtain ⟨w, A', f', B', n1, n2, n3, n4⟩ := h3.node h
    refine ⟨t, r, ht, h, h1, w, A ++ A', f', B' ++ B, n1, by rw [h2, n2]; simp, n3, fun {H' O' u' f''} l k o' => ?_⟩
    have k1 : Kp H H' (A' ++ B') := fun q hq => k q (by simp at hq ⊢; rcases hq with z | z <;> simp [z])
    have k2 : Kp H H' (A ++ B) := fun q hq => k q (by simp at hq ⊢; rcases hq with z | z <;> simp [z])
    have := h4 (c := some (t.put π u')) (s := some r) l k2 (fun t' e => by cases e; exact ⟨r, rfl, n4 l k1 o'⟩) (fun z => by cases z)
    rw [set_same h1] at this
    simpa using this
  · cases h
theorem ER.look (E : ER K Oo W σ H env) {o : Opd} {v : V} {d : D} (h : OpdR K H (Oo ++ W) σ o v) (hl : look o env = some d) : RSh K H (Oo ++ W) d v := by
  cases o with
  | val e => cases hl; exact Rv.sh h
  | loc i π =>
    have hl : (nodeOf env i π).bind shal = some d := hl
    cases z : nodeOf env i π with
    | none => rw [z] at hl; cases hl
    | some u =>
      rw [z] at hl
      obtain ⟨t, r, _, _, h1, w, A, f, B, n1, _, n3, _⟩ := E.node z
      obtain ⟨r', h1', n'⟩ := h
      rw [h1] at h1'; cases h1'
      rw [Nav.inj n' n1]
      exact n3.sh hl
theorem OpdR.ex {o : Opd} {v : V} (e : Evl.Ex H H') (h : OpdR K H O σ o v) : OpdR K H' O σ o v := by
  cases o with
  | val d => exact Rv.lv (Lv.ex e) h
  | loc i π => obtain ⟨r, h1, n⟩ := h; exact ⟨r, h1, n.ex e⟩
/-- a name's place is found in any later heap -/
theorem OpdR.name {i : Nat} {v : V} (h : OpdR K H O σ (.loc i []) v) : OpdR K H' O' σ (.loc i []) v := by
  obtain ⟨r, h1, n⟩ := h
  exact ⟨r, h1, n⟩
end
end KM
/-! The mirror's judgements of expressions, tests, argument lists. -/
namespace KM
open PySem PySem.Spec PyProof.Rows L2 Evl KP
/-- an exception's own dict -/
def ExR (K : PySem.W.Frag) (H : Hp) (O : List Addr) (dx : Option Addr) (ns : List Str) (ds : List D) : Prop := match dx with
  | none => ns = [] ∧ ds = []
  | some a => ∃ vs, ns.length = vs.length ∧ H a = some (.xd (ns.zip vs)) ∧ Rvs K H O ds vs
/-- what an exception wants -/
def OkX (K : PySem.W.Frag) (Wx : WX) (Oo W : List Addr) (σ : L2.St) (H : Hp) : Str → List Str → List D → Env → Prop := fun c ns ds env' =>
  ∀ dx H' W', Lv H W H' W' → ER K Oo W' σ H' env' → ExR K H' (Oo ++ W') dx ns ds → Wx (.ref (He.ga K c)) dx σ H'
theorem OkX.lv {K : PySem.W.Frag} {Wx : WX} {Oo W W' : List Addr} {σ : L2.St} {H H' : Hp} {c : Str} {ns : List Str} {ds : List D} {env : Env} (l : Lv H W H' W') (h : OkX K Wx Oo W σ H c ns ds env) : OkX K Wx Oo W' σ H' c ns ds env :=
  fun dx H2 W2 l2 E x => h dx H2 W2 (l.trans l2) E x
/-! ### the judgements -/
/-- pure: a value of its own -/
def IQ (K : PySem.W.Frag) (te : TE) (m : Env → Option D) : Prop := ∀ Oo W σ H env (Q : VK), ER K Oo W σ H env → (∃ d, m env = some d ∧ ∀ v H', Evl.Ex H H' → Rv K H' (Oo ++ W) d v → Q v H') → te σ H Q
/-- pure: a place, or data -/
def IL (K : PySem.W.Frag) (te : TE) (m : Env → Option Opd) : Prop := ∀ Oo W σ H env (Q : VK), ER K Oo W σ H env → (∃ x, m env = some x ∧ ∀ v H', Evl.Ex H H' → OpdR K H' (Oo ++ W) σ x v → Q v H') → te σ H Q
/-- an operand that stays while others are reckoned -/
inductive Ob where
  | val (d : D) | nm (i : Nat)
def Ob.opd : Ob → Opd
  | .val d => .val d
  | .nm i => .loc i []
def lookB (o : Ob) (env : Env) : Option D := look o.opd env
abbrev ObR (K : PySem.W.Frag) (H : Hp) (O : List Addr) (σ : L2.St) (o : Ob) (v : V) : Prop := OpdR K H O σ o.opd v
def IB (K : PySem.W.Frag) (Wx : WX) (te : TE) (m : M Ob) : Prop := ∀ Oo W σ H env (Q : VK), ER K Oo W σ H env →
  (m env).To (fun o env' => ∀ v H' W', Lv H W H' W' → ER K Oo W' σ H' env' → ObR K H' (Oo ++ W') σ o v → Q v H') (OkX K Wx Oo W σ H) → te σ H Q
def IV (K : PySem.W.Frag) (Wx : WX) (te : TE) (m : M D) : Prop := ∀ Oo W σ H env (Q : VK), ER K Oo W σ H env →
  (m env).To (fun d env' => ∀ v H' W', Lv H W H' W' → ER K Oo W' σ H' env' → Rv K H' (Oo ++ W') d v → Q v H') (OkX K Wx Oo W σ H) → te σ H Q
/-- a new tree -/
def IO (K : PySem.W.Frag) (Wx : WX) (te : TE) (m : M T) : Prop := ∀ Oo W σ H env (Q : VK), ER K Oo W σ H env →
  (m env).To (fun t env' => ∀ v H' W' fp, Lv H W H' (W' ++ fp) → ER K (Oo ++ fp) W' σ H' env' → fp.Nodup → (∀ p ∈ fp, p ∉ Oo) → Ow K H' (Oo ++ fp ++ W') t v fp → Q v H') (OkX K Wx Oo W σ H) → te σ H Q
def IT (K : PySem.W.Frag) (Wx : WX) (tt : TT) (m : M Bool) : Prop := ∀ Oo W σ H env (Q : Bool → Hp → Prop), ER K Oo W σ H env →
  (m env).To (fun b env' => ∀ H' W', Lv H W H' W' → ER K Oo W' σ H' env' → Q b H') (OkX K Wx Oo W σ H) → tt σ H Q
def ObsR (K : PySem.W.Frag) (H : Hp) (O : List Addr) (σ : L2.St) : List Ob → List V → Prop
  | [], vs => vs = []
  | o :: os, vs => ∃ v vs', vs = v :: vs' ∧ ObR K H O σ o v ∧ ObsR K H O σ os vs'
def IA (K : PySem.W.Frag) (Wx : WX) (tas : TA) (m : M (List Ob)) : Prop := ∀ Oo W σ H env (Q : List V → Hp → Prop), ER K Oo W σ H env →
  (m env).To (fun os env' => ∀ vs H' W', Lv H W H' W' → ER K Oo W' σ H' env' → ObsR K H' (Oo ++ W') σ os vs → Q vs H') (OkX K Wx Oo W σ H) → tas σ H Q
def RShs (K : PySem.W.Frag) (H : Hp) (O : List Addr) : List D → List V → Prop
  | [], vs => vs = []
  | d :: ds, vs => ∃ v vs', vs = v :: vs' ∧ RSh K H O d v ∧ RShs K H O ds vs'
section
variable {K : PySem.W.Frag} {Wx : WX} {H H' H1 H2 : Hp} {O O' Oo W W' W1 W2 fp : List Addr} {σ : L2.St} {env env' : Env} {te ta tb tc : TE} {tt tu : TT}
theorem RSh.ex (e : Evl.Ex H H') : ∀ {d : D} {v : V}, RSh K H O d v → RSh K H' O d v
  | .non, _, h => h
  | .bl _, _, h => h
  | .int _, _, h => h
  | .str _, _, h => h
  | .ty _, _, h => h
  | .glo _, _, h => h
  | .tup ds, _, ⟨p, vs, q, a, r⟩ => ⟨p, vs, q, a.lv (Lv.ex e), r.lv (Lv.ex e)⟩
  | .lst ds, _, ⟨p, vs, q, a, r⟩ => ⟨p, vs, q, e _ _ a, r.lv (Lv.ex e)⟩
  | .fro ds, _, ⟨p, vs, q, a, r⟩ => ⟨p, vs, q, Evl.ex_l e a, r.lv (Lv.ex e)⟩
  | .dic ks ds, _, ⟨p, vs, q, a, r⟩ => by
    refine ⟨p, vs, q, ?_, r.lv (Lv.ex e)⟩
    rcases a with ⟨keys, h1, h2, h3⟩ | ⟨keys, h1, h2, h3⟩
    · exact .inl ⟨keys, h1, h2, h3.imp (e _ _) fun ⟨o, z⟩ => ⟨o, e _ _ z⟩⟩
    · exact .inr ⟨keys, h1, h2, h3.imp (e _ _) fun ⟨o, z⟩ => ⟨o, e _ _ z⟩⟩
  | .obj c ns ds, _, ⟨p, dx, vs, q, z, a, r⟩ => ⟨p, dx, vs, q, z, e _ _ a, r.lv (Lv.ex e)⟩
  | .exc _ _ _, _, h => Rv.lv (Lv.ex e) h
theorem RShs.ex (e : Evl.Ex H H') : ∀ {ds : List D} {vs : List V}, RShs K H O ds vs → RShs K H' O ds vs
  | [], _, h => h
  | d :: ds, _, ⟨v, vs', q, a, r⟩ => ⟨v, vs', q, a.ex e, RShs.ex e r⟩
theorem ObR.lv {o : Ob} {v : V} (l : Lv H O H' O') (h : ObR K H O σ o v) : ObR K H' O' σ o v := by
  cases o with
  | val d => exact Rv.lv l h
  | nm i => exact OpdR.name h
theorem ObsR.lv (l : Lv H O H' O') : ∀ {os : List Ob} {vs : List V}, ObsR K H O σ os vs → ObsR K H' O' σ os vs
  | [], _, h => h
  | o :: os, _, ⟨v, vs', e, a, r⟩ => ⟨v, vs', e, ObR.lv l a, ObsR.lv l r⟩
/-- from the mirror's answer -/
theorem IV.go (h : IV K Wx te m) (E : ER K Oo W σ H env) {Q : VK} (q : (m env).To (fun d env' => ∀ v H' W', Lv H W H' W' → ER K Oo W' σ H' env' → Rv K H' (Oo ++ W') d v → Q v H') (OkX K Wx Oo W σ H)) : te σ H Q := h Oo W σ H env Q E q
/-! ### from one kind to another -/
def vM (m : Env → Option D) : M D := fun env => M.opt (m env) env
theorem iq_iv {m} (h : IQ K te m) : IV K Wx te (vM m) := fun Oo W σ H env Q E q => by
  obtain ⟨d, e, q⟩ := M.opt_to q
  exact h Oo W σ H env Q E ⟨d, e, fun v H' x r => q v H' W (Lv.ex x) (E.ex x) r⟩
def bV (m : M D) : M Ob := m.bnd fun d => M.ret (.val d)
theorem iv_ib {m} (h : IV K Wx te m) : IB K Wx te (bV m) := fun Oo W σ H env Q E q =>
  h Oo W σ H env Q E ((M.bnd_to q).mono (fun d env' q v H' W' l E' r => q v H' W' l E' r) fun _ _ _ _ x => x)
def oV (m : M D) : M T := m.bnd fun d => M.ret (.val d)
theorem iv_io {m} (h : IV K Wx te m) : IO K Wx te (oV m) := fun Oo W σ H env Q E q =>
  h Oo W σ H env Q E ((M.bnd_to q).mono (fun d env' q v H' W' l E' r => q v H' W' [] (by simpa using l) (by simpa using E') List.nodup_nil (by simp) ⟨rfl, by simpa using r⟩) fun _ _ _ _ x => x)
/-- frozen -/
def vO (m : M T) : M D := m.bnd fun t => M.ret (toD t)
theorem io_iv {m} (h : IO K Wx te m) : IV K Wx te (vO m) := fun Oo W σ H env Q E q =>
  h Oo W σ H env Q E ((M.bnd_to q).mono (fun t env' q v H' W' fp l E' nd nf o => by
    have hs : ∀ p ∈ Oo ++ W', p ∈ Oo ++ fp ++ W' := fun p hp => by simp at hp ⊢; rcases hp with z | z <;> simp [z]
    have hn : ∀ p ∈ fp, p ∉ Oo ++ W' := fun p hp z => by
      rcases List.mem_append.mp z with z | z
      · exact nf p hp z
      · exact E'.dj p z (List.mem_append_right _ hp)
    refine q v H' W' ⟨l.kp, fun p hp => l.out p (List.mem_append_left _ hp)⟩ ⟨?_, E'.nd, fun p hp z => E'.dj p hp (List.mem_append_left _ z), fun p hp => E'.dom p (List.mem_append_left _ hp)⟩ (o.toD hs hn)
    exact E'.ce.lv (Lv.sub hs) fun p _ => rfl) fun _ _ _ _ x => x)
/-- names -/
def nmM (i : Nat) : M Ob := fun env => match env[i]? with
  | some (some _) => .ok (.nm i) env
  | _ => .stuck
theorem nm_ib (i : Nat) : IB K Wx (tVar i) (nmM i) := fun Oo W σ H env Q E q => by
  unfold nmM at q
  split at q
  · rename_i t ht
    obtain ⟨v, A, f, B, h1, _⟩ := E.ce.at ht
    exact ⟨v, h1, q v H W (Lv.refl _ _) E ⟨v, h1, rfl⟩⟩
  · exact q.elim
def pNm (i : Nat) : Env → Option Opd := fun env => match env[i]? with
  | some (some _) => some (.loc i [])
  | _ => none
theorem nm_il (i : Nat) : IL K (tVar i) (pNm i) := fun Oo W σ H env Q E ⟨x, e, q⟩ => by
  unfold pNm at e
  split at e
  · rename_i t ht
    cases e
    obtain ⟨v, A, f, B, h1, _⟩ := E.ce.at ht
    exact ⟨v, h1, q v H (Evl.Ex.refl H) ⟨v, h1, rfl⟩⟩
  · cases e
def dataAt (x : Opd) (env : Env) : Option D := match x with
  | .val d => some d
  | .loc i π => match nodeOf env i π with
    | some (.val d) => some d
    | _ => none
theorem ER.dataAt (E : ER K Oo W σ H env) {x : Opd} {d : D} {v : V} (e : dataAt x env = some d) (r : OpdR K H (Oo ++ W) σ x v) : Rv K H (Oo ++ W) d v := by
  cases x with
  | val d0 => cases e; exact r
  | loc i π =>
    have e : (match nodeOf env i π with | some (.val d) => some d | _ => none) = some d := e
    split at e
    · rename_i d' hd
      cases e
      obtain ⟨t, r0, _, _, h1, w, A, f, B, n1, _, n3, _⟩ := E.node hd
      obtain ⟨r', h1', n'⟩ := r
      rw [h1] at h1'; cases h1'
      rw [Nav.inj n' n1]
      exact n3.2
    · cases e
/-- .. where it is data already -/
def pAt (m : Env → Option Opd) : Env → Option D := fun env => (m env).bind fun x => dataAt x env
theorem il_iq {m} (h : IL K te m) : IQ K te (pAt m) := fun Oo W σ H env Q E ⟨d, e, q⟩ => by
  unfold pAt at e
  cases z : m env with
  | none => rw [z] at e; cases e
  | some x =>
    rw [z] at e
    exact h Oo W σ H env Q E ⟨x, z, fun v H' ex r => q v H' ex ((E.ex ex).dataAt e r)⟩
/-- what lies at a place is frozen -/
def frz (x : Opd) : M D := fun env => match x with
  | .val d => .ok d env
  | .loc i π => match env[i]? with
    | some (some t) => match t.at? π with
      | some u => .ok (toD u) (env.set i (some (t.put π (.val (toD u)))))
      | none => .stuck
    | _ => .stuck
def vL (m : Env → Option Opd) : M D := fun env => match m env with
  | none => .stuck
  | some x => frz x env
theorem ER.frz (E : ER K Oo W σ H env) {x : Opd} {v : V} (r : OpdR K H (Oo ++ W) σ x v) {Q : D → Env → Prop} {X} (q : (frz x env).To Q X) :
    ∃ d env' W', Q d env' ∧ Lv H W H W' ∧ ER K Oo W' σ H env' ∧ Rv K H (Oo ++ W') d v := by
  cases x with
  | val d => exact ⟨d, env, W, q, Lv.refl _ _, E, r⟩
  | loc i π =>
    unfold KM.frz at q
    dsimp only at q
    split at q
    · rename_i t ht
      split at q
      · rename_i u hu
        have hn : nodeOf env i π = some u := by unfold nodeOf; rw [ht]; exact hu
        obtain ⟨t', r0, ht', _, h1, w, A, f, B, n1, n2, n3, n4⟩ := E.node hn
        rw [ht] at ht'; cases ht'
        obtain ⟨r', h1', n'⟩ := r
        rw [h1] at h1'; cases h1'
        cases Nav.inj n' n1
        have nd := E.nd
        rw [n2] at nd
        have sb : ∀ p ∈ Oo ++ (A ++ [] ++ B), p ∈ Oo ++ W := fun p hp => by rw [n2]; simp at hp ⊢; rcases hp with z | z | z <;> simp [z]
        have nf : ∀ p ∈ f, p ∉ Oo ++ (A ++ [] ++ B) := fun p hp z => by
          rcases List.mem_append.mp z with z | z
          · exact E.dj p (by rw [n2]; simp [hp]) z
          · have nd2 := List.nodup_append.mp nd
            have nd1 := List.nodup_append.mp nd2.1
            simp at z
            rcases z with z | z
            · exact nd1.2.2 p z p hp rfl
            · exact nd2.2.2 p (List.mem_append_right _ hp) p z rfl
        have rv := n3.toD sb nf
        have sw : ∀ p ∈ A ++ [] ++ B, p ∈ W := fun p hp => by rw [n2]; simp at hp ⊢; rcases hp with z | z <;> simp [z]
        refine ⟨_, _, A ++ [] ++ B, q, Lv.less sw, ⟨?_, ?_, fun p hp => E.dj p (sw p hp), E.dom⟩, rv⟩
        · exact n4 (Lv.sub sb) (fun _ _ => rfl) ⟨rfl, rv⟩
        · refine nd.sublist ?_
          simp
      · exact q.elim
    · exact q.elim
theorem il_iv {m} (h : IL K te m) : IV K Wx te (vL m) := fun Oo W σ H env Q E q => by
  unfold vL at q
  cases z : m env with
  | none => rw [z] at q; exact q.elim
  | some x =>
    rw [z] at q
    refine h Oo W σ H env Q E ⟨x, z, fun v H' ex r => ?_⟩
    obtain ⟨d, env', W', g, l, E', rv⟩ := (E.ex ex).frz r q
    exact g v H' W' ((Lv.ex ex).trans l) E' rv
/-- constants -/
def pC (d : D) : Env → Option D := fun _ => some d
theorem c_iq {d : D} {v : V} (h : ∀ H O, Rv K H O d v) : IQ K (tC v) (pC d) := fun Oo W σ H env Q E ⟨d', e, q⟩ => by
  cases e
  exact q v H (Evl.Ex.refl H) (h _ _)
theorem c_int {i : Int} : IQ K (tC (.int i)) (pC (.int i)) := c_iq fun _ _ => rfl
theorem c_bl {b : Bool} : IQ K (tC (.bl b)) (pC (.bl b)) := c_iq fun _ _ => rfl
theorem c_non : IQ K (tC .non) (pC .non) := c_iq fun _ _ => rfl
theorem c_ty {n : String} : IQ K (tC (.ty n)) (pC (.ty n)) := c_iq fun _ _ => rfl
/-! ### operators -/
/-- a rule's reading does op; what it gives is new -/
def OpT (K : PySem.W.Frag) (r : R2) (op : D → D → Option T) : Prop := ∀ H O x y d e t (Q : VK), (∀ p ∈ O, Mut (H p)) → RSh K H O d x → RSh K H O e y → op d e = some t →
  (∀ v H' fp, Evl.Ex H H' → (∀ p ∈ fp, H p = none) → fp.Nodup → Ow K H' (O ++ fp) t v fp → Q v H') → r x y H Q
def OpU (K : PySem.W.Frag) (r : V → Hp → VK → Prop) (op : D → Option T) : Prop := ∀ H O x d t (Q : VK), (∀ p ∈ O, Mut (H p)) → RSh K H O d x → op d = some t →
  (∀ v H' fp, Evl.Ex H H' → (∀ p ∈ fp, H p = none) → fp.Nodup → Ow K H' (O ++ fp) t v fp → Q v H') → r x H Q
def OpA (K : PySem.W.Frag) (r : List V → Hp → VK → Prop) (op : List D → Option T) : Prop := ∀ H O xs ds t (Q : VK), (∀ p ∈ O, Mut (H p)) → RShs K H O ds xs → op ds = some t →
  (∀ v H' fp, Evl.Ex H H' → (∀ p ∈ fp, H p = none) → fp.Nodup → Ow K H' (O ++ fp) t v fp → Q v H') → r xs H Q
/-- what a new tree at fp does to the state -/
theorem ER.add (E : ER K Oo W σ H env) (ex : Evl.Ex H H') (hf : ∀ p ∈ fp, H p = none) (hd : ∀ p ∈ fp, Mut (H' p)) : ER K (Oo ++ fp) W σ H' env := by
  have l : Lv H (Oo ++ W) H' (Oo ++ fp ++ W) := ⟨fun p o _ h => ex p o h, fun p hp => by
    simp at hp
    rcases hp with z | z | z
    · exact .inl (by simp [z])
    · exact .inr (hf p z)
    · exact .inl (by simp [z])⟩
  refine ⟨E.ce.lv l (Kp.ex ex E.ce.dom), E.nd, fun p hp z => ?_, fun p hp => ?_⟩
  · rcases List.mem_append.mp z with z | z
    · exact E.dj p hp z
    · obtain ⟨o, h⟩ := Mut.ex (E.ce.dom p hp)
      rw [hf p z] at h; cases h
  · rcases List.mem_append.mp hp with z | z
    · exact (E.ex ex).dom p z
    · exact hd p z
theorem new_io (E : ER K Oo W σ H env) {t : T} {v : V} (ex : Evl.Ex H H') (hf : ∀ p ∈ fp, H p = none) (o : Ow K H' (Oo ++ W ++ fp) t v fp) :
    Lv H W H' (W ++ fp) ∧ ER K (Oo ++ fp) W σ H' env ∧ (∀ p ∈ fp, p ∉ Oo) ∧ Ow K H' (Oo ++ fp ++ W) t v fp := by
  refine ⟨⟨fun p o' _ h => ex p o' h, fun p hp => ?_⟩, E.add ex hf o.dom, fun p hp z => ?_, o.lv (Lv.sub fun p hp => ?_) fun _ _ => rfl⟩
  · rcases List.mem_append.mp hp with z | z
    · exact .inl z
    · exact .inr (hf p z)
  · obtain ⟨o', h⟩ := Mut.ex (E.dom p z)
    rw [hf p hp] at h; cases h
  · simp at hp ⊢
    rcases hp with z | z | z <;> simp [z]
def oOp (op : D → D → Option T) (a b : M Ob) : M T := a.bnd fun x => b.bnd fun y => fun env => M.opt ((lookB x env).bind fun d => (lookB y env).bind fun e => op d e) env
theorem io_op {r : R2} {op} (s : OpT K r op) {ma mb : M Ob} (a : IB K Wx ta ma) (b : IB K Wx tb mb) : IO K Wx (tOp r ta tb) (oOp op ma mb) := fun Oo W σ H env Q E q => by
  refine a Oo W σ H env _ E ((M.bnd_to q).mono (fun x env1 q v H1 W1 l1 E1 r1 => ?_) fun _ _ _ _ x => x)
  refine b Oo W1 σ H1 env1 _ E1 ((M.bnd_to q).mono (fun y env2 q u H2 W2 l2 E2 r2 => ?_) fun _ _ _ _ x => x.lv l1)
  obtain ⟨t, e, q⟩ := M.opt_to q
  cases e1 : lookB x env2 with
  | none => rw [e1] at e; cases e
  | some d =>
    rw [e1] at e
    cases e2 : lookB y env2 with
    | none => rw [e2] at e; cases e
    | some d' =>
      rw [e2] at e
      refine s H2 (Oo ++ W2) v u d d' t Q E2.domA (E2.look (ObR.lv (l2.oo Oo) r1) e1) (E2.look r2 e2) e fun w H3 fp ex hf nd o => ?_
      obtain ⟨k1, k2, k3, k4⟩ := new_io E2 ex hf o
      exact q w H3 W2 fp ((l1.trans l2).trans k1) k2 nd k3 k4
def oU (op : D → Option T) (a : M Ob) : M T := a.bnd fun x => fun env => M.opt ((lookB x env).bind op) env
theorem io_un {r : V → Hp → VK → Prop} {op} (s : OpU K r op) {ma : M Ob} (a : IB K Wx ta ma) : IO K Wx (tUn r ta) (oU op ma) := fun Oo W σ H env Q E q => by
  refine a Oo W σ H env _ E ((M.bnd_to q).mono (fun x env1 q v H1 W1 l1 E1 r1 => ?_) fun _ _ _ _ x => x)
  obtain ⟨t, e, q⟩ := M.opt_to q
  cases e1 : lookB x env1 with
  | none => rw [e1] at e; cases e
  | some d =>
    rw [e1] at e
    refine s H1 (Oo ++ W1) v d t Q E1.domA (E1.look r1 e1) e fun w H3 fp ex hf nd o => ?_
    obtain ⟨k1, k2, k3, k4⟩ := new_io E1 ex hf o
    exact q w H3 W1 fp (l1.trans k1) k2 nd k3 k4
/-! ### argument lists -/
def aNil : M (List Ob) := M.ret []
def aCons (a : M Ob) (b : M (List Ob)) : M (List Ob) := a.bnd fun x => b.bnd fun xs => M.ret (x :: xs)
theorem ia_nil : IA K Wx tNil aNil := fun Oo W σ H env Q E q => q [] H W (Lv.refl _ _) E rfl
theorem ia_cons {tas : TA} {ma mb} (a : IB K Wx ta ma) (b : IA K Wx tas mb) : IA K Wx (tCons ta tas) (aCons ma mb) := fun Oo W σ H env Q E q => by
  refine a Oo W σ H env _ E ((M.bnd_to q).mono (fun x env1 q v H1 W1 l1 E1 r1 => ?_) fun _ _ _ _ x => x)
  refine b Oo W1 σ H1 env1 _ E1 ((M.bnd_to q).mono (fun xs env2 q vs H2 W2 l2 E2 r2 => ?_) fun _ _ _ _ x => x.lv l1)
  exact q (v :: vs) H2 W2 (l1.trans l2) E2 ⟨v, vs, rfl, ObR.lv (l2.oo Oo) r1, r2⟩
def lookBs : List Ob → Env → Option (List D)
  | [], _ => some []
  | o :: os, env => (lookB o env).bind fun d => (lookBs os env).map (d :: ·)
theorem ER.looks (E : ER K Oo W σ H env) : ∀ {os : List Ob} {vs : List V} {ds : List D}, ObsR K H (Oo ++ W) σ os vs → lookBs os env = some ds → RShs K H (Oo ++ W) ds vs
  | [], _, _, h, e => by cases e; exact h
  | o :: os, _, z, ⟨v, vs', e, a, r⟩, h => by
    unfold lookBs at h
    cases e1 : lookB o env with
    | none => rw [e1] at h; cases h
    | some d =>
      rw [e1] at h
      have h : (lookBs os env).map (d :: ·) = some z := h
      cases e2 : lookBs os env with
      | none => rw [e2] at h; cases h
      | some ds =>
        rw [e2] at h; cases h
        exact ⟨v, vs', e, E.look a e1, ER.looks E r e2⟩
/-- a built-in's call -/
def oA (op : List D → Option T) (a : M (List Ob)) : M T := a.bnd fun xs => fun env => M.opt ((lookBs xs env).bind op) env
theorem io_cb {r : List V → Hp → VK → Prop} {op} (s : OpA K r op) {tas : TA} {ma} (a : IA K Wx tas ma) : IO K Wx (tCB r tas) (oA op ma) := fun Oo W σ H env Q E q => by
  refine a Oo W σ H env _ E ((M.bnd_to q).mono (fun xs env1 q vs H1 W1 l1 E1 r1 => ?_) fun _ _ _ _ x => x)
  obtain ⟨t, e, q⟩ := M.opt_to q
  cases e1 : lookBs xs env1 with
  | none => rw [e1] at e; cases e
  | some ds =>
    rw [e1] at e
    refine s H1 (Oo ++ W1) vs ds t Q E1.domA (E1.looks r1 e1) e fun w H3 fp ex hf nd o => ?_
    obtain ⟨k1, k2, k3, k4⟩ := new_io E1 ex hf o
    exact q w H3 W1 fp (l1.trans k1) k2 nd k3 k4
end
end KM
/-! Displays, tests, logic, slices, attributes, places. -/
namespace KM
open PySem PySem.Spec PyProof.Rows L2 Evl KP
section
variable {K : PySem.W.Frag} {Wx : WX} {H H' H1 H2 : Hp} {O O' Oo W W' W1 W2 fp : List Addr} {σ : L2.St} {env env' : Env} {te ta tb tc : TE} {tt tu : TT} {tas : TA}
/-! ### displays -/
/-- arguments as data -/
def IAV (K : PySem.W.Frag) (Wx : WX) (tas : TA) (m : M (List D)) : Prop := ∀ Oo W σ H env (Q : List V → Hp → Prop), ER K Oo W σ H env →
  (m env).To (fun ds env' => ∀ vs H' W', Lv H W H' W' → ER K Oo W' σ H' env' → Rvs K H' (Oo ++ W') ds vs → Q vs H') (OkX K Wx Oo W σ H) → tas σ H Q
def vNil : M (List D) := M.ret []
def vCons (a : M D) (b : M (List D)) : M (List D) := a.bnd fun x => b.bnd fun xs => M.ret (x :: xs)
theorem iav_nil : IAV K Wx tNil vNil := fun Oo W σ H env Q E q => q [] H W (Lv.refl _ _) E rfl
theorem iav_cons {ma mb} (a : IV K Wx ta ma) (b : IAV K Wx tas mb) : IAV K Wx (tCons ta tas) (vCons ma mb) := fun Oo W σ H env Q E q => by
  refine a Oo W σ H env _ E ((M.bnd_to q).mono (fun x env1 q v H1 W1 l1 E1 r1 => ?_) fun _ _ _ _ x => x)
  refine b Oo W1 σ H1 env1 _ E1 ((M.bnd_to q).mono (fun xs env2 q vs H2 W2 l2 E2 r2 => ?_) fun _ _ _ _ x => x.lv l1)
  exact q (v :: vs) H2 W2 (l1.trans l2) E2 ⟨v, vs, rfl, Rv.lv (l2.oo Oo) r1, r2⟩
/-- *e, .. -/
def items : D → Option (List D)
  | .lst ds => some ds
  | .fro ds => some ds
  | .tup ds => some ds
  | _ => none
def vStar (a : M D) (b : M (List D)) : M (List D) := a.bnd fun x => fun env => match items x with
  | some ds => (b.bnd fun xs => M.ret (ds ++ xs)) env
  | none => .stuck
theorem Rv.items {d : D} {v : V} {ds : List D} (r : Rv K H O d v) (h : items d = some ds) : ∃ p vs, v = .ref p ∧ (SqT K H p vs ∨ SqL K H p vs) ∧ Rvs K H O ds vs := by
  cases d with
  | lst es => obtain ⟨p, vs, e, a, r⟩ := r; cases h; exact ⟨p, vs, e, .inr (SqL.of a.2), r⟩
  | fro es => obtain ⟨p, vs, e, a, r⟩ := r; cases h; exact ⟨p, vs, e, .inr a.sq, r⟩
  | tup es => obtain ⟨p, vs, e, a, r⟩ := r; cases h; exact ⟨p, vs, e, .inl a.sq, r⟩
  | _ => cases h
theorem iav_star {ma mb} (a : IV K Wx ta ma) (b : IAV K Wx tas mb) : IAV K Wx (StX.tStar K ta tas) (vStar ma mb) := fun Oo W σ H env Q E q => by
  refine a Oo W σ H env _ E ((M.bnd_to q).mono (fun x env1 q v H1 W1 l1 E1 r1 => ?_) fun _ _ _ _ x => x)
  cases e : items x with
  | none => rw [e] at q; exact q.elim
  | some ds =>
    rw [e] at q
    obtain ⟨p, vs, ev, s, rs⟩ := r1.items e
    refine ⟨p, vs, ev, s, ?_⟩
    refine b Oo W1 σ H1 env1 _ E1 ((M.bnd_to q).mono (fun xs env2 q us H2 W2 l2 E2 r2 => ?_) fun _ _ _ _ x => x.lv l1)
    exact q (vs ++ us) H2 W2 (l1.trans l2) E2 ((rs.lv (l2.oo Oo)).app r2)
def small (ds : List D) : Bool := decide (ds.length ≤ 16777216)
theorem small_sz {ds : List D} {vs : List V} (h : small ds = true) (r : Rvs K H O ds vs) : vs.length ≤ sizeLine := by
  rw [r.len, sizeLine_eq]
  exact of_decide_eq_true h
def vTup (a : M (List D)) : M D := a.bnd fun ds => fun env => if small ds = true then .ok (.tup ds) env else .stuck
theorem iv_tup {m} (a : IAV K Wx tas m) : IV K Wx (tTup tas) (vTup m) := fun Oo W σ H env Q E q => by
  refine a Oo W σ H env _ E ((M.bnd_to q).mono (fun ds env1 q vs H1 W1 l1 E1 r1 => ?_) fun _ _ _ _ x => x)
  split at q
  · rename_i hs
    refine ⟨small_sz hs r1, fun p hp => ?_⟩
    have x := Evl.Ex.new (o := .tup vs) hp
    exact q (.ref p) _ W1 (l1.trans (Lv.ex x)) (E1.ex x) ⟨p, vs, rfl, .inl ⟨E1.new hp, .inl upd_same⟩, r1.lv (Lv.ex x)⟩
  · exact q.elim
def leafs (ds : List D) : List T := ds.map T.val
theorem Rvs.leafs : ∀ {ds : List D} {vs : List V}, Rvs K H O ds vs → Ows K H O (leafs ds) vs []
  | [], _, e => ⟨e, rfl⟩
  | d :: ds, _, ⟨v, vs', e, a, r⟩ => ⟨v, vs', [], [], e, rfl, ⟨rfl, a⟩, Rvs.leafs r⟩
/-- a new list of data -/
theorem Ow.list {p : Addr} {ds : List D} {vs : List V} (hp : H p = none) (hn : ∀ q ∈ O, Mut (H q)) (r : Rvs K H O ds vs) : Ow K (upd H p (.lst vs)) (O ++ [p]) (.lst (leafs ds)) (.ref p) [p] := by
  refine ⟨p, vs, [], rfl, rfl, upd_same, (r.lv ⟨fun q o _ h => hp_new hp h, fun q hq => ?_⟩).leafs⟩
  rcases List.mem_append.mp hq with z | z
  · exact .inl z
  · rw [List.mem_singleton.mp z]
    exact .inr hp
def oLst (a : M (List D)) : M T := a.bnd fun ds => fun env => if small ds = true then .ok (.lst (leafs ds)) env else .stuck
theorem io_lst {m} (a : IAV K Wx tas m) : IO K Wx (tLst tas) (oLst m) := fun Oo W σ H env Q E q => by
  refine a Oo W σ H env _ E ((M.bnd_to q).mono (fun ds env1 q vs H1 W1 l1 E1 r1 => ?_) fun _ _ _ _ x => x)
  split at q
  · rename_i hs
    refine ⟨small_sz hs r1, fun p hp => ?_⟩
    obtain ⟨k1, k2, k3, k4⟩ := new_io (fp := [p]) E1 (Evl.Ex.new (o := .lst vs) hp) (fun q hq => by rw [List.mem_singleton.mp hq]; exact hp) (Ow.list hp E1.domA r1)
    exact q (.ref p) _ W1 [p] (l1.trans k1) k2 (by simp) k3 k4
  · exact q.elim
/-! ### tests, logic -/
def unBl (d : D) : M Bool := match d with
  | .bl b => M.ret b
  | _ => fun _ => .stuck
def tst (m : M D) : M Bool := m.bnd unBl
theorem Rv.bl {d : D} {v : V} {Q : Bool → Env → Prop} {X} (r : Rv K H O d v) (q : (unBl d env).To Q X) : ∃ b, v = .bl b ∧ d = .bl b ∧ Q b env := by
  cases d with
  | bl b => exact ⟨b, r, rfl, q⟩
  | _ => exact q.elim
theorem it_test {m} (a : IV K Wx te m) : IT K Wx (tTest te) (tst m) := fun Oo W σ H env Q E q => by
  refine a Oo W σ H env _ E ((M.bnd_to q).mono (fun d env1 q v H1 W1 l1 E1 r1 => ?_) fun _ _ _ _ x => x)
  obtain ⟨b, e, _, q⟩ := r1.bl q
  exact ⟨b, e, q H1 W1 l1 E1⟩
def truD : D → Option Bool
  | .non => some false
  | .bl b => some b
  | .int i => some (i != 0)
  | .str y => if y.length ≤ 16777216 then some ((y.length : Int) != 0) else none
  | .lst ds => some (!ds.isEmpty)
  | .fro ds => some (!ds.isEmpty)
  | .tup ds => some (!ds.isEmpty)
  | _ => none
theorem Rvs.empty : ∀ {ds : List D} {vs : List V}, Rvs K H O ds vs → vs.isEmpty = ds.isEmpty
  | [], _, e => by cases (show _ = [] from e); rfl
  | d :: ds, _, ⟨v, vs', e, a, r⟩ => by subst e; rfl
theorem RSh.tru {d : D} {v : V} {b : Bool} (r : RSh K H O d v) (e : truD d = some b) : TruV K v H b := by
  cases d with
  | non => cases (show _ = V.non from r); cases e; rfl
  | bl _ => cases (show _ = V.bl _ from r); cases e; rfl
  | int _ => cases (show _ = V.int _ from r); cases e; rfl
  | str y =>
    cases (show _ = V.str _ from r)
    have e : (if y.length ≤ 16777216 then some ((y.length : Int) != 0) else none) = some b := e
    split at e
    · rename_i hz
      cases e
      exact ⟨by rw [sizeLine_eq]; exact hz, rfl⟩
    · cases e
  | lst ds => obtain ⟨p, vs, q, a, r⟩ := r; subst q; cases e; exact .inl ⟨vs, SqL.of a, by rw [r.empty]⟩
  | fro ds => obtain ⟨p, vs, q, a, r⟩ := r; subst q; cases e; exact .inl ⟨vs, a, by rw [r.empty]⟩
  | tup ds => obtain ⟨p, vs, q, a, r⟩ := r; subst q; cases e; exact .inr (.inl ⟨vs, a.sq, by rw [r.empty]⟩)
  | _ => cases e
def tru (m : M Ob) : M Bool := m.bnd fun x => fun env => M.opt ((lookB x env).bind truD) env
theorem it_tru {m} (a : IB K Wx te m) : IT K Wx (tTruG K te) (tru m) := fun Oo W σ H env Q E q => by
  refine a Oo W σ H env _ E ((M.bnd_to q).mono (fun x env1 q v H1 W1 l1 E1 r1 => ?_) fun _ _ _ _ x => x)
  obtain ⟨b, e, q⟩ := M.opt_to q
  cases e1 : lookB x env1 with
  | none => rw [e1] at e; cases e
  | some d =>
    rw [e1] at e
    exact ⟨b, (E1.look r1 e1).tru e, q H1 W1 l1 E1⟩
def tnot (m : M Bool) : M Bool := m.bnd fun b => M.ret (!b)
theorem it_not {m} (a : IT K Wx tt m) : IT K Wx (tNot tt) (tnot m) := fun Oo W σ H env Q E q =>
  a Oo W σ H env _ E ((M.bnd_to q).mono (fun b env1 q H1 W1 l1 E1 => q H1 W1 l1 E1) fun _ _ _ _ x => x)
def tand (a b : M Bool) : M Bool := a.bnd fun x => if x = true then b else M.ret false
theorem it_and {ma mb} (a : IT K Wx tt ma) (b : IT K Wx tu mb) : IT K Wx (tAnd tt tu) (tand ma mb) := fun Oo W σ H env Q E q => by
  refine a Oo W σ H env _ E ((M.bnd_to q).mono (fun x env1 q H1 W1 l1 E1 => ?_) fun _ _ _ _ x => x)
  cases x with
  | true => exact b Oo W1 σ H1 env1 _ E1 (Rs.To.mono q (fun y env2 q H2 W2 l2 E2 => q H2 W2 (l1.trans l2) E2) fun _ _ _ _ x => x.lv l1)
  | false => exact q H1 W1 l1 E1
def tor (a b : M Bool) : M Bool := a.bnd fun x => if x = true then M.ret true else b
theorem it_or {ma mb} (a : IT K Wx tt ma) (b : IT K Wx tu mb) : IT K Wx (tOr tt tu) (tor ma mb) := fun Oo W σ H env Q E q => by
  refine a Oo W σ H env _ E ((M.bnd_to q).mono (fun x env1 q H1 W1 l1 E1 => ?_) fun _ _ _ _ x => x)
  cases x with
  | false => exact b Oo W1 σ H1 env1 _ E1 (Rs.To.mono q (fun y env2 q H2 W2 l2 E2 => q H2 W2 (l1.trans l2) E2) fun _ _ _ _ x => x.lv l1)
  | true => exact q H1 W1 l1 E1
theorem iv_andV {ma mb} (a : IV K Wx ta ma) (b : IV K Wx tb mb) : IV K Wx (tAndV ta tb) ((tst ma).bnd fun x => if x = true then mb else M.ret (.bl false)) := fun Oo W σ H env Q E q => by
  refine a Oo W σ H env _ E ((M.bnd_to (M.bnd_to q)).mono (fun d env1 q v H1 W1 l1 E1 r1 => ?_) fun _ _ _ _ x => x)
  obtain ⟨x, e, _, q⟩ := r1.bl q
  refine ⟨x, e, ?_⟩
  cases x with
  | true => exact b Oo W1 σ H1 env1 _ E1 (Rs.To.mono q (fun y env2 q u H2 W2 l2 E2 r2 => q u H2 W2 (l1.trans l2) E2 r2) fun _ _ _ _ x => x.lv l1)
  | false => exact q (.bl false) H1 W1 l1 E1 rfl
def vAnd (a b : M D) : M D := (tst a).bnd fun x => if x = true then b else M.ret (.bl false)
theorem iv_and {ma mb} (a : IV K Wx ta ma) (b : IV K Wx tb mb) : IV K Wx (tAndV ta tb) (vAnd ma mb) := iv_andV a b
def vNot (a : M D) : M D := (tst a).bnd fun x => M.ret (.bl (!x))
theorem iv_not {ma} (a : IV K Wx ta ma) : IV K Wx (tNotV ta) (vNot ma) := fun Oo W σ H env Q E q => by
  refine a Oo W σ H env _ E ((M.bnd_to (M.bnd_to q)).mono (fun d env1 q v H1 W1 l1 E1 r1 => ?_) fun _ _ _ _ x => x)
  obtain ⟨x, e, _, q⟩ := r1.bl q
  exact ⟨x, e, q (.bl (!x)) H1 W1 l1 E1 rfl⟩
/-- a op b op' c -/
def oChain (op op' : D → D → Option T) (a b c : M Ob) : M D := a.bnd fun x => b.bnd fun y => fun env =>
  match (lookB x env).bind fun d => (lookB y env).bind fun e => op d e with
  | some (.val (.bl k)) => if k = true then (c.bnd fun z => fun env2 => M.opt (((lookB y env2).bind fun d => (lookB z env2).bind fun e => op' d e).map toD) env2) env else .ok (.bl false) env
  | _ => .stuck
theorem iv_chain {r r' : R2} {op op'} (s : OpT K r op) (s' : OpT K r' op') {ma mb mc : M Ob} (a : IB K Wx ta ma) (b : IB K Wx tb mb) (c : IB K Wx tc mc) : IV K Wx (tChain r r' ta tb tc) (oChain op op' ma mb mc) := fun Oo W σ H env Q E q => by
  refine a Oo W σ H env _ E ((M.bnd_to q).mono (fun x env1 q v H1 W1 l1 E1 r1 => ?_) fun _ _ _ _ x => x)
  refine b Oo W1 σ H1 env1 _ E1 ((M.bnd_to q).mono (fun y env2 q u H2 W2 l2 E2 r2 => ?_) fun _ _ _ _ x => x.lv l1)
  split at q
  · rename_i k hk
    cases e1 : lookB x env2 with
    | none => rw [e1] at hk; cases hk
    | some d =>
      rw [e1] at hk
      cases e2 : lookB y env2 with
      | none => rw [e2] at hk; cases hk
      | some d' =>
        rw [e2] at hk
        refine s H2 (Oo ++ W2) v u d d' _ _ E2.domA (E2.look (ObR.lv (l2.oo Oo) r1) e1) (E2.look r2 e2) hk fun w H3 fp ex hf nd o => ?_
        obtain ⟨hfp, ow⟩ := o
        subst hfp
        have ow : w = V.bl k := ow
        subst ow
        refine ⟨k, rfl, ?_⟩
        have l12 := l1.trans l2
        have l13 := l12.trans (Lv.ex ex)
        cases k with
        | false => exact q (.bl false) H3 W2 l13 (E2.ex ex) rfl
        | true =>
          refine c Oo W2 σ H3 env2 _ (E2.ex ex) ((M.bnd_to q).mono (fun z env3 q t H4 W4 l4 E4 r4 => ?_) fun _ _ _ _ x => x.lv l13)
          obtain ⟨zz, e, q⟩ := M.opt_to q
          cases e3 : lookB y env3 with
          | none => rw [e3] at e; cases e
          | some d3 =>
            rw [e3] at e
            cases e4 : lookB z env3 with
            | none => rw [e4] at e; cases e
            | some d4 =>
              rw [e4] at e
              have e : (op' d3 d4).map toD = some zz := e
              cases e5 : op' d3 d4 with
              | none => rw [e5] at e; cases e
              | some t5 =>
                rw [e5] at e; cases e
                refine s' H4 (Oo ++ W4) u t d3 d4 t5 _ E4.domA (E4.look (ObR.lv (l4.oo Oo) (ObR.lv (Lv.ex ex) r2)) e3) (E4.look r4 e4) e5 fun w5 H5 fp5 ex5 hf5 nd5 o5 => ?_
                refine q w5 H5 W4 ((l13.trans l4).trans (Lv.ex ex5)) (E4.ex ex5) (o5.toD (fun p hp => List.mem_append_left _ hp) fun p hp y => ?_)
                obtain ⟨o', h⟩ := Mut.ex (E4.domA p y)
                rw [hf5 p hp] at h; cases h
  · exact q.elim
/-! ### slices -/
def ITO (K : PySem.W.Frag) (Wx : WX) (to : TO) (m : M (Option Int)) : Prop := ∀ Oo W σ H env (Q : Option Int → Hp → Prop), ER K Oo W σ H env →
  (m env).To (fun b env' => ∀ H' W', Lv H W H' W' → ER K Oo W' σ H' env' → Q b H') (OkX K Wx Oo W σ H) → to σ H Q
def ipNo : M (Option Int) := M.ret none
theorem ito_no : ITO K Wx tNoPart ipNo := fun Oo W σ H env Q E q => q H W (Lv.refl _ _) E
def ipSome (m : M D) : M (Option Int) := m.bnd fun d => fun env => match d with
  | .int i => .ok (some i) env
  | _ => .stuck
theorem ito_some {m} (a : IV K Wx te m) : ITO K Wx (tPart te) (ipSome m) := fun Oo W σ H env Q E q => by
  refine a Oo W σ H env _ E ((M.bnd_to q).mono (fun d env1 q v H1 W1 l1 E1 r1 => ?_) fun _ _ _ _ x => x)
  cases d with
  | int i => exact ⟨i, r1, q H1 W1 l1 E1⟩
  | _ => exact q.elim
theorem dom_ex (e : Evl.Ex H H') (hn : ∀ p ∈ O, Mut (H p)) : ∀ p ∈ O, Mut (H' p) := fun p hp => by
  have m := hn p hp
  obtain ⟨o, h⟩ := Mut.ex m
  rw [h] at m
  rw [e p o h]
  exact m
def cutD (ds : List D) (lo hi : Option Int) : List D := (ds.drop (HT.sIx ds.length 0 lo)).take (HT.sIx ds.length ds.length hi - HT.sIx ds.length 0 lo)
theorem Rvs.cut {ds : List D} {vs : List V} (r : Rvs K H O ds vs) (lo hi : Option Int) : Rvs K H O (cutD ds lo hi) (cutV vs lo hi) := by
  unfold cutD cutV
  rw [r.len]
  exact (r.drop _).take _
def opSl (d : D) (lo hi : Option Int) : Option T := match d with
  | .lst ds => some (.lst (leafs (cutD ds lo hi)))
  | .fro ds => some (.lst (leafs (cutD ds lo hi)))
  | .tup ds => some (.val (.tup (cutD ds lo hi)))
  | .str z => if z.length ≤ 16777216 then some (.val (.str (cutS z lo hi))) else none
  | _ => none
theorem op_sl {x : V} {d : D} {lo hi : Option Int} {t : T} {Q : VK} (hn : ∀ p ∈ O, Mut (H p)) (r : RSh K H O d x) (e : opSl d lo hi = some t)
    (q : ∀ v H' fp, Evl.Ex H H' → (∀ p ∈ fp, H p = none) → fp.Nodup → Ow K H' (O ++ fp) t v fp → Q v H') : rSlG K x lo hi H Q := by
  cases d with
  | lst ds =>
    cases e
    obtain ⟨p, vs, rfl, a, rs⟩ := r
    refine .inl ⟨vs, SqL.of a, fun p' hp => q _ _ [p'] (Evl.Ex.new hp) (fun y hy => by rw [List.mem_singleton.mp hy]; exact hp) (by simp) (Ow.list hp hn (rs.cut lo hi))⟩
  | fro ds =>
    cases e
    obtain ⟨p, vs, rfl, a, rs⟩ := r
    refine .inl ⟨vs, a, fun p' hp => q _ _ [p'] (Evl.Ex.new hp) (fun y hy => by rw [List.mem_singleton.mp hy]; exact hp) (by simp) (Ow.list hp hn (rs.cut lo hi))⟩
  | tup ds =>
    cases e
    obtain ⟨p, vs, rfl, a, rs⟩ := r
    refine .inr ⟨vs, a.sq, fun p' H' ex s _ => q (.ref p') H' [] ex (by simp) List.nodup_nil ?_⟩
    rw [List.append_nil]
    exact ⟨rfl, p', _, rfl, TupAt.of (dom_ex ex hn) s, (rs.cut lo hi).lv (Lv.ex ex)⟩
  | str z =>
    cases (show x = V.str z from r)
    unfold opSl at e
    dsimp only at e
    split at e
    · rename_i hz
      cases e
      exact ⟨by rw [sizeLine_eq]; exact hz, q _ H [] (Evl.Ex.refl H) (by simp) List.nodup_nil ⟨rfl, rfl⟩⟩
    · cases e
  | _ => cases e
def oSl (a : M Ob) (l h : M (Option Int)) : M T := a.bnd fun x => l.bnd fun lo => h.bnd fun hi => fun env => M.opt ((lookB x env).bind fun d => opSl d lo hi) env
theorem io_sl {tl th : TO} {ma ml mh} (a : IB K Wx te ma) (l : ITO K Wx tl ml) (h : ITO K Wx th mh) : IO K Wx (tSl (rSlG K) te tl th) (oSl ma ml mh) := fun Oo W σ H env Q E q => by
  refine a Oo W σ H env _ E ((M.bnd_to q).mono (fun x env1 q v H1 W1 l1 E1 r1 => ?_) fun _ _ _ _ x => x)
  refine l Oo W1 σ H1 env1 _ E1 ((M.bnd_to q).mono (fun lo env2 q H2 W2 l2 E2 => ?_) fun _ _ _ _ x => x.lv l1)
  refine h Oo W2 σ H2 env2 _ E2 ((M.bnd_to q).mono (fun hi env3 q H3 W3 l3 E3 => ?_) fun _ _ _ _ x => x.lv (l1.trans l2))
  obtain ⟨t, e, q⟩ := M.opt_to q
  cases e1 : lookB x env3 with
  | none => rw [e1] at e; cases e
  | some d =>
    rw [e1] at e
    refine op_sl E3.domA (E3.look (ObR.lv ((l2.trans l3).oo Oo) r1) e1) e fun w H4 fp ex hf nd o => ?_
    obtain ⟨k1, k2, k3, k4⟩ := new_io E3 ex hf o
    exact q w H4 W3 fp (((l1.trans l2).trans l3).trans k1) k2 nd k3 k4
/-! ### attributes, places further in -/
theorem Rvs.fld {ns : List Str} {ds : List D} {vs : List V} {f : Str} {k : Nat} {d : D} (hl : ns.length = vs.length) (r : Rvs K H O ds vs) (h1 : ixOf f ns = some k) (h2 : ds[k]? = some d) : ∃ v, (ns.zip vs).lookup f = some v ∧ Rv K H O d v := by
  obtain ⟨v, e1, e2⟩ := ixOf_lookup hl h1
  obtain ⟨v', e1', rv⟩ := r.get h2
  rw [e1] at e1'; cases e1'
  exact ⟨v, e2, rv⟩
theorem Rvs.atI {ds : List D} {vs : List V} {j : Int} {d : D} (r : Rvs K H O ds vs) (h : L2.atI ds j = some d) : ∃ v, L2.atI vs j = some v ∧ Rv K H O d v := by
  unfold L2.atI at h ⊢
  rw [r.len]
  cases e : ixN ds.length j with
  | none => rw [e] at h; cases h
  | some n =>
    rw [e] at h
    exact r.get h
theorem RSh.items {d : D} {v : V} {ds : List D} (r : RSh K H O d v) (h : items d = some ds) : ∃ p vs, v = .ref p ∧ Sq K H p vs ∧ Rvs K H O ds vs := by
  cases d with
  | lst es => obtain ⟨p, vs, e, a, r⟩ := r; cases h; exact ⟨p, vs, e, .inl (SqL.of a), r⟩
  | fro es => obtain ⟨p, vs, e, a, r⟩ := r; cases h; exact ⟨p, vs, e, .inl a, r⟩
  | tup es => obtain ⟨p, vs, e, a, r⟩ := r; cases h; exact ⟨p, vs, e, .inr a.sq, r⟩
  | _ => cases h
end
end KM
/-! The operators and the built-ins. -/
namespace KM
open PySem PySem.Spec PyProof.Rows L2 Evl KP
section
variable {K : PySem.W.Frag} {H H' : Hp} {O : List Addr}
/-- a plain answer -/
theorem ans {d : D} {v : V} {Q : VK} (h : ∀ v H' fp, Evl.Ex H H' → (∀ p ∈ fp, H p = none) → fp.Nodup → Ow K H' (O ++ fp) (.val d) v fp → Q v H') (r : Rv K H O d v) : Q v H :=
  h v H [] (Evl.Ex.refl H) (by simp) List.nodup_nil ⟨rfl, by simpa using r⟩
/-- a new tuple -/
theorem ansT {p : Addr} {ds : List D} {vs : List V} {Q : VK} (hn : ∀ p ∈ O, Mut (H p)) (ex : Evl.Ex H H') (s : SqT K H' p vs) (r : Rvs K H O ds vs)
    (h : ∀ v H' fp, Evl.Ex H H' → (∀ p ∈ fp, H p = none) → fp.Nodup → Ow K H' (O ++ fp) (.val (.tup ds)) v fp → Q v H') : Q (.ref p) H' :=
  h (.ref p) H' [] ex (by simp) List.nodup_nil ⟨rfl, p, vs, rfl, by rw [List.append_nil]; exact TupAt.of (dom_ex ex hn) s, by rw [List.append_nil]; exact r.lv (Lv.ex ex)⟩
/-- a new list -/
theorem ansL {p : Addr} {ds : List D} {vs : List V} {Q : VK} (hn : ∀ p ∈ O, Mut (H p)) (hp : H p = none) (r : Rvs K H O ds vs)
    (h : ∀ v H' fp, Evl.Ex H H' → (∀ p ∈ fp, H p = none) → fp.Nodup → Ow K H' (O ++ fp) (.lst (leafs ds)) v fp → Q v H') : Q (.ref p) (upd H p (.lst vs)) :=
  h (.ref p) _ [p] (Evl.Ex.new hp) (fun y hy => by rw [List.mem_singleton.mp hy]; exact hp) (by simp) (Ow.list hp hn r)
theorem szl {n : Nat} (h : n ≤ 16777216) : n ≤ sizeLine := by rw [sizeLine_eq]; exact h
def rMulH (K : PySem.W.Frag) : R2 := fun x y H Q => rMulG x y H Q ∨ rRepT K x y H Q
theorem op_mulH {X : Cx} : OpR X (binaryOp .Mult) (rMulH X.K) := by
  intro pins s σ H x y v u Q I rx ry h
  rcases h with h | h
  · exact op_mulG pins s σ H x y v u Q I rx ry h
  · exact op_repT pins s σ H x y v u Q I rx ry h
/-! ### arithmetic -/
def opAdd : D → D → Option T
  | .int i, .int j => some (.val (.int (i + j)))
  | .str a, .str b => if a.length + b.length ≤ 16777216 then some (.val (.str (a ++ b))) else none
  | .lst a, .lst b => if a.length + b.length ≤ 16777216 then some (.lst (leafs (a ++ b))) else none
  | .tup a, .tup b => if a.length + b.length ≤ 16777216 then some (.val (.tup (a ++ b))) else none
  | _, _ => none
theorem s_add : OpT K (rAddG K) opAdd := by
  intro H O x y d e t Q hn r1 r2 h q
  unfold opAdd at h
  split at h
  · cases h; cases (show x = _ from r1); cases (show y = _ from r2)
    exact ans (K := K) q rfl
  · split at h
    · rename_i hz
      cases h; cases (show x = _ from r1); cases (show y = _ from r2)
      exact ⟨szl hz, ans (K := K) q rfl⟩
    · cases h
  · split at h
    · rename_i hz
      cases h
      obtain ⟨p, vs, rfl, a, r1⟩ := r1
      obtain ⟨p', vs', rfl, a', r2⟩ := r2
      exact .inl ⟨vs, vs', a, a', by rw [r1.len, r2.len]; exact szl hz, fun p0 hp => ansL hn hp (r1.app r2) q⟩
    · cases h
  · split at h
    · rename_i hz
      cases h
      obtain ⟨p, vs, rfl, a, r1⟩ := r1
      obtain ⟨p', vs', rfl, a', r2⟩ := r2
      exact .inr ⟨vs, vs', a.sq, a'.sq, by rw [r1.len, r2.len]; exact szl hz, fun p0 H' ex s _ => ansT hn ex s (r1.app r2) q⟩
    · cases h
  · cases h
/-- two ints -/
def opI (C : Int → Int → Bool) (g : Int → Int → Int) : D → D → Option T
  | .int i, .int j => if C i j = true then some (.val (.int (g i j))) else none
  | _, _ => none
theorem s_I {C : Int → Int → Bool} {P : Int → Int → Prop} {g : Int → Int → Int} (hc : ∀ i j, C i j = true → P i j) : OpT K (rI P fun i j => .int (g i j)) (opI C g) := by
  intro H O x y d e t Q hn r1 r2 h q
  unfold opI at h
  split at h
  · split at h
    · rename_i hz
      cases h; cases (show x = _ from r1); cases (show y = _ from r2)
      exact ⟨_, _, rfl, rfl, hc _ _ hz, ans (K := K) q rfl⟩
    · cases h
  · cases h
def opI0 (g : Int → Int → Int) : D → D → Option T
  | .int i, .int j => some (.val (.int (g i j)))
  | _, _ => none
theorem s_I0 {g : Int → Int → Int} : OpT K (rI0 fun i j => .int (g i j)) (opI0 g) := by
  intro H O x y d e t Q hn r1 r2 h q
  unfold opI0 at h
  split at h
  · cases h; cases (show x = _ from r1); cases (show y = _ from r2)
    exact ⟨_, _, rfl, rfl, ans (K := K) q rfl⟩
  · cases h
def opSub := opI0 fun i j => i - j
theorem s_sub : OpT K (rI0 fun i j => .int (i - j)) opSub := s_I0
def opAnd := opI0 Builtin.bitAnd
def opOr := opI0 Builtin.bitOr
def opXor := opI0 Builtin.bitXor
def divOk (i j : Int) : Bool := decide (0 < j) && decide (j.natAbs.log2 < 9000)
def opFdiv := opI divOk fun i j => i / j
theorem s_fdiv : OpT K (rI CDivW fun i j => .int (i / j)) opFdiv := s_I fun i j h => by
  unfold divOk at h
  simp only [Bool.and_eq_true, decide_eq_true_eq] at h
  exact ⟨h.1, h.2⟩
def opMod := opI (fun _ j => decide (0 < j)) fun i j => i % j
theorem s_mod : OpT K (rI (fun _ j => 0 < j) fun i j => .int (i % j)) opMod := s_I fun i j h => of_decide_eq_true h
def powOk (i j : Int) : Bool := decide (0 ≤ j) && (decide (j ≤ 1000000) && decide (i.natAbs < 2 ^ 64))
theorem powOk_of {i j : Int} (h : powOk i j = true) : CPow i j := by
  unfold powOk at h
  simp only [Bool.and_eq_true, decide_eq_true_eq] at h
  exact ⟨h.1, h.2.1, h.2.2⟩
def opPow := opI powOk fun i j => i ^ j.toNat
theorem s_pow : OpT K (rI CPow fun i j => .int (i ^ j.toNat)) opPow := s_I fun i j h => powOk_of h
def opShl := opI powOk fun i j => i * 2 ^ j.toNat
theorem s_shl : OpT K (rI CPow fun i j => .int (i * 2 ^ j.toNat)) opShl := s_I fun i j h => powOk_of h
def opShr := opI (fun _ j => decide (0 ≤ j)) fun i j => i / 2 ^ j.toNat
theorem s_shr : OpT K (rI (fun _ j => 0 ≤ j) fun i j => .int (i / 2 ^ j.toNat)) opShr := s_I fun i j h => of_decide_eq_true h
def mulOk (i j : Int) : Bool := decide (i.natAbs < 2 ^ 64) || (decide (j.natAbs < 2 ^ 64) || decide (i.natAbs.log2 + j.natAbs.log2 < 1000000))
def opMul : D → D → Option T
  | .int i, .int j => if mulOk i j = true then some (.val (.int (i * j))) else none
  | .lst a, .int k => if (decide (-(2 ^ 63) ≤ k) && (decide (k < 2 ^ 63) && decide (a.length * k.toNat ≤ 16777216))) = true then some (.lst (leafs (List.replicate k.toNat a).flatten)) else none
  | .tup a, .int k => if (decide (2 ≤ k) && (decide (k ≤ 1000) && (decide (a.length ≤ 1000) && !a.isEmpty))) = true then some (.val (.tup (List.replicate k.toNat a).flatten)) else none
  | _, _ => none
theorem Rvs.rep {ds : List D} {vs : List V} (r : Rvs K H O ds vs) : ∀ n : Nat, Rvs K H O (List.replicate n ds).flatten (List.replicate n vs).flatten
  | 0 => rfl
  | n + 1 => by
    rw [List.replicate_succ, List.replicate_succ, List.flatten_cons, List.flatten_cons]
    exact r.app (Rvs.rep r n)
theorem s_mul : OpT K (rMulH K) opMul := by
  intro H O x y d e t Q hn r1 r2 h q
  unfold opMul at h
  split at h
  · split at h
    · rename_i hz
      cases h; cases (show x = _ from r1); cases (show y = _ from r2)
      refine .inl ⟨?_, ans (K := K) q rfl⟩
      unfold mulOk at hz
      simp only [Bool.or_eq_true, decide_eq_true_eq] at hz
      rcases hz with h | h | h
      · exact .inl (.inl ⟨by omega, by omega⟩)
      · exact .inl (.inr ⟨by omega, by omega⟩)
      · exact .inr h
    · cases h
  · split at h
    · rename_i hz
      cases h
      simp only [Bool.and_eq_true, decide_eq_true_eq] at hz
      obtain ⟨p, vs, rfl, a, r1⟩ := r1
      cases (show y = _ from r2)
      exact .inl ⟨vs, a, hz.1, hz.2.1, by rw [r1.len]; exact szl hz.2.2, fun p0 hp => ansL hn hp (r1.rep _) q⟩
    · cases h
  · split at h
    · rename_i hz
      cases h
      simp only [Bool.and_eq_true, decide_eq_true_eq] at hz
      obtain ⟨p, vs, rfl, a, r1⟩ := r1
      cases (show y = _ from r2)
      refine .inr ⟨p, _, vs, rfl, rfl, a.sq, fun z => ?_, hz.1, hz.2.1, by rw [r1.len]; exact hz.2.2.1, fun p0 hp => ansT hn (Evl.Ex.new hp) (SqT.of upd_same) (r1.rep _) q⟩
      have := r1.empty
      rw [z] at this
      rw [← this] at hz
      exact absurd hz.2.2.2 (by simp)
    · cases h
  · cases h
def opNeg : D → Option T
  | .int i => some (.val (.int (-i)))
  | _ => none
theorem s_neg : OpU K (rU fun i => .int (-i)) opNeg := by
  intro H O x d t Q hn r1 h q
  unfold opNeg at h
  split at h
  · cases h; cases (show x = _ from r1)
    exact ⟨_, rfl, ans (K := K) q rfl⟩
  · cases h
/-! ### comparisons -/
def opOrd (f : Int → Int → Bool) : D → D → Option T
  | .int i, .int j => some (.val (.bl (f i j)))
  | _, _ => none
theorem s_ord {f : Int → Int → Bool} : OpT K (rOrdG K f) (opOrd f) := by
  intro H O x y d e t Q hn r1 r2 h q
  unfold opOrd at h
  split at h
  · cases h; cases (show x = _ from r1); cases (show y = _ from r2)
    exact ans (K := K) q rfl
  · cases h
def opLt := opOrd fun i j => decide (i < j)
def opLe := opOrd fun i j => decide (i ≤ j)
def opGt := opOrd fun i j => decide (j < i)
def opGe := opOrd fun i j => decide (j ≤ i)
mutual
/-- as the kit's data -/
def toPy : D → PyData
  | .non => .none
  | .bl b => .bool b
  | .int i => .int i
  | .str x => .str x
  | .lst ds => .list (toPys ds)
  | .fro ds => .list (toPys ds)
  | .tup ds => .tuple (toPys ds)
  | .ty _ => .none
  | .glo _ => .none
  | .dic _ _ => .none
  | .obj _ _ _ => .none
  | .exc _ _ _ => .none
def toPys : List D → List PyData
  | [] => []
  | d :: ds => toPy d :: toPys ds
end
mutual
def isPy : D → Bool
  | .non => true
  | .bl _ => true
  | .int _ => true
  | .str _ => true
  | .lst ds => isPys ds
  | .fro ds => isPys ds
  | .tup ds => isPys ds
  | .ty _ => false
  | .glo _ => false
  | .dic _ _ => false
  | .obj _ _ _ => false
  | .exc _ _ _ => false
def isPys : List D → Bool
  | [] => true
  | d :: ds => isPy d && isPys ds
end
mutual
theorem Rv.dp : ∀ {d : D} {v : V}, Rv K H O d v → isPy d = true → Dp K H v (toPy d)
  | .non, _, h, _ => by cases (show _ = _ from h); exact .non
  | .bl _, _, h, _ => by cases (show _ = _ from h); exact .bl _
  | .int _, _, h, _ => by cases (show _ = _ from h); exact .int _
  | .str _, _, h, _ => by cases (show _ = _ from h); exact .str _
  | .lst ds, _, ⟨p, vs, e, a, r⟩, h => by subst e; exact .lst (SqL.of a.2) (Rvs.dp r (by unfold isPy at h; exact h))
  | .fro ds, _, ⟨p, vs, e, a, r⟩, h => by subst e; exact .lst a.sq (Rvs.dp r (by unfold isPy at h; exact h))
  | .tup ds, _, ⟨p, vs, e, a, r⟩, h => by subst e; exact .tup a.sq (Rvs.dp r (by unfold isPy at h; exact h))
  | .ty _, _, _, h => by unfold isPy at h; cases h
  | .glo _, _, _, h => by unfold isPy at h; cases h
  | .dic _ _, _, _, h => by unfold isPy at h; cases h
  | .obj _ _ _, _, _, h => by unfold isPy at h; cases h
  | .exc _ _ _, _, _, h => by unfold isPy at h; cases h
theorem Rvs.dp : ∀ {ds : List D} {vs : List V}, Rvs K H O ds vs → isPys ds = true → DpAll K H vs (toPys ds)
  | [], _, e, _ => by cases (show _ = [] from e); exact .nil
  | d :: ds, _, ⟨v, vs', e, a, r⟩, h => by
    subst e
    unfold isPys at h
    rw [Bool.and_eq_true] at h
    exact .cons (Rv.dp a h.1) (Rvs.dp r h.2)
end
theorem RSh.dp {d : D} {v : V} (r : RSh K H O d v) (h : isPy d = true) : Dp K H v (toPy d) := by
  cases d with
  | non => cases (show _ = _ from r); exact .non
  | bl b => cases (show _ = _ from r); exact .bl _
  | int i => cases (show _ = _ from r); exact .int _
  | str x => cases (show _ = _ from r); exact .str _
  | lst ds => obtain ⟨p, vs, e, a, r⟩ := r; subst e; exact .lst (SqL.of a) (r.dp (by unfold isPy at h; exact h))
  | fro ds => obtain ⟨p, vs, e, a, r⟩ := r; subst e; exact .lst a (r.dp (by unfold isPy at h; exact h))
  | tup ds => obtain ⟨p, vs, e, a, r⟩ := r; subst e; exact .tup a.sq (r.dp (by unfold isPy at h; exact h))
  | _ => unfold isPy at h; cases h
def eqOk (d : D) : Bool := isPy d && SeqAt.shaped (toPy d)
def opEq (neg : Bool) : D → D → Option T
  | .int i, .int j => some (.val (.bl (if neg then !decide (i = j) else decide (i = j))))
  | .str i, .str j => some (.val (.bl (if neg then !decide (i = j) else decide (i = j))))
  | .bl i, .bl j => some (.val (.bl (if neg then !decide (i = j) else decide (i = j))))
  | d, e => if (eqOk d && eqOk e) = true then some (.val (.bl (if neg then !PyData.eqv (toPy d) (toPy e) else PyData.eqv (toPy d) (toPy e)))) else none
theorem rEqG_of {neg : Bool} {x y : V} {d e : PyData} {Q : VK} (h1 : Dp K H x d) (h2 : Dp K H y e) (h3 : SeqAt.shaped d = true) (h4 : SeqAt.shaped e = true) (q : Q (.bl (if neg then !PyData.eqv d e else PyData.eqv d e)) H) : rEqG K neg x y H Q := by
  have g : ∃ d e, Dp K H x d ∧ Dp K H y e ∧ SeqAt.shaped d = true ∧ SeqAt.shaped e = true ∧ Q (.bl (if neg then !PyData.eqv d e else PyData.eqv d e)) H := ⟨d, e, h1, h2, h3, h4, q⟩
  have dc : ∀ {α : Type} [DecidableEq α] [BEq α] [LawfulBEq α] (a b : α), (a == b) = decide (a = b) := fun a b => by
    by_cases h : a = b
    · rw [decide_eq_true h]; simpa using h
    · rw [decide_eq_false h]; simpa using h
  cases x <;> cases y <;> first
    | exact g
    | (cases h1; cases h2
       unfold PyData.eqv at q
       rw [dc] at q
       exact q)
theorem s_eq {neg : Bool} : OpT K (rEqG K neg) (opEq neg) := by
  intro H O x y d e t Q hn r1 r2 h q
  unfold opEq at h
  split at h
  · cases h; cases (show x = _ from r1); cases (show y = _ from r2)
    exact ans (K := K) q rfl
  · cases h; cases (show x = _ from r1); cases (show y = _ from r2)
    exact ans (K := K) q rfl
  · cases h; cases (show x = _ from r1); cases (show y = _ from r2)
    exact ans (K := K) q rfl
  · split at h
    · rename_i hz
      cases h
      unfold eqOk at hz
      simp only [Bool.and_eq_true] at hz
      exact rEqG_of (r1.dp hz.1.1) (r2.dp hz.2.1) hz.1.2 hz.2.2 (ans (K := K) q rfl)
    · cases h
/-- x is None, x is True .. -/
def isD (d e : D) : Option Bool := match e with
  | .non => match d with
    | .non => some true
    | _ => some false
  | .bl b => match d with
    | .bl c => some (decide (c = b))
    | _ => some false
  | _ => none
def opIs (neg : Bool) (d e : D) : Option T := (isD d e).map fun b => .val (.bl (if neg then !b else b))
theorem RSh.isNon {d : D} {v : V} (r : RSh K H O d v) : decide (v = .non) = (match d with | .non => true | _ => false) := by
  cases d with
  | non => cases (show _ = _ from r); rfl
  | bl b => cases (show _ = _ from r); rfl
  | int i => cases (show _ = _ from r); rfl
  | str x => cases (show _ = _ from r); rfl
  | ty n => cases (show _ = _ from r); rfl
  | glo x => cases (show _ = _ from r); rfl
  | tup ds => obtain ⟨p, vs, e, _⟩ := r; subst e; rfl
  | lst ds => obtain ⟨p, vs, e, _⟩ := r; subst e; rfl
  | fro ds => obtain ⟨p, vs, e, _⟩ := r; subst e; rfl
  | dic ks ds => obtain ⟨p, vs, e, _⟩ := r; subst e; rfl
  | obj c ns ds => obtain ⟨p, dx, vs, e, _⟩ := r; subst e; rfl
  | exc c ns ds => obtain ⟨p, vs, e, _⟩ := r; subst e; rfl
theorem RSh.isBl {d : D} {v : V} {b : Bool} (r : RSh K H O d v) : decide (v = .bl b) = (match d with | .bl c => decide (c = b) | _ => false) := by
  cases d with
  | non => cases (show _ = _ from r); rfl
  | bl c =>
    cases (show _ = _ from r)
    by_cases h : c = b
    · subst h; rw [decide_eq_true rfl]; exact (decide_eq_true rfl).symm
    · show _ = decide (c = b)
      rw [decide_eq_false h, decide_eq_false fun z => h (V.bl.inj z)]
  | int i => cases (show _ = _ from r); rfl
  | str x => cases (show _ = _ from r); rfl
  | ty n => cases (show _ = _ from r); rfl
  | glo x => cases (show _ = _ from r); rfl
  | tup ds => obtain ⟨p, vs, e, _⟩ := r; subst e; rfl
  | lst ds => obtain ⟨p, vs, e, _⟩ := r; subst e; rfl
  | fro ds => obtain ⟨p, vs, e, _⟩ := r; subst e; rfl
  | dic ks ds => obtain ⟨p, vs, e, _⟩ := r; subst e; rfl
  | obj c ns ds => obtain ⟨p, dx, vs, e, _⟩ := r; subst e; rfl
  | exc c ns ds => obtain ⟨p, vs, e, _⟩ := r; subst e; rfl
theorem isD_ok {d e : D} {x y : V} {b : Bool} (r1 : RSh K H O d x) (r2 : RSh K H O e y) (h : isD d e = some b) : (y = .non ∧ decide (x = .non) = b) ∨ ∃ c, y = .bl c ∧ decide (x = .bl c) = b := by
  cases e with
  | non =>
    refine .inl ⟨r2, ?_⟩
    rw [r1.isNon]
    cases d <;> cases h <;> rfl
  | bl c =>
    refine .inr ⟨c, r2, ?_⟩
    rw [r1.isBl]
    cases d <;> cases h <;> rfl
  | _ => cases h
theorem s_is : OpT K rIsG (opIs false) := by
  intro H O x y d e t Q hn r1 r2 h q
  unfold opIs at h
  cases e1 : isD d e with
  | none => rw [e1] at h; cases h
  | some b =>
    rw [e1] at h; cases h
    rcases isD_ok r1 r2 e1 with ⟨rfl, z⟩ | ⟨c, rfl, z⟩
    · show Q (.bl (decide (x = .non))) H
      rw [z]; exact ans (K := K) q rfl
    · show Q (.bl (decide (x = .bl c))) H
      rw [z]; exact ans (K := K) q rfl
/-! ### subscripts of anything -/
def opIx (d k : D) : Option T := match k with
  | .int j => match d with
    | .str z => if z.length ≤ 16777216 then (L2.atI z.cps.toList j).map fun c => .val (.str ⟨#[c]⟩) else none
    | d => (items d).bind fun ds => (L2.atI ds j).map .val
  | _ => none
theorem s_ix : OpT K (rIxG K) opIx := by
  intro H O x y d e t Q hn r1 r2 h q
  unfold opIx at h
  cases e with
  | int j =>
    cases (show y = _ from r2)
    dsimp only at h
    have seq : ((items d).bind fun ds => (L2.atI ds j).map T.val) = some t → rIxG K x (.int j) H Q := fun h => by
      cases e1 : items d with
      | none => rw [e1] at h; cases h
      | some ds =>
        rw [e1] at h
        have h : (L2.atI ds j).map T.val = some t := h
        obtain ⟨p, vs, e0, s, rs⟩ := r1.items e1
        cases e2 : L2.atI ds j with
        | none => rw [e2] at h; cases h
        | some d2 =>
          rw [e2] at h; cases h
          obtain ⟨u, h1, h2⟩ := rs.atI e2
          subst e0
          exact ⟨vs, u, s, h1, ans (K := K) q h2⟩
    cases d with
    | str z =>
      cases (show x = _ from r1)
      dsimp only at h
      split at h
      · rename_i hz
        cases e2 : L2.atI z.cps.toList j with
        | none => rw [e2] at h; cases h
        | some c => rw [e2] at h; cases h; exact ⟨c, szl hz, e2, ans (K := K) q rfl⟩
      · cases h
    | non => exact seq h
    | bl b => exact seq h
    | int i => exact seq h
    | ty n => exact seq h
    | glo n => exact seq h
    | tup ds => exact seq h
    | lst ds => exact seq h
    | fro ds => exact seq h
    | dic ks ds => exact seq h
    | obj c ns ds => exact seq h
    | exc c ns ds => exact seq h
  | _ => cases h
/-! ### built-ins -/
def bLen : List D → Option T
  | [.str z] => if z.length ≤ 16777216 then some (.val (.int z.length)) else none
  | [d] => (items d).bind fun ds => if ds.length ≤ 16777216 then some (.val (.int ds.length)) else none
  | _ => none
theorem s_len : OpA K (rLenG K) bLen := by
  intro H O xs ds t Q hn r h q
  unfold bLen at h
  split at h
  · obtain ⟨v, vs', rfl, a, e⟩ := r
    cases (show vs' = [] from e)
    cases (show v = _ from a)
    split at h
    · rename_i hz
      cases h
      exact .inr ⟨_, rfl, szl hz, ans (K := K) q rfl⟩
    · cases h
  · rename_i d _
    obtain ⟨v, vs', rfl, a, e⟩ := r
    cases (show vs' = [] from e)
    cases e1 : items d with
    | none => rw [e1] at h; cases h
    | some es =>
      rw [e1] at h
      obtain ⟨p, us, rfl, s, rs⟩ := a.items e1
      have h : (if es.length ≤ 16777216 then some (T.val (.int es.length)) else none) = some t := h
      split at h
      · cases h
        exact .inl ⟨p, us, rfl, s, fun _ => by rw [rs.len]; exact ans (K := K) q rfl⟩
      · cases h
  · cases h
def bAbs : List D → Option T
  | [.int i] => some (.val (.int (if i < 0 then -i else i)))
  | _ => none
theorem s_abs : OpA K rAbsG bAbs := by
  intro H O xs ds t Q hn r h q
  unfold bAbs at h
  split at h
  · obtain ⟨v, vs', rfl, a, e⟩ := r
    cases (show vs' = [] from e)
    cases (show v = _ from a)
    cases h
    exact ⟨_, rfl, ans (K := K) q rfl⟩
  · cases h
def bMin : List D → Option T
  | [.int i, .int j] => some (.val (.int (if j < i then j else i)))
  | _ => none
theorem s_min : OpA K rMinG bMin := by
  intro H O xs ds t Q hn r h q
  unfold bMin at h
  split at h
  · obtain ⟨v, vs', rfl, a, w, vs2, rfl, b, e⟩ := r
    cases (show vs2 = [] from e)
    cases (show v = _ from a)
    cases (show w = _ from b)
    cases h
    exact ⟨_, _, rfl, ans (K := K) q rfl⟩
  · cases h
def bMax : List D → Option T
  | [.int i, .int j] => some (.val (.int (if j > i then j else i)))
  | _ => none
def bInt : List D → Option T
  | [.int i] => some (.val (.int i))
  | [.bl b] => some (.val (.int (if b then 1 else 0)))
  | _ => none
theorem s_int : OpA K rIntG bInt := by
  intro H O xs ds t Q hn r h q
  unfold bInt at h
  split at h
  · obtain ⟨v, vs', rfl, a, e⟩ := r
    cases (show vs' = [] from e)
    cases (show v = _ from a)
    cases h
    exact .inl ⟨_, rfl, ans (K := K) q rfl⟩
  · obtain ⟨v, vs', rfl, a, e⟩ := r
    cases (show vs' = [] from e)
    cases (show v = _ from a)
    cases h
    exact .inr ⟨_, rfl, ans (K := K) q rfl⟩
  · cases h
def bList : List D → Option T
  | [d] => (items d).map fun ds => .lst (leafs ds)
  | _ => none
theorem s_list : OpA K (rListG K) bList := by
  intro H O xs ds t Q hn r h q
  unfold bList at h
  split at h
  · rename_i d
    obtain ⟨v, vs', rfl, a, e⟩ := r
    cases (show vs' = [] from e)
    cases e1 : items d with
    | none => rw [e1] at h; cases h
    | some es =>
      rw [e1] at h; cases h
      obtain ⟨p, us, rfl, s, rs⟩ := a.items e1
      exact ⟨p, us, rfl, s, fun p0 hp => ansL hn hp rs q⟩
  · cases h
def bTup : List D → Option T
  | [d] => (items d).map fun ds => .val (.tup ds)
  | _ => none
theorem s_tup : OpA K (rTupG K) bTup := by
  intro H O xs ds t Q hn r h q
  unfold bTup at h
  split at h
  · rename_i d
    obtain ⟨v, vs', rfl, a, e⟩ := r
    cases (show vs' = [] from e)
    have lst : ∀ {p es us}, SqL K H p us → Rvs K H O es us → t = T.val (.tup es) → rTupG K [.ref p] H Q := fun {p es us} s rs e => by
      subst e
      exact ⟨p, us, rfl, .inl ⟨s, fun p0 hp => ansT hn (Evl.Ex.new hp) (SqT.of upd_same) rs q⟩⟩
    cases d with
    | lst es =>
      obtain ⟨p, us, rfl, s, rs⟩ := a
      cases h
      exact lst (SqL.of s) rs rfl
    | fro es =>
      obtain ⟨p, us, rfl, s, rs⟩ := a
      cases h
      exact lst s rs rfl
    | tup es =>
      obtain ⟨p, us, rfl, s, rs⟩ := a
      cases h
      exact ⟨p, us, rfl, .inr ⟨s.sq, ansT hn (Evl.Ex.refl H) s.sq rs q⟩⟩
    | _ => cases h
  · cases h
/-- isinstance(x, a built-in class) -/
def tyName : D → Option String
  | .non => some "NoneType"
  | .bl _ => some "bool"
  | .int _ => some "int"
  | .str _ => some "str"
  | .lst _ => some "list"
  | .tup _ => some "tuple"
  | _ => none
def bIsi : List D → Option T
  | [d, .ty c] => (tyName d).bind fun n => (PySem.W.kitOne [] (.type n) (.type c)).map fun b => .val (.bl b)
  | _ => none
theorem RSh.ty {d : D} {v : V} {n : String} (r : RSh K H O d v) (h : tyName d = some n) : TyX K H v (.type n) := by
  cases d with
  | non => cases (show _ = _ from r); cases h; exact .base .non
  | bl b => cases (show _ = _ from r); cases h; exact .base (.bl _)
  | int i => cases (show _ = _ from r); cases h; exact .base (.int _)
  | str x => cases (show _ = _ from r); cases h; exact .base (.str _)
  | lst ds => obtain ⟨p, vs, e, a, _⟩ := r; subst e; cases h; exact .base (.lst a)
  | tup ds => obtain ⟨p, vs, e, a, _⟩ := r; subst e; cases h; exact ty_tup a.sq
  | _ => cases h
theorem s_isi : OpA K (rIsi K) bIsi := by
  intro H O xs ds t Q hn r h q
  unfold bIsi at h
  split at h
  · rename_i d c
    obtain ⟨v, vs', rfl, a, w, vs2, rfl, b, e⟩ := r
    cases (show vs2 = [] from e)
    cases (show w = _ from b)
    cases e1 : tyName d with
    | none => rw [e1] at h; cases h
    | some n =>
      rw [e1] at h
      have h : (PySem.W.kitOne [] (.type n) (.type c)).map (fun b => T.val (.bl b)) = some t := h
      cases e2 : PySem.W.kitOne [] (.type n) (.type c) with
      | none => rw [e2] at h; cases h
      | some b2 =>
        rw [e2] at h; cases h
        exact ⟨v, .ty c, .type n, .type c, b2, rfl, .ty c, a.ty e1, kit_ty e2, ans (K := K) q rfl⟩
  · cases h
end
end KM
/-! Statements, loops, comprehensions. -/
namespace KM
open PySem PySem.Spec PyProof.Rows L2 Evl KP
inductive Out where
  | nx (e : Env) | brk (e : Env) | cnt (e : Env) | ret (t : T) (e : Env) | exc (c : Str) (ns : List Str) (ds : List D) (e : Env) | stuck
abbrev SM := Env → Out
/-- the slots that no statement stores -/
def Kept (Fz : List Nat) (σ σ' : L2.St) : Prop := ∀ i ∈ Fz, σ'[i]? = σ[i]?
theorem Kept.refl {Fz : List Nat} (σ : L2.St) : Kept Fz σ σ := fun _ _ => rfl
theorem Kept.trans {Fz : List Nat} {a b c : L2.St} (h : Kept Fz a b) (g : Kept Fz b c) : Kept Fz a c := fun i hi => (g i hi).trans (h i hi)
theorem Kept.set {Fz : List Nat} {σ : L2.St} {i : Nat} {x : Option V} (h : Fz.contains i = false) : Kept Fz σ (σ.set i x) := fun j hj => by
  refine List.getElem?_set_ne fun z => ?_
  subst z
  rw [List.contains_iff_mem.mpr hj] at h
  cases h
/-- what is wanted of a statement's end -/
def SPost (K : PySem.W.Frag) (Wx : WX) (Fz : List Nat) (Oo W : List Addr) (σ : L2.St) (H : Hp) (A : Ends) : Out → Prop
  | .nx e => ∀ σ' H' W', Lv H W H' W' → ER K Oo W' σ' H' e → Kept Fz σ σ' → A.nx σ' H'
  | .brk e => ∀ σ' H' W', Lv H W H' W' → ER K Oo W' σ' H' e → Kept Fz σ σ' → A.bk σ' H'
  | .cnt e => ∀ σ' H' W', Lv H W H' W' → ER K Oo W' σ' H' e → Kept Fz σ σ' → A.ct σ' H'
  | .ret t e => ∀ v σ' H' W' fp, Lv H W H' (W' ++ fp) → ER K (Oo ++ fp) W' σ' H' e → Kept Fz σ σ' → fp.Nodup → (∀ p ∈ fp, p ∉ Oo) → Ow K H' (Oo ++ fp ++ W') t v fp → A.rt v H'
  | .exc c ns ds e => ∀ dx σ' H' W', Lv H W H' W' → ER K Oo W' σ' H' e → Kept Fz σ σ' → ExR K H' (Oo ++ W') dx ns ds → Wx (.ref (He.ga K c)) dx σ' H'
  | .stuck => False
def IS (K : PySem.W.Frag) (Wx : WX) (Fz : List Nat) (ts : TS) (m : SM) : Prop := ∀ Oo W σ H env A, ER K Oo W σ H env → SPost K Wx Fz Oo W σ H A (m env) → ts A σ H
section
variable {K : PySem.W.Frag} {Wx : WX} {Fz : List Nat} {H H' H1 H2 : Hp} {O O' Oo W W' W1 W2 fp : List Addr} {σ σ' : L2.St} {env env' : Env} {te ta tb tc : TE} {tt tu : TT} {tas : TA} {ts us : TS} {A : Ends}
theorem SPost.lv {o : Out} (l : Lv H W H' W') (k : Kept Fz σ σ') (h : SPost K Wx Fz Oo W σ H A o) : SPost K Wx Fz Oo W' σ' H' A o := by
  cases o with
  | nx e => exact fun σ2 H2 W2 l2 E k2 => h σ2 H2 W2 (l.trans l2) E (k.trans k2)
  | brk e => exact fun σ2 H2 W2 l2 E k2 => h σ2 H2 W2 (l.trans l2) E (k.trans k2)
  | cnt e => exact fun σ2 H2 W2 l2 E k2 => h σ2 H2 W2 (l.trans l2) E (k.trans k2)
  | ret t e => exact fun v σ2 H2 W2 fp l2 E k2 => h v σ2 H2 W2 fp (l.trans l2) E (k.trans k2)
  | exc c ns ds e => exact fun dx σ2 H2 W2 l2 E k2 => h dx σ2 H2 W2 (l.trans l2) E (k.trans k2)
  | stuck => exact h
theorem OkX.of {c : Str} {ns : List Str} {ds : List D} {e : Env} (h : SPost K Wx Fz Oo W σ H A (.exc c ns ds e)) : OkX K Wx Oo W σ H c ns ds e := fun dx H' W' l E x => h dx σ H' W' l E (Kept.refl _) x
/-- an expression, then the rest -/
def thenS {α : Type} (m : M α) (k : α → SM) : SM := fun env => match m env with
  | .ok a e => k a e
  | .exc c ns ds e => .exc c ns ds e
  | .stuck => .stuck
theorem thenS_to {α : Type} {m : M α} {k : α → SM} (h : SPost K Wx Fz Oo W σ H A (thenS m k env)) : (m env).To (fun a e => SPost K Wx Fz Oo W σ H A (k a e)) (OkX K Wx Oo W σ H) := by
  unfold thenS at h
  cases z : m env with
  | ok a e => rw [z] at h; exact h
  | exc c ns ds e => rw [z] at h; exact OkX.of h
  | stuck => rw [z] at h; exact h
/-! ### sequences -/
def sNil : SM := fun env => .nx env
def sSeq (a b : SM) : SM := fun env => match a env with
  | .nx e => b e
  | o => o
theorem is_nil : IS K Wx Fz tNext sNil := fun Oo W σ H env A E q => q σ H W (Lv.refl _ _) E (Kept.refl _)
theorem is_seq {ma mb} (a : IS K Wx Fz ts ma) (b : IS K Wx Fz us mb) : IS K Wx Fz (tSeq ts us) (sSeq ma mb) := fun Oo W σ H env A E q => by
  refine a Oo W σ H env ⟨us A, A.rt, A.bk, A.ct⟩ E ?_
  unfold sSeq at q
  cases z : ma env with
  | nx e =>
    rw [z] at q
    exact fun σ1 H1 W1 l1 E1 k1 => b Oo W1 σ1 H1 e A E1 (SPost.lv l1 k1 q)
  | brk e => rw [z] at q; exact q
  | cnt e => rw [z] at q; exact q
  | ret t e => rw [z] at q; exact q
  | exc c ns ds e => rw [z] at q; exact q
  | stuck => rw [z] at q; exact q
/-- an expression's value thrown away -/
def sDrop (m : M T) : SM := thenS m fun _ => sNil
theorem is_drop {m} (a : IO K Wx te m) : IS K Wx Fz (tDrop te) (sDrop m) := fun Oo W σ H env A E q => by
  refine a Oo W σ H env _ E ((thenS_to q).mono (fun t e q v H' W' fp l E' nd nf o => ?_) fun _ _ _ _ x => x)
  have sb : ∀ p ∈ Oo ++ W', p ∈ Oo ++ fp ++ W' := fun p hp => by simp at hp ⊢; rcases hp with z | z <;> simp [z]
  exact q σ H' W' ⟨l.kp, fun p hp => l.out p (List.mem_append_left _ hp)⟩ ⟨E'.ce.lv (Lv.sub sb) fun _ _ => rfl, E'.nd, fun p hp z => E'.dj p hp (List.mem_append_left _ z), fun p hp => E'.dom p (List.mem_append_left _ hp)⟩ (Kept.refl _)
def sRet (m : M T) : SM := thenS m fun t => fun e => .ret t e
theorem is_ret {m} (a : IO K Wx te m) : IS K Wx Fz (tRet te) (sRet m) := fun Oo W σ H env A E q =>
  a Oo W σ H env _ E ((thenS_to q).mono (fun t e q v H' W' fp l E' nd nf o => q v σ H' W' fp l E' (Kept.refl _) nd nf o) fun _ _ _ _ x => x)
def sIf (c : M Bool) (a b : SM) : SM := thenS c fun x => if x = true then a else b
theorem is_if {mc ma mb} (c : IT K Wx tt mc) (a : IS K Wx Fz ts ma) (b : IS K Wx Fz us mb) : IS K Wx Fz (tIfS tt ts us) (sIf mc ma mb) := fun Oo W σ H env A E q => by
  refine c Oo W σ H env _ E ((thenS_to q).mono (fun x e q H' W' l E' => ?_) fun _ _ _ _ x => x)
  cases x with
  | true => exact a Oo W' σ H' e A E' (SPost.lv l (Kept.refl _) q)
  | false => exact b Oo W' σ H' e A E' (SPost.lv l (Kept.refl _) q)
/-! ### stores -/
/-- a cell gets a tree whose objects were new -/
theorem ER.store {t : T} {v : V} (E : ER K (Oo ++ fp) W σ H env) (nd : fp.Nodup) (nf : ∀ p ∈ fp, p ∉ Oo) (o : Ow K H (Oo ++ fp ++ W) t v fp) (i : Nat) :
    ∃ W', (∀ p ∈ W', p ∈ W ++ fp) ∧ ER K Oo W' (σ.set i (some v)) H (env.set i (some t)) := by
  by_cases hi : i < env.length
  · obtain ⟨A, f, B, h2, h4⟩ := E.ce.put hi
    have nd0 := E.nd
    rw [h2] at nd0
    have nd2 := List.nodup_append.mp nd0
    have nd1 := List.nodup_append.mp nd2.1
    have sub : ∀ p ∈ A ++ fp ++ B, p ∈ W ++ fp := fun p hp => by rw [h2]; simp at hp ⊢; rcases hp with z | z | z <;> simp [z]
    have dj : ∀ p ∈ W, p ∉ fp := fun p hp z => E.dj p hp (List.mem_append_right _ z)
    have l : Lv H (Oo ++ fp ++ W) H (Oo ++ (A ++ fp ++ B)) := Lv.sub fun p hp => by
      rcases List.mem_append.mp hp with z | z
      · simp [z]
      · have := sub p z
        simp at this ⊢
        rcases this with z | z <;> simp [z]
    refine ⟨A ++ fp ++ B, sub, h4 (c := some t) (s := some v) l (fun _ _ => rfl) (fun t' e => by cases e; exact ⟨v, rfl, o.lv l fun _ _ => rfl⟩) (fun z => by cases z), ?_, fun p hp z => ?_, fun p hp => E.dom p (List.mem_append_left _ hp)⟩
    · refine List.nodup_append.mpr ⟨List.nodup_append.mpr ⟨nd1.1, nd, fun a ha b hb z => ?_⟩, nd2.2.1, fun a ha b hb z => ?_⟩
      · subst z; exact dj a (by rw [h2]; simp [ha]) hb
      · subst z
        rcases List.mem_append.mp ha with y | y
        · exact nd2.2.2 a (List.mem_append_left _ y) a hb rfl
        · exact dj a (by rw [h2]; simp [hb]) y
    · rcases List.mem_append.mp (sub p hp) with y | y
      · exact E.dj p y (List.mem_append_left _ z)
      · exact nf p y z
  · have e1 : env.set i (some t) = env := List.set_eq_of_length_le (by omega)
    have e2 : σ.set i (some v) = σ := List.set_eq_of_length_le (by rw [E.len]; omega)
    rw [e1, e2]
    have sb : ∀ p ∈ Oo ++ W, p ∈ Oo ++ fp ++ W := fun p hp => by simp at hp ⊢; rcases hp with z | z <;> simp [z]
    exact ⟨W, fun p hp => List.mem_append_left _ hp, E.ce.lv (Lv.sub sb) fun _ _ => rfl, E.nd, fun p hp z => E.dj p hp (List.mem_append_left _ z), fun p hp => E.dom p (List.mem_append_left _ hp)⟩
theorem ER.storeV {d : D} {v : V} (E : ER K Oo W σ H env) (r : Rv K H (Oo ++ W) d v) (i : Nat) :
    ∃ W', (∀ p ∈ W', p ∈ W) ∧ ER K Oo W' (σ.set i (some v)) H (env.set i (some (.val d))) := by
  obtain ⟨W', h1, h2⟩ := ER.store (fp := []) (t := .val d) (v := v) (by simpa using E) List.nodup_nil (by simp) ⟨rfl, by simpa using r⟩ i
  exact ⟨W', fun p hp => by simpa using h1 p hp, h2⟩
def sAsg (i : Nat) (m : M T) : SM := thenS m fun t => fun e => .nx (e.set i (some t))
theorem is_asg {i : Nat} {m} (hz : Fz.contains i = false) (a : IO K Wx te m) : IS K Wx Fz (tAsg te (gName i)) (sAsg i m) := fun Oo W σ H env A E q => by
  refine a Oo W σ H env _ E ((thenS_to q).mono (fun t e q v H' W' fp l E' nd nf o => ?_) fun _ _ _ _ x => x)
  obtain ⟨W2, s, E2⟩ := ER.store E' nd nf o i
  exact q _ H' W2 (l.trans (Lv.less s)) E2 (Kept.set hz)
/-- targets; gl: the slots that are stored -/
structure Only (gl : List Nat) (σ σ' : L2.St) : Prop where
  len : σ'.length = σ.length
  at_ : ∀ i, i ∉ gl → σ'[i]? = σ[i]?
theorem Only.refl {gl : List Nat} (σ : L2.St) : Only gl σ σ := ⟨rfl, fun _ _ => rfl⟩
theorem Only.trans {gl : List Nat} {a b c : L2.St} (h : Only gl a b) (g : Only gl b c) : Only gl a c := ⟨g.len.trans h.len, fun i hi => (g.at_ i hi).trans (h.at_ i hi)⟩
theorem Only.mono {gl gl' : List Nat} {a b : L2.St} (h : Only gl a b) (s : ∀ i ∈ gl, i ∈ gl') : Only gl' a b := ⟨h.len, fun i hi => h.at_ i fun z => hi (s i z)⟩
theorem Only.set (i : Nat) (x : Option V) : Only [i] σ (σ.set i x) := ⟨by simp, fun j hj => List.getElem?_set_ne fun z => hj (by simp [z])⟩
def apart (gl Fz : List Nat) : Bool := gl.all fun i => !Fz.contains i
theorem Only.kept {gl : List Nat} (h : Only gl σ σ') (a : apart gl Fz = true) : Kept Fz σ σ' := fun i hi => h.at_ i fun z => by
  have := List.all_eq_true.mp a i z
  rw [List.contains_iff_mem.mpr hi] at this
  cases this
def IG (K : PySem.W.Frag) (gl : List Nat) (tg : TG) (g : D → Env → Option Env) : Prop := ∀ Oo W σ H env d x (R : L2.St → Hp → Prop), ER K Oo W σ H env → Rv K H (Oo ++ W) d x →
  (∃ e, g d env = some e ∧ ∀ σ' W', (∀ p ∈ W', p ∈ W) → ER K Oo W' σ' H e → Only gl σ σ' → R σ' H) → tg x σ H R
def IGs (K : PySem.W.Frag) (gl : List Nat) (tg : TGs) (g : List D → Env → Option Env) : Prop := ∀ Oo W σ H env ds xs (R : L2.St → Hp → Prop), ER K Oo W σ H env → Rvs K H (Oo ++ W) ds xs →
  (∃ e, g ds env = some e ∧ ∀ σ' W', (∀ p ∈ W', p ∈ W) → ER K Oo W' σ' H e → Only gl σ σ' → R σ' H) → tg xs σ H R
def gNm (i : Nat) : D → Env → Option Env := fun d env => some (env.set i (some (.val d)))
theorem ig_nm {i : Nat} : IG K [i] (gName i) (gNm i) := fun Oo W σ H env d x R E r ⟨e, h, q⟩ => by
  cases h
  obtain ⟨W', s, E'⟩ := E.storeV r i
  exact q _ W' s E' (Only.set i _)
def gNl : List D → Env → Option Env := fun ds env => match ds with
  | [] => some env
  | _ => none
def gCn (g : D → Env → Option Env) (gs : List D → Env → Option Env) : List D → Env → Option Env := fun ds env => match ds with
  | [] => none
  | d :: ds => (g d env).bind (gs ds)
theorem igs_nil : IGs K [] gNil gNl := fun Oo W σ H env ds xs R E r ⟨e, h, q⟩ => by
  cases ds with
  | nil => cases h; cases (show xs = [] from r); exact ⟨rfl, q σ W (fun _ h => h) E (Only.refl _)⟩
  | cons d ds => cases h
theorem igs_cons {g gs} {g1 g2 : List Nat} {tg : TG} {tgs : TGs} (a : IG K g1 tg g) (b : IGs K g2 tgs gs) : IGs K (g1 ++ g2) (gCons tg tgs) (gCn g gs) := fun Oo W σ H env ds xs R E r ⟨e, h, q⟩ => by
  cases ds with
  | nil => cases h
  | cons d ds =>
    obtain ⟨v, vs', e0, r1, r2⟩ := r
    have h : (g d env).bind (gs ds) = some e := h
    cases z : g d env with
    | none => rw [z] at h; cases h
    | some e1 =>
      rw [z] at h
      refine ⟨v, vs', e0, a Oo W σ H env d v _ E r1 ⟨e1, z, fun σ1 W1 s1 E1 k1 => ?_⟩⟩
      have sb : ∀ p ∈ Oo ++ W1, p ∈ Oo ++ W := fun p hp => by
        rcases List.mem_append.mp hp with y | y
        · exact List.mem_append_left _ y
        · exact List.mem_append_right _ (s1 p y)
      exact b Oo W1 σ1 H e1 ds vs' R E1 (r2.lv (Lv.sub sb)) ⟨e, h, fun σ2 W2 s2 E2 k2 => q σ2 W2 (fun p hp => s1 p (s2 p hp)) E2 ((k1.mono fun i hi => List.mem_append_left _ hi).trans (k2.mono fun i hi => List.mem_append_right _ hi))⟩
def gTp (n : Nat) (gs : List D → Env → Option Env) : D → Env → Option Env := fun d env => match d with
  | .tup ds => if ds.length = n then gs ds env else none
  | _ => none
theorem ig_tup {n : Nat} {gs} {gl : List Nat} {tgs : TGs} (b : IGs K gl tgs gs) : IG K gl (gTup K n tgs) (gTp n gs) := fun Oo W σ H env d x R E r ⟨e, h, q⟩ => by
  cases d with
  | tup ds =>
    obtain ⟨p, vs, e0, a, rs⟩ := r
    have h : (if ds.length = n then gs ds env else none) = some e := h
    split at h
    · rename_i hn
      exact ⟨p, vs, e0, a.sq, rs.len.trans hn, b Oo W σ H env ds vs R E rs ⟨e, h, q⟩⟩
    · cases h
  | _ => cases h
def ipI (C : Int → Int → Bool) (f : Int → Int → Int) : D → D → Option D
  | .int i, .int j => if C i j = true then some (.int (f i j)) else none
  | _, _ => none
def yes2 : Int → Int → Bool := fun _ _ => true
def ipAdd := ipI yes2 fun i j => i + j
def ipSub := ipI yes2 fun i j => i - j
def ipXor := ipI yes2 Builtin.bitXor
/-! ### what is changed at a place -/
/-- the tree at a place changes -/
theorem ER.chg (E : ER K (Oo ++ fp) W σ H env) {i : Nat} {π : List Sg} {t : T} {w : V} {Ad f B f' : List Addr} {u' : T} (hW : W = Ad ++ f ++ B)
    (put : ∀ {H' : Hp} {O' : List Addr} {u' : T} {f' : List Addr}, Lv H (Oo ++ fp ++ W) H' O' → Kp H H' (Ad ++ B) → Ow K H' O' u' w f' → Ce K H' O' (env.set i (some (t.put π u'))) σ (Ad ++ f' ++ B))
    (hu : ∀ q o, q ∉ f → H q = some o → H' q = some o) (nf : ∀ p ∈ fp, p ∉ Oo) (hf : ∀ q ∈ f', q ∈ f ∨ q ∈ fp ∨ H q = none) (nd' : f'.Nodup)
    (o : ∀ O', Lv H (Oo ++ fp ++ W) H' O' → (∀ q ∈ f', q ∈ O') → Ow K H' O' u' w f') : ∃ W', Lv H (W ++ fp) H' W' ∧ ER K Oo W' σ H' (env.set i (some (t.put π u'))) := by
  have nd0 := E.nd
  rw [hW] at nd0
  have nd2 := List.nodup_append.mp nd0
  have nd1 := List.nodup_append.mp nd2.1
  have notf : ∀ q, q ∈ Ad ++ B → q ∉ f := fun q hq z => by
    rcases List.mem_append.mp hq with y | y
    · exact nd1.2.2 q y q z rfl
    · exact nd2.2.2 q (List.mem_append_right _ z) q y rfl
  have dW : ∀ q ∈ W, Mut (H q) := E.ce.dom
  have inW : ∀ q, q ∈ Ad ++ B → q ∈ W := fun q hq => by rw [hW]; simp at hq ⊢; rcases hq with y | y <;> simp [y]
  have fW : ∀ q, q ∈ f → q ∈ W := fun q hq => by rw [hW]; simp [hq]
  have k : Kp H H' (Ad ++ B) := fun q hq => by
    obtain ⟨ob, ho⟩ := Mut.ex (dW q (inW q hq))
    rw [ho]
    exact hu q ob (notf q hq) ho
  have l : Lv H (Oo ++ fp ++ W) H' (Oo ++ (Ad ++ f' ++ B)) := ⟨fun p ob hn hp => hu p ob (fun z => hn (List.mem_append_right _ (fW p z))) hp, fun p hp => by
    simp only [List.mem_append] at hp ⊢
    rcases hp with y | (y | y) | y
    · exact .inl (.inl (.inl y))
    · exact .inl (.inr (inW p (List.mem_append_left _ y)))
    · rcases hf p y with y | y | y
      · exact .inl (.inr (fW p y))
      · exact .inl (.inl (.inr y))
      · exact .inr y
    · exact .inl (.inr (inW p (List.mem_append_right _ y)))⟩
  refine ⟨Ad ++ f' ++ B, ⟨fun p ob hn hp => hu p ob (fun z => hn (List.mem_append_left _ (fW p z))) hp, fun p hp => ?_⟩, put l k (o _ l fun q hq => by simp [hq]), ?_, fun p hp z => ?_, fun p hp => ?_⟩
  · simp only [List.mem_append] at hp ⊢
    rcases hp with (y | y) | y
    · exact .inl (.inl (inW p (List.mem_append_left _ y)))
    · rcases hf p y with y | y | y
      · exact .inl (.inl (fW p y))
      · exact .inl (.inr y)
      · exact .inr y
    · exact .inl (.inl (inW p (List.mem_append_right _ y)))
  · have key : ∀ a, a ∈ f' → a ∈ Ad ++ B → False := fun a ha hb => by
      rcases hf a ha with y | y | y
      · exact notf a hb y
      · exact E.dj a (inW a hb) (List.mem_append_right _ y)
      · obtain ⟨ob, ho⟩ := Mut.ex (dW a (inW a hb))
        rw [y] at ho; cases ho
    refine List.nodup_append.mpr ⟨List.nodup_append.mpr ⟨nd1.1, nd', fun a ha b hb z => ?_⟩, nd2.2.1, fun a ha b hb z => ?_⟩
    · subst z; exact key a hb (List.mem_append_left _ ha)
    · subst z
      rcases List.mem_append.mp ha with y | y
      · exact nd2.2.2 a (List.mem_append_left _ y) a hb rfl
      · exact key a y (List.mem_append_right _ hb)
  · simp only [List.mem_append] at hp
    rcases hp with (y | y) | y
    · exact E.dj p (inW p (List.mem_append_left _ y)) (List.mem_append_left _ z)
    · rcases hf p y with y | y | y
      · exact E.dj p (fW p y) (List.mem_append_left _ z)
      · exact nf p y z
      · obtain ⟨ob, ho⟩ := Mut.ex (E.dom p (List.mem_append_left _ z))
        rw [y] at ho; cases ho
    · exact E.dj p (inW p (List.mem_append_right _ y)) (List.mem_append_left _ z)
  · have hn : p ∉ f := fun y => E.dj p (fW p y) (List.mem_append_left _ hp)
    obtain ⟨ob, ho⟩ := Mut.ex (E.dom p (List.mem_append_left _ hp))
    have m := E.dom p (List.mem_append_left _ hp)
    rw [ho] at m
    rw [hu p ob hn ho]
    exact m
def putAt (env : Env) (i : Nat) (π : List Sg) (u : T) : Env := match env[i]? with
  | some (some t) => env.set i (some (t.put π u))
  | _ => env
theorem Ows.snoc {ts : List T} {vs : List V} {fq : List Addr} {t : T} {v : V} : ∀ {ts : List T} {vs : List V} {fq : List Addr}, Ows K H O ts vs fq → Ow K H O t v fp → Ows K H O (ts ++ [t]) (vs ++ [v]) (fq ++ fp)
  | [], _, _, ⟨e, ef⟩, o => by subst e ef; exact ⟨v, [], fp, [], rfl, by simp, o, rfl, rfl⟩
  | t0 :: ts, _, _, ⟨v0, vs', f1, f2, e, ef, a, r⟩, o => by subst e ef; exact ⟨v0, _, f1, f2 ++ fp, rfl, by simp, a, Ows.snoc (ts := ts) (vs := vs') (fq := f2) r o⟩
theorem ow_nodup (E : ER K Oo W σ H env) {Ad f B : List Addr} (hW : W = Ad ++ f ++ B) : f.Nodup := by
  have nd := E.nd
  rw [hW] at nd
  exact (List.nodup_append.mp (List.nodup_append.mp nd).1).2.1
/-- a list at a place: its root p changes -/
theorem ER.chgL (E : ER K (Oo ++ fp) W σ H env) (nf : ∀ p ∈ fp, p ∉ Oo) {i : Nat} {π : List Sg} {ts us : List T} {v : V} (hn : nodeOf env i π = some (.lst ts)) (hv : OpdR K H (Oo ++ fp ++ W) σ (.loc i π) v) :
    ∃ p vs fq, v = .ref p ∧ H p = some (.lst vs) ∧ Ows K H (Oo ++ fp ++ W) ts vs fq ∧ p ∉ fq ∧ fq.Nodup ∧ p ∉ fp ∧ (∀ q ∈ fq, q ∉ fp) ∧ ∀ (us : List T) (ws : List V) (f' : List Addr),
      (∀ q ∈ f', q ∈ fq ∨ q ∈ fp) → f'.Nodup → (∀ O' : List Addr, Lv H (Oo ++ fp ++ W) (upd H p (.lst ws)) O' → (∀ q, q ≠ p → (upd H p (.lst ws)) q = H q) → Ows K (upd H p (.lst ws)) O' us ws f') →
      ∃ W', Lv H (W ++ fp) (upd H p (.lst ws)) W' ∧ ER K Oo W' σ (upd H p (.lst ws)) (putAt env i π (.lst us)) := by
  obtain ⟨t, r, ht, h0, h1, w, Ad, f, B, n1, n2, n3, n4⟩ := E.node hn
  obtain ⟨r', h1', n'⟩ := hv
  rw [h1] at h1'; cases h1'
  cases Nav.inj n' n1
  have ndf := ow_nodup E n2
  obtain ⟨p, vs, fq, e, ef, hp, rs⟩ := n3
  subst ef
  have dj : ∀ q ∈ p :: fq, q ∉ fp := fun q hq z => E.dj q (by rw [n2]; simp at hq ⊢; rcases hq with y | y <;> simp [y]) (List.mem_append_right _ z)
  have nd2 := List.nodup_cons.mp ndf
  refine ⟨p, vs, fq, e, hp, rs, nd2.1, nd2.2, dj p List.mem_cons_self, fun q hq => dj q (List.mem_cons_of_mem _ hq), fun us ws f' hf nd' o => ?_⟩
  have := ER.chg (f' := p :: f') (u' := .lst us) (H' := upd H p (.lst ws)) E n2 n4 (fun q ob hq h => by rw [upd_ne (fun z => hq (by rw [z]; exact List.mem_cons_self))]; exact h) nf
    (fun q hq => by
      rcases List.mem_cons.mp hq with y | y
      · exact .inl (by rw [y]; exact List.mem_cons_self)
      · rcases hf q y with y | y
        · exact .inl (List.mem_cons_of_mem _ y)
        · exact .inr (.inl y)) (List.nodup_cons.mpr ⟨fun y => by
          rcases hf p y with y | y
          · exact nd2.1 y
          · exact dj p List.mem_cons_self y, nd'⟩)
    (fun O' l _ => ⟨p, ws, f', e, rfl, upd_same, o O' l fun q hq => upd_ne hq⟩)
  unfold putAt
  rw [ht]
  exact this
/-- o[k] = e -/
def sPut (m : M T) (pl : Env → Option Opd) (ix : Env → Option D) : SM := thenS m fun t => fun e => match pl e with
  | some (.loc i π) => match ix e with
    | some (.int k) => match nodeOf e i π with
      | some (.lst ts) => match ixN ts.length k with
        | some n => .nx (putAt e i π (.lst (ts.set n t)))
        | none => .stuck
      | _ => .stuck
    | _ => .stuck
  | _ => .stuck
theorem lt_get {α : Type} {l : List α} {n : Nat} (h : n < l.length) : ∃ x, l[n]? = some x := ⟨l[n], List.getElem?_eq_getElem h⟩
theorem is_put {m pl ix} {to ti : TE} (a : IO K Wx te m) (b : IL K to pl) (c : IQ K ti ix) : IS K Wx Fz (tAsg te (gSub to ti rSetL)) (sPut m pl ix) := fun Oo W σ H env A E q => by
  refine a Oo W σ H env _ E ((thenS_to q).mono (fun t e q v H1 W1 fp l1 E1 nd nf o => ?_) fun _ _ _ _ x => x)
  cases e1 : pl e with
  | none => rw [e1] at q; exact q.elim
  | some x =>
    rw [e1] at q
    cases x with
    | val d => exact q.elim
    | loc i π =>
      dsimp only at q
      cases e2 : ix e with
      | none => rw [e2] at q; exact q.elim
      | some kd =>
        rw [e2] at q
        cases kd with
        | int k =>
          dsimp only at q
          cases e3 : nodeOf e i π with
          | none => rw [e3] at q; exact q.elim
          | some u =>
            rw [e3] at q
            cases u with
            | lst ts =>
              dsimp only at q
              cases e4 : ixN ts.length k with
              | none => rw [e4] at q; exact q.elim
              | some n =>
                rw [e4] at q
                dsimp only at q
                refine b (Oo ++ fp) W1 σ H1 e _ E1 ⟨_, e1, fun ov H2 x2 r2 => c (Oo ++ fp) W1 σ H2 e _ (E1.ex x2) ⟨_, e2, fun iv H3 x3 r3 => ?_⟩⟩
                have E3 := (E1.ex x2).ex x3
                cases (show iv = V.int k from r3)
                have l3 := (l1.trans (Lv.ex x2)).trans (Lv.ex x3)
                obtain ⟨p, vs, fq, ev, hp, rs, g1, g2, g3, g4, go⟩ := ER.chgL (us := []) E3 nf e3 (OpdR.ex x3 r2)
                obtain ⟨s1, s2, _, _⟩ := ixN_seq e4
                have ht : ∃ t0, ts[n]? = some t0 := lt_get s2
                obtain ⟨t0, ht⟩ := ht
                obtain ⟨v0, A1, f1, B1, c1, c2, c3, c4⟩ := rs.at ht
                subst c2 ev
                refine ⟨p, vs, k, n, rfl, rfl, hp, by rw [rs.len]; exact e4, ?_⟩
                have ndq := List.nodup_append.mp g2
                have ndq1 := List.nodup_append.mp ndq.1
                obtain ⟨W', lw, Ew⟩ := go (ts.set n t) (vs.set n v) (A1 ++ fp ++ B1) (fun q hq => by simp at hq ⊢; rcases hq with y | y | y <;> simp [y])
                  (List.nodup_append.mpr ⟨List.nodup_append.mpr ⟨ndq1.1, nd, fun a ha b hb z => g4 a (by simp [ha]) (z ▸ hb)⟩, ndq.2.1, fun a ha b hb z => by
                    subst z
                    rcases List.mem_append.mp ha with y | y
                    · exact ndq.2.2 a (List.mem_append_left _ y) a hb rfl
                    · exact g4 a (by simp [hb]) y⟩)
                  fun O' l same => by
                    refine c4 l (fun q hq => same q fun z => g1 ?_) ?_
                    · rw [← z]; simp at hq ⊢; rcases hq with y | y <;> simp [y]
                    · have ex := x2.trans x3
                      have o3 : Ow K H3 (Oo ++ fp ++ W1) t v fp := o.lv (Lv.ex ex) (Kp.ex ex o.dom)
                      exact o3.lv l fun q hq => same q fun z => g3 (z ▸ hq)
                exact q σ _ W' (l3.trans lw) Ew (Kept.refl _)
            | _ => exact q.elim
        | _ => exact q.elim
/-- xs.append(e), as an expression -/
def mApp (i : Nat) (m : M T) : M T := fun env => match env[i]? with
  | some (some (.lst _)) => (m.bnd fun t => fun e => match e[i]? with
    | some (some (.lst ts)) => if ts.length < 16777216 then .ok (.val .non) (putAt e i [] (.lst (ts ++ [t]))) else .stuck
    | _ => .stuck) env
  | _ => .stuck
theorem io_nil_of {d : D} {env : Env} {Q : VK} {v : V} {X} (E : ER K Oo W σ H env) (q : (Rs.ok (T.val d) env).To (fun t env' => ∀ v H' W' fp, Lv H1 W1 H' (W' ++ fp) → ER K (Oo ++ fp) W' σ H' env' → fp.Nodup → (∀ p ∈ fp, p ∉ Oo) → Ow K H' (Oo ++ fp ++ W') t v fp → Q v H') X)
    (l : Lv H1 W1 H W) (r : Rv K H (Oo ++ W) d v) : Q v H := q v H W [] (by simpa using l) (by simpa using E) List.nodup_nil (by simp) ⟨rfl, by simpa using r⟩
theorem io_append {i : Nat} {m} (a : IO K Wx te m) : IO K Wx (tBM K "list" rAppend (tVar i) (tCons te tNil)) (mApp i m) := fun Oo W σ H env Q E q => by
  unfold mApp at q
  split at q
  · rename_i ts0 hts
    obtain ⟨v0, A0, f0, B0, h1, _, h3, _⟩ := E.ce.at hts
    refine ⟨v0, h1, ?_, ?_⟩
    · obtain ⟨p, vs, fq, e, ef, hp, rs⟩ := h3
      subst e
      exact .inl ⟨rfl, vs, SqL.of hp⟩
    · refine a Oo W σ H env _ E ((M.bnd_to q).mono (fun t e q v H1 W1 fp l1 E1 nd nf o => ?_) fun _ _ _ _ x => x)
      split at q
      · rename_i ts hts1
        split at q
        · rename_i hz
          have hn : nodeOf e i [] = some (.lst ts) := by unfold nodeOf; rw [hts1]; rfl
          obtain ⟨p, vs, fq, ev, hp, rs, g1, g2, g3, g4, go⟩ := ER.chgL (us := []) E1 nf hn ⟨v0, h1, rfl⟩
          subst ev
          refine ⟨p, vs, v, rfl, rfl, hp, by rw [rs.len, sizeLine_eq]; exact hz, ?_⟩
          obtain ⟨W', lw, Ew⟩ := go (ts ++ [t]) (vs ++ [v]) (fq ++ fp) (fun q hq => List.mem_append.mp hq) (List.nodup_append.mpr ⟨g2, nd, fun a ha b hb z => g4 a ha (z ▸ hb)⟩)
            fun O' l same => Ows.snoc (ts := ts) (vs := vs) (fq := fq) (rs.lv l fun q hq => same q fun z => g1 (z ▸ hq)) (o.lv l fun q hq => same q fun z => g3 (z ▸ hq))
          exact io_nil_of Ew q (l1.trans lw) rfl
        · exact q.elim
      · exact q.elim
  · exact q.elim
/-! ### loops -/
/-- the iterator J gives the items ds, one by one, whatever happens to other objects -/
def ItR (K : PySem.W.Frag) (J : It) (ds : List D) (Oo W0 : List Addr) (H0 : Hp) : Prop := ∀ H' W', Lv H0 W0 H' W' → (∀ p ∈ Oo ++ W', Mut (H' p)) → ∀ i,
  (∀ d, ds[i]? = some d → J.go i H' ∧ ∀ x H'', J.yld i H' x H'' → Evl.Ex H' H'' ∧ Rv K H'' (Oo ++ W') d x) ∧ (ds.length ≤ i → J.stop i H')
def II (K : PySem.W.Frag) (Wx : WX) (wi : TI) (m : M (List D)) : Prop := ∀ Oo W σ H env (R : It → Hp → Prop), ER K Oo W σ H env →
  (m env).To (fun ds e => ∀ J H' W', Lv H W H' W' → ER K Oo W' σ H' e → ItR K J ds Oo W' H' → R J H') (OkX K Wx Oo W σ H) → wi σ H R
def forM (g : D → Env → Option Env) (body : SM) : List D → SM
  | [] => sNil
  | d :: ds => fun env => match g d env with
    | none => .stuck
    | some e => match body e with
      | .nx e' => forM g body ds e'
      | .cnt e' => forM g body ds e'
      | .brk e' => .nx e'
      | o => o
def sFor (it : M (List D)) (g : D → Env → Option Env) (body : SM) : SM := thenS it fun ds => forM g body ds
theorem is_for {wi : TI} {tg : TG} {gl : List Nat} {it g body} (hz : apart gl Fz = true) (a : II K Wx wi it) (b : IG K gl tg g) (c : IS K Wx Fz ts body) : IS K Wx Fz (tFor wi tg ts) (sFor it g body) := fun Oo W σ H env A E q => by
  refine a Oo W σ H env _ E ((thenS_to q).mono (fun ds e q J H0 W0 l0 E0 ir => ?_) fun _ _ _ _ x => x)
  have q : SPost K Wx Fz Oo W0 σ H0 A (forM g body ds e) := SPost.lv l0 (Kept.refl _) q
  refine ⟨fun i m σ1 H1 => m = ds.length - i ∧ i ≤ ds.length ∧ ∃ W1 e1, Lv H0 W0 H1 W1 ∧ ER K Oo W1 σ1 H1 e1 ∧ Kept Fz σ σ1 ∧ SPost K Wx Fz Oo W0 σ H0 A (forM g body (ds.drop i) e1),
    ⟨ds.length, by simp, Nat.zero_le _, W0, e, Lv.refl _ _, E0, Kept.refl _, q⟩, ?_⟩
  rintro i m σ1 H1 ⟨rfl, hi, W1, e1, l1, E1, k1, q1⟩
  obtain ⟨go, stop⟩ := ir H1 W1 l1 E1.domA i
  by_cases hlt : i < ds.length
  · refine .inr ?_
    obtain ⟨d, hd⟩ := lt_get hlt
    obtain ⟨g1, g2⟩ := go d hd
    refine ⟨g1, fun σ2 H2 => ∃ W2 e2, Lv H0 W0 H2 W2 ∧ ER K Oo W2 σ2 H2 e2 ∧ Kept Fz σ σ2 ∧ SPost K Wx Fz Oo W0 σ H0 A (forM g body (ds.drop (i + 1)) e2), fun σ2 H2 p => ⟨ds.length - (i + 1), by omega, rfl, hlt, p⟩, fun x H2 y => ?_⟩
    obtain ⟨ex, rv⟩ := g2 x H2 y
    have dr : ds.drop i = d :: ds.drop (i + 1) := by
      have := (List.getElem?_eq_some_iff.mp hd).2
      rw [← this]; exact List.drop_eq_getElem_cons hlt
    rw [dr] at q1
    unfold forM at q1
    cases z : g d e1 with
    | none => rw [z] at q1; exact q1.elim
    | some e2 =>
      rw [z] at q1
      dsimp only at q1
      refine b Oo W1 σ1 H2 e1 d x _ (E1.ex ex) rv ⟨e2, z, fun σ2 W2 s2 E2 k2 => ?_⟩
      have l2 : Lv H0 W0 H2 W2 := (l1.trans (Lv.ex ex)).trans (Lv.less s2)
      have k12 := k1.trans (k2.kept hz)
      refine c Oo W2 σ2 H2 e2 _ E2 ?_
      cases zb : body e2 with
      | nx e3 => rw [zb] at q1; exact fun σ3 H3 W3 l3 E3 k3 => ⟨W3, e3, l2.trans l3, E3, k12.trans k3, q1⟩
      | cnt e3 => rw [zb] at q1; exact fun σ3 H3 W3 l3 E3 k3 => ⟨W3, e3, l2.trans l3, E3, k12.trans k3, q1⟩
      | brk e3 => rw [zb] at q1; exact fun σ3 H3 W3 l3 E3 k3 => q1 σ3 H3 W3 (l2.trans l3) E3 (k12.trans k3)
      | ret t e3 => rw [zb] at q1; exact SPost.lv (o := .ret t e3) (A := ⟨_, A.rt, A.nx, _⟩) l2 k12 q1
      | exc c ns ds e3 => rw [zb] at q1; exact SPost.lv (o := .exc c ns ds e3) (A := ⟨_, A.rt, A.nx, _⟩) l2 k12 q1
      | stuck => rw [zb] at q1; exact q1.elim
  · have e : i = ds.length := by omega
    subst e
    refine .inl ⟨stop (Nat.le_refl _), ?_⟩
    rw [List.drop_length] at q1
    exact q1 σ1 H1 W1 l1 E1 k1
def whileM (c : M Bool) (body : SM) : Nat → SM
  | 0 => fun _ => .stuck
  | n + 1 => fun env => match c env with
    | .ok true e => match body e with
      | .nx e' => whileM c body n e'
      | .cnt e' => whileM c body n e'
      | .brk e' => .nx e'
      | o => o
    | .ok false e => .nx e
    | .exc cl ns ds e => .exc cl ns ds e
    | .stuck => .stuck
def fuel : Nat := 4294967296
def sWhile (c : M Bool) (body : SM) : SM := fun env => whileM c body fuel env
theorem is_while {c body} (a : IT K Wx tt c) (b : IS K Wx Fz ts body) : IS K Wx Fz (tWhile tt ts) (sWhile c body) := fun Oo W σ H env A E q => by
  refine ⟨fun m σ1 H1 => ∃ W1 e1, Lv H W H1 W1 ∧ ER K Oo W1 σ1 H1 e1 ∧ Kept Fz σ σ1 ∧ SPost K Wx Fz Oo W σ H A (whileM c body m e1), ⟨fuel, W, env, Lv.refl _ _, E, Kept.refl _, q⟩, ?_⟩
  rintro m σ1 H1 ⟨W1, e1, l1, E1, k1, q1⟩
  cases m with
  | zero => exact q1.elim
  | succ n =>
    unfold whileM at q1
    cases zc : c e1 with
    | ok bb e2 =>
      rw [zc] at q1
      refine a Oo W1 σ1 H1 e1 _ E1 ?_
      rw [zc]
      intro H2 W2 l2 E2
      have l12 := l1.trans l2
      cases bb with
      | false => exact q1 σ1 H2 W2 l12 E2 k1
      | true =>
        dsimp only at q1
        refine ⟨fun σ2 H2 => ∃ W2 e2, Lv H W H2 W2 ∧ ER K Oo W2 σ2 H2 e2 ∧ Kept Fz σ σ2 ∧ SPost K Wx Fz Oo W σ H A (whileM c body n e2), fun σ2 H2 p => ⟨n, Nat.lt_succ_self _, p⟩, ?_⟩
        refine b Oo W2 σ1 H2 e2 _ E2 ?_
        cases zb : body e2 with
        | nx e3 => rw [zb] at q1; exact fun σ3 H3 W3 l3 E3 k3 => ⟨W3, e3, l12.trans l3, E3, k1.trans k3, q1⟩
        | cnt e3 => rw [zb] at q1; exact fun σ3 H3 W3 l3 E3 k3 => ⟨W3, e3, l12.trans l3, E3, k1.trans k3, q1⟩
        | brk e3 => rw [zb] at q1; exact fun σ3 H3 W3 l3 E3 k3 => q1 σ3 H3 W3 (l12.trans l3) E3 (k1.trans k3)
        | ret t e3 => rw [zb] at q1; exact SPost.lv (o := .ret t e3) (A := ⟨_, A.rt, A.nx, _⟩) l12 k1 q1
        | exc c ns ds e3 => rw [zb] at q1; exact SPost.lv (o := .exc c ns ds e3) (A := ⟨_, A.rt, A.nx, _⟩) l12 k1 q1
        | stuck => rw [zb] at q1; exact q1.elim
    | exc cl ns ds e2 =>
      rw [zc] at q1
      refine a Oo W1 σ1 H1 e1 _ E1 ?_
      rw [zc]
      exact OkX.of (SPost.lv (A := A) l1 k1 q1)
    | stuck => rw [zc] at q1; exact q1.elim
end
end KM
/-! What is walked; comprehensions; defs and their calls. -/
namespace KM
open PySem PySem.Spec PyProof.Rows L2 Evl KP
section
variable {K : PySem.W.Frag} {Wx : WX} {Fz : List Nat} {H H' H1 H2 : Hp} {O O' Oo W W' W1 W2 fp : List Addr} {σ σ' ρ : L2.St} {env env' as : Env} {te ta tb tc : TE} {tt tu : TT} {tas : TA} {ts us : TS} {A : Ends}
/-! ### what is walked -/
theorem rvs_ix {ds : List D} {vs : List V} {i : Nat} {d : D} {x : V} (r : Rvs K H O ds vs) (h : ds[i]? = some d) (hx : vs[i]? = some x) : Rv K H O d x := by
  obtain ⟨v, h1, h2⟩ := r.get h
  rw [hx] at h1; cases h1
  exact h2
theorem it_l {p : Addr} {vs : List V} {ds : List D} (s : ∀ H' W', Lv H W H' W' → SqL K H' p vs) (r : Rvs K H (Oo ++ W) ds vs) : ItR K (Itl K p) ds Oo W H := fun H' W' l dm i => by
  have rs := r.lv (l.oo Oo)
  refine ⟨fun d hd => ?_, fun hi => ⟨vs, s H' W' l, by rw [r.len]; exact hi⟩⟩
  obtain ⟨v, h1, h2⟩ := rs.get hd
  exact ⟨⟨vs, v, s H' W' l, h1⟩, fun x H2 ⟨e, y⟩ => ⟨by rw [e]; exact Evl.Ex.refl _, by rw [e]; exact rvs_ix rs hd (y vs (s H' W' l))⟩⟩
theorem it_t {p : Addr} {vs : List V} {ds : List D} (s : ∀ H' W', Lv H W H' W' → SqT K H' p vs) (r : Rvs K H (Oo ++ W) ds vs) : ItR K (Itt K p) ds Oo W H := fun H' W' l dm i => by
  have rs := r.lv (l.oo Oo)
  refine ⟨fun d hd => ?_, fun hi => ⟨vs, s H' W' l, by rw [r.len]; exact hi⟩⟩
  obtain ⟨v, h1, h2⟩ := rs.get hd
  exact ⟨⟨vs, v, s H' W' l, h1⟩, fun x H2 ⟨e, y⟩ => ⟨by rw [e]; exact Evl.Ex.refl _, by rw [e]; exact rvs_ix rs hd (y vs (s H' W' l))⟩⟩
def signs (z : Str) : List D := z.cps.toList.map fun c => .str ⟨#[c]⟩
def iterD : D → Option (List D)
  | .lst ds => some ds
  | .fro ds => some ds
  | .tup ds => some ds
  | .str z => some (signs z)
  | _ => none
theorem it_s {z : Str} : ItR K (Its z) (signs z) Oo W H := fun H' W' l dm i => by
  refine ⟨fun d hd => ?_, fun hi => ?_⟩
  · unfold signs at hd
    rw [List.getElem?_map] at hd
    cases e : z.cps.toList[i]? with
    | none => rw [e] at hd; cases hd
    | some c =>
      rw [e] at hd; cases hd
      have hi : i < z.cps.toList.length := (List.getElem?_eq_some_iff.mp e).1
      refine ⟨(by simpa using hi : i < z.cps.size), fun x H2 ⟨e1, c', e2, e3⟩ => ⟨by rw [e1]; exact Evl.Ex.refl _, ?_⟩⟩
      have : z.cps[i]? = some c := by rw [← Array.getElem?_toList]; exact e
      rw [this] at e2; cases e2
      rw [e3]; rfl
  · unfold signs at hi
    show z.cps.size ≤ i
    simpa using hi
/-- source: what is walked must be known not to change -/
inductive Src (K : PySem.W.Frag) (H : Hp) (Oo W : List Addr) : D → V → Prop where
  | lst {p : Addr} {vs : List V} {ds : List D} (s : ∀ H' W', Lv H W H' W' → SqL K H' p vs) (r : Rvs K H (Oo ++ W) ds vs) (d : D) (h : items d = some ds) : Src K H Oo W d (.ref p)
  | tup {p : Addr} {vs : List V} {ds : List D} (s : ∀ H' W', Lv H W H' W' → SqT K H' p vs) (r : Rvs K H (Oo ++ W) ds vs) (d : D) (h : items d = some ds) : Src K H Oo W d (.ref p)
  | str {z : Str} : Src K H Oo W (.str z) (.str z)
theorem Lv.sqL (l : Lv H W H' W') {p : Addr} {vs : List V} (n : p ∉ W) (h : H p = some (.lst vs)) : SqL K H' p vs := SqL.of (l.kp _ _ n h)
theorem Rv.src {d : D} {v : V} {ds : List D} (r : Rv K H (Oo ++ W) d v) (h : iterD d = some ds) : Src K H Oo W d v := by
  cases d with
  | lst es => obtain ⟨p, vs, e, a, rs⟩ := r; subst e; exact .lst (fun H' W' l => l.sqL (fun z => a.1 (List.mem_append_right _ z)) a.2) rs _ rfl
  | fro es => obtain ⟨p, vs, e, a, rs⟩ := r; subst e; exact .lst (fun H' W' l => (a.lv (l.oo Oo)).sq) rs _ rfl
  | tup es => obtain ⟨p, vs, e, a, rs⟩ := r; subst e; exact .tup (fun H' W' l => (a.lv (l.oo Oo)).sq) rs _ rfl
  | str z => cases (show v = _ from r); exact .str
  | _ => cases h
theorem items_iter {d : D} {ds : List D} (h : items d = some ds) : iterD d = some ds := by
  cases d with
  | lst es => exact h
  | fro es => exact h
  | tup es => exact h
  | _ => cases h
def iIt (m : M D) : M (List D) := m.bnd fun d => fun env => M.opt (iterD d) env
theorem ii_G {m} (a : IV K Wx te m) : II K Wx (iG K te) (iIt m) := fun Oo W σ H env R E q => by
  refine a Oo W σ H env _ E ((M.bnd_to q).mono (fun d env1 q v H1 W1 l1 E1 r1 => ?_) fun _ _ _ _ x => x)
  obtain ⟨ds, e, q⟩ := M.opt_to q
  cases r1.src e with
  | lst s r _ h =>
    rw [items_iter h] at e; cases e
    exact .inl ⟨⟨_, s H1 W1 (Lv.refl _ _)⟩, q _ H1 W1 l1 E1 (it_l s r)⟩
  | tup s r _ h =>
    rw [items_iter h] at e; cases e
    exact .inr ⟨⟨_, s H1 W1 (Lv.refl _ _)⟩, q _ H1 W1 l1 E1 (it_t s r)⟩
  | str => cases e; exact q _ H1 W1 l1 E1 it_s
/-- ranges -/
def rgD (lo : Int) (n : Nat) : List D := (List.range n).map fun (i : Nat) => .int (lo + (i : Int))
def in62 (i : Int) : Bool := decide (-(2 ^ 62) ≤ i) && decide (i < 2 ^ 62)
theorem in62_of {i : Int} (h : in62 i = true) : -(2 ^ 62) ≤ i ∧ i < 2 ^ 62 := by
  unfold in62 at h
  simpa using h
theorem it_r {lo : Int} {n : Nat} : ItR K (Itr lo n) (rgD lo n) Oo W H := fun H' W' l dm i => by
  unfold rgD
  refine ⟨fun d hd => ?_, fun hi => (by simpa using hi : n ≤ i)⟩
  rw [List.getElem?_map] at hd
  cases e : (List.range n)[i]? with
  | none => rw [e] at hd; cases hd
  | some k =>
    rw [e] at hd; cases hd
    obtain ⟨h1, h2⟩ := List.getElem?_eq_some_iff.mp e
    have hn : i < n := by simpa using h1
    have : k = i := by rw [← h2]; simp
    subst this
    exact ⟨hn, fun x H2 ⟨e1, e2⟩ => ⟨by rw [e1]; exact Evl.Ex.refl _, e2⟩⟩
def iR1 (m : M (List D)) : M (List D) := m.bnd fun ds => fun env => match ds with
  | [.int n] => if in62 n = true then .ok (rgD 0 n.toNat) env else .stuck
  | _ => .stuck
theorem ii_R1 {m} (a : IAV K Wx tas m) : II K Wx (iRng1 tas) (iR1 m) := fun Oo W σ H env R E q => by
  refine a Oo W σ H env _ E ((M.bnd_to q).mono (fun ds env1 q vs H1 W1 l1 E1 r1 => ?_) fun _ _ _ _ x => x)
  split at q
  · split at q
    · rename_i hz
      obtain ⟨v, vs', e, r, e2⟩ := r1
      cases (show vs' = [] from e2)
      cases (show v = _ from r)
      exact ⟨_, e, (in62_of hz).1, (in62_of hz).2, q _ H1 W1 l1 E1 it_r⟩
    · exact q.elim
  · exact q.elim
/-! ### comprehensions -/
def wipeE (env : Env) : List Nat → Env
  | [] => env
  | v :: vs => (wipeE env vs).set v none
theorem ER.kill (E : ER K Oo W σ H env) (i : Nat) (s : Option V) : ∃ W', (∀ p ∈ W', p ∈ W) ∧ ER K Oo W' (σ.set i s) H (env.set i none) := by
  by_cases hi : i < env.length
  · obtain ⟨A, f, B, h2, h4⟩ := E.ce.put hi
    have nd0 := E.nd
    rw [h2] at nd0
    have sub : ∀ p ∈ A ++ [] ++ B, p ∈ W := fun p hp => by rw [h2]; simp at hp ⊢; rcases hp with z | z <;> simp [z]
    have l : Lv H (Oo ++ W) H (Oo ++ (A ++ [] ++ B)) := Lv.sub fun p hp => by
      rcases List.mem_append.mp hp with z | z
      · exact List.mem_append_left _ z
      · exact List.mem_append_right _ (sub p z)
    exact ⟨_, sub, h4 (c := none) (s := s) (f' := []) l (fun _ _ => rfl) (fun _ z => by cases z) fun _ => rfl, nd0.sublist (by simp), fun p hp => E.dj p (sub p hp), E.dom⟩
  · have e1 : env.set i none = env := List.set_eq_of_length_le (by omega)
    have e2 : σ.set i s = σ := List.set_eq_of_length_le (by rw [E.len]; omega)
    rw [e1, e2]
    exact ⟨W, fun _ h => h, E⟩
theorem ER.wipe (E : ER K Oo W σ H env) : ∀ vs : List Nat, ∃ W', (∀ p ∈ W', p ∈ W) ∧ ER K Oo W' (wipe σ vs) H (wipeE env vs)
  | [] => ⟨W, fun _ h => h, E⟩
  | v :: vs => by
    obtain ⟨W1, s1, E1⟩ := ER.wipe E vs
    obtain ⟨W2, s2, E2⟩ := E1.kill v none
    exact ⟨W2, fun p hp => s1 p (s2 p hp), E2⟩
/-- the comprehension's own slots as they were -/
def restE (env0 env : Env) : List Nat → Env
  | [] => env
  | v :: vs => (restE env0 env vs).set v (env0[v]?.join)
def restS (σ0 σ : L2.St) : List Nat → L2.St
  | [] => σ
  | v :: vs => (restS σ0 σ vs).set v (σ0[v]?.join)
theorem restS_len (σ0 σ : L2.St) : ∀ vs, (restS σ0 σ vs).length = σ.length
  | [] => rfl
  | v :: vs => by unfold restS; rw [List.length_set, restS_len σ0 σ vs]
theorem restS_get {σ0 σ : L2.St} : ∀ {vs : List Nat} {i : Nat}, i < σ.length → (restS σ0 σ vs)[i]? = if i ∈ vs then some (σ0[i]?.join) else σ[i]?
  | [], i, h => by simp [restS]
  | v :: vs, i, h => by
    unfold restS
    by_cases hv : v = i
    · subst hv
      rw [List.getElem?_set_self (by rw [restS_len]; exact h)]
      simp
    · rw [List.getElem?_set_ne hv, restS_get h]
      have : (i ∈ v :: vs) ↔ i ∈ vs := by simp [Ne.symm hv]
      simp only [this]
theorem wipe_get {σ : L2.St} : ∀ {vs : List Nat} {i : Nat}, i ∉ vs → (wipe σ vs)[i]? = σ[i]?
  | [], i, h => rfl
  | v :: vs, i, h => by
    unfold wipe
    have h1 : v ≠ i := fun z => h (by simp [z])
    have h2 : i ∉ vs := fun z => h (by simp [z])
    rw [List.getElem?_set_ne h1, wipe_get h2]
theorem rest_wipe (σ : L2.St) (vs : List Nat) : restS σ (wipe σ vs) vs = σ := by
  apply List.ext_getElem?
  intro i
  by_cases hi : i < σ.length
  · rw [restS_get (by rw [wipe_length]; exact hi)]
    split
    · rw [List.getElem?_eq_getElem hi]; rfl
    · rename_i h; exact wipe_get h
  · rw [List.getElem?_eq_none (by rw [restS_len, wipe_length]; omega), List.getElem?_eq_none (by omega)]
/-- the own slots hold nothing that could change -/
def okW (env : Env) (vs : List Nat) : Bool := vs.all fun v => match env[v]? with
  | some (some (.val _)) => true
  | some (some _) => false
  | _ => true
theorem ER.rest {σ0 : L2.St} {env0 : Env} {H0 : Hp} {W0 : List Addr} (E0 : ER K Oo W0 σ0 H0 env0) : ∀ {vs : List Nat} {W : List Addr} {σ : L2.St} {H : Hp} {env : Env} {Oo' : List Addr}, okW env0 vs = true → Lv H0 (Oo ++ W0) H (Oo' ++ W) → ER K Oo' W σ H env →
    ∃ W', (∀ p ∈ W', p ∈ W) ∧ ER K Oo' W' (restS σ0 σ vs) H (restE env0 env vs)
  | [], W, _, _, _, _, _, _, E => ⟨W, fun _ h => h, E⟩
  | v :: vs, W, σ, H, env, Oo', ok, l, E => by
    unfold okW at ok
    rw [List.all_cons, Bool.and_eq_true] at ok
    obtain ⟨W1, s1, E1⟩ := ER.rest E0 (vs := vs) ok.2 l E
    have l1 : Lv H0 (Oo ++ W0) H (Oo' ++ W1) := ⟨l.kp, fun p hp => l.out p (by
      rcases List.mem_append.mp hp with z | z
      · exact List.mem_append_left _ z
      · exact List.mem_append_right _ (s1 p z))⟩
    have dead : env0[v]?.join = none → ∃ W', (∀ p ∈ W', p ∈ W) ∧ ER K Oo' W' (restS σ0 σ (v :: vs)) H (restE env0 env (v :: vs)) := fun z => by
      obtain ⟨W2, s2, E2⟩ := E1.kill v (σ0[v]?.join)
      unfold restE restS
      rw [z]
      exact ⟨W2, fun p hp => s1 p (s2 p hp), E2⟩
    cases e : env0[v]? with
    | none => exact dead (by rw [e]; rfl)
    | some c =>
      cases c with
      | none => exact dead (by rw [e]; rfl)
      | some t =>
        rw [e] at ok
        cases t with
        | val d =>
          obtain ⟨u, A0, f, B, h1, _, h3, _⟩ := E0.ce.at e
          obtain ⟨W2, s2, E2⟩ := E1.storeV (h3.2.lv l1) v
          unfold restE restS
          rw [e, h1]
          exact ⟨W2, fun p hp => s1 p (s2 p hp), E2⟩
        | _ => exact absurd ok.1 (by simp)
def lcLoop (vs : List Nat) (g : D → Env → Option Env) (tt : M Bool) (el : M T) : List D → List T → M (List T)
  | [], acc => M.ret acc
  | d :: ds, acc => fun env => match g d env with
    | none => .stuck
    | some e => match tt e with
      | .ok true e2 => match el e2 with
        | .ok t e3 => if acc.length < 16777216 then lcLoop vs g tt el ds (acc ++ [t]) (wipeE e3 vs) else .stuck
        | _ => .stuck
      | .ok false e2 => lcLoop vs g tt el ds acc (wipeE e2 vs)
      | _ => .stuck
def lcM (vs : List Nat) (it : M (List D)) (g : D → Env → Option Env) (tt : M Bool) (el : M T) : M T := it.bnd fun ds => fun env => if okW env vs = true then
    match lcLoop vs g tt el ds [] (wipeE env vs) with
    | .ok acc e => .ok (.lst acc) (restE env e vs)
    | _ => .stuck
  else .stuck
abbrev WF : WX := fun _ _ _ _ => False
def tYesM : M Bool := M.ret true
theorem it_yes : IT K Wx tYes tYesM := fun Oo W σ H env Q E q => q H W (Lv.refl _ _) E
theorem wipe_mem {σ : L2.St} : ∀ {vs : List Nat} {i : Nat}, i ∈ vs → i < σ.length → (wipe σ vs)[i]? = some none
  | v :: vs, i, h, hl => by
    unfold wipe
    by_cases hv : v = i
    · subst hv
      exact List.getElem?_set_self (by rw [wipe_length]; exact hl)
    · rw [List.getElem?_set_ne hv]
      exact wipe_mem (by rcases List.mem_cons.mp h with z | z; exact absurd z.symm hv; exact z) hl
theorem wipe_only {σ σ2 : L2.St} {vs gl : List Nat} (h : Only gl (wipe σ vs) σ2) (s : ∀ i ∈ gl, i ∈ vs) : wipe σ2 vs = wipe σ vs := by
  have hl : σ2.length = σ.length := by rw [h.len, wipe_length]
  apply List.ext_getElem?
  intro i
  by_cases hi : i < σ.length
  · by_cases hm : i ∈ vs
    · rw [wipe_mem hm hi, wipe_mem hm (by omega)]
    · rw [wipe_get hm, h.at_ i fun z => hm (s i z)]
  · rw [List.getElem?_eq_none (by rw [wipe_length]; omega), List.getElem?_eq_none (by rw [wipe_length]; omega)]
def within (gl vs : List Nat) : Bool := gl.all fun i => vs.contains i
theorem within_of {gl vs : List Nat} (h : within gl vs = true) : ∀ i ∈ gl, i ∈ vs := fun i hi => List.contains_iff_mem.mp (List.all_eq_true.mp h i hi)
/-- others' objects too -/
theorem Lv.both {B : List Addr} (a : Lv H W H1 (W1 ++ B)) (b : Lv H1 W1 H2 W2) (dj : ∀ p ∈ B, p ∉ W1) : Lv H W H2 (W2 ++ B) := ⟨fun p o n h => b.kp p o (fun z => a.no n h (List.mem_append_left _ z)) (a.kp p o n h), fun p hp => by
  rcases List.mem_append.mp hp with z | z
  · rcases b.out p z with y | y
    · exact a.out p (List.mem_append_left _ y)
    · by_cases hn : p ∈ W
      · exact .inl hn
      · cases q0 : H p with
        | none => exact .inr rfl
        | some o => rw [a.kp p o hn q0] at y; cases y
  · exact a.out p (List.mem_append_right _ z)⟩
theorem io_lc {vs gl : List Nat} {wi : TI} {tg : TG} {it g mt el} (hgl : within gl vs = true) (a : II K Wx wi it) (b : IG K gl tg g) (c : IT K WF tt mt) (d : IO K WF te el) : IO K Wx (tLc wi tg tt te vs) (lcM vs it g mt el) := fun Oo W σ H env Q E q => by
  refine a Oo W σ H env _ E ((M.bnd_to q).mono (fun ds e q J H0 W0 l0 E0 ir => ?_) fun _ _ _ _ x => x)
  split at q
  · rename_i hok
    intro Dp hD
    cases zl : lcLoop vs g mt el ds [] (wipeE e vs) with
    | exc c ns ds e => rw [zl] at q; exact q.elim
    | stuck => rw [zl] at q; exact q.elim
    | ok accF eF =>
      rw [zl] at q
      dsimp only at q
      obtain ⟨Ww, sw, Ew⟩ := E0.wipe vs
      have exD : Evl.Ex H0 (upd H0 Dp (.lst [])) := Evl.Ex.new hD
      have E1 : ER K (Oo ++ [Dp]) Ww (wipe σ vs) (upd H0 Dp (.lst [])) (wipeE e vs) := Ew.add exD (fun p hp => by rw [List.mem_singleton.mp hp]; exact hD) fun p hp => by
        rw [List.mem_singleton.mp hp]; exact Mut.of upd_same trivial
      have l1 : Lv H0 W0 (upd H0 Dp (.lst [])) (Ww ++ [Dp]) := ⟨fun p o _ h => exD p o h, fun p hp => by
        rcases List.mem_append.mp hp with z | z
        · exact .inl (sw p z)
        · rw [List.mem_singleton.mp z]; exact .inr hD⟩
      refine ⟨fun i m H1 => m = ds.length - i ∧ i ≤ ds.length ∧ ∃ W1 e1 acc vacc fa, Lv H0 W0 H1 (W1 ++ Dp :: fa) ∧ ER K (Oo ++ Dp :: fa) W1 (wipe σ vs) H1 e1 ∧ H1 Dp = some (.lst vacc) ∧ Ows K H1 (Oo ++ Dp :: fa ++ W1) acc vacc fa ∧
          (Dp :: fa).Nodup ∧ (∀ p ∈ Dp :: fa, p ∉ Oo) ∧ lcLoop vs g mt el (ds.drop i) acc e1 = .ok accF eF,
        ⟨ds.length, by simp, Nat.zero_le _, Ww, wipeE e vs, [], [], [], l1, E1, upd_same, ⟨rfl, rfl⟩, by simp, fun p hp z => ?_, zl⟩, ?_⟩
      · rw [List.mem_singleton.mp hp] at z
        obtain ⟨o, h⟩ := Mut.ex (E0.dom _ z)
        rw [hD] at h; cases h
      rintro i m H1 ⟨rfl, hi, W1, e1, acc, vacc, fa, l1, E1, hDp, ro, nd, nf, z1⟩
      obtain ⟨go, stop⟩ := ir H1 (W1 ++ Dp :: fa) l1 (fun p hp => E1.domA p (by simp at hp ⊢; rcases hp with y | y | y | y <;> simp [y])) i
      by_cases hlt : i < ds.length
      · refine .inr ?_
        obtain ⟨d0, hd⟩ := lt_get hlt
        obtain ⟨g1, g2⟩ := go d0 hd
        refine ⟨g1, fun H2 => ∃ W2 e2 acc vacc fa, Lv H0 W0 H2 (W2 ++ Dp :: fa) ∧ ER K (Oo ++ Dp :: fa) W2 (wipe σ vs) H2 e2 ∧ H2 Dp = some (.lst vacc) ∧ Ows K H2 (Oo ++ Dp :: fa ++ W2) acc vacc fa ∧
          (Dp :: fa).Nodup ∧ (∀ p ∈ Dp :: fa, p ∉ Oo) ∧ lcLoop vs g mt el (ds.drop (i + 1)) acc e2 = .ok accF eF, fun H2 p => ⟨ds.length - (i + 1), by omega, rfl, hlt, p⟩, fun x H2 y => ?_⟩
        obtain ⟨ex, rv⟩ := g2 x H2 y
        have dr : ds.drop i = d0 :: ds.drop (i + 1) := by
          have := (List.getElem?_eq_some_iff.mp hd).2
          rw [← this]; exact List.drop_eq_getElem_cons hlt
        rw [dr] at z1
        unfold lcLoop at z1
        cases zg : g d0 e1 with
        | none => rw [zg] at z1; cases z1
        | some e2 =>
          rw [zg] at z1
          dsimp only at z1
          have E1x := E1.ex ex
          have rv' : Rv K H2 (Oo ++ Dp :: fa ++ W1) d0 x := rv.lv (Lv.sub fun p hp => by simp at hp ⊢; rcases hp with y | y | y | y <;> simp [y])
          refine b (Oo ++ Dp :: fa) W1 _ H2 e1 d0 x _ E1x rv' ⟨e2, zg, fun σ2 W2 s2 E2 k2 => ?_⟩
          have ew : wipe σ2 vs = wipe σ vs := wipe_only k2 (within_of hgl)
          refine ⟨ew, ?_⟩
          have l2 : Lv H0 W0 H2 (W2 ++ Dp :: fa) := (l1.trans (Lv.ex ex)).trans (Lv.less fun p hp => by
            rcases List.mem_append.mp hp with y | y
            · exact List.mem_append_left _ (s2 p y)
            · exact List.mem_append_right _ y)
          have ro2 : Ows K H2 (Oo ++ Dp :: fa ++ W2) acc vacc fa := ro.lv ⟨fun p o _ h => ex p o h, fun p hp => .inl (by
            rcases List.mem_append.mp hp with y | y
            · exact List.mem_append_left _ y
            · exact List.mem_append_right _ (s2 p y))⟩ (Kp.ex ex ro.dom)
          have hD2 : H2 Dp = some (.lst vacc) := ex _ _ hDp
          have dj2 : ∀ p ∈ Dp :: fa, p ∉ W2 := fun p hp z => E2.dj p z (List.mem_append_right _ hp)
          refine c (Oo ++ Dp :: fa) W2 σ2 H2 e2 _ E2 ?_
          have stay : ∀ {H3 W3}, Lv H2 W2 H3 W3 → H3 Dp = some (.lst vacc) ∧ Ows K H3 (Oo ++ Dp :: fa ++ W3) acc vacc fa := fun {H3 W3} l => by
            refine ⟨l.kp _ _ (dj2 Dp List.mem_cons_self) hD2, ro2.lv (l.oo _) fun p hp => ?_⟩
            obtain ⟨o, h⟩ := Mut.ex (ro2.dom p hp)
            rw [h]; exact l.kp _ _ (dj2 p (List.mem_cons_of_mem _ hp)) h
          cases zt : mt e2 with
          | exc c ns ds e => rw [zt] at z1; cases z1
          | stuck => rw [zt] at z1; cases z1
          | ok bb e3 =>
            rw [zt] at z1
            intro H3 W3 l3 E3
            cases bb with
            | false =>
              obtain ⟨hD3, ro3⟩ := stay l3
              have l3' := l2.both l3 dj2
              obtain ⟨W4, s4, E4⟩ := E3.wipe vs
              rw [ew] at E4
              refine ⟨W4, wipeE e3 vs, acc, vacc, fa, l3'.trans (Lv.less fun p hp => ?_), E4, hD3, ro3.lv (Lv.sub fun p hp => ?_) (fun _ _ => rfl), nd, nf, z1⟩
              · rcases List.mem_append.mp hp with y | y
                · exact List.mem_append_left _ (s4 p y)
                · exact List.mem_append_right _ y
              · rcases List.mem_append.mp hp with y | y
                · exact List.mem_append_left _ y
                · exact List.mem_append_right _ (s4 p y)
            | true =>
              dsimp only at z1
              refine d (Oo ++ Dp :: fa) W3 σ2 H3 e3 _ E3 ?_
              cases ze : el e3 with
              | exc c ns ds e => rw [ze] at z1; cases z1
              | stuck => rw [ze] at z1; cases z1
              | ok t e4 =>
                rw [ze] at z1
                dsimp only at z1
                intro v H4 W4 fp l4 E4 nd4 nf4 o4
                split at z1
                · rename_i hz
                  have dj3 : ∀ p ∈ Dp :: fa, p ∉ W3 := fun p hp z => E3.dj p z (List.mem_append_right _ hp)
                  obtain ⟨hD3, ro3⟩ := stay l3
                  have hD4 : H4 Dp = some (.lst vacc) := l4.kp _ _ (dj3 Dp List.mem_cons_self) hD3
                  have ro4 : Ows K H4 (Oo ++ Dp :: fa ++ (W4 ++ fp)) acc vacc fa := ro3.lv (l4.oo _) fun p hp => by
                    obtain ⟨o, h⟩ := Mut.ex (ro3.dom p hp)
                    rw [h]; exact l4.kp _ _ (dj3 p (List.mem_cons_of_mem _ hp)) h
                  refine ⟨vacc, hD4, by rw [ro4.len, sizeLine_eq]; exact hz, ?_⟩
                  have l4' : Lv H0 W0 H4 ((W4 ++ fp) ++ Dp :: fa) := (l2.both l3 dj2).both l4 dj3
                  have nDf : Dp ∉ fa := (List.nodup_cons.mp nd).1
                  have nDp : Dp ∉ fp := fun z => nf4 Dp z (by simp)
                  have nDW : ∀ p ∈ W4, p ≠ Dp := fun p hp z => E4.dj p hp (by rw [z]; simp)
                  obtain ⟨W5, s5, E5⟩ := E4.wipe vs
                  rw [ew] at E5
                  -- the list grows
                  have lv5 : Lv H4 ((Oo ++ Dp :: fa) ++ (W4 ++ fp)) (upd H4 Dp (.lst (vacc ++ [v]))) (Oo ++ Dp :: (fa ++ fp) ++ W5) := ⟨fun p o n h => by
                    rw [upd_ne fun z => n (by rw [z]; simp)]; exact h, fun p hp => .inl (by
                      simp at hp ⊢
                      rcases hp with y | y | y | y | y
                      · simp [y]
                      · simp [y]
                      · simp [y]
                      · simp [y]
                      · simp [s5 p y])⟩
                  have keep : ∀ p, p ≠ Dp → (upd H4 Dp (.lst (vacc ++ [v]))) p = H4 p := fun p hp => upd_ne hp
                  refine ⟨W5, wipeE e4 vs, acc ++ [t], vacc ++ [v], fa ++ fp, ⟨fun p o n h => ?_, fun p hp => ?_⟩, ⟨?_, E5.nd, fun p hp z => ?_, fun p hp => ?_⟩, upd_same, ?_, ?_, fun p hp z => ?_, z1⟩
                  · have nD : p ≠ Dp := fun z => l4'.no n h (by rw [z]; simp)
                    rw [keep p nD]; exact l4'.kp p o n h
                  · refine l4'.out p ?_
                    simp at hp ⊢
                    rcases hp with y | y | y | y
                    · simp [s5 p y]
                    · simp [y]
                    · simp [y]
                    · simp [y]
                  · refine E5.ce.lv ⟨fun p o n h => ?_, fun p hp => .inl ?_⟩ fun p hp => keep p (nDW p (s5 p hp))
                    · rw [keep p fun z => n (by rw [z]; simp)]; exact h
                    · simp at hp ⊢
                      rcases hp with y | y | y | y | y
                      · simp [y]
                      · simp [y]
                      · simp [y]
                      · simp [y]
                      · simp [y]
                  · refine E5.dj p hp ?_
                    simp at z ⊢
                    rcases z with y | y | y | y
                    · simp [y]
                    · simp [y]
                    · simp [y]
                    · simp [y]
                  · by_cases hpD : p = Dp
                    · rw [hpD]; exact Mut.of upd_same trivial
                    · rw [keep p hpD]
                      refine E5.dom p ?_
                      simp at hp ⊢
                      rcases hp with y | y | y | y
                      · simp [y]
                      · simp [y]
                      · simp [y]
                      · simp [y]
                  · refine Ows.snoc (ts := acc) (vs := vacc) (fq := fa) (ro4.lv lv5 fun p hp => keep p fun z => nDf (z ▸ hp)) (o4.lv ?_ fun p hp => keep p fun z => nDp (z ▸ hp))
                    exact ⟨fun p o n h => lv5.kp p o (fun z => n (by simp at z ⊢; rcases z with y | y | y | y | y <;> simp [y])) h, fun p hp => by
                      rcases lv5.out p hp with y | y
                      · refine .inl ?_
                        simp at y ⊢
                        rcases y with y | y | y | y | y <;> simp [y]
                      · exact .inr y⟩
                  · refine List.nodup_cons.mpr ⟨fun z => ?_, List.nodup_append.mpr ⟨(List.nodup_cons.mp nd).2, nd4, fun a ha b hb z => nf4 a (z ▸ hb) (by simp [ha])⟩⟩
                    rcases List.mem_append.mp z with y | y
                    · exact nDf y
                    · exact nDp y
                  · simp at hp
                    rcases hp with y | y | y
                    · exact nf p (by rw [y]; exact List.mem_cons_self) z
                    · exact nf p (List.mem_cons_of_mem _ y) z
                    · exact nf4 p y (List.mem_append_left _ z)
                · cases z1
      · have e : i = ds.length := by omega
        subst e
        refine .inl ⟨stop (Nat.le_refl _), ?_⟩
        rw [List.drop_length] at z1
        cases z1
        have lr : Lv H0 (Oo ++ W0) H1 ((Oo ++ Dp :: fa) ++ W1) := ⟨fun p o n h => l1.kp p o (fun z => n (List.mem_append_right _ z)) h, fun p hp => by
          simp at hp
          rcases hp with y | y | y | y
          · exact .inl (List.mem_append_left _ y)
          · exact (l1.out p (by simp [y])).imp (List.mem_append_right _) id
          · exact (l1.out p (by simp [y])).imp (List.mem_append_right _) id
          · exact (l1.out p (by simp [y])).imp (List.mem_append_right _) id⟩
        obtain ⟨W2, s2, E2⟩ := ER.rest E0 hok lr E1
        rw [rest_wipe] at E2
        have l2 : Lv H0 W0 H1 (W2 ++ Dp :: fa) := l1.trans (Lv.less fun p hp => by
          rcases List.mem_append.mp hp with y | y
          · exact List.mem_append_left _ (s2 p y)
          · exact List.mem_append_right _ y)
        refine q (.ref Dp) H1 W2 (Dp :: fa) (l0.trans l2) E2 nd nf ⟨Dp, vacc, fa, rfl, rfl, hDp, ro.lv (Lv.sub fun p hp => ?_) fun _ _ => rfl⟩
        rcases List.mem_append.mp hp with y | y
        · exact List.mem_append_left _ y
        · exact List.mem_append_right _ (s2 p y)
  · exact q.elim
end
end KM
/-! Defs and calls. -/
namespace KM
open PySem PySem.Spec PyProof.Rows L2 Evl KP
inductive RF where
  | ok (t : T) (outs : List T) | exc (c : Str) (ns : List Str) (ds : List D) (outs : List T) | stuck
/-- what a def is worth: the arguments' trees; the answer, and what the arguments are then -/
abbrev MF := List T → RF
def RPost (K : PySem.W.Frag) (vs : List V) (Oo W : List Addr) (H : Hp) (Q : VK) (E : XK) : RF → Prop
  | .ok t outs => ∀ v H' W' fp, Lv H W H' (W' ++ fp) → ER K (Oo ++ fp) W' (vs.map some) H' (outs.map some) → fp.Nodup → (∀ p ∈ fp, p ∉ Oo) → Ow K H' (Oo ++ fp ++ W') t v fp → Q v H'
  | .exc c ns ds outs => ∀ dx H' W', Lv H W H' W' → ER K Oo W' (vs.map some) H' (outs.map some) → ExR K H' (Oo ++ W') dx ns ds → E (.ref (He.ga K c)) dx H'
  | .stuck => False
def spM (K : PySem.W.Frag) (n : Nat) (m : MF) : Sp := fun vs H Q E => vs.length = n ∧ ∃ Oo W args, ER K Oo W (vs.map some) H (args.map some) ∧ RPost K vs Oo W H Q E (m args)
section
variable {K : PySem.W.Frag} {Wx : WX} {Fz : List Nat} {H H' H1 H2 : Hp} {O O' Oo W W' W1 W2 fp : List Addr} {σ σ' ρ : L2.St} {env env' as : Env} {te ta tb tc : TE} {tt tu : TT} {tas : TA} {ts us : TS} {A : Ends}
/-! ### a body keeps the promise -/
def outsOf : List Bool → List T → Env → Option (List T)
  | [], [], _ => some []
  | true :: fl, a :: as, _ :: e => (outsOf fl as e).map (a :: ·)
  | false :: fl, _ :: as, some t :: e => (outsOf fl as e).map (t :: ·)
  | _, _, _ => none
/-- the parameters that the body stores must come as data -/
def okFl : List Bool → List T → Bool
  | [], [] => true
  | true :: fl, .val _ :: as => okFl fl as
  | false :: fl, _ :: as => okFl fl as
  | _, _ => false
/-- the slots of the parameters that it does not store -/
def fzOf : List Bool → Nat → List Nat
  | [], _ => []
  | true :: fl, k => fzOf fl (k + 1)
  | false :: fl, k => k :: fzOf fl (k + 1)
def fnOut (fl : List Bool) (args : List T) (e : Env) (f : List T → RF) : RF := match outsOf fl args e with
  | some outs => f outs
  | none => .stuck
def fnM (fl : List Bool) (k : Nat) (body : SM) : MF := fun args => if okFl fl args = true then
    match body (args.map some ++ List.replicate k none) with
    | .nx e => fnOut fl args e (.ok (.val .non))
    | .ret t e => fnOut fl args e (.ok t)
    | .exc c ns ds e => fnOut fl args e (.exc c ns ds)
    | _ => .stuck
  else .stuck
theorem fz_mem : ∀ {fl : List Bool} {k i : Nat}, fl[i]? = some false → k + i ∈ fzOf fl k
  | true :: fl, k, 0, h => by simp at h
  | false :: fl, k, 0, h => by unfold fzOf; simp
  | true :: fl, k, i + 1, h => by
    unfold fzOf
    have := fz_mem (k := k + 1) (i := i) (by simpa using h)
    rw [show k + 1 + i = k + (i + 1) by omega] at this
    exact this
  | false :: fl, k, i + 1, h => by
    unfold fzOf
    have := fz_mem (k := k + 1) (i := i) (by simpa using h)
    rw [show k + 1 + i = k + (i + 1) by omega] at this
    exact List.mem_cons_of_mem _ this
/-- the arguments behind the body -/
theorem Ce.outs : ∀ {fl : List Bool} {args : List T} {vs : List V} {e : Env} {σ : L2.St} {W : List Addr} {outs : List T}, Ce K H O e σ W → outsOf fl args e = some outs → vs.length = args.length →
    (∀ (i : Nat) (v : V), fl[i]? = some false → vs[i]? = some v → σ[i]? = some (some v)) → (∀ (i : Nat) (a : T) (v : V), fl[i]? = some true → args[i]? = some a → vs[i]? = some v → ∃ d, a = T.val d ∧ Rv K H O d v) →
    ∃ W', W'.Sublist W ∧ Ce K H O (outs.map some) (vs.map some) W'
  | [], [], vs, e, σ, W, outs, c, h, hl, h1, h2 => by
    cases h
    cases vs with
    | nil => exact ⟨[], by simp, rfl, rfl⟩
    | cons v vs => simp at hl
  | true :: fl, a :: args, vs, c0 :: e, σ, W, outs, c, h, hl, h1, h2 => by
    cases vs with
    | nil => simp at hl
    | cons v vs =>
      unfold outsOf at h
      cases z : outsOf fl args e with
      | none => rw [z] at h; cases h
      | some os =>
        rw [z] at h; cases h
        obtain ⟨d, e1, rv⟩ := h2 0 a v (by simp) (by simp) (by simp)
        subst e1
        have rest : ∀ {σ' W2}, Ce K H O e σ' W2 → (∀ i, σ[i + 1]? = σ'[i]?) → ∃ W', W'.Sublist W2 ∧ Ce K H O (os.map some) (vs.map some) W' := fun {σ' W2} c2 hs =>
          Ce.outs c2 z (by simpa using hl) (fun i v hi hv => by rw [← hs]; exact h1 (i + 1) v (by simpa using hi) (by simpa using hv)) fun i a v hi ha hv => h2 (i + 1) a v (by simpa using hi) (by simpa using ha) (by simpa using hv)
        cases c0 with
        | none =>
          obtain ⟨s, σ', es, c2⟩ := c
          obtain ⟨W', s1, c3⟩ := rest c2 fun i => by rw [es]; rfl
          exact ⟨W', s1, v, _, [], W', rfl, rfl, ⟨rfl, rv⟩, c3⟩
        | some t =>
          obtain ⟨u, σ', f1, f2, es, ef, _, c2⟩ := c
          obtain ⟨W', s1, c3⟩ := rest c2 fun i => by rw [es]; rfl
          exact ⟨W', by rw [ef]; exact s1.trans (List.sublist_append_right _ _), v, _, [], W', rfl, rfl, ⟨rfl, rv⟩, c3⟩
  | false :: fl, a :: args, vs, some t :: e, σ, W, outs, ⟨u, σ', f1, f2, es, ef, o, c2⟩, h, hl, h1, h2 => by
    cases vs with
    | nil => simp at hl
    | cons v vs =>
      unfold outsOf at h
      cases z : outsOf fl args e with
      | none => rw [z] at h; cases h
      | some os =>
        rw [z] at h; cases h
        have hv := h1 0 v (by simp) (by simp)
        rw [es] at hv
        have hv : some (some u) = some (some v) := hv
        cases hv
        obtain ⟨W', s1, c3⟩ := Ce.outs c2 z (by simpa using hl) (fun i v hi hv => by
          have := h1 (i + 1) v (by simpa using hi) (by simpa using hv)
          rw [es] at this
          exact this) fun i a v hi ha hv => h2 (i + 1) a v (by simpa using hi) (by simpa using ha) (by simpa using hv)
        exact ⟨f1 ++ W', by rw [ef]; exact List.Sublist.append (List.Sublist.refl _) s1, u, _, f1, W', rfl, rfl, o, c3⟩
theorem okFl_val : ∀ {fl : List Bool} {args : List T} {i : Nat} {a : T}, okFl fl args = true → fl[i]? = some true → args[i]? = some a → ∃ d, a = .val d
  | true :: fl, a :: as, 0, b, h, h1, h2 => by
    simp at h2
    subst h2
    cases a with
    | val d => exact ⟨d, rfl⟩
    | _ => unfold okFl at h; cases h
  | false :: fl, a :: as, 0, b, h, h1, h2 => by simp at h1
  | true :: fl, a :: as, i + 1, b, h, h1, h2 => by
    cases a with
    | val d => unfold okFl at h; exact okFl_val h (by simpa using h1) (by simpa using h2)
    | _ => unfold okFl at h; cases h
  | false :: fl, a :: as, i + 1, b, h, h1, h2 => by unfold okFl at h; exact okFl_val h (by simpa using h1) (by simpa using h2)
  | [], _, _, _, _, h1, _ => by simp at h1
  | _ :: _, [], _, _, _, _, h2 => by simp at h2
theorem okFl_len : ∀ {fl : List Bool} {args : List T}, okFl fl args = true → fl.length = args.length
  | [], [], _ => rfl
  | [], _ :: _, h => by unfold okFl at h; cases h
  | true :: fl, [], h => by unfold okFl at h; cases h
  | false :: fl, [], h => by unfold okFl at h; cases h
  | true :: fl, a :: as, h => by
    cases a with
    | val d => unfold okFl at h; simp [okFl_len h]
    | _ => unfold okFl at h; cases h
  | false :: fl, a :: as, h => by unfold okFl at h; simp [okFl_len h]
theorem ER.vals (E : ER K Oo W (σ) H (env)) {i : Nat} {d : D} {v : V} (h1 : env[i]? = some (some (.val d))) (h2 : σ[i]? = some (some v)) : Rv K H (Oo ++ W) d v := by
  obtain ⟨u, A0, f, B, g1, _, g3, _⟩ := E.ce.at h1
  rw [h2] at g1; cases g1
  exact g3.2
/-- a def's body: from the mirror's answer to the promise -/
theorem fn_body {fl : List Bool} {k : Nat} {body : SM} {vs : List V} {Q : VK} {E : XK} {N : List Str} {n : Nat} (b : IS K (fun c d _ H => E c d H) (fzOf fl 0) ts body) (hN : N.length = n + k) (h : spM K n (fnM fl k body) vs H Q E) :
    ts { nx := fun _ H' => Q .non H', rt := Q } (L2.start N vs) H := by
  obtain ⟨hl, Oo, W, args, E0, q⟩ := h
  have hal : args.length = n := by have := E0.len; simp at this; omega
  unfold fnM at q
  split at q
  · rename_i hok
    have hfl : fl.length = n := (okFl_len hok).trans hal
    have E1 : ER K Oo W (L2.start N vs) H (args.map some ++ List.replicate k none) := by
      unfold L2.start
      rw [hN, hl, show n + k - n = k by omega]
      have c := Ce.app E0.ce (Ce.dead (K := K) (H := H) (O := Oo ++ W) k)
      rw [List.append_nil] at c
      exact ⟨c, E0.nd, E0.dj, E0.dom⟩
    have st : ∀ i v, vs[i]? = some v → (L2.start N vs)[i]? = some (some v) := fun i v hv => by
      unfold L2.start
      rw [List.getElem?_append_left (by simp; exact (List.getElem?_eq_some_iff.mp hv).1), List.getElem?_map, hv]
      rfl
    refine b Oo W _ H _ _ E1 ?_
    have fin : ∀ {e σ' H' W' fp outs}, Lv H W H' (W' ++ fp) → ER K (Oo ++ fp) W' σ' H' e → Kept (fzOf fl 0) (L2.start N vs) σ' → outsOf fl args e = some outs →
        ∃ W2, W2.Sublist W' ∧ ER K (Oo ++ fp) W2 (vs.map some) H' (outs.map some) := fun {e σ' H' W' fp outs} l Ee kp ho => by
      have lo : Lv H (Oo ++ W) H' (Oo ++ fp ++ W') := ⟨fun p o hn h => l.kp p o (fun z => hn (List.mem_append_right _ z)) h, fun p hp => by
        simp at hp
        rcases hp with y | y | y
        · exact .inl (by simp [y])
        · exact (l.out p (by simp [y])).imp (fun z => by simp [z]) id
        · exact (l.out p (by simp [y])).imp (fun z => by simp [z]) id⟩
      obtain ⟨W2, s, c⟩ := Ce.outs (vs := vs) Ee.ce ho (by omega) (fun i v hi hv => by
          have := kp (0 + i) (fz_mem hi)
          rw [Nat.zero_add] at this
          rw [this]; exact st i v hv) (fun i a v hi ha hv => by
          obtain ⟨d, e1⟩ := okFl_val hok hi ha
          subst e1
          exact ⟨d, rfl, (E0.vals (i := i) (by rw [List.getElem?_map, ha]; rfl) (by rw [List.getElem?_map, hv]; rfl)).lv lo⟩)
      refine ⟨W2, s, c.lv (Lv.sub fun p hp => ?_) (fun _ _ => rfl), Ee.nd.sublist s, fun p hp => Ee.dj p (s.subset hp), Ee.dom⟩
      rcases List.mem_append.mp hp with y | y
      · exact List.mem_append_left _ y
      · exact List.mem_append_right _ (s.subset y)
    cases zb : body (args.map some ++ List.replicate k none) with
    | nx e =>
      rw [zb] at q
      unfold fnOut at q
      dsimp only at q
      cases zo : outsOf fl args e with
      | none => rw [zo] at q; exact q.elim
      | some outs =>
        rw [zo] at q
        intro σ' H' W' l Ee kp
        obtain ⟨W2, s, E2⟩ := fin (fp := []) (by simpa using l) (by simpa using Ee) kp zo
        exact q .non H' W2 [] (by simpa using l.trans (Lv.less fun p hp => s.subset hp)) E2 List.nodup_nil (by simp) ⟨rfl, rfl⟩
    | ret t e =>
      rw [zb] at q
      unfold fnOut at q
      dsimp only at q
      cases zo : outsOf fl args e with
      | none => rw [zo] at q; exact q.elim
      | some outs =>
        rw [zo] at q
        intro v σ' H' W' fp l Ee kp nd nf o
        obtain ⟨W2, s, E2⟩ := fin l Ee kp zo
        refine q v H' W2 fp (l.trans (Lv.less fun p hp => ?_)) E2 nd nf (o.lv (Lv.sub fun p hp => ?_) fun _ _ => rfl)
        · rcases List.mem_append.mp hp with y | y
          · exact List.mem_append_left _ (s.subset y)
          · exact List.mem_append_right _ y
        · rcases List.mem_append.mp hp with y | y
          · exact List.mem_append_left _ y
          · exact List.mem_append_right _ (s.subset y)
    | exc c ns ds e =>
      rw [zb] at q
      unfold fnOut at q
      dsimp only at q
      cases zo : outsOf fl args e with
      | none => rw [zo] at q; exact q.elim
      | some outs =>
        rw [zo] at q
        intro dx σ' H' W' l Ee kp x
        obtain ⟨W2, s, E2⟩ := fin (fp := []) (by simpa using l) (by simpa using Ee) kp zo
        rw [List.append_nil] at E2
        refine q dx H' W2 (l.trans (Lv.less fun p hp => s.subset hp)) E2 ?_
        have lv : Lv H' (Oo ++ W') H' (Oo ++ W2) := Lv.sub fun p hp => by
          rcases List.mem_append.mp hp with y | y
          · exact List.mem_append_left _ y
          · exact List.mem_append_right _ (s.subset y)
        cases dx with
        | none => exact x
        | some a => obtain ⟨us, h1, h2, h3⟩ := x; exact ⟨us, h1, h2, h3.lv lv⟩
    | brk e => rw [zb] at q; exact q.elim
    | cnt e => rw [zb] at q; exact q.elim
    | stuck => rw [zb] at q; exact q.elim
  · exact q.elim
/-! ### the call -/
theorem Ce.split : ∀ {env as : Env} {σ ρ : L2.St} {W : List Addr}, env.length = σ.length → Ce K H O (env ++ as) (σ ++ ρ) W → ∃ W1 W2, W = W1 ++ W2 ∧ Ce K H O env σ W1 ∧ Ce K H O as ρ W2
  | [], as, σ, ρ, W, hl, c => by
    cases σ with
    | nil => exact ⟨[], W, rfl, ⟨rfl, rfl⟩, c⟩
    | cons s σ => simp at hl
  | none :: env, as, σ, ρ, W, hl, ⟨s, σ', e, c⟩ => by
    cases σ with
    | nil => simp at hl
    | cons s0 σ =>
      rw [List.cons_append] at e
      injection e with e1 e2
      subst e2
      obtain ⟨W1, W2, h1, h2, h3⟩ := Ce.split (by simpa using hl) c
      exact ⟨W1, W2, h1, ⟨s0, σ, rfl, h2⟩, h3⟩
  | some t :: env, as, σ, ρ, W, hl, ⟨v, σ', f1, f2, e, ef, o, c⟩ => by
    cases σ with
    | nil => simp at hl
    | cons s0 σ =>
      rw [List.cons_append] at e
      injection e with e1 e2
      subst e2 e1
      obtain ⟨W1, W2, h1, h2, h3⟩ := Ce.split (by simpa using hl) c
      exact ⟨f1 ++ W1, W2, by rw [ef, h1, List.append_assoc], ⟨v, σ, f1, W1, rfl, rfl, o, h2⟩, h3⟩
theorem ER.perm (E : ER K Oo W σ H env) (h : Ce K H (Oo ++ W') env' σ' W') (p : W'.Perm W) : ER K Oo W' σ' H env' :=
  ⟨h, p.nodup_iff.mpr E.nd, fun q hq => E.dj q (p.mem_iff.mp hq), E.dom⟩
/-- a name's tree goes to the end of the arguments -/
theorem ER.take (E : ER K Oo W (σ ++ ρ) H (env ++ as)) (hl : env.length = σ.length) {i : Nat} {t : T} (h : env[i]? = some (some t)) :
    ∃ v W', σ[i]? = some (some v) ∧ W'.Perm W ∧ ER K Oo W' (σ ++ (ρ ++ [some v])) H (env.set i none ++ (as ++ [some t])) := by
  obtain ⟨W1, W2, rfl, c1, c2⟩ := Ce.split hl E.ce
  obtain ⟨v, A0, f, B, h1, h2, h3, h4⟩ := c1.at h
  subst h2
  have pm : (A0 ++ [] ++ B ++ (W2 ++ f)).Perm (A0 ++ f ++ B ++ W2) := by
    rw [List.append_nil]
    have : (f ++ (B ++ W2)).Perm (B ++ W2 ++ f) := List.perm_append_comm
    simp only [List.append_assoc] at this ⊢
    exact (List.Perm.append_left A0 this.symm)
  have l : Lv H (Oo ++ (A0 ++ f ++ B ++ W2)) H (Oo ++ (A0 ++ [] ++ B ++ (W2 ++ f))) := Lv.sub fun p hp => by
    rcases List.mem_append.mp hp with y | y
    · exact List.mem_append_left _ y
    · exact List.mem_append_right _ (pm.mem_iff.mp y)
  have c3 := h4 (c := none) (s := some v) (f' := []) l (fun _ _ => rfl) (fun _ z => by cases z) fun _ => rfl
  rw [set_same h1] at c3
  refine ⟨v, _, h1, pm, E.perm (Ce.app c3 (Ce.app (c2.lv l fun _ _ => rfl) ?_)) pm⟩
  exact ⟨v, [], f, [], rfl, by simp, h3.lv l fun _ _ => rfl, rfl, rfl⟩
theorem ER.addV (E : ER K Oo W (σ ++ ρ) H (env ++ as)) (hl : env.length = σ.length) {d : D} {v : V} (r : Rv K H (Oo ++ W) d v) : ER K Oo W (σ ++ (ρ ++ [some v])) H (env ++ (as ++ [some (.val d)])) := by
  have c := Ce.app E.ce (show Ce K H (Oo ++ W) [some (T.val d)] [some v] [] from ⟨v, [], [], [], rfl, rfl, ⟨rfl, r⟩, rfl, rfl⟩)
  rw [List.append_nil, List.append_assoc, List.append_assoc] at c
  exact ⟨c, E.nd, E.dj, E.dom⟩
/-- a dead cell is filled -/
theorem Ce.fill : ∀ {env : Env} {σ : L2.St} {W : List Addr} {i : Nat}, Ce K H O env σ W → env[i]? = some none →
    ∃ A B, W = A ++ B ∧ ∀ {O' : List Addr} {t' : T} {v' : V} {f' : List Addr}, Lv H O H O' → Ow K H O' t' v' f' → Ce K H O' (env.set i (some t')) (σ.set i (some v')) (A ++ f' ++ B)
  | [], _, _, _, _, h => by simp at h
  | none :: env, _, W, 0, ⟨s0, σ', e, r⟩, h => by
    subst e
    exact ⟨[], W, rfl, fun {O' t' v' f'} l o => ⟨v', σ', f', W, rfl, rfl, o, r.lv l fun _ _ => rfl⟩⟩
  | some t0 :: env, _, _, 0, _, h => by simp at h
  | none :: env, _, _, i + 1, ⟨s0, σ', e, r⟩, h => by
    subst e
    obtain ⟨A, B, h2, h4⟩ := Ce.fill (i := i) r (by simpa using h)
    exact ⟨A, B, h2, fun l o => ⟨s0, _, rfl, h4 l o⟩⟩
  | some t0 :: env, _, _, i + 1, ⟨v0, σ', f1, f2, e, ef, a, r⟩, h => by
    subst e ef
    obtain ⟨A, B, h2, h4⟩ := Ce.fill (i := i) r (by simpa using h)
    subst h2
    exact ⟨f1 ++ A, B, by simp, fun {O' t' v' f'} l o => ⟨v0, _, f1, A ++ f' ++ B, rfl, by simp, a.lv l fun _ _ => rfl, h4 l o⟩⟩
/-- the first argument's tree goes back to its name -/
theorem ER.give (hl : env.length = σ.length) {i : Nat} {t : T} {v : V} (E : ER K Oo W (σ ++ (some v :: ρ)) H (env ++ (some t :: as))) (h : env[i]? = some none) (hs : σ[i]? = some (some v)) :
    ∃ W', W'.Perm W ∧ ER K Oo W' (σ ++ ρ) H (env.set i (some t) ++ as) := by
  obtain ⟨W1, W2, rfl, c1, c2⟩ := Ce.split hl E.ce
  obtain ⟨u, ρ', f1, f2, e, ef, o, c3⟩ := c2
  injection e with e1 e2
  cases e1
  subst e2 ef
  obtain ⟨A0, B, h2, h4⟩ := c1.fill h
  subst h2
  have pm : (A0 ++ f1 ++ B ++ f2).Perm (A0 ++ B ++ (f1 ++ f2)) := by
    have : (f1 ++ B).Perm (B ++ f1) := List.perm_append_comm
    have := List.Perm.append_right f2 this
    simp only [List.append_assoc] at this ⊢
    exact List.Perm.append_left A0 this
  have l : Lv H (Oo ++ (A0 ++ B ++ (f1 ++ f2))) H (Oo ++ (A0 ++ f1 ++ B ++ f2)) := Lv.sub fun p hp => by
    rcases List.mem_append.mp hp with y | y
    · exact List.mem_append_left _ y
    · exact List.mem_append_right _ (pm.mem_iff.mp y)
  have c4 := h4 l (o.lv l fun _ _ => rfl)
  rw [set_same hs] at c4
  exact ⟨_, pm, E.perm (Ce.app c4 (c3.lv l fun _ _ => rfl)) pm⟩
/-- the first argument is forgotten -/
theorem ER.drop1 (hl : env.length = σ.length) {c : Option T} {s : Option V} (E : ER K Oo W (σ ++ (s :: ρ)) H (env ++ (c :: as))) : ∃ W', (∀ p ∈ W', p ∈ W) ∧ ER K Oo W' (σ ++ ρ) H (env ++ as) := by
  obtain ⟨W1, W2, rfl, c1, c2⟩ := Ce.split hl E.ce
  have fin : ∀ {f2}, f2.Sublist W2 → Ce K H (Oo ++ (W1 ++ W2)) as ρ f2 → ∃ W', (∀ p ∈ W', p ∈ W1 ++ W2) ∧ ER K Oo W' (σ ++ ρ) H (env ++ as) := fun {f2} s c => by
    have s2 : (W1 ++ f2).Sublist (W1 ++ W2) := List.Sublist.append (List.Sublist.refl _) s
    refine ⟨W1 ++ f2, fun p hp => s2.subset hp, (Ce.app c1 c).lv (Lv.sub fun p hp => ?_) (fun _ _ => rfl), E.nd.sublist s2, fun p hp => E.dj p (s2.subset hp), E.dom⟩
    rcases List.mem_append.mp hp with y | y
    · exact List.mem_append_left _ y
    · exact List.mem_append_right _ (s2.subset y)
  cases c with
  | none =>
    obtain ⟨s0, σ', e, c3⟩ := c2
    injection e with e1 e2
    subst e2
    exact fin (List.Sublist.refl _) c3
  | some t =>
    obtain ⟨u, ρ', f1, f2, e, ef, o, c3⟩ := c2
    injection e with e1 e2
    subst e2 ef
    exact fin (List.sublist_append_right _ _) c3
def takeAs : List Ob → Env → Option (Env × List T)
  | [], env => some (env, [])
  | .val d :: r, env => (takeAs r env).map fun x => (x.1, .val d :: x.2)
  | .nm i :: r, env => match env[i]? with
    | some (some t) => (takeAs r (env.set i none)).map fun x => (x.1, t :: x.2)
    | _ => none
def giveAs : List Ob → Env → List T → Env
  | .val _ :: r, env, _ :: os => giveAs r env os
  | .nm i :: r, env, o :: os => giveAs r (env.set i (some o)) os
  | _, env, _ => env
/-- the names of a list of arguments are there, and dead ahead of the giving back -/
def deadAs : List Ob → Env → Prop
  | [], _ => True
  | .val _ :: r, env => deadAs r env
  | .nm i :: r, env => env[i]? = some none ∧ deadAs r env
theorem ObsR.heap : ∀ {os : List Ob} {vs : List V}, (∀ {d v}, Rv K H O d v → Rv K H' O' d v) → ObsR K H O σ os vs → ObsR K H' O' σ os vs
  | [], _, _, h => h
  | .val d :: os, _, f, ⟨v, vs', e, a, r⟩ => ⟨v, vs', e, f a, ObsR.heap f r⟩
  | .nm i :: os, _, f, ⟨v, vs', e, a, r⟩ => ⟨v, vs', e, OpdR.name a, ObsR.heap f r⟩
theorem takeAs_keep : ∀ {os : List Ob} {env e1 : Env} {ts : List T} {j : Nat}, takeAs os env = some (e1, ts) → env[j]? = some none → e1[j]? = some none
  | [], _, _, _, _, h, hj => by cases h; exact hj
  | .val d :: r, env, e1, ts, j, h, hj => by
    unfold takeAs at h
    cases z : takeAs r env with
    | none => rw [z] at h; cases h
    | some x => rw [z] at h; cases h; exact takeAs_keep (ts := x.2) (by rw [z]) hj
  | .nm i :: r, env, e1, ts, j, h, hj => by
    unfold takeAs at h
    split at h
    · rename_i t ht
      cases z : takeAs r (env.set i none) with
      | none => rw [z] at h; cases h
      | some x =>
        rw [z] at h; cases h
        refine takeAs_keep (ts := x.2) (by rw [z]) ?_
        by_cases hij : i = j
        · subst hij; rw [List.getElem?_set_self (List.getElem?_eq_some_iff.mp hj).1]
        · rw [List.getElem?_set_ne hij]; exact hj
    · cases h
theorem takeAs_len : ∀ {os : List Ob} {env e1 : Env} {ts : List T}, takeAs os env = some (e1, ts) → e1.length = env.length
  | [], _, _, _, h => by cases h; rfl
  | .val d :: r, env, e1, ts, h => by
    unfold takeAs at h
    cases z : takeAs r env with
    | none => rw [z] at h; cases h
    | some x => rw [z] at h; cases h; exact takeAs_len (ts := x.2) (by rw [z])
  | .nm i :: r, env, e1, ts, h => by
    unfold takeAs at h
    split at h
    · cases z : takeAs r (env.set i none) with
      | none => rw [z] at h; cases h
      | some x =>
        rw [z] at h; cases h
        rw [takeAs_len (ts := x.2) (by rw [z]), List.length_set]
    · cases h
theorem takeAs_dead : ∀ {os : List Ob} {env e1 : Env} {ts : List T}, takeAs os env = some (e1, ts) → deadAs os e1
  | [], _, _, _, h => trivial
  | .val d :: r, env, e1, ts, h => by
    unfold takeAs at h
    cases z : takeAs r env with
    | none => rw [z] at h; cases h
    | some x => rw [z] at h; cases h; exact takeAs_dead (os := r) (ts := x.2) (show takeAs r env = some (x.1, x.2) by rw [z])
  | .nm i :: r, env, e1, ts, h => by
    unfold takeAs at h
    split at h
    · rename_i t ht
      cases z : takeAs r (env.set i none) with
      | none => rw [z] at h; cases h
      | some x =>
        rw [z] at h; cases h
        exact ⟨takeAs_keep (ts := x.2) (show takeAs r (env.set i none) = some (x.1, x.2) by rw [z]) (List.getElem?_set_self (List.getElem?_eq_some_iff.mp ht).1), takeAs_dead (ts := x.2) (show takeAs r (env.set i none) = some (x.1, x.2) by rw [z])⟩
    · cases h
/-- no name stands twice -/
theorem takeAs_nodup : ∀ {os : List Ob} {env e1 : Env} {ts : List T} {i : Nat}, takeAs os env = some (e1, ts) → env[i]? = some none → Ob.nm i ∉ os
  | [], _, _, _, _, _, _ => by simp
  | .val d :: r, env, e1, ts, i, h, hi => by
    unfold takeAs at h
    cases z : takeAs r env with
    | none => rw [z] at h; cases h
    | some x =>
      rw [z] at h; cases h
      have := takeAs_nodup (ts := x.2) (show takeAs r env = some (x.1, x.2) by rw [z]) hi
      simpa using this
  | .nm j :: r, env, e1, ts, i, h, hi => by
    unfold takeAs at h
    split at h
    · rename_i t ht
      cases z : takeAs r (env.set j none) with
      | none => rw [z] at h; cases h
      | some x =>
        rw [z] at h; cases h
        have hij : j ≠ i := fun e => by subst e; rw [hi] at ht; cases ht
        have := takeAs_nodup (ts := x.2) (by rw [z]) (i := i) (by rw [List.getElem?_set_ne hij]; exact hi)
        intro hm
        rcases List.mem_cons.mp hm with e | e
        · injection e with e; exact hij e.symm
        · exact this e
    · cases h
theorem ER.takes : ∀ {os : List Ob} {vs : List V} {env e1 : Env} {ts : List T} {W : List Addr} {ρ : L2.St} {as : Env}, ER K Oo W (σ ++ ρ) H (env ++ as) → env.length = σ.length → ObsR K H (Oo ++ W) σ os vs → takeAs os env = some (e1, ts) →
    ∃ W', W'.Perm W ∧ ER K Oo W' (σ ++ (ρ ++ vs.map some)) H (e1 ++ (as ++ ts.map some))
  | [], vs, env, e1, ts, W, ρ, as, E, hl, r, h => by
    cases h
    cases (show vs = [] from r)
    exact ⟨W, List.Perm.refl _, by simpa using E⟩
  | .val d :: os, vs, env, e1, ts, W, ρ, as, E, hl, ⟨v, vs', e, a, r⟩, h => by
    unfold takeAs at h
    cases z : takeAs os env with
    | none => rw [z] at h; cases h
    | some x =>
      rw [z] at h; cases h
      subst e
      obtain ⟨W', p, E'⟩ := ER.takes (ts := x.2) (E.addV hl a) hl r (by rw [z])
      exact ⟨W', p, by simpa [List.append_assoc] using E'⟩
  | .nm i :: os, vs, env, e1, ts, W, ρ, as, E, hl, ⟨v, vs', e, ⟨r0, h1, n⟩, r⟩, h => by
    unfold takeAs at h
    split at h
    · rename_i t ht
      cases z : takeAs os (env.set i none) with
      | none => rw [z] at h; cases h
      | some x =>
        rw [z] at h; cases h
        subst e
        obtain ⟨v', W1, h2, p1, E1⟩ := E.take hl ht
        rw [h1] at h2; cases h2
        cases (show v = r0 from n)
        have sub : ∀ p ∈ Oo ++ W1, p ∈ Oo ++ W := fun p hp => by
          rcases List.mem_append.mp hp with y | y
          · exact List.mem_append_left _ y
          · exact List.mem_append_right _ (p1.mem_iff.mp y)
        obtain ⟨W', p, E'⟩ := ER.takes (ts := x.2) E1 (by rw [List.length_set]; exact hl) (ObsR.heap (fun q => q.lv (Lv.sub sub)) r) (by rw [z])
        exact ⟨W', p.trans p1, by simpa [List.append_assoc] using E'⟩
    · cases h
theorem ER.gives : ∀ {os : List Ob} {vs : List V} {e1 : Env} {outs : List T} {W : List Addr}, ER K Oo W (σ ++ vs.map some) H (e1 ++ outs.map some) → e1.length = σ.length → outs.length = vs.length → ObsR K H' O' σ os vs → deadAs os e1 →
    (os.filterMap fun o => match o with | .nm i => some i | _ => none).Nodup → ∃ W', (∀ p ∈ W', p ∈ W) ∧ ER K Oo W' σ H (giveAs os e1 outs)
  | [], vs, e1, outs, W, E, hl, ho, r, dd, nd => by
    cases (show vs = [] from r)
    cases outs with
    | nil => exact ⟨W, fun _ h => h, by simpa [giveAs] using E⟩
    | cons o outs => simp at ho
  | .val d :: os, vs, e1, outs, W, E, hl, ho, ⟨v, vs', e, a, r⟩, dd, nd => by
    subst e
    cases outs with
    | nil => simp at ho
    | cons o outs =>
      obtain ⟨W1, s1, E1⟩ := ER.drop1 hl E
      obtain ⟨W', s, E'⟩ := ER.gives E1 hl (by simpa using ho) r dd (by simpa using nd)
      exact ⟨W', fun p hp => s1 p (s p hp), E'⟩
  | .nm i :: os, vs, e1, outs, W, E, hl, ho, ⟨v, vs', e, ⟨r0, h1, n⟩, r⟩, ⟨d1, dd⟩, nd => by
    subst e
    cases (show v = r0 from n)
    cases outs with
    | nil => simp at ho
    | cons o outs =>
      obtain ⟨W1, p1, E1⟩ := ER.give hl E d1 h1
      have nd' : (i :: os.filterMap fun o => match o with | .nm i => some i | _ => none).Nodup := by simpa using nd
      have nd2 := List.nodup_cons.mp nd'
      have dd' : deadAs os (e1.set i (some o)) := by
        have gen : ∀ {os : List Ob}, deadAs os e1 → i ∉ (os.filterMap fun o => match o with | .nm i => some i | _ => none) → deadAs os (e1.set i (some o)) := by
          intro os
          induction os with
          | nil => intro _ _; trivial
          | cons x os ih =>
            intro h1 h2
            cases x with
            | val d => exact ih h1 (by simpa using h2)
            | nm j =>
              have h3 : i ∉ j :: (os.filterMap fun o => match o with | .nm i => some i | _ => none) := by simpa using h2
              exact ⟨by rw [List.getElem?_set_ne fun z => h3 (by simp [z])]; exact h1.1, ih h1.2 fun z => h3 (List.mem_cons_of_mem _ z)⟩
        exact gen dd nd2.1
      obtain ⟨W', s, E'⟩ := ER.gives E1 (by rw [List.length_set]; exact hl) (by simpa using ho) r dd' nd2.2
      exact ⟨W', fun p hp => p1.mem_iff.mp (s p hp), E'⟩
theorem takeAs_nms : ∀ {os : List Ob} {env e1 : Env} {ts : List T}, takeAs os env = some (e1, ts) → (os.filterMap fun o => match o with | .nm i => some i | _ => none).Nodup
  | [], _, _, _, _ => by simp
  | .val d :: r, env, e1, ts, h => by
    unfold takeAs at h
    cases z : takeAs r env with
    | none => rw [z] at h; cases h
    | some x =>
      rw [z] at h; cases h
      have := takeAs_nms (ts := x.2) (show takeAs r env = some (x.1, x.2) by rw [z])
      simpa using this
  | .nm j :: r, env, e1, ts, h => by
    unfold takeAs at h
    split at h
    · rename_i t ht
      cases z : takeAs r (env.set j none) with
      | none => rw [z] at h; cases h
      | some x =>
        rw [z] at h; cases h
        have h1 := takeAs_nms (ts := x.2) (show takeAs r (env.set j none) = some (x.1, x.2) by rw [z])
        have h2 := takeAs_nodup (ts := x.2) (show takeAs r (env.set j none) = some (x.1, x.2) by rw [z]) (i := j) (List.getElem?_set_self (List.getElem?_eq_some_iff.mp ht).1)
        have : (j :: r.filterMap fun o => match o with | .nm i => some i | _ => none).Nodup := List.nodup_cons.mpr ⟨fun hm => by
          obtain ⟨o, ho, e⟩ := List.mem_filterMap.mp hm
          cases o with
          | val d => cases e
          | nm k => cases e; exact h2 ho, h1⟩
        simpa using this
    · cases h
theorem ObsR.len : ∀ {os : List Ob} {vs : List V}, ObsR K H O σ os vs → vs.length = os.length
  | [], _, e => by cases (show _ = [] from e); rfl
  | o :: os, _, ⟨v, vs', e, a, r⟩ => by subst e; simp [ObsR.len r]
def callM (mf : MF) (a : M (List Ob)) : M T := a.bnd fun os => fun env => match takeAs os env with
  | none => .stuck
  | some x => match mf x.2 with
    | .ok t outs => .ok t (giveAs os x.1 outs)
    | .exc c ns ds outs => .exc c ns ds (giveAs os x.1 outs)
    | .stuck => .stuck
/-- a call of a def whose promise is the mirror's -/
def tCalX (sp : Sp) (W : WX) (t : TA) : TE := fun σ H Q => t σ H fun vs H1 => sp vs H1 Q (fun c d H' => W c d σ H')
theorem io_call {n : Nat} {mf : MF} {m} (hn : ∀ vs : List V, vs.length = n ∨ True) (a : IA K Wx tas m) (hlen : ∀ env os e, m env = .ok os e → os.length = n) : IO K Wx (tCalX (spM K n mf) Wx tas) (callM mf m) := fun Oo W σ H env Q E q => by
  refine a Oo W σ H env _ E ?_
  have hq := M.bnd_to q
  cases zm : m env with
  | exc c ns ds e => rw [zm] at hq; exact hq
  | stuck => rw [zm] at hq; exact hq
  | ok os e =>
    rw [zm] at hq
    intro vs H1 W1 l1 E1 r1
    have hos := hlen env os e zm
    have hq : Rs.To (match takeAs os e with
      | none => .stuck
      | some x => match mf x.2 with
        | .ok t outs => .ok t (giveAs os x.1 outs)
        | .exc c ns ds outs => .exc c ns ds (giveAs os x.1 outs)
        | .stuck => .stuck : Rs T) _ _ := hq
    cases zt : takeAs os e with
    | none => rw [zt] at hq; exact hq.elim
    | some x =>
      rw [zt] at hq
      dsimp only at hq
      have hl1 : e.length = σ.length := E1.len.symm
      have hx : x.1.length = σ.length := by rw [takeAs_len (ts := x.2) (show takeAs os e = some (x.1, x.2) by rw [zt])]; exact hl1
      obtain ⟨W2, p2, E2⟩ := ER.takes (ρ := []) (as := []) (ts := x.2) (e1 := x.1) (by simpa using E1) hl1 r1 (by rw [zt])
      rw [List.nil_append, List.nil_append] at E2
      obtain ⟨Wd, Wc, hW, c1, c2⟩ := Ce.split hx E2.ce
      subst hW
      have nd2 := List.nodup_append.mp E2.nd
      have Ec : ER K (Oo ++ Wd) Wc (vs.map some) H1 (x.2.map some) := ⟨c2.lv (Lv.sub fun p hp => by simpa using hp) (fun _ _ => rfl), nd2.2.1, fun p hp z => by
        rcases List.mem_append.mp z with y | y
        · exact E2.dj p (List.mem_append_right _ hp) y
        · exact nd2.2.2 p y p hp rfl, fun p hp => by
        rcases List.mem_append.mp hp with y | y
        · exact E2.dom p y
        · exact c1.dom p y⟩
      refine ⟨r1.len.trans hos, Oo ++ Wd, Wc, x.2, Ec, ?_⟩
      have perm : ∀ p, p ∈ W1 ↔ p ∈ Wd ∨ p ∈ Wc := fun p => by rw [← p2.mem_iff, List.mem_append]
      -- behind the call
      have back : ∀ {H' W' fp outs}, Lv H1 Wc H' (W' ++ fp) → ER K (Oo ++ Wd ++ fp) W' (vs.map some) H' (outs.map some) → (∀ p ∈ fp, p ∉ Oo ++ Wd) →
          ∃ W3, (∀ p ∈ W3, p ∈ Wd ++ W') ∧ ER K (Oo ++ fp) W3 σ H' (giveAs os x.1 outs) := fun {H' W' fp outs} l Eo nf => by
        have c1' : Ce K H' (Oo ++ fp ++ (Wd ++ W')) x.1 σ Wd := c1.lv ⟨fun p o hn h => l.kp p o (fun z => hn (by simp [z])) h, fun p hp => by
            simp at hp
            rcases hp with y | y | y | y
            · exact .inl (by simp [y])
            · exact (l.out p (by simp [y])).imp (fun z => by simp [z]) id
            · exact .inl (by simp [y])
            · exact (l.out p (by simp [y])).imp (fun z => by simp [z]) id⟩ fun p hp => by
          obtain ⟨o, h⟩ := Mut.ex (c1.dom p hp)
          rw [h]; exact l.kp p o (fun z => nd2.2.2 p hp p z rfl) h
        have c2' : Ce K H' (Oo ++ fp ++ (Wd ++ W')) (outs.map some) (vs.map some) W' := Eo.ce.lv (Lv.sub fun p hp => by simp at hp ⊢; rcases hp with y | y | y | y <;> simp [y]) fun _ _ => rfl
        have Ej : ER K (Oo ++ fp) (Wd ++ W') (σ ++ vs.map some) H' (x.1 ++ outs.map some) := ⟨Ce.app c1' c2', List.nodup_append.mpr ⟨nd2.1, Eo.nd, fun a ha b hb z => Eo.dj b hb (by rw [← z]; simp [ha])⟩, fun p hp z => by
            rcases List.mem_append.mp hp with y | y
            · rcases List.mem_append.mp z with w | w
              · exact E2.dj p (List.mem_append_left _ y) w
              · exact nf p w (List.mem_append_right _ y)
            · exact Eo.dj p y (by simp at z ⊢; rcases z with w | w <;> simp [w]), fun p hp => Eo.dom p (by simp at hp ⊢; rcases hp with w | w <;> simp [w])⟩
        have ho : outs.length = vs.length := by have := Eo.len; simp at this; exact this.symm
        exact ER.gives Ej hx ho r1 (takeAs_dead (ts := x.2) (show takeAs os e = some (x.1, x.2) by rw [zt])) (takeAs_nms (ts := x.2) (show takeAs os e = some (x.1, x.2) by rw [zt]))
      have lvb : ∀ {H' W' W3 fp}, Lv H1 Wc H' (W' ++ fp) → (∀ p ∈ W3, p ∈ Wd ++ W') → Lv H1 W1 H' (W3 ++ fp) := fun {H' W' W3 fp} l s => ⟨fun p o hn h => l.kp p o (fun z => hn ((perm p).mpr (.inr z))) h, fun p hp => by
        rcases List.mem_append.mp hp with y | y
        · rcases List.mem_append.mp (s p y) with w | w
          · exact .inl ((perm p).mpr (.inl w))
          · exact (l.out p (List.mem_append_left _ w)).imp (fun z => (perm p).mpr (.inr z)) id
        · exact (l.out p (List.mem_append_right _ y)).imp (fun z => (perm p).mpr (.inr z)) id⟩
      cases zf : mf x.2 with
      | ok t outs =>
        rw [zf] at hq
        intro v H' W' fp l Eo nd nf o
        obtain ⟨W3, s3, E3⟩ := back l Eo nf
        refine hq v H' W3 fp (l1.trans (lvb l s3)) E3 nd (fun p hp z => nf p hp (List.mem_append_left _ z)) (o.lv (Lv.sub fun p hp => ?_) fun _ _ => rfl)
        simp at hp ⊢
        rcases hp with y | y | y
        · simp [y]
        · simp [y]
        · rcases List.mem_append.mp (s3 p y) with w | w <;> simp [w]
      | exc c ns ds outs =>
        rw [zf] at hq
        intro dx H' W' l Eo xr
        obtain ⟨W3, s3, E3⟩ := back (fp := []) (by simpa using l) (by simpa using Eo) (by simp)
        rw [List.append_nil] at E3
        refine hq dx H' W3 (l1.trans (by simpa using lvb (fp := []) (by simpa using l) s3)) E3 ?_
        have lv : Lv H' (Oo ++ Wd ++ W') H' (Oo ++ W3) := Lv.sub fun p hp => by
          simp at hp ⊢
          rcases hp with y | y
          · simp [y]
          · rcases List.mem_append.mp (s3 p y) with w | w <;> simp [w]
        cases dx with
        | none => exact xr
        | some a => obtain ⟨us, h1, h2, h3⟩ := xr; exact ⟨us, h1, h2, h3.lv lv⟩
      | stuck => rw [zf] at hq; exact hq.elim
end
end KM
/-! The mirror's calls in the text; the law's end. -/
namespace KM
open PySem PySem.Spec PyProof.Rows L2 Evl KP
theorem aN_len (env : Env) (os : List Ob) (e : Env) (h : aNil env = .ok os e) : os.length = 0 := by
  cases h; rfl
theorem aC_len {n : Nat} {a : M Ob} {b : M (List Ob)} (hb : ∀ env os e, b env = .ok os e → os.length = n) (env : Env) (os : List Ob) (e : Env) (h : aCons a b env = .ok os e) : os.length = n + 1 := by
  unfold aCons M.bnd at h
  cases z : a env with
  | ok x e1 =>
    rw [z] at h
    dsimp only at h
    cases y : b e1 with
    | ok xs e2 =>
      rw [y] at h
      cases h
      simp [hb _ _ _ y]
    | exc c ns ds e2 => rw [y] at h; cases h
    | stuck => rw [y] at h; cases h
  | exc c ns ds e1 => rw [z] at h; cases h
  | stuck => rw [z] at h; cases h
section
variable {P : Program} {w : World} {K : PySem.W.Frag} {mg : Str → Option Value} {base : Heap}
/-- a def of the module that may raise, by its name -/
abbrev CalX (P : Program) (w : World) (K : PySem.W.Frag) (mg : Str → Option Value) (base : Heap) (k : Nat) (x : Str) (ps : List Str) (sp : Sp) : Prop := Cal P w K mg base (L2.CX P w) k x ps sp
end
section
variable {X : Cx} {k : Nat} {x : Str} {ps : List Str} {sp : Sp} {W : WX} {e : Expr} {es : List Expr} {t : TA} {p pos : Pos}
theorem tCalX_eq (sp : Sp) (W : WX) (t : TA) : tCallSD sp [] (WE W) t = tCalX sp W t := by
  funext σ H Q
  unfold tCallSD tCalX
  congr 1
  funext vs H1
  rw [List.append_nil]
theorem pe_calX (C : CalX X.prog X.w X.K X.mg X.base k x ps sp) (hr : Room k X.A) (hg : Gl X x) (tk : Takes X W) (ha : PA X (e :: es) t) (hdb : (x == ("__debug__" : Str)) = false := by decide)
    (he : starEach (e :: es) X.env = (false, eval e X.env) :: starEach es X.env := by rfl) (hpl : (backTo pos (starEach es X.env)).any (·.1) = false := by rfl) :
    PE X (.Call (.Name x p) (e :: es) [] pos) (tCalX sp W t) := by
  obtain ⟨f, fd, h1, h2, h3, h4⟩ := C.ex
  rw [← tCalX_eq]
  exact pe_callSD h4 hr hg h1 h2 h3 .nil (fun σ => passAt tk σ) ha hdb he hpl
end
section
variable {P : Program} {w : World} {K : PySem.W.Frag} {mg : Str → Option Value} {base : Heap} {k : Nat} {f : Addr} {fd : FuncData} {ps : List Str}
/-- nothing is promised of a def that is stuck -/
theorem fn_stuck {n : Nat} : FnOk P w K mg base (L2.CX P w) k f fd ps (spM K n fun _ => .stuck) :=
  ⟨fun vs H Q E ⟨_, _, _, _, _, h⟩ => h.elim, fun _ _ _ _ _ _ _ _ _ _ _ _ _ ⟨_, _, _, _, _, h⟩ => h.elim⟩
/-- the law's end -/
theorem law_end {m : MF} (F : FnOk P w K mg base (L2.CX P w) k f fd ["script"] (spM K 1 m)) (h : ∀ ns : List Int, ns.length ≤ 63 → ∃ outs, m [.val (.fro (ns.map D.int))] = .ok (.val (.bl true)) outs) : FnOk P w K mg base CX0 k f fd ["script"] (sp_law K) := by
  refine ⟨fun vs H Q E ⟨x, e, _⟩ => by rw [e]; rfl, fun A outer s H args us vs Q E hr e0 hb r hs => ?_⟩
  obtain ⟨x, rfl, a, ns, rfl, hS, hl, q⟩ := hs
  obtain ⟨outs, hm⟩ := h ns hl
  have hrv : Rv K H [] (.fro (ns.map D.int)) (.ref a) := by
    refine ⟨a, ns.map V.int, rfl, ?_, ?_⟩
    · rcases hS with ⟨o, h⟩ | h
      · exact .inl ⟨by simp, o, h⟩
      · rcases h (fun _ => none) with (h | ⟨o, h⟩) | h
        · cases h
        · cases h
        · exact .inr h
    · clear hm hl hS
      induction ns with
      | nil => rfl
      | cons n ns ih => exact ⟨.int n, _, rfl, rfl, ih⟩
  have hsp : spM K 1 m [.ref a] H Q E0 := by
    refine ⟨rfl, [], [], [.val (.fro (ns.map D.int))], ⟨⟨.ref a, [], [], [], rfl, rfl, ⟨rfl, hrv⟩, rfl, rfl⟩, List.nodup_nil, by simp, by simp⟩, ?_⟩
    rw [hm]
    intro v H' W' fp l Eo nd nf o
    cases (show v = V.bl true from o.2)
    exact q H'
  refine codeAny_mono (F.run A outer s H args us [.ref a] Q E0 hr e0 hb r hsp) fun r s' hq => ?_
  cases r with
  | ok fl => cases fl <;> exact hq
  | error e =>
    obtain ⟨_, _, _, _, _, _, _, _, _, _, _, _, z⟩ := (show L2.CX P w outer H s E0 e s' from hq)
    exact z.elim
end
/-! ### constants of the module: data that stands in the written part -/
mutual
def kB (K : PySem.W.Frag) : D → Value → Bool
  | .non, u => decide (u = Value.none)
  | .bl b, u => decide (u = Value.bool b)
  | .int i, u => match u with
    | .int j _ => decide (j = i)
    | _ => false
  | .str x, u => match u with
    | .str y _ => decide (y = x)
    | _ => false
  | .tup ds, u => match u with
    | .ref p => match K.lookup p with
      | some ⟨.type "tuple", _, .seq its _, _⟩ => decide (its.size ≤ 16777216) && kBs K ds its.toList
      | _ => false
    | _ => false
  | _, _ => false
def kBs (K : PySem.W.Frag) : List D → List Value → Bool
  | [], us => us.isEmpty
  | d :: ds, us => match us with
    | [] => false
    | u :: us => kB K d u && kBs K ds us
end
section
variable {K : PySem.W.Frag} {H : Hp} {O : List Addr}
mutual
theorem kB_ok : ∀ {d : D} {u : Value} {H : Hp} {O : List Addr}, kB K d u = true → ∃ v, RelV v u ∧ Rv K H O d v
  | .non, u, H, O, h => by
    unfold kB at h
    exact ⟨.non, (of_decide_eq_true h : u = Value.none), rfl⟩
  | .bl b, u, H, O, h => by
    unfold kB at h
    exact ⟨.bl b, (of_decide_eq_true h : u = Value.bool b), rfl⟩
  | .int i, u, H, O, h => by
    unfold kB at h
    split at h
    · have e := of_decide_eq_true h
      subst e
      exact ⟨.int _, ⟨_, rfl⟩, rfl⟩
    · cases h
  | .str x, u, H, O, h => by
    unfold kB at h
    split at h
    · have e := of_decide_eq_true h
      subst e
      exact ⟨.str _, ⟨_, rfl⟩, rfl⟩
    · cases h
  | .tup ds, u, H, O, h => by
    unfold kB at h
    split at h
    · rename_i p
      split at h
      · rename_i od its n sl e
        rw [Bool.and_eq_true] at h
        obtain ⟨vs, r1, r2⟩ := kBs_ok (H := H) (O := O) h.2
        exact ⟨.ref p, rfl, p, vs, rfl, .inr ⟨_, its, n, e, rfl, rfl, by rw [sizeLine_eq]; exact of_decide_eq_true h.1, r1⟩, r2⟩
      · cases h
    · cases h
  | .ty _, _, _, _, h => by unfold kB at h; cases h
  | .glo _, _, _, _, h => by unfold kB at h; cases h
  | .lst _, _, _, _, h => by unfold kB at h; cases h
  | .fro _, _, _, _, h => by unfold kB at h; cases h
  | .dic _ _, _, _, _, h => by unfold kB at h; cases h
  | .obj _ _ _, _, _, _, h => by unfold kB at h; cases h
theorem kBs_ok : ∀ {ds : List D} {us : List Value} {H : Hp} {O : List Addr}, kBs K ds us = true → ∃ vs, Vals vs us ∧ Rvs K H O ds vs
  | [], us, H, O, h => by
    unfold kBs at h
    cases us with
    | nil => exact ⟨[], .nil, rfl⟩
    | cons u us => cases h
  | d :: ds, us, H, O, h => by
    unfold kBs at h
    cases us with
    | nil => cases h
    | cons u us =>
      dsimp only at h
      rw [Bool.and_eq_true] at h
      obtain ⟨v, r1, r2⟩ := kB_ok (H := H) (O := O) h.1
      obtain ⟨vs, r3, r4⟩ := kBs_ok (H := H) (O := O) h.2
      exact ⟨v :: vs, .cons r1 r3, v, vs, rfl, r2, r4⟩
end
theorem Rv.any {d : D} {u : Value} (h : kB K d u = true) : ∃ v, RelV v u ∧ ∀ H O, Rv K H O d v := by
  obtain ⟨v, r1, _⟩ := kB_ok (H := fun _ => none) (O := []) h
  refine ⟨v, r1, fun H O => ?_⟩
  obtain ⟨v', r2, r3⟩ := kB_ok (H := H) (O := O) h
  rw [r1.inj r2]
  exact r3
end
end KM
/-! The mirror's evaluation: each combinator at a state. -/
namespace KM
open PySem PySem.Spec PyProof.Rows L2 Evl KP
def Rs.bind {α β : Type} (r : Rs α) (k : α → M β) : Rs β := match r with
  | .ok a e => k a e
  | .exc c ns ds e => .exc c ns ds e
  | .stuck => .stuck
def Rs.out {α : Type} (r : Rs α) (k : α → SM) : Out := match r with
  | .ok a e => k a e
  | .exc c ns ds e => .exc c ns ds e
  | .stuck => .stuck
def Out.then (o : Out) (b : SM) : Out := match o with
  | .nx e => b e
  | o => o
section
variable {α β : Type} {env e e1 e2 : Env} {c : Prop} [Decidable c]
theorem x_bnd (m : M α) (k : α → M β) (env : Env) : (m.bnd k) env = (m env).bind k := rfl
theorem x_thenS (m : M α) (k : α → SM) (env : Env) : thenS m k env = (m env).out k := rfl
theorem x_seq (a b : SM) (env : Env) : sSeq a b env = (a env).then b := by
  unfold sSeq Out.then
  rfl
theorem x_drop (m : M T) (env : Env) : sDrop m env = (m env).out fun _ => sNil := rfl
theorem x_sret (m : M T) (env : Env) : sRet m env = (m env).out fun t e => .ret t e := rfl
theorem x_sif (cm : M Bool) (a b : SM) (env : Env) : sIf cm a b env = (cm env).out fun x => if x = true then a else b := rfl
theorem x_asg (i : Nat) (m : M T) (env : Env) : sAsg i m env = (m env).out fun t e => .nx (e.set i (some t)) := rfl
theorem x_ipAdd (i j : Int) : ipAdd (.int i) (.int j) = some (.int (i + j)) := rfl
theorem x_ipSub (i j : Int) : ipSub (.int i) (.int j) = some (.int (i - j)) := rfl
theorem x_ipXor (i j : Int) : ipXor (.int i) (.int j) = some (.int (Builtin.bitXor i j)) := rfl
/-! values -/
theorem x_vO (m : M T) (env : Env) : vO m env = (m env).bind fun t => M.ret (toD t) := rfl
theorem toDs_leafs : ∀ ds : List D, toDs (leafs ds) = ds
  | [] => rfl
  | d :: ds => by
    show toD (.val d) :: toDs (leafs ds) = _
    rw [toDs_leafs ds]; rfl
theorem unvals_leafs : ∀ ds : List D, unvals (leafs ds) = some ds
  | [] => rfl
  | d :: ds => by
    show (unvals (leafs ds)).map (d :: ·) = _
    rw [unvals_leafs ds]; rfl
theorem x_toDL (ds : List D) : toD (.lst (leafs ds)) = .lst ds := congrArg D.lst (toDs_leafs ds)
theorem x_shalL (ds : List D) : shal (.lst (leafs ds)) = some (.lst ds) := by
  show (unvals (leafs ds)).map D.lst = _
  rw [unvals_leafs]; rfl
/-- names -/
def nmOut (i : Nat) (env : Env) : Option (Option T) → Rs Ob
  | some (some _) => .ok (.nm i) env
  | _ => .stuck
theorem x_nm (i : Nat) (env : Env) : nmM i env = nmOut i env env[i]? := by
  unfold nmM nmOut
  rfl
def pNmO (i : Nat) : Option (Option T) → Option Opd
  | some (some _) => some (.loc i [])
  | _ => none
theorem x_pNm (i : Nat) (env : Env) : pNm i env = pNmO i env[i]? := rfl
def lookO (π : List Sg) : Option (Option T) → Option D
  | some (some t) => (t.at? π).bind shal
  | _ => none
theorem x_lookN (i : Nat) (env : Env) : lookB (.nm i) env = lookO [] env[i]? := by
  unfold lookB Ob.opd look nodeOf lookO
  dsimp only
  cases env[i]? with
  | none => rfl
  | some c => cases c <;> rfl
def atO (π : List Sg) : Option (Option T) → Option T
  | some (some t) => t.at? π
  | _ => none
theorem x_node (i : Nat) (π : List Sg) (env : Env) : nodeOf env i π = atO π env[i]? := rfl
theorem x_map {α β : Type} (a : α) (f : α → β) : (some a).map f = some (f a) := rfl
/-- value mode -/
def vLO (env : Env) : Option Opd → Rs D
  | some x => frz x env
  | none => .stuck
theorem x_vL (m : Env → Option Opd) (env : Env) : vL m env = vLO env (m env) := by
  unfold vL vLO
  cases m env <;> rfl
def frzO (i : Nat) (env : Env) : Option (Option T) → Rs D
  | some (some t) => .ok (toD t) (env.set i (some (.val (toD t))))
  | _ => .stuck
theorem x_frzN (i : Nat) (env : Env) : frz (.loc i []) env = frzO i env env[i]? := by
  unfold frz frzO
  dsimp only
  cases env[i]? with
  | none => rfl
  | some c => cases c <;> rfl
theorem x_pAt (m : Env → Option Opd) (env : Env) : pAt m env = (m env).bind fun x => dataAt x env := rfl
def dataO : Option T → Option D
  | some (.val d) => some d
  | _ => none
theorem x_dataL (i : Nat) (π : List Sg) (env : Env) : dataAt (.loc i π) env = dataO (nodeOf env i π) := by
  unfold dataAt dataO
  show (match nodeOf env i π with | some (.val d) => some d | _ => none) = _
  cases nodeOf env i π with
  | none => rfl
  | some t => cases t <;> rfl
theorem leafs_len (ds : List D) : (leafs ds).length = ds.length := by unfold leafs; simp
theorem x_itL (ds : List D) : items (.lst ds) = some ds := rfl
theorem x_itF (ds : List D) : items (.fro ds) = some ds := rfl
theorem x_itT (ds : List D) : items (.tup ds) = some ds := rfl
theorem x_atN {ds : List α} {j : Int} (h : 0 ≤ j) : L2.atI ds j = ds[j.toNat]? := by
  unfold L2.atI ixN
  rw [if_pos h]
  by_cases h1 : j < ds.length
  · rw [if_pos h1]; rfl
  · rw [if_neg h1, List.getElem?_eq_none (by omega)]; rfl
theorem x_atM {ds : List α} {j : Int} (h : j < 0) (h2 : -(ds.length : Int) ≤ j) : L2.atI ds j = ds[(j + ds.length).toNat]? := by
  unfold L2.atI ixN
  rw [if_neg (by omega), if_pos h2]; rfl
theorem x_ixN {n : Nat} {j : Int} (h : 0 ≤ j) (h2 : j < n) : ixN n j = some j.toNat := by
  unfold ixN
  rw [if_pos h, if_pos h2]
theorem x_add (i j : Int) : opAdd (.int i) (.int j) = some (.val (.int (i + j))) := rfl
theorem x_addL {a b : List D} (h : a.length + b.length ≤ 16777216) : opAdd (.lst a) (.lst b) = some (.lst (leafs (a ++ b))) := if_pos h
theorem x_addT {a b : List D} (h : a.length + b.length ≤ 16777216) : opAdd (.tup a) (.tup b) = some (.val (.tup (a ++ b))) := if_pos h
theorem x_addS {a b : Str} (h : a.length + b.length ≤ 16777216) : opAdd (.str a) (.str b) = some (.val (.str (a ++ b))) := if_pos h
theorem x_sub (i j : Int) : opSub (.int i) (.int j) = some (.val (.int (i - j))) := rfl
theorem x_band (i j : Int) : opAnd (.int i) (.int j) = some (.val (.int (Builtin.bitAnd i j))) := rfl
theorem x_bor (i j : Int) : opOr (.int i) (.int j) = some (.val (.int (Builtin.bitOr i j))) := rfl
theorem x_bxor (i j : Int) : opXor (.int i) (.int j) = some (.val (.int (Builtin.bitXor i j))) := rfl
theorem x_mul {i j : Int} (h : (i.natAbs < 18446744073709551616 ∨ j.natAbs < 18446744073709551616)) : opMul (.int i) (.int j) = some (.val (.int (i * j))) := by
  show (if mulOk i j = true then some (T.val (.int (i * j))) else none) = _
  unfold mulOk
  rw [if_pos]
  rcases h with h | h
  · simp [h]
  · simp [h]
theorem log_small {j : Int} {b : Nat} (h : j.natAbs < 2 ^ b) (h0 : 0 < b) (h9 : b ≤ 9000) : j.natAbs.log2 < 9000 := Nat.lt_of_lt_of_le (PySem.Flt.log2_lt_of h0 h) h9
theorem x_fdiv {i j : Int} (h : 0 < j) (h2 : j < 1000000000000000000000000000000) : opFdiv (.int i) (.int j) = some (.val (.int (i / j))) := by
  unfold opFdiv opI divOk
  have : j.natAbs.log2 < 9000 := log_small (b := 128) (by have : (2 : Nat) ^ 128 = 340282366920938463463374607431768211456 := by decide
                                                          omega) (by decide) (by decide)
  simp [h, this]
theorem x_mod {i j : Int} (h : 0 < j) : opMod (.int i) (.int j) = some (.val (.int (i % j))) := by
  unfold opMod opI
  simp [h]
theorem x_pow {i j : Int} (h : 0 ≤ j) (h2 : j ≤ 1000000) (h3 : i.natAbs < 18446744073709551616) : opPow (.int i) (.int j) = some (.val (.int (i ^ j.toNat))) := by
  unfold opPow opI powOk
  simp [h, h2, h3]
theorem x_shl {i j : Int} (h : 0 ≤ j) (h2 : j ≤ 1000000) (h3 : i.natAbs < 18446744073709551616) : opShl (.int i) (.int j) = some (.val (.int (i * 2 ^ j.toNat))) := by
  unfold opShl opI powOk
  simp [h, h2, h3]
theorem x_shr {i j : Int} (h : 0 ≤ j) : opShr (.int i) (.int j) = some (.val (.int (i / 2 ^ j.toNat))) := by
  unfold opShr opI
  simp [h]
theorem x_neg (i : Int) : opNeg (.int i) = some (.val (.int (-i))) := rfl
theorem x_lt (i j : Int) : opLt (.int i) (.int j) = some (.val (.bl (decide (i < j)))) := rfl
theorem x_le (i j : Int) : opLe (.int i) (.int j) = some (.val (.bl (decide (i ≤ j)))) := rfl
theorem x_gt' (i j : Int) : opGt (.int i) (.int j) = some (.val (.bl (decide (j < i)))) := rfl
theorem x_ge (i j : Int) : opGe (.int i) (.int j) = some (.val (.bl (decide (j ≤ i)))) := rfl
theorem x_eqI (i j : Int) : opEq false (.int i) (.int j) = some (.val (.bl (decide (i = j)))) := rfl
theorem x_neI (i j : Int) : opEq true (.int i) (.int j) = some (.val (.bl (!decide (i = j)))) := rfl
theorem x_eqS (i j : Str) : opEq false (.str i) (.str j) = some (.val (.bl (decide (i = j)))) := rfl
theorem x_neS (i j : Str) : opEq true (.str i) (.str j) = some (.val (.bl (!decide (i = j)))) := rfl
theorem x_eqB (i j : Bool) : opEq false (.bl i) (.bl j) = some (.val (.bl (decide (i = j)))) := rfl
theorem x_neB (i j : Bool) : opEq true (.bl i) (.bl j) = some (.val (.bl (!decide (i = j)))) := rfl
theorem x_is (d e : D) : opIs false d e = (isD d e).map fun b => .val (.bl b) := rfl
theorem x_isnot (d e : D) : opIs true d e = (isD d e).map fun b => .val (.bl (!b)) := rfl
theorem x_ixT (ds : List D) (j : Int) : opIx (.tup ds) (.int j) = (L2.atI ds j).map .val := rfl
theorem x_ixL (ds : List D) (j : Int) : opIx (.lst ds) (.int j) = (L2.atI ds j).map .val := rfl
theorem x_ixF (ds : List D) (j : Int) : opIx (.fro ds) (.int j) = (L2.atI ds j).map .val := rfl
theorem x_ixS {z : Str} (h : z.length ≤ 16777216) (j : Int) : opIx (.str z) (.int j) = (L2.atI z.cps.toList j).map fun c => .val (.str ⟨#[c]⟩) := if_pos h
theorem x_lenL {ds : List D} (h : ds.length ≤ 16777216) : bLen [.lst ds] = some (.val (.int ds.length)) := if_pos h
theorem x_lenT {ds : List D} (h : ds.length ≤ 16777216) : bLen [.tup ds] = some (.val (.int ds.length)) := if_pos h
theorem x_lenF {ds : List D} (h : ds.length ≤ 16777216) : bLen [.fro ds] = some (.val (.int ds.length)) := if_pos h
theorem x_lenS {z : Str} (h : z.length ≤ 16777216) : bLen [.str z] = some (.val (.int z.length)) := if_pos h
theorem x_abs (i : Int) : bAbs [.int i] = some (.val (.int (if i < 0 then -i else i))) := rfl
theorem x_min (i j : Int) : bMin [.int i, .int j] = some (.val (.int (if j < i then j else i))) := rfl
theorem x_max (i j : Int) : bMax [.int i, .int j] = some (.val (.int (if j > i then j else i))) := rfl
theorem x_int (i : Int) : bInt [.int i] = some (.val (.int i)) := rfl
theorem x_intB (b : Bool) : bInt [.bl b] = some (.val (.int (if b then 1 else 0))) := rfl
theorem x_list (d : D) : bList [d] = (items d).map fun ds => .lst (leafs ds) := rfl
theorem x_tup (d : D) : bTup [d] = (items d).map fun ds => .val (.tup ds) := rfl
theorem x_slT (ds : List D) (lo hi : Option Int) : opSl (.tup ds) lo hi = some (.val (.tup (cutD ds lo hi))) := rfl
theorem x_slL (ds : List D) (lo hi : Option Int) : opSl (.lst ds) lo hi = some (.lst (leafs (cutD ds lo hi))) := rfl
theorem x_slF (ds : List D) (lo hi : Option Int) : opSl (.fro ds) lo hi = some (.lst (leafs (cutD ds lo hi))) := rfl
theorem x_slS {z : Str} (h : z.length ≤ 16777216) (lo hi : Option Int) : opSl (.str z) lo hi = some (.val (.str (cutS z lo hi))) := if_pos h
theorem leafs_set (ds : List D) (n : Nat) (d : D) : (leafs ds).set n (.val d) = leafs (ds.set n d) := by unfold leafs; rw [List.map_set]
/-- calls -/
def RF.rs (r : RF) (back : List T → Env) : Rs T := match r with
  | .ok t outs => .ok t (back outs)
  | .exc c ns ds outs => .exc c ns ds (back outs)
  | .stuck => .stuck
def callO (mf : MF) (os : List Ob) : Option (Env × List T) → Rs T
  | some x => (mf x.2).rs (giveAs os x.1)
  | none => .stuck
theorem x_call (mf : MF) (a : M (List Ob)) (env : Env) : callM mf a env = (a env).bind fun os e => callO mf os (takeAs os e) := by
  unfold callM
  rw [x_bnd]
  congr 1
  funext os e
  unfold callO
  cases takeAs os e with
  | none => rfl
  | some x => dsimp only; unfold RF.rs; cases mf x.2 <;> rfl
end
end KM
/-! Generators: if and for in a generator's body. -/
namespace KP
open PySem PySem.Spec PyProof.Rows L2 GenW Evl
/-! ### a generator def's contract -/
structure CalG (P : Program) (w : World) (K : PySem.W.Frag) (mg : Str → Option Value) (base : Heap) (k : Nat) (x : Str) (ps : List Str) (sp : SpG) : Prop where
  ex : ∃ (f : Addr) (fd : FuncData), mg x = some (.ref f) ∧ PySem.W.keepIn K (.ref f) = true ∧ Binds K fd ps [] ∧ GFn P w K mg base k f fd ps sp
theorem CalG.mk' {P : Program} {w : World} {K : PySem.W.Frag} {mg : Str → Option Value} {base : Heap} {k : Nat} {x : Str} {ps : List Str} {sp : SpG} {f : Addr} {fd : FuncData} (h1 : mg x = some (.ref f)) (h2 : PySem.W.keepIn K (.ref f) = true) (h3 : Binds K fd ps []) (h4 : GFn P w K mg base k f fd ps sp) :
    CalG P w K mg base k x ps sp := ⟨f, fd, h1, h2, h3, h4⟩
/-! ### readings -/
end KP
/-! len(range(i, j, c)); for over a range with a step. -/
namespace KP
open PySem PySem.Spec PyProof.Rows L2 GenW Evl
/-! ### a generator def with defaults -/
end KP
/-! More built-ins: methods of lists and texts, sum, str, ranges as values. -/
namespace PySem
open PyProof.Rows
end PySem
namespace KM
open PySem PySem.Spec PyProof.Rows L2 Evl KP
section
variable {K : PySem.W.Frag} {Wx : WX} {Fz : List Nat} {H H' H1 H2 : Hp} {O O' Oo W W' W1 W2 fp : List Addr} {σ σ' ρ : L2.St} {env env' as : Env} {te ta tb tc : TE} {tt tu : TT} {tas : TA} {ts us : TS} {A : Ends}
/-! ### lists changed by methods -/
/-- a list at a name changes to data; f: the new items -/
theorem ER.chgD (E : ER K Oo W σ H env) {i : Nat} {ts : List T} {v : V} (hn : nodeOf env i [] = some (.lst ts)) (hv : OpdR K H (Oo ++ W) σ (.loc i []) v) :
    ∃ p vs fq, v = .ref p ∧ H p = some (.lst vs) ∧ Ows K H (Oo ++ W) ts vs fq ∧ p ∉ fq ∧ ∀ (us : List T) (ws : List V) (f' : List Addr), f'.Sublist fq →
      (∀ O' : List Addr, Lv H (Oo ++ W) (upd H p (.lst ws)) O' → (∀ q, q ≠ p → (upd H p (.lst ws)) q = H q) → Ows K (upd H p (.lst ws)) O' us ws f') →
      ∃ W', Lv H W (upd H p (.lst ws)) W' ∧ ER K Oo W' σ (upd H p (.lst ws)) (putAt env i [] (.lst us)) := by
  obtain ⟨p, vs, fq, e, hp, rs, g1, g2, g3, g4, go⟩ := ER.chgL (us := []) (fp := []) (Oo := Oo) (W := W) (by simpa using E) (by simp) hn (by simpa using hv)
  refine ⟨p, vs, fq, e, hp, by simpa using rs, g1, fun us ws f' s o => ?_⟩
  obtain ⟨W', l, E'⟩ := go us ws f' (fun q hq => .inl (s.subset hq)) (g2.sublist s) (fun O' l same => o O' (by simpa using l) same)
  exact ⟨W', by simpa using l, E'⟩
/-- xs.extend(e) -/
def seqArg : D → Option (List D)
  | .lst ds => some ds
  | .tup ds => some ds
  | _ => none
/-! ### methods of texts -/
def mS1 (g : Str → Str → D) : Str → List D → Option T
  | a, [.str b] => some (.val (g a b))
  | _, _ => none
def mCount := mS1 fun a b => .int (Txt.count a b)
def mStarts := mS1 fun a b => .bl (Txt.startswith a b)
def strsOf : List D → Option (List Str)
  | [] => some []
  | .str x :: ds => (strsOf ds).map (x :: ·)
  | _ :: _ => none
def mJoin : Str → List D → Option T
  | a, [d] => (items d).bind fun ds => (strsOf ds).bind fun ys => if (ys.map (·.length)).sum + ys.length * a.length ≤ 16777216 then some (.val (.str (Txt.join a ys))) else none
  | _, _ => none
/-! ### built-ins -/
def intsOf : List D → Option (List Int)
  | [] => some []
  | .int i :: ds => (intsOf ds).map (i :: ·)
  | _ :: _ => none
theorem intsOf_rvs : ∀ {ds : List D} {vs : List V} {ys : List Int}, Rvs K H O ds vs → intsOf ds = some ys → vs = ys.map V.int
  | [], _, _, e, h => by cases (show _ = [] from e); cases h; rfl
  | .int x :: ds, _, zs, ⟨v, vs', e, a, r⟩, h => by
    unfold intsOf at h
    cases z : intsOf ds with
    | none => rw [z] at h; cases h
    | some ws =>
      rw [z] at h; cases h
      subst e
      cases (show v = _ from a)
      rw [intsOf_rvs r z]; rfl
  | .non :: _, _, _, _, h => by cases h
  | .bl _ :: _, _, _, _, h => by cases h
  | .str _ :: _, _, _, _, h => by cases h
  | .ty _ :: _, _, _, _, h => by cases h
  | .glo _ :: _, _, _, _, h => by cases h
  | .tup _ :: _, _, _, _, h => by cases h
  | .lst _ :: _, _, _, _, h => by cases h
  | .fro _ :: _, _, _, _, h => by cases h
  | .dic _ _ :: _, _, _, _, h => by cases h
  | .obj _ _ _ :: _, _, _, _, h => by cases h
/-- a list of ints -/
def listInts (d : D) : Option (List Int) := match d with
  | .lst ds => intsOf ds
  | .fro ds => intsOf ds
  | _ => none
theorem RSh.ints {d : D} {v : V} {ns : List Int} (r : RSh K H O d v) (h : listInts d = some ns) : ∃ p, v = .ref p ∧ SqL K H p (ns.map V.int) := by
  cases d with
  | lst ds =>
    obtain ⟨p, vs, e, a, rs⟩ := r
    have := intsOf_rvs rs h
    subst this
    exact ⟨p, e, SqL.of a⟩
  | fro ds =>
    obtain ⟨p, vs, e, a, rs⟩ := r
    have := intsOf_rvs rs h
    subst this
    exact ⟨p, e, a⟩
  | _ => cases h
def bSumI : List D → Option T
  | [d] => (listInts d).map fun ns => .val (.int ns.sum)
  | _ => none
theorem s_sum : OpA K (rSum K) bSumI := by
  intro H O xs ds t Q hn r h q
  unfold bSumI at h
  split at h
  · rename_i d
    obtain ⟨v, vs', rfl, a, e⟩ := r
    cases (show vs' = [] from e)
    cases e1 : listInts d with
    | none => rw [e1] at h; cases h
    | some ns =>
      rw [e1] at h; cases h
      obtain ⟨p, rfl, s⟩ := a.ints e1
      exact ⟨p, ns, rfl, s, ans (K := K) q rfl⟩
  · cases h
def isort (ns : List Int) : List Int := ns.mergeSort fun a b => decide (a ≤ b)
def bSorted : List D → Option T
  | [d] => (listInts d).map fun ns => .lst (leafs ((isort ns).map D.int))
  | _ => none
/-- range objects as lists, tuples -/
def IRg (K : PySem.W.Frag) (Wx : WX) (tr : L2.St → Hp → (Int → Int → Hp → Prop) → Prop) (m : M (Int × Int)) : Prop := ∀ Oo W σ H env (Q : Int → Int → Hp → Prop), ER K Oo W σ H env →
  (m env).To (fun x env' => ∀ H' W', Lv H W H' W' → ER K Oo W' σ H' env' → Q x.1 x.2 H') (OkX K Wx Oo W σ H) → tr σ H Q
def unInt (d : D) : M Int := match d with
  | .int i => M.ret i
  | _ => fun _ => .stuck
theorem Rv.int {d : D} {v : V} {Q : Int → Env → Prop} {Y} (r : Rv K H O d v) (q : (unInt d env).To Q Y) : ∃ i, v = .int i ∧ d = .int i ∧ Q i env := by
  cases d with
  | int i => exact ⟨i, r, rfl, q⟩
  | _ => exact q.elim
def mRg1 (a : M D) : M (Int × Int) := a.bnd fun d => (unInt d).bnd fun n => M.ret (0, n)
theorem irg1 {m} (a : IV K Wx ta m) : IRg K Wx (tRg1 ta) (mRg1 m) := fun Oo W σ H env Q E q => by
  refine a Oo W σ H env _ E ((M.bnd_to q).mono (fun d env1 q v H1 W1 l1 E1 r1 => ?_) fun _ _ _ _ x => x)
  obtain ⟨i, e, _, q⟩ := r1.int (M.bnd_to q)
  exact ⟨i, e, q H1 W1 l1 E1⟩
end
end KM
/-! enumerate and zip over any source (list, tuple, text). -/
namespace PySem
theorem en_meets {v : Value} {o : Obj} {G : Heap → Prop} (B : Begins v o G) : Meets (Builtin.«enumerate.__new__» ⟨[.type "enumerate", v], []⟩) (fun _ R s => G s.heap ∧ R (.ok (.ret (.ref (s.heap.push o).objs.size)))
    { s with heap := (s.heap.push o).push { cls := .type "enumerate", data := .fields #[.none, .bool false, .ref s.heap.objs.size, rawInt 0, .none, .none] } }) := .of_wp fun prog w A R s h => by
  obtain ⟨m, g, d, tk, os⟩ := s
  obtain ⟨hg, h⟩ := h
  have hs := sub_enumerate
  have st : ∀ {A' : Around} {E Q : Value → Shared → Prop}, Q (.ref m.objs.size) ⟨m.push o, g, d, tk, os⟩ → wpAny (model prog w) A' (pyIter v) Q E ⟨m, g, d, tk, os⟩ := B.iter prog w _ _ ⟨m, g, d, tk, os⟩ _ hg
  wp_walk using st
  refine wpAny_stack_any fun fr => wpAny_pure ?_
  split
  · rename_i c _ _ _ _ _
    cases (c == Value.type "enumerate")
    all_goals
      wp_walk using st
      exact ⟨_, rfl, h⟩
  · wp_walk using st
    exact ⟨_, rfl, h⟩
section
variable {prog : Program} {w : World} {A : Around} {E : Value → Shared → Prop} {s : Shared}
theorem en_call {v : Value} {o : Obj} {G : Heap → Prop} {Q : Value → Shared → Prop} (B : Begins v o G) (hg : G s.heap)
    (k : ∀ m, IsEnum m (s.heap.objs.size + 1) s.heap.objs.size 0 .none → m.get? s.heap.objs.size = some o → (∀ b o, s.heap.get? b = some o → m.get? b = some o) → Q (.ref (s.heap.objs.size + 1)) { s with heap := m }) :
    wpAny (model prog w) A (call (.type "enumerate") [v]) Q E s := by
  refine callType_new F.called_enumerate (by decide) (F.typeCall_enumerate_1 _) (F.newCall_enumerate_1 _) (fun x => F.args_object_init_2 x _) F.entry_enumerate_new (en_meets B) ⟨hg, ?_⟩
  have z : (s.heap.push o).objs.size = s.heap.objs.size + 1 := Heap.size_push ..
  have q := Heap.get?_push_size (s.heap.push o) (o := { cls := .type "enumerate", data := .fields #[.none, .bool false, .ref s.heap.objs.size, rawInt 0, .none, .none] }) rfl
  rw [z] at q ⊢
  exact ⟨⟨_, q, rfl⟩, k _ q (Heap.get?_push_of_some _ (Heap.get?_push_size _ B.free)) fun b x e => Heap.get?_push_of_some _ (Heap.get?_push_of_some _ e)⟩
end
end PySem
namespace KM
open PySem PySem.Spec PyProof.Rows L2 Evl KP
/-- a source -/
inductive Sc where
  | li (p : Addr)
  | tu (p : Addr)
  | sg (z : Str)
def zV (z : Str) : List V := z.cps.toList.map fun c => .str ⟨#[c]⟩
def Sc.has (K : PySem.W.Frag) (H : Hp) : Sc → List V → Prop
  | .li p, vs => SqL K H p vs
  | .tu p, vs => SqT K H p vs
  | .sg z, vs => vs = zV z
def Sc.src : Sc → V
  | .li p => .ref p
  | .tu p => .ref p
  | .sg z => .str z
def Sc.st : Sc → Tok → Addr → Nat → Heap → Prop
  | .li p, _, it, i, h => h.IsListIter it p i
  | .tu p, _, it, i, h => h.IsTupleIter it p i
  | .sg z, t, it, i, h => h.IsStrIter it (strIterType z) z t i
def Sc.ob : Sc → Tok → Obj
  | .li p, _ => { cls := .type "list_iterator", data := .fields #[.ref p, .int 0 0] }
  | .tu p, _ => { cls := .type "tuple_iterator", data := .fields #[.ref p, .int 0 0] }
  | .sg z, t => { cls := .type (strIterType z), data := .fields #[.str z t, .int 0 0] }
section
variable {X : Cx} {pins : List (Addr × Obj)} {σ : L2.St} {H : Hp} {s : Shared} {sc : Sc} {vs : List V} {t : Tok} {it : Addr} {i : Nat} {h h' : Heap}
theorem Sc.obj (a : sc.st t it i h) : ∃ o, h.get? it = some o ∧ ∀ v, o.data ≠ .cell v := by
  cases sc <;> (obtain ⟨o, e, _, d⟩ := a; exact ⟨o, e, fun v z => by rw [d] at z; cases z⟩)
theorem Sc.keep (a : sc.st t it i h) (k : ∀ o, h.get? it = some o → h'.get? it = some o) : sc.st t it i h' := by
  cases sc <;> (obtain ⟨o, e, r⟩ := a; exact ⟨o, k o e, r⟩)
theorem Sc.zero (a : h.get? it = some (sc.ob t)) : sc.st t it 0 h := by
  cases sc <;> exact ⟨_, a, rfl, rfl⟩
theorem Sc.begin {u : Value} (I : Inv X pins σ H s) (r : RelV sc.src u) (a : sc.has X.K H vs) : ∃ t G, Begins u (sc.ob t) G ∧ G s.heap := by
  cases sc with
  | li p =>
    cases r
    obtain ⟨its, rv, q, hz⟩ := I.list a
    exact ⟨0, _, begins_list p its.toArray, q.isList⟩
  | tu p =>
    cases r
    obtain ⟨its, rv, q, hz⟩ := I.tuple a
    exact ⟨0, _, begins_tuple p its.toArray, q⟩
  | sg z =>
    obtain ⟨t, rfl⟩ := r
    exact ⟨t, _, begins_text z t, trivial⟩
theorem k_ne {p c : Addr} {o : Obj} (I : Inv X pins σ H s) (e : X.K.lookup p = some o) (f : FpOk X pins H c) : p ≠ c := fun z => by
  subst z
  have hb := I.ok.mod.kin p o e
  rcases f.2.2.2.1 with y | y
  · exact I.ok.noex p o hb y
  · exact absurd (Nat.lt_of_lt_of_le (Heap.lt_size hb) (Nat.le_trans I.ok.bsz y)) (Nat.lt_irrefl _)
theorem rd_ne {p c : Addr} {u : HO} (r : Rd H p u) (f : FpOk X pins H c) : p ≠ c := fun z => by
  subst z
  rcases r with e | ⟨o, e⟩
  · rw [f.1] at e; cases e
  · rw [f.1] at e; cases e
theorem sqL_ne {p c : Addr} (I : Inv X pins σ H s) (a : SqL X.K H p vs) (f : FpOk X pins H c) : p ≠ c := by
  rcases a with r | ⟨o, _, _, e, _⟩
  · exact rd_ne r f
  · exact k_ne I e f
theorem sqT_ne {p c : Addr} (I : Inv X pins σ H s) (a : SqT X.K H p vs) (f : FpOk X pins H c) : p ≠ c := by
  rcases a with r | ⟨o, _, _, e, _⟩
  · exact rd_ne r f
  · exact k_ne I e f
theorem Sc.draw (I : Inv X pins σ H s) (hc : X.calm = true) (a : sc.has X.K H vs) (hn : FpOk X pins H it) (st : sc.st t it i s.heap) :
    ∃ fp P St, Draws X.prog X.w X.A.in1 it fp vs.length P St ∧ St i s.heap ∧ (∀ j h, St j h → sc.st t it j h) ∧ (∀ x, P i x → i < vs.length → ∃ v, vs[i]? = some v ∧ RelV v x) ∧ it ∈ fp ∧ ∀ b ∈ fp, b = it ∨ ∀ c, FpOk X pins H c → b ≠ c := by
  have hh : X.A.in1.handled = none := I.ok.hd hc
  cases sc with
  | li p =>
    obtain ⟨its, rv, q, hz⟩ := I.list a
    have hl := rv.length
    have np : p ≠ it := sqL_ne I a hn
    have D := Draws.list (prog := X.prog) (w := X.w) hh it p np its.toArray
    rw [show its.toArray.size = vs.length by simp [hl]] at D
    refine ⟨_, _, _, D, ⟨st, q.isList⟩, fun j h z => z.1, fun x e hi => ?_, by simp, fun b hb => ?_⟩
    · obtain ⟨v, hv⟩ := lt_get hi
      obtain ⟨u, hu, ru⟩ := rv.get hv
      have : its[i]? = some x := by simpa using e
      rw [hu] at this; cases this
      exact ⟨v, hv, ru⟩
    · have : b = it ∨ b = p := by simpa using hb
      rcases this with z | z
      · exact .inl z
      · exact .inr fun c f => by rw [z]; exact sqL_ne I a f
  | tu p =>
    obtain ⟨its, rv, q, hz⟩ := I.tuple a
    have hl := rv.length
    have np : p ≠ it := sqT_ne I a hn
    have D := Draws.tuple (prog := X.prog) (w := X.w) hh it p np its.toArray
    rw [show its.toArray.size = vs.length by simp [hl]] at D
    refine ⟨_, _, _, D, ⟨st, q⟩, fun j h z => z.1, fun x e hi => ?_, by simp, fun b hb => ?_⟩
    · obtain ⟨v, hv⟩ := lt_get hi
      obtain ⟨u, hu, ru⟩ := rv.get hv
      have : its[i]? = some x := by simpa using e
      rw [hu] at this; cases this
      exact ⟨v, hv, ru⟩
    · have : b = it ∨ b = p := by simpa using hb
      rcases this with z | z
      · exact .inl z
      · exact .inr fun c f => by rw [z]; exact sqT_ne I a f
  | sg z =>
    cases (show vs = zV z from a)
    have D := Draws.text (prog := X.prog) (w := X.w) hh it z t
    rw [show z.cps.size = (zV z).length by simp [zV]] at D
    refine ⟨_, _, _, D, st, fun j h y => y, fun x e hi => ?_, by simp, fun b hb => .inl (by simpa using hb)⟩
    obtain ⟨c, u, hc, rfl⟩ := e
    refine ⟨.str ⟨#[c]⟩, ?_, u, rfl⟩
    unfold zV
    rw [List.getElem?_map, Array.getElem?_toList, hc]; rfl
end
/-! ### enumerate -/
def ItE (K : PySem.W.Frag) (sc : Sc) (vs : List V) : It :=
  ⟨fun i H => sc.has K H vs ∧ i < vs.length, fun i H v H' => ∃ T x, v = .ref T ∧ H T = none ∧ H' = upd H T (.tup [.int (i : Nat), x]) ∧ vs[i]? = some x, fun i H => sc.has K H vs ∧ vs.length ≤ i⟩
theorem two_ok {P : Program} {w : World} {H : Hp} {h : Heap} {T : Addr} {x y : V} {u v : Value} {o : Obj} (e : h.get? T = some o) (ec : o.cls = .type "tuple") (ed : o.data = .seq #[u, v]) (ru : RelV x u) (rv : RelV y v) : ObjOk P w H h T (.tup [x, y]) :=
  ⟨by show 2 ≤ sizeLine; decide, [u, v], .cons ru (.cons rv .nil), ⟨o, e, ec, _, ed⟩⟩
theorem turn_en {P : Program} {w : World} {K : PySem.W.Frag} {elts : List Expr} {kk : Nat} {tpos : Pos} {sc : Sc} {vs : List V} {t : Tok} {e it : Addr} :
    Turn P w K (.Tuple elts kk tpos) (ItE K sc vs) [e, it] e (fun i h => ((∃ old, IsEnum h e it (i : Nat) old) ∧ sc.st t it i h ∧ e ≠ it) ∧ i ≤ vs.length) where
  mem := by simp
  obj := fun i h st b hb => by
    obtain ⟨⟨⟨old, he⟩, hi, _⟩, _⟩ := st
    rcases (by simpa using hb : b = e ∨ b = it) with z | z
    · rw [z]; exact ⟨_, he, fun v q => nomatch q⟩
    · rw [z]; exact Sc.obj hi
  keep := fun i h h' st k => let ⟨⟨⟨old, he⟩, hi, hne⟩, hz⟩ := st; ⟨⟨⟨old, k e (by simp) _ he⟩, Sc.keep hi fun o q => k it (by simp) o q, hne⟩, hz⟩
  item := by
    intro X hP hw hK hc i pins s σ H E I hf st hg
    cases hP; cases hw; cases hK
    obtain ⟨⟨⟨old, he⟩, hit, hne⟩, _⟩ := st
    obtain ⟨ha, hi⟩ := hg
    have fe := hf e (by simp)
    obtain ⟨fp, P, St, D, s0, ss, pp, mi, ap⟩ := Sc.draw I hc ha (hf it (by simp)) hit
    have ne : e ∉ fp := fun z => by
      rcases ap e z with y | y
      · exact hne y
      · exact y e fe rfl
    have le : e < s.heap.objs.size := Heap.lt_size he
    have li : it < s.heap.objs.size := by obtain ⟨o, q, _⟩ := Sc.obj hit; exact Heap.lt_size q
    refine wpAny_pyNext_enum_itemD D he s0 hi hne ne fun u m tk pu ho sn hT hz kp => ⟨_, rfl, wpAny_letOwnedTupleGo_enum ho fun m2 he2 sb => ?_⟩
    obtain ⟨v, hv, ru⟩ := pp u pu hi
    have I2 := I.turnedNew (t' := tk + 1) (h' := m2) (T := s.heap.objs.size) (ob := .tup [.int (i : Nat), v]) (ch := [e, it]) (fun b ob hb q => (sb.2 b fun y => hb (by simp [y])).trans (kp b ob (fun y => hb (by simp [y])) (fun y => hb (by simp [y])) q)) hf (Nat.le_refl _)
      (two_ok ((sb.2 _ (Nat.ne_of_gt le)).trans hT) rfl rfl ⟨_, rfl⟩ ru)
    refine ⟨.ref s.heap.objs.size, _, I2, rfl, ⟨_, v, rfl, I.hok.fresh (Nat.le_refl _), rfl, hv⟩, ⟨⟨⟨u, by simpa using he2⟩, Sc.keep (ss _ _ sn) fun o q => (sb.2 it (Ne.symm hne)).trans q, hne⟩, hi⟩, fun b hb => ?_⟩
    have lb : b < s.heap.objs.size := by
      rcases (by simpa using hb : b = e ∨ b = it) with z | z
      · rw [z]; exact le
      · rw [z]; exact li
    rw [upd_ne (Nat.ne_of_lt lb)]
    exact (hf b hb).1
  done := by
    intro X hP hw hK hc i pins s σ H E I hf st hg
    cases hP; cases hw; cases hK
    obtain ⟨⟨⟨old, he⟩, hit, hne⟩, hz⟩ := st
    obtain ⟨ha, hi⟩ := hg
    obtain ⟨f0, f1, f2, f3, f4, f5⟩ := hf it (by simp)
    obtain ⟨fp, P, St, D, s0, ss, pp, mi, ap⟩ := Sc.draw I hc ha (hf it (by simp)) hit
    have e1 : i = vs.length := by omega
    rw [e1] at s0
    exact wpAny_pyNext_enum_endD D he s0 fun m eb => ⟨rfl, I.turned (t' := s.toks) (fun b o hb q => eb b o hb q) f0 f1 f3 f4 f5⟩
  self := fun A i s Q E st h => let ⟨⟨⟨_, he⟩, _⟩, _⟩ := st; wpAny_pyIter_enum he h
def iEn (K : PySem.W.Frag) (ta : TA) : TI := fun σ H R => ta σ H fun ws H1 => ∃ sc vs, ws = [Sc.src sc] ∧ sc.has K H1 vs ∧ R (ItE K sc vs) H1
theorem pi_en {X : Cx} {e : Expr} {ta : TA} {p pos tpos : Pos} {elts : List Expr} {kk : Nat} (hg : Gl X "enumerate") (hm : X.mg "enumerate" = none) (ha : PA X [e] ta) (hs : starEach [e] X.env = [(false, eval e X.env)] := by rfl) :
    PI X (.Tuple elts kk tpos) (.Call (.Name "enumerate" p) [e] [] pos) (iEn X.K ta) := ⟨fun pins s σ H R I h => by
  refine Call_ (ld_blt I hg hm boot_enumerate (PyProof.Rows.callWith_type1 (thn (ha.run pos pins s σ H _ I h) fun us s1 q1 => ?_) hs rfl))
  obtain ⟨ws, H1, I1, r1, sc, vs, ew, hq, q⟩ := q1
  subst ew
  obtain ⟨u, eu, ru⟩ := r1.one
  subst eu
  obtain ⟨t, G, B, hG⟩ := Sc.begin I1 ru hq
  refine en_call B hG fun m he ho kp => wpAny_pyIter_enum he ?_
  have I2 := I1.kept (h' := m) (t' := s1.toks) kp
  have ge : ∀ b ∈ [s1.heap.objs.size + 1, s1.heap.objs.size], s1.heap.objs.size ≤ b := fun b hb => by
    simp at hb
    omega
  exact ⟨s1.heap.objs.size + 1, [s1.heap.objs.size + 1, s1.heap.objs.size], _, _, H1, rfl, I2, turn_en (t := t), ⟨⟨⟨.none, he⟩, Sc.zero ho, Nat.succ_ne_self _⟩, Nat.zero_le _⟩, fun b hb => I1.fpOk (ge b hb) (I1.hok.fresh (ge b hb)), q⟩⟩
section
variable {K : PySem.W.Frag} {Wx : WX} {H H' H1 : Hp} {O Oo W W1 : List Addr} {env : Env} {ta tb : TA} {te tf : TE}
theorem signs_rvs : ∀ cs : List Nat, Rvs K H O (cs.map fun c => .str ⟨#[c]⟩) (cs.map fun c => .str ⟨#[c]⟩)
  | [] => rfl
  | c :: cs => ⟨_, _, rfl, rfl, signs_rvs cs⟩
theorem Rv.sc {d : D} {v : V} {ds : List D} (r : Rv K H (Oo ++ W) d v) (h : iterD d = some ds) : ∃ sc vs, v = Sc.src sc ∧ (∀ H' W', Lv H W H' W' → sc.has K H' vs) ∧ Rvs K H (Oo ++ W) ds vs := by
  cases r.src h with
  | lst s r _ e => rw [items_iter e] at h; cases h; exact ⟨.li _, _, rfl, s, r⟩
  | tup s r _ e => rw [items_iter e] at h; cases h; exact ⟨.tu _, _, rfl, s, r⟩
  | str => cases h; exact ⟨.sg _, _, rfl, fun _ _ _ => rfl, signs_rvs _⟩
/-- (k, d), (k + 1, d'), .. -/
def enD : Nat → List D → List D
  | _, [] => []
  | k, d :: ds => .tup [.int (k : Nat), d] :: enD (k + 1) ds
theorem enD_get : ∀ {ds : List D} {k i : Nat}, (enD k ds)[i]? = (ds[i]?).map fun d => .tup [.int ((k + i : Nat) : Int), d]
  | [], _, _ => rfl
  | d :: ds, k, 0 => rfl
  | d :: ds, k, i + 1 => by
    show (enD (k + 1) ds)[i]? = (ds[i]?).map _
    rw [enD_get]
    have : k + 1 + i = k + (i + 1) := by omega
    rw [this]
theorem enD_len : ∀ {ds : List D} {k : Nat}, (enD k ds).length = ds.length
  | [], _ => rfl
  | d :: ds, k => congrArg (· + 1) enD_len
theorem pair_rv {T : Addr} {x y : V} {a b : D} (hT : H T = none) (dm : ∀ p ∈ O, Mut (H p)) (ra : Rv K H O a x) (rb : Rv K H O b y) : Evl.Ex H (upd H T (.tup [x, y])) ∧ Rv K (upd H T (.tup [x, y])) O (.tup [a, b]) (.ref T) := by
  have ex : Evl.Ex H (upd H T (.tup [x, y])) := Evl.Ex.new hT
  refine ⟨ex, T, [x, y], rfl, .inl ⟨fun z => ?_, .inl upd_same⟩, x, _, rfl, ra.lv (Lv.ex ex), y, _, rfl, rb.lv (Lv.ex ex), rfl⟩
  obtain ⟨o, e⟩ := Mut.ex (dm T z)
  rw [hT] at e; cases e
theorem it_en {sc : Sc} {vs : List V} {ds : List D} (s : ∀ H' W', Lv H W H' W' → sc.has K H' vs) (r : Rvs K H (Oo ++ W) ds vs) : ItR K (ItE K sc vs) (enD 0 ds) Oo W H := fun H' W' l dm i => by
  have rs := r.lv (l.oo Oo)
  refine ⟨fun d hd => ?_, fun hi => ⟨s H' W' l, by rw [r.len]; rwa [enD_len] at hi⟩⟩
  rw [enD_get] at hd
  cases e : ds[i]? with
  | none => rw [e] at hd; cases hd
  | some d0 =>
    rw [e] at hd; cases hd
    have hi := (List.getElem?_eq_some_iff.mp e).1
    refine ⟨⟨s H' W' l, by rw [r.len]; exact hi⟩, fun x H2 ⟨T, y, ex, hT, eH, hy⟩ => ?_⟩
    subst ex eH
    have ry := rvs_ix rs e hy
    have p := pair_rv (O := Oo ++ W') (a := .int (i : Nat)) (x := .int (i : Nat)) hT dm rfl ry
    rw [Nat.zero_add]
    exact p
def iEnM (m : M (List D)) : M (List D) := m.bnd fun ds => fun env => match ds with
  | [d] => M.opt ((iterD d).map (enD 0)) env
  | _ => .stuck
theorem ii_en {m} (a : IAV K Wx ta m) : II K Wx (iEn K ta) (iEnM m) := fun Oo W σ H env R E q => by
  refine a Oo W σ H env _ E ((M.bnd_to q).mono (fun ds env1 q vs H1 W1 l1 E1 r1 => ?_) fun _ _ _ _ x => x)
  split at q
  · rename_i d
    obtain ⟨es, e, q⟩ := M.opt_to q
    obtain ⟨v, vs', rfl, r, e2⟩ := r1
    cases (show vs' = [] from e2)
    cases e3 : iterD d with
    | none => rw [e3] at e; cases e
    | some zs =>
      rw [e3] at e; cases e
      obtain ⟨sc, ws, ev, s, rs⟩ := r.sc e3
      subst ev
      exact ⟨sc, ws, rfl, s H1 W1 (Lv.refl _ _), q _ H1 W1 l1 E1 (it_en s rs)⟩
  · exact q.elim
end
end KM
/-! list(range(..)), tuple(range(..)); evaluation of what M10 and M11 have. -/
namespace KM
open PySem PySem.Spec PyProof.Rows L2 Evl KP
section
variable {K : PySem.W.Frag} {Wx : WX} {H H' H1 : Hp} {O Oo W W1 : List Addr} {env : Env} {tr : L2.St → Hp → (Int → Int → Hp → Prop) → Prop}
def rgOkB (a b : Int) : Bool := in62 a && (in62 b && decide ((b - a).toNat ≤ 16777216))
theorem rgOkB_of {a b : Int} (h : rgOkB a b = true) : RgOk a b := by
  unfold rgOkB at h
  rw [Bool.and_eq_true, Bool.and_eq_true] at h
  exact ⟨(in62_of h.1).1, (in62_of h.1).2, (in62_of h.2.1).1, (in62_of h.2.1).2, by simpa using h.2.2⟩
theorem rg_rvs (a b : Int) : Rvs K H O (rgD a (b - a).toNat) (rgV a b) := by
  unfold rgD rgV
  generalize List.range (b - a).toNat = l
  induction l with
  | nil => rfl
  | cons n l ih => exact ⟨.int (a + (n : Int)), _, rfl, rfl, ih⟩
def mLstRg (m : M (Int × Int)) : M T := m.bnd fun x => fun env => if rgOkB x.1 x.2 = true then .ok (.lst (leafs (rgD x.1 (x.2 - x.1).toNat))) env else .stuck
theorem io_lstRg {m} (a : IRg K Wx tr m) : IO K Wx (tLstRg tr) (mLstRg m) := fun Oo W σ H env Q E q => by
  refine a Oo W σ H env _ E ((M.bnd_to q).mono (fun x env1 q H1 W1 l1 E1 => ?_) fun _ _ _ _ x => x)
  split at q
  · rename_i hz
    refine ⟨rgOkB_of hz, fun p hp => ?_⟩
    exact ansL (K := K) E1.domA hp (rg_rvs _ _) fun v H2 fp ex hf nd o => by
      obtain ⟨k1, k2, k3, k4⟩ := new_io E1 ex hf o
      exact q v H2 W1 fp (l1.trans k1) k2 nd k3 k4
  · exact q.elim
end
/-! evaluation -/
section
variable {α : Type} {env e : Env}
theorem x_seqL (ds : List D) : seqArg (.lst ds) = some ds := rfl
theorem x_seqT (ds : List D) : seqArg (.tup ds) = some ds := rfl
theorem x_count (a b : Str) : mCount a [.str b] = some (.val (.int (Txt.count a b))) := rfl
theorem x_starts (a b : Str) : mStarts a [.str b] = some (.val (.bl (Txt.startswith a b))) := rfl
theorem intsOf_ints : ∀ ns : List Int, intsOf (ns.map D.int) = some ns
  | [] => rfl
  | n :: ns => by
    show (intsOf (ns.map D.int)).map (n :: ·) = _
    rw [intsOf_ints ns]; rfl
theorem x_sumL (ns : List Int) : bSumI [.lst (ns.map D.int)] = some (.val (.int ns.sum)) := by
  show (intsOf (ns.map D.int)).map (fun ns => T.val (.int ns.sum)) = _
  rw [intsOf_ints]; rfl
theorem x_sortedL (ns : List Int) : bSorted [.lst (ns.map D.int)] = some (.lst (leafs ((isort ns).map D.int))) := by
  show (intsOf (ns.map D.int)).map _ = _
  rw [intsOf_ints]; rfl
theorem strsOf_strs : ∀ ns : List Str, strsOf (ns.map D.str) = some ns
  | [] => rfl
  | n :: ns => by
    show (strsOf (ns.map D.str)).map (n :: ·) = _
    rw [strsOf_strs ns]; rfl
theorem x_join (a : Str) (ys : List Str) (h : (ys.map (·.length)).sum + ys.length * a.length ≤ 16777216) : mJoin a [.lst (ys.map D.str)] = some (.val (.str (Txt.join a ys))) := by
  show ((strsOf (ys.map D.str)).bind fun ys => if (ys.map (·.length)).sum + ys.length * a.length ≤ 16777216 then some (T.val (.str (Txt.join a ys))) else none) = _
  rw [strsOf_strs]
  exact if_pos h
end
end KM
/-! list(zip(a, b)): the pairs that zip gives when the ones before are still held. -/
namespace PySem
open Sem (wp)
end PySem
/-! list(zip(a, b)): the loop. -/
namespace PySem
open Sem (wp)
end PySem
/-! list(zip(a, b)): the call. -/
namespace PySem
open Sem (wp)
end PySem
/-! list(zip(a, b)) as data. -/
namespace KM
open PySem PySem.Spec PyProof.Rows L2 Evl KP
section
variable {K : PySem.W.Frag} {Wx : WX} {H H' H1 : Hp} {O Oo W W1 : List Addr} {env : Env} {ta : TA}
def zipD (xs ys : List D) : List D := List.zipWith (fun a b => D.tup [a, b]) xs ys
def zipT (ds : List D) : Option T := match ds with
  | [a, b] => (iterD a).bind fun xs => (iterD b).bind fun ys => if min xs.length ys.length ≤ 16777216 then some (.lst (leafs (zipD xs ys))) else none
  | _ => none
theorem x_zipT {a b : D} {xs ys : List D} (ha : iterD a = some xs) (hb : iterD b = some ys) (h : min xs.length ys.length ≤ 16777216) : zipT [a, b] = some (.lst (leafs (zipD xs ys))) := by
  unfold zipT
  simp only [ha, hb, Option.bind_some, h, if_true]
end
end KM
/-! zip walked, over any two sources. -/
namespace KM
open PySem PySem.Spec PyProof.Rows L2 Evl KP
section
variable {K : PySem.W.Frag} {Wx : WX} {H H' H1 : Hp} {O Oo W W1 : List Addr} {env : Env} {ta : TA}
def zpL (ds : List D) : Option (List D) := match ds with
  | [a, b] => (iterD a).bind fun xs => (iterD b).map fun ys => zipD xs ys
  | _ => none
end
end KM
/-! Loops of the mirror by invariants; the laws' drawers. -/
namespace KM
open PySem PySem.Spec PyProof.Rows L2 Evl KP
/-! ### drawers -/
structure Dr where
  a : Int
  b : Int
  c : Int
structure Dr.Ok (x : Dr) : Prop where
  a0 : 0 ≤ x.a
  b0 : 0 ≤ x.b
  b1 : x.b < 2147483647
  c0 : 0 ≤ x.c
def dn (x : Dr) (m : Int) : Dr := if 1 < x.a then ⟨x.a / m, x.b, x.c⟩ else ⟨x.a, x.b, x.c + 1⟩
def dis (ns : List Int) : List D := ns.map D.int
theorem dis_len (ns : List Int) : (dis ns).length = ns.length := by unfold dis; simp
end KM
/-! is, isinstance of data. -/
namespace KM
open PySem PySem.Spec PyProof.Rows L2 Evl KP
theorem x_isD_nn : isD .non .non = some true := rfl
theorem x_isD_nb (c : Bool) : isD .non (.bl c) = some false := rfl
theorem x_isD_bn (b : Bool) : isD (.bl b) .non = some false := rfl
theorem x_isD_bb (b c : Bool) : isD (.bl c) (.bl b) = some (decide (c = b)) := rfl
theorem x_isD_in (i : Int) : isD (.int i) .non = some false := rfl
theorem x_isD_ib (i : Int) (c : Bool) : isD (.int i) (.bl c) = some false := rfl
theorem x_isD_sn (z : Str) : isD (.str z) .non = some false := rfl
theorem x_isD_sb (z : Str) (c : Bool) : isD (.str z) (.bl c) = some false := rfl
theorem x_isD_ln (ds : List D) : isD (.lst ds) .non = some false := rfl
theorem x_isD_lb (ds : List D) (c : Bool) : isD (.lst ds) (.bl c) = some false := rfl
theorem x_isD_tn (ds : List D) : isD (.tup ds) .non = some false := rfl
theorem x_isD_tb (ds : List D) (c : Bool) : isD (.tup ds) (.bl c) = some false := rfl
theorem x_isi_n_int : bIsi [.non, .ty "int"] = some (.val (.bl false)) := by kernel_rfl
theorem x_isi_n_bool : bIsi [.non, .ty "bool"] = some (.val (.bl false)) := by kernel_rfl
theorem x_isi_n_str : bIsi [.non, .ty "str"] = some (.val (.bl false)) := by kernel_rfl
theorem x_isi_n_list : bIsi [.non, .ty "list"] = some (.val (.bl false)) := by kernel_rfl
theorem x_isi_n_tuple : bIsi [.non, .ty "tuple"] = some (.val (.bl false)) := by kernel_rfl
theorem x_isi_b_int (b : Bool) : bIsi [(.bl b), .ty "int"] = some (.val (.bl true)) := by kernel_rfl
theorem x_isi_b_bool (b : Bool) : bIsi [(.bl b), .ty "bool"] = some (.val (.bl true)) := by kernel_rfl
theorem x_isi_b_str (b : Bool) : bIsi [(.bl b), .ty "str"] = some (.val (.bl false)) := by kernel_rfl
theorem x_isi_b_list (b : Bool) : bIsi [(.bl b), .ty "list"] = some (.val (.bl false)) := by kernel_rfl
theorem x_isi_b_tuple (b : Bool) : bIsi [(.bl b), .ty "tuple"] = some (.val (.bl false)) := by kernel_rfl
theorem x_isi_i_int (i : Int) : bIsi [(.int i), .ty "int"] = some (.val (.bl true)) := by kernel_rfl
theorem x_isi_i_bool (i : Int) : bIsi [(.int i), .ty "bool"] = some (.val (.bl false)) := by kernel_rfl
theorem x_isi_i_str (i : Int) : bIsi [(.int i), .ty "str"] = some (.val (.bl false)) := by kernel_rfl
theorem x_isi_i_list (i : Int) : bIsi [(.int i), .ty "list"] = some (.val (.bl false)) := by kernel_rfl
theorem x_isi_i_tuple (i : Int) : bIsi [(.int i), .ty "tuple"] = some (.val (.bl false)) := by kernel_rfl
theorem x_isi_s_int (z : Str) : bIsi [(.str z), .ty "int"] = some (.val (.bl false)) := by kernel_rfl
theorem x_isi_s_bool (z : Str) : bIsi [(.str z), .ty "bool"] = some (.val (.bl false)) := by kernel_rfl
theorem x_isi_s_str (z : Str) : bIsi [(.str z), .ty "str"] = some (.val (.bl true)) := by kernel_rfl
theorem x_isi_s_list (z : Str) : bIsi [(.str z), .ty "list"] = some (.val (.bl false)) := by kernel_rfl
theorem x_isi_s_tuple (z : Str) : bIsi [(.str z), .ty "tuple"] = some (.val (.bl false)) := by kernel_rfl
theorem x_isi_l_int (ds : List D) : bIsi [(.lst ds), .ty "int"] = some (.val (.bl false)) := by kernel_rfl
theorem x_isi_l_bool (ds : List D) : bIsi [(.lst ds), .ty "bool"] = some (.val (.bl false)) := by kernel_rfl
theorem x_isi_l_str (ds : List D) : bIsi [(.lst ds), .ty "str"] = some (.val (.bl false)) := by kernel_rfl
theorem x_isi_l_list (ds : List D) : bIsi [(.lst ds), .ty "list"] = some (.val (.bl true)) := by kernel_rfl
theorem x_isi_l_tuple (ds : List D) : bIsi [(.lst ds), .ty "tuple"] = some (.val (.bl false)) := by kernel_rfl
theorem x_isi_t_int (ds : List D) : bIsi [(.tup ds), .ty "int"] = some (.val (.bl false)) := by kernel_rfl
theorem x_isi_t_bool (ds : List D) : bIsi [(.tup ds), .ty "bool"] = some (.val (.bl false)) := by kernel_rfl
theorem x_isi_t_str (ds : List D) : bIsi [(.tup ds), .ty "str"] = some (.val (.bl false)) := by kernel_rfl
theorem x_isi_t_list (ds : List D) : bIsi [(.tup ds), .ty "list"] = some (.val (.bl false)) := by kernel_rfl
theorem x_isi_t_tuple (ds : List D) : bIsi [(.tup ds), .ty "tuple"] = some (.val (.bl true)) := by kernel_rfl
theorem x_truN : truD .non = some false := rfl
theorem x_truB (b : Bool) : truD (.bl b) = some b := rfl
theorem x_truI (i : Int) : truD (.int i) = some (i != 0) := rfl
theorem x_truL (ds : List D) : truD (.lst ds) = some (!ds.isEmpty) := rfl
theorem x_truF (ds : List D) : truD (.fro ds) = some (!ds.isEmpty) := rfl
theorem x_truT (ds : List D) : truD (.tup ds) = some (!ds.isEmpty) := rfl
theorem x_truS {z : Str} (h : z.length ≤ 16777216) : truD (.str z) = some ((z.length : Int) != 0) := if_pos h
theorem x_in62 {n : Int} (h1 : -4611686018427387904 ≤ n) (h2 : n < 4611686018427387904) : in62 n = true := by
  unfold in62
  rw [Bool.and_eq_true]
  exact ⟨decide_eq_true (by omega), decide_eq_true (by omega)⟩
theorem x_zipT_LL {xs ys : List D} (h : min xs.length ys.length ≤ 16777216) : zipT [.lst xs, .lst ys] = some (.lst (leafs (zipD xs ys))) := x_zipT rfl rfl h
theorem x_zpL_LL (xs ys : List D) : zpL [.lst xs, .lst ys] = some (zipD xs ys) := rfl
theorem x_zipT_LT {xs ys : List D} (h : min xs.length ys.length ≤ 16777216) : zipT [.lst xs, .tup ys] = some (.lst (leafs (zipD xs ys))) := x_zipT rfl rfl h
theorem x_zpL_LT (xs ys : List D) : zpL [.lst xs, .tup ys] = some (zipD xs ys) := rfl
theorem x_zipT_TL {xs ys : List D} (h : min xs.length ys.length ≤ 16777216) : zipT [.tup xs, .lst ys] = some (.lst (leafs (zipD xs ys))) := x_zipT rfl rfl h
theorem x_zpL_TL (xs ys : List D) : zpL [.tup xs, .lst ys] = some (zipD xs ys) := rfl
theorem x_zipT_TT {xs ys : List D} (h : min xs.length ys.length ≤ 16777216) : zipT [.tup xs, .tup ys] = some (.lst (leafs (zipD xs ys))) := x_zipT rfl rfl h
theorem x_zpL_TT (xs ys : List D) : zpL [.tup xs, .tup ys] = some (zipD xs ys) := rfl
end KM
/-! == of lists and tuples of ints. -/
namespace KM
open PySem PySem.Spec PyProof.Rows L2 Evl KP
theorem eqv_ints : ∀ a b : List Int, PyData.eqvAll (toPys (dis a)) (toPys (dis b)) = decide (a = b)
  | [], [] => by show PyData.eqvAll [] [] = _; rw [PyData.eqvAll]; rfl
  | [], _ :: _ => by show PyData.eqvAll [] (_ :: _) = _; rw [PyData.eqvAll]; rfl
  | _ :: _, [] => by show PyData.eqvAll (_ :: _) [] = _; rw [PyData.eqvAll]; rfl
  | x :: a, y :: b => by
    show PyData.eqvAll (PyData.int x :: toPys (dis a)) (PyData.int y :: toPys (dis b)) = _
    rw [PyData.eqvAll, eqv_ints a b, PyData.eqv]
    by_cases h : x = y <;> by_cases h2 : a = b <;> simp [h, h2]
theorem isPys_ints : ∀ a : List Int, isPys (dis a) = true
  | [] => rfl
  | x :: a => isPys_ints a
theorem can_ints : ∀ a : List Int, PyData.canLayAll0 (toPys (dis a)) = true
  | [] => by show PyData.canLayAll0 [] = true; rw [PyData.canLayAll0]
  | x :: a => by
    show PyData.canLayAll0 (PyData.int x :: toPys (dis a)) = true
    rw [PyData.canLayAll0, can_ints a, PyData.canLay0]; rfl
theorem depth_ints : ∀ a : List Int, PyData.depthAll (toPys (dis a)) = 0
  | [] => by show PyData.depthAll [] = 0; rw [PyData.depthAll]
  | x :: a => by
    show PyData.depthAll (PyData.int x :: toPys (dis a)) = 0
    rw [PyData.depthAll, depth_ints a, PyData.depth]; rfl
theorem eqOk_L (a : List Int) : eqOk (.lst (dis a)) = true := by
  show (isPys (dis a) && SeqAt.shaped (.list (toPys (dis a)))) = true
  unfold SeqAt.shaped
  rw [isPys_ints, PyData.canLay0, can_ints, PyData.depth, depth_ints]
  rfl
theorem eqOk_T (a : List Int) : eqOk (.tup (dis a)) = true := by
  show (isPys (dis a) && SeqAt.shaped (.tuple (toPys (dis a)))) = true
  unfold SeqAt.shaped
  rw [isPys_ints, PyData.canLay0, can_ints, PyData.depth, depth_ints]
  rfl
theorem x_eqIL (a b : List Int) : opEq false (.lst (dis a)) (.lst (dis b)) = some (.val (.bl (decide (a = b)))) := by
  show (if (eqOk (.lst (dis a)) && eqOk (.lst (dis b))) = true then some (T.val (.bl (PyData.eqv (.list (toPys (dis a))) (.list (toPys (dis b)))))) else none) = _
  rw [eqOk_L, eqOk_L, PyData.eqv, eqv_ints]; rfl
theorem x_eqIT (a b : List Int) : opEq false (.tup (dis a)) (.tup (dis b)) = some (.val (.bl (decide (a = b)))) := by
  show (if (eqOk (.tup (dis a)) && eqOk (.tup (dis b))) = true then some (T.val (.bl (PyData.eqv (.tuple (toPys (dis a))) (.tuple (toPys (dis b)))))) else none) = _
  rw [eqOk_T, eqOk_T, PyData.eqv, eqv_ints]; rfl
end KM
/-! rows of ints. -/
namespace KM
open PySem PySem.Spec PyProof.Rows L2 Evl KP
theorem dis_get (a : List Int) (k : Nat) : (dis a)[k]? = (a[k]?).map D.int := List.getElem?_map
theorem dis_drop (a : List Int) (k : Nat) : dis (a.drop k) = (dis a).drop k := List.map_drop
theorem dis_take (a : List Int) (k : Nat) : dis (a.take k) = (dis a).take k := List.map_take
def cutI (ns : List Int) (lo hi : Option Int) : List Int := (ns.drop (HT.sIx ns.length 0 lo)).take (HT.sIx ns.length ns.length hi - HT.sIx ns.length 0 lo)
theorem x_cut (ns : List Int) (lo hi : Option Int) : cutD (dis ns) lo hi = dis (cutI ns lo hi) := by
  unfold cutD cutI
  rw [dis_len, dis_take, dis_drop]
end KM
/-! a call whose first argument is new. -/
namespace KM
open PySem PySem.Spec PyProof.Rows L2 Evl KP
section
variable {K : PySem.W.Frag} {Wx : WX} {Fz : List Nat} {H H' H1 H2 : Hp} {O O' Oo W W' W1 W2 fp : List Addr} {σ σ' ρ : L2.St} {env env' as : Env} {te ta tb tc : TE} {tt tu : TT} {tas : TA} {ts us : TS} {A : Ends}
def callT (mf : MF) (m0 : M T) (a : M (List Ob)) : M T := m0.bnd fun t0 => a.bnd fun os => fun env => match takeAs os env with
  | none => .stuck
  | some x => match mf (t0 :: x.2) with
    | .ok t outs => .ok t (giveAs os x.1 (outs.drop 1))
    | .exc c ns ds outs => .exc c ns ds (giveAs os x.1 (outs.drop 1))
    | .stuck => .stuck
theorem io_callT {n : Nat} {mf : MF} {m0 m} (b : IO K Wx ta m0) (a : IA K Wx tas m) (hlen : ∀ env os e, m env = .ok os e → os.length = n) : IO K Wx (tCalX (spM K (n + 1) mf) Wx (tCons ta tas)) (callT mf m0 m) := fun Oo W σ H env Q E q => by
  refine b Oo W σ H env _ E ((M.bnd_to q).mono (fun t0 e0 hq v0 H0 W0 fp0 l0 E0 nd0 nf0 o0 => ?_) fun _ _ _ _ x => x)
  refine a (Oo ++ fp0) W0 σ H0 e0 _ E0 ?_
  have hq := M.bnd_to hq
  have nfW : ∀ p ∈ fp0, p ∉ W0 := fun p hp z => E0.dj p z (List.mem_append_right _ hp)
  cases zm : m e0 with
  | exc c ns ds e =>
    rw [zm] at hq
    intro dx H' W' l E x
    have s : ∀ p ∈ Oo ++ W', p ∈ Oo ++ fp0 ++ W' := fun p hp => by simp at hp ⊢; rcases hp with y | y <;> simp [y]
    refine hq dx H' W' ((l0.both l nfW).trans (Lv.less fun p hp => List.mem_append_left _ hp)) ⟨E.ce.lv (Lv.sub s) (fun _ _ => rfl), E.nd, fun p hp z => E.dj p hp (List.mem_append_left _ z), fun p hp => E.dom p (List.mem_append_left _ hp)⟩ ?_
    cases dx with
    | none => exact x
    | some a => obtain ⟨us, h1, h2, h3⟩ := x; exact ⟨us, h1, h2, h3.lv (Lv.sub s)⟩
  | stuck => rw [zm] at hq; exact hq
  | ok os e =>
    rw [zm] at hq
    intro vs H1 W1 l1 E1 r1
    have hos := hlen e0 os e zm
    have hq : Rs.To (match takeAs os e with
      | none => .stuck
      | some x => match mf (t0 :: x.2) with
        | .ok t outs => .ok t (giveAs os x.1 (outs.drop 1))
        | .exc c ns ds outs => .exc c ns ds (giveAs os x.1 (outs.drop 1))
        | .stuck => .stuck : Rs T) _ _ := hq
    cases zt : takeAs os e with
    | none => rw [zt] at hq; exact hq.elim
    | some x =>
      rw [zt] at hq
      dsimp only at hq
      have hl1 : e.length = σ.length := E1.len.symm
      have hx : x.1.length = σ.length := by rw [takeAs_len (ts := x.2) (show takeAs os e = some (x.1, x.2) by rw [zt])]; exact hl1
      obtain ⟨W2, p2, E2⟩ := ER.takes (ρ := []) (as := []) (ts := x.2) (e1 := x.1) (by simpa using E1) hl1 r1 (by rw [zt])
      rw [List.nil_append, List.nil_append] at E2
      obtain ⟨Wd, Wc, hW, c1, c2⟩ := Ce.split hx E2.ce
      subst hW
      have nd2 := List.nodup_append.mp E2.nd
      have dj0 : ∀ p ∈ fp0, p ∉ Wd ∧ p ∉ Wc := fun p hp => ⟨fun z => E2.dj p (List.mem_append_left _ z) (List.mem_append_right _ hp), fun z => E2.dj p (List.mem_append_right _ z) (List.mem_append_right _ hp)⟩
      have o1 : Ow K H1 (Oo ++ Wd ++ (fp0 ++ Wc)) t0 v0 fp0 := o0.lv ⟨fun p o hn h => l1.kp p o (fun z => hn (by simp [z])) h, fun p hp => by
          have : p ∈ Oo ∨ p ∈ fp0 ∨ p ∈ W1 := by
            have := p2.mem_iff (a := p)
            simp at hp this ⊢
            rcases hp with y | y | y | y
            · exact .inl y
            · exact .inr (.inr (this.mp (.inl y)))
            · exact .inr (.inl y)
            · exact .inr (.inr (this.mp (.inr y)))
          rcases this with y | y | y
          · exact .inl (by simp [y])
          · exact .inl (by simp [y])
          · exact (l1.out p y).imp (fun z => by simp [z]) id⟩ fun p hp => by
        obtain ⟨o, h⟩ := Mut.ex (o0.dom p hp)
        rw [h]; exact l1.kp p o (nfW p hp) h
      have Ec : ER K (Oo ++ Wd) (fp0 ++ Wc) ((v0 :: vs).map some) H1 ((t0 :: x.2).map some) := ⟨⟨v0, vs.map some, fp0, Wc, rfl, rfl, o1, c2.lv (Lv.sub fun p hp => by simp at hp ⊢; rcases hp with y | y | y | y <;> simp [y]) (fun _ _ => rfl)⟩,
        List.nodup_append.mpr ⟨nd0, nd2.2.1, fun p hp q hq z => (dj0 p hp).2 (z ▸ hq)⟩, fun p hp z => by
          rcases List.mem_append.mp hp with y | y
          · rcases List.mem_append.mp z with w | w
            · exact nf0 p y w
            · exact (dj0 p y).1 w
          · rcases List.mem_append.mp z with w | w
            · exact E2.dj p (List.mem_append_right _ y) (List.mem_append_left _ w)
            · exact nd2.2.2 p w p y rfl, fun p hp => by
          rcases List.mem_append.mp hp with y | y
          · exact E2.dom p (List.mem_append_left _ y)
          · exact c1.dom p y⟩
      refine ⟨by show vs.length + 1 = n + 1; rw [r1.len, hos], Oo ++ Wd, fp0 ++ Wc, t0 :: x.2, Ec, ?_⟩
      have perm : ∀ p, p ∈ W1 ↔ p ∈ Wd ∨ p ∈ Wc := fun p => by rw [← p2.mem_iff, List.mem_append]
      have l01 : Lv H W H1 (W1 ++ fp0) := l0.both l1 nfW
      have back : ∀ {H' : Hp} {W' fp : List Addr} {outs : List T}, Lv H1 (fp0 ++ Wc) H' (W' ++ fp) → ER K (Oo ++ Wd ++ fp) W' ((v0 :: vs).map some) H' (outs.map some) → (∀ p ∈ fp, p ∉ Oo ++ Wd) →
          ∃ W3, (∀ p ∈ W3, p ∈ Wd ++ W') ∧ ER K (Oo ++ fp) W3 σ H' (giveAs os x.1 (outs.drop 1)) := fun {H' W' fp outs} l Eo nf => by
        cases outs with
        | nil => have := Eo.len; simp at this
        | cons u outs =>
          obtain ⟨Wn, sn, Eo⟩ := ER.drop1 (σ := []) (env := []) rfl (show ER K (Oo ++ Wd ++ fp) W' ([] ++ (some v0 :: vs.map some)) H' ([] ++ (some u :: outs.map some)) from Eo)
          rw [List.nil_append, List.nil_append] at Eo
          have c1' : Ce K H' (Oo ++ fp ++ (Wd ++ Wn)) x.1 σ Wd := c1.lv ⟨fun p o hn h => l.kp p o (fun z => hn (by simp at z ⊢; rcases z with y | y <;> simp [y])) h, fun p hp => by
              simp at hp
              rcases hp with y | y | y | y
              · exact .inl (by simp [y])
              · exact (l.out p (by simp [y])).imp (fun z => by simp at z ⊢; rcases z with w | w <;> simp [w]) id
              · exact .inl (by simp [y])
              · exact (l.out p (by simp [sn p y])).imp (fun z => by simp at z ⊢; rcases z with w | w <;> simp [w]) id⟩ fun p hp => by
            obtain ⟨o, h⟩ := Mut.ex (c1.dom p hp)
            rw [h]; exact l.kp p o (fun z => by
              rcases List.mem_append.mp z with y | y
              · exact (dj0 p y).1 hp
              · exact nd2.2.2 p hp p y rfl) h
          have c2' : Ce K H' (Oo ++ fp ++ (Wd ++ Wn)) (outs.map some) (vs.map some) Wn := Eo.ce.lv (Lv.sub fun p hp => by simp at hp ⊢; rcases hp with y | y | y | y <;> simp [y]) fun _ _ => rfl
          have Ej : ER K (Oo ++ fp) (Wd ++ Wn) (σ ++ vs.map some) H' (x.1 ++ outs.map some) := ⟨Ce.app c1' c2', List.nodup_append.mpr ⟨nd2.1, Eo.nd, fun a ha b hb z => Eo.dj b hb (by rw [← z]; simp [ha])⟩, fun p hp z => by
              rcases List.mem_append.mp hp with y | y
              · rcases List.mem_append.mp z with w | w
                · exact E2.dj p (List.mem_append_left _ y) (List.mem_append_left _ w)
                · exact nf p w (List.mem_append_right _ y)
              · exact Eo.dj p y (by simp at z ⊢; rcases z with w | w <;> simp [w]), fun p hp => Eo.dom p (by simp at hp ⊢; rcases hp with w | w <;> simp [w])⟩
          have ho : outs.length = vs.length := by have := Eo.len; simp at this; exact this.symm
          obtain ⟨W3, s3, E3⟩ := ER.gives Ej hx ho r1 (takeAs_dead (ts := x.2) (show takeAs os e = some (x.1, x.2) by rw [zt])) (takeAs_nms (ts := x.2) (show takeAs os e = some (x.1, x.2) by rw [zt]))
          exact ⟨W3, fun p hp => by
            rcases List.mem_append.mp (s3 p hp) with y | y
            · exact List.mem_append_left _ y
            · exact List.mem_append_right _ (sn p y), E3⟩
      have lvb : ∀ {H' W' W3 fp}, Lv H1 (fp0 ++ Wc) H' (W' ++ fp) → (∀ p ∈ W3, p ∈ Wd ++ W') → Lv H1 (W1 ++ fp0) H' (W3 ++ fp) := fun {H' W' W3 fp} l s => ⟨fun p o hn h => l.kp p o (fun z => hn (by
          rcases List.mem_append.mp z with y | y
          · exact List.mem_append_right _ y
          · exact List.mem_append_left _ ((perm p).mpr (.inr y)))) h, fun p hp => by
        have fin : p ∈ fp0 ++ Wc ∨ H1 p = none → p ∈ W1 ++ fp0 ∨ H1 p = none := fun z => z.imp (fun z => by
          rcases List.mem_append.mp z with y | y
          · exact List.mem_append_right _ y
          · exact List.mem_append_left _ ((perm p).mpr (.inr y))) id
        rcases List.mem_append.mp hp with y | y
        · rcases List.mem_append.mp (s p y) with w | w
          · exact .inl (List.mem_append_left _ ((perm p).mpr (.inl w)))
          · exact fin (l.out p (List.mem_append_left _ w))
        · exact fin (l.out p (List.mem_append_right _ y))⟩
      cases zf : mf (t0 :: x.2) with
      | ok t outs =>
        rw [zf] at hq
        intro v H' W' fp l Eo nd nf o
        obtain ⟨W3, s3, E3⟩ := back l Eo nf
        refine hq v H' W3 fp (l01.trans (lvb l s3)) E3 nd (fun p hp z => nf p hp (List.mem_append_left _ z)) (o.lv (Lv.sub fun p hp => ?_) fun _ _ => rfl)
        simp at hp ⊢
        rcases hp with y | y | y
        · simp [y]
        · simp [y]
        · rcases List.mem_append.mp (s3 p y) with w | w <;> simp [w]
      | exc c ns ds outs =>
        rw [zf] at hq
        intro dx H' W' l Eo xr
        obtain ⟨W3, s3, E3⟩ := back (fp := []) (by simpa using l) (by simpa using Eo) (by simp)
        rw [List.append_nil] at E3
        refine hq dx H' W3 (l01.trans (by simpa using lvb (fp := []) (by simpa using l) s3)) E3 ?_
        have lv : Lv H' (Oo ++ Wd ++ W') H' (Oo ++ W3) := Lv.sub fun p hp => by
          simp at hp ⊢
          rcases hp with y | y
          · simp [y]
          · rcases List.mem_append.mp (s3 p y) with w | w <;> simp [w]
        cases dx with
        | none => exact xr
        | some a => obtain ⟨us, h1, h2, h3⟩ := xr; exact ⟨us, h1, h2, h3.lv lv⟩
      | stuck => rw [zf] at hq; exact hq.elim
def callTO (mf : MF) (t0 : T) (os : List Ob) : Option (Env × List T) → Rs T
  | none => .stuck
  | some x => (mf (t0 :: x.2)).rs fun outs => giveAs os x.1 (outs.drop 1)
theorem x_callT (mf : MF) (m0 : M T) (a : M (List Ob)) (env : Env) : callT mf m0 a env = (m0 env).bind fun t0 => a.bnd fun os e => callTO mf t0 os (takeAs os e) := by
  unfold callT
  rw [x_bnd]
  cases m0 env with
  | ok t0 e0 =>
    show ((a e0).bind _) = ((a e0).bind _)
    cases a e0 with
    | ok os e =>
      show (match takeAs os e with | none => _ | some x => _) = callTO mf t0 os (takeAs os e)
      unfold callTO
      cases takeAs os e with
      | none => rfl
      | some x => dsimp only; cases mf (t0 :: x.2) <;> rfl
    | _ => rfl
  | _ => rfl
theorem x_callTO (mf : MF) (t0 : T) (os : List Ob) (e : Env) (ts : List T) : callTO mf t0 os (some (e, ts)) = (mf (t0 :: ts)).rs fun outs => giveAs os e (outs.drop 1) := rfl
end
end KM
/-! Own exceptions as values: made, asked for class and attributes. -/
namespace KM
open PySem PySem.Spec PySem.Calls PyProof.Rows L2 Evl KP
/-! ### made -/
end KM
/-! Own exceptions as values in the mirror. -/
namespace KM
open PySem PySem.Spec PySem.Calls PyProof.Rows L2 Evl KP
/-! ### the class's own facts -/
/-! ### the table of the classes -/
/-- an exception's class: the own classes above it (itself too), the built-in ones, its attributes -/
structure CE1 where
  nm : Str
  up : List Str
  bt : List String
  at_ : List Str
section
variable {K : PySem.W.Frag} {Wx : WX} {H H' H1 H2 : Hp} {O O' Oo W W' W1 W2 fp : List Addr} {σ : L2.St} {env env' : Env} {te ta tb tc : TE} {tas : TA} {ct : List CE1} {us : List Str} {bs : List String}
/-! ### an attribute -/
/-! ### made -/
/-- what __init__ promises: the attributes, in order -/
def spI (K : PySem.W.Frag) (c : Str) (ns : List Str) : Sp := fun vs H Q E => ∃ a ws, vs = .ref a :: ws ∧ ws.length = ns.length ∧ H a = some (exo a (He.ga K c) none) ∧
  ∀ d H', H d = none → d ≠ a → H' a = some (exo a (He.ga K c) (some d)) → H' d = some (exd d (ns.zip ws).reverse) → (∀ b, b ≠ a → b ≠ d → H' b = H b) → Q .non H'
theorem Rvs.rev : ∀ {ds : List D} {vs : List V}, Rvs K H O ds vs → Rvs K H O ds.reverse vs.reverse
  | [], _, e => by cases (show _ = [] from e); exact rfl
  | d :: ds, _, ⟨v, vs', e, a, r⟩ => by
    subst e
    rw [List.reverse_cons, List.reverse_cons]
    exact Rvs.app (Rvs.rev r) ⟨v, [], rfl, a, rfl⟩
/-! ### __init__: self.x = x; .. -/
end
end KM
/-! Own exceptions: their making in one piece; evaluation. -/
namespace KM
open PySem PySem.Spec PySem.Calls PyProof.Rows L2 Evl KP
structure MkE (P : Program) (w : World) (K : PySem.W.Frag) (mg : Str → Option Value) (base : Heap) (c : Str) (ns ps : List Str) : Prop where
  ex : ∃ fI fd, OexC K (He.ga K c) ∧ PySem.W.findIn K (.ref (He.ga K c)) "__init__" = some (some (.ref fI)) ∧ PySem.W.typeIn K (.ref fI) = some (.type "function") ∧ FnOk P w K mg base (L2.CX P w) 1 fI fd ps (spI K c ns) ∧ Binds K fd ps []
theorem MkE.mk' {P : Program} {w : World} {K : PySem.W.Frag} {mg : Str → Option Value} {base : Heap} {c : Str} {ns ps : List Str} {fd : FuncData} (T : OexC K (He.ga K c)) (m : Meth K (He.ga K c) "__init__" (He.ma K (He.ga K c) "__init__"))
    (F : FnOk P w K mg base (L2.CX P w) 1 (He.ma K (He.ga K c) "__init__") fd ps (spI K c ns)) (b : Binds K fd ps []) : MkE P w K mg base c ns ps :=
  ⟨_, fd, T, m.at_, by have := m.fn; unfold PySem.W.isFn at this; simpa using this, F, b⟩
end KM
/-! Instances: made by their __init__, their attributes stored. -/
namespace KM
open PySem PySem.Spec PySem.Calls PyProof.Rows L2 Evl KP
section
variable {K : PySem.W.Frag} {Wx : WX} {Fz : List Nat} {H H' H1 H2 : Hp} {O O' Oo W W' W1 W2 fp : List Addr} {σ : L2.St} {env env' : KM.Env} {te ta tb tc : TE} {tas : TA}
/-! ### self.f = e -/
/-! ### C(e, ..) -/
theorem Ce.vals : ∀ {ds : List D} {vs : List V}, Rvs K H O ds vs → Ce K H O ((ds.map T.val).map some) (vs.map some) []
  | [], _, e => by cases (show _ = [] from e); exact ⟨rfl, rfl⟩
  | d :: ds, _, ⟨v, vs', e, a, r⟩ => by subst e; exact ⟨v, _, [], [], rfl, rfl, ⟨rfl, a⟩, Ce.vals r⟩
end
end KM
/-! Instances: isinstance, an own ==; bool(..). -/
namespace KM
open PySem PySem.Spec PySem.Calls PyProof.Rows L2 Evl KP
/-! ### isinstance -/
/-- own classes that are no exceptions: a class, the own ones above it (itself too) -/
abbrev CO : Type := List (Str × List Str)
section
variable {K : PySem.W.Frag} {Wx : WX} {H H' H1 H2 : Hp} {O O' Oo W W' W1 W2 fp : List Addr} {σ : L2.St} {env env' : KM.Env} {te ta tb tc : TE} {tas : TA} {co : CO} {us : List Str} {tn : List String}
/-! ### bool(..) -/
def bBool : List D → Option T
  | [.bl b] => some (.val (.bl b))
  | [.int i] => some (.val (.bl (i != 0)))
  | _ => none
/-! ### an own == -/
end
/-! ### the making in one piece -/
/-! ### evaluation -/
theorem x_boolB (b : Bool) : bBool [.bl b] = some (.val (.bl b)) := rfl
theorem x_boolI (i : Int) : bBool [.int i] = some (.val (.bl (i != 0))) := rfl
end KM
/-! Evaluation: attributes of instances; == of rows of ints. -/
namespace KM
open PySem PySem.Spec PyProof.Rows L2 Evl KP
/-! ### == of tuples of tuples of ints -/
def dit (A : List (List Int)) : List D := A.map fun a => .tup (dis a)
theorem dit_len (A : List (List Int)) : (dit A).length = A.length := List.length_map _
theorem eqv_dit : ∀ a b : List (List Int), PyData.eqvAll (toPys (dit a)) (toPys (dit b)) = decide (a = b)
  | [], [] => by show PyData.eqvAll [] [] = _; rw [PyData.eqvAll]; rfl
  | [], _ :: _ => by show PyData.eqvAll [] (_ :: _) = _; rw [PyData.eqvAll]; rfl
  | _ :: _, [] => by show PyData.eqvAll (_ :: _) [] = _; rw [PyData.eqvAll]; rfl
  | x :: a, y :: b => by
    show PyData.eqvAll (PyData.tuple (toPys (dis x)) :: toPys (dit a)) (PyData.tuple (toPys (dis y)) :: toPys (dit b)) = _
    rw [PyData.eqvAll, eqv_dit a b, PyData.eqv, eqv_ints]
    by_cases h : x = y <;> by_cases h2 : a = b <;> simp [h, h2]
theorem isPys_dit : ∀ a : List (List Int), isPys (dit a) = true
  | [] => rfl
  | x :: a => by
    show (isPys (dis x) && isPys (dit a)) = true
    rw [isPys_ints, isPys_dit a]; rfl
theorem can_dit : ∀ a : List (List Int), PyData.canLayAll0 (toPys (dit a)) = true
  | [] => by show PyData.canLayAll0 [] = true; rw [PyData.canLayAll0]
  | x :: a => by
    show PyData.canLayAll0 (PyData.tuple (toPys (dis x)) :: toPys (dit a)) = true
    rw [PyData.canLayAll0, can_dit a, PyData.canLay0, can_ints]; rfl
theorem depth_dit : ∀ a : List (List Int), PyData.depthAll (toPys (dit a)) ≤ 1
  | [] => by show PyData.depthAll [] ≤ 1; rw [PyData.depthAll]; omega
  | x :: a => by
    show PyData.depthAll (PyData.tuple (toPys (dis x)) :: toPys (dit a)) ≤ 1
    have := depth_dit a
    rw [PyData.depthAll, PyData.depth, depth_ints]
    omega
theorem eqOk_R (a : List (List Int)) : eqOk (.tup (dit a)) = true := by
  show (isPys (dit a) && SeqAt.shaped (.tuple (toPys (dit a)))) = true
  have := depth_dit a
  unfold SeqAt.shaped
  rw [isPys_dit, PyData.canLay0, can_dit, PyData.depth]
  simp
  omega
theorem x_eqIR (a b : List (List Int)) : opEq false (.tup (dit a)) (.tup (dit b)) = some (.val (.bl (decide (a = b)))) := by
  show (if (eqOk (.tup (dit a)) && eqOk (.tup (dit b))) = true then some (T.val (.bl (PyData.eqv (.tuple (toPys (dit a))) (.tuple (toPys (dit b)))))) else none) = _
  rw [eqOk_R, eqOk_R, PyData.eqv, eqv_dit]; rfl
theorem x_eqBB (neg a b : Bool) : opEq neg (.bl a) (.bl b) = some (.val (.bl (if neg then !decide (a = b) else decide (a = b)))) := rfl
end KM
/-! Generator defs in the mirror: run to their end by list(..). -/
namespace KM
open PySem PySem.Spec PySem.Calls PyProof.Rows L2 Evl KP GenW
inductive YOut where
  | nx (ys : List D) (e : KM.Env) | brk (ys : List D) (e : KM.Env) | cnt (ys : List D) (e : KM.Env) | rt (ys : List D) (e : KM.Env) | stuck
def YPost (K : PySem.W.Frag) (Oo W : List Addr) (σ : L2.St) (H : Hp) (G : GEnds) : YOut → Prop
  | .nx ys e => ∀ vs σ' H' W', Lv H W H' W' → ER K Oo W' σ' H' e → Rvs K H' (Oo ++ W') ys vs → G.nx vs σ' H'
  | .brk ys e => ∀ vs σ' H' W', Lv H W H' W' → ER K Oo W' σ' H' e → Rvs K H' (Oo ++ W') ys vs → G.bk vs σ' H'
  | .cnt ys e => ∀ vs σ' H' W', Lv H W H' W' → ER K Oo W' σ' H' e → Rvs K H' (Oo ++ W') ys vs → G.ct vs σ' H'
  | .rt ys e => ∀ vs σ' H' W', Lv H W H' W' → ER K Oo W' σ' H' e → Rvs K H' (Oo ++ W') ys vs → G.rt vs .non H'
  | .stuck => False
section
variable {K : PySem.W.Frag} {H H' H1 H2 : Hp} {O O' Oo W W' W1 W2 fp : List Addr} {σ σ' : L2.St} {env env' : KM.Env} {te ta tb tc : TE} {tt tu : TT} {tas : TA} {ts us : TS} {t u : TGn} {G : GEnds}
theorem YPost.lv {o : YOut} (l : Lv H W H' W') (h : YPost K Oo W σ H G o) : YPost K Oo W' σ' H' G o := by
  cases o with
  | nx ys e => exact fun vs σ2 H2 W2 l2 E r => h vs σ2 H2 W2 (l.trans l2) E r
  | brk ys e => exact fun vs σ2 H2 W2 l2 E r => h vs σ2 H2 W2 (l.trans l2) E r
  | cnt ys e => exact fun vs σ2 H2 W2 l2 E r => h vs σ2 H2 W2 (l.trans l2) E r
  | rt ys e => exact fun vs σ2 H2 W2 l2 E r => h vs σ2 H2 W2 (l.trans l2) E r
  | stuck => exact h
/-! ### the def -/
/-! ### list(f(..)) -/
end
/-! ### evaluation -/
end KM
/-! Own exceptions raised, caught as a name. -/
namespace KM
open PySem PySem.Spec PySem.Calls PyProof.Rows L2 Evl KP
/-! ### raise -/
/-! ### within an except suite -/
section
variable {K : PySem.W.Frag} {Wx : WX} {Fz : List Nat} {H H' H1 H2 : Hp} {O O' Oo W W' W1 W2 fp : List Addr} {σ σ' : L2.St} {env env' : KM.Env} {te : TE} {ct : List CE1} {us : List Str} {bs : List String} {i : Nat}
theorem ExR.ex {d : Option Addr} {ns : List Str} {ds : List D} (ex : Evl.Ex H H') (h : ExR K H O d ns ds) : ExR K H' O d ns ds := by
  cases d with
  | none => exact h
  | some a => obtain ⟨vs, h1, h2, h3⟩ := h; exact ⟨vs, h1, ex _ _ h2, h3.lv (Lv.ex ex)⟩
/-- an expression of the suite: by the exception's class and attributes -/
abbrev XM := Str → List Str → List D → Option D
abbrev TX := Addr → Value → Option Addr → TE
abbrev TXA := Addr → Value → Option Addr → TA
def IXV (K : PySem.W.Frag) (i : Nat) (te : TX) (m : XM) : Prop := ∀ a c d ns ds Oo W σ H env (Q : VK), ER K Oo W σ H env → ExR K H (Oo ++ W) d ns ds → σ[i]? = some (some (.ref a)) →
  (∃ r, m c ns ds = some r ∧ ∀ v H', Evl.Ex H H' → Rv K H' (Oo ++ W) r v → Q v H') → te a (.ref (He.ga K c)) d σ H Q
def IXA (K : PySem.W.Frag) (i : Nat) (tas : TXA) (m : Str → List Str → List D → Option (List D)) : Prop := ∀ a c d ns ds Oo W σ H env (Q : List V → Hp → Prop), ER K Oo W σ H env → ExR K H (Oo ++ W) d ns ds → σ[i]? = some (some (.ref a)) →
  (∃ rs, m c ns ds = some rs ∧ ∀ vs H', Evl.Ex H H' → Rvs K H' (Oo ++ W) rs vs → Q vs H') → tas a (.ref (He.ga K c)) d σ H Q
def xTup (m : Str → List Str → List D → Option (List D)) : XM := fun c ns ds => (m c ns ds).bind fun rs => if small rs = true then some (.tup rs) else none
theorem ix_tup {tas : TXA} {m} (ha : IXA K i tas m) : IXV K i (fun a c d => tTup (tas a c d)) (xTup m) := fun a c d ns ds Oo W σ H env Q E x hi ⟨r, e, q⟩ => by
  unfold xTup at e
  cases e1 : m c ns ds with
  | none => rw [e1] at e; cases e
  | some rs =>
    rw [e1] at e
    dsimp only [Option.bind_some] at e
    split at e
    · rename_i hs
      cases e
      refine ha a c d ns ds Oo W σ H env _ E x hi ⟨rs, e1, fun vs H1 x1 rv => ⟨small_sz hs rv, fun p hp => ?_⟩⟩
      have x2 := Evl.Ex.new (o := .tup vs) hp
      exact q (.ref p) _ (x1.trans x2) ⟨p, vs, rfl, .inl ⟨(E.ex x1).new hp, .inl upd_same⟩, rv.lv (Lv.ex x2)⟩
    · cases e
/-! ### try -/
/-! ### which clause takes which class -/
end
/-! ### evaluation -/
end KM
/-! A module's dicts with text keys; methods; reversed tuples. -/
namespace KM
open PySem PySem.Spec PySem.Calls PyProof.Rows L2 Evl KP
/-! ### the hook that tells tables too -/
/-! ### evaluation -/
end KM
/-! x[::-1] of a list or a tuple. -/
namespace HT
open PySem PySem.Spec PySem.Calls PyProof.Rows
section
variable {prog : Program} {w : World} {A : Around} {E : Value → Shared → Prop} {s : Shared}
theorem adjust_rev (n : Nat) : Builtin.Slice.sliceAdjust none none (-1) (n : Int) = ((n : Int) - 1, -1) := rfl
theorem places_rev (n : Nat) : Builtin.Slice.slicePlaces ((n : Int) - 1) (-1) (-1) = n := by
  unfold Builtin.Slice.slicePlaces
  have h1 : ¬ ((-1 : Int) > 0) := by decide
  rw [if_neg h1, show (- -1 : Int) = 1 by decide, Int.ediv_one]
  split <;> omega
theorem sliceApplied_rev {sl : Addr} {vl vu vs : Value} {n : Nat} {Q : Int × Int × Nat → Shared → Prop} (hs : s.heap.IsSliceOf sl vl vu vs) (pl : IsPart vl none) (pu : IsPart vu none) (ps : IsPart vs (some (-1)))
    (h : Q ((n : Int) - 1, -1, n) s) : wpAny (model prog w) A (Builtin.Slice.sliceApplied (.ref sl) (pure (n : Int))) Q E s := by
  obtain ⟨os, hos, hcs, hds⟩ := id hs
  unfold Builtin.Slice.sliceApplied Builtin.Slice.sliceFields
  refine wpAny_bind (wpAny_bind (wpAny_field hos hds (x := vl) rfl (wpAny_bind (wpAny_field hos hds (x := vu) rfl (wpAny_bind (wpAny_field hos hds (x := vs) rfl (wpAny_pure ?_)))))))
  refine wpAny_bind (slicePart_ ps ?_)
  show wpAny _ _ (if ((-1 : Int) == 0) = true then _ else _) _ _ s
  rw [if_neg (by decide)]
  refine wpAny_bind (slicePart_ pl (wpAny_bind (slicePart_ pu (wpAny_bind (wpAny_pure ?_)))))
  show wpAny _ _ (match Builtin.Slice.sliceAdjust none none (-1) (n : Int) with | (lo, hi) => pure (lo, (-1 : Int), Builtin.Slice.slicePlaces lo hi (-1))) _ _ s
  rw [adjust_rev]
  show wpAny _ _ (pure ((n : Int) - 1, (-1 : Int), Builtin.Slice.slicePlaces ((n : Int) - 1) (-1) (-1))) _ _ s
  rw [places_rev]
  exact wpAny_pure h
theorem pick_rev (xs : Array Value) : ((List.range xs.size).filterMap fun (m : Nat) => xs[(((xs.size : Int) - 1) + (m : Int) * (-1)).toNat]?).toArray = xs.toList.reverse.toArray := by
  have e : (List.range xs.size).filterMap (fun (m : Nat) => xs[(((xs.size : Int) - 1) + (m : Int) * (-1)).toNat]?) = ((List.range xs.size).map fun k => xs.size - 1 - k).filterMap (xs[·]?) := by
    rw [List.filterMap_map]
    congr 1
    funext m
    show xs[_]? = xs[xs.size - 1 - m]?
    congr 1
    omega
  rw [e, PySem.W.krv_range, List.filterMap_reverse, PySem.W.krv_all]
theorem getItem_tuple_rev {t sl : Addr} {items : Array Value} {vl vu vs : Value} {Q : Value → Shared → Prop} (ht : IsTup s.heap t items) (hs : s.heap.IsSliceOf sl vl vu vs) (pl : IsPart vl none) (pu : IsPart vu none) (ps : IsPart vs (some (-1)))
    (h : Q (.ref s.heap.objs.size) { s with heap := s.heap.push { cls := .type "tuple", data := .seq items.toList.reverse.toArray } })
    (hsz : items.size ≤ sizeLine) : wpAny (model prog w) A (getItem (.ref t) (.ref sl)) Q E s := by
  have htake : sizeOk (.seq items.toList.reverse.toArray) := by
    show items.toList.reverse.toArray.size ≤ sizeLine
    rw [List.size_toArray, List.length_reverse, Array.length_toList]
    omega
  obtain ⟨os, hos, hcs, hds⟩ := id hs
  have hTs : s.TypeIs (.ref sl) "slice" := ⟨os, hos, hcs⟩
  unfold getItem
  try with_reducible refine wpAny_holding ?_
  first | refine wpAny_bind (wpAny_pure ?_) | skip
  refine wpAny_bind (wpAny_sequenceKey ht.typeIs (by decide) ?_)
  refine wpAny_bind (wpAny_callSpecial?_slot (name := Str.ofString "__getitem__") ht.typeIs PyProof.Rows.slot_tuple_getitem
    (wpAny_call_entry PyProof.Rows.slot_tuple_getitem ht.typeIs entry_tuple_getitem ?_ (args_tuple_getitem _ _)))
  show wpAny _ _ (Builtin.Tuple.tupleItemsOf (.ref t) >>= _) _ _ s
  refine wpAny_bind (tupleItemsOf_ ht ?_)
  refine wpAny_bind (wpAny_typeOf hTs ?_)
  rw [if_pos (by decide)]
  refine wpAny_bind (sliceApplied_rev hs pl pu ps ?_)
  have hno : ¬ ((((items.size : Int) - 1) == 0 && (-1 : Int) == 1 && items.size == items.size) = true) := by
    intro q
    rw [Bool.and_eq_true, Bool.and_eq_true] at q
    exact absurd q.1.2 (by decide)
  show wpAny _ _ (if (((items.size : Int) - 1) == 0 && (-1 : Int) == 1 && items.size == items.size) = true then _ else _) _ _ s
  rw [if_neg hno, pick_rev]
  first
    | exact wpAny_bind (m := Builtin.Tuple.tupleExact _) (wpAny_newObj_type (wpAny_pure ⟨_, rfl, wpAny_pure h⟩) htake)
    | exact wpAny_bind (m := Builtin.Tuple.tupleExact _) (wpAny_newObj_type (wpAny_bind (wpAny_pure (wpAny_pure ⟨_, rfl, wpAny_pure h⟩))) htake)
    | exact wpAny_bind (wpAny_bind (m := Builtin.Tuple.tupleExact _) (wpAny_newObj_type (wpAny_pure (wpAny_pure ⟨_, rfl, wpAny_pure h⟩)) htake))
    | exact wpAny_bind (wpAny_bind (m := Builtin.Tuple.tupleExact _) (wpAny_newObj_type (wpAny_pure ⟨_, rfl, wpAny_pure h⟩) htake))
end
end HT
namespace KM
open PySem PySem.Spec PySem.Calls PyProof.Rows L2 Evl KP
def tRevG (K : PySem.W.Frag) (te : TE) : TE := fun σ H Q => te σ H fun x H1 => ∃ a xs, x = .ref a ∧ ((SqL K H1 a xs ∧ ∀ p, H1 p = none → Q (.ref p) (upd H1 p (.lst xs.reverse))) ∨ (SqT K H1 a xs ∧ ∀ p, H1 p = none → Q (.ref p) (upd H1 p (.tup xs.reverse))))
theorem pe_revG {X : Cx} {e : Expr} {te : TE} {k : Nat} {p1 p2 p3 pos : Pos} (he : PE X e te) : PE X (.Subscript e (.Slice none none (some (.UnaryOp .USub (.Constant (.int 1) k p1) p2)) p3) pos) (tRevG X.K te) := by
  refine ⟨fun pins s σ H Q I h => ?_⟩
  refine Subscript_ (thn (he.run pins s σ H _ I h) fun v s1 ⟨x, H1, I1, r1, q1⟩ => ?_)
  obtain ⟨a, xs, ex, q1⟩ := q1
  subst ex
  cases r1
  have hst : PO X (some (.UnaryOp .USub (.Constant (.int 1) k p1) p2)) (tPart (tUn (rU fun i => .int (-i)) (tC (.int 1)))) := po_some (pe_un un_neg pe_int)
  refine wpAny_Slice (thn (po_none.run pins s1 σ H1 (fun o H2 => o = none ∧ H2 = H1) I1 ⟨rfl, rfl⟩) fun vl s2 ⟨l, H2, I2, pl, el, e2⟩ => ?_)
  subst el e2
  refine thn (po_none.run pins s2 σ H2 (fun o H3 => o = none ∧ H3 = H2) I2 ⟨rfl, rfl⟩) fun vu s3 ⟨u, H3, I3, pu, eu, e3⟩ => ?_
  subst eu e3
  refine thn (hst.run pins s3 σ H3 (fun o H4 => o = some (-1) ∧ H4 = H3) I3 ⟨1, rfl, -1, rfl, rfl, rfl⟩) fun vs s4 ⟨o, H4, I4, ps, eo, e4⟩ => ?_
  subst eo e4
  have I5 : Inv X pins σ H4 { s4 with heap := s4.heap.push { cls := .type "slice", data := .fields #[vl, vu, vs] } } := I4.kept (t' := s4.toks) fun b ob q => Heap.get?_push_of_some _ q
  show wpAny (model X.prog X.w) X.A (subscriptTail e (.Slice none none (some (.UnaryOp .USub (.Constant (.int 1) k p1) p2)) p3) (.ref a) (.ref s4.heap.objs.size)) (EP X pins σ Q) X.xe { s4 with heap := s4.heap.push { cls := .type "slice", data := .fields #[vl, vu, vs] } }
  rcases q1 with ⟨hx, q⟩ | ⟨hx, q⟩
  · obtain ⟨its, r, ht, hz⟩ := I5.list hx
    have hlen := r.length
    refine tail_any (ops := [.ref a, .ref s4.heap.objs.size]) ht.isList.typeIs (PySem.slot_list_getitem.lookup) ?_ (by with_unfolding_all rfl)
    refine wpAny_getItem_list_slice ht.isList (Heap.IsSliceOf.new _ vl vu vs) pl pu ps (by decide) ?_ (by rw [List.size_toArray]; omega)
    rw [PySem.W.krv_pick]
    refine ⟨.ref _, _, I5.laid (t' := s4.toks) (o := .lst xs.reverse) (fun b ob q => Heap.get?_push_of_some _ q) (Nat.le_refl _) ?_, rfl, q _ (I5.hok.fresh (Nat.le_refl _))⟩
    exact ⟨by rw [List.length_reverse]; exact hz, _, 0, r.reverse, Heap.get?_push_size _ rfl⟩
  · obtain ⟨its, r, ht, hz⟩ := I5.tuple hx
    have hlen := r.length
    refine tail_any (ops := [.ref a, .ref s4.heap.objs.size]) ht.typeIs (PyProof.Rows.slot_tuple_getitem.lookup) ?_ (by with_unfolding_all rfl)
    refine HT.getItem_tuple_rev ht (Heap.IsSliceOf.new _ vl vu vs) pl pu ps ?_ (by rw [List.size_toArray]; omega)
    refine ⟨.ref _, _, I5.laid (t' := s4.toks) (o := .tup xs.reverse) (fun b ob q => Heap.get?_push_of_some _ q) (Nat.le_refl _) ?_, rfl, q _ (I5.hok.fresh (Nat.le_refl _))⟩
    exact ⟨by rw [List.length_reverse]; exact hz, _, r.reverse, IsTup.new _ _⟩
section
variable {K : PySem.W.Frag} {Wx : WX} {H H' : Hp} {O Oo W : List Addr} {σ : L2.St} {env : KM.Env} {te : TE}
def opRev : D → Option T
  | .lst ds => some (.lst (leafs ds.reverse))
  | .fro ds => some (.lst (leafs ds.reverse))
  | .tup ds => some (.val (.tup ds.reverse))
  | _ => none
def oRev (a : M Ob) : M T := a.bnd fun x => fun env => M.opt ((lookB x env).bind opRev) env
theorem op_rev {x : V} {d : D} {t : T} {Q : VK} (hn : ∀ p ∈ O, Mut (H p)) (r : RSh K H O d x) (e : opRev d = some t)
    (q : ∀ v H' fp, Evl.Ex H H' → (∀ p ∈ fp, H p = none) → fp.Nodup → Ow K H' (O ++ fp) t v fp → Q v H') :
    ∃ a xs, x = .ref a ∧ ((SqL K H a xs ∧ ∀ p, H p = none → Q (.ref p) (upd H p (.lst xs.reverse))) ∨ (SqT K H a xs ∧ ∀ p, H p = none → Q (.ref p) (upd H p (.tup xs.reverse)))) := by
  cases d with
  | lst ds =>
    cases e
    obtain ⟨p, vs, rfl, a, rs⟩ := r
    exact ⟨p, vs, rfl, .inl ⟨SqL.of a, fun p' hp => q _ _ [p'] (Evl.Ex.new hp) (fun y hy => by rw [List.mem_singleton.mp hy]; exact hp) (by simp) (Ow.list hp hn (Rvs.rev rs))⟩⟩
  | fro ds =>
    cases e
    obtain ⟨p, vs, rfl, a, rs⟩ := r
    exact ⟨p, vs, rfl, .inl ⟨a, fun p' hp => q _ _ [p'] (Evl.Ex.new hp) (fun y hy => by rw [List.mem_singleton.mp hy]; exact hp) (by simp) (Ow.list hp hn (Rvs.rev rs))⟩⟩
  | tup ds =>
    cases e
    obtain ⟨p, vs, rfl, a, rs⟩ := r
    refine ⟨p, vs, rfl, .inr ⟨a.sq, fun p' hp => q (.ref p') _ [] (Evl.Ex.new hp) (by simp) List.nodup_nil ?_⟩⟩
    rw [List.append_nil]
    exact ⟨rfl, p', _, rfl, TupAt.of (dom_ex (Evl.Ex.new hp) hn) (SqT.of upd_same), (Rvs.rev rs).lv (Lv.ex (Evl.Ex.new hp))⟩
  | _ => cases e
theorem io_rev {ma} (a : IB K Wx te ma) : IO K Wx (tRevG K te) (oRev ma) := fun Oo W σ H env Q E q => by
  refine a Oo W σ H env _ E ((M.bnd_to q).mono (fun x env1 q v H1 W1 l1 E1 r1 => ?_) fun _ _ _ _ x => x)
  obtain ⟨t, e, q⟩ := M.opt_to q
  cases e1 : lookB x env1 with
  | none => rw [e1] at e; cases e
  | some d =>
    rw [e1] at e
    refine op_rev E1.domA (E1.look r1 e1) e fun w H4 fp ex hf nd o => ?_
    obtain ⟨k1, k2, k3, k4⟩ := new_io E1 ex hf o
    exact q w H4 W1 fp (l1.trans k1) k2 nd k3 k4
end
theorem x_revT (ds : List D) : opRev (.tup ds) = some (.val (.tup ds.reverse)) := rfl
theorem x_revL (ds : List D) : opRev (.lst ds) = some (.lst (leafs ds.reverse)) := rfl
theorem x_revF (ds : List D) : opRev (.fro ds) = some (.lst (leafs ds.reverse)) := rfl
end KM
/-! Own exceptions: raised in one piece. -/
namespace KM
open PySem PySem.Spec PySem.Calls PyProof.Rows L2 Evl KP
end KM
/-! a call whose last argument is new. -/
namespace KM
open PySem PySem.Spec PyProof.Rows L2 Evl KP
section
variable {K : PySem.W.Frag} {Wx : WX} {Fz : List Nat} {H H' H1 H2 : Hp} {O O' Oo W W' W1 W2 fp : List Addr} {σ σ' ρ : L2.St} {env env' as : Env} {te ta tb tc : TE} {tt tu : TT} {tas : TA} {ts us : TS} {A : Ends}
theorem ObsR.snoc {σ ρ : L2.St} {o : Ob} {v : V} : ∀ {os : List Ob} {vs : List V}, ObsR K H O σ os vs → ObR K H O (σ ++ ρ) o v → ObsR K H O (σ ++ ρ) (os ++ [o]) (vs ++ [v])
  | [], vs, h, h2 => by
    cases (show vs = [] from h)
    exact ⟨v, [], rfl, h2, rfl⟩
  | a :: os, _, ⟨u, vs', e, r, rs⟩, h2 => by
    subst e
    refine ⟨u, vs' ++ [v], rfl, ?_, ObsR.snoc rs h2⟩
    cases a with
    | val d => exact r
    | nm i =>
      obtain ⟨r0, h1, nv⟩ := r
      exact ⟨r0, by rw [List.getElem?_append_left (List.getElem?_eq_some_iff.mp h1).1]; exact h1, nv⟩
end
end KM
/-! A text is hashed in the module's head: the one question that the world answers there is asked both ways. -/
namespace KM
open PySem PySem.Spec
def setF (b : Bool) (w : World) : World := { w with params := { w.params with followText := fun s => if s = "special-get-raises" then b else w.params.followText s } }
theorem setF_eq (w : World) : setF (w.params.followText "special-get-raises") w = w := by
  unfold setF
  have h : (fun s => if s = "special-get-raises" then w.params.followText "special-get-raises" else w.params.followText s) = w.params.followText := by
    funext s
    split
    · rename_i e; rw [e]
    · rfl
  rw [h]
theorem both {p : World → Prop} (h : ∀ (w : World), p (setF true w)) (h2 : ∀ (w : World), p (setF false w)) (w : World) : p w := by
  rw [← setF_eq w]
  cases w.params.followText "special-get-raises" with
  | true => exact h w
  | false => exact h2 w
end KM
/-! An own __getitem__. -/
namespace KM
open PySem PySem.Spec PySem.Calls PyProof.Rows L2 Evl KP
/-! ### evaluation -/
end KM
/-! list(o), o an instance whose __iter__ returns iter(o.f), f a tuple. -/
namespace KM
open PySem PySem.Spec PySem.Calls PyProof.Rows L2 Evl KP
/-! ### iter(t) -/
end KM
/-! list(o) in the mirror; static methods; calls with keywords and defaults. -/
namespace KM
open PySem PySem.Spec PySem.Calls PyProof.Rows L2 Evl KP
/-! ### list(o) -/
/-! ### a call's arguments, put in order -/
section
variable {K : PySem.W.Frag} {Wx : WX} {H H' H1 H2 : Hp} {O O' Oo W W' W1 W2 fp : List Addr} {σ : L2.St} {env env' : KM.Env} {te ta tb tc : TE} {tas : TA}
theorem ObsR.at : ∀ {os : List Ob} {vs : List V} {i : Nat}, ObsR K H O σ os vs → i < os.length → ObR K H O σ (os.getD i (.val .non)) (vs.getD i .non)
  | [], _, _, _, h => by simp at h
  | o :: os, _, 0, ⟨v, vs', e, a, _⟩, _ => by subst e; exact a
  | o :: os, _, i + 1, ⟨v, vs', e, _, r⟩, h => by
    subst e
    have := ObsR.at r (i := i) (by simpa using h)
    simpa using this
end
/-! ### the rules for such calls -/
/-! ### what is looked at of a static method -/
/-! ### the hook -/
end KM
/-! A tuple times one; and, or, not within an except suite. -/
namespace KM
open PySem PySem.Spec PySem.Calls PyProof.Rows L2 Evl KP
def opMulX : D → D → Option T
  | .tup a, .int 1 => if a.isEmpty = true then none else some (.val (.tup a))
  | d, e => opMul d e
/-! ### the same readings by K itself (within a try the names of X's parts must not stand) -/
/-! ### a def's statements, by place -/
/-! ### evaluation -/
theorem x_repT {a : List D} {k : Int} (h1 : 1 ≤ k) (h2 : k ≤ 1000) (h3 : a.length ≤ 1000) (h4 : a ≠ []) : opMulX (.tup a) (.int k) = some (.val (.tup (List.replicate k.toNat a).flatten)) := by
  have he : a.isEmpty = false := by
    cases a with
    | nil => exact absurd rfl h4
    | cons x r => rfl
  by_cases hk : k = 1
  · subst hk
    show (if a.isEmpty = true then _ else _) = _
    rw [he]
    simp
  · have : opMulX (.tup a) (.int k) = opMul (.tup a) (.int k) := by
      unfold opMulX
      split
      · simp_all
      · rfl
    rw [this]
    show (if (decide (2 ≤ k) && (decide (k ≤ 1000) && (decide (a.length ≤ 1000) && !a.isEmpty))) = true then _ else _) = _
    rw [decide_eq_true (show 2 ≤ k by omega), decide_eq_true h2, decide_eq_true h3, he]
    rfl
end KM
/-! More of lists: methods that change them; sorted of pairs; constants of a class; bit_length. -/
namespace KM
open PySem PySem.Spec PyProof.Rows L2 Evl KP
section
variable {K : PySem.W.Frag} {Wx : WX} {Fz : List Nat} {H H' H1 H2 : Hp} {O O' Oo W W' W1 W2 fp : List Addr} {σ σ' : L2.St} {env env' : KM.Env} {te ta tb tc : TE} {tas : TA}
/-! ### methods that change a list of data -/
def OpLM (K : PySem.W.Frag) (r : V → List V → Hp → VK → Prop) (op : List D → List D → Option (D × List D)) : Prop := ∀ H O p vs ds xs es d ds' (Q : VK), H p = some (.lst vs) → Rvs K H O ds vs → Rvs K H O es xs → op ds es = some (d, ds') →
  (∀ v vs', Rv K H O d v → Rvs K H O ds' vs' → Q v (upd H p (.lst vs'))) → r (.ref p) xs H Q
def lmO (i : Nat) (op : List D → List D → Option (D × List D)) (es : List D) (e : KM.Env) : Option (Option T) → Rs T
  | some (some (.lst ts)) => match (unvals ts).bind fun ds => op ds es with
    | some x => .ok (.val x.1) (putAt e i [] (.lst (leafs x.2)))
    | none => .stuck
  | _ => .stuck
def mLM (i : Nat) (op : List D → List D → Option (D × List D)) (m : M (List D)) : M T := fun env => match env[i]? with
  | some (some (.lst _)) => (m.bnd fun es => fun e => lmO i op es e e[i]?) env
  | _ => .stuck
theorem lm_do {r : V → List V → Hp → VK → Prop} {op : List D → List D → Option (D × List D)} (s : OpLM K r op) {i : Nat} {es : List D} {xs : List V} {v0 : V} {Q : VK} {X} (E : ER K Oo W σ H env) (h1 : σ[i]? = some (some v0)) (rx : Rvs K H (Oo ++ W) es xs)
    (q : (lmO i op es env env[i]?).To (fun t env' => ∀ v H' W' fp, Lv H W H' (W' ++ fp) → ER K (Oo ++ fp) W' σ H' env' → fp.Nodup → (∀ p ∈ fp, p ∉ Oo) → Ow K H' (Oo ++ fp ++ W') t v fp → Q v H') X) : r v0 xs H Q := by
  unfold lmO at q
  split at q
  · rename_i ts hts
    split at q
    · rename_i x hx
      have hn : nodeOf env i [] = some (.lst ts) := by unfold nodeOf; rw [hts]; rfl
      obtain ⟨p, vs, fq, ev, hp, rs, g1, go⟩ := ER.chgD E hn ⟨v0, h1, rfl⟩
      subst ev
      cases hd : unvals ts with
      | none => rw [hd] at hx; cases hx
      | some ds =>
        rw [hd] at hx
        have rv := (rs.vals hd).1
        refine s H (Oo ++ W) p vs ds xs es x.1 x.2 Q hp rv rx hx fun v vs' r1 r2 => ?_
        obtain ⟨W', l, E'⟩ := go (leafs x.2) vs' [] (List.nil_sublist _) fun O' l same => (r2.lv l).leafs
        exact q v _ W' [] (by simpa using l) (by simpa using E') List.nodup_nil (by simp) ⟨rfl, by simpa using r1.lv (l.oo Oo)⟩
    · exact q.elim
  · exact q.elim
theorem io_lm {r : V → List V → Hp → VK → Prop} {op : List D → List D → Option (D × List D)} (s : OpLM K r op) {i : Nat} {m} (a : IAV K Wx tas m) : IO K Wx (tBM K "list" r (tVar i) tas) (mLM i op m) := fun Oo W σ H env Q E q => by
  unfold mLM at q
  split at q
  · rename_i ts0 hts
    obtain ⟨v0, A0, f0, B0, h1, _, h3, _⟩ := E.ce.at hts
    refine ⟨v0, h1, ?_, ?_⟩
    · obtain ⟨p, vs, fq, e, ef, hp, rs⟩ := h3
      subst e
      exact .inl ⟨rfl, vs, SqL.of hp⟩
    · refine a Oo W σ H env _ E ((M.bnd_to q).mono (fun es e q xs H1 W1 l1 E1 r1 => ?_) fun _ _ _ _ x => x)
      refine lm_do s (X := OkX K Wx Oo W1 σ H1) E1 h1 r1 (q.mono (fun t e' q v H' W' fp l E' nd nf o => q v H' W' fp (l1.trans l) E' nd nf o) fun _ _ _ _ x => x.lv l1)
  · exact q.elim
theorem seqIndex_of {j : Int} {n : Nat} (h : 0 ≤ j) (h2 : j < n) : seqIndex? j n = some j.toNat := by
  unfold seqIndex?
  dsimp only
  rw [if_neg (show ¬ j < 0 by omega), if_pos (by rw [Bool.and_eq_true]; exact ⟨decide_eq_true h, decide_eq_true h2⟩)]
theorem Rvs.eraseIdx (k : Nat) {ds : List D} {vs : List V} (r : Rvs K H O ds vs) : Rvs K H O (ds.eraseIdx k) (vs.eraseIdx k) := by
  rw [List.eraseIdx_eq_take_drop_succ, List.eraseIdx_eq_take_drop_succ]
  exact (r.take k).app (r.drop (k + 1))
/-- xs.pop(i), i not below 0 -/
def lPopAt (ds es : List D) : Option (D × List D) := match es with
  | [.int j] => if (decide (0 ≤ j) && decide (ds.length ≤ 16777216)) = true then (ds[j.toNat]?).map fun d => (d, ds.eraseIdx j.toNat) else none
  | _ => none
theorem s_popAt : OpLM K rPopAt lPopAt := by
  intro H O p vs ds xs es d ds' Q hp rv rx h q
  unfold lPopAt at h
  split at h
  · rename_i j
    split at h
    · rename_i hc
      rw [Bool.and_eq_true] at hc
      have h0 := of_decide_eq_true hc.1
      have hz := of_decide_eq_true hc.2
      cases hd : ds[j.toNat]? with
      | none => rw [hd] at h; cases h
      | some d0 =>
        rw [hd] at h
        cases h
        obtain ⟨x, xs', rfl, ex, e⟩ := rx
        cases (show x = .int j from ex)
        cases (show xs' = [] from e)
        have hl := (List.getElem?_eq_some_iff.mp hd).1
        obtain ⟨y, hy, ry⟩ := rv.get hd
        exact ⟨p, vs, j, j.toNat, y, rfl, rfl, hp, by omega, by omega, seqIndex_of h0 (by rw [rv.len]; omega), hy, q y _ ry (rv.eraseIdx _)⟩
    · cases h
  · cases h
/-! ### constants of a class -/
/-! ### n.bit_length() -/
/-! ### sorted of pairs of ints -/
def lexLe (p q : Int × Int) : Bool := decide (p.1 < q.1) || (decide (p.1 = q.1) && decide (p.2 ≤ q.2))
theorem lexLe_le {p q : Int × Int} : lexLe p q = true ↔ p.1 < q.1 ∨ (p.1 = q.1 ∧ p.2 ≤ q.2) := by
  unfold lexLe
  rw [Bool.or_eq_true, Bool.and_eq_true, decide_eq_true_eq, decide_eq_true_eq, decide_eq_true_eq]
theorem mem_zipL : ∀ {α β : Type} {xs : List α} {ps : List β} {x : α}, xs.length = ps.length → x ∈ xs → ∃ p, (x, p) ∈ xs.zip ps
  | _, _, [], _, _, _, h => by cases h
  | _, _, _ :: _, [], _, hl, _ => by simp at hl
  | _, _, y :: xs, q :: ps, x, hl, h => by
    rw [List.zip_cons_cons]
    rcases List.mem_cons.mp h with rfl | h
    · exact ⟨q, List.mem_cons_self⟩
    · obtain ⟨p, hp⟩ := mem_zipL (ps := ps) (by simpa using hl) h
      exact ⟨p, List.mem_cons_of_mem _ hp⟩
theorem map_zip : ∀ {α β : Type} {xs : List α} {ps : List β} {k : α → β}, xs.length = ps.length → (∀ x ∈ xs.zip ps, k x.1 = x.2) → xs.map k = ps
  | _, _, [], [], _, _, _ => rfl
  | _, _, [], _ :: _, _, hl, _ => by simp at hl
  | _, _, _ :: _, [], _, hl, _ => by simp at hl
  | _, _, y :: xs, q :: ps, k, hl, h => by
    rw [List.map_cons, map_zip (ps := ps) (by simpa using hl) fun x hx => h x (by rw [List.zip_cons_cons]; exact List.mem_cons_of_mem _ hx)]
    rw [show k y = q from h (y, q) (by rw [List.zip_cons_cons]; exact List.mem_cons_self)]
theorem zip_map_mem : ∀ {α β : Type} {ys : List α} {k : α → β} {x : α × β}, x ∈ ys.zip (ys.map k) → x.1 ∈ ys ∧ x.2 = k x.1
  | _, _, [], _, _, h => by cases h
  | _, _, y :: ys, k, x, h => by
    rw [List.map_cons, List.zip_cons_cons] at h
    rcases List.mem_cons.mp h with rfl | h
    · exact ⟨List.mem_cons_self, rfl⟩
    · obtain ⟨h1, h2⟩ := zip_map_mem h
      exact ⟨List.mem_cons_of_mem _ h1, h2⟩
end
end KM
/-! x in a list of data of any depth. -/
namespace KM
open PySem PySem.Spec PySem.Calls PyProof.Rows L2 Evl KP
end KM
/-! C(e, ..) with the last arguments left out. -/
namespace KM
open PySem PySem.Spec PySem.Calls PyProof.Rows L2 Evl KP
end KM
/-! sorted of triples of which the first two are ints that tell them apart. -/
namespace SrtO
open PySem PyProof.Rows Srt
section
variable {prog : Program} {w : World} {A : Around} {E : Value → Shared → Prop} {s : Shared}
def IsTri (h : Heap) (v : Value) (x y : Int) : Prop := ∃ a o t u r n, v = .ref a ∧ h.get? a = some o ∧ o.cls = .type "tuple" ∧ o.data = .seq #[.int x t, .int y u, r] n
theorem IsTri.keeps {h h' : Heap} {v : Value} {x y : Int} (p : IsTri h v x y) (k : ∀ b o, h.get? b = some o → o.cls = .type "tuple" → h'.get? b = some o) : IsTri h' v x y := by
  obtain ⟨a, o, t, u, r, n, e, ho, hc, hd⟩ := p
  exact ⟨a, o, t, u, r, n, e, k _ _ ho hc, hc, hd⟩
theorem firsts_tri {h : Heap} : ∀ {vs : List Value}, (∀ v ∈ vs, ∃ x y, IsTri h v x y) → ∃ fs : List Value, PySem.W.KatTups h vs fs ∧ fs.length = vs.length ∧ ∀ f ∈ fs, ∃ x t, f = Value.int x t
  | [], _ => ⟨[], PySem.W.KatTups.nil, rfl, fun _ hm => by simp at hm⟩
  | v :: vs, hp => by
    obtain ⟨fs, h1, h2, h3⟩ := firsts_tri (vs := vs) fun v' hm => hp v' (List.mem_cons_of_mem _ hm)
    obtain ⟨x, y, a, o, t, u, r, n, e, ho, hc, hd⟩ := hp v (List.mem_cons_self ..)
    subst e
    refine ⟨.int x t :: fs, PySem.W.KatTups.cons ho hc hd rfl h1, by rw [List.length_cons, List.length_cons, h2], fun f hm => ?_⟩
    rcases List.mem_cons.mp hm with rfl | hm
    · exact ⟨x, t, rfl⟩
    · exact h3 f hm
theorem tri_cmp {vs : List Value} {k : Value → Int × Int} (hp : ∀ v ∈ vs, IsTri s.heap v (k v).1 (k v).2) (hu : ∀ v ∈ vs, ∀ u ∈ vs, k v = k u → v = u) : Cmp prog w A s (tuples' true) (fun p => p.1 ∈ vs) (lt2 fun v u => lexB (k v) (k u)) := by
  intro p q hm hm'
  have h1 := hp _ hm
  have h2 := hp _ hm'
  have hpq := hu _ hm _ hm'
  show wpAny (model prog w) A (keyLt' (tuples' true) p.1 q.1) (fun r s' => s' = s ∧ r = lexB (k p.1) (k q.1)) (fun _ _ => False) s
  have hpq : (k p.1).1 = (k q.1).1 → (k p.1).2 = (k q.1).2 → p.1 = q.1 := fun a b => hpq (Prod.ext a b)
  unfold lexB
  generalize (k p.1).1 = x at h1 hpq ⊢
  generalize (k p.1).2 = y at h1 hpq ⊢
  generalize (k q.1).1 = x' at h2 hpq ⊢
  generalize (k q.1).2 = y' at h2 hpq ⊢
  obtain ⟨a, o, t, u, r, n, e, ho, hc, hd⟩ := h1
  obtain ⟨a', o', t', u', r', n', e', ho', hc', hd'⟩ := h2
  rw [e, e'] at hpq ⊢
  have hr : x = x' → y = y' → r = r' := fun ex ey => by
    have := hpq ex ey
    injection this with ea
    subst ea
    rw [ho] at ho'
    cases ho'
    rw [hd] at hd'
    injection hd' with z1 z2
    have z1 := congrArg Array.toList z1
    simp at z1
    exact z1.2.2
  refine PySem.W.kat_lt ho hd ho' hd' ?_
  show PySem.W.KatLex prog w A true (decide (3 < 3)) _ [(.int x t, .int x' t'), (.int y u, .int y' u'), (r, r')] 0 s
  refine PySem.W.kat_cons (SeqAt.EqAt.int_int x t x' t' prog w _ _ ?_)
  refine PySem.W.kat_go (fun e1 => ?_) (fun e1 => ?_)
  · have ex : x = x' := by simpa using e1
    refine PySem.W.kat_yes (PySem.W.kat_cons (SeqAt.EqAt.int_int y u y' u' prog w _ _ ?_))
    refine PySem.W.kat_go (fun e2 => ?_) (fun e2 => ?_)
    · have ey : y = y' := by simpa using e2
      have e3 : (if x = x' then decide (y < y') else decide (x < x')) = false := by
        rw [if_pos ex, ey]
        exact decide_eq_false (Int.lt_irrefl _)
      rw [← hr ex ey]
      refine PySem.W.kat_yes (PySem.W.kat_cons (SeqAt.EqAt.same r prog w _ _ ?_))
      refine PySem.W.kat_go (fun _ => ?_) (fun e4 => by simp at e4)
      exact PySem.W.kat_yes (PySem.W.kat_nil ⟨rfl, e3.symm⟩)
    · have e3 : (if x = x' then decide (y < y') else decide (x < x')) = decide (y < y') := if_pos ex
      refine PySem.W.kat_no (PySem.W.kat_one _ _ (PyProof.Rows.lt_int ?_))
      exact (show s = s ∧ decide (y < y') = (if x = x' then decide (y < y') else decide (x < x')) from ⟨rfl, e3.symm⟩)
  · have ex : ¬ x = x' := by simpa using e1
    have e3 : (if x = x' then decide (y < y') else decide (x < x')) = decide (x < x') := if_neg ex
    exact PySem.W.kat_no (oneLt_int ⟨rfl, e3.symm⟩)
theorem tris_sortableO {a : Addr} {vs : List Value} {k : Value → Int × Int} (h0 : 0 < vs.length) (hp : ∀ v ∈ vs, IsTri s.heap v (k v).1 (k v).2) (hu : ∀ v ∈ vs, ∀ u ∈ vs, k v = k u → v = u) (ha : ∀ o, s.heap.get? a = some o → o.cls ≠ .type "tuple") : SortableO prog w A s a vs fun v u => lexB (k v) (k u) := by
  intro h' keep
  have hp' : ∀ v ∈ vs, IsTri h' v (k v).1 (k v).2 := fun v hm => (hp v hm).keeps fun b o e c => keep b o (fun z => by subst z; exact ha o e c) e
  obtain ⟨fs, h1, h2, h3⟩ := firsts_tri fun v hm => ⟨_, _, hp' v hm⟩
  refine ⟨tuples' true, fun Q E hq => ?_, tri_cmp hp' hu⟩
  refine PySem.W.kat_kind (T := .type "int") h1 (by omega) (fun f hm => ?_) (by rfl) ?_
  · obtain ⟨x, t, rfl⟩ := h3 f hm
    exact PySem.W.Looks.now
  · have e : (Value.type "int" != Value.type "tuple") = true := by first | decide +kernel | rfl | decide
    rw [e]
    exact hq
theorem sorted_trisO {l : Addr} {vs : List Value} {k : Value → Int × Int} {Q : Value → Shared → Prop} (hl : s.heap.IsList l vs.toArray) (hz : vs.length ≤ sizeLine) (hp : ∀ v ∈ vs, IsTri s.heap v (k v).1 (k v).2) (hu : ∀ v ∈ vs, ∀ u ∈ vs, k v = k u → v = u)
    (h : ∀ (h' : Heap) (d : Addr) (out : List Value), Srtd (fun v u => lexB (k v) (k u)) out → Stb (fun v u => lexB (k v) (k u)) out vs → (∀ b o, s.heap.get? b = some o → h'.get? b = some o) → s.heap.objs.size ≤ d → (∃ n, h'.get? d = some (seqObj "list" out.toArray n)) → Q (.ref d) { s with heap := h' }) :
    wpAny (model prog w) A (call (.builtin "sorted") [.ref l]) Q E s := by
  refine sorted_ord (swo_lex k) hl hz (fun h2 h₁ a ha kk => ?_) fun out hs hb => ?_
  · refine tris_sortableO (s := { s with heap := h₁ }) (by omega) (fun v hm => (hp v hm).keeps fun b o e _ => (kk b o e).2) hu fun o e => ?_
    have e' : some o = some (seqObj "list" vs.toArray 0) := e.symm.trans ha
    cases e'
    intro c
    exact absurd (Value.type.inj c) (by decide)
  · exact h _ _ out hs hb (fun b o e => sortedAll_old e) (Nat.le_succ _) (sortedAll_at s.heap vs out.toArray)
end
end SrtO
namespace KM
open PySem PySem.Spec PyProof.Rows L2 Evl KP
section
variable {K : PySem.W.Frag} {Wx : WX} {H : Hp} {O : List Addr}
def rSortedTG (K : PySem.W.Frag) : List V → Hp → VK → Prop := fun vs H Q => ∃ (a : Addr) (xs : List V) (k : V → Int × Int), vs = [V.ref a] ∧ SqL K H a xs ∧ (∀ x ∈ xs, ∃ t r, x = V.ref t ∧ SqT K H t [.int (k x).1, .int (k x).2, r]) ∧ (∀ x ∈ xs, ∀ y ∈ xs, k x = k y → x = y) ∧
  ∀ ys p, SrtO.Srtd (ltP k) ys → SrtO.Stb (ltP k) ys xs → H p = none → Q (.ref p) (upd H p (.lst ys))
theorem cr_sortedTG {X : Cx} : CallR X (.builtin "sorted") (rSortedTG X.K) := by
  intro pins s σ H vs us Q I r h
  obtain ⟨a, xs, k, rfl, hs, hx, hu, q⟩ := h
  obtain ⟨its, rv, hl, hz⟩ := I.list hs
  obtain ⟨u, rfl, ru⟩ := vals1 r
  obtain rfl : u = Value.ref a := ru
  obtain ⟨e1, e2⟩ := refs_back rv fun x m => by
    obtain ⟨t, r, e, _⟩ := hx x m
    exact ⟨t, e⟩
  refine SrtO.sorted_trisO (k := fun u => k (backV u)) hl.isList (by rw [← rv.length]; exact hz) (fun v hv => ?_) (fun v hv u hu2 e => ?_) fun h' d out h1 h2 kp hd hn => ?_
  · obtain ⟨t, rfl⟩ := e2 v hv
    have hm : V.ref t ∈ xs := by rw [e1]; exact List.mem_map.mpr ⟨_, hv, rfl⟩
    obtain ⟨t', w, e, ht⟩ := hx _ hm
    cases e
    obtain ⟨its2, r2, ⟨o, ho, hc, n, hd⟩, _⟩ := I.tuple ht
    cases r2 with
    | cons ri r2 =>
      cases r2 with
      | cons rj r2 =>
        cases r2 with
        | cons rw r2 =>
          cases r2
          obtain ⟨t1, rfl⟩ := ri
          obtain ⟨t2, rfl⟩ := rj
          exact ⟨t, o, t1, t2, _, n, rfl, ho, hc, hd⟩
  · obtain ⟨t, rfl⟩ := e2 v hv
    obtain ⟨t', rfl⟩ := e2 u hu2
    have hm : V.ref t ∈ xs := by rw [e1]; exact List.mem_map.mpr ⟨_, hv, rfl⟩
    have hm' : V.ref t' ∈ xs := by rw [e1]; exact List.mem_map.mpr ⟨_, hu2, rfl⟩
    have := hu _ hm _ hm' e
    cases this
    rfl
  · have h3 : ∀ u ∈ out, ∃ a, u = Value.ref a := fun u hu => e2 u (h2.perm.mem_iff.mp hu)
    obtain ⟨n, hn⟩ := hn
    have hb : SrtO.Stb (ltP k) (out.map backV) xs := by
      rw [e1]
      exact SrtO.Stb.map (ltP_swo k) backV h2
    refine ⟨.ref d, upd H d (.lst (out.map backV)), I.laid (t' := s.toks) kp hd ⟨?_, out, n, vals_back h3, hn⟩, rfl, q _ d (SrtO.srtd_map h1) hb (I.hok.fresh hd)⟩
    rw [hb.len]
    exact hz
theorem nodup_inj {α β : Type} {f : α → β} : ∀ {l : List α}, (l.map f).Nodup → ∀ a ∈ l, ∀ b ∈ l, f a = f b → a = b
  | [], _, a, ha, _, _, _ => by cases ha
  | x :: l, h, a, ha, b, hb, e => by
    rw [List.map_cons] at h
    obtain ⟨h1, h2⟩ := List.nodup_cons.mp h
    rcases List.mem_cons.mp ha with ea | ha2
    · rcases List.mem_cons.mp hb with eb | hb2
      · rw [ea, eb]
      · exact absurd (by rw [← ea, e]; exact List.mem_map.mpr ⟨b, hb2, rfl⟩) h1
    · rcases List.mem_cons.mp hb with eb | hb2
      · exact absurd (by rw [← eb, ← e]; exact List.mem_map.mpr ⟨a, ha2, rfl⟩) h1
      · exact nodup_inj h2 a ha2 b hb2 e
/-- a list of triples -/
abbrev Tri := (Int × Int) × D
def trsOf : List D → Option (List Tri)
  | [] => some []
  | .tup [.int i, .int j, d] :: ds => (trsOf ds).map (((i, j), d) :: ·)
  | _ :: _ => none
def trD (p : Tri) : D := .tup [.int p.1.1, .int p.1.2, p.2]
def triLe (p q : Tri) : Bool := lexLe p.1 q.1
def tsort (ps : List Tri) : List Tri := ps.mergeSort triLe
def listTrs (d : D) : Option (List Tri) := match d with
  | .lst ds => trsOf ds
  | .fro ds => trsOf ds
  | _ => none
def bSortedT : List D → Option T
  | [d] => (listTrs d).bind fun ps => if (ps.map (·.1)).Nodup then some (.lst (leafs ((tsort ps).map trD))) else none
  | _ => none
theorem trsOf_eq : ∀ {ds : List D} {ps : List Tri}, trsOf ds = some ps → ds = ps.map trD
  | [], _, h => by cases h; rfl
  | d :: ds, ps, h => by
    unfold trsOf at h
    split at h
    · rename_i heq; cases heq
    · rename_i i j e ds2 heq
      injection heq with e1 e2
      subst e1 e2
      cases h2 : trsOf ds with
      | none => rw [h2] at h; cases h
      | some qs => rw [h2] at h; cases h; rw [trsOf_eq h2]; rfl
    · cases h
theorem tsort_of {ps qs : List Tri} (hn : (ps.map (·.1)).Nodup) (h : qs.Perm ps) (hs : qs.Pairwise fun a b => triLe a b = true) : qs = tsort ps := by
  have tr : ∀ a b c : Tri, triLe a b = true → triLe b c = true → triLe a c = true := fun a b c h1 h2 => by
    unfold triLe at h1 h2 ⊢
    rw [lexLe_le] at h1 h2 ⊢
    omega
  have to : ∀ a b : Tri, (triLe a b || triLe b a) = true := fun a b => by
    unfold triLe
    rw [Bool.or_eq_true, lexLe_le, lexLe_le]
    omega
  have inj : ∀ a ∈ ps, ∀ b ∈ ps, a.1 = b.1 → a = b := nodup_inj hn
  refine List.Perm.eq_of_pairwise (le := fun a b => triLe a b = true) (fun a b ha hb h1 h2 => ?_) hs (List.pairwise_mergeSort tr to ps) (h.trans (List.mergeSort_perm ps triLe).symm)
  unfold triLe at h1 h2
  rw [lexLe_le] at h1 h2
  exact inj a (h.mem_iff.mp ha) b ((List.mergeSort_perm ps triLe).mem_iff.mp hb) (Prod.ext (by omega) (by omega))
theorem rvs_zipT : ∀ {ps : List Tri} {vs : List V}, Rvs K H O (ps.map trD) vs → vs.length = ps.length ∧ ∀ x ∈ vs.zip ps, Rv K H O (trD x.2) x.1
  | [], _, e => by cases (show _ = [] from e); exact ⟨rfl, fun x hx => by cases hx⟩
  | p :: ps, _, ⟨w, ws, e, a, r⟩ => by
    subst e
    obtain ⟨h1, h2⟩ := rvs_zipT r
    refine ⟨by rw [List.length_cons, List.length_cons, h1], fun x hx => ?_⟩
    rw [List.zip_cons_cons] at hx
    rcases List.mem_cons.mp hx with rfl | hx
    · exact a
    · exact h2 x hx
theorem rvs_of_zipT : ∀ {ps : List Tri} {vs : List V}, vs.length = ps.length → (∀ x ∈ vs.zip ps, Rv K H O (trD x.2) x.1) → Rvs K H O (ps.map trD) vs
  | [], [], _, _ => rfl
  | p :: ps, v :: vs, hl, h => ⟨v, vs, rfl, h (v, p) (by rw [List.zip_cons_cons]; exact List.mem_cons_self), rvs_of_zipT (by simpa using hl) fun x hx => h x (by rw [List.zip_cons_cons]; exact List.mem_cons_of_mem _ hx)⟩
  | [], _ :: _, hl, _ => by simp at hl
  | _ :: _, [], hl, _ => by simp at hl
theorem rv_tri {p : Tri} {v : V} (h : Rv K H O (trD p) v) : ∃ t r, v = .ref t ∧ SqT K H t [.int p.1.1, .int p.1.2, r] := by
  obtain ⟨t, vs, e, a, r⟩ := h
  obtain ⟨x, xs, rfl, ex, y, ys, rfl, ey, z, zs, rfl, ez, e2⟩ := r
  cases (show x = .int p.1.1 from ex)
  cases (show y = .int p.1.2 from ey)
  cases (show zs = [] from e2)
  exact ⟨t, z, e, a.sq⟩
def rSortedTW (K : PySem.W.Frag) : List V → Hp → VK → Prop := fun vs H Q => ∃ (a : Addr) (xs : List V) (ps : List Tri), vs = [V.ref a] ∧ SqL K H a xs ∧ xs.length = ps.length ∧ (ps.map (·.1)).Nodup ∧ (∀ x ∈ xs.zip ps, ∃ t r, x.1 = V.ref t ∧ SqT K H t [.int x.2.1.1, .int x.2.1.2, r]) ∧
  ∀ ys p, ys.length = (tsort ps).length → (∀ x ∈ ys.zip (tsort ps), x ∈ xs.zip ps) → H p = none → Q (.ref p) (upd H p (.lst ys))
theorem cr_sortedTW {X : Cx} : CallR X (.builtin "sorted") (rSortedTW X.K) := by
  intro pins s σ H vs us Q I r h
  obtain ⟨a, xs, ps, rfl, hs, hl, hn, hx, q⟩ := h
  have inj : ∀ a ∈ ps, ∀ b ∈ ps, a.1 = b.1 → a = b := nodup_inj hn
  have uniq1 : ∀ {v : V} {p p' : Tri}, (v, p) ∈ xs.zip ps → (v, p') ∈ xs.zip ps → p.1 = p'.1 := fun {v p p'} h1 h2 => by
    obtain ⟨t, r, e, ht⟩ := hx _ h1
    obtain ⟨t', r', e', ht'⟩ := hx _ h2
    have e : v = V.ref t := e
    have e' : v = V.ref t' := e'
    rw [e] at e'
    cases e'
    obtain ⟨i1, r1, ⟨o, ho, _, n, hd⟩, _⟩ := I.tuple ht
    obtain ⟨i2, r2, ⟨o', ho', _, n', hd'⟩, _⟩ := I.tuple ht'
    rw [ho] at ho'
    cases ho'
    rw [hd] at hd'
    injection hd' with z1 z2
    have z1 : i1 = i2 := by simpa using congrArg Array.toList z1
    subst z1
    cases r1 with
    | cons ri r1 =>
      cases r1 with
      | cons rj r1 =>
        cases r2 with
        | cons rk r2 =>
          cases r2 with
          | cons rl r2 =>
            obtain ⟨k1, rfl⟩ := ri
            obtain ⟨k2, rfl⟩ := rj
            obtain ⟨k3, e3⟩ := rk
            obtain ⟨k4, e4⟩ := rl
            injection e3 with e3 _
            injection e4 with e4 _
            exact Prod.ext e3 e4
  have uniq : ∀ {v : V} {p p' : Tri}, (v, p) ∈ xs.zip ps → (v, p') ∈ xs.zip ps → p = p' := fun {v p p'} h1 h2 => inj _ (List.of_mem_zip h1).2 _ (List.of_mem_zip h2).2 (uniq1 h1 h2)
  have ex : ∀ v : V, ∃ k : Tri, v ∈ xs → (v, k) ∈ xs.zip ps := fun v => by
    by_cases hv : v ∈ xs
    · obtain ⟨k, hk⟩ := mem_zipL hl hv
      exact ⟨k, fun _ => hk⟩
    · exact ⟨((0, 0), .non), fun z => absurd z hv⟩
  let k : V → Tri := fun v => (ex v).choose
  have hk : ∀ v ∈ xs, (v, k v) ∈ xs.zip ps := fun v hv => (ex v).choose_spec hv
  have e1 : xs.map k = ps := map_zip hl fun x hx' => uniq (hk x.1 (List.of_mem_zip hx').1) hx'
  have nd : (xs.map fun v => (k v).1).Nodup := by
    have e : (xs.map fun v => (k v).1) = (xs.map k).map (·.1) := by rw [List.map_map]; rfl
    rw [e, e1]; exact hn
  have kin : ∀ x ∈ xs, ∀ y ∈ xs, (k x).1 = (k y).1 → x = y := nodup_inj nd
  refine cr_sortedTG pins s σ H _ us Q I r ⟨a, xs, fun v => (k v).1, rfl, hs, fun x hx' => hx _ (hk x hx'), kin, fun ys p' srt stb hp' => ?_⟩
  have e2 : ys.map k = tsort ps := by
    refine tsort_of hn ?_ ?_
    · have := stb.perm.map k
      rw [e1] at this
      exact this
    · rw [List.pairwise_map]
      refine srt.imp fun {x y} hxy => ?_
      have := SrtO.lexB_no.mp hxy
      dsimp only at this
      unfold triLe
      rw [lexLe_le]
      omega
  refine q ys p' (by rw [← e2, List.length_map]) (fun x hx' => ?_) hp'
  rw [← e2] at hx'
  obtain ⟨h1, h2⟩ := zip_map_mem hx'
  have := hk x.1 (stb.perm.mem_iff.mp h1)
  rw [← h2] at this
  exact this
theorem s_sortedT : OpA K (rSortedTW K) bSortedT := by
  intro H O xs ds t Q hn r h q
  unfold bSortedT at h
  split at h
  · rename_i d
    obtain ⟨v, vs', rfl, a, e⟩ := r
    cases (show vs' = [] from e)
    cases e1 : listTrs d with
    | none => rw [e1] at h; cases h
    | some ps =>
      rw [e1] at h
      have h : (if (ps.map (·.1)).Nodup then some (T.lst (leafs ((tsort ps).map trD))) else none) = some t := h
      split at h
      · rename_i nd
        cases h
        obtain ⟨p, vs, rfl, hs, rv⟩ : ∃ p vs, v = .ref p ∧ SqL K H p vs ∧ Rvs K H O (ps.map trD) vs := by
          unfold listTrs at e1
          split at e1
          · rename_i es
            obtain ⟨p, vs, rfl, hp, rs⟩ := a
            rw [trsOf_eq e1] at rs
            exact ⟨p, vs, rfl, SqL.of hp, rs⟩
          · rename_i es
            obtain ⟨p, vs, rfl, hp, rs⟩ := a
            rw [trsOf_eq e1] at rs
            exact ⟨p, vs, rfl, hp, rs⟩
          · cases e1
        obtain ⟨hl, hz⟩ := rvs_zipT rv
        refine ⟨p, vs, ps, rfl, hs, hl, nd, fun x hx => rv_tri (hz x hx), fun ys p' h1 h2 hp' => ?_⟩
        exact ansL hn hp' (rvs_of_zipT h1 fun x hx => hz x (h2 x hx)) q
      · cases h
  · cases h
end
end KM
/-! xs[i] += n, of an own list of ints. -/
namespace KM
open PySem PySem.Spec PySem.Calls PyProof.Rows L2 Evl KP
def rGetN : V → V → Hp → VK → Prop := fun o i H Q => ∃ p xs k v, o = .ref p ∧ i = .int k ∧ H p = some (.lst xs) ∧ 0 ≤ k ∧ xs[k.toNat]? = some v ∧ Q v H
theorem get_listN {X : Cx} : PGet X rGetN := by
  intro pins s σ H o i ov iv Q I ro ri h
  obtain ⟨p, xs, k, v, rfl, rfl, hp, h0, hv, q⟩ := h
  cases ro
  obtain ⟨t, rfl⟩ := ri
  obtain ⟨its, n, r, e, z⟩ := I.lst hp
  obtain ⟨w, ew, rw'⟩ := r.get hv
  have hk := (List.getElem?_eq_some_iff.mp hv).1
  have hz := line63
  exact wpAny_getItem_list (items := its.toArray) ⟨_, e, rfl, n, rfl⟩ h0 (by omega) (by simpa using ew) ⟨v, H, I, rw', q⟩
section
variable {K : PySem.W.Frag} {Wx : WX} {Fz : List Nat}
def augZ (ds : List D) (k b : Int) : Option (List D) := if 0 ≤ k then match ds[k.toNat]? with
    | some (.int a) => some (ds.set k.toNat (.int (a + b)))
    | _ => none
  else none
def augO (i : Nat) (t : T) (d : Option D) (e : KM.Env) : Out := match t with
  | .val (.int k) => match d with
    | some (.int b) => match nodeOf e i [] with
      | some (.lst ts) => match unvals ts with
        | some ds => match augZ ds k b with
          | some ds' => .nx (putAt e i [] (.lst (leafs ds')))
          | none => .stuck
        | none => .stuck
      | _ => .stuck
    | _ => .stuck
  | _ => .stuck
def sAugI (i : Nat) (m : M T) (pe : KM.Env → Option D) : SM := fun env => match nodeOf env i [] with
  | some _ => thenS m (fun t e => augO i t (pe e) e) env
  | none => .stuck
theorem unvals_eqL : ∀ {ts : List T} {ds : List D}, unvals ts = some ds → ts = leafs ds
  | [], _, h => by cases h; rfl
  | t :: ts, ds, h => by
    cases t with
    | val d =>
      unfold unvals at h
      cases z : unvals ts with
      | none => rw [z] at h; cases h
      | some xs => rw [z] at h; cases h; rw [unvals_eqL z]; rfl
    | _ => cases h
theorem is_augS {i : Nat} {m pe} {ti te : TE} (a : IO K Wx ti m) (c : IQ K te pe) : IS K Wx Fz (tAugS (tVar i) ti te rGetN (L2.ipI fun i j => i + j) rSetL) (sAugI i m pe) := fun Oo W σ H env A E q => by
  unfold sAugI at q
  cases e0 : nodeOf env i [] with
  | none => rw [e0] at q; exact q.elim
  | some u0 =>
    rw [e0] at q
    obtain ⟨t0, r0, ht0, _, h10, _⟩ := E.node e0
    refine ⟨r0, h10, ?_⟩
    refine a Oo W σ H env _ E ((thenS_to q).mono (fun t e q v H1 W1 fp l1 E1 nd nf o => ?_) fun _ _ _ _ x => x)
    unfold augO at q
    cases t with
    | val kd =>
      cases kd with
      | int k =>
        dsimp only at q
        obtain ⟨ef, ev⟩ := o
        subst ef
        cases (show v = .int k from ev)
        cases e2 : pe e with
        | none => rw [e2] at q; exact q.elim
        | some bd =>
          rw [e2] at q
          cases bd with
          | int b =>
            dsimp only at q
            cases e3 : nodeOf e i [] with
            | none => rw [e3] at q; exact q.elim
            | some u =>
              rw [e3] at q
              cases u with
              | lst ts =>
                dsimp only at q
                cases e4 : unvals ts with
                | none => rw [e4] at q; exact q.elim
                | some ds =>
                  rw [e4] at q
                  dsimp only at q
                  cases e5 : augZ ds k b with
                  | none => rw [e5] at q; exact q.elim
                  | some ds' =>
                    rw [e5] at q
                    dsimp only at q
                    have ets := unvals_eqL e4
                    subst ets
                    unfold augZ at e5
                    split at e5
                    · rename_i k0
                      split at e5
                      · rename_i a0 hd
                        cases e5
                        have E1' : ER K (Oo ++ []) W1 σ H1 e := E1
                        obtain ⟨p, vs, fq, ev2, hp, rs, g1, g2, g3, g4, go⟩ := ER.chgL (us := []) E1' nf e3 (show OpdR K H1 (Oo ++ [] ++ W1) σ (.loc i []) r0 from ⟨r0, h10, rfl⟩)
                        subst ev2
                        have ht : (leafs ds)[k.toNat]? = some (.val (.int a0)) := by
                          unfold leafs
                          rw [List.getElem?_map, hd]; rfl
                        obtain ⟨v0, A1, f1, B1, c1, c2, c3, c4⟩ := rs.at ht
                        obtain ⟨f0, ev0⟩ := c3
                        cases (show v0 = .int a0 from ev0)
                        refine ⟨p, vs, k, .int a0, rfl, rfl, hp, k0, c1, ?_⟩
                        refine c (Oo ++ []) W1 σ H1 e _ E1 ⟨_, e2, fun iv H3 x3 r3 => ?_⟩
                        cases (show iv = V.int b from r3)
                        refine ⟨a0, b, rfl, rfl, ?_⟩
                        have E3 : ER K (Oo ++ []) W1 σ H3 e := E1.ex x3
                        have l3 := l1.trans (Lv.ex x3)
                        obtain ⟨p', vs', fq', ev2, hp', rs', g1, g2, g3, g4, go⟩ := ER.chgL (us := []) E3 nf e3 (show OpdR K H3 (Oo ++ [] ++ W1) σ (.loc i []) (.ref p) from ⟨_, h10, rfl⟩)
                        cases ev2
                        obtain ⟨v0', A1', f1', B1', c1', c2', c3', c4'⟩ := rs'.at ht
                        have hk := (List.getElem?_eq_some_iff.mp c1').1
                        refine ⟨p, vs', k, k.toNat, rfl, rfl, hp', by unfold ixN; rw [if_pos k0, if_pos (by omega)], ?_⟩
                        subst c2'
                        have ndq := List.nodup_append.mp g2
                        have ndq1 := List.nodup_append.mp ndq.1
                        obtain ⟨W', lw, Ew⟩ := go (leafs (ds.set k.toNat (.int (a0 + b)))) (vs'.set k.toNat (.int (a0 + b))) (A1' ++ [] ++ B1') (fun q hq => by simp at hq ⊢; rcases hq with y | y <;> simp [y])
                          (by rw [List.append_nil]; exact List.nodup_append.mpr ⟨ndq1.1, ndq.2.1, fun a ha b hb z => ndq.2.2 a (List.mem_append_left _ ha) b hb z⟩)
                          fun O' l same => by
                            have el : leafs (ds.set k.toNat (.int (a0 + b))) = (leafs ds).set k.toNat (.val (.int (a0 + b))) := by
                              unfold leafs
                              rw [List.map_set]
                            rw [el]
                            refine c4' l (fun q hq => same q fun z => g1 ?_) ⟨rfl, rfl⟩
                            rw [← z]; simp at hq ⊢; rcases hq with y | y <;> simp [y]
                        exact q σ _ W' (l3.trans lw) Ew (Kept.refl _)
                      · cases e5
                    · cases e5
              | _ => exact q.elim
          | _ => exact q.elim
      | _ => exact q.elim
    | _ => exact q.elim
end
/-! a, b = x, y -/
section
variable {K : PySem.W.Frag} {Wx : WX} {Fz : List Nat}
def sPar (i j : Nat) (m : M (List D)) : SM := thenS m fun ds e => match ds with
  | [d1, d2] => .nx ((e.set i (some (.val d1))).set j (some (.val d2)))
  | _ => .stuck
theorem is_par {i j : Nat} {m} {tas : TA} (hi : Fz.contains i = false) (hj : Fz.contains j = false) (a : IAV K Wx tas m) : IS K Wx Fz (tPar i j tas) (sPar i j m) := fun Oo W σ H env A E q => by
  refine a Oo W σ H env _ E ((thenS_to q).mono (fun ds e q vs H' W' l E' rs => ?_) fun _ _ _ _ x => x)
  split at q
  · rename_i d1 d2
    obtain ⟨v, vs1, rfl, r1, w, vs2, rfl, r2, e2⟩ := rs
    cases (show vs2 = [] from e2)
    obtain ⟨W2, s2, E2⟩ := E'.storeV r1 i
    have r2' : Rv K H' (Oo ++ W2) d2 w := r2.lv (Lv.sub fun p hp => by
      rcases List.mem_append.mp hp with h | h
      · exact List.mem_append_left _ h
      · exact List.mem_append_right _ (s2 p h))
    obtain ⟨W3, s3, E3⟩ := E2.storeV r2' j
    exact ⟨v, w, rfl, q _ H' W3 (l.trans (Lv.less fun p hp => s2 p (s3 p hp))) E3 ((Kept.set hi).trans (Kept.set hj))⟩
  · exact q.elim
end
end KM
namespace KL
open PySem PySem.Spec PyProof.Rows L2 Evl KP KM
def top (i : Nat) : Stmt := PySem.Challenge.pw_keptpictures_k34_whole_least_lengths.main.body.getD i (.Pass ⟨0, 0, 0, 0⟩)
abbrev s_law_draw : Stmt := (top 4)
abbrev N_law_draw : List Str := ["drawer", "many", "value", "one", "two"]
theorem sc_law_draw : FnScope N_law_draw ["drawer", "many"] (defScope s_law_draw) := ⟨rfl, rfl, rfl, by decide +kernel, rfl, by decide +kernel, by decide +kernel⟩
abbrev s_law_dealt : Stmt := (top 9)
abbrev N_law_dealt : List Str := ["drawer", "row", "left", "dealt", "k"]
theorem sc_law_dealt : FnScope N_law_dealt ["drawer", "row"] (defScope s_law_dealt) := ⟨rfl, rfl, rfl, by decide +kernel, rfl, by decide +kernel, by decide +kernel⟩
abbrev s_law_pick : Stmt := (top 5)
abbrev N_law_pick : List Str := ["drawer", "choices"]
theorem sc_law_pick : FnScope N_law_pick ["drawer", "choices"] (defScope s_law_pick) := ⟨rfl, rfl, rfl, by decide +kernel, rfl, by decide +kernel, by decide +kernel⟩
abbrev s_law_some_counts : Stmt := (top 10)
abbrev N_law_some_counts : List Str := ["drawer", "many", "k", "most", "counts"]
theorem sc_law_some_counts : FnScope N_law_some_counts ["drawer"] (defScope s_law_some_counts) := ⟨rfl, rfl, rfl, by decide +kernel, rfl, by decide +kernel, by decide +kernel⟩
abbrev s_law_drawer : Stmt := (top 3)
abbrev N_law_drawer : List Str := ["script", "k", "cell", "seed"]
theorem sc_law_drawer : FnScope N_law_drawer ["script", "k"] (defScope s_law_drawer) := ⟨rfl, rfl, rfl, by decide +kernel, rfl, by decide +kernel, by decide +kernel⟩
abbrev s_law_complete : Stmt := (top 6)
abbrev N_law_complete : List Str := ["drawer", "many", "lengths", "k", "place"]
theorem sc_law_complete : FnScope N_law_complete ["drawer", "many"] (defScope s_law_complete) := ⟨rfl, rfl, rfl, by decide +kernel, rfl, by decide +kernel, by decide +kernel⟩
abbrev s_least_lengths : Stmt := (top 1)
abbrev N_least_lengths : List Str := ["counts", "lengths", "place", "groups", "ordered", "least", "second", "places", "joined", "count"]
theorem sc_least_lengths : FnScope N_least_lengths ["counts"] (defScope s_least_lengths) := ⟨rfl, rfl, rfl, by decide +kernel, rfl, by decide +kernel, by decide +kernel⟩
abbrev s_law_int : Stmt := (top 7)
abbrev N_law_int : List Str := ["value"]
theorem sc_law_int : FnScope N_law_int ["value"] (defScope s_law_int) := ⟨rfl, rfl, rfl, by decide +kernel, rfl, by decide +kernel, by decide +kernel⟩
abbrev s_law_complete_ones : Stmt := (top 13)
abbrev N_law_complete_ones : List Str := ["lengths", "many", "total", "length"]
theorem sc_law_complete_ones : FnScope N_law_complete_ones ["lengths", "many"] (defScope s_law_complete_ones) := ⟨rfl, rfl, rfl, by decide +kernel, rfl, by decide +kernel, by decide +kernel⟩
abbrev s_law_same : Stmt := (top 8)
abbrev N_law_same : List Str := ["got", "due", "k"]
theorem sc_law_same : FnScope N_law_same ["got", "due"] (defScope s_law_same) := ⟨rfl, rfl, rfl, by decide +kernel, rfl, by decide +kernel, by decide +kernel⟩
abbrev s_law_cost : Stmt := (top 12)
abbrev N_law_cost : List Str := ["counts", "lengths", "k"]
theorem sc_law_cost : FnScope N_law_cost ["counts", "lengths"] (defScope s_law_cost) := ⟨rfl, rfl, rfl, by decide +kernel, rfl, by decide +kernel, by decide +kernel⟩
abbrev s_law_joined : Stmt := (top 11)
abbrev N_law_joined : List Str := ["counts", "weights", "ranks", "above", "groups", "turn", "group", "ordered", "one", "two", "lengths", "place", "length", "count"]
theorem sc_law_joined : FnScope N_law_joined ["counts"] (defScope s_law_joined) := ⟨rfl, rfl, rfl, by decide +kernel, rfl, by decide +kernel, by decide +kernel⟩
abbrev s_law_least : Stmt := (top 14)
abbrev N_law_least : List Str := ["counts", "rival", "handed", "told"]
theorem sc_law_least : FnScope N_law_least ["counts", "rival"] (defScope s_law_least) := ⟨rfl, rfl, rfl, by decide +kernel, rfl, by decide +kernel, by decide +kernel⟩
abbrev s_law : Stmt := (top 15)
abbrev N_law : List Str := ["script", "counts", "rival", "drawer"]
theorem sc_law : FnScope N_law ["script"] (defScope s_law) := ⟨rfl, rfl, rfl, by decide +kernel, rfl, by decide +kernel, by decide +kernel⟩
def d_law_draw : He.DefD := ⟨("_law_draw", none), "_law_draw", "_law_draw", defArgs s_law_draw, defBody s_law_draw, defScope s_law_draw, [], []⟩
def d_law_dealt : He.DefD := ⟨("_law_dealt", none), "_law_dealt", "_law_dealt", defArgs s_law_dealt, defBody s_law_dealt, defScope s_law_dealt, [], []⟩
def d_law_pick : He.DefD := ⟨("_law_pick", none), "_law_pick", "_law_pick", defArgs s_law_pick, defBody s_law_pick, defScope s_law_pick, [], []⟩
def d_law_some_counts : He.DefD := ⟨("_law_some_counts", none), "_law_some_counts", "_law_some_counts", defArgs s_law_some_counts, defBody s_law_some_counts, defScope s_law_some_counts, [], []⟩
def d_law_drawer : He.DefD := ⟨("_law_drawer", none), "_law_drawer", "_law_drawer", defArgs s_law_drawer, defBody s_law_drawer, defScope s_law_drawer, [], []⟩
def d_law_complete : He.DefD := ⟨("_law_complete", none), "_law_complete", "_law_complete", defArgs s_law_complete, defBody s_law_complete, defScope s_law_complete, [], []⟩
def d_least_lengths : He.DefD := ⟨("least_lengths", none), "least_lengths", "least_lengths", defArgs s_least_lengths, defBody s_least_lengths, defScope s_least_lengths, [], []⟩
def d_law_int : He.DefD := ⟨("_law_int", none), "_law_int", "_law_int", defArgs s_law_int, defBody s_law_int, defScope s_law_int, [], []⟩
def d_law_complete_ones : He.DefD := ⟨("_law_complete_ones", none), "_law_complete_ones", "_law_complete_ones", defArgs s_law_complete_ones, defBody s_law_complete_ones, defScope s_law_complete_ones, [], []⟩
def d_law_same : He.DefD := ⟨("_law_same", none), "_law_same", "_law_same", defArgs s_law_same, defBody s_law_same, defScope s_law_same, [], []⟩
def d_law_cost : He.DefD := ⟨("_law_cost", none), "_law_cost", "_law_cost", defArgs s_law_cost, defBody s_law_cost, defScope s_law_cost, [], []⟩
def d_law_joined : He.DefD := ⟨("_law_joined", none), "_law_joined", "_law_joined", defArgs s_law_joined, defBody s_law_joined, defScope s_law_joined, [], []⟩
def d_law_least : He.DefD := ⟨("_law_least", none), "_law_least", "_law_least", defArgs s_law_least, defBody s_law_least, defScope s_law_least, [], []⟩
def d_law : He.DefD := ⟨("law", none), "law", "law", defArgs s_law, defBody s_law, defScope s_law, [], []⟩
def fn : List He.DefD := [d_law_draw, d_law_dealt, d_law_pick, d_law_some_counts, d_law_drawer, d_law_complete, d_least_lengths, d_law_int, d_law_complete_ones, d_law_same, d_law_cost, d_law_joined, d_law_least, d_law]
def fa : List He.Fa := [.free "int", .glo "_law_draw", .free "list", .free "len", .free "range", .glo "_law_dealt", .glo "_law_pick", .glo "_law_some_counts", .free "abs", .glo "_law_drawer", .glo "_law_complete", .free "enumerate", .free "sorted", .free "min", .free "tuple", .glo "least_lengths", .free "isinstance", .free "bool", .glo "_law_int", .glo "_law_complete_ones", .free "str", .glo "_law_same", .free "sum", .glo "_law_cost", .glo "_law_joined", .glo "_law_least", .glo "law"]
def ex : List KP.Ex1 := []
abbrev Hd (K : PySem.W.Frag) (mg : Str → Option Value) : Prop := KP.Hd fa fn ex K mg
section
variable {P : Program} {w : World} {K : PySem.W.Frag} {mg : Str → Option Value} {base : Heap}
def m_law_draw : MF := fnM [false, false] 3
      (sSeq (sIf (tst (vO (oOp opGt (bV (vO (oOp opIx (nmM 0) (bV (vM (pC (.int 0))))))) (bV (vM (pC (.int 1))))))) (sSeq (sAsg 2 (oV (vO (oOp opMod (bV (vO (oA bInt (aCons (bV (vO (oOp opIx (nmM 0) (bV (vM (pC (.int 0))))))) aNil)))) (nmM 1)))))
      (sSeq (sPut (oV (vO (oOp opFdiv (bV (vO (oOp opIx (nmM 0) (bV (vM (pC (.int 0))))))) (nmM 1)))) (pNm 0) (pC (.int 0)))
      (sRet (oV (vL (pNm 2)))))) sNil)
      (sSeq (sPut (oV (vO (oOp opAdd (bV (vO (oOp opIx (nmM 0) (bV (vM (pC (.int 2))))))) (bV (vM (pC (.int 1))))))) (pNm 0) (pC (.int 2)))
      (sSeq (sAsg 3 (oV (vO (oOp opMod (bV (vO (oA bInt (aCons (bV (vO (oOp opAdd (bV (vO (oOp opAdd (bV (vO (oOp opMul (bV (vO (oOp opIx (nmM 0) (bV (vM (pC (.int 1))))))) (bV (vM (pC (.int 48271))))))) (bV (vO (oOp opMul (bV (vO (oOp opIx (nmM 0) (bV (vM (pC (.int 2))))))) (bV (vM (pC (.int 69621)))))))))) (bV (vM (pC (.int 12345))))))) aNil)))) (bV (vM (pC (.int 2147483647))))))))
      (sSeq (sAsg 4 (oV (vO (oOp opMod (bV (vO (oA bInt (aCons (bV (vO (oOp opAdd (bV (vO (oOp opMul (nmM 3) (bV (vO (oOp opAdd (bV (vO (oOp opFdiv (nmM 3) (bV (vM (pC (.int 3))))))) (bV (vM (pC (.int 40014)))))))))) (bV (vO (oOp opMul (bV (vO (oOp opIx (nmM 0) (bV (vM (pC (.int 2))))))) (bV (vM (pC (.int 7919)))))))))) aNil)))) (bV (vM (pC (.int 2147483563))))))))
      (sRet (oV (vO (oOp opMod (bV (vO (oA bInt (aCons (bV (vO (oOp opFdiv (nmM 4) (bV (vM (pC (.int 11))))))) aNil)))) (nmM 1)))))))))
theorem ok_law_draw (hd : Hd K mg) {fd : FuncData} (F : FunD K d_law_draw.name d_law_draw.qual d_law_draw.params d_law_draw.body d_law_draw.scope (d_law_draw.dvs K) (d_law_draw.kws K) (He.fAd K d_law_draw.at_) fd) : FnOk P w K mg base (L2.CX P w) 1 (He.fAd K d_law_draw.at_) fd ["drawer", "many"] (spM K 2 m_law_draw) := by
  refine FunD.ok F sc_law_draw (fun vs H Q E h => h.1) (fun cdv A outer s H vs Q E hr h => ?_)
  exact ⟨_, (pss_cons (ps_if (pt_cmpR op_gtG (pe_ix ix_G (pv 0) pe_int (fun _ _ => rfl)) pe_int (nomark _)) (pss_cons (ps_set (i := 2) sc_law_draw.nd rfl (Or.inl rfl) (pe_op op_mod (pe_callTy g_int (by rfl) (hd.free 0) (by decide +kernel) (pa_cons (pe_ix ix_G (pv 0) pe_int (fun _ _ => rfl)) pa_nil)) (pv 1)))
      (pss_cons (ps_asg (pe_op op_fdivW (pe_ix ix_G (pv 0) pe_int (fun _ _ => rfl)) (pv 1)) (pg_sub (pv 0) pe_int set_list))
      (pss_one (ps_ret (pv 2))))) pss_nil)
      (pss_cons (ps_asg (pe_op op_addG (pe_ix ix_G (pv 0) pe_int (fun _ _ => rfl)) pe_int) (pg_sub (pv 0) pe_int set_list))
      (pss_cons (ps_set (i := 3) sc_law_draw.nd rfl (Or.inl rfl) (pe_op op_mod (pe_callTy g_int (by rfl) (hd.free 0) (by decide +kernel) (pa_cons (pe_op op_addG (pe_op op_addG (pe_op op_mulH (pe_ix ix_G (pv 0) pe_int (fun _ _ => rfl)) pe_int) (pe_op op_mulH (pe_ix ix_G (pv 0) pe_int (fun _ _ => rfl)) pe_int)) pe_int) pa_nil)) pe_int))
      (pss_cons (ps_set (i := 4) sc_law_draw.nd rfl (Or.inl rfl) (pe_op op_mod (pe_callTy g_int (by rfl) (hd.free 0) (by decide +kernel) (pa_cons (pe_op op_addG (pe_op op_mulH (pv 3) (pe_op op_addG (pe_op op_fdivW (pv 3) pe_int) pe_int)) (pe_op op_mulH (pe_ix ix_G (pv 0) pe_int (fun _ _ => rfl)) pe_int)) pa_nil)) pe_int))
      (pss_one (ps_ret (pe_op op_mod (pe_callTy g_int (by rfl) (hd.free 0) (by decide +kernel) (pa_cons (pe_op op_fdivW (pv 4) pe_int) pa_nil)) (pv 1)))))))),
    fn_body (fl := [false, false]) (n := 2) (k := 3) (is_seq (is_if (it_test (io_iv (io_op s_ord (iv_ib (io_iv (io_op s_ix (nm_ib 0) (iv_ib (iq_iv c_int))))) (iv_ib (iq_iv c_int))))) (is_seq (is_asg (by rfl) (iv_io (io_iv (io_op s_mod (iv_ib (io_iv (io_cb s_int (ia_cons (iv_ib (io_iv (io_op s_ix (nm_ib 0) (iv_ib (iq_iv c_int))))) ia_nil)))) (nm_ib 1)))))
      (is_seq (is_put (iv_io (io_iv (io_op s_fdiv (iv_ib (io_iv (io_op s_ix (nm_ib 0) (iv_ib (iq_iv c_int))))) (nm_ib 1)))) (nm_il 0) c_int)
      (is_ret (iv_io (il_iv (nm_il 2)))))) is_nil)
      (is_seq (is_put (iv_io (io_iv (io_op s_add (iv_ib (io_iv (io_op s_ix (nm_ib 0) (iv_ib (iq_iv c_int))))) (iv_ib (iq_iv c_int))))) (nm_il 0) c_int)
      (is_seq (is_asg (by rfl) (iv_io (io_iv (io_op s_mod (iv_ib (io_iv (io_cb s_int (ia_cons (iv_ib (io_iv (io_op s_add (iv_ib (io_iv (io_op s_add (iv_ib (io_iv (io_op s_mul (iv_ib (io_iv (io_op s_ix (nm_ib 0) (iv_ib (iq_iv c_int))))) (iv_ib (iq_iv c_int))))) (iv_ib (io_iv (io_op s_mul (iv_ib (io_iv (io_op s_ix (nm_ib 0) (iv_ib (iq_iv c_int))))) (iv_ib (iq_iv c_int)))))))) (iv_ib (iq_iv c_int))))) ia_nil)))) (iv_ib (iq_iv c_int))))))
      (is_seq (is_asg (by rfl) (iv_io (io_iv (io_op s_mod (iv_ib (io_iv (io_cb s_int (ia_cons (iv_ib (io_iv (io_op s_add (iv_ib (io_iv (io_op s_mul (nm_ib 3) (iv_ib (io_iv (io_op s_add (iv_ib (io_iv (io_op s_fdiv (nm_ib 3) (iv_ib (iq_iv c_int))))) (iv_ib (iq_iv c_int)))))))) (iv_ib (io_iv (io_op s_mul (iv_ib (io_iv (io_op s_ix (nm_ib 0) (iv_ib (iq_iv c_int))))) (iv_ib (iq_iv c_int)))))))) ia_nil)))) (iv_ib (iq_iv c_int))))))
      (is_ret (iv_io (io_iv (io_op s_mod (iv_ib (io_iv (io_cb s_int (ia_cons (iv_ib (io_iv (io_op s_fdiv (nm_ib 4) (iv_ib (iq_iv c_int))))) ia_nil)))) (nm_ib 1))))))))) rfl h⟩
theorem cal_law_draw (hd : Hd K mg) : CalX P w K mg base 1 "_law_draw" ["drawer", "many"] (spM K 2 m_law_draw) := by
  obtain ⟨fd, F⟩ := hd.def_ 0
  exact .mk' (hd.glo 1) F.kp (FunD.bindsN F fun _ _ _ _ _ _ us hl => match us, hl with | [_, _], _ => rfl) (ok_law_draw hd F)
def l_law_dealt_0 : SM := (sDrop (mApp 3 (mLM 2 lPopAt (vCons (vO (callM m_law_draw (aCons (nmM 0) (aCons (bV (vO (oA bLen (aCons (nmM 2) aNil)))) aNil)))) vNil))))
def m_law_dealt : MF := fnM [false, false] 3
      (sSeq (sAsg 2 (oA bList (aCons (nmM 1) aNil)))
      (sSeq (sAsg 3 (oLst vNil))
      (sSeq (sFor (iR1 (vCons (vO (oA bLen (aCons (nmM 1) aNil))) vNil)) (gNm 4) l_law_dealt_0)
      (sRet (oV (vL (pNm 3)))))))
theorem ok_law_dealt (hd : Hd K mg) {fd : FuncData} (F : FunD K d_law_dealt.name d_law_dealt.qual d_law_dealt.params d_law_dealt.body d_law_dealt.scope (d_law_dealt.dvs K) (d_law_dealt.kws K) (He.fAd K d_law_dealt.at_) fd) : FnOk P w K mg base (L2.CX P w) 2 (He.fAd K d_law_dealt.at_) fd ["drawer", "row"] (spM K 2 m_law_dealt) := by
  refine FunD.ok F sc_law_dealt (fun vs H Q E h => h.1) (fun cdv A outer s H vs Q E hr h => ?_)
  exact ⟨_, (pss_cons (ps_set (i := 2) sc_law_dealt.nd rfl (Or.inl rfl) (pe_callTy g_list (by rfl) (hd.free 2) (by decide +kernel) (pa_cons (pv 1) pa_nil)))
      (pss_cons (ps_set (i := 3) sc_law_dealt.nd rfl (Or.inl rfl) (pe_lst pa_nil))
      (pss_cons (ps_for (passes_of rfl) rfl (pi_range1 rfl (hd.free 4) (pa_cons (pe_callB g_len (by rfl) (hd.free 3) (by decide +kernel) (pa_cons (pv 1) pa_nil)) pa_nil)) (pg_name (i := 4) sc_law_dealt.nd rfl (Or.inl rfl))
      (pss_one (ps_expr (pe_bm PySem.F.plainAttrs_list PySem.F.slot_list_append PySem.F.type_list_append mt_append (pv 3) (pa_cons (pe_bm PySem.F.plainAttrs_list PySem.F.slot_list_pop PySem.F.type_list_pop mt_popAt (pv 2) (pa_cons (pe_calX (sp := spM K 2 m_law_draw) (cal_law_draw hd) (hr.mono (by decide)) rfl (takes_of rfl rfl rfl rfl) (pa_cons (pv 0) (pa_cons (pe_callB g_len (by rfl) (hd.free 3) (by decide +kernel) (pa_cons (pv 2) pa_nil)) pa_nil))) pa_nil)) pa_nil)))))
      (pss_one (ps_ret (pv 3)))))),
    fn_body (fl := [false, false]) (n := 2) (k := 3) (is_seq (is_asg (by rfl) (io_cb s_list (ia_cons (nm_ib 1) ia_nil)))
      (is_seq (is_asg (by rfl) (io_lst iav_nil))
      (is_seq (is_for (by rfl) (ii_R1 (iav_cons (io_iv (io_cb s_len (ia_cons (nm_ib 1) ia_nil))) iav_nil)) (ig_nm (i := 4))
      (is_drop (io_append (io_lm s_popAt (iav_cons (io_iv (io_call (n := 2) (fun _ => .inr trivial) (ia_cons (nm_ib 0) (ia_cons (iv_ib (io_iv (io_cb s_len (ia_cons (nm_ib 2) ia_nil)))) ia_nil)) (aC_len (aC_len aN_len)))) iav_nil)))))
      (is_ret (iv_io (il_iv (nm_il 3))))))) rfl h⟩
theorem cal_law_dealt (hd : Hd K mg) : CalX P w K mg base 2 "_law_dealt" ["drawer", "row"] (spM K 2 m_law_dealt) := by
  obtain ⟨fd, F⟩ := hd.def_ 1
  exact .mk' (hd.glo 5) F.kp (FunD.bindsN F fun _ _ _ _ _ _ us hl => match us, hl with | [_, _], _ => rfl) (ok_law_dealt hd F)
def m_law_pick : MF := fnM [false, false] 0
      (sRet (oV (vO (oOp opIx (nmM 1) (bV (vO (callM m_law_draw (aCons (nmM 0) (aCons (bV (vO (oA bLen (aCons (nmM 1) aNil)))) aNil)))))))))
theorem ok_law_pick (hd : Hd K mg) {fd : FuncData} (F : FunD K d_law_pick.name d_law_pick.qual d_law_pick.params d_law_pick.body d_law_pick.scope (d_law_pick.dvs K) (d_law_pick.kws K) (He.fAd K d_law_pick.at_) fd) : FnOk P w K mg base (L2.CX P w) 2 (He.fAd K d_law_pick.at_) fd ["drawer", "choices"] (spM K 2 m_law_pick) := by
  refine FunD.ok F sc_law_pick (fun vs H Q E h => h.1) (fun cdv A outer s H vs Q E hr h => ?_)
  exact ⟨_, (pss_one (ps_ret (pe_ix ix_G (pv 1) (pe_calX (sp := spM K 2 m_law_draw) (cal_law_draw hd) (hr.mono (by decide)) rfl (takes_of rfl rfl rfl rfl) (pa_cons (pv 0) (pa_cons (pe_callB g_len (by rfl) (hd.free 3) (by decide +kernel) (pa_cons (pv 1) pa_nil)) pa_nil))) (fun _ _ => rfl)))),
    fn_body (fl := [false, false]) (n := 2) (k := 0) (is_ret (iv_io (io_iv (io_op s_ix (nm_ib 1) (iv_ib (io_iv (io_call (n := 2) (fun _ => .inr trivial) (ia_cons (nm_ib 0) (ia_cons (iv_ib (io_iv (io_cb s_len (ia_cons (nm_ib 1) ia_nil)))) ia_nil)) (aC_len (aC_len aN_len))))))))) rfl h⟩
theorem cal_law_pick (hd : Hd K mg) : CalX P w K mg base 2 "_law_pick" ["drawer", "choices"] (spM K 2 m_law_pick) := by
  obtain ⟨fd, F⟩ := hd.def_ 2
  exact .mk' (hd.glo 6) F.kp (FunD.bindsN F fun _ _ _ _ _ _ us hl => match us, hl with | [_, _], _ => rfl) (ok_law_pick hd F)
def l_law_some_counts_0 : M T := (oV (vO (oOp opShl (bV (vM (pC (.int 1)))) (nmM 2))))
def l_law_some_counts_1 : SM := (sIf (tand (tst (vO (oOp opGt (nmM 2) (bV (vM (pC (.int 0))))))) (tst (vO (oOp (opEq false) (bV (vO (callM m_law_draw (aCons (nmM 0) (aCons (bV (vM (pC (.int 4)))) aNil))))) (bV (vM (pC (.int 0)))))))) (sDrop (mApp 4 (oV (vO (oOp opIx (nmM 4) (bV (vO (oU opNeg (bV (vM (pC (.int 1)))))))))))) (sDrop (mApp 4 (callM m_law_draw (aCons (nmM 0) (aCons (bV (vL (pNm 3))) aNil))))))
def m_law_some_counts : MF := fnM [false] 4
      (sSeq (sAsg 1 (oV (vO (oOp opAdd (bV (vM (pC (.int 1)))) (bV (vO (callM m_law_draw (aCons (nmM 0) (aCons (bV (vM (pC (.int 16)))) aNil)))))))))
      (sSeq (sIf (tst (vO (oOp (opEq false) (bV (vO (callM m_law_draw (aCons (nmM 0) (aCons (bV (vM (pC (.int 6)))) aNil))))) (bV (vM (pC (.int 0))))))) (sRet (callM m_law_dealt (aCons (nmM 0) (aCons (bV (vO (lcM [2] (iR1 (vCons (vL (pNm 1)) vNil)) (gNm 2) tYesM l_law_some_counts_0))) aNil)))) sNil)
      (sSeq (sAsg 3 (callM m_law_pick (aCons (nmM 0) (aCons (bV (vO (oLst (vCons (vM (pC (.int 2))) (vCons (vM (pC (.int 4))) (vCons (vM (pC (.int 10))) (vCons (vM (pC (.int 100))) (vCons (vO (oOp opAdd (bV (vO (oOp opPow (bV (vM (pC (.int 10)))) (bV (vM (pC (.int 12))))))) (bV (vM (pC (.int 1)))))) vNil)))))))) aNil))))
      (sSeq (sAsg 4 (oLst vNil))
      (sSeq (sFor (iR1 (vCons (vL (pNm 1)) vNil)) (gNm 2) l_law_some_counts_1)
      (sRet (oV (vL (pNm 4)))))))))
theorem ok_law_some_counts (hd : Hd K mg) {fd : FuncData} (F : FunD K d_law_some_counts.name d_law_some_counts.qual d_law_some_counts.params d_law_some_counts.body d_law_some_counts.scope (d_law_some_counts.dvs K) (d_law_some_counts.kws K) (He.fAd K d_law_some_counts.at_) fd) : FnOk P w K mg base (L2.CX P w) 3 (He.fAd K d_law_some_counts.at_) fd ["drawer"] (spM K 1 m_law_some_counts) := by
  refine FunD.ok F sc_law_some_counts (fun vs H Q E h => h.1) (fun cdv A outer s H vs Q E hr h => ?_)
  exact ⟨_, (pss_cons (ps_set (i := 1) sc_law_some_counts.nd rfl (Or.inl rfl) (pe_op op_addG pe_int (pe_calX (sp := spM K 2 m_law_draw) (cal_law_draw hd) (hr.mono (by decide)) rfl (takes_of rfl rfl rfl rfl) (pa_cons (pv 0) (pa_cons pe_int pa_nil)))))
      (pss_cons (ps_if (pt_cmpR (op_eqG (hu64 hr)) (pe_calX (sp := spM K 2 m_law_draw) (cal_law_draw hd) (hr.mono (by decide)) rfl (takes_of rfl rfl rfl rfl) (pa_cons (pv 0) (pa_cons pe_int pa_nil))) pe_int (nomark _)) (pss_one (ps_ret (pe_calX (sp := spM K 2 m_law_dealt) (cal_law_dealt hd) (hr.mono (by decide)) rfl (takes_of rfl rfl rfl rfl) (pa_cons (pv 0) (pa_cons (pe_lc (own := [("k", 2)]) (g := _) (by rfl) sc_law_some_counts.nd (pi_range1 rfl (hd.free 4) (pa_cons (pv 1) pa_nil)) (blkOk_by (own := [("k", 2)]) (N := N_law_some_counts) (sc := defScope s_law_some_counts) (by decide +kernel)) (fun _ _ _ _ _ => (pg_name (i := 2) sc_law_some_counts.nd rfl (Or.inl rfl))) (fun _ _ _ _ _ => pts_nil) (fun _ _ _ _ _ => (pe_op op_shl pe_int (pv 2)))) pa_nil))))) pss_nil)
      (pss_cons (ps_set (i := 3) sc_law_some_counts.nd rfl (Or.inl rfl) (pe_calX (sp := spM K 2 m_law_pick) (cal_law_pick hd) (hr.mono (by decide)) rfl (takes_of rfl rfl rfl rfl) (pa_cons (pv 0) (pa_cons (pe_lst (pa_cons pe_int (pa_cons pe_int (pa_cons pe_int (pa_cons pe_int (pa_cons (pe_op op_addG (pe_op op_pow pe_int pe_int) pe_int) pa_nil)))))) pa_nil))))
      (pss_cons (ps_set (i := 4) sc_law_some_counts.nd rfl (Or.inl rfl) (pe_lst pa_nil))
      (pss_cons (ps_for (passes_of rfl) rfl (pi_range1 rfl (hd.free 4) (pa_cons (pv 1) pa_nil)) (pg_name (i := 2) sc_law_some_counts.nd rfl (Or.inl rfl))
      (pss_one (ps_if (PW.pt (pw_and (pt_cmpR op_gtG (pv 2) pe_int (nomark _)) (pw_and1 (pt_cmpR (op_eqG (hu64 hr)) (pe_calX (sp := spM K 2 m_law_draw) (cal_law_draw hd) (hr.mono (by decide)) rfl (takes_of rfl rfl rfl rfl) (pa_cons (pv 0) (pa_cons pe_int pa_nil))) pe_int (nomark _))))) (pss_one (ps_expr (pe_bm PySem.F.plainAttrs_list PySem.F.slot_list_append PySem.F.type_list_append mt_append (pv 4) (pa_cons (pe_ix ix_G (pv 4) (pe_un un_neg pe_int) (fun _ _ => rfl)) pa_nil)))) (pss_one (ps_expr (pe_bm PySem.F.plainAttrs_list PySem.F.slot_list_append PySem.F.type_list_append mt_append (pv 4) (pa_cons (pe_calX (sp := spM K 2 m_law_draw) (cal_law_draw hd) (hr.mono (by decide)) rfl (takes_of rfl rfl rfl rfl) (pa_cons (pv 0) (pa_cons (pv 3) pa_nil))) pa_nil)))))))
      (pss_one (ps_ret (pv 4)))))))),
    fn_body (fl := [false]) (n := 1) (k := 4) (is_seq (is_asg (by rfl) (iv_io (io_iv (io_op s_add (iv_ib (iq_iv c_int)) (iv_ib (io_iv (io_call (n := 2) (fun _ => .inr trivial) (ia_cons (nm_ib 0) (ia_cons (iv_ib (iq_iv c_int)) ia_nil)) (aC_len (aC_len aN_len)))))))))
      (is_seq (is_if (it_test (io_iv (io_op s_eq (iv_ib (io_iv (io_call (n := 2) (fun _ => .inr trivial) (ia_cons (nm_ib 0) (ia_cons (iv_ib (iq_iv c_int)) ia_nil)) (aC_len (aC_len aN_len))))) (iv_ib (iq_iv c_int))))) (is_ret (io_call (n := 2) (fun _ => .inr trivial) (ia_cons (nm_ib 0) (ia_cons (iv_ib (io_iv (io_lc (vs := [2]) (by rfl) (ii_R1 (iav_cons (il_iv (nm_il 1)) iav_nil)) (ig_nm (i := 2)) it_yes (iv_io (io_iv (io_op s_shl (iv_ib (iq_iv c_int)) (nm_ib 2))))))) ia_nil)) (aC_len (aC_len aN_len)))) is_nil)
      (is_seq (is_asg (by rfl) (io_call (n := 2) (fun _ => .inr trivial) (ia_cons (nm_ib 0) (ia_cons (iv_ib (io_iv (io_lst (iav_cons (iq_iv c_int) (iav_cons (iq_iv c_int) (iav_cons (iq_iv c_int) (iav_cons (iq_iv c_int) (iav_cons (io_iv (io_op s_add (iv_ib (io_iv (io_op s_pow (iv_ib (iq_iv c_int)) (iv_ib (iq_iv c_int))))) (iv_ib (iq_iv c_int)))) iav_nil)))))))) ia_nil)) (aC_len (aC_len aN_len))))
      (is_seq (is_asg (by rfl) (io_lst iav_nil))
      (is_seq (is_for (by rfl) (ii_R1 (iav_cons (il_iv (nm_il 1)) iav_nil)) (ig_nm (i := 2))
      (is_if (it_and (it_test (io_iv (io_op s_ord (nm_ib 2) (iv_ib (iq_iv c_int))))) (it_test (io_iv (io_op s_eq (iv_ib (io_iv (io_call (n := 2) (fun _ => .inr trivial) (ia_cons (nm_ib 0) (ia_cons (iv_ib (iq_iv c_int)) ia_nil)) (aC_len (aC_len aN_len))))) (iv_ib (iq_iv c_int)))))) (is_drop (io_append (iv_io (io_iv (io_op s_ix (nm_ib 4) (iv_ib (io_iv (io_un s_neg (iv_ib (iq_iv c_int)))))))))) (is_drop (io_append (io_call (n := 2) (fun _ => .inr trivial) (ia_cons (nm_ib 0) (ia_cons (iv_ib (il_iv (nm_il 3))) ia_nil)) (aC_len (aC_len aN_len)))))))
      (is_ret (iv_io (il_iv (nm_il 4))))))))) rfl h⟩
theorem cal_law_some_counts (hd : Hd K mg) : CalX P w K mg base 3 "_law_some_counts" ["drawer"] (spM K 1 m_law_some_counts) := by
  obtain ⟨fd, F⟩ := hd.def_ 3
  exact .mk' (hd.glo 7) F.kp (FunD.bindsN F fun _ _ _ _ _ _ us hl => match us, hl with | [_], _ => rfl) (ok_law_some_counts hd F)
def m_law_drawer : MF := fnM [false, false] 2
      (sSeq (sAsg 2 (oV (vM (pC (.int 0)))))
      (sSeq (sIf (tst (vO (oOp opLt (nmM 1) (bV (vO (oA bLen (aCons (nmM 0) aNil))))))) (sAsg 2 (oV (vO (oA bAbs (aCons (bV (vO (oOp opIx (nmM 0) (nmM 1)))) aNil))))) sNil)
      (sSeq (sAsg 3 (oV (vO (oOp opMod (bV (vO (oA bInt (aCons (bV (vO (oOp opAdd (bV (vO (oOp opAdd (nmM 2) (bV (vO (oOp opMul (bV (vM (pC (.int 1013)))) (nmM 1))))))) (bV (vM (pC (.int 7))))))) aNil)))) (bV (vM (pC (.int 2147483629))))))))
      (sSeq (sIf (tst (vO (oOp opGe (nmM 2) (bV (vO (oOp opPow (bV (vM (pC (.int 10)))) (bV (vM (pC (.int 18)))))))))) (sRet (oLst (vCons (vO (oOp opSub (nmM 2) (bV (vO (oOp opPow (bV (vM (pC (.int 10)))) (bV (vM (pC (.int 18))))))))) (vCons (vL (pNm 3)) (vCons (vM (pC (.int 0))) vNil))))) sNil)
      (sRet (oLst (vCons (vM (pC (.int 0))) (vCons (vL (pNm 3)) (vCons (vM (pC (.int 0))) vNil)))))))))
theorem ok_law_drawer (hd : Hd K mg) {fd : FuncData} (F : FunD K d_law_drawer.name d_law_drawer.qual d_law_drawer.params d_law_drawer.body d_law_drawer.scope (d_law_drawer.dvs K) (d_law_drawer.kws K) (He.fAd K d_law_drawer.at_) fd) : FnOk P w K mg base (L2.CX P w) 1 (He.fAd K d_law_drawer.at_) fd ["script", "k"] (spM K 2 m_law_drawer) := by
  refine FunD.ok F sc_law_drawer (fun vs H Q E h => h.1) (fun cdv A outer s H vs Q E hr h => ?_)
  exact ⟨_, (pss_cons (ps_set (i := 2) sc_law_drawer.nd rfl (Or.inl rfl) pe_int)
      (pss_cons (ps_if (pt_cmpR op_ltG (pv 1) (pe_callB g_len (by rfl) (hd.free 3) (by decide +kernel) (pa_cons (pv 0) pa_nil)) (nomark _)) (pss_one (ps_set (i := 2) sc_law_drawer.nd rfl (Or.inl rfl) (pe_callB g_abs (by rfl) (hd.free 8) (by decide +kernel) (pa_cons (pe_ix ix_G (pv 0) (pv 1) (fun _ _ => rfl)) pa_nil)))) pss_nil)
      (pss_cons (ps_set (i := 3) sc_law_drawer.nd rfl (Or.inl rfl) (pe_op op_mod (pe_callTy g_int (by rfl) (hd.free 0) (by decide +kernel) (pa_cons (pe_op op_addG (pe_op op_addG (pv 2) (pe_op op_mulH pe_int (pv 1))) pe_int) pa_nil)) pe_int))
      (pss_cons (ps_if (pt_cmpR op_geG (pv 2) (pe_op op_pow pe_int pe_int) (nomark _)) (pss_one (ps_ret (pe_lst (pa_cons (pe_op op_sub (pv 2) (pe_op op_pow pe_int pe_int)) (pa_cons (pv 3) (pa_cons pe_int pa_nil)))))) pss_nil)
      (pss_one (ps_ret (pe_lst (pa_cons pe_int (pa_cons (pv 3) (pa_cons pe_int pa_nil)))))))))),
    fn_body (fl := [false, false]) (n := 2) (k := 2) (is_seq (is_asg (by rfl) (iv_io (iq_iv c_int)))
      (is_seq (is_if (it_test (io_iv (io_op s_ord (nm_ib 1) (iv_ib (io_iv (io_cb s_len (ia_cons (nm_ib 0) ia_nil))))))) (is_asg (by rfl) (iv_io (io_iv (io_cb s_abs (ia_cons (iv_ib (io_iv (io_op s_ix (nm_ib 0) (nm_ib 1)))) ia_nil))))) is_nil)
      (is_seq (is_asg (by rfl) (iv_io (io_iv (io_op s_mod (iv_ib (io_iv (io_cb s_int (ia_cons (iv_ib (io_iv (io_op s_add (iv_ib (io_iv (io_op s_add (nm_ib 2) (iv_ib (io_iv (io_op s_mul (iv_ib (iq_iv c_int)) (nm_ib 1))))))) (iv_ib (iq_iv c_int))))) ia_nil)))) (iv_ib (iq_iv c_int))))))
      (is_seq (is_if (it_test (io_iv (io_op s_ord (nm_ib 2) (iv_ib (io_iv (io_op s_pow (iv_ib (iq_iv c_int)) (iv_ib (iq_iv c_int)))))))) (is_ret (io_lst (iav_cons (io_iv (io_op s_sub (nm_ib 2) (iv_ib (io_iv (io_op s_pow (iv_ib (iq_iv c_int)) (iv_ib (iq_iv c_int))))))) (iav_cons (il_iv (nm_il 3)) (iav_cons (iq_iv c_int) iav_nil))))) is_nil)
      (is_ret (io_lst (iav_cons (iq_iv c_int) (iav_cons (il_iv (nm_il 3)) (iav_cons (iq_iv c_int) iav_nil))))))))) rfl h⟩
theorem cal_law_drawer (hd : Hd K mg) : CalX P w K mg base 1 "_law_drawer" ["script", "k"] (spM K 2 m_law_drawer) := by
  obtain ⟨fd, F⟩ := hd.def_ 4
  exact .mk' (hd.glo 9) F.kp (FunD.bindsN F fun _ _ _ _ _ _ us hl => match us, hl with | [_, _], _ => rfl) (ok_law_drawer hd F)
def l_law_complete_0 : SM := (sSeq (sAsg 4 (callM m_law_draw (aCons (nmM 0) (aCons (bV (vO (oA bLen (aCons (nmM 2) aNil)))) aNil))))
      (sSeq (sPut (oV (vO (oOp opAdd (bV (vO (oOp opIx (nmM 2) (nmM 4)))) (bV (vM (pC (.int 1))))))) (pNm 2) (pAt (pNm 4)))
      (sDrop (mApp 2 (oV (vO (oOp opIx (nmM 2) (nmM 4))))))))
def m_law_complete : MF := fnM [false, false] 3
      (sSeq (sAsg 2 (oLst (vCons (vM (pC (.int 0))) vNil)))
      (sSeq (sFor (iR1 (vCons (vO (oOp opSub (nmM 1) (bV (vM (pC (.int 1)))))) vNil)) (gNm 3) l_law_complete_0)
      (sRet (oV (vL (pNm 2))))))
theorem ok_law_complete (hd : Hd K mg) {fd : FuncData} (F : FunD K d_law_complete.name d_law_complete.qual d_law_complete.params d_law_complete.body d_law_complete.scope (d_law_complete.dvs K) (d_law_complete.kws K) (He.fAd K d_law_complete.at_) fd) : FnOk P w K mg base (L2.CX P w) 2 (He.fAd K d_law_complete.at_) fd ["drawer", "many"] (spM K 2 m_law_complete) := by
  refine FunD.ok F sc_law_complete (fun vs H Q E h => h.1) (fun cdv A outer s H vs Q E hr h => ?_)
  exact ⟨_, (pss_cons (ps_set (i := 2) sc_law_complete.nd rfl (Or.inl rfl) (pe_lst (pa_cons pe_int pa_nil)))
      (pss_cons (ps_for (passes_of rfl) rfl (pi_range1 rfl (hd.free 4) (pa_cons (pe_op op_sub (pv 1) pe_int) pa_nil)) (pg_name (i := 3) sc_law_complete.nd rfl (Or.inl rfl))
      (pss_cons (ps_set (i := 4) sc_law_complete.nd rfl (Or.inl rfl) (pe_calX (sp := spM K 2 m_law_draw) (cal_law_draw hd) (hr.mono (by decide)) rfl (takes_of rfl rfl rfl rfl) (pa_cons (pv 0) (pa_cons (pe_callB g_len (by rfl) (hd.free 3) (by decide +kernel) (pa_cons (pv 2) pa_nil)) pa_nil))))
      (pss_cons (ps_asg (pe_op op_addG (pe_ix ix_G (pv 2) (pv 4) (fun _ _ => rfl)) pe_int) (pg_sub (pv 2) (pv 4) set_list))
      (pss_one (ps_expr (pe_bm PySem.F.plainAttrs_list PySem.F.slot_list_append PySem.F.type_list_append mt_append (pv 2) (pa_cons (pe_ix ix_G (pv 2) (pv 4) (fun _ _ => rfl)) pa_nil)))))))
      (pss_one (ps_ret (pv 2))))),
    fn_body (fl := [false, false]) (n := 2) (k := 3) (is_seq (is_asg (by rfl) (io_lst (iav_cons (iq_iv c_int) iav_nil)))
      (is_seq (is_for (by rfl) (ii_R1 (iav_cons (io_iv (io_op s_sub (nm_ib 1) (iv_ib (iq_iv c_int)))) iav_nil)) (ig_nm (i := 3))
      (is_seq (is_asg (by rfl) (io_call (n := 2) (fun _ => .inr trivial) (ia_cons (nm_ib 0) (ia_cons (iv_ib (io_iv (io_cb s_len (ia_cons (nm_ib 2) ia_nil)))) ia_nil)) (aC_len (aC_len aN_len))))
      (is_seq (is_put (iv_io (io_iv (io_op s_add (iv_ib (io_iv (io_op s_ix (nm_ib 2) (nm_ib 4)))) (iv_ib (iq_iv c_int))))) (nm_il 2) (il_iq (nm_il 4)))
      (is_drop (io_append (iv_io (io_iv (io_op s_ix (nm_ib 2) (nm_ib 4)))))))))
      (is_ret (iv_io (il_iv (nm_il 2)))))) rfl h⟩
theorem cal_law_complete (hd : Hd K mg) : CalX P w K mg base 2 "_law_complete" ["drawer", "many"] (spM K 2 m_law_complete) := by
  obtain ⟨fd, F⟩ := hd.def_ 5
  exact .mk' (hd.glo 10) F.kp (FunD.bindsN F fun _ _ _ _ _ _ us hl => match us, hl with | [_, _], _ => rfl) (ok_law_complete hd F)
def l_least_lengths_0 : M T := (oV (vTup (vCons (vL (pNm 9)) (vCons (vL (pNm 2)) (vCons (vTup (vCons (vL (pNm 2)) vNil)) vNil)))))
def l_least_lengths_1 : SM := (sAugI 1 (oV (vL (pNm 2))) (pC (.int 1)))
def l_least_lengths_2 : M Bool := (tst (vO (oOp opGt (bV (vO (oA bLen (aCons (nmM 3) aNil)))) (bV (vM (pC (.int 1)))))))
def l_least_lengths_3 : SM := (sSeq (sAsg 4 (oV (vO (oA bSortedT (aCons (nmM 3) aNil)))))
      (sSeq (sPar 5 6 (vCons (vO (oOp opIx (nmM 4) (bV (vM (pC (.int 0)))))) (vCons (vO (oOp opIx (nmM 4) (bV (vM (pC (.int 1)))))) vNil)))
      (sSeq (sAsg 7 (oV (vO (oOp opAdd (bV (vO (oOp opIx (nmM 5) (bV (vM (pC (.int 2))))))) (bV (vO (oOp opIx (nmM 6) (bV (vM (pC (.int 2)))))))))))
      (sSeq (sFor (iIt (vL (pNm 7))) (gNm 2) l_least_lengths_1)
      (sSeq (sAsg 8 (oV (vTup (vCons (vO (oOp opAdd (bV (vO (oOp opIx (nmM 5) (bV (vM (pC (.int 0))))))) (bV (vO (oOp opIx (nmM 6) (bV (vM (pC (.int 0))))))))) (vCons (vO (oA bMin (aCons (bV (vO (oOp opIx (nmM 5) (bV (vM (pC (.int 1))))))) (aCons (bV (vO (oOp opIx (nmM 6) (bV (vM (pC (.int 1))))))) aNil)))) (vCons (vL (pNm 7)) vNil))))))
      (sAsg 3 (oV (vO (oLst (vStar (vO (oSl (nmM 4) (ipSome (vM (pC (.int 2)))) ipNo)) (vCons (vL (pNm 8)) vNil)))))))))))
def m_least_lengths : MF := fnM [false] 9
      (sSeq (sAsg 1 (oOp opMul (bV (vO (oLst (vCons (vM (pC (.int 0))) vNil)))) (bV (vO (oA bLen (aCons (nmM 0) aNil))))))
      (sSeq (sAsg 3 (oV (vO (lcM [2, 9] (iEnM (vCons (vL (pNm 0)) vNil)) (gTp 2 (gCn (gNm 2) (gCn (gNm 9) gNl))) tYesM l_least_lengths_0))))
      (sSeq (sWhile l_least_lengths_2 l_least_lengths_3)
      (sRet (oV (vO (oA bTup (aCons (nmM 1) aNil))))))))
theorem ok_least_lengths (hd : Hd K mg) {fd : FuncData} (F : FunD K d_least_lengths.name d_least_lengths.qual d_least_lengths.params d_least_lengths.body d_least_lengths.scope (d_least_lengths.dvs K) (d_least_lengths.kws K) (He.fAd K d_least_lengths.at_) fd) : FnOk P w K mg base (L2.CX P w) 1 (He.fAd K d_least_lengths.at_) fd ["counts"] (spM K 1 m_least_lengths) := by
  refine FunD.ok F sc_least_lengths (fun vs H Q E h => h.1) (fun cdv A outer s H vs Q E hr h => ?_)
  exact ⟨_, (pss_cons (ps_set (i := 1) sc_least_lengths.nd rfl (Or.inl rfl) (pe_op op_mulH (pe_lst (pa_cons pe_int pa_nil)) (pe_callB g_len (by rfl) (hd.free 3) (by decide +kernel) (pa_cons (pv 0) pa_nil))))
      (pss_cons (ps_setLc (i := 3) (own := [("place", 2), ("count", 9)]) (g := _) (by rfl) sc_least_lengths.nd rfl rfl (sw_true rfl rfl rfl (by decide +kernel)) (pi_en rfl (hd.free 11) (pa_cons (pv 0) pa_nil)) (blkOk_by (own := [("place", 2), ("count", 9)]) (N := N_least_lengths) (sc := defScope s_least_lengths) (by decide +kernel)) (fun _ _ _ _ _ => (pg_tup rfl (pgs_cons (pg_name (i := 2) sc_least_lengths.nd rfl (Or.inl rfl)) (pgs_cons (pg_name (i := 9) sc_least_lengths.nd rfl (Or.inl rfl)) pgs_nil)))) (fun _ _ _ _ _ => pts_nil) (fun _ _ _ _ _ => (pe_tup (pa_cons (pv 9) (pa_cons (pv 2) (pa_cons (pe_tup (pa_cons (pv 2) pa_nil)) pa_nil))))))
      (pss_cons (ps_while (passes_of rfl) (pt_cmpR op_gtG (pe_callB g_len (by rfl) (hd.free 3) (by decide +kernel) (pa_cons (pv 3) pa_nil)) pe_int (nomark _)) (pss_cons (ps_set (i := 4) sc_least_lengths.nd rfl (Or.inl rfl) (pe_callB cr_sortedTW (by rfl) (hd.free 12) (by decide +kernel) (pa_cons (pv 3) pa_nil)))
      (pss_cons (ps_par (i := 5) (j := 6) rfl sc_least_lengths.nd rfl rfl (by decide) rfl rfl (pa_cons (pe_ix ix_G (pv 4) pe_int (fun _ _ => rfl)) (pa_cons (pe_ix ix_G (pv 4) pe_int (fun _ _ => rfl)) pa_nil)) (by rfl))
      (pss_cons (ps_set (i := 7) sc_least_lengths.nd rfl (Or.inl rfl) (pe_op op_addG (pe_ix ix_G (pv 5) pe_int (fun _ _ => rfl)) (pe_ix ix_G (pv 6) pe_int (fun _ _ => rfl))))
      (pss_cons (ps_for (passes_of rfl) rfl (pi_G (pv 7)) (pg_name (i := 2) sc_least_lengths.nd rfl (Or.inl rfl))
      (pss_one (ps_augS (pv 1) (pv 2) get_listN pe_int ip_add set_list)))
      (pss_cons (ps_set (i := 8) sc_least_lengths.nd rfl (Or.inl rfl) (pe_tup (pa_cons (pe_op op_addG (pe_ix ix_G (pv 5) pe_int (fun _ _ => rfl)) (pe_ix ix_G (pv 6) pe_int (fun _ _ => rfl))) (pa_cons (pe_callB (g_min rfl) (by rfl) (hd.free 13) (by decide +kernel) (pa_cons (pe_ix ix_G (pv 5) pe_int (fun _ _ => rfl)) (pa_cons (pe_ix ix_G (pv 6) pe_int (fun _ _ => rfl)) pa_nil))) (pa_cons (pv 7) pa_nil)))))
      (pss_one (ps_set (i := 3) sc_least_lengths.nd rfl (Or.inl rfl) (pe_lst (StX.pa_star (pe_slice sl_G (pv 4) (po_some pe_int) po_none) (pa_cons (pv 8) pa_nil)))))))))))
      (pss_one (ps_ret (pe_callTy g_tuple (by rfl) (hd.free 14) (by decide +kernel) (pa_cons (pv 1) pa_nil))))))),
    fn_body (fl := [false]) (n := 1) (k := 9) (is_seq (is_asg (by rfl) (io_op s_mul (iv_ib (io_iv (io_lst (iav_cons (iq_iv c_int) iav_nil)))) (iv_ib (io_iv (io_cb s_len (ia_cons (nm_ib 0) ia_nil))))))
      (is_seq (is_asg (by rfl) (iv_io (io_iv (io_lc (vs := [2, 9]) (by rfl) (ii_en (iav_cons (il_iv (nm_il 0)) iav_nil)) (ig_tup (igs_cons (ig_nm (i := 2)) (igs_cons (ig_nm (i := 9)) igs_nil))) it_yes (iv_io (iv_tup (iav_cons (il_iv (nm_il 9)) (iav_cons (il_iv (nm_il 2)) (iav_cons (iv_tup (iav_cons (il_iv (nm_il 2)) iav_nil)) iav_nil)))))))))
      (is_seq (is_while (it_test (io_iv (io_op s_ord (iv_ib (io_iv (io_cb s_len (ia_cons (nm_ib 3) ia_nil)))) (iv_ib (iq_iv c_int))))) (is_seq (is_asg (by rfl) (iv_io (io_iv (io_cb s_sortedT (ia_cons (nm_ib 3) ia_nil)))))
      (is_seq (is_par (by rfl) (by rfl) (iav_cons (io_iv (io_op s_ix (nm_ib 4) (iv_ib (iq_iv c_int)))) (iav_cons (io_iv (io_op s_ix (nm_ib 4) (iv_ib (iq_iv c_int)))) iav_nil)))
      (is_seq (is_asg (by rfl) (iv_io (io_iv (io_op s_add (iv_ib (io_iv (io_op s_ix (nm_ib 5) (iv_ib (iq_iv c_int))))) (iv_ib (io_iv (io_op s_ix (nm_ib 6) (iv_ib (iq_iv c_int)))))))))
      (is_seq (is_for (by rfl) (ii_G (il_iv (nm_il 7))) (ig_nm (i := 2))
      (is_augS (iv_io (il_iv (nm_il 2))) c_int))
      (is_seq (is_asg (by rfl) (iv_io (iv_tup (iav_cons (io_iv (io_op s_add (iv_ib (io_iv (io_op s_ix (nm_ib 5) (iv_ib (iq_iv c_int))))) (iv_ib (io_iv (io_op s_ix (nm_ib 6) (iv_ib (iq_iv c_int))))))) (iav_cons (io_iv (io_cb s_min (ia_cons (iv_ib (io_iv (io_op s_ix (nm_ib 5) (iv_ib (iq_iv c_int))))) (ia_cons (iv_ib (io_iv (io_op s_ix (nm_ib 6) (iv_ib (iq_iv c_int))))) ia_nil)))) (iav_cons (il_iv (nm_il 7)) iav_nil))))))
      (is_asg (by rfl) (iv_io (io_iv (io_lst (iav_star (io_iv (io_sl (nm_ib 4) (ito_some (iq_iv c_int)) ito_no)) (iav_cons (il_iv (nm_il 8)) iav_nil))))))))))))
      (is_ret (iv_io (io_iv (io_cb s_tup (ia_cons (nm_ib 1) ia_nil)))))))) rfl h⟩
theorem cal_least_lengths (hd : Hd K mg) : CalX P w K mg base 1 "least_lengths" ["counts"] (spM K 1 m_least_lengths) := by
  obtain ⟨fd, F⟩ := hd.def_ 6
  exact .mk' (hd.glo 15) F.kp (FunD.bindsN F fun _ _ _ _ _ _ us hl => match us, hl with | [_], _ => rfl) (ok_least_lengths hd F)
def m_law_int : MF := fnM [false] 0
      (sRet (oV (vAnd (vO (oA bIsi (aCons (nmM 0) (aCons (bV (vM (pC (.ty "int")))) aNil)))) (vNot (vO (oA bIsi (aCons (nmM 0) (aCons (bV (vM (pC (.ty "bool")))) aNil))))))))
theorem ok_law_int (hd : Hd K mg) {fd : FuncData} (F : FunD K d_law_int.name d_law_int.qual d_law_int.params d_law_int.body d_law_int.scope (d_law_int.dvs K) (d_law_int.kws K) (He.fAd K d_law_int.at_) fd) : FnOk P w K mg base (L2.CX P w) 1 (He.fAd K d_law_int.at_) fd ["value"] (spM K 1 m_law_int) := by
  refine FunD.ok F sc_law_int (fun vs H Q E h => h.1) (fun cdv A outer s H vs Q E hr h => ?_)
  exact ⟨_, (pss_one (ps_ret (pe_and (pe_callB call_isiG (by rfl) (hd.free 16) (by decide +kernel) (pa_cons (pv 0) (pa_cons (pe_bltn (v := .ty "int") (by rfl) (hd.free 0) (by decide +kernel) rfl) pa_nil))) (pe_one (pe_not (pe_callB call_isiG (by rfl) (hd.free 16) (by decide +kernel) (pa_cons (pv 0) (pa_cons (pe_bltn (v := .ty "bool") (by rfl) (hd.free 17) (by decide +kernel) rfl) pa_nil)))))))),
    fn_body (fl := [false]) (n := 1) (k := 0) (is_ret (iv_io (iv_and (io_iv (io_cb s_isi (ia_cons (nm_ib 0) (ia_cons (iv_ib (iq_iv c_ty)) ia_nil)))) (iv_not (io_iv (io_cb s_isi (ia_cons (nm_ib 0) (ia_cons (iv_ib (iq_iv c_ty)) ia_nil)))))))) rfl h⟩
theorem cal_law_int (hd : Hd K mg) : CalX P w K mg base 1 "_law_int" ["value"] (spM K 1 m_law_int) := by
  obtain ⟨fd, F⟩ := hd.def_ 7
  exact .mk' (hd.glo 18) F.kp (FunD.bindsN F fun _ _ _ _ _ _ us hl => match us, hl with | [_], _ => rfl) (ok_law_int hd F)
def l_law_complete_ones_0 : SM := (sSeq (sIf (tor (tnot (tru (bV (vO (callM m_law_int (aCons (bV (vL (pNm 3))) aNil)))))) (tnot (tst (oChain opLe opLe (bV (vM (pC (.int 0)))) (nmM 3) (bV (vM (pC (.int 15)))))))) (sRet (oV (vM (pC (.bl false))))) sNil)
      (sAsg 2 (oV (vO (oOp opAdd (nmM 2) (bV (vO (oOp opShr (bV (vM (pC (.int 32768)))) (nmM 3)))))))))
def m_law_complete_ones : MF := fnM [false, false] 2
      (sSeq (sIf (tor (tnot (tru (bV (vO (oA bIsi (aCons (nmM 0) (aCons (bV (vM (pC (.ty "tuple")))) aNil))))))) (tst (vO (oOp (opEq true) (bV (vO (oA bLen (aCons (nmM 0) aNil)))) (nmM 1))))) (sRet (oV (vM (pC (.bl false))))) sNil)
      (sSeq (sAsg 2 (oV (vM (pC (.int 0)))))
      (sSeq (sFor (iIt (vL (pNm 0))) (gNm 3) l_law_complete_ones_0)
      (sRet (oV (vO (oOp (opEq false) (nmM 2) (bV (vM (pC (.int 32768)))))))))))
theorem ok_law_complete_ones (hd : Hd K mg) {fd : FuncData} (F : FunD K d_law_complete_ones.name d_law_complete_ones.qual d_law_complete_ones.params d_law_complete_ones.body d_law_complete_ones.scope (d_law_complete_ones.dvs K) (d_law_complete_ones.kws K) (He.fAd K d_law_complete_ones.at_) fd) : FnOk P w K mg base (L2.CX P w) 2 (He.fAd K d_law_complete_ones.at_) fd ["lengths", "many"] (spM K 2 m_law_complete_ones) := by
  refine FunD.ok F sc_law_complete_ones (fun vs H Q E h => h.1) (fun cdv A outer s H vs Q E hr h => ?_)
  exact ⟨_, (pss_cons (ps_if (PW.pt (pw_or (pt_not (pt_truG (pe_callB call_isiG (by rfl) (hd.free 16) (by decide +kernel) (pa_cons (pv 0) (pa_cons (pe_bltn (v := .ty "tuple") (by rfl) (hd.free 14) (by decide +kernel) rfl) pa_nil))) (by intro _; rfl))) (pw_or1 (pt_cmpR (op_neG (hu64 hr)) (pe_callB g_len (by rfl) (hd.free 3) (by decide +kernel) (pa_cons (pv 0) pa_nil)) (pv 1) (nomark _))))) (pss_one (ps_ret pe_bl)) pss_nil)
      (pss_cons (ps_set (i := 2) sc_law_complete_ones.nd rfl (Or.inl rfl) pe_int)
      (pss_cons (ps_for (passes_of rfl) rfl (pi_G (pv 0)) (pg_name (i := 3) sc_law_complete_ones.nd rfl (Or.inl rfl))
      (pss_cons (ps_if (PW.pt (pw_or (pt_not (pt_truG (pe_calX (sp := spM K 1 m_law_int) (cal_law_int hd) (hr.mono (by decide)) rfl (takes_of rfl rfl rfl rfl) (pa_cons (pv 3) pa_nil)) (by intro _; rfl))) (pw_or1 (pt_not (pt_chain op_leG op_leG pe_int (pv 3) pe_int))))) (pss_one (ps_ret pe_bl)) pss_nil)
      (pss_one (ps_set (i := 2) sc_law_complete_ones.nd rfl (Or.inl rfl) (pe_op op_addG (pv 2) (pe_op op_shr pe_int (pv 3)))))))
      (pss_one (ps_ret (pe_cmpR (op_eqG (hu64 hr)) (pv 2) pe_int (nomark _))))))),
    fn_body (fl := [false, false]) (n := 2) (k := 2) (is_seq (is_if (it_or (it_not (it_tru (iv_ib (io_iv (io_cb s_isi (ia_cons (nm_ib 0) (ia_cons (iv_ib (iq_iv c_ty)) ia_nil))))))) (it_test (io_iv (io_op s_eq (iv_ib (io_iv (io_cb s_len (ia_cons (nm_ib 0) ia_nil)))) (nm_ib 1))))) (is_ret (iv_io (iq_iv c_bl))) is_nil)
      (is_seq (is_asg (by rfl) (iv_io (iq_iv c_int)))
      (is_seq (is_for (by rfl) (ii_G (il_iv (nm_il 0))) (ig_nm (i := 3))
      (is_seq (is_if (it_or (it_not (it_tru (iv_ib (io_iv (io_call (n := 1) (fun _ => .inr trivial) (ia_cons (iv_ib (il_iv (nm_il 3))) ia_nil) (aC_len aN_len)))))) (it_not (it_test (iv_chain s_ord s_ord (iv_ib (iq_iv c_int)) (nm_ib 3) (iv_ib (iq_iv c_int)))))) (is_ret (iv_io (iq_iv c_bl))) is_nil)
      (is_asg (by rfl) (iv_io (io_iv (io_op s_add (nm_ib 2) (iv_ib (io_iv (io_op s_shr (iv_ib (iq_iv c_int)) (nm_ib 3))))))))))
      (is_ret (iv_io (io_iv (io_op s_eq (nm_ib 2) (iv_ib (iq_iv c_int))))))))) rfl h⟩
theorem cal_law_complete_ones (hd : Hd K mg) : CalX P w K mg base 2 "_law_complete_ones" ["lengths", "many"] (spM K 2 m_law_complete_ones) := by
  obtain ⟨fd, F⟩ := hd.def_ 8
  exact .mk' (hd.glo 19) F.kp (FunD.bindsN F fun _ _ _ _ _ _ us hl => match us, hl with | [_, _], _ => rfl) (ok_law_complete_ones hd F)
def l_law_same_1 (mf : MF) : SM := (sIf (tnot (tru (bV (vO (callM mf (aCons (bV (vO (oOp opIx (nmM 0) (nmM 2)))) (aCons (bV (vO (oOp opIx (nmM 1) (nmM 2)))) aNil))))))) (sRet (oV (vM (pC (.bl false))))) sNil)
def m_law_same : Nat → MF
  | 0 => fun _ => .stuck
  | n + 1 => fnM [false, false] 1
      (sSeq (sIf (tst (vO (oOp (opIs false) (nmM 1) (bV (vM (pC .non)))))) (sRet (oV (vO (oOp (opIs false) (nmM 0) (bV (vM (pC .non))))))) sNil)
      (sSeq (sIf (tst (vO (oOp (opIs false) (nmM 1) (bV (vM (pC (.bl true))))))) (sRet (oV (vO (oOp (opIs false) (nmM 0) (bV (vM (pC (.bl true)))))))) sNil)
      (sSeq (sIf (tst (vO (oOp (opIs false) (nmM 1) (bV (vM (pC (.bl false))))))) (sRet (oV (vO (oOp (opIs false) (nmM 0) (bV (vM (pC (.bl false)))))))) sNil)
      (sSeq (sIf (tru (bV (vO (oA bIsi (aCons (nmM 1) (aCons (bV (vM (pC (.ty "int")))) aNil)))))) (sRet (oV (vAnd (vO (callM m_law_int (aCons (bV (vL (pNm 0))) aNil))) (vO (oOp (opEq false) (nmM 0) (nmM 1)))))) sNil)
      (sSeq (sIf (tru (bV (vO (oA bIsi (aCons (nmM 1) (aCons (bV (vM (pC (.ty "str")))) aNil)))))) (sRet (oV (vAnd (vO (oA bIsi (aCons (nmM 0) (aCons (bV (vM (pC (.ty "str")))) aNil)))) (vO (oOp (opEq false) (nmM 0) (nmM 1)))))) sNil)
      (sSeq (sIf (tru (bV (vO (oA bIsi (aCons (nmM 1) (aCons (bV (vM (pC (.ty "tuple")))) aNil)))))) (sIf (tnot (tru (bV (vO (oA bIsi (aCons (nmM 0) (aCons (bV (vM (pC (.ty "tuple")))) aNil))))))) (sRet (oV (vM (pC (.bl false))))) sNil) (sIf (tnot (tru (bV (vO (oA bIsi (aCons (nmM 0) (aCons (bV (vM (pC (.ty "list")))) aNil))))))) (sRet (oV (vM (pC (.bl false))))) sNil))
      (sSeq (sIf (tst (vO (oOp (opEq true) (bV (vO (oA bLen (aCons (nmM 0) aNil)))) (bV (vO (oA bLen (aCons (nmM 1) aNil))))))) (sRet (oV (vM (pC (.bl false))))) sNil)
      (sSeq (sFor (iR1 (vCons (vO (oA bLen (aCons (nmM 1) aNil))) vNil)) (gNm 2) (l_law_same_1 (m_law_same n)))
      (sRet (oV (vM (pC (.bl true)))))))))))))
theorem ok_law_same (hd : Hd K mg) {fd : FuncData} (F : FunD K d_law_same.name d_law_same.qual d_law_same.params d_law_same.body d_law_same.scope (d_law_same.dvs K) (d_law_same.kws K) (He.fAd K d_law_same.at_) fd) : ∀ n : Nat, FnOk P w K mg base (L2.CX P w) (n + 2) (He.fAd K d_law_same.at_) fd ["got", "due"] (spM K 2 (m_law_same n)) := by
  refine Nat.rec (motive := fun n => FnOk P w K mg base (L2.CX P w) (n + 2) (He.fAd K d_law_same.at_) fd ["got", "due"] (spM K 2 (m_law_same n))) fn_stuck fun n ihn => ?_
  have ih : CalX P w K mg base (n + 2) "_law_same" ["got", "due"] (spM K 2 (m_law_same n)) := .mk' (hd.glo 21) F.kp (FunD.bindsN F fun _ _ _ _ _ _ us hl => match us, hl with | [_, _], _ => rfl) ihn
  refine FnOk.mono (FunD.ok (k := n + 2) F sc_law_same (fun vs H Q E h => h.1) (fun cdv A outer s H vs Q E hr h => ?_)) (by omega)
  exact ⟨_, (pss_cons (ps_if (pt_cmpR op_isG (pv 1) pe_non (nomark _)) (pss_one (ps_ret (pe_cmpR op_isG (pv 0) pe_non (nomark _)))) pss_nil)
      (pss_cons (ps_if (pt_cmpR op_isG (pv 1) pe_bl (nomark _)) (pss_one (ps_ret (pe_cmpR op_isG (pv 0) pe_bl (nomark _)))) pss_nil)
      (pss_cons (ps_if (pt_cmpR op_isG (pv 1) pe_bl (nomark _)) (pss_one (ps_ret (pe_cmpR op_isG (pv 0) pe_bl (nomark _)))) pss_nil)
      (pss_cons (ps_if (pt_truG (pe_callB call_isiG (by rfl) (hd.free 16) (by decide +kernel) (pa_cons (pv 1) (pa_cons (pe_bltn (v := .ty "int") (by rfl) (hd.free 0) (by decide +kernel) rfl) pa_nil))) (by intro _; rfl)) (pss_one (ps_ret (pe_and (pe_calX (sp := spM K 1 m_law_int) (cal_law_int hd) (hr.mono (by omega)) rfl (takes_of rfl rfl rfl rfl) (pa_cons (pv 0) pa_nil)) (pe_one (pe_cmpR (op_eqG (hu64 hr)) (pv 0) (pv 1) (nomark _)))))) pss_nil)
      (pss_cons (ps_if (pt_truG (pe_callB call_isiG (by rfl) (hd.free 16) (by decide +kernel) (pa_cons (pv 1) (pa_cons (pe_bltn (v := .ty "str") (by rfl) (hd.free 20) (by decide +kernel) rfl) pa_nil))) (by intro _; rfl)) (pss_one (ps_ret (pe_and (pe_callB call_isiG (by rfl) (hd.free 16) (by decide +kernel) (pa_cons (pv 0) (pa_cons (pe_bltn (v := .ty "str") (by rfl) (hd.free 20) (by decide +kernel) rfl) pa_nil))) (pe_one (pe_cmpR (op_eqG (hu64 hr)) (pv 0) (pv 1) (nomark _)))))) pss_nil)
      (pss_cons (ps_if (pt_truG (pe_callB call_isiG (by rfl) (hd.free 16) (by decide +kernel) (pa_cons (pv 1) (pa_cons (pe_bltn (v := .ty "tuple") (by rfl) (hd.free 14) (by decide +kernel) rfl) pa_nil))) (by intro _; rfl)) (pss_one (ps_if (pt_not (pt_truG (pe_callB call_isiG (by rfl) (hd.free 16) (by decide +kernel) (pa_cons (pv 0) (pa_cons (pe_bltn (v := .ty "tuple") (by rfl) (hd.free 14) (by decide +kernel) rfl) pa_nil))) (by intro _; rfl))) (pss_one (ps_ret pe_bl)) pss_nil)) (pss_one (ps_if (pt_not (pt_truG (pe_callB call_isiG (by rfl) (hd.free 16) (by decide +kernel) (pa_cons (pv 0) (pa_cons (pe_bltn (v := .ty "list") (by rfl) (hd.free 2) (by decide +kernel) rfl) pa_nil))) (by intro _; rfl))) (pss_one (ps_ret pe_bl)) pss_nil)))
      (pss_cons (ps_if (pt_cmpR (op_neG (hu64 hr)) (pe_callB g_len (by rfl) (hd.free 3) (by decide +kernel) (pa_cons (pv 0) pa_nil)) (pe_callB g_len (by rfl) (hd.free 3) (by decide +kernel) (pa_cons (pv 1) pa_nil)) (nomark _)) (pss_one (ps_ret pe_bl)) pss_nil)
      (pss_cons (ps_for (passes_of rfl) rfl (pi_range1 rfl (hd.free 4) (pa_cons (pe_callB g_len (by rfl) (hd.free 3) (by decide +kernel) (pa_cons (pv 1) pa_nil)) pa_nil)) (pg_name (i := 2) sc_law_same.nd rfl (Or.inl rfl))
      (pss_one (ps_if (pt_not (pt_truG (pe_calX (sp := spM K 2 (m_law_same n)) ih hr rfl (takes_of rfl rfl rfl rfl) (pa_cons (pe_ix ix_G (pv 0) (pv 2) (fun _ _ => rfl)) (pa_cons (pe_ix ix_G (pv 1) (pv 2) (fun _ _ => rfl)) pa_nil))) (by intro _; rfl))) (pss_one (ps_ret pe_bl)) pss_nil)))
      (pss_one (ps_ret pe_bl)))))))))),
    fn_body (fl := [false, false]) (n := 2) (k := 1) (is_seq (is_if (it_test (io_iv (io_op s_is (nm_ib 1) (iv_ib (iq_iv c_non))))) (is_ret (iv_io (io_iv (io_op s_is (nm_ib 0) (iv_ib (iq_iv c_non)))))) is_nil)
      (is_seq (is_if (it_test (io_iv (io_op s_is (nm_ib 1) (iv_ib (iq_iv c_bl))))) (is_ret (iv_io (io_iv (io_op s_is (nm_ib 0) (iv_ib (iq_iv c_bl)))))) is_nil)
      (is_seq (is_if (it_test (io_iv (io_op s_is (nm_ib 1) (iv_ib (iq_iv c_bl))))) (is_ret (iv_io (io_iv (io_op s_is (nm_ib 0) (iv_ib (iq_iv c_bl)))))) is_nil)
      (is_seq (is_if (it_tru (iv_ib (io_iv (io_cb s_isi (ia_cons (nm_ib 1) (ia_cons (iv_ib (iq_iv c_ty)) ia_nil)))))) (is_ret (iv_io (iv_and (io_iv (io_call (n := 1) (fun _ => .inr trivial) (ia_cons (iv_ib (il_iv (nm_il 0))) ia_nil) (aC_len aN_len))) (io_iv (io_op s_eq (nm_ib 0) (nm_ib 1)))))) is_nil)
      (is_seq (is_if (it_tru (iv_ib (io_iv (io_cb s_isi (ia_cons (nm_ib 1) (ia_cons (iv_ib (iq_iv c_ty)) ia_nil)))))) (is_ret (iv_io (iv_and (io_iv (io_cb s_isi (ia_cons (nm_ib 0) (ia_cons (iv_ib (iq_iv c_ty)) ia_nil)))) (io_iv (io_op s_eq (nm_ib 0) (nm_ib 1)))))) is_nil)
      (is_seq (is_if (it_tru (iv_ib (io_iv (io_cb s_isi (ia_cons (nm_ib 1) (ia_cons (iv_ib (iq_iv c_ty)) ia_nil)))))) (is_if (it_not (it_tru (iv_ib (io_iv (io_cb s_isi (ia_cons (nm_ib 0) (ia_cons (iv_ib (iq_iv c_ty)) ia_nil))))))) (is_ret (iv_io (iq_iv c_bl))) is_nil) (is_if (it_not (it_tru (iv_ib (io_iv (io_cb s_isi (ia_cons (nm_ib 0) (ia_cons (iv_ib (iq_iv c_ty)) ia_nil))))))) (is_ret (iv_io (iq_iv c_bl))) is_nil))
      (is_seq (is_if (it_test (io_iv (io_op s_eq (iv_ib (io_iv (io_cb s_len (ia_cons (nm_ib 0) ia_nil)))) (iv_ib (io_iv (io_cb s_len (ia_cons (nm_ib 1) ia_nil))))))) (is_ret (iv_io (iq_iv c_bl))) is_nil)
      (is_seq (is_for (by rfl) (ii_R1 (iav_cons (io_iv (io_cb s_len (ia_cons (nm_ib 1) ia_nil))) iav_nil)) (ig_nm (i := 2))
      (is_if (it_not (it_tru (iv_ib (io_iv (io_call (n := 2) (fun _ => .inr trivial) (ia_cons (iv_ib (io_iv (io_op s_ix (nm_ib 0) (nm_ib 2)))) (ia_cons (iv_ib (io_iv (io_op s_ix (nm_ib 1) (nm_ib 2)))) ia_nil)) (aC_len (aC_len aN_len))))))) (is_ret (iv_io (iq_iv c_bl))) is_nil))
      (is_ret (iv_io (iq_iv c_bl))))))))))) rfl h⟩
theorem cal_law_same (hd : Hd K mg) (n : Nat) : CalX P w K mg base (n + 2) "_law_same" ["got", "due"] (spM K 2 (m_law_same n)) := by
  obtain ⟨fd, F⟩ := hd.def_ 9
  exact .mk' (hd.glo 21) F.kp (FunD.bindsN F fun _ _ _ _ _ _ us hl => match us, hl with | [_, _], _ => rfl) (ok_law_same hd F n)
def l_law_cost_0 : M T := (oV (vO (oOp opMul (bV (vO (oOp opIx (nmM 0) (nmM 2)))) (bV (vO (oOp opIx (nmM 1) (nmM 2)))))))
def m_law_cost : MF := fnM [false, false] 1
      (sRet (oV (vO (oA bSumI (aCons (bV (vO (lcM [2] (iR1 (vCons (vO (oA bLen (aCons (nmM 0) aNil))) vNil)) (gNm 2) tYesM l_law_cost_0))) aNil)))))
theorem ok_law_cost (hd : Hd K mg) {fd : FuncData} (F : FunD K d_law_cost.name d_law_cost.qual d_law_cost.params d_law_cost.body d_law_cost.scope (d_law_cost.dvs K) (d_law_cost.kws K) (He.fAd K d_law_cost.at_) fd) : FnOk P w K mg base (L2.CX P w) 1 (He.fAd K d_law_cost.at_) fd ["counts", "lengths"] (spM K 2 m_law_cost) := by
  refine FunD.ok F sc_law_cost (fun vs H Q E h => h.1) (fun cdv A outer s H vs Q E hr h => ?_)
  exact ⟨_, (pss_one (ps_ret (pe_callB (cr_sum rfl) (by rfl) (hd.free 22) (by decide +kernel) (pa_cons (pe_lc (own := [("k", 2)]) (g := _) (by rfl) sc_law_cost.nd (pi_range1 rfl (hd.free 4) (pa_cons (pe_callB g_len (by rfl) (hd.free 3) (by decide +kernel) (pa_cons (pv 0) pa_nil)) pa_nil)) (blkOk_by (own := [("k", 2)]) (N := N_law_cost) (sc := defScope s_law_cost) (by decide +kernel)) (fun _ _ _ _ _ => (pg_name (i := 2) sc_law_cost.nd rfl (Or.inl rfl))) (fun _ _ _ _ _ => pts_nil) (fun _ _ _ _ _ => (pe_op op_mulH (pe_ix ix_G (pv 0) (pv 2) (fun _ _ => rfl)) (pe_ix ix_G (pv 1) (pv 2) (fun _ _ => rfl))))) pa_nil)))),
    fn_body (fl := [false, false]) (n := 2) (k := 1) (is_ret (iv_io (io_iv (io_cb s_sum (ia_cons (iv_ib (io_iv (io_lc (vs := [2]) (by rfl) (ii_R1 (iav_cons (io_iv (io_cb s_len (ia_cons (nm_ib 0) ia_nil))) iav_nil)) (ig_nm (i := 2)) it_yes (iv_io (io_iv (io_op s_mul (iv_ib (io_iv (io_op s_ix (nm_ib 0) (nm_ib 2)))) (iv_ib (io_iv (io_op s_ix (nm_ib 1) (nm_ib 2)))))))))) ia_nil))))) rfl h⟩
theorem cal_law_cost (hd : Hd K mg) : CalX P w K mg base 1 "_law_cost" ["counts", "lengths"] (spM K 2 m_law_cost) := by
  obtain ⟨fd, F⟩ := hd.def_ 10
  exact .mk' (hd.glo 23) F.kp (FunD.bindsN F fun _ _ _ _ _ _ us hl => match us, hl with | [_, _], _ => rfl) (ok_law_cost hd F)
def l_law_joined_0 : M T := (oV (vO (oU opNeg (bV (vM (pC (.int 1)))))))
def l_law_joined_1 : M T := (oV (vTup (vCons (vO (oOp opIx (nmM 1) (nmM 6))) (vCons (vO (oOp opIx (nmM 2) (nmM 6))) (vCons (vL (pNm 6)) vNil)))))
def l_law_joined_2 : M Bool := (tand (tst (vO (oOp (opEq true) (nmM 6) (nmM 8)))) (tst (vO (oOp (opEq true) (nmM 6) (nmM 9)))))
def l_law_joined_3 : M T := (oV (vL (pNm 6)))
def l_law_joined_4 : SM := (sSeq (sAsg 7 (oV (vO (oA bSortedT (aCons (bV (vO (lcM [6] (iIt (vL (pNm 4))) (gNm 6) tYesM l_law_joined_1))) aNil)))))
      (sSeq (sAsg 8 (oV (vO (oOp opIx (bV (vO (oOp opIx (nmM 7) (bV (vM (pC (.int 0))))))) (bV (vM (pC (.int 2))))))))
      (sSeq (sAsg 9 (oV (vO (oOp opIx (bV (vO (oOp opIx (nmM 7) (bV (vM (pC (.int 1))))))) (bV (vM (pC (.int 2))))))))
      (sSeq (sPut (oV (vO (oA bLen (aCons (nmM 1) aNil)))) (pNm 3) (pAt (pNm 8)))
      (sSeq (sPut (oV (vO (oA bLen (aCons (nmM 1) aNil)))) (pNm 3) (pAt (pNm 9)))
      (sSeq (sAsg 4 (oV (vO (oOp opAdd (bV (vO (lcM [6] (iIt (vL (pNm 4))) (gNm 6) l_law_joined_2 l_law_joined_3))) (bV (vO (oLst (vCons (vO (oA bLen (aCons (nmM 1) aNil))) vNil))))))))
      (sSeq (sDrop (mApp 1 (oV (vO (oOp opAdd (bV (vO (oOp opIx (nmM 1) (nmM 8)))) (bV (vO (oOp opIx (nmM 1) (nmM 9)))))))))
      (sSeq (sDrop (mApp 2 (oV (vO (oA bMin (aCons (bV (vO (oOp opIx (nmM 2) (nmM 8)))) (aCons (bV (vO (oOp opIx (nmM 2) (nmM 9)))) aNil)))))))
      (sDrop (mApp 3 (oV (vO (oU opNeg (bV (vM (pC (.int 1)))))))))))))))))
def l_law_joined_5 : SM := (sIf (tst (vO (oOp opGe (bV (vO (oOp opIx (nmM 3) (nmM 6)))) (bV (vM (pC (.int 0))))))) (sSeq (sAsg 6 (oV (vO (oOp opIx (nmM 3) (nmM 6)))))
      (sAsg 12 (oV (vO (oOp opAdd (nmM 12) (bV (vM (pC (.int 1))))))))) sNil)
def l_law_joined_6 : SM := (sSeq (sAsg 12 (oV (vM (pC (.int 0)))))
      (sSeq (sAsg 6 (oV (vL (pNm 11))))
      (sSeq (sFor (iR1 (vCons (vO (oA bLen (aCons (nmM 0) aNil))) vNil)) (gNm 5) l_law_joined_5)
      (sDrop (mApp 10 (oV (vL (pNm 12))))))))
def m_law_joined : MF := fnM [false] 13
      (sSeq (sAsg 1 (oA bList (aCons (nmM 0) aNil)))
      (sSeq (sAsg 2 (mLstRg (mRg1 (vO (oA bLen (aCons (nmM 0) aNil))))))
      (sSeq (sAsg 3 (lcM [13] (iIt (vL (pNm 0))) (gNm 13) tYesM l_law_joined_0))
      (sSeq (sAsg 4 (oV (vO (mLstRg (mRg1 (vO (oA bLen (aCons (nmM 0) aNil))))))))
      (sSeq (sFor (iR1 (vCons (vO (oOp opSub (bV (vO (oA bLen (aCons (nmM 0) aNil)))) (bV (vM (pC (.int 1)))))) vNil)) (gNm 5) l_law_joined_4)
      (sSeq (sAsg 10 (oLst vNil))
      (sSeq (sFor (iR1 (vCons (vO (oA bLen (aCons (nmM 0) aNil))) vNil)) (gNm 11) l_law_joined_6)
      (sRet (oV (vO (oA bTup (aCons (nmM 10) aNil))))))))))))
theorem ok_law_joined (hd : Hd K mg) {fd : FuncData} (F : FunD K d_law_joined.name d_law_joined.qual d_law_joined.params d_law_joined.body d_law_joined.scope (d_law_joined.dvs K) (d_law_joined.kws K) (He.fAd K d_law_joined.at_) fd) : FnOk P w K mg base (L2.CX P w) 1 (He.fAd K d_law_joined.at_) fd ["counts"] (spM K 1 m_law_joined) := by
  refine FunD.ok F sc_law_joined (fun vs H Q E h => h.1) (fun cdv A outer s H vs Q E hr h => ?_)
  exact ⟨_, (pss_cons (ps_set (i := 1) sc_law_joined.nd rfl (Or.inr rfl) (pe_callTy g_list (by rfl) (hd.free 2) (by decide +kernel) (pa_cons (pv 0) pa_nil)))
      (pss_cons (ps_set (i := 2) sc_law_joined.nd rfl (Or.inr rfl) (pe_listRg rfl rfl (hd.free 2) (prg_1 rfl (hd.free 4) (pe_callB g_len (by rfl) (hd.free 3) (by decide +kernel) (pa_cons (pv 0) pa_nil)))))
      (pss_cons (ps_setLc (i := 3) (own := [("count", 13)]) (g := _) (by rfl) sc_law_joined.nd rfl rfl (sw_true rfl rfl rfl (by decide +kernel)) (pi_G (pv 0)) (blkOk_by (own := [("count", 13)]) (N := N_law_joined) (sc := defScope s_law_joined) (by decide +kernel)) (fun _ _ _ _ _ => (pg_name (i := 13) sc_law_joined.nd rfl (Or.inl rfl))) (fun _ _ _ _ _ => pts_nil) (fun _ _ _ _ _ => (pe_un un_neg pe_int)))
      (pss_cons (ps_set (i := 4) sc_law_joined.nd rfl (Or.inl rfl) (pe_listRg rfl rfl (hd.free 2) (prg_1 rfl (hd.free 4) (pe_callB g_len (by rfl) (hd.free 3) (by decide +kernel) (pa_cons (pv 0) pa_nil)))))
      (pss_cons (ps_for (passes_of rfl) rfl (pi_range1 rfl (hd.free 4) (pa_cons (pe_op op_sub (pe_callB g_len (by rfl) (hd.free 3) (by decide +kernel) (pa_cons (pv 0) pa_nil)) pe_int) pa_nil)) (pg_name (i := 5) sc_law_joined.nd rfl (Or.inl rfl))
      (pss_cons (ps_set (i := 7) sc_law_joined.nd rfl (Or.inl rfl) (pe_callB cr_sortedTW (by rfl) (hd.free 12) (by decide +kernel) (pa_cons (pe_lc (own := [("group", 6)]) (g := _) (by rfl) sc_law_joined.nd (pi_G (pv 4)) (blkOk_by (own := [("group", 6)]) (N := N_law_joined) (sc := defScope s_law_joined) (by decide +kernel)) (fun _ _ _ _ _ => (pg_name (i := 6) sc_law_joined.nd rfl (Or.inl rfl))) (fun _ _ _ _ _ => pts_nil) (fun _ _ _ _ _ => (pe_tup (pa_cons (pe_ix ix_G (pv 1) (pv 6) (fun _ _ => rfl)) (pa_cons (pe_ix ix_G (pv 2) (pv 6) (fun _ _ => rfl)) (pa_cons (pv 6) pa_nil)))))) pa_nil)))
      (pss_cons (ps_set (i := 8) sc_law_joined.nd rfl (Or.inr rfl) (pe_ix ix_G (pe_ix ix_G (pv 7) pe_int (fun _ _ => rfl)) pe_int (fun _ _ => rfl)))
      (pss_cons (ps_set (i := 9) sc_law_joined.nd rfl (Or.inr rfl) (pe_ix ix_G (pe_ix ix_G (pv 7) pe_int (fun _ _ => rfl)) pe_int (fun _ _ => rfl)))
      (pss_cons (ps_asg (pe_callB g_len (by rfl) (hd.free 3) (by decide +kernel) (pa_cons (pv 1) pa_nil)) (pg_sub (pv 3) (pv 8) set_list))
      (pss_cons (ps_asg (pe_callB g_len (by rfl) (hd.free 3) (by decide +kernel) (pa_cons (pv 1) pa_nil)) (pg_sub (pv 3) (pv 9) set_list))
      (pss_cons (ps_set (i := 4) sc_law_joined.nd rfl (Or.inl rfl) (pe_op op_addG (pe_lc (own := [("group", 6)]) (g := _) (by rfl) sc_law_joined.nd (pi_G (pv 4)) (blkOk_by (own := [("group", 6)]) (N := N_law_joined) (sc := defScope s_law_joined) (by decide +kernel)) (fun _ _ _ _ _ => (pg_name (i := 6) sc_law_joined.nd rfl (Or.inl rfl))) (fun _ _ _ _ _ => (pts_one (PW.pt (pw_and (pt_cmpR (op_neG (hu64 hr)) (pv 6) (pv 8) (nomark _)) (pw_and1 (pt_cmpR (op_neG (hu64 hr)) (pv 6) (pv 9) (nomark _))))))) (fun _ _ _ _ _ => (pv 6))) (pe_lst (pa_cons (pe_callB g_len (by rfl) (hd.free 3) (by decide +kernel) (pa_cons (pv 1) pa_nil)) pa_nil))))
      (pss_cons (ps_expr (pe_bm PySem.F.plainAttrs_list PySem.F.slot_list_append PySem.F.type_list_append mt_append (pv 1) (pa_cons (pe_op op_addG (pe_ix ix_G (pv 1) (pv 8) (fun _ _ => rfl)) (pe_ix ix_G (pv 1) (pv 9) (fun _ _ => rfl))) pa_nil)))
      (pss_cons (ps_expr (pe_bm PySem.F.plainAttrs_list PySem.F.slot_list_append PySem.F.type_list_append mt_append (pv 2) (pa_cons (pe_callB (g_min rfl) (by rfl) (hd.free 13) (by decide +kernel) (pa_cons (pe_ix ix_G (pv 2) (pv 8) (fun _ _ => rfl)) (pa_cons (pe_ix ix_G (pv 2) (pv 9) (fun _ _ => rfl)) pa_nil))) pa_nil)))
      (pss_one (ps_expr (pe_bm PySem.F.plainAttrs_list PySem.F.slot_list_append PySem.F.type_list_append mt_append (pv 3) (pa_cons (pe_un un_neg pe_int) pa_nil)))))))))))))
      (pss_cons (ps_set (i := 10) sc_law_joined.nd rfl (Or.inl rfl) (pe_lst pa_nil))
      (pss_cons (ps_for (passes_of rfl) rfl (pi_range1 rfl (hd.free 4) (pa_cons (pe_callB g_len (by rfl) (hd.free 3) (by decide +kernel) (pa_cons (pv 0) pa_nil)) pa_nil)) (pg_name (i := 11) sc_law_joined.nd rfl (Or.inl rfl))
      (pss_cons (ps_set (i := 12) sc_law_joined.nd rfl (Or.inl rfl) pe_int)
      (pss_cons (ps_set (i := 6) sc_law_joined.nd rfl (Or.inl rfl) (pv 11))
      (pss_cons (ps_for (passes_of rfl) rfl (pi_range1 rfl (hd.free 4) (pa_cons (pe_callB g_len (by rfl) (hd.free 3) (by decide +kernel) (pa_cons (pv 0) pa_nil)) pa_nil)) (pg_name (i := 5) sc_law_joined.nd rfl (Or.inl rfl))
      (pss_one (ps_if (pt_cmpR op_geG (pe_ix ix_G (pv 3) (pv 6) (fun _ _ => rfl)) pe_int (nomark _)) (pss_cons (ps_set (i := 6) sc_law_joined.nd rfl (Or.inl rfl) (pe_ix ix_G (pv 3) (pv 6) (fun _ _ => rfl)))
      (pss_one (ps_set (i := 12) sc_law_joined.nd rfl (Or.inl rfl) (pe_op op_addG (pv 12) pe_int)))) pss_nil)))
      (pss_one (ps_expr (pe_bm PySem.F.plainAttrs_list PySem.F.slot_list_append PySem.F.type_list_append mt_append (pv 10) (pa_cons (pv 12) pa_nil))))))))
      (pss_one (ps_ret (pe_callTy g_tuple (by rfl) (hd.free 14) (by decide +kernel) (pa_cons (pv 10) pa_nil))))))))))),
    fn_body (fl := [false]) (n := 1) (k := 13) (is_seq (is_asg (by rfl) (io_cb s_list (ia_cons (nm_ib 0) ia_nil)))
      (is_seq (is_asg (by rfl) (io_lstRg (irg1 (io_iv (io_cb s_len (ia_cons (nm_ib 0) ia_nil))))))
      (is_seq (is_asg (by rfl) (io_lc (vs := [13]) (by rfl) (ii_G (il_iv (nm_il 0))) (ig_nm (i := 13)) it_yes (iv_io (io_iv (io_un s_neg (iv_ib (iq_iv c_int)))))))
      (is_seq (is_asg (by rfl) (iv_io (io_iv (io_lstRg (irg1 (io_iv (io_cb s_len (ia_cons (nm_ib 0) ia_nil))))))))
      (is_seq (is_for (by rfl) (ii_R1 (iav_cons (io_iv (io_op s_sub (iv_ib (io_iv (io_cb s_len (ia_cons (nm_ib 0) ia_nil)))) (iv_ib (iq_iv c_int)))) iav_nil)) (ig_nm (i := 5))
      (is_seq (is_asg (by rfl) (iv_io (io_iv (io_cb s_sortedT (ia_cons (iv_ib (io_iv (io_lc (vs := [6]) (by rfl) (ii_G (il_iv (nm_il 4))) (ig_nm (i := 6)) it_yes (iv_io (iv_tup (iav_cons (io_iv (io_op s_ix (nm_ib 1) (nm_ib 6))) (iav_cons (io_iv (io_op s_ix (nm_ib 2) (nm_ib 6))) (iav_cons (il_iv (nm_il 6)) iav_nil)))))))) ia_nil)))))
      (is_seq (is_asg (by rfl) (iv_io (io_iv (io_op s_ix (iv_ib (io_iv (io_op s_ix (nm_ib 7) (iv_ib (iq_iv c_int))))) (iv_ib (iq_iv c_int))))))
      (is_seq (is_asg (by rfl) (iv_io (io_iv (io_op s_ix (iv_ib (io_iv (io_op s_ix (nm_ib 7) (iv_ib (iq_iv c_int))))) (iv_ib (iq_iv c_int))))))
      (is_seq (is_put (iv_io (io_iv (io_cb s_len (ia_cons (nm_ib 1) ia_nil)))) (nm_il 3) (il_iq (nm_il 8)))
      (is_seq (is_put (iv_io (io_iv (io_cb s_len (ia_cons (nm_ib 1) ia_nil)))) (nm_il 3) (il_iq (nm_il 9)))
      (is_seq (is_asg (by rfl) (iv_io (io_iv (io_op s_add (iv_ib (io_iv (io_lc (vs := [6]) (by rfl) (ii_G (il_iv (nm_il 4))) (ig_nm (i := 6)) (it_and (it_test (io_iv (io_op s_eq (nm_ib 6) (nm_ib 8)))) (it_test (io_iv (io_op s_eq (nm_ib 6) (nm_ib 9))))) (iv_io (il_iv (nm_il 6)))))) (iv_ib (io_iv (io_lst (iav_cons (io_iv (io_cb s_len (ia_cons (nm_ib 1) ia_nil))) iav_nil))))))))
      (is_seq (is_drop (io_append (iv_io (io_iv (io_op s_add (iv_ib (io_iv (io_op s_ix (nm_ib 1) (nm_ib 8)))) (iv_ib (io_iv (io_op s_ix (nm_ib 1) (nm_ib 9)))))))))
      (is_seq (is_drop (io_append (iv_io (io_iv (io_cb s_min (ia_cons (iv_ib (io_iv (io_op s_ix (nm_ib 2) (nm_ib 8)))) (ia_cons (iv_ib (io_iv (io_op s_ix (nm_ib 2) (nm_ib 9)))) ia_nil)))))))
      (is_drop (io_append (iv_io (io_iv (io_un s_neg (iv_ib (iq_iv c_int))))))))))))))))
      (is_seq (is_asg (by rfl) (io_lst iav_nil))
      (is_seq (is_for (by rfl) (ii_R1 (iav_cons (io_iv (io_cb s_len (ia_cons (nm_ib 0) ia_nil))) iav_nil)) (ig_nm (i := 11))
      (is_seq (is_asg (by rfl) (iv_io (iq_iv c_int)))
      (is_seq (is_asg (by rfl) (iv_io (il_iv (nm_il 11))))
      (is_seq (is_for (by rfl) (ii_R1 (iav_cons (io_iv (io_cb s_len (ia_cons (nm_ib 0) ia_nil))) iav_nil)) (ig_nm (i := 5))
      (is_if (it_test (io_iv (io_op s_ord (iv_ib (io_iv (io_op s_ix (nm_ib 3) (nm_ib 6)))) (iv_ib (iq_iv c_int))))) (is_seq (is_asg (by rfl) (iv_io (io_iv (io_op s_ix (nm_ib 3) (nm_ib 6)))))
      (is_asg (by rfl) (iv_io (io_iv (io_op s_add (nm_ib 12) (iv_ib (iq_iv c_int))))))) is_nil))
      (is_drop (io_append (iv_io (il_iv (nm_il 12)))))))))
      (is_ret (iv_io (io_iv (io_cb s_tup (ia_cons (nm_ib 10) ia_nil)))))))))))) rfl h⟩
theorem cal_law_joined (hd : Hd K mg) : CalX P w K mg base 1 "_law_joined" ["counts"] (spM K 1 m_law_joined) := by
  obtain ⟨fd, F⟩ := hd.def_ 11
  exact .mk' (hd.glo 24) F.kp (FunD.bindsN F fun _ _ _ _ _ _ us hl => match us, hl with | [_], _ => rfl) (ok_law_joined hd F)
def m_law_least : MF := fnM [false, false] 2
      (sSeq (sAsg 2 (oV (vO (oA bList (aCons (nmM 0) aNil)))))
      (sSeq (sAsg 3 (callM m_least_lengths (aCons (bV (vL (pNm 2))) aNil)))
      (sSeq (sIf (tor (tnot (tru (bV (vO (callM m_law_complete_ones (aCons (bV (vL (pNm 3))) (aCons (bV (vO (oA bLen (aCons (nmM 0) aNil)))) aNil))))))) (tst (vO (oOp (opEq true) (nmM 2) (nmM 0))))) (sRet (oV (vM (pC (.bl false))))) sNil)
      (sSeq (sIf (tnot (tru (bV (vO (callM (m_law_same 12) (aCons (bV (vO (callM m_least_lengths (aCons (bV (vO (oA bTup (aCons (nmM 0) aNil)))) aNil)))) (aCons (bV (vL (pNm 3))) aNil))))))) (sRet (oV (vM (pC (.bl false))))) sNil)
      (sSeq (sIf (tst (vO (oOp opGt (bV (vO (callM m_law_cost (aCons (bV (vL (pNm 0))) (aCons (bV (vL (pNm 3))) aNil))))) (bV (vO (callM m_law_cost (aCons (bV (vL (pNm 0))) (aCons (bV (vL (pNm 1))) aNil)))))))) (sRet (oV (vM (pC (.bl false))))) sNil)
      (sRet (callM (m_law_same 12) (aCons (bV (vL (pNm 3))) (aCons (bV (vO (callM m_law_joined (aCons (bV (vL (pNm 0))) aNil)))) aNil)))))))))
theorem ok_law_least (hd : Hd K mg) {fd : FuncData} (F : FunD K d_law_least.name d_law_least.qual d_law_least.params d_law_least.body d_law_least.scope (d_law_least.dvs K) (d_law_least.kws K) (He.fAd K d_law_least.at_) fd) : FnOk P w K mg base (L2.CX P w) 15 (He.fAd K d_law_least.at_) fd ["counts", "rival"] (spM K 2 m_law_least) := by
  refine FunD.ok F sc_law_least (fun vs H Q E h => h.1) (fun cdv A outer s H vs Q E hr h => ?_)
  exact ⟨_, (pss_cons (ps_set (i := 2) sc_law_least.nd rfl (Or.inl rfl) (pe_callTy g_list (by rfl) (hd.free 2) (by decide +kernel) (pa_cons (pv 0) pa_nil)))
      (pss_cons (ps_set (i := 3) sc_law_least.nd rfl (Or.inl rfl) (pe_calX (sp := spM K 1 m_least_lengths) (cal_least_lengths hd) (hr.mono (by decide)) rfl (takes_of rfl rfl rfl rfl) (pa_cons (pv 2) pa_nil)))
      (pss_cons (ps_if (PW.pt (pw_or (pt_not (pt_truG (pe_calX (sp := spM K 2 m_law_complete_ones) (cal_law_complete_ones hd) (hr.mono (by decide)) rfl (takes_of rfl rfl rfl rfl) (pa_cons (pv 3) (pa_cons (pe_callB g_len (by rfl) (hd.free 3) (by decide +kernel) (pa_cons (pv 0) pa_nil)) pa_nil))) (by intro _; rfl))) (pw_or1 (pt_cmpR (op_neG (hu64 hr)) (pv 2) (pv 0) (nomark _))))) (pss_one (ps_ret pe_bl)) pss_nil)
      (pss_cons (ps_if (pt_not (pt_truG (pe_calX (sp := spM K 2 (m_law_same 12)) (cal_law_same hd 12) (hr.mono (by decide)) rfl (takes_of rfl rfl rfl rfl) (pa_cons (pe_calX (sp := spM K 1 m_least_lengths) (cal_least_lengths hd) (hr.mono (by decide)) rfl (takes_of rfl rfl rfl rfl) (pa_cons (pe_callTy g_tuple (by rfl) (hd.free 14) (by decide +kernel) (pa_cons (pv 0) pa_nil)) pa_nil)) (pa_cons (pv 3) pa_nil))) (by intro _; rfl))) (pss_one (ps_ret pe_bl)) pss_nil)
      (pss_cons (ps_if (pt_cmpR op_gtG (pe_calX (sp := spM K 2 m_law_cost) (cal_law_cost hd) (hr.mono (by decide)) rfl (takes_of rfl rfl rfl rfl) (pa_cons (pv 0) (pa_cons (pv 3) pa_nil))) (pe_calX (sp := spM K 2 m_law_cost) (cal_law_cost hd) (hr.mono (by decide)) rfl (takes_of rfl rfl rfl rfl) (pa_cons (pv 0) (pa_cons (pv 1) pa_nil))) (nomark _)) (pss_one (ps_ret pe_bl)) pss_nil)
      (pss_one (ps_ret (pe_calX (sp := spM K 2 (m_law_same 12)) (cal_law_same hd 12) (hr.mono (by decide)) rfl (takes_of rfl rfl rfl rfl) (pa_cons (pv 3) (pa_cons (pe_calX (sp := spM K 1 m_law_joined) (cal_law_joined hd) (hr.mono (by decide)) rfl (takes_of rfl rfl rfl rfl) (pa_cons (pv 0) pa_nil)) pa_nil)))))))))),
    fn_body (fl := [false, false]) (n := 2) (k := 2) (is_seq (is_asg (by rfl) (iv_io (io_iv (io_cb s_list (ia_cons (nm_ib 0) ia_nil)))))
      (is_seq (is_asg (by rfl) (io_call (n := 1) (fun _ => .inr trivial) (ia_cons (iv_ib (il_iv (nm_il 2))) ia_nil) (aC_len aN_len)))
      (is_seq (is_if (it_or (it_not (it_tru (iv_ib (io_iv (io_call (n := 2) (fun _ => .inr trivial) (ia_cons (iv_ib (il_iv (nm_il 3))) (ia_cons (iv_ib (io_iv (io_cb s_len (ia_cons (nm_ib 0) ia_nil)))) ia_nil)) (aC_len (aC_len aN_len))))))) (it_test (io_iv (io_op s_eq (nm_ib 2) (nm_ib 0))))) (is_ret (iv_io (iq_iv c_bl))) is_nil)
      (is_seq (is_if (it_not (it_tru (iv_ib (io_iv (io_call (n := 2) (fun _ => .inr trivial) (ia_cons (iv_ib (io_iv (io_call (n := 1) (fun _ => .inr trivial) (ia_cons (iv_ib (io_iv (io_cb s_tup (ia_cons (nm_ib 0) ia_nil)))) ia_nil) (aC_len aN_len)))) (ia_cons (iv_ib (il_iv (nm_il 3))) ia_nil)) (aC_len (aC_len aN_len))))))) (is_ret (iv_io (iq_iv c_bl))) is_nil)
      (is_seq (is_if (it_test (io_iv (io_op s_ord (iv_ib (io_iv (io_call (n := 2) (fun _ => .inr trivial) (ia_cons (iv_ib (il_iv (nm_il 0))) (ia_cons (iv_ib (il_iv (nm_il 3))) ia_nil)) (aC_len (aC_len aN_len))))) (iv_ib (io_iv (io_call (n := 2) (fun _ => .inr trivial) (ia_cons (iv_ib (il_iv (nm_il 0))) (ia_cons (iv_ib (il_iv (nm_il 1))) ia_nil)) (aC_len (aC_len aN_len)))))))) (is_ret (iv_io (iq_iv c_bl))) is_nil)
      (is_ret (io_call (n := 2) (fun _ => .inr trivial) (ia_cons (iv_ib (il_iv (nm_il 3))) (ia_cons (iv_ib (io_iv (io_call (n := 1) (fun _ => .inr trivial) (ia_cons (iv_ib (il_iv (nm_il 0))) ia_nil) (aC_len aN_len)))) ia_nil)) (aC_len (aC_len aN_len))))))))) rfl h⟩
theorem cal_law_least (hd : Hd K mg) : CalX P w K mg base 15 "_law_least" ["counts", "rival"] (spM K 2 m_law_least) := by
  obtain ⟨fd, F⟩ := hd.def_ 12
  exact .mk' (hd.glo 25) F.kp (FunD.bindsN F fun _ _ _ _ _ _ us hl => match us, hl with | [_, _], _ => rfl) (ok_law_least hd F)
def m_law : MF := fnM [false] 3
      (sSeq (sAsg 1 (oV (vO (oLst (vCons (vM (pC (.int 2))) (vCons (vM (pC (.int 1))) (vCons (vM (pC (.int 1))) (vCons (vM (pC (.int 3))) vNil))))))))
      (sSeq (sAsg 2 (oV (vO (oLst (vCons (vM (pC (.int 2))) (vCons (vM (pC (.int 2))) (vCons (vM (pC (.int 2))) (vCons (vM (pC (.int 2))) vNil))))))))
      (sSeq (sIf (tst (vO (oOp opGt (bV (vO (oA bLen (aCons (nmM 0) aNil)))) (bV (vM (pC (.int 0))))))) (sSeq (sAsg 1 (callT m_law_some_counts (callM m_law_drawer (aCons (bV (vL (pNm 0))) (aCons (bV (vM (pC (.int 0)))) aNil))) aNil))
      (sSeq (sAsg 3 (callM m_law_drawer (aCons (bV (vL (pNm 0))) (aCons (bV (vM (pC (.int 1)))) aNil))))
      (sAsg 2 (callM m_law_dealt (aCons (nmM 3) (aCons (bV (vO (callM m_law_complete (aCons (nmM 3) (aCons (bV (vO (oA bLen (aCons (nmM 1) aNil)))) aNil))))) aNil)))))) sNil)
      (sSeq (sIf (tor (tnot (tru (bV (vO (callM m_law_least (aCons (bV (vL (pNm 1))) (aCons (bV (vL (pNm 2))) aNil))))))) (tnot (tru (bV (vO (callM m_law_least (aCons (bV (vO (oRev (nmM 1)))) (aCons (bV (vL (pNm 2))) aNil)))))))) (sRet (oV (vM (pC (.bl false))))) sNil)
      (sRet (callM m_law_least (aCons (bV (vL (pNm 1))) (aCons (bV (vL (pNm 2))) aNil))))))))
theorem ok_law (hd : Hd K mg) {fd : FuncData} (F : FunD K d_law.name d_law.qual d_law.params d_law.body d_law.scope (d_law.dvs K) (d_law.kws K) (He.fAd K d_law.at_) fd) : FnOk P w K mg base (L2.CX P w) 16 (He.fAd K d_law.at_) fd ["script"] (spM K 1 m_law) := by
  refine FunD.ok F sc_law (fun vs H Q E h => h.1) (fun cdv A outer s H vs Q E hr h => ?_)
  exact ⟨_, (pss_cons (ps_set (i := 1) sc_law.nd rfl (Or.inl rfl) (pe_lst (pa_cons pe_int (pa_cons pe_int (pa_cons pe_int (pa_cons pe_int pa_nil))))))
      (pss_cons (ps_set (i := 2) sc_law.nd rfl (Or.inl rfl) (pe_lst (pa_cons pe_int (pa_cons pe_int (pa_cons pe_int (pa_cons pe_int pa_nil))))))
      (pss_cons (ps_if (pt_cmpR op_gtG (pe_callB g_len (by rfl) (hd.free 3) (by decide +kernel) (pa_cons (pv 0) pa_nil)) pe_int (nomark _)) (pss_cons (ps_set (i := 1) sc_law.nd rfl (Or.inl rfl) (pe_calX (sp := spM K 1 m_law_some_counts) (cal_law_some_counts hd) (hr.mono (by decide)) rfl (takes_of rfl rfl rfl rfl) (pa_cons (pe_calX (sp := spM K 2 m_law_drawer) (cal_law_drawer hd) (hr.mono (by decide)) rfl (takes_of rfl rfl rfl rfl) (pa_cons (pv 0) (pa_cons pe_int pa_nil))) pa_nil)))
      (pss_cons (ps_set (i := 3) sc_law.nd rfl (Or.inl rfl) (pe_calX (sp := spM K 2 m_law_drawer) (cal_law_drawer hd) (hr.mono (by decide)) rfl (takes_of rfl rfl rfl rfl) (pa_cons (pv 0) (pa_cons pe_int pa_nil))))
      (pss_one (ps_set (i := 2) sc_law.nd rfl (Or.inl rfl) (pe_calX (sp := spM K 2 m_law_dealt) (cal_law_dealt hd) (hr.mono (by decide)) rfl (takes_of rfl rfl rfl rfl) (pa_cons (pv 3) (pa_cons (pe_calX (sp := spM K 2 m_law_complete) (cal_law_complete hd) (hr.mono (by decide)) rfl (takes_of rfl rfl rfl rfl) (pa_cons (pv 3) (pa_cons (pe_callB g_len (by rfl) (hd.free 3) (by decide +kernel) (pa_cons (pv 1) pa_nil)) pa_nil))) pa_nil))))))) pss_nil)
      (pss_cons (ps_if (PW.pt (pw_or (pt_not (pt_truG (pe_calX (sp := spM K 2 m_law_least) (cal_law_least hd) (hr.mono (by decide)) rfl (takes_of rfl rfl rfl rfl) (pa_cons (pv 1) (pa_cons (pv 2) pa_nil))) (by intro _; rfl))) (pw_or1 (pt_not (pt_truG (pe_calX (sp := spM K 2 m_law_least) (cal_law_least hd) (hr.mono (by decide)) rfl (takes_of rfl rfl rfl rfl) (pa_cons (pe_revG (pv 1)) (pa_cons (pv 2) pa_nil))) (by intro _; rfl)))))) (pss_one (ps_ret pe_bl)) pss_nil)
      (pss_one (ps_ret (pe_calX (sp := spM K 2 m_law_least) (cal_law_least hd) (hr.mono (by decide)) rfl (takes_of rfl rfl rfl rfl) (pa_cons (pv 1) (pa_cons (pv 2) pa_nil))))))))),
    fn_body (fl := [false]) (n := 1) (k := 3) (is_seq (is_asg (by rfl) (iv_io (io_iv (io_lst (iav_cons (iq_iv c_int) (iav_cons (iq_iv c_int) (iav_cons (iq_iv c_int) (iav_cons (iq_iv c_int) iav_nil))))))))
      (is_seq (is_asg (by rfl) (iv_io (io_iv (io_lst (iav_cons (iq_iv c_int) (iav_cons (iq_iv c_int) (iav_cons (iq_iv c_int) (iav_cons (iq_iv c_int) iav_nil))))))))
      (is_seq (is_if (it_test (io_iv (io_op s_ord (iv_ib (io_iv (io_cb s_len (ia_cons (nm_ib 0) ia_nil)))) (iv_ib (iq_iv c_int))))) (is_seq (is_asg (by rfl) (io_callT (n := 0) (io_call (n := 2) (fun _ => .inr trivial) (ia_cons (iv_ib (il_iv (nm_il 0))) (ia_cons (iv_ib (iq_iv c_int)) ia_nil)) (aC_len (aC_len aN_len))) ia_nil aN_len))
      (is_seq (is_asg (by rfl) (io_call (n := 2) (fun _ => .inr trivial) (ia_cons (iv_ib (il_iv (nm_il 0))) (ia_cons (iv_ib (iq_iv c_int)) ia_nil)) (aC_len (aC_len aN_len))))
      (is_asg (by rfl) (io_call (n := 2) (fun _ => .inr trivial) (ia_cons (nm_ib 3) (ia_cons (iv_ib (io_iv (io_call (n := 2) (fun _ => .inr trivial) (ia_cons (nm_ib 3) (ia_cons (iv_ib (io_iv (io_cb s_len (ia_cons (nm_ib 1) ia_nil)))) ia_nil)) (aC_len (aC_len aN_len))))) ia_nil)) (aC_len (aC_len aN_len)))))) is_nil)
      (is_seq (is_if (it_or (it_not (it_tru (iv_ib (io_iv (io_call (n := 2) (fun _ => .inr trivial) (ia_cons (iv_ib (il_iv (nm_il 1))) (ia_cons (iv_ib (il_iv (nm_il 2))) ia_nil)) (aC_len (aC_len aN_len))))))) (it_not (it_tru (iv_ib (io_iv (io_call (n := 2) (fun _ => .inr trivial) (ia_cons (iv_ib (io_iv (io_rev (nm_ib 1)))) (ia_cons (iv_ib (il_iv (nm_il 2))) ia_nil)) (aC_len (aC_len aN_len)))))))) (is_ret (iv_io (iq_iv c_bl))) is_nil)
      (is_ret (io_call (n := 2) (fun _ => .inr trivial) (ia_cons (iv_ib (il_iv (nm_il 1))) (ia_cons (iv_ib (il_iv (nm_il 2))) ia_nil)) (aC_len (aC_len aN_len)))))))) rfl h⟩
end
end KL
/-! The shallow layer: what the mirror does, without environments. Ground: results, what is known of an environment, judgements. -/
namespace KM
open PySem PySem.Spec PyProof.Rows L2 Evl KP
inductive Z (α : Type) where
  | ok (a : α) | exc (c : Str) (ns : List Str) (ds : List D) | stuck
namespace Z
variable {α β γ : Type}
def bind (z : Z α) (k : α → Z β) : Z β := match z with
  | .ok a => k a
  | .exc c ns ds => .exc c ns ds
  | .stuck => .stuck
def opt : Option α → Z α
  | some a => .ok a
  | none => .stuck
def To (z : Z α) (Q : α → Prop) (X : Str → List Str → List D → Prop) : Prop := match z with
  | .ok a => Q a
  | .exc c ns ds => X c ns ds
  | .stuck => True
def wp (z : Z α) (Q : α → Prop) : Prop := match z with
  | .ok a => Q a
  | _ => False
theorem To.bind {z : Z α} {k : α → Z β} {Q1 : α → Prop} {Q : β → Prop} {X1 X : Str → List Str → List D → Prop} (h : z.To Q1 X1) (hk : ∀ a, Q1 a → (k a).To Q X) (hx : ∀ c ns ds, X1 c ns ds → X c ns ds) : (z.bind k).To Q X := by
  cases z with
  | ok a => exact hk a h
  | exc c ns ds => exact hx _ _ _ h
  | stuck => trivial
theorem To.mono {z : Z α} {Q1 Q : α → Prop} {X1 X : Str → List Str → List D → Prop} (h : z.To Q1 X1) (hk : ∀ a, Q1 a → Q a) (hx : ∀ c ns ds, X1 c ns ds → X c ns ds) : z.To Q X := by
  cases z with
  | ok a => exact hk a h
  | exc c ns ds => exact hx _ _ _ h
  | stuck => trivial
theorem opt_To {o : Option α} {Q : α → Prop} {X : Str → List Str → List D → Prop} (h : ∀ a, o = some a → Q a) : (opt o).To Q X := by
  cases o with
  | none => trivial
  | some a => exact h a rfl
end Z
/-! pairs taken apart (by the recursor, so that a pair of unknowns is never met by its projections) -/
section
variable {A B C E F H I T : Type} {M : Type}
noncomputable abbrev p2 (k : A → B → M) (s : A × B) : M := Prod.rec (motive := fun _ => M) k s
noncomputable abbrev p3 (k : A → B → C → M) (s : A × B × C) : M := Prod.rec (motive := fun _ => M) (fun a => p2 (k a)) s
noncomputable abbrev p4 (k : A → B → C → E → M) (s : A × B × C × E) : M := Prod.rec (motive := fun _ => M) (fun a => p3 (k a)) s
end
/-- what is known of a slot -/
inductive Sl where
  | any | nd | sm | da (d : D) | ow (ds : List D) | ob (c : Str) (ns : List Str) (ds : List D) | tr (t : T) | gr (dss : List (List D))
def lf2 (dss : List (List D)) : List T := dss.map fun ds => .lst (leafs ds)
def Sl.ok : Sl → Option T → Prop
  | .any, _ => True
  | .nd, c => c = none ∨ ∃ d, c = some (.val d)
  | .sm, c => ∃ t, c = some t
  | .da d, c => c = some (.val d)
  | .ow ds, c => c = some (.lst (leafs ds))
  | .ob n ns ds, c => c = some (.obj n ns (leafs ds))
  | .tr t, c => c = some t
  | .gr dss, c => c = some (.lst (lf2 dss))
abbrev Rg := List Sl
def Le : Rg → KM.Env → Prop
  | [], [] => True
  | s :: R, c :: e => s.ok c ∧ Le R e
  | _, _ => False
theorem Le.len : ∀ {R : Rg} {e : KM.Env}, Le R e → e.length = R.length
  | [], [], _ => rfl
  | _ :: R, _ :: e, h => by simp [Le.len h.2]
  | [], _ :: _, h => h.elim
  | _ :: _, [], h => h.elim
theorem Le.get : ∀ {R : Rg} {e : KM.Env} {i : Nat} {s : Sl}, Le R e → R[i]? = some s → ∃ c, e[i]? = some c ∧ s.ok c
  | s0 :: R, c :: e, 0, s, h, hi => by simp at hi; subst hi; exact ⟨c, rfl, h.1⟩
  | s0 :: R, c :: e, i + 1, s, h, hi => by
    obtain ⟨c', h1, h2⟩ := Le.get (i := i) h.2 (by simpa using hi)
    exact ⟨c', by simpa using h1, h2⟩
  | [], _, _, _, _, hi => by simp at hi
  | _ :: _, [], _, _, h, _ => h.elim
theorem Le.set : ∀ {R : Rg} {e : KM.Env} (i : Nat) {s : Sl} {c : Option T}, Le R e → s.ok c → Le (R.set i s) (e.set i c)
  | [], [], _, _, _, h, _ => h
  | s0 :: R, c0 :: e, 0, s, c, h, hs => ⟨hs, h.2⟩
  | s0 :: R, c0 :: e, i + 1, s, c, h, hs => ⟨h.1, Le.set i h.2 hs⟩
  | [], _ :: _, _, _, _, h, _ => h.elim
  | _ :: _, [], _, _, _, h, _ => h.elim
theorem Le.app : ∀ {R R2 : Rg} {e e2 : KM.Env}, Le R e → Le R2 e2 → Le (R ++ R2) (e ++ e2)
  | [], _, [], _, _, h => h
  | _ :: R, _, _ :: e, _, h, h2 => ⟨h.1, Le.app h.2 h2⟩
  | [], _, _ :: _, _, h, _ => h.elim
  | _ :: _, _, [], _, h, _ => h.elim
theorem Le.none : ∀ n : Nat, Le (List.replicate n .nd) (List.replicate n none)
  | 0 => trivial
  | n + 1 => ⟨.inl rfl, Le.none n⟩
/-- knowledge A is at least knowledge B -/
def Sub (A B : Rg) : Prop := ∀ e, Le A e → Le B e
theorem sub_refl {A : Rg} : Sub A A := fun _ h => h
theorem sub_eq {A B : Rg} (h : A = B) : Sub A B := h ▸ sub_refl
theorem Sub.trans {A B C : Rg} (h : Sub A B) (g : Sub B C) : Sub A C := fun e he => g e (h e he)
/-- knowledge behind an exception -/
inductive Mk where
  | a | k | s | n
def Sl.dn : Sl → Sl
  | .da _ => .nd
  | .nd => .nd
  | _ => .any
theorem Sl.dn_ok {s : Sl} {c : Option T} (h : s.ok c) : s.dn.ok c := by
  cases s with
  | da d => exact .inr ⟨d, h⟩
  | nd => exact h
  | _ => trivial
def Sl.full : Sl → Bool
  | .any => false
  | .nd => false
  | _ => true
theorem Sl.full_ok {s : Sl} {c : Option T} (h : s.full = true) (hc : s.ok c) : ∃ t, c = some t := by
  cases s with
  | any => cases h
  | nd => cases h
  | sm => exact hc
  | da d => exact ⟨_, hc⟩
  | ow ds => exact ⟨_, hc⟩
  | ob a b d => exact ⟨_, hc⟩
  | tr t => exact ⟨_, hc⟩
  | gr d => exact ⟨_, hc⟩
def mask : List Mk → Rg → Rg
  | .a :: ms, _ :: R => .any :: mask ms R
  | .k :: ms, s :: R => s :: mask ms R
  | .s :: ms, s :: R => (if s.full = true then .sm else .any) :: mask ms R
  | .n :: ms, s :: R => s.dn :: mask ms R
  | [], R => R
  | _, [] => []
theorem mask_le : ∀ {ms : List Mk} {R : Rg} {e : KM.Env}, Le R e → Le (mask ms R) e
  | [], _, _, h => h
  | .a :: ms, _ :: R, c :: e, h => ⟨trivial, mask_le h.2⟩
  | .k :: ms, s :: R, c :: e, h => ⟨h.1, mask_le h.2⟩
  | .s :: ms, s :: R, c :: e, h => by
    refine ⟨?_, mask_le h.2⟩
    split
    · rename_i hf; exact Sl.full_ok hf h.1
    · trivial
  | .n :: ms, s :: R, c :: e, h => ⟨Sl.dn_ok h.1, mask_le h.2⟩
  | .n :: _, [], e, h => h
  | .n :: _, _ :: _, [], h => h.elim
  | .a :: _, [], e, h => h
  | .k :: _, [], e, h => h
  | .s :: _, [], e, h => h
  | .a :: _, _ :: _, [], h => h
  | .k :: _, _ :: _, [], h => h
  | .s :: _, _ :: _, [], h => h.elim
def LeX : Option Rg → KM.Env → Prop
  | none, _ => True
  | some X, e => Le X e
def SubO (R : Rg) (X : Option Rg) : Prop := ∀ e, Le R e → LeX X e
theorem subM {ms : List Mk} {R X : Rg} (h : mask ms R = X) : SubO R (some X) := fun e he => by
  have := mask_le (ms := ms) he
  rw [h] at this
  exact this
/-! ### judgements -/
section
variable {α β σ τ φ ρ : Type}
def EX (X : Option Rg) (R : Rg) (m : M α) (z : Z σ) (v : σ → α) (R' : σ → Rg) : Prop := ∀ env, Le R env → z.To (fun s => ∃ e, m env = .ok (v s) e ∧ Le (R' s) e) fun c ns ds => ∃ e, m env = .exc c ns ds e ∧ LeX X e
def EO (X : Option Rg) (R : Rg) (m : M T) (z : Z σ) (v : σ → Sl) (R' : σ → Rg) : Prop := ∀ env, Le R env → z.To (fun s => ∃ t e, m env = .ok t e ∧ (v s).ok (some t) ∧ Le (R' s) e) fun c ns ds => ∃ e, m env = .exc c ns ds e ∧ LeX X e
def G (X : Option Rg) (R : Rg) (st : SM) (z : Z φ) (Rel : φ → Out → Prop) : Prop := ∀ env, Le R env → z.To (fun a => Rel a (st env)) fun c ns ds => ∃ e, st env = .exc c ns ds e ∧ LeX X e
/-- what is read -/
def rdS : Sl → Option D
  | .da d => some d
  | .ow ds => some (.lst ds)
  | .ob c ns ds => some (.obj c ns ds)
  | _ => none
def rdO (R : Rg) : Ob → Option D
  | .val d => some d
  | .nm i => (R[i]?).bind rdS
theorem rdS_ok {s : Sl} {c : Option T} {d : D} (h : rdS s = some d) (hc : s.ok c) : ∃ t, c = some t ∧ shal t = some d ∧ toD t = d := by
  cases s with
  | any => cases h
  | nd => cases h
  | sm => cases h
  | tr t => cases h
  | gr d => cases h
  | da d0 => cases h; exact ⟨_, hc, rfl, rfl⟩
  | ow ds => cases h; exact ⟨_, hc, x_shalL ds, x_toDL ds⟩
  | ob n ns ds =>
    cases h
    refine ⟨_, hc, ?_, ?_⟩
    · show (unvals (leafs ds)).map (D.obj n ns) = _
      rw [unvals_leafs]; rfl
    · show D.obj n ns (toDs (leafs ds)) = _
      rw [toDs_leafs]
theorem rdO_ok {R : Rg} {e : KM.Env} {o : Ob} {d : D} (h : Le R e) (hr : rdO R o = some d) : lookB o e = some d := by
  cases o with
  | val d0 => exact hr
  | nm i =>
    have hr : (R[i]?).bind rdS = some d := hr
    cases hi : R[i]? with
    | none => rw [hi] at hr; cases hr
    | some s =>
      rw [hi] at hr
      obtain ⟨c, h1, h2⟩ := h.get hi
      obtain ⟨t, h3, h4, _⟩ := rdS_ok hr h2
      rw [x_lookN, h1, h3]
      exact h4
def rdOs (R : Rg) : List Ob → Option (List D)
  | [] => some []
  | o :: os => (rdO R o).bind fun d => (rdOs R os).map (d :: ·)
theorem rdOs_ok {R : Rg} {e : KM.Env} (h : Le R e) : ∀ {os : List Ob} {ds : List D}, rdOs R os = some ds → lookBs os e = some ds
  | [], _, hr => hr
  | o :: os, ds, hr => by
    unfold rdOs at hr
    cases h1 : rdO R o with
    | none => rw [h1] at hr; cases hr
    | some d =>
      rw [h1] at hr
      cases h2 : rdOs R os with
      | none => rw [h2] at hr; cases hr
      | some es =>
        rw [h2] at hr
        cases hr
        show (lookB o e).bind _ = _
        rw [rdO_ok h h1]
        show (lookBs os e).map _ = _
        rw [rdOs_ok h h2]
        rfl
theorem toDs_lf2 : ∀ dss : List (List D), toDs (lf2 dss) = dss.map D.lst
  | [] => rfl
  | ds :: dss => by
    show toD (.lst (leafs ds)) :: toDs (lf2 dss) = _
    rw [toDs_lf2 dss, x_toDL]; rfl
/-- a tree's data -/
def tdS : Sl → Option D
  | .da d => some d
  | .ow ds => some (.lst ds)
  | .ob c ns ds => some (.obj c ns ds)
  | .tr t => some (toD t)
  | .gr dss => some (.lst (dss.map D.lst))
  | _ => none
theorem tdS_ok {s : Sl} {t : T} {d : D} (h : tdS s = some d) (hc : s.ok (some t)) : toD t = d := by
  cases s with
  | any => cases h
  | nd => cases h
  | sm => cases h
  | tr t => cases h; cases hc; rfl
  | gr dss => cases h; cases hc; exact congrArg D.lst (toDs_lf2 dss)
  | da d0 => obtain ⟨t', e, _, g⟩ := rdS_ok (s := .da d0) h hc; cases e; exact g
  | ow ds => obtain ⟨t', e, _, g⟩ := rdS_ok (s := .ow ds) h hc; cases e; exact g
  | ob n ns ds => obtain ⟨t', e, _, g⟩ := rdS_ok (s := .ob n ns ds) h hc; cases e; exact g
variable {X : Option Rg} {R : Rg} {z : Z σ}
/-! ### expressions -/
/-- an expression, then what hangs on it -/
theorem EX.bnd {m : M α} {k : α → M β} {v : σ → α} {R1 : σ → Rg} {z2 : σ → Z τ} {v2 : σ → τ → β} {R2 : σ → τ → Rg} (a : EX X R m z v R1) (b : ∀ s, EX X (R1 s) (k (v s)) (z2 s) (v2 s) (R2 s)) :
    EX X R (m.bnd k) (z.bind fun s => (z2 s).bind fun t => .ok (s, t)) (fun x => v2 x.1 x.2) (fun x => R2 x.1 x.2) := fun env h => by
  refine (a env h).bind (fun s ⟨e, h1, h2⟩ => ((b s) e h2).bind (fun t ⟨e', h3, h4⟩ => ⟨e', ?_, h4⟩) fun c ns ds ⟨e', h3, h4⟩ => ⟨e', ?_, h4⟩) fun c ns ds ⟨e, h1, h2⟩ => ⟨e, ?_, h2⟩
  · rw [x_bnd, h1]; exact h3
  · rw [x_bnd, h1]; exact h3
  · rw [x_bnd, h1]; rfl
theorem EX.map {m : M α} {k : α → M β} {v : σ → α} {R1 : σ → Rg} {v2 : σ → β} (a : EX X R m z v R1) (b : ∀ s e, Le (R1 s) e → k (v s) e = .ok (v2 s) e) : EX X R (m.bnd k) z v2 R1 := fun env h => by
  refine (a env h).mono (fun s ⟨e, h1, h2⟩ => ⟨e, ?_, h2⟩) fun c ns ds ⟨e, h1, h2⟩ => ⟨e, ?_, h2⟩
  · rw [x_bnd, h1]; exact b s e h2
  · rw [x_bnd, h1]; rfl
theorem EX.mapO {m : M α} {k : α → M T} {v : σ → α} {R1 : σ → Rg} {v2 : σ → Sl} (a : EX X R m z v R1) (b : ∀ s e, Le (R1 s) e → ∃ t, k (v s) e = .ok t e ∧ (v2 s).ok (some t)) : EO X R (m.bnd k) z v2 R1 := fun env h => by
  refine (a env h).mono (fun s ⟨e, h1, h2⟩ => ?_) fun c ns ds ⟨e, h1, h2⟩ => ⟨e, ?_, h2⟩
  · obtain ⟨t, g1, g2⟩ := b s e h2
    exact ⟨t, e, by rw [x_bnd, h1]; exact g1, g2, h2⟩
  · rw [x_bnd, h1]; rfl
/-- .. that may get stuck -/
theorem EX.optO {m : M α} {k : α → M T} {v : σ → α} {R1 : σ → Rg} {o : σ → Option T} (a : EX X R m z v R1) (b : ∀ s e t, Le (R1 s) e → o s = some t → k (v s) e = .ok t e) :
    EO X R (m.bnd k) (z.bind fun s => (Z.opt (o s)).bind fun t => .ok (s, t)) (fun x => .tr x.2) (fun x => R1 x.1) := fun env h => by
  refine (a env h).bind (fun s ⟨e, h1, h2⟩ => (Z.opt_To (Q := fun t => o s = some t) (X := fun _ _ _ => False) fun t ht => ht).bind (fun t ht => ⟨t, e, ?_, rfl, h2⟩) fun _ _ _ z => z.elim) fun c ns ds ⟨e, h1, h2⟩ => ⟨e, ?_, h2⟩
  · rw [x_bnd, h1]; exact b s e t h2 ht
  · rw [x_bnd, h1]; rfl
theorem EX.optX {m : M α} {k : α → M β} {v : σ → α} {R1 : σ → Rg} {o : σ → Option β} (a : EX X R m z v R1) (b : ∀ s e t, Le (R1 s) e → o s = some t → k (v s) e = .ok t e) :
    EX X R (m.bnd k) (z.bind fun s => (Z.opt (o s)).bind fun t => .ok (s, t)) (fun x => x.2) (fun x => R1 x.1) := fun env h => by
  refine (a env h).bind (fun s ⟨e, h1, h2⟩ => (Z.opt_To (Q := fun t => o s = some t) (X := fun _ _ _ => False) fun t ht => ht).bind (fun t ht => ⟨e, ?_, h2⟩) fun _ _ _ z => z.elim) fun c ns ds ⟨e, h1, h2⟩ => ⟨e, ?_, h2⟩
  · rw [x_bnd, h1]; exact b s e t h2 ht
  · rw [x_bnd, h1]; rfl
theorem ex_pre {R2 : Rg} {m : M α} {v : σ → α} {R1 : σ → Rg} (h : R = R2) (a : EX X R2 m z v R1) : EX X R m z v R1 := h ▸ a
theorem eo_pre {R2 : Rg} {m : M T} {v : σ → Sl} {R1 : σ → Rg} (h : R = R2) (a : EO X R2 m z v R1) : EO X R m z v R1 := h ▸ a
/-- constants, names -/
theorem ev_c {d : D} : EX X R (vM (pC d)) (.ok ()) (fun _ => d) (fun _ => R) := fun env h => ⟨env, rfl, h⟩
theorem ev_nm {i : Nat} {d : D} (hi : R[i]? = some (.da d)) : EX X R (vL (pNm i)) (.ok ()) (fun _ => d) (fun _ => R) := fun env h => by
  obtain ⟨c, h1, h2⟩ := h.get hi
  cases (show c = some (T.val d) from h2)
  refine ⟨env, ?_, h⟩
  rw [x_vL, x_pNm, h1]
  show frz (.loc i []) env = _
  rw [x_frzN, h1]
  show Rs.ok d (env.set i (some (.val d))) = _
  rw [set_same h1]
theorem eb_nm {i : Nat} {s : Sl} (hi : R[i]? = some s) (hf : s.full = true) : EX X R (nmM i) (.ok ()) (fun _ => Ob.nm i) (fun _ => R) := fun env h => by
  obtain ⟨c, h1, h2⟩ := h.get hi
  obtain ⟨t, rfl⟩ := Sl.full_ok hf h2
  refine ⟨env, ?_, h⟩
  rw [x_nm, h1]
  rfl
theorem eb_v {m : M D} {d : σ → D} {R1 : σ → Rg} (a : EX X R m z d R1) : EX X R (bV m) z (fun s => Ob.val (d s)) R1 := a.map fun _ _ _ => rfl
theorem eo_v {m : M D} {d : σ → D} {R1 : σ → Rg} (a : EX X R m z d R1) : EO X R (oV m) z (fun s => .da (d s)) R1 := a.mapO fun s e h => ⟨_, rfl, rfl⟩
theorem ev_o {m : M T} {v : σ → Sl} {d : σ → D} {R1 : σ → Rg} (a : EO X R m z v R1) (h : ∀ s, tdS (v s) = some (d s)) : EX X R (vO m) z d R1 := fun env he => by
  refine (a env he).mono (fun s ⟨t, e, h1, h2, h3⟩ => ⟨e, ?_, h3⟩) fun c ns ds ⟨e, h1, h2⟩ => ⟨e, ?_, h2⟩
  · rw [x_vO, h1]
    show Rs.ok (toD t) e = _
    rw [tdS_ok (h s) h2]
  · rw [x_vO, h1]; rfl
/-- a name's list is frozen -/
theorem ev_fz {i : Nat} {ds : List D} (hi : R[i]? = some (.ow ds)) : EX X R (vL (pNm i)) (.ok ()) (fun _ => .lst ds) (fun _ => R.set i (.da (.lst ds))) := fun env h => by
  obtain ⟨c, h1, h2⟩ := h.get hi
  cases (show c = some (T.lst (leafs ds)) from h2)
  refine ⟨env.set i (some (.val (.lst ds))), ?_, h.set i rfl⟩
  rw [x_vL, x_pNm, h1]
  show frz (.loc i []) env = _
  rw [x_frzN, h1]
  show Rs.ok (toD (.lst (leafs ds))) (env.set i (some (.val (toD (.lst (leafs ds)))))) = _
  rw [x_toDL]
/-- operators -/
theorem eo_op {op : D → D → Option T} {ma mb : M Ob} {v1 : σ → Ob} {R1 : σ → Rg} {z2 : σ → Z τ} {v2 : σ → τ → Ob} {R2 : σ → τ → Rg} {d e : σ → τ → D} (a : EX X R ma z v1 R1) (b : ∀ s, EX X (R1 s) mb (z2 s) (v2 s) (R2 s))
    (ha : ∀ s t, rdO (R2 s t) (v1 s) = some (d s t)) (hb : ∀ s t, rdO (R2 s t) (v2 s t) = some (e s t)) :
    EO X R (oOp op ma mb) (z.bind fun s => (z2 s).bind fun t => (Z.opt (op (d s t) (e s t))).bind fun r => .ok (s, t, r)) (fun x => .tr x.2.2) (fun x => R2 x.1 x.2.1) := fun env h => by
  refine (a env h).bind (fun s ⟨e1, h1, h2⟩ => (b s e1 h2).bind (fun t ⟨e2, h3, h4⟩ => (Z.opt_To (Q := fun r => op (d s t) (e s t) = some r) (X := fun _ _ _ => False) fun t ht => ht).bind (fun r hr => ⟨r, e2, ?_, rfl, h4⟩) fun _ _ _ z => z.elim) fun c ns ds ⟨e', h3, h4⟩ => ⟨e', ?_, h4⟩) fun c ns ds ⟨e, h1, h2⟩ => ⟨e, ?_, h2⟩
  · unfold oOp
    rw [x_bnd, h1]
    show ((mb.bnd _) e1) = _
    rw [x_bnd, h3]
    show M.opt ((lookB (v1 s) e2).bind fun d => (lookB (v2 s t) e2).bind fun e => op d e) e2 = _
    rw [rdO_ok h4 (ha s t), rdO_ok h4 (hb s t)]
    show M.opt (op (d s t) (e s t)) e2 = _
    rw [hr]; rfl
  · unfold oOp
    rw [x_bnd, h1]
    show ((mb.bnd _) e1) = _
    rw [x_bnd, h3]; rfl
  · unfold oOp
    rw [x_bnd, h1]; rfl
theorem eo_u {op : D → Option T} {ma : M Ob} {v1 : σ → Ob} {R1 : σ → Rg} {d : σ → D} (a : EX X R ma z v1 R1) (ha : ∀ s, rdO (R1 s) (v1 s) = some (d s)) :
    EO X R (oU op ma) (z.bind fun s => (Z.opt (op (d s))).bind fun r => .ok (s, r)) (fun x => .tr x.2) (fun x => R1 x.1) := a.optO fun s e t h ho => by
  rw [rdO_ok h (ha s)]
  show M.opt (op (d s)) e = _
  rw [ho]; rfl
/-- arguments -/
theorem ea_nil : EX X R aNil (.ok ()) (fun _ => []) (fun _ => R) := fun env h => ⟨env, rfl, h⟩
theorem ea_cons {ma : M Ob} {mb : M (List Ob)} {v1 : σ → Ob} {R1 : σ → Rg} {z2 : σ → Z τ} {v2 : σ → τ → List Ob} {R2 : σ → τ → Rg} (a : EX X R ma z v1 R1) (b : ∀ s, EX X (R1 s) mb (z2 s) (v2 s) (R2 s)) :
    EX X R (aCons ma mb) (z.bind fun s => (z2 s).bind fun t => .ok (s, t)) (fun x => v1 x.1 :: v2 x.1 x.2) (fun x => R2 x.1 x.2) := a.bnd (z2 := z2) (v2 := fun s t => v1 s :: v2 s t) (R2 := R2) (k := fun x => mb.bnd fun xs => M.ret (x :: xs)) fun s => (b s).map fun _ _ _ => rfl
theorem ed_nil : EX X R vNil (.ok ()) (fun _ => []) (fun _ => R) := fun env h => ⟨env, rfl, h⟩
theorem ed_cons {ma : M D} {mb : M (List D)} {v1 : σ → D} {R1 : σ → Rg} {z2 : σ → Z τ} {v2 : σ → τ → List D} {R2 : σ → τ → Rg} (a : EX X R ma z v1 R1) (b : ∀ s, EX X (R1 s) mb (z2 s) (v2 s) (R2 s)) :
    EX X R (vCons ma mb) (z.bind fun s => (z2 s).bind fun t => .ok (s, t)) (fun x => v1 x.1 :: v2 x.1 x.2) (fun x => R2 x.1 x.2) := a.bnd (z2 := z2) (v2 := fun s t => v1 s :: v2 s t) (R2 := R2) (k := fun x => mb.bnd fun xs => M.ret (x :: xs)) fun s => (b s).map fun _ _ _ => rfl
/-- .. a starred one -/
theorem ed_star {ma : M D} {mb : M (List D)} {v1 : σ → D} {R1 : σ → Rg} {z2 : σ → List D → Z τ} {v2 : σ → List D → τ → List D} {R2 : σ → List D → τ → Rg} (a : EX X R ma z v1 R1) (b : ∀ s ds, EX X (R1 s) mb (z2 s ds) (v2 s ds) (R2 s ds)) :
    EX X R (vStar ma mb) (z.bind fun s => (Z.opt (items (v1 s))).bind fun ds => (z2 s ds).bind fun t => .ok (s, ds, t)) (fun x => x.2.1 ++ v2 x.1 x.2.1 x.2.2) (fun x => R2 x.1 x.2.1 x.2.2) := fun env h => by
  refine (a env h).bind (fun s ⟨e1, h1, h2⟩ => (Z.opt_To (Q := fun r => items (v1 s) = some r) (X := fun _ _ _ => False) fun t ht => ht).bind (fun ds hd => (b s ds e1 h2).bind (fun t ⟨e2, h3, h4⟩ => ⟨e2, ?_, h4⟩) fun c ns ds ⟨e', h3, h4⟩ => ⟨e', ?_, h4⟩) fun _ _ _ z => z.elim) fun c ns ds ⟨e, h1, h2⟩ => ⟨e, ?_, h2⟩
  · unfold vStar
    rw [x_bnd, h1]
    show (match items (v1 s) with | some ds => (mb.bnd fun xs => M.ret (ds ++ xs)) e1 | none => .stuck) = _
    rw [hd]
    show (mb.bnd _) e1 = _
    rw [x_bnd, h3]; rfl
  · unfold vStar
    rw [x_bnd, h1]
    show (match items (v1 s) with | some ds => (mb.bnd fun xs => M.ret (ds ++ xs)) e1 | none => .stuck) = _
    rw [hd]
    show (mb.bnd _) e1 = _
    rw [x_bnd, h3]; rfl
  · unfold vStar
    rw [x_bnd, h1]; rfl
def smT (ds : List D) : Option D := if ds.length ≤ 16777216 then some (.tup ds) else none
theorem ev_tup {ma : M (List D)} {v1 : σ → List D} {R1 : σ → Rg} (a : EX X R ma z v1 R1) : EX X R (vTup ma) (z.bind fun s => (Z.opt (smT (v1 s))).bind fun t => .ok (s, t)) (fun x => x.2) (fun x => R1 x.1) := a.optX fun s e t h ho => by
  unfold smT at ho
  split at ho
  · cases ho
    show (if small (v1 s) = true then _ else _) = _
    rw [if_pos (by unfold small; simpa)]
  · cases ho
def smL (ds : List D) : Option (List D) := if ds.length ≤ 16777216 then some ds else none
theorem eo_lst {ma : M (List D)} {v1 : σ → List D} {R1 : σ → Rg} (a : EX X R ma z v1 R1) : EO X R (oLst ma) (z.bind fun s => (Z.opt (smL (v1 s))).bind fun t => .ok (s, t)) (fun x => .ow x.2) (fun x => R1 x.1) := fun env h => by
  refine (a env h).bind (fun s ⟨e, h1, h2⟩ => (Z.opt_To (Q := fun t => smL (v1 s) = some t) (X := fun _ _ _ => False) fun t ht => ht).bind (fun t ht => ⟨.lst (leafs t), e, ?_, rfl, h2⟩) fun _ _ _ z => z.elim) fun c ns ds ⟨e, h1, h2⟩ => ⟨e, ?_, h2⟩
  · unfold oLst
    rw [x_bnd, h1]
    unfold smL at ht
    split at ht
    · cases ht
      show (if small (v1 s) = true then _ else _) = _
      rw [if_pos (by unfold small; simpa)]
    · cases ht
  · unfold oLst; rw [x_bnd, h1]; rfl
theorem eo_a {op : List D → Option T} {ma : M (List Ob)} {v1 : σ → List Ob} {R1 : σ → Rg} {ds : σ → List D} (a : EX X R ma z v1 R1) (ha : ∀ s, rdOs (R1 s) (v1 s) = some (ds s)) :
    EO X R (oA op ma) (z.bind fun s => (Z.opt (op (ds s))).bind fun r => .ok (s, r)) (fun x => .tr x.2) (fun x => R1 x.1) := a.optO fun s e t h ho => by
  rw [rdOs_ok h (ha s)]
  show M.opt (op (ds s)) e = _
  rw [ho]; rfl
/-- a tree that is a list of data -/
def unL : T → Option (List D)
  | .lst ts => unvals ts
  | _ => none
theorem unvals_eq : ∀ {ts : List T} {ds : List D}, unvals ts = some ds → ts = leafs ds
  | [], _, h => by cases h; rfl
  | .val d :: ts, ds, h => by
    unfold unvals at h
    cases h2 : unvals ts with
    | none => rw [h2] at h; cases h
    | some es => rw [h2] at h; cases h; rw [unvals_eq h2]; rfl
  | .lst _ :: _, _, h => by cases h
  | .dic _ _ :: _, _, h => by cases h
  | .obj _ _ _ :: _, _, h => by cases h
theorem eo_own {m : M T} {t : σ → T} {R1 : σ → Rg} (a : EO X R m z (fun s => .tr (t s)) R1) : EO X R m (z.bind fun s => (Z.opt (unL (t s))).bind fun ds => .ok (s, ds)) (fun x => .ow x.2) (fun x => R1 x.1) := fun env h => by
  refine (a env h).bind (fun s ⟨t', e, h1, h2, h3⟩ => (Z.opt_To (Q := fun ds => unL (t s) = some ds) (X := fun _ _ _ => False) fun t ht => ht).bind (fun ds hd => ⟨t', e, h1, ?_, h3⟩) fun _ _ _ z => z.elim) fun c ns ds z => z
  cases h2
  cases ht : t s with
  | lst ts => rw [ht] at hd; rw [unvals_eq hd]; rfl
  | val d => rw [ht] at hd; cases hd
  | dic a b => rw [ht] at hd; cases hd
  | obj a b c => rw [ht] at hd; cases hd
theorem eo_sl {ma : M Ob} {ml mh : M (Option Int)} {v1 : σ → Ob} {R1 : σ → Rg} {z2 : σ → Z τ} {v2 : σ → τ → Option Int} {R2 : σ → τ → Rg} {z3 : σ → τ → Z ρ} {v3 : σ → τ → ρ → Option Int} {R3 : σ → τ → ρ → Rg} {d : σ → τ → ρ → D}
    (a : EX X R ma z v1 R1) (b : ∀ s, EX X (R1 s) ml (z2 s) (v2 s) (R2 s)) (c : ∀ s t, EX X (R2 s t) mh (z3 s t) (v3 s t) (R3 s t)) (ha : ∀ s t u, rdO (R3 s t u) (v1 s) = some (d s t u)) :
    EO X R (oSl ma ml mh) (z.bind fun s => (z2 s).bind fun t => (z3 s t).bind fun u => (Z.opt (opSl (d s t u) (v2 s t) (v3 s t u))).bind fun r => .ok (s, t, u, r)) (fun x => .tr x.2.2.2) (fun x => R3 x.1 x.2.1 x.2.2.1) := fun env h => by
  refine (a env h).bind (fun s ⟨e1, h1, h2⟩ => (b s e1 h2).bind (fun t ⟨e2, h3, h4⟩ => (c s t e2 h4).bind (fun u ⟨e3, h5, h6⟩ => (Z.opt_To (Q := fun r => opSl (d s t u) (v2 s t) (v3 s t u) = some r) (X := fun _ _ _ => False) fun t ht => ht).bind (fun r hr => ⟨r, e3, ?_, rfl, h6⟩) fun _ _ _ z => z.elim)
    fun c ns ds ⟨e', h5, h6⟩ => ⟨e', ?_, h6⟩) fun c ns ds ⟨e', h3, h4⟩ => ⟨e', ?_, h4⟩) fun c ns ds ⟨e, h1, h2⟩ => ⟨e, ?_, h2⟩
  · unfold oSl
    rw [x_bnd, h1]
    show ((ml.bnd _) e1) = _
    rw [x_bnd, h3]
    show ((mh.bnd _) e2) = _
    rw [x_bnd, h5]
    show M.opt ((lookB (v1 s) e3).bind fun d => opSl d (v2 s t) (v3 s t u)) e3 = _
    rw [rdO_ok h6 (ha s t u)]
    show M.opt (opSl (d s t u) (v2 s t) (v3 s t u)) e3 = _
    rw [hr]; rfl
  · unfold oSl
    rw [x_bnd, h1]
    show ((ml.bnd _) e1) = _
    rw [x_bnd, h3]
    show ((mh.bnd _) e2) = _
    rw [x_bnd, h5]; rfl
  · unfold oSl
    rw [x_bnd, h1]
    show ((ml.bnd _) e1) = _
    rw [x_bnd, h3]; rfl
  · unfold oSl
    rw [x_bnd, h1]; rfl
theorem ep_no : EX X R ipNo (.ok ()) (fun _ => none) (fun _ => R) := fun env h => ⟨env, rfl, h⟩
def unI : D → Option Int
  | .int i => some i
  | _ => none
theorem ep_some {m : M D} {d : σ → D} {R1 : σ → Rg} (a : EX X R m z d R1) : EX X R (ipSome m) (z.bind fun s => (Z.opt (unI (d s))).bind fun i => .ok (s, i)) (fun x => some x.2) (fun x => R1 x.1) := fun env h => by
  refine (a env h).bind (fun s ⟨e, h1, h2⟩ => (Z.opt_To (Q := fun i => unI (d s) = some i) (X := fun _ _ _ => False) fun t ht => ht).bind (fun i hi => ⟨e, ?_, h2⟩) fun _ _ _ z => z.elim) fun c ns ds ⟨e, h1, h2⟩ => ⟨e, ?_, h2⟩
  · unfold ipSome
    rw [x_bnd, h1]
    show (match d s with | .int i => Rs.ok (some i) e | _ => .stuck) = _
    cases hd : d s <;> rw [hd] at hi <;> first | (cases hi; rfl) | cases hi
  · unfold ipSome; rw [x_bnd, h1]; rfl
theorem eo_rev {ma : M Ob} {v1 : σ → Ob} {R1 : σ → Rg} {d : σ → D} (a : EX X R ma z v1 R1) (ha : ∀ s, rdO (R1 s) (v1 s) = some (d s)) :
    EO X R (oRev ma) (z.bind fun s => (Z.opt (opRev (d s))).bind fun r => .ok (s, r)) (fun x => .tr x.2) (fun x => R1 x.1) := a.optO fun s e t h ho => by
  rw [rdO_ok h (ha s)]
  show M.opt (opRev (d s)) e = _
  rw [ho]; rfl
/-! tests; what a test's second part does must leave the environment as it was -/
def unB : D → Option Bool
  | .bl b => some b
  | _ => none
theorem et_tst {m : M D} {d : σ → D} {R1 : σ → Rg} (a : EX X R m z d R1) : EX X R (tst m) (z.bind fun s => (Z.opt (unB (d s))).bind fun t => .ok (s, t)) (fun x => x.2) (fun x => R1 x.1) := a.optX fun s e t h ho => by
  cases hd : d s <;> rw [hd] at ho <;> first | (cases ho; rfl) | cases ho
theorem et_tru {m : M Ob} {v1 : σ → Ob} {R1 : σ → Rg} {d : σ → D} (a : EX X R m z v1 R1) (ha : ∀ s, rdO (R1 s) (v1 s) = some (d s)) : EX X R (tru m) (z.bind fun s => (Z.opt (truD (d s))).bind fun t => .ok (s, t)) (fun x => x.2) (fun x => R1 x.1) := a.optX fun s e t h ho => by
  rw [rdO_ok h (ha s)]
  show M.opt (truD (d s)) e = _
  rw [ho]; rfl
theorem et_not {m : M Bool} {b : σ → Bool} {R1 : σ → Rg} (a : EX X R m z b R1) : EX X R (tnot m) z (fun s => !b s) R1 := a.map fun _ _ _ => rfl
theorem et_yes : EX X R tYesM (.ok ()) (fun _ => true) (fun _ => R) := fun env h => ⟨env, rfl, h⟩
theorem EX.if2 {m : M Bool} {ka kb : M β} {b : σ → Bool} {R1 : σ → Rg} {z1 z2 : σ → Z β} (a : EX X R m z b R1) (h1 : ∀ s, EX X (R1 s) ka (z1 s) id (fun _ => R1 s)) (h2 : ∀ s, EX X (R1 s) kb (z2 s) id (fun _ => R1 s)) :
    EX X R (m.bnd fun x => if x = true then ka else kb) (z.bind fun s => (if b s = true then z1 s else z2 s).bind fun t => .ok (s, t)) (fun x => x.2) (fun x => R1 x.1) := a.bnd (z2 := fun s => if b s = true then z1 s else z2 s) (v2 := fun _ t => t) (R2 := fun s _ => R1 s) (k := fun x => if x = true then ka else kb) fun s => by
  cases h : b s with
  | true => rw [if_pos rfl, if_pos rfl]; exact h1 s
  | false => rw [if_neg (by simp), if_neg (by simp)]; exact h2 s
theorem EX.id {m : M β} {v : σ → β} {R1 : σ → Rg} (a : EX X R m z v R1) (h : ∀ s, Sub (R1 s) R) : EX X R m (z.bind fun s => .ok (v s)) id (fun _ => R) := fun env he =>
  (a env he).bind (fun s ⟨e, h1, h2⟩ => ⟨e, h1, h s e h2⟩) fun _ _ _ z => z
theorem et_and {ma mb : M Bool} {b : σ → Bool} {R1 : σ → Rg} {z2 : σ → Z τ} {v2 : σ → τ → Bool} {R2 : σ → τ → Rg} (a : EX X R ma z b R1) (c : ∀ s, EX X (R1 s) mb (z2 s) (v2 s) (R2 s)) (h : ∀ s t, R2 s t = R1 s) :
    EX X R (tand ma mb) (z.bind fun s => (if b s = true then (z2 s).bind fun t => .ok (v2 s t) else .ok false).bind fun t => .ok (s, t)) (fun x => x.2) (fun x => R1 x.1) :=
  EX.if2 a (fun s => (c s).id fun t => sub_eq (h s t)) fun s env he => ⟨env, rfl, he⟩
theorem et_or {ma mb : M Bool} {b : σ → Bool} {R1 : σ → Rg} {z2 : σ → Z τ} {v2 : σ → τ → Bool} {R2 : σ → τ → Rg} (a : EX X R ma z b R1) (c : ∀ s, EX X (R1 s) mb (z2 s) (v2 s) (R2 s)) (h : ∀ s t, R2 s t = R1 s) :
    EX X R (tor ma mb) (z.bind fun s => (if b s = true then .ok true else (z2 s).bind fun t => .ok (v2 s t)).bind fun t => .ok (s, t)) (fun x => x.2) (fun x => R1 x.1) :=
  EX.if2 a (fun s env he => ⟨env, rfl, he⟩) fun s => (c s).id fun t => sub_eq (h s t)
theorem ev_and {ma mb : M D} {d : σ → D} {R1 : σ → Rg} {z2 : σ → Z τ} {v2 : σ → τ → D} {R2 : σ → τ → Rg} (a : EX X R ma z d R1) (c : ∀ s, EX X (R1 s) mb (z2 s) (v2 s) (R2 s)) (h : ∀ s t, R2 s t = R1 s) :
    EX X R (vAnd ma mb) ((z.bind fun s => (Z.opt (unB (d s))).bind fun t => .ok (s, t)).bind fun s => (if s.2 = true then (z2 s.1).bind fun t => .ok (v2 s.1 t) else .ok (.bl false)).bind fun t => .ok (s, t)) (fun x => x.2) (fun x => R1 x.1.1) :=
  EX.if2 (et_tst a) (fun s => (c s.1).id fun t => sub_eq (h s.1 t)) fun s env he => ⟨env, rfl, he⟩
theorem ev_not {m : M D} {d : σ → D} {R1 : σ → Rg} (a : EX X R m z d R1) : EX X R (vNot m) (z.bind fun s => (Z.opt (unB (d s))).bind fun t => .ok (s, t)) (fun x => .bl (!x.2)) (fun x => R1 x.1) := (et_tst a).map fun _ _ _ => rfl
def unBT : T → Option Bool
  | .val (.bl b) => some b
  | _ => none
theorem ev_chain {op op' : D → D → Option T} {ma mb mc : M Ob} {v1 : σ → Ob} {R1 : σ → Rg} {z2 : σ → Z τ} {v2 : σ → τ → Ob} {R2 : σ → τ → Rg} {z3 : σ → τ → Z ρ} {v3 : σ → τ → ρ → Ob} {R3 : σ → τ → ρ → Rg} {d e : σ → τ → D} {f g : σ → τ → ρ → D}
    (a : EX X R ma z v1 R1) (b : ∀ s, EX X (R1 s) mb (z2 s) (v2 s) (R2 s)) (c : ∀ s t, EX X (R2 s t) mc (z3 s t) (v3 s t) (R3 s t)) (h3 : ∀ s t u, R3 s t u = R2 s t)
    (ha : ∀ s t, rdO (R2 s t) (v1 s) = some (d s t)) (hb : ∀ s t, rdO (R2 s t) (v2 s t) = some (e s t)) (hf : ∀ s t u, rdO (R2 s t) (v2 s t) = some (f s t u)) (hg : ∀ s t u, rdO (R2 s t) (v3 s t u) = some (g s t u)) :
    EX X R (oChain op op' ma mb mc) (z.bind fun s => (z2 s).bind fun t => (Z.opt ((op (d s t) (e s t)).bind unBT)).bind fun k => (if k = true then (z3 s t).bind fun u => (Z.opt (op' (f s t u) (g s t u))).bind fun r => .ok (toD r) else .ok (.bl false)).bind fun r => .ok (s, t, r)) (fun x => x.2.2) (fun x => R2 x.1 x.2.1) := fun env h => by
  refine (a env h).bind (fun s ⟨e1, h1, h2⟩ => (b s e1 h2).bind (fun t ⟨e2, h4, h5⟩ => (Z.opt_To (Q := fun r => (op (d s t) (e s t)).bind unBT = some r) (X := fun _ _ _ => False) fun t ht => ht).bind (fun k hk => ?_) fun _ _ _ z => z.elim) fun c ns ds ⟨e', h3, h4⟩ => ⟨e', ?_, h4⟩) fun c ns ds ⟨e, h1, h2⟩ => ⟨e, ?_, h2⟩
  · have pre : oChain op op' ma mb mc env = if k = true then (mc.bnd fun z => fun env2 => M.opt (((lookB (v2 s t) env2).bind fun d => (lookB z env2).bind fun e => op' d e).map toD) env2) e2 else .ok (.bl false) e2 := by
      unfold oChain
      rw [x_bnd, h1]
      show ((mb.bnd _) e1) = _
      rw [x_bnd, h4]
      show (match (lookB (v1 s) e2).bind fun d => (lookB (v2 s t) e2).bind fun e => op d e with
        | some (.val (.bl k)) => if k = true then (mc.bnd fun z => fun env2 => M.opt (((lookB (v2 s t) env2).bind fun d => (lookB z env2).bind fun e => op' d e).map toD) env2) e2 else Rs.ok (.bl false) e2
        | _ => .stuck) = _
      rw [rdO_ok h5 (ha s t), rdO_ok h5 (hb s t)]
      show (match op (d s t) (e s t) with
        | some (.val (.bl k)) => if k = true then (mc.bnd fun z => fun env2 => M.opt (((lookB (v2 s t) env2).bind fun d => (lookB z env2).bind fun e => op' d e).map toD) env2) e2 else Rs.ok (.bl false) e2
        | _ => .stuck) = _
      cases ho : op (d s t) (e s t) with
      | none => rw [ho] at hk; cases hk
      | some r =>
        rw [ho] at hk
        have hk : unBT r = some k := hk
        cases r with
        | val x => cases x <;> first | (cases hk; rfl) | cases hk
        | _ => cases hk
    cases k with
    | false =>
      rw [if_neg (by simp)] at pre
      exact ⟨e2, pre, h5⟩
    | true =>
      rw [if_pos rfl] at pre
      rw [if_pos rfl]
      refine Z.To.bind (Q1 := fun r => ∃ e', oChain op op' ma mb mc env = .ok r e' ∧ Le (R2 s t) e') (X1 := fun c ns ds => ∃ e, oChain op op' ma mb mc env = .exc c ns ds e ∧ LeX X e) ((c s t e2 h5).bind (Q := fun r => ∃ e', oChain op op' ma mb mc env = .ok r e' ∧ Le (R2 s t) e') (X := fun c ns ds => ∃ e, oChain op op' ma mb mc env = .exc c ns ds e ∧ LeX X e) (fun u ⟨e3, h6, h7⟩ => (Z.opt_To (Q := fun r => op' (f s t u) (g s t u) = some r) (X := fun _ _ _ => False) fun t ht => ht).bind (fun r hr => ⟨e3, ?_, h3 s t u ▸ h7⟩) fun _ _ _ z => z.elim) fun c ns ds ⟨e', h6, h7⟩ => ⟨e', ?_, h7⟩) (fun r ⟨e', q1, q2⟩ => ⟨e', q1, q2⟩) fun _ _ _ z => z
      · rw [pre, x_bnd, h6]
        rw [h3 s t u] at h7
        show M.opt (((lookB (v2 s t) e3).bind fun d => (lookB (v3 s t u) e3).bind fun e => op' d e).map toD) e3 = _
        rw [rdO_ok h7 (hf s t u), rdO_ok h7 (hg s t u)]
        show M.opt ((op' (f s t u) (g s t u)).map toD) e3 = _
        rw [hr]; rfl
      · rw [pre, x_bnd, h6]; rfl
  · unfold oChain
    rw [x_bnd, h1]
    show ((mb.bnd _) e1) = _
    rw [x_bnd, h3]; rfl
  · unfold oChain
    rw [x_bnd, h1]; rfl
end
end KM
/-! The shallow layer: calls, comprehensions, what is walked. -/
namespace KM
open PySem PySem.Spec PyProof.Rows L2 Evl KP
section
variable {α β σ τ φ ρ : Type} {X : Option Rg} {R : Rg} {z : Z σ}
/-! ### defs and calls -/
structure FX (mf : MF) (as : List Sl) (z : Z ρ) (v : ρ → Sl) (outs : ρ → List Sl) (ox : List Sl) : Prop where
  go : ∀ ts : List T, Le as (ts.map some) → z.To (fun r => ∃ t os, mf ts = .ok t os ∧ (v r).ok (some t) ∧ Le (outs r) (os.map some)) fun c ns ds => ∃ os, mf ts = .exc c ns ds os ∧ Le ox (os.map some)
def takeR : List Ob → Rg → Option (Rg × List Sl)
  | [], R => some (R, [])
  | .val d :: r, R => (takeR r R).map fun x => (x.1, .da d :: x.2)
  | .nm i :: r, R => (R[i]?).bind fun s => if s.full = true then (takeR r (R.set i .nd)).map fun x => (x.1, s :: x.2) else none
def giveR : List Ob → Rg → List Sl → Rg
  | .val _ :: r, R, _ :: os => giveR r R os
  | .nm i :: r, R, o :: os => giveR r (R.set i o) os
  | _, R, _ => R
theorem takeR_ok : ∀ {os : List Ob} {R R2 : Rg} {as : List Sl} {e : KM.Env}, Le R e → takeR os R = some (R2, as) → ∃ e2 ts, takeAs os e = some (e2, ts) ∧ Le R2 e2 ∧ Le as (ts.map some)
  | [], R, R2, as, e, h, ht => by cases ht; exact ⟨e, [], rfl, h, trivial⟩
  | .val d :: r, R, R2, as, e, h, ht => by
    unfold takeR at ht
    cases h2 : takeR r R with
    | none => rw [h2] at ht; cases ht
    | some x =>
      rw [h2] at ht
      cases ht
      obtain ⟨e2, ts, g1, g2, g3⟩ := takeR_ok (R2 := x.1) (as := x.2) h (by rw [h2])
      exact ⟨e2, .val d :: ts, by unfold takeAs; rw [g1]; rfl, g2, rfl, g3⟩
  | .nm i :: r, R, R2, as, e, h, ht => by
    unfold takeR at ht
    cases hi : R[i]? with
    | none => rw [hi] at ht; cases ht
    | some s =>
      rw [hi] at ht
      have ht : (if s.full = true then (takeR r (R.set i .nd)).map fun x => (x.1, s :: x.2) else none) = some (R2, as) := ht
      split at ht
      · rename_i hf
        cases h2 : takeR r (R.set i .nd) with
        | none => rw [h2] at ht; cases ht
        | some x =>
          rw [h2] at ht
          cases ht
          obtain ⟨c, q1, q2⟩ := h.get hi
          obtain ⟨t, rfl⟩ := Sl.full_ok hf q2
          obtain ⟨e2, ts, g1, g2, g3⟩ := takeR_ok (R2 := x.1) (as := x.2) (h.set i (s := .nd) (c := none) (.inl rfl)) (by rw [h2])
          refine ⟨e2, t :: ts, ?_, g2, q2, g3⟩
          unfold takeAs
          rw [q1]
          dsimp only
          rw [g1]; rfl
      · cases ht
theorem giveR_ok : ∀ {os : List Ob} {R : Rg} {ss : List Sl} {ts : List T} {e : KM.Env}, Le R e → Le ss (ts.map some) → Le (giveR os R ss) (giveAs os e ts)
  | [], R, ss, ts, e, h, hs => by unfold giveR giveAs; exact h
  | .val d :: r, R, [], [], e, h, hs => h
  | .val d :: r, R, s :: ss, t :: ts, e, h, hs => giveR_ok (os := r) h hs.2
  | .nm i :: r, R, [], [], e, h, hs => h
  | .nm i :: r, R, s :: ss, t :: ts, e, h, hs => giveR_ok (os := r) (h.set i hs.1) hs.2
  | _ :: _, _, [], _ :: _, _, _, hs => hs.elim
  | _ :: _, _, _ :: _, [], _, _, hs => hs.elim
theorem callO_to {mf : MF} {os : List Ob} {R R2 : Rg} {as : List Sl} {e : KM.Env} {zf : Z ρ} {vf : ρ → Sl} {outs : ρ → List Sl} {ox : List Sl} (he : Le R e) (tk : takeR os R = some (R2, as)) (f : FX mf as zf vf outs ox) (hx : SubO (giveR os R2 ox) X) :
    zf.To (fun r => ∃ t e', callO mf os (takeAs os e) = .ok t e' ∧ (vf r).ok (some t) ∧ Le (giveR os R2 (outs r)) e') fun c ns ds => ∃ e', callO mf os (takeAs os e) = .exc c ns ds e' ∧ LeX X e' := by
  obtain ⟨e2, ts, g1, g2, g3⟩ := takeR_ok he tk
  refine (f.go ts g3).mono (fun r ⟨t, us, h1, h2, h3⟩ => ⟨t, giveAs os e2 us, ?_, h2, giveR_ok g2 h3⟩) fun c ns ds ⟨us, h1, h2⟩ => ⟨giveAs os e2 us, ?_, hx _ (giveR_ok g2 h2)⟩
  · rw [g1]
    show (mf ts).rs _ = _
    rw [h1]; rfl
  · rw [g1]
    show (mf ts).rs _ = _
    rw [h1]; rfl
theorem eo_call {mf : MF} {ma : M (List Ob)} {v1 : σ → List Ob} {R1 R2 : σ → Rg} {as : σ → List Sl} {zf : σ → Z ρ} {vf : σ → ρ → Sl} {outs : σ → ρ → List Sl} {ox : σ → List Sl} (a : EX X R ma z v1 R1) (tk : ∀ s, takeR (v1 s) (R1 s) = some (R2 s, as s))
    (f : ∀ s, FX mf (as s) (zf s) (vf s) (outs s) (ox s)) (hx : ∀ s, SubO (giveR (v1 s) (R2 s) (ox s)) X) :
    EO X R (callM mf ma) (z.bind fun s => (zf s).bind fun r => .ok (s, r)) (fun x => vf x.1 x.2) (fun x => giveR (v1 x.1) (R2 x.1) (outs x.1 x.2)) := fun env h => by
  refine (a env h).bind (fun s ⟨e, h1, h2⟩ => (callO_to (X := X) h2 (tk s) (f s) (hx s)).bind (fun r ⟨t, e', g1, g2, g3⟩ => ⟨t, e', ?_, g2, g3⟩) fun c ns ds ⟨e', g1, g2⟩ => ⟨e', ?_, g2⟩) fun c ns ds ⟨e, h1, h2⟩ => ⟨e, ?_, h2⟩
  · rw [x_call, h1]; exact g1
  · rw [x_call, h1]; exact g1
  · rw [x_call, h1]; rfl
theorem Le.take : ∀ {R : Rg} {e : KM.Env} (n : Nat), Le R e → Le (R.take n) (e.take n)
  | _, _, 0, _ => by simp [Le]
  | [], [], n + 1, h => h
  | s :: R, c :: e, n + 1, h => ⟨h.1, Le.take n h.2⟩
  | [], _ :: _, _ + 1, h => h.elim
  | _ :: _, [], _ + 1, h => h.elim
/-- .. whose first one is -/
theorem eo_callT {mf : MF} {ma : M (List Ob)} {m0 : M T} {v0 : σ → Sl} {R0 : σ → Rg} {z1 : σ → Z τ} {v1 : σ → τ → List Ob} {R1 R2 : σ → τ → Rg} {as : σ → τ → List Sl} {zf : σ → τ → Z ρ} {vf : σ → τ → ρ → Sl} {outs : σ → τ → ρ → List Sl} {ox : σ → τ → List Sl}
    (b : EO X R m0 z v0 R0) (a : ∀ s, EX X (R0 s) ma (z1 s) (v1 s) (R1 s)) (tk : ∀ s t, takeR (v1 s t) (R1 s t) = some (R2 s t, as s t)) (f : ∀ s t, FX mf (v0 s :: as s t) (zf s t) (vf s t) (outs s t) (ox s t))
    (hx : ∀ s t, SubO (giveR (v1 s t) (R2 s t) ((ox s t).drop 1)) X) :
    EO X R (callT mf m0 ma) (z.bind fun s => (z1 s).bind fun t => (zf s t).bind fun r => .ok (s, t, r)) (fun x => vf x.1 x.2.1 x.2.2) (fun x => giveR (v1 x.1 x.2.1) (R2 x.1 x.2.1) ((outs x.1 x.2.1 x.2.2).drop 1)) := fun env h => by
  have dr : ∀ {A : List Sl} {us : List T}, Le A (us.map some) → Le (A.drop 1) ((us.drop 1).map some) := fun {A us} h => by
    cases A with
    | nil => cases us with
      | nil => exact h
      | cons u us => exact h.elim
    | cons s A => cases us with
      | nil => exact h.elim
      | cons u us => exact h.2
  refine (b env h).bind (fun s ⟨t0, e1, h1, h0, h2⟩ => (a s e1 h2).bind (fun t ⟨e, q1, q3⟩ => ?_) fun c ns ds ⟨e', g1, g2⟩ => ⟨e', ?_, g2⟩) fun c ns ds ⟨e, h1, h2⟩ => ⟨e, ?_, h2⟩
  · obtain ⟨e2, ts, g1, g2, g3⟩ := takeR_ok q3 (tk s t)
    have pre : callT mf m0 ma env = callTO mf t0 (v1 s t) (takeAs (v1 s t) e) := by
      rw [x_callT, h1]
      show (ma.bnd _) e1 = _
      rw [x_bnd, q1]; rfl
    refine ((f s t).go (t0 :: ts) ⟨h0, g3⟩).bind (fun r ⟨u, us, k1, k2, k3⟩ => ⟨u, giveAs (v1 s t) e2 (us.drop 1), ?_, k2, giveR_ok g2 (dr k3)⟩) fun c ns ds ⟨us, k1, k2⟩ => ⟨giveAs (v1 s t) e2 (us.drop 1), ?_, hx s t _ (giveR_ok g2 (dr k2))⟩
    · rw [pre, g1, x_callTO, k1]; rfl
    · rw [pre, g1, x_callTO, k1]; rfl
  · rw [x_callT, h1]
    show (ma.bnd _) e1 = _
    rw [x_bnd, g1]; rfl
  · rw [x_callT, h1]; rfl
/-! ### methods of lists and texts -/
theorem eo_app {i : Nat} {m : M T} {v : σ → Sl} {d : σ → D} {R1 : σ → Rg} {ds0 : List D} {ds : σ → List D} (a : EO X R m z v R1) (h0 : R[i]? = some (.ow ds0)) (hd : ∀ s, v s = .da (d s)) (hi : ∀ s, (R1 s)[i]? = some (.ow (ds s))) :
    EO X R (mApp i m) (z.bind fun s => (if (ds s).length < 16777216 then .ok () else .stuck : Z Unit).bind fun _ => .ok s) (fun _ => .da .non) (fun s => (R1 s).set i (.ow (ds s ++ [d s]))) := fun env h => by
  obtain ⟨c0, q1, q2⟩ := h.get h0
  cases (show c0 = some (.lst (leafs ds0)) from q2)
  have pre : mApp i m env = (m.bnd fun t => fun e => match e[i]? with
    | some (some (.lst ts)) => if ts.length < 16777216 then .ok (.val .non) (putAt e i [] (.lst (ts ++ [t]))) else .stuck
    | _ => .stuck) env := by unfold mApp; rw [q1]; (try rfl)
  refine (a env h).bind (fun s ⟨t, e, h1, h2, h3⟩ => ?_) fun c ns ds ⟨e, h1, h2⟩ => ⟨e, ?_, h2⟩
  · split
    · rename_i hl
      rw [hd s] at h2
      cases (show some t = some (T.val (d s)) from h2)
      obtain ⟨c, k1, k2⟩ := h3.get (hi s)
      cases (show c = some (.lst (leafs (ds s))) from k2)
      refine ⟨.val .non, e.set i (some (.lst (leafs (ds s ++ [d s])))), ?_, rfl, h3.set i rfl⟩
      rw [pre, x_bnd, h1]
      show (match e[i]? with | some (some (.lst ts)) => if ts.length < 16777216 then Rs.ok (T.val D.non) (putAt e i [] (.lst (ts ++ [T.val (d s)]))) else .stuck | _ => .stuck) = _
      rw [k1]
      dsimp only
      rw [if_pos (by rw [leafs_len]; exact hl)]
      unfold putAt
      rw [k1]
      dsimp only
      rw [show leafs (ds s) ++ [T.val (d s)] = leafs (ds s ++ [d s]) by simp [leafs]]
      rfl
    · trivial
  · rw [pre, x_bnd, h1]; rfl
theorem lmO_ok {i : Nat} {op : List D → List D → Option (D × List D)} {es ds : List D} {x : D × List D} {e : KM.Env} (h : Le R e) (hi : R[i]? = some (.ow ds)) (ho : op ds es = some x) : ∃ e', lmO i op es e e[i]? = .ok (.val x.1) e' ∧ Le (R.set i (.ow x.2)) e' := by
  obtain ⟨c0, q1, q2⟩ := h.get hi
  cases (show c0 = some (.lst (leafs ds)) from q2)
  refine ⟨e.set i (some (.lst (leafs x.2))), ?_, h.set i rfl⟩
  rw [q1]
  unfold lmO
  dsimp only
  rw [unvals_leafs]
  show (match op ds es with | some x => Rs.ok (T.val x.1) (putAt e i [] (.lst (leafs x.2))) | none => .stuck) = _
  rw [ho]
  dsimp only
  unfold putAt
  rw [q1]; rfl
theorem eo_lm {i : Nat} {op : List D → List D → Option (D × List D)} {m : M (List D)} {es : σ → List D} {R1 : σ → Rg} {ds0 : List D} {ds : σ → List D} (a : EX X R m z es R1) (h0 : R[i]? = some (.ow ds0)) (hi : ∀ s, (R1 s)[i]? = some (.ow (ds s))) :
    EO X R (mLM i op m) (z.bind fun s => (Z.opt (op (ds s) (es s))).bind fun r => .ok (s, r)) (fun x => .da x.2.1) (fun x => (R1 x.1).set i (.ow x.2.2)) := fun env h => by
  obtain ⟨c0, q1, q2⟩ := h.get h0
  cases (show c0 = some (.lst (leafs ds0)) from q2)
  have pre : mLM i op m env = (m.bnd fun es => fun e => lmO i op es e e[i]?) env := by unfold mLM; rw [q1]; (try rfl)
  refine (a env h).bind (fun s ⟨e, h1, h2⟩ => (Z.opt_To (Q := fun r => op (ds s) (es s) = some r) (X := fun _ _ _ => False) fun t ht => ht).bind (fun r hr => ?_) fun _ _ _ z => z.elim) fun c ns ds ⟨e, h1, h2⟩ => ⟨e, ?_, h2⟩
  · obtain ⟨e', k1, k2⟩ := lmO_ok h2 (hi s) hr
    refine ⟨_, e', ?_, rfl, k2⟩
    rw [pre, x_bnd, h1]; exact k1
  · rw [pre, x_bnd, h1]; rfl
def unS : D → Option Str
  | .str x => some x
  | _ => none
/-! ### what is walked -/
theorem ei_it {m : M D} {d : σ → D} {R1 : σ → Rg} (a : EX X R m z d R1) : EX X R (iIt m) (z.bind fun s => (Z.opt (iterD (d s))).bind fun t => .ok (s, t)) (fun x => x.2) (fun x => R1 x.1) := a.optX fun s e t h ho => by
  rw [ho]; rfl
def rg1 : List D → Option (List D)
  | [.int n] => if in62 n = true then some (rgD 0 n.toNat) else none
  | _ => none
theorem ei_R1 {m : M (List D)} {d : σ → List D} {R1 : σ → Rg} (a : EX X R m z d R1) : EX X R (iR1 m) (z.bind fun s => (Z.opt (rg1 (d s))).bind fun t => .ok (s, t)) (fun x => x.2) (fun x => R1 x.1) := a.optX fun s e t h ho => by
  unfold rg1 at ho
  split at ho
  · rename_i n hn
    (try rw [hn])
    (try dsimp only)
    split at ho
    · rename_i hc; cases ho; rw [if_pos hc]
    · cases ho
  · cases ho
def rg2 : List D → Option (List D)
  | [.int a, .int b] => if (in62 a && in62 b) = true then some (rgD a (b - a).toNat) else none
  | _ => none
def enL : List D → Option (List D)
  | [d] => (iterD d).map (enD 0)
  | _ => none
theorem ei_en {m : M (List D)} {d : σ → List D} {R1 : σ → Rg} (a : EX X R m z d R1) : EX X R (iEnM m) (z.bind fun s => (Z.opt (enL (d s))).bind fun t => .ok (s, t)) (fun x => x.2) (fun x => R1 x.1) := a.optX fun s e t h ho => by
  unfold enL at ho
  split at ho
  · rename_i n hn
    (try rw [hn])
    (try dsimp only)
    rw [ho]; (try rfl)
  · cases ho
theorem er_1 {m : M D} {d : σ → D} {R1 : σ → Rg} (a : EX X R m z d R1) : EX X R (mRg1 m) (z.bind fun s => (Z.opt (unI (d s))).bind fun t => .ok (s, t)) (fun x => ((0 : Int), x.2)) (fun x => R1 x.1) := fun env h => by
  refine (a env h).bind (fun s ⟨e, h1, h2⟩ => (Z.opt_To (Q := fun i => unI (d s) = some i) (X := fun _ _ _ => False) fun t ht => ht).bind (fun i hi => ⟨e, ?_, h2⟩) fun _ _ _ z => z.elim) fun c ns ds ⟨e, h1, h2⟩ => ⟨e, ?_, h2⟩
  · unfold mRg1
    rw [x_bnd, h1]
    cases hd : d s <;> rw [hd] at hi <;> first | (cases hi; rfl) | cases hi
  · unfold mRg1; rw [x_bnd, h1]; rfl
def rgZ (a b : Int) : Option (List D) := if rgOkB a b = true then some (rgD a (b - a).toNat) else none
theorem eo_lstRg {m : M (Int × Int)} {p : σ → Int × Int} {R1 : σ → Rg} (a : EX X R m z p R1) : EO X R (mLstRg m) (z.bind fun s => (Z.opt (rgZ (p s).1 (p s).2)).bind fun t => .ok (s, t)) (fun x => .ow x.2) (fun x => R1 x.1) := fun env h => by
  refine (a env h).bind (fun s ⟨e, h1, h2⟩ => (Z.opt_To (Q := fun t => rgZ (p s).1 (p s).2 = some t) (X := fun _ _ _ => False) fun t ht => ht).bind (fun t ht => ⟨.lst (leafs t), e, ?_, rfl, h2⟩) fun _ _ _ z => z.elim) fun c ns ds ⟨e, h1, h2⟩ => ⟨e, ?_, h2⟩
  · unfold mLstRg
    rw [x_bnd, h1]
    unfold rgZ at ht
    split at ht
    · rename_i hc
      cases ht
      show (if rgOkB (p s).1 (p s).2 = true then _ else _) = _
      rw [if_pos hc]
    · cases ht
  · unfold mLstRg; rw [x_bnd, h1]; rfl
/-! ### targets -/
def EG (R : Rg) (g : D → KM.Env → Option KM.Env) (d : D) (z : Z σ) (R' : σ → Rg) : Prop := ∀ env, Le R env → z.To (fun s => ∃ e, g d env = some e ∧ Le (R' s) e) fun _ _ _ => False
def EGs (R : Rg) (g : List D → KM.Env → Option KM.Env) (ds : List D) (z : Z σ) (R' : σ → Rg) : Prop := ∀ env, Le R env → z.To (fun s => ∃ e, g ds env = some e ∧ Le (R' s) e) fun _ _ _ => False
theorem eg_nm {i : Nat} {d : D} : EG R (gNm i) d (.ok ()) (fun _ => R.set i (.da d)) := fun env h => ⟨_, rfl, h.set i rfl⟩
def un0 : List D → Option Unit
  | [] => some ()
  | _ => none
theorem egs_nil {ds : List D} : EGs R gNl ds (Z.opt (un0 ds)) (fun _ => R) := fun env h => Z.opt_To fun _ hu => by
  cases ds with
  | nil => exact ⟨env, rfl, h⟩
  | cons d ds => cases hu
def unC : List D → Option (D × List D)
  | d :: ds => some (d, ds)
  | [] => none
theorem egs_cons {g gs} {ds : List D} {z1 : D → Z σ} {R1 : D → σ → Rg} {z2 : D → List D → σ → Z τ} {R2 : D → List D → σ → τ → Rg} (a : ∀ d, EG R g d (z1 d) (R1 d)) (b : ∀ d es s, EGs (R1 d s) gs es (z2 d es s) (R2 d es s)) :
    EGs R (gCn g gs) ds ((Z.opt (unC ds)).bind fun p => (z1 p.1).bind fun s => (z2 p.1 p.2 s).bind fun t => .ok (p, s, t)) (fun x => R2 x.1.1 x.1.2 x.2.1 x.2.2) := fun env h => by
  refine (Z.opt_To (Q := fun p => unC ds = some p) (X := fun _ _ _ => False) fun t ht => ht).bind (fun p hp => (a p.1 env h).bind (fun s ⟨e, h1, h2⟩ => (b p.1 p.2 s e h2).bind (fun t ⟨e', h3, h4⟩ => ⟨e', ?_, h4⟩) fun _ _ _ z => z) fun _ _ _ z => z) fun _ _ _ z => z
  cases ds with
  | nil => cases hp
  | cons d ds =>
    cases hp
    show (g d env).bind (gs ds) = _
    rw [h1]; exact h3
def unT (n : Nat) : D → Option (List D)
  | .tup ds => if ds.length = n then some ds else none
  | _ => none
theorem eg_tp {n : Nat} {gs} {d : D} {z1 : List D → Z σ} {R1 : List D → σ → Rg} (a : ∀ ds, EGs R gs ds (z1 ds) (R1 ds)) : EG R (gTp n gs) d ((Z.opt (unT n d)).bind fun ds => (z1 ds).bind fun s => .ok (ds, s)) (fun x => R1 x.1 x.2) := fun env h => by
  refine (Z.opt_To (Q := fun p => unT n d = some p) (X := fun _ _ _ => False) fun t ht => ht).bind (fun ds hd => (a ds env h).bind (fun s ⟨e, h1, h2⟩ => ⟨e, ?_, h2⟩) fun _ _ _ z => z) fun _ _ _ z => z
  unfold unT at hd
  split at hd
  · split at hd
    · rename_i hn; cases hd; exact (if_pos hn).trans h1
    · cases hd
  · cases hd
/-! ### comprehensions -/
def wipeR (R : Rg) : List Nat → Rg
  | [] => R
  | v :: vs => (wipeR R vs).set v .nd
theorem wipeR_ok : ∀ {vs : List Nat} {R : Rg} {e : KM.Env}, Le R e → Le (wipeR R vs) (wipeE e vs)
  | [], _, _, h => h
  | v :: vs, _, _, h => (wipeR_ok h).set v (.inl rfl)
def okWR (R : Rg) (vs : List Nat) : Bool := vs.all fun v => match R[v]? with
  | some .nd => true
  | some (.da _) => true
  | none => true
  | _ => false
theorem okWR_ok {vs : List Nat} {R : Rg} {e : KM.Env} (h : Le R e) (hw : okWR R vs = true) : okW e vs = true := by
  unfold okW
  rw [List.all_eq_true]
  intro v hv
  have h1 := List.all_eq_true.mp hw v hv
  cases hi : R[v]? with
  | none =>
    rw [List.getElem?_eq_none_iff] at hi
    rw [List.getElem?_eq_none_iff.mpr (by rw [h.len]; exact hi)]
  | some s =>
    rw [hi] at h1
    obtain ⟨c, q1, q2⟩ := h.get hi
    rw [q1]
    cases s with
    | nd => rcases q2 with rfl | ⟨d, rfl⟩ <;> rfl
    | da d => cases q2; rfl
    | _ => cases h1
theorem restE_len (e0 : KM.Env) (vs : List Nat) (e : KM.Env) : (restE e0 e vs).length = e.length := by
  induction vs with
  | nil => rfl
  | cons v vs ih => unfold restE; rw [List.length_set, ih]
def restR (R0 R : Rg) : List Nat → Rg
  | [] => R
  | v :: vs => (restR R0 R vs).set v (match R0[v]? with | some s => s | none => .any)
theorem restR_ok {R0 : Rg} {e0 : KM.Env} (h0 : Le R0 e0) : ∀ {vs : List Nat} {R : Rg} {e : KM.Env}, R.length = R0.length → Le R e → Le (restR R0 R vs) (restE e0 e vs)
  | [], _, _, _, h => h
  | v :: vs, R, e, hl, h => by
    unfold restR restE
    have ih := restR_ok h0 (vs := vs) hl h
    cases hi : R0[v]? with
    | none =>
      rw [List.getElem?_eq_none_iff] at hi
      have l2 := h.len
      rw [List.set_eq_of_length_le (by rw [ih.len.symm, restE_len]; omega), List.set_eq_of_length_le (by rw [restE_len]; omega)]
      exact ih
    | some s =>
      obtain ⟨c, q1, q2⟩ := h0.get hi
      rw [q1]
      exact ih.set v q2
def lcZ {S : Type} (f : D → S → Z (Option D × S)) : List D → List D → S → Z (List D × S)
  | [], acc, s => .ok (acc, s)
  | d :: ds, acc, s => match f d s with
    | .ok (some x, s') => if acc.length < 16777216 then lcZ f ds (acc ++ [x]) s' else .stuck
    | .ok (none, s') => lcZ f ds acc s'
    | _ => .stuck
/-- a comprehension; S: what its item changes -/
theorem eo_lc {S ξ θ κ : Type} {vs : List Nat} {it : M (List D)} {g : D → KM.Env → Option KM.Env} {tt : M Bool} {el : M T} {up : Rg → S → Rg} {vi : σ → List D} {Ri : σ → Rg} {i0 : σ → S}
    {zg : σ → D → S → Z ξ} {Rg' : σ → D → S → ξ → Rg} {zt : σ → D → S → ξ → Z θ} {vt : σ → D → S → ξ → θ → Bool} {Rt : σ → D → S → ξ → θ → Rg} {ze : σ → D → S → ξ → θ → Z κ} {ve : σ → D → S → ξ → θ → κ → D} {Re : σ → D → S → ξ → θ → κ → Rg} {nx : σ → D → S → ξ → θ → κ → S} {nt : σ → D → S → ξ → θ → S}
    (i : EX X R it z vi Ri) (hw : ∀ q, okWR (Ri q) vs = true) (h0 : ∀ q, wipeR (Ri q) vs = up (wipeR (Ri q) vs) (i0 q)) (hl : ∀ q s, (up (wipeR (Ri q) vs) s).length = (Ri q).length)
    (tg : ∀ q d s, EG (up (wipeR (Ri q) vs) s) g d (zg q d s) (Rg' q d s)) (t : ∀ q d s p, EX none (Rg' q d s p) tt (zt q d s p) (vt q d s p) (Rt q d s p)) (e : ∀ q d s p k, EO none (Rt q d s p k) el (ze q d s p k) (fun u => .da (ve q d s p k u)) (Re q d s p k))
    (h1 : ∀ q d s p k, wipeR (Rt q d s p k) vs = up (wipeR (Ri q) vs) (nt q d s p k)) (h2 : ∀ q d s p k u, wipeR (Re q d s p k u) vs = up (wipeR (Ri q) vs) (nx q d s p k u)) :
    EO X R (lcM vs it g tt el) (z.bind fun q => (lcZ (fun d s => (zg q d s).bind fun p => (zt q d s p).bind fun k => if vt q d s p k = true then (ze q d s p k).bind fun u => .ok (some (ve q d s p k u), nx q d s p k u) else .ok (none, nt q d s p k)) (vi q) [] (i0 q)).bind fun r => .ok (q, r))
      (fun x => .ow x.2.1) (fun x => restR (Ri x.1) (up (wipeR (Ri x.1) vs) x.2.2) vs) := fun env h => by
  refine (i env h).bind (fun q ⟨e0, q1, q2⟩ => ?_) fun c ns ds ⟨e, h1, h2⟩ => ⟨e, ?_, h2⟩
  · have loop : ∀ (ds acc : List D) (s : S) (e1 : KM.Env), Le (up (wipeR (Ri q) vs) s) e1 → (lcZ (fun d s => (zg q d s).bind fun p => (zt q d s p).bind fun k => if vt q d s p k = true then (ze q d s p k).bind fun u => .ok (some (ve q d s p k u), nx q d s p k u) else .ok (none, nt q d s p k)) ds acc s).To
        (fun r => ∃ e', lcLoop vs g tt el ds (leafs acc) e1 = .ok (leafs r.1) e' ∧ Le (up (wipeR (Ri q) vs) r.2) e') (fun _ _ _ => False) := fun ds => by
      induction ds with
      | nil => exact fun acc s e1 he => ⟨e1, rfl, he⟩
      | cons d ds ih =>
        intro acc s e1 he
        unfold lcZ
        have k := tg q d s e1 he
        cases z1 : zg q d s with
        | stuck => exact trivial
        | exc c ns es => rw [z1] at k; exact k.elim
        | ok p =>
          rw [z1] at k
          obtain ⟨e2, g1, g2⟩ := k
          have k := t q d s p e2 g2
          dsimp only [Z.bind]
          cases z2 : zt q d s p with
          | stuck => exact trivial
          | exc c ns es => exact trivial
          | ok kk =>
            rw [z2] at k
            obtain ⟨e3, g3, g4⟩ := k
            dsimp only
            cases vb : vt q d s p kk with
            | false =>
              rw [if_neg (by simp)]
              dsimp only
              have := ih acc (nt q d s p kk) (wipeE e3 vs) (by rw [← h1]; exact wipeR_ok g4)
              refine this.mono (fun r ⟨e', r1, r2⟩ => ⟨e', ?_, r2⟩) fun _ _ _ z => z
              unfold lcLoop
              simp only [g1, g3, vb]
              exact r1
            | true =>
              rw [if_pos rfl]
              have k := e q d s p kk e3 g4
              cases z3 : ze q d s p kk with
              | stuck => exact trivial
              | exc c ns es => exact trivial
              | ok u =>
                rw [z3] at k
                obtain ⟨tt', e4, g5, g6, g7⟩ := k
                cases (show some tt' = some (T.val _) from g6)
                dsimp only
                split
                · rename_i hlen
                  have := ih (acc ++ [ve q d s p kk u]) (nx q d s p kk u) (wipeE e4 vs) (by rw [← h2]; exact wipeR_ok g7)
                  refine this.mono (fun r ⟨e', r1, r2⟩ => ⟨e', ?_, r2⟩) fun _ _ _ z => z
                  unfold lcLoop
                  simp only [g1, g3, vb, g5]
                  rw [if_pos (by rw [leafs_len]; exact hlen), show leafs acc ++ [T.val (ve q d s p kk u)] = leafs (acc ++ [ve q d s p kk u]) by simp [leafs]]
                  exact r1
                · trivial
    refine (loop (vi q) [] (i0 q) (wipeE e0 vs) (by rw [← h0]; exact wipeR_ok q2)).bind (fun r ⟨e', r1, r2⟩ => ⟨.lst (leafs r.1), restE e0 e' vs, ?_, rfl, restR_ok q2 (hl q r.2) r2⟩) fun _ _ _ z => z.elim
    unfold lcM
    rw [x_bnd, q1]
    show (if okW e0 vs = true then _ else _) = _
    rw [if_pos (okWR_ok q2 (hw q))]
    have r1 : lcLoop vs g tt el (vi q) [] (wipeE e0 vs) = .ok (leafs r.1) e' := r1
    rw [r1]
  · unfold lcM; rw [x_bnd, h1]; rfl
end
end KM
/-! The shallow layer: statements, defs. -/
namespace KM
open PySem PySem.Spec PyProof.Rows L2 Evl KP
/-! ### outcomes -/
section
variable {α β σ τ φ ρ S : Type} {X : Option Rg} {R : Rg} {z : Z σ}
def nxR (R' : φ → Rg) : φ → Out → Prop := fun s o => ∃ e, o = .nx e ∧ Le (R' s) e
/-- a loop's turn -/
def bdR (R' : φ → Rg) : φ → Out → Prop := fun s o => ∃ e, (o = .nx e ∨ o = .cnt e) ∧ Le (R' s) e
inductive Fl (S ρ : Type) where
  | go (s : S) | brk (s : S) | ret (r : ρ)
def outR : List Bool → List Sl → Rg → Option (List Sl)
  | [], [], _ => some []
  | true :: fl, a :: as, _ :: R => (outR fl as R).map (a :: ·)
  | false :: fl, _ :: as, s :: R => if s.full = true then (outR fl as R).map (s :: ·) else none
  | _, _, _ => none
theorem outR_ok : ∀ {fl : List Bool} {as : List Sl} {R : Rg} {O : List Sl} {ts : List T} {e : KM.Env}, Le as (ts.map some) → Le R e → outR fl as R = some O → ∃ os, outsOf fl ts e = some os ∧ Le O (os.map some)
  | [], [], R, O, ts, e, h, g, ho => by
    cases ho
    cases ts with
    | nil => exact ⟨[], by unfold outsOf; rfl, trivial⟩
    | cons t ts => exact h.elim
  | true :: fl, a :: as, s :: R, O, ts, e, h, g, ho => by
    cases ts with
    | nil => exact h.elim
    | cons t ts =>
      cases e with
      | nil => exact g.elim
      | cons c e =>
        unfold outR at ho
        cases h2 : outR fl as R with
        | none => rw [h2] at ho; cases ho
        | some O2 =>
          rw [h2] at ho; cases ho
          obtain ⟨os, g1, g2⟩ := outR_ok h.2 g.2 h2
          exact ⟨t :: os, by unfold outsOf; rw [g1]; rfl, h.1, g2⟩
  | false :: fl, a :: as, s :: R, O, ts, e, h, g, ho => by
    cases ts with
    | nil => exact h.elim
    | cons t ts =>
      cases e with
      | nil => exact g.elim
      | cons c e =>
        unfold outR at ho
        split at ho
        · rename_i hf
          cases h2 : outR fl as R with
          | none => rw [h2] at ho; cases ho
          | some O2 =>
            rw [h2] at ho; cases ho
            obtain ⟨u, rfl⟩ := Sl.full_ok hf g.1
            obtain ⟨os, g1, g2⟩ := outR_ok h.2 g.2 h2
            exact ⟨u :: os, by unfold outsOf; rw [g1]; rfl, g.1, g2⟩
        · cases ho
  | [], _ :: _, _, _, _, _, _, _, ho => by cases ho
  | true :: _, [], _, _, _, _, _, _, ho => by cases ho
  | false :: _, [], _, _, _, _, _, _, ho => by cases ho
  | true :: _, _ :: _, [], _, _, _, _, _, ho => by cases ho
  | false :: _, _ :: _, [], _, _, _, _, _, ho => by cases ho
def rtR (fl : List Bool) (as : List Sl) (v : ρ → Sl) (outs : ρ → List Sl) : ρ → Out → Prop := fun r o => ∃ t e R, o = .ret t e ∧ (v r).ok (some t) ∧ outR fl as R = some (outs r) ∧ Le R e
def fnR (fl : List Bool) (as : List Sl) (v : ρ → Sl) (outs : ρ → List Sl) : ρ → Out → Prop := fun r o => rtR fl as v outs r o ∨ ∃ e R, o = .nx e ∧ v r = .da .non ∧ outR fl as R = some (outs r) ∧ Le R e
def flR (R' : S → Rg) (RR : ρ → Out → Prop) : Fl S ρ → Out → Prop
  | .go s, o => bdR R' s o
  | .brk s, o => ∃ e, o = .brk e ∧ Le (R' s) e
  | .ret r, o => RR r o
def sumR (R' : σ → Rg) (RR : ρ → Out → Prop) : (σ ⊕ ρ) → Out → Prop
  | .inl s, o => nxR R' s o
  | .inr r, o => RR r o
def noNx (RR : ρ → Out → Prop) : Prop := ∀ r o, RR r o → ∀ e, o ≠ .nx e
theorem rtR_nn {fl : List Bool} {as : List Sl} {v : ρ → Sl} {outs : ρ → List Sl} : noNx (rtR fl as v outs) := fun r o ⟨t, e, R, h, _⟩ e' z => by rw [h] at z; cases z
/-! ### a def -/
def okFlR : List Bool → List Sl → Bool
  | [], [] => true
  | true :: fl, .da _ :: as => okFlR fl as
  | false :: fl, _ :: as => okFlR fl as
  | _, _ => false
theorem okFlR_ok : ∀ {fl : List Bool} {as : List Sl} {ts : List T}, Le as (ts.map some) → okFlR fl as = true → okFl fl ts = true
  | [], [], ts, h, _ => by
    cases ts with
    | nil => rfl
    | cons t ts => exact h.elim
  | true :: fl, a :: as, ts, h, ho => by
    cases ts with
    | nil => exact h.elim
    | cons t ts =>
      cases a with
      | da d =>
        cases (show some t = some (T.val d) from h.1)
        unfold okFlR at ho
        unfold okFl
        exact okFlR_ok h.2 ho
      | _ => unfold okFlR at ho; cases ho
  | false :: fl, a :: as, ts, h, ho => by
    cases ts with
    | nil => exact h.elim
    | cons t ts => unfold okFlR at ho; unfold okFl; exact okFlR_ok h.2 ho
  | [], _ :: _, _, _, ho => by unfold okFlR at ho; cases ho
  | true :: _, [], _, _, ho => by unfold okFlR at ho; cases ho
  | false :: _, [], _, _, ho => by unfold okFlR at ho; cases ho
theorem fx_fn {fl : List Bool} {k : Nat} {body : SM} {as : List Sl} {z : Z ρ} {v : ρ → Sl} {outs : ρ → List Sl} {ox : List Sl} {X : Rg} (hl : okFlR fl as = true) (hx : outR fl as X = some ox) (g : G (some X) (as ++ List.replicate k .nd) body z (fnR fl as v outs)) :
    FX (fnM fl k body) as z v outs ox := ⟨fun ts h => by
  have hf := okFlR_ok h hl
  refine (g (ts.map some ++ List.replicate k none) (Le.app h (Le.none k))).mono (fun r hr => ?_) fun c ns ds ⟨e, h1, h2⟩ => ?_
  · rcases hr with ⟨t, e, R, q1, q2, q3, q4⟩ | ⟨e, R, q1, q2, q3, q4⟩
    · obtain ⟨os, g1, g2⟩ := outR_ok h q4 q3
      refine ⟨t, os, ?_, q2, g2⟩
      unfold fnM
      rw [if_pos hf, q1]
      dsimp only
      unfold fnOut
      rw [g1]
    · obtain ⟨os, g1, g2⟩ := outR_ok h q4 q3
      refine ⟨.val .non, os, ?_, by rw [q2]; rfl, g2⟩
      unfold fnM
      rw [if_pos hf, q1]
      dsimp only
      unfold fnOut
      rw [g1]
  · obtain ⟨os, g1, g2⟩ := outR_ok h h2 hx
    refine ⟨os, ?_, g2⟩
    unfold fnM
    rw [if_pos hf, h1]
    dsimp only
    unfold fnOut
    rw [g1]⟩
/-! ### statements -/
variable {Rel : φ → Out → Prop}
theorem g_seq {a b : SM} {R1 : σ → Rg} {z2 : σ → Z φ} (ha : G X R a z (nxR R1)) (hb : ∀ s, G X (R1 s) b (z2 s) Rel) : G X R (sSeq a b) (z.bind z2) Rel := fun env h => by
  refine (ha env h).bind (fun s ⟨e, h1, h2⟩ => (hb s e h2).mono (fun r hr => ?_) fun c ns ds ⟨e', q1, q2⟩ => ⟨e', ?_, q2⟩) fun c ns ds ⟨e, h1, h2⟩ => ⟨e, ?_, h2⟩
  · rw [x_seq, h1]; exact hr
  · rw [x_seq, h1]; exact q1
  · rw [x_seq, h1]; rfl
theorem g_seqF {a b : SM} {R1 : σ → Rg} {RR : ρ → Out → Prop} {z1 : Z (σ ⊕ ρ)} {z2 : σ → Z φ} {inj : ρ → φ} (ha : G X R a z1 (sumR R1 RR)) (hn : noNx RR) (hi : ∀ r o, RR r o → Rel (inj r) o) (hb : ∀ s, G X (R1 s) b (z2 s) Rel) :
    G X R (sSeq a b) (z1.bind fun x => match x with | .inl s => z2 s | .inr r => .ok (inj r)) Rel := fun env h => by
  refine (ha env h).bind (fun s hs => ?_) fun c ns ds ⟨e, h1, h2⟩ => ⟨e, ?_, h2⟩
  · cases s with
    | inl s =>
      obtain ⟨e, h1, h2⟩ := hs
      refine (hb s e h2).mono (fun r hr => ?_) fun c ns ds ⟨e', q1, q2⟩ => ⟨e', ?_, q2⟩
      · rw [x_seq, h1]; exact hr
      · rw [x_seq, h1]; exact q1
    | inr r =>
      have : sSeq a b env = a env := by
        rw [x_seq]
        cases ho : a env with
        | nx e => exact (hn _ _ hs e ho).elim
        | _ => rfl
      show Rel (inj r) (sSeq a b env)
      rw [this]
      exact hi r _ hs
  · rw [x_seq, h1]; rfl
theorem g_pre {R2 : Rg} {a : SM} {z : Z φ} (h : R = R2) (g : G X R2 a z Rel) : G X R a z Rel := h ▸ g
theorem g_last {a : SM} {z : Z φ} (h : G X R (sSeq a sNil) z Rel) : G X R a z Rel := fun env he => by
  have : sSeq a sNil env = a env := by
    rw [x_seq]
    cases a env <;> rfl
  have k := h env he
  rw [this] at k
  exact k
theorem g_assoc {a b c : SM} {z : Z φ} (h : G X R (sSeq a (sSeq b c)) z Rel) : G X R (sSeq (sSeq a b) c) z Rel := fun env he => by
  have : sSeq (sSeq a b) c env = sSeq a (sSeq b c) env := by
    rw [x_seq, x_seq, x_seq]
    cases a env <;> rfl
  have k := h env he
  rw [← this] at k
  exact k
theorem g_nilK {b : SM} {z : Z φ} (h : G X R b z Rel) : G X R (sSeq sNil b) z Rel := h
theorem g_termK {a b : SM} {z : Z φ} (hn : ∀ env e, a env ≠ .nx e) (h : G X R a z Rel) : G X R (sSeq a b) z Rel := fun env he => by
  have : sSeq a b env = a env := by
    rw [x_seq]
    cases ho : a env with
    | nx e => exact (hn env e ho).elim
    | _ => rfl
  have k := h env he
  rw [← this] at k
  exact k
theorem nn_ret {m : M T} (env : KM.Env) (e : KM.Env) : sRet m env ≠ .nx e := by
  rw [x_sret]
  cases m env <;> intro h <;> cases h
/-! ends -/
theorem g_nx {R' : S → Rg} {ms : List Mk} {s : S} (h : mask ms R = R' s) : G X R sNil (.ok s) (nxR R') := fun env he => ⟨env, rfl, by rw [← h]; exact mask_le he⟩
theorem g_bd {R' : S → Rg} {ms : List Mk} {s : S} (h : mask ms R = R' s) : G X R sNil (.ok s) (bdR R') := fun env he => ⟨env, .inl rfl, by rw [← h]; exact mask_le he⟩
theorem g_go {R' : S → Rg} {RR : ρ → Out → Prop} {ms : List Mk} {s : S} (h : mask ms R = R' s) : G X R sNil (.ok (.go s)) (flR R' RR) := fun env he => ⟨env, .inl rfl, by rw [← h]; exact mask_le he⟩
theorem ri_fn {fl : List Bool} {as : List Sl} {v : ρ → Sl} {outs : ρ → List Sl} (r : ρ) (o : Out) (h : rtR fl as v outs r o) : fnR fl as v outs (id r) o := .inl h
theorem ri_fl {R' : S → Rg} {RR : ρ → Out → Prop} (r : ρ) (o : Out) (h : RR r o) : flR R' RR (Fl.ret r) o := h
theorem g_ret {m : M T} {vT : σ → Sl} {R' : σ → Rg} {fl : List Bool} {as : List Sl} {v : ρ → Sl} {outs : ρ → List Sl} {inj : ρ → φ} {g : σ → ρ} (hi : ∀ r o, rtR fl as v outs r o → Rel (inj r) o) (h : EO X R m z vT R') (hv : ∀ s, vT s = v (g s)) (ho : ∀ s, outR fl as (R' s) = some (outs (g s))) :
    G X R (sRet m) (z.bind fun s => .ok (inj (g s))) Rel := fun env he => by
  refine (h env he).bind (fun s ⟨t, e, h1, h2, h3⟩ => hi _ _ ⟨t, e, R' s, ?_, hv s ▸ h2, ho s, h3⟩) fun c ns ds ⟨e, h1, h2⟩ => ⟨e, ?_, h2⟩
  · rw [x_sret, h1]; rfl
  · rw [x_sret, h1]; rfl
/-! plain statements -/
theorem g_asg {i : Nat} {m : M T} {v : σ → Sl} {R1 : σ → Rg} (a : EO X R m z v R1) : G X R (sAsg i m) z (nxR fun s => (R1 s).set i (v s)) := fun env h => by
  refine (a env h).mono (fun s ⟨t, e, h1, h2, h3⟩ => ⟨_, ?_, h3.set i h2⟩) fun c ns ds ⟨e, h1, h2⟩ => ⟨e, ?_, h2⟩
  · rw [x_asg, h1]; rfl
  · rw [x_asg, h1]; rfl
theorem g_drop {m : M T} {v : σ → Sl} {R1 : σ → Rg} (a : EO X R m z v R1) : G X R (sDrop m) z (nxR R1) := fun env h => by
  refine (a env h).mono (fun s ⟨t, e, h1, h2, h3⟩ => ⟨e, ?_, h3⟩) fun c ns ds ⟨e, h1, h2⟩ => ⟨e, ?_, h2⟩
  · rw [x_drop, h1]; rfl
  · rw [x_drop, h1]; rfl
/-! items stored: the index in pure mode -/
def EQ (R : Rg) (m : KM.Env → Option D) (z : Z σ) (v : σ → D) : Prop := ∀ env, Le R env → z.To (fun s => m env = some (v s)) fun _ _ _ => False
theorem eq_c {d : D} : EQ R (pC d) (.ok ()) (fun _ => d) := fun env h => rfl
theorem eq_nmD {i : Nat} {d : D} (hi : R[i]? = some (.da d)) : EQ R (pAt (pNm i)) (.ok ()) (fun _ => d) := fun env h => by
  obtain ⟨c, h1, h2⟩ := h.get hi
  cases (show c = some (T.val d) from h2)
  show pAt (pNm i) env = some d
  rw [x_pAt, x_pNm, h1]
  show dataAt (.loc i []) env = _
  rw [x_dataL, x_node, h1]
  rfl
def putZ (ds : List D) (k : D) (d : D) : Option (List D) := match k with
  | .int j => (ixN ds.length j).map fun n => ds.set n d
  | _ => none
theorem g_put {i : Nat} {m : M T} {ix : KM.Env → Option D} {v : σ → Sl} {d : σ → D} {R1 : σ → Rg} {ds : σ → List D} {zx : σ → Z τ} {vx : σ → τ → D} (a : EO X R m z v R1) (hv : ∀ s, v s = .da (d s)) (hi : ∀ s, (R1 s)[i]? = some (.ow (ds s))) (b : ∀ s, EQ (R1 s) ix (zx s) (vx s)) :
    G X R (sPut m (pNm i) ix) (z.bind fun s => (zx s).bind fun t => (Z.opt (putZ (ds s) (vx s t) (d s))).bind fun r => .ok (s, r)) (nxR fun x => (R1 x.1).set i (.ow x.2)) := fun env h => by
  refine (a env h).bind (fun s ⟨t, e, h1, h2, h3⟩ => (b s e h3).bind (fun u h4 => (Z.opt_To (Q := fun r => putZ (ds s) (vx s u) (d s) = some r) (X := fun _ _ _ => False) fun t ht => ht).bind (fun r hr => ⟨e.set i (some (.lst (leafs r))), ?_, h3.set i rfl⟩) fun _ _ _ z => z.elim) fun _ _ _ z => z.elim) fun c ns ds ⟨e, h1, h2⟩ => ⟨e, ?_, h2⟩
  · obtain ⟨c0, q1, q2⟩ := h3.get (hi s)
    cases (show c0 = some (T.lst (leafs (ds s))) from q2)
    rw [hv s] at h2
    cases (show some t = some (T.val (d s)) from h2)
    unfold sPut
    rw [x_thenS, h1]
    dsimp only [Rs.out]
    rw [x_pNm, q1]
    show (match ix e with
      | some (.int k) => match nodeOf e i [] with
        | some (.lst ts) => match ixN ts.length k with
          | some n => Out.nx (putAt e i [] (.lst (ts.set n (T.val (d s)))))
          | none => .stuck
        | _ => .stuck
      | _ => .stuck) = _
    rw [h4, x_node, q1]
    unfold putZ at hr
    cases hk : vx s u with
    | int j =>
      rw [hk] at hr
      dsimp only at hr ⊢
      show (match ixN (leafs (ds s)).length j with
          | some n => Out.nx (putAt e i [] (.lst ((leafs (ds s)).set n (T.val (d s)))))
          | none => .stuck) = _
      rw [leafs_len]
      cases hn : ixN (ds s).length j with
      | none => rw [hn] at hr; cases hr
      | some n =>
        rw [hn] at hr
        cases hr
        dsimp only
        unfold putAt
        rw [q1]
        dsimp only
        rw [leafs_set]
        rfl
    | _ => rw [hk] at hr; cases hr
  · unfold sPut; rw [x_thenS, h1]; rfl
def putG (dss : List (List D)) (y x : D) (d : D) : Option (List (List D)) := match y with
  | .int j => (ixN dss.length j).bind fun n => (dss[n]?).bind fun ds => (putZ ds x d).map fun ds' => dss.set n ds'
  | _ => none
/-! branches -/
theorem g_if {mc : M Bool} {A B : SM} {b : σ → Bool} {R1 : σ → Rg} {zA zB : σ → Z φ} (c : EX X R mc z b R1) (ha : ∀ q, G X (R1 q) A (zA q) Rel) (hb : ∀ q, G X (R1 q) B (zB q) Rel) : G X R (sIf mc A B) (z.bind fun q => if b q = true then zA q else zB q) Rel := fun env h => by
  refine (c env h).bind (fun q ⟨e, h1, h2⟩ => ?_) fun c ns ds ⟨e, h1, h2⟩ => ⟨e, ?_, h2⟩
  · have pre : sIf mc A B env = if b q = true then A e else B e := by
      rw [x_sif, h1]
      show (if b q = true then A else B) e = _
      split <;> rfl
    cases hq : b q with
    | true =>
      rw [hq, if_pos rfl] at pre
      rw [if_pos rfl]
      refine (ha q e h2).mono (fun r hr => ?_) fun c ns ds ⟨e', q1, q2⟩ => ⟨e', ?_, q2⟩
      · rw [pre]; exact hr
      · rw [pre]; exact q1
    | false =>
      rw [hq, if_neg (by simp)] at pre
      rw [if_neg (by simp)]
      refine (hb q e h2).mono (fun r hr => ?_) fun c ns ds ⟨e', q1, q2⟩ => ⟨e', ?_, q2⟩
      · rw [pre]; exact hr
      · rw [pre]; exact q1
  · rw [x_sif, h1]; rfl
theorem if_seq (mc : M Bool) (A B K : SM) : sSeq (sIf mc A B) K = sIf mc (sSeq A K) (sSeq B K) := by
  funext env
  rw [x_seq, x_sif, x_sif]
  cases mc env with
  | ok b e =>
    show Out.then ((if b = true then A else B) e) K = (if b = true then sSeq A K else sSeq B K) e
    cases b <;> rfl
  | _ => rfl
theorem g_ifK {mc : M Bool} {A B K : SM} {b : σ → Bool} {R1 : σ → Rg} {zA zB : σ → Z φ} (c : EX X R mc z b R1) (ha : ∀ q, G X (R1 q) (sSeq A K) (zA q) Rel) (hb : ∀ q, G X (R1 q) (sSeq B K) (zB q) Rel) : G X R (sSeq (sIf mc A B) K) (z.bind fun q => if b q = true then zA q else zB q) Rel := by
  rw [if_seq]
  exact g_if c ha hb
/-- both branches go on; up: what they change -/
theorem g_ifJ {mc : M Bool} {A B : SM} {b : σ → Bool} {R1 : σ → Rg} {up : Rg → S → Rg} {zA zB : σ → Z S} (c : EX X R mc z b R1) (ha : ∀ q, G X (R1 q) A (zA q) (nxR (up (R1 q)))) (hb : ∀ q, G X (R1 q) B (zB q) (nxR (up (R1 q)))) :
    G X R (sIf mc A B) (z.bind fun q => (if b q = true then zA q else zB q).bind fun s => .ok (q, s)) (nxR fun x => up (R1 x.1) x.2) := by
  have lift : ∀ {q : σ} {C : SM} {zC : Z S}, G X (R1 q) C zC (nxR (up (R1 q))) → G X (R1 q) C (zC.bind fun s => .ok (q, s)) (nxR fun x => up (R1 x.1) x.2) := fun h env he => (h env he).bind (fun s hs => hs) fun _ _ _ z => z
  have k := g_if (zA := fun q => (zA q).bind fun s => .ok (q, s)) (zB := fun q => (zB q).bind fun s => .ok (q, s)) c (fun q => lift (ha q)) fun q => lift (hb q)
  have e : (z.bind fun q => (if b q = true then zA q else zB q).bind fun s => Z.ok (q, s)) = z.bind fun q => if b q = true then (zA q).bind fun s => .ok (q, s) else (zB q).bind fun s => .ok (q, s) := by
    congr 1
    funext q
    split <;> rfl
  rw [e]
  exact k
/-! loops -/
def forZ (f : D → S → Z S) : List D → S → Z S
  | [], s => .ok s
  | d :: ds, s => (f d s).bind (forZ f ds)
def flB (k : S → Z (S ⊕ ρ)) : Fl S ρ → Z (S ⊕ ρ)
  | .go s => k s
  | .brk s => .ok (.inl s)
  | .ret r => .ok (.inr r)
def forF (f : D → S → Z (Fl S ρ)) : List D → S → Z (S ⊕ ρ)
  | [], s => .ok (.inl s)
  | d :: ds, s => (f d s).bind (flB (forF f ds))
theorem xz_for (it : M (List D)) (g : D → KM.Env → Option KM.Env) (body : SM) (env : KM.Env) : sFor it g body env = (it env).out fun ds => KM.forM g body ds := rfl
theorem g_for {ξ : Type} {it : M (List D)} {g : D → KM.Env → Option KM.Env} {body : SM} {vi : σ → List D} {Ri : σ → Rg} {up : Rg → S → Rg} {i0 : σ → S} {ms : List Mk} {zg : σ → D → S → Z ξ} {Rg' : σ → D → S → ξ → Rg} {f : σ → D → S → ξ → Z S}
    (i : EX X R it z vi Ri) (h0 : ∀ q, mask ms (Ri q) = up (Ri q) (i0 q)) (tg : ∀ q d s, EG (up (Ri q) s) g d (zg q d s) (Rg' q d s)) (hb : ∀ q d s p, G X (Rg' q d s p) body (f q d s p) (bdR (up (Ri q)))) :
    G X R (sFor it g body) (z.bind fun q => (forZ (fun d s => (zg q d s).bind fun p => f q d s p) (vi q) (i0 q)).bind fun s => .ok (q, s)) (nxR fun x => up (Ri x.1) x.2) := fun env h => by
  refine (i env h).bind (fun q ⟨e0, q1, q2⟩ => ?_) fun c ns ds ⟨e, h1, h2⟩ => ⟨e, ?_, h2⟩
  · have loop : ∀ (ds : List D) (s : S) (e1 : KM.Env), Le (up (Ri q) s) e1 → (forZ (fun d s => (zg q d s).bind fun p => f q d s p) ds s).To (fun r => ∃ e', KM.forM g body ds e1 = .nx e' ∧ Le (up (Ri q) r) e') (fun c ns es => ∃ e', KM.forM g body ds e1 = .exc c ns es e' ∧ LeX X e') := fun ds => by
      induction ds with
      | nil => exact fun s e1 he => ⟨e1, rfl, he⟩
      | cons d ds ih =>
        intro s e1 he
        refine Z.To.bind (Q1 := fun s' => ∃ e2 e3, g d e1 = some e2 ∧ (body e2 = .nx e3 ∨ body e2 = .cnt e3) ∧ Le (up (Ri q) s') e3) (X1 := fun c ns es => ∃ e2 e', g d e1 = some e2 ∧ body e2 = .exc c ns es e' ∧ LeX X e') ?_ (fun s' ⟨e2, e3, g1, g2, g3⟩ => ?_) fun c ns es ⟨e2, e', g1, g2, g3⟩ => ⟨e', ?_, g3⟩
        · exact (tg q d s e1 he).bind (fun p ⟨e2, g1, g2⟩ => (hb q d s p e2 g2).mono (fun s' ⟨e3, g3, g4⟩ => ⟨e2, e3, g1, g3, g4⟩) fun c ns es ⟨e', g3, g4⟩ => ⟨e2, e', g1, g3, g4⟩) fun _ _ _ z => z.elim
        · have pre : KM.forM g body (d :: ds) e1 = KM.forM g body ds e3 := by
            show (match g d e1 with | none => Out.stuck | some e => match body e with | .nx e' => KM.forM g body ds e' | .cnt e' => KM.forM g body ds e' | .brk e' => .nx e' | o => o) = _
            rw [g1]
            dsimp only
            rcases g2 with g2 | g2 <;> rw [g2]
          rw [pre]
          exact ih s' e3 g3
        · show (match g d e1 with | none => Out.stuck | some e => match body e with | .nx e' => KM.forM g body ds e' | .cnt e' => KM.forM g body ds e' | .brk e' => .nx e' | o => o) = _
          rw [g1]
          dsimp only
          rw [g2]
    have k := loop (vi q) (i0 q) e0 (by rw [← h0]; exact mask_le q2)
    have pre : sFor it g body env = KM.forM g body (vi q) e0 := by rw [xz_for, q1]; rfl
    exact k.bind (fun s ⟨e', r1, r2⟩ => ⟨e', by rw [pre]; exact r1, r2⟩) fun c ns ds ⟨e', r1, r2⟩ => ⟨e', by rw [pre]; exact r1, r2⟩
  · rw [xz_for, h1]; rfl
theorem g_forF {ξ : Type} {it : M (List D)} {g : D → KM.Env → Option KM.Env} {body : SM} {vi : σ → List D} {Ri : σ → Rg} {up : Rg → S → Rg} {i0 : σ → S} {ms : List Mk} {RR : ρ → Out → Prop} {zg : σ → D → S → Z ξ} {Rg' : σ → D → S → ξ → Rg} {f : σ → D → S → ξ → Z (Fl S ρ)}
    (hr : ∀ r o, RR r o → ∃ t e, o = .ret t e) (i : EX X R it z vi Ri) (h0 : ∀ q, mask ms (Ri q) = up (Ri q) (i0 q)) (tg : ∀ q d s, EG (up (Ri q) s) g d (zg q d s) (Rg' q d s)) (hb : ∀ q d s p, G X (Rg' q d s p) body (f q d s p) (flR (up (Ri q)) RR)) :
    G X R (sFor it g body) (z.bind fun q => (forF (fun d s => (zg q d s).bind fun p => f q d s p) (vi q) (i0 q)).bind fun s => .ok (match s with | .inl s => .inl (q, s) | .inr r => .inr r)) (sumR (fun x => up (Ri x.1) x.2) RR) := fun env h => by
  refine (i env h).bind (fun q ⟨e0, q1, q2⟩ => ?_) fun c ns ds ⟨e, h1, h2⟩ => ⟨e, ?_, h2⟩
  · have loop : ∀ (ds : List D) (s : S) (e1 : KM.Env), Le (up (Ri q) s) e1 → (forF (fun d s => (zg q d s).bind fun p => f q d s p) ds s).To (fun r => sumR (up (Ri q)) RR r (KM.forM g body ds e1)) (fun c ns es => ∃ e', KM.forM g body ds e1 = .exc c ns es e' ∧ LeX X e') := fun ds => by
      induction ds with
      | nil => exact fun s e1 he => ⟨e1, rfl, he⟩
      | cons d ds ih =>
        intro s e1 he
        have un : ∀ {e2}, g d e1 = some e2 → KM.forM g body (d :: ds) e1 = (match body e2 with | .nx e' => KM.forM g body ds e' | .cnt e' => KM.forM g body ds e' | .brk e' => .nx e' | o => o) := fun {e2} g1 => by
          show (match g d e1 with | none => Out.stuck | some e => match body e with | .nx e' => KM.forM g body ds e' | .cnt e' => KM.forM g body ds e' | .brk e' => .nx e' | o => o) = _
          rw [g1]
        refine Z.To.bind (Q1 := fun r => ∃ e2, g d e1 = some e2 ∧ flR (up (Ri q)) RR r (body e2)) (X1 := fun c ns es => ∃ e2 e', g d e1 = some e2 ∧ body e2 = .exc c ns es e' ∧ LeX X e') ?_ (fun r ⟨e2, g1, g2⟩ => ?_) fun c ns es ⟨e2, e', g1, g2, g3⟩ => ⟨e', ?_, g3⟩
        · exact (tg q d s e1 he).bind (fun p ⟨e2, g1, g2⟩ => (hb q d s p e2 g2).mono (fun s' g3 => ⟨e2, g1, g3⟩) fun c ns es ⟨e', g3, g4⟩ => ⟨e2, e', g1, g3, g4⟩) fun _ _ _ z => z.elim
        · rw [un g1]
          cases r with
          | go s' =>
            obtain ⟨e3, g3, g4⟩ := g2
            rcases g3 with g3 | g3 <;> rw [g3] <;> exact ih s' e3 g4
          | brk s' =>
            obtain ⟨e3, g3, g4⟩ := g2
            rw [g3]
            exact ⟨e3, rfl, g4⟩
          | ret r =>
            have g2 : RR r (body e2) := g2
            obtain ⟨t, e3, g3⟩ := hr _ _ g2
            show RR r _
            rw [g3] at g2 ⊢
            exact g2
        · rw [un g1, g2]
    have k := loop (vi q) (i0 q) e0 (by rw [← h0]; exact mask_le q2)
    have pre : sFor it g body env = KM.forM g body (vi q) e0 := by rw [xz_for, q1]; rfl
    refine k.bind (fun s hs => ?_) fun c ns ds ⟨e', r1, r2⟩ => ⟨e', by rw [pre]; exact r1, r2⟩
    cases s with
    | inl s => obtain ⟨e', r1, r2⟩ := hs; exact ⟨e', by rw [pre]; exact r1, r2⟩
    | inr r => show RR r _; rw [pre]; exact hs
  · rw [xz_for, h1]; rfl
theorem rtR_ret {fl : List Bool} {as : List Sl} {v : ρ → Sl} {outs : ρ → List Sl} (r : ρ) (o : Out) (h : rtR fl as v outs r o) : ∃ t e, o = .ret t e := by
  obtain ⟨t, e, R, h1, _⟩ := h
  exact ⟨t, e, h1⟩
/-- while; the test changes nothing -/
def whZ (c : S → Z Bool) (f : S → Z (Fl S ρ)) : Nat → S → Z (S ⊕ ρ)
  | 0, _ => .stuck
  | n + 1, s => (c s).bind fun b => if b = true then (f s).bind (flB (whZ c f n)) else .ok (.inl s)
theorem g_while {mc : M Bool} {body : SM} {up : Rg → S → Rg} {i0 : S} {ms : List Mk} {RR : ρ → Out → Prop} {zc : S → Z τ} {vc : S → τ → Bool} {Rc : S → τ → Rg} {f : S → Z (Fl S ρ)}
    (hr : ∀ r o, RR r o → ∃ t e, o = .ret t e) (h0 : mask ms R = up R i0) (hc : ∀ s, EX X (up R s) mc (zc s) (vc s) (Rc s)) (hs : ∀ s t, Rc s t = up R s) (hb : ∀ s, G X (up R s) body (f s) (flR (up R) RR)) :
    G X R (sWhile mc body) (whZ (fun s => (zc s).bind fun t => .ok (vc s t)) f fuel i0) (sumR (up R) RR) := fun env h => by
  have loop : ∀ (n : Nat) (s : S) (e1 : KM.Env), Le (up R s) e1 → (whZ (fun s => (zc s).bind fun t => .ok (vc s t)) f n s).To (fun r => sumR (up R) RR r (whileM mc body n e1)) (fun c ns es => ∃ e', whileM mc body n e1 = .exc c ns es e' ∧ LeX X e') := fun n => by
    induction n with
    | zero => exact fun _ _ _ => trivial
    | succ n ih =>
      intro s e1 he
      refine Z.To.bind (Q1 := fun b => ∃ e2, mc e1 = .ok b e2 ∧ Le (up R s) e2) (X1 := fun c ns es => ∃ e', mc e1 = .exc c ns es e' ∧ LeX X e') ?_ (fun b ⟨e2, g1, g2⟩ => ?_) fun c ns es ⟨e', g1, g2⟩ => ⟨e', ?_, g2⟩
      · exact (hc s e1 he).bind (fun t ⟨e2, g1, g2⟩ => ⟨e2, g1, hs s t ▸ g2⟩) fun _ _ _ z => z
      · cases b with
        | false =>
          rw [if_neg (by simp)]
          refine ⟨e2, ?_, g2⟩
          show (match mc e1 with | .ok true e => _ | .ok false e => Out.nx e | .exc cl ns ds e => .exc cl ns ds e | .stuck => .stuck) = _
          rw [g1]
        | true =>
          rw [if_pos rfl]
          have un : whileM mc body (n + 1) e1 = (match body e2 with | .nx e' => whileM mc body n e' | .cnt e' => whileM mc body n e' | .brk e' => .nx e' | o => o) := by
            show (match mc e1 with | .ok true e => (match body e with | .nx e' => whileM mc body n e' | .cnt e' => whileM mc body n e' | .brk e' => .nx e' | o => o) | .ok false e => Out.nx e | .exc cl ns ds e => .exc cl ns ds e | .stuck => .stuck) = _
            rw [g1]
          rw [un]
          refine (hb s e2 g2).bind (fun r hr2 => ?_) fun c ns es ⟨e', g3, g4⟩ => ⟨e', by rw [g3], g4⟩
          cases r with
          | go s' =>
            obtain ⟨e3, g3, g4⟩ := hr2
            rcases g3 with g3 | g3 <;> rw [g3] <;> exact ih s' e3 g4
          | brk s' =>
            obtain ⟨e3, g3, g4⟩ := hr2
            rw [g3]
            exact ⟨e3, rfl, g4⟩
          | ret r =>
            have g3 : RR r (body e2) := hr2
            obtain ⟨t, e3, g4⟩ := hr _ _ g3
            show RR r _
            rw [g4] at g3 ⊢
            exact g3
      · show (match mc e1 with | .ok true e => _ | .ok false e => Out.nx e | .exc cl ns ds e => .exc cl ns ds e | .stuck => .stuck) = _
        rw [g1]
  exact loop fuel i0 env (by rw [← h0]; exact mask_le h)
/-- a loop that never hands back -/
theorem g_noret {a : SM} {R1 : σ → Rg} {z1 : Z (σ ⊕ Empty)} (h : G X R a z1 (sumR R1 (fun (r : Empty) _ => r.elim))) : G X R a (z1.bind fun x => match x with | .inl s => .ok s | .inr r => r.elim) (nxR R1) := fun env he =>
  (h env he).bind (fun x hx => match x, hx with | .inl s, hx => hx) fun _ _ _ z => z
/-! exceptions -/
def raiseZ (c : Str) (ns : List Str) (ds : List D) : Z φ := if (decide (ds.length = ns.length) && decide (ns.length ≤ 1000)) = true then .exc c ns.reverse ds.reverse else .stuck
def tryZ (cm : Str → Option Bool) (z : Z S) (h : Str → List Str → List D → Z S) : Z S := match z with
  | .exc c ns ds => match cm c with
    | some true => h c ns ds
    | some false => .exc c ns ds
    | none => .stuck
  | z => z
end
/-! tests whose later parts change lists -/
section
variable {α β σ τ S : Type} {X : Option Rg} {R : Rg}
theorem EX.wk {m : M α} {v : τ → α} {z : Z τ} {R2 : τ → Rg} {up : S → Rg} {g : τ → S} (ms : List Mk) (a : EX X R m z v R2) (h : ∀ t, mask ms (R2 t) = up (g t)) : EX X R m (z.bind fun t => .ok (v t, g t)) (fun x => x.1) (fun x => up x.2) := fun env he =>
  (a env he).bind (fun s ⟨e, h1, h2⟩ => ⟨e, h1, by show Le (up (g s)) e; rw [← h]; exact mask_le h2⟩) fun _ _ _ z => z
theorem EX.if2E {m : M Bool} {ka kb : M β} {b : σ → Bool} {R1 : σ → Rg} {up : Rg → S → Rg} {z1 z2 : σ → Z (β × S)} {z : Z σ} (a : EX X R m z b R1) (h1 : ∀ s, EX X (R1 s) ka (z1 s) (fun t => t.1) (fun t => up (R1 s) t.2)) (h2 : ∀ s, EX X (R1 s) kb (z2 s) (fun t => t.1) (fun t => up (R1 s) t.2)) :
    EX X R (m.bnd fun x => if x = true then ka else kb) (z.bind fun s => (if b s = true then z1 s else z2 s).bind fun t => .ok (s, t)) (fun x => x.2.1) (fun x => up (R1 x.1) x.2.2) := a.bnd (z2 := fun s => if b s = true then z1 s else z2 s) (v2 := fun _ t => t.1) (R2 := fun s t => up (R1 s) t.2) (k := fun x => if x = true then ka else kb) fun s => by
  cases h : b s with
  | true => rw [if_pos rfl, if_pos rfl]; exact h1 s
  | false => rw [if_neg (by simp), if_neg (by simp)]; exact h2 s
theorem et_andE {ma mb : M Bool} {b : σ → Bool} {R1 : σ → Rg} {z : Z σ} {z2 : σ → Z τ} {v2 : σ → τ → Bool} {R2 : σ → τ → Rg} {up : Rg → S → Rg} {ms : List Mk} {g0 : σ → S} {g : σ → τ → S} (a : EX X R ma z b R1) (c : ∀ s, EX X (R1 s) mb (z2 s) (v2 s) (R2 s)) (h0 : ∀ s, mask ms (R1 s) = up (R1 s) (g0 s)) (h : ∀ s t, mask ms (R2 s t) = up (R1 s) (g s t)) :
    EX X R (tand ma mb) (z.bind fun s => (if b s = true then (z2 s).bind fun t => .ok (v2 s t, g s t) else .ok (false, g0 s)).bind fun t => .ok (s, t)) (fun x => x.2.1) (fun x => up (R1 x.1) x.2.2) :=
  EX.if2E a (fun s => (c s).wk ms (up := up (R1 s)) (g := g s) (h s)) fun s env he => ⟨env, rfl, by show Le (up (R1 s) (g0 s)) env; rw [← h0]; exact mask_le he⟩
end
end KM
/-! xs[i] += n, shallow. -/
namespace KM
open PySem PySem.Spec PyProof.Rows L2 Evl KP
section
variable {σ τ : Type} {X : Option Rg} {R : Rg} {z : Z σ}
def augD (ds : List D) : D → D → Option (List D)
  | .int k, .int b => augZ ds k b
  | _, _ => none
theorem z_aug {ds : List D} {k a b : Int} (h0 : 0 ≤ k) (h : ds[k.toNat]? = some (.int a)) : augD ds (.int k) (.int b) = some (ds.set k.toNat (.int (a + b))) := by
  show augZ ds k b = _
  unfold augZ
  rw [if_pos h0, h]
theorem g_augS {i : Nat} {m : M T} {pe : KM.Env → Option D} {v : σ → Sl} {d : σ → D} {R1 : σ → Rg} {ds0 : List D} {ds : σ → List D} {zx : σ → Z τ} {vx : σ → τ → D} (h0 : R[i]? = some (.ow ds0)) (a : EO X R m z v R1) (hv : ∀ s, v s = .da (d s)) (hi : ∀ s, (R1 s)[i]? = some (.ow (ds s))) (b : ∀ s, EQ (R1 s) pe (zx s) (vx s)) :
    G X R (sAugI i m pe) (z.bind fun s => (zx s).bind fun t => (Z.opt (augD (ds s) (d s) (vx s t))).bind fun r => .ok (s, r)) (nxR fun x => (R1 x.1).set i (.ow x.2)) := fun env h => by
  obtain ⟨c, p1, p2⟩ := h.get h0
  cases (show c = some (T.lst (leafs ds0)) from p2)
  have e0 : sAugI i m pe env = thenS m (fun t e => augO i t (pe e) e) env := by
    unfold sAugI
    rw [x_node, p1]
    rfl
  refine (a env h).bind (fun s ⟨t, e, h1, h2, h3⟩ => (b s e h3).bind (fun u h4 => (Z.opt_To (Q := fun r => augD (ds s) (d s) (vx s u) = some r) (X := fun _ _ _ => False) fun t ht => ht).bind (fun r hr => ⟨e.set i (some (.lst (leafs r))), ?_, h3.set i rfl⟩) fun _ _ _ z => z.elim) fun _ _ _ z => z.elim) fun c ns ds ⟨e, h1, h2⟩ => ⟨e, ?_, h2⟩
  · obtain ⟨c0, q1, q2⟩ := h3.get (hi s)
    cases (show c0 = some (T.lst (leafs (ds s))) from q2)
    rw [hv s] at h2
    cases (show some t = some (T.val (d s)) from h2)
    rw [e0, x_thenS, h1]
    dsimp only [Rs.out]
    unfold augO
    cases hk : d s with
    | int k =>
      rw [hk] at hr
      (try dsimp only)
      rw [h4]
      cases hb : vx s u with
      | int b =>
        rw [hb] at hr
        dsimp only
        rw [x_node, q1]
        show (match unvals (leafs (ds s)) with
          | some ds' => match augZ ds' k b with
            | some ds' => Out.nx (putAt e i [] (.lst (leafs ds')))
            | none => .stuck
          | none => .stuck) = _
        rw [unvals_leafs]
        dsimp only
        have hr : augZ (ds s) k b = some r := hr
        rw [hr]
        dsimp only
        unfold putAt
        rw [q1]
        rfl
      | _ => rw [hb] at hr; cases hr
    | _ => rw [hk] at hr; cases hr
  · rw [e0, x_thenS, h1]; rfl
end
section
variable {σ : Type} {X : Option Rg} {R : Rg} {z : Z σ}
theorem g_par {i j : Nat} {m : M (List D)} {v : σ → List D} {d1 d2 : σ → D} {R1 : σ → Rg} (a : EX X R m z v R1) (hv : ∀ s, v s = [d1 s, d2 s]) :
    G X R (sPar i j m) z (nxR fun s => ((R1 s).set i (.da (d1 s))).set j (.da (d2 s))) := fun env h => by
  refine (a env h).mono (fun s ⟨e, h1, h2⟩ => ⟨(e.set i (some (.val (d1 s)))).set j (some (.val (d2 s))), ?_, Le.set j (s := .da (d2 s)) (c := some (.val (d2 s))) (Le.set i (s := .da (d1 s)) (c := some (.val (d1 s))) h2 rfl) rfl⟩) fun c ns ds ⟨e, h1, h2⟩ => ⟨e, ?_, h2⟩
  · unfold sPar
    rw [x_thenS, h1, hv s]
    rfl
  · unfold sPar
    rw [x_thenS, h1]; rfl
end
end KM
namespace KL
open PySem PySem.Spec PyProof.Rows L2 Evl KP KM
@[irreducible] def r_law_draw (a0 : List D) (a1 : D) : {z : Z (D × List D) // FX m_law_draw [.ow a0, .da a1] z (p2 (fun r0 r1 => .da r0)) (p2 (fun r0 r1 => [.ow r1, .da a1])) [.sm, .da a1]} := ⟨_, fx_fn (X := [.sm, .da a1, .any, .any, .any]) rfl rfl
      (g_pre (R2 := [.ow _, .da _, .nd, .nd, .nd]) rfl (g_ifK (et_tst (ev_o (eo_op (eb_v (ev_o (eo_op (eb_nm rfl rfl) (fun _ => (eb_v ev_c)) (fun _ _ => rfl) (fun _ _ => rfl)) (fun _ => rfl))) (fun _ => (eb_v ev_c)) (fun _ _ => rfl) (fun _ _ => rfl)) (fun _ => rfl))) (fun _ => (g_pre (R2 := [.ow _, .da _, .nd, .nd, .nd]) rfl (g_assoc (g_seq (g_asg (eo_v (ev_o (eo_op (eb_v (ev_o (eo_a (ea_cons (eb_v (ev_o (eo_op (eb_nm rfl rfl) (fun _ => (eb_v ev_c)) (fun _ _ => rfl) (fun _ _ => rfl)) (fun _ => rfl))) (fun _ => ea_nil)) (fun _ => rfl)) (fun _ => rfl))) (fun _ => (eb_nm rfl rfl)) (fun _ _ => rfl) (fun _ _ => rfl)) (fun _ => rfl)))) (fun _ =>
      (g_pre (R2 := [.ow _, .da _, .da _, .nd, .nd]) rfl (g_assoc (g_seq (g_put (eo_v (ev_o (eo_op (eb_v (ev_o (eo_op (eb_nm rfl rfl) (fun _ => (eb_v ev_c)) (fun _ _ => rfl) (fun _ _ => rfl)) (fun _ => rfl))) (fun _ => (eb_nm rfl rfl)) (fun _ _ => rfl) (fun _ _ => rfl)) (fun _ => rfl))) (fun _ => rfl) (fun _ => rfl) (fun _ => eq_c)) (fun _ =>
      (g_pre (R2 := [.ow _, .da _, .da _, .nd, .nd]) rfl (g_termK nn_ret (g_ret (g := fun _ => (_, _)) ri_fn (eo_v (ev_nm rfl)) (fun _ => rfl) (fun _ => rfl))))))))))))) (fun _ => (g_nilK (g_pre (R2 := [.ow _, .da _, .nd, .nd, .nd]) rfl (g_pre (R2 := [.ow _, .da _, .nd, .nd, .nd]) rfl (g_seq (g_put (eo_v (ev_o (eo_op (eb_v (ev_o (eo_op (eb_nm rfl rfl) (fun _ => (eb_v ev_c)) (fun _ _ => rfl) (fun _ _ => rfl)) (fun _ => rfl))) (fun _ => (eb_v ev_c)) (fun _ _ => rfl) (fun _ _ => rfl)) (fun _ => rfl))) (fun _ => rfl) (fun _ => rfl) (fun _ => eq_c)) (fun _ =>
      (g_pre (R2 := [.ow _, .da _, .nd, .nd, .nd]) rfl (g_seq (g_asg (eo_v (ev_o (eo_op (eb_v (ev_o (eo_a (ea_cons (eb_v (ev_o (eo_op (eb_v (ev_o (eo_op (eb_v (ev_o (eo_op (eb_v (ev_o (eo_op (eb_nm rfl rfl) (fun _ => (eb_v ev_c)) (fun _ _ => rfl) (fun _ _ => rfl)) (fun _ => rfl))) (fun _ => (eb_v ev_c)) (fun _ _ => rfl) (fun _ _ => rfl)) (fun _ => rfl))) (fun _ => (eb_v (ev_o (eo_op (eb_v (ev_o (eo_op (eb_nm rfl rfl) (fun _ => (eb_v ev_c)) (fun _ _ => rfl) (fun _ _ => rfl)) (fun _ => rfl))) (fun _ => (eb_v ev_c)) (fun _ _ => rfl) (fun _ _ => rfl)) (fun _ => rfl)))) (fun _ _ => rfl) (fun _ _ => rfl)) (fun _ => rfl))) (fun _ => (eb_v ev_c)) (fun _ _ => rfl) (fun _ _ => rfl)) (fun _ => rfl))) (fun _ => ea_nil)) (fun _ => rfl)) (fun _ => rfl))) (fun _ => (eb_v ev_c)) (fun _ _ => rfl) (fun _ _ => rfl)) (fun _ => rfl)))) (fun _ =>
      (g_pre (R2 := [.ow _, .da _, .nd, .da _, .nd]) rfl (g_seq (g_asg (eo_v (ev_o (eo_op (eb_v (ev_o (eo_a (ea_cons (eb_v (ev_o (eo_op (eb_v (ev_o (eo_op (eb_nm rfl rfl) (fun _ => (eb_v (ev_o (eo_op (eb_v (ev_o (eo_op (eb_nm rfl rfl) (fun _ => (eb_v ev_c)) (fun _ _ => rfl) (fun _ _ => rfl)) (fun _ => rfl))) (fun _ => (eb_v ev_c)) (fun _ _ => rfl) (fun _ _ => rfl)) (fun _ => rfl)))) (fun _ _ => rfl) (fun _ _ => rfl)) (fun _ => rfl))) (fun _ => (eb_v (ev_o (eo_op (eb_v (ev_o (eo_op (eb_nm rfl rfl) (fun _ => (eb_v ev_c)) (fun _ _ => rfl) (fun _ _ => rfl)) (fun _ => rfl))) (fun _ => (eb_v ev_c)) (fun _ _ => rfl) (fun _ _ => rfl)) (fun _ => rfl)))) (fun _ _ => rfl) (fun _ _ => rfl)) (fun _ => rfl))) (fun _ => ea_nil)) (fun _ => rfl)) (fun _ => rfl))) (fun _ => (eb_v ev_c)) (fun _ _ => rfl) (fun _ _ => rfl)) (fun _ => rfl)))) (fun _ =>
      (g_pre (R2 := [.ow _, .da _, .nd, .da _, .da _]) rfl (g_ret (g := fun _ => (_, _)) ri_fn (eo_v (ev_o (eo_op (eb_v (ev_o (eo_a (ea_cons (eb_v (ev_o (eo_op (eb_nm rfl rfl) (fun _ => (eb_v ev_c)) (fun _ _ => rfl) (fun _ _ => rfl)) (fun _ => rfl))) (fun _ => ea_nil)) (fun _ => rfl)) (fun _ => rfl))) (fun _ => (eb_nm rfl rfl)) (fun _ _ => rfl) (fun _ _ => rfl)) (fun _ => rfl))) (fun _ => rfl) (fun _ => rfl)))))))))))))))))⟩
def f_law_draw (a0 : List D) (a1 : D) : Z (D × List D) := (r_law_draw a0 a1).1
theorem fx_law_draw (a0 : List D) (a1 : D) : FX m_law_draw [.ow a0, .da a1] (f_law_draw a0 a1) (p2 (fun r0 r1 => .da r0)) (p2 (fun r0 r1 => [.ow r1, .da a1])) [.sm, .da a1] := (r_law_draw a0 a1).2
abbrev ms_law_dealt : List Mk := [.s, .k, .a, .a, .a]
@[irreducible] def r_law_dealt (a0 : List D) (a1 : D) : {z : Z (D × List D) // FX m_law_dealt [.ow a0, .da a1] z (p2 (fun r0 r1 => .da r0)) (p2 (fun r0 r1 => [.ow r1, .da a1])) [.sm, .da a1]} := ⟨_, fx_fn (X := [.sm, .da a1, .any, .any, .any]) rfl rfl
      (g_pre (R2 := [.ow _, .da _, .nd, .nd, .nd]) rfl (g_seq (g_asg (eo_own (eo_a (ea_cons (eb_nm rfl rfl) (fun _ => ea_nil)) (fun _ => rfl)))) (fun _ =>
      (g_pre (R2 := [.ow _, .da _, .ow _, .nd, .nd]) rfl (g_seq (g_asg (eo_lst ed_nil)) (fun _ =>
      (g_pre (R2 := [.ow _, .da _, .ow _, .ow _, .nd]) rfl (g_seq (g_for (up := (fun (R : Rg) => p3 (fun (s0 : List D) (s1 : List D) (s2 : List D) => ((((R.set 0 (.ow s0)).set 2 (.ow s1)).set 3 (.ow s2)).set 4 .nd)))) (i0 := fun _ => (_, _, _)) (ms := [.k, .k, .k, .k, .n]) (ei_R1 (ed_cons (ev_o (eo_a (ea_cons (eb_nm rfl rfl) (fun _ => ea_nil)) (fun _ => rfl)) (fun _ => rfl)) (fun _ => ed_nil))) (fun _ => rfl) (fun _ _ _ => eg_nm) (fun _ _ _ _ =>
      (g_pre (R2 := [.ow _, .da _, .ow _, .ow _, .da _]) rfl (g_last (g_seq (g_drop (eo_app (eo_lm (ed_cons (ev_o (eo_call (ea_cons (eb_nm rfl rfl) (fun _ => (ea_cons (eb_v (ev_o (eo_a (ea_cons (eb_nm rfl rfl) (fun _ => ea_nil)) (fun _ => rfl)) (fun _ => rfl))) (fun _ => ea_nil)))) (fun _ => rfl) (fun _ => fx_law_draw _ _) (fun _ => (subM (ms := ms_law_dealt) rfl))) (fun _ => rfl)) (fun _ => ed_nil)) rfl (fun _ => rfl)) rfl (fun _ => rfl) (fun _ => rfl))) (fun _ =>
      (g_pre (R2 := [.ow _, .da _, .ow _, .ow _, .da _]) rfl (g_bd (ms := [.k, .k, .k, .k, .n]) (s := (_, _, _)) rfl)))))))) (fun _ =>
      (g_pre (R2 := [.ow _, .da _, .ow _, .ow _, .nd]) rfl (g_ret (g := fun _ => (_, _)) ri_fn (eo_v (ev_fz rfl)) (fun _ => rfl) (fun _ => rfl))))))))))))⟩
def f_law_dealt (a0 : List D) (a1 : D) : Z (D × List D) := (r_law_dealt a0 a1).1
theorem fx_law_dealt (a0 : List D) (a1 : D) : FX m_law_dealt [.ow a0, .da a1] (f_law_dealt a0 a1) (p2 (fun r0 r1 => .da r0)) (p2 (fun r0 r1 => [.ow r1, .da a1])) [.sm, .da a1] := (r_law_dealt a0 a1).2
abbrev ms_law_pick : List Mk := [.s, .k]
@[irreducible] def r_law_pick (a0 : List D) (a1 : D) : {z : Z (D × List D) // FX m_law_pick [.ow a0, .da a1] z (p2 (fun r0 r1 => .da r0)) (p2 (fun r0 r1 => [.ow r1, .da a1])) [.sm, .da a1]} := ⟨_, fx_fn (X := [.sm, .da a1]) rfl rfl
      (g_pre (R2 := [.ow _, .da _]) rfl (g_ret (g := fun _ => (_, _)) ri_fn (eo_v (ev_o (eo_op (eb_nm rfl rfl) (fun _ => (eb_v (ev_o (eo_call (ea_cons (eb_nm rfl rfl) (fun _ => (ea_cons (eb_v (ev_o (eo_a (ea_cons (eb_nm rfl rfl) (fun _ => ea_nil)) (fun _ => rfl)) (fun _ => rfl))) (fun _ => ea_nil)))) (fun _ => rfl) (fun _ => fx_law_draw _ _) (fun _ => (subM (ms := ms_law_pick) rfl))) (fun _ => rfl)))) (fun _ _ => rfl) (fun _ _ => rfl)) (fun _ => rfl))) (fun _ => rfl) (fun _ => rfl)))⟩
def f_law_pick (a0 : List D) (a1 : D) : Z (D × List D) := (r_law_pick a0 a1).1
theorem fx_law_pick (a0 : List D) (a1 : D) : FX m_law_pick [.ow a0, .da a1] (f_law_pick a0 a1) (p2 (fun r0 r1 => .da r0)) (p2 (fun r0 r1 => [.ow r1, .da a1])) [.sm, .da a1] := (r_law_pick a0 a1).2
abbrev ms_law_some_counts : List Mk := [.s, .a, .a, .a, .a]
@[irreducible] def r_law_some_counts (a0 : List D) : {z : Z (D × List D) // FX m_law_some_counts [.ow a0] z (p2 (fun r0 r1 => .da r0)) (p2 (fun r0 r1 => [.ow r1])) [.sm]} := ⟨_, fx_fn (X := [.sm, .any, .any, .any, .any]) rfl rfl
      (g_pre (R2 := [.ow _, .nd, .nd, .nd, .nd]) rfl (g_seq (g_asg (eo_v (ev_o (eo_op (eb_v ev_c) (fun _ => (eb_v (ev_o (eo_call (ea_cons (eb_nm rfl rfl) (fun _ => (ea_cons (eb_v ev_c) (fun _ => ea_nil)))) (fun _ => rfl) (fun _ => fx_law_draw _ _) (fun _ => (subM (ms := ms_law_some_counts) rfl))) (fun _ => rfl)))) (fun _ _ => rfl) (fun _ _ => rfl)) (fun _ => rfl)))) (fun _ =>
      (g_pre (R2 := [.ow _, .da _, .nd, .nd, .nd]) rfl (g_ifK (et_tst (ev_o (eo_op (eb_v (ev_o (eo_call (ea_cons (eb_nm rfl rfl) (fun _ => (ea_cons (eb_v ev_c) (fun _ => ea_nil)))) (fun _ => rfl) (fun _ => fx_law_draw _ _) (fun _ => (subM (ms := ms_law_some_counts) rfl))) (fun _ => rfl))) (fun _ => (eb_v ev_c)) (fun _ _ => rfl) (fun _ _ => rfl)) (fun _ => rfl))) (fun _ => (g_pre (R2 := [.ow _, .da _, .nd, .nd, .nd]) rfl (g_termK nn_ret (g_ret (g := fun _ => (_, _)) ri_fn (eo_call (ea_cons (eb_nm rfl rfl) (fun _ => (ea_cons (eb_v (ev_o (eo_lc (up := (fun (R : Rg) (s : Unit) => R)) (i0 := fun _ => ()) (nt := fun _ _ _ _ _ => ()) (nx := fun _ _ _ _ _ _ => ()) (ei_R1 (ed_cons (ev_nm rfl) (fun _ => ed_nil))) (fun _ => rfl) (fun _ => rfl) (fun _ _ => rfl) (fun _ _ _ => eg_nm) (fun _ _ _ _ => (ex_pre (R2 := [.ow _, .da _, .da _, .nd, .nd]) rfl et_yes)) (fun _ _ _ _ _ => (eo_pre (R2 := [.ow _, .da _, .da _, .nd, .nd]) rfl (eo_v (ev_o (eo_op (eb_v ev_c) (fun _ => (eb_nm rfl rfl)) (fun _ _ => rfl) (fun _ _ => rfl)) (fun _ => rfl))))) (fun _ _ _ _ _ => rfl) (fun _ _ _ _ _ _ => rfl)) (fun _ => rfl))) (fun _ => ea_nil)))) (fun _ => rfl) (fun _ => fx_law_dealt _ _) (fun _ => (subM (ms := ms_law_some_counts) rfl))) (fun _ => rfl) (fun _ => rfl))))) (fun _ => (g_nilK (g_pre (R2 := [.ow _, .da _, .nd, .nd, .nd]) rfl (g_pre (R2 := [.ow _, .da _, .nd, .nd, .nd]) rfl (g_seq (g_asg (eo_call (ea_cons (eb_nm rfl rfl) (fun _ => (ea_cons (eb_v (ev_o (eo_lst (ed_cons ev_c (fun _ => (ed_cons ev_c (fun _ => (ed_cons ev_c (fun _ => (ed_cons ev_c (fun _ => (ed_cons (ev_o (eo_op (eb_v (ev_o (eo_op (eb_v ev_c) (fun _ => (eb_v ev_c)) (fun _ _ => rfl) (fun _ _ => rfl)) (fun _ => rfl))) (fun _ => (eb_v ev_c)) (fun _ _ => rfl) (fun _ _ => rfl)) (fun _ => rfl)) (fun _ => ed_nil))))))))))) (fun _ => rfl))) (fun _ => ea_nil)))) (fun _ => rfl) (fun _ => fx_law_pick _ _) (fun _ => (subM (ms := ms_law_some_counts) rfl)))) (fun _ =>
      (g_pre (R2 := [.ow _, .da _, .nd, .da _, .nd]) rfl (g_seq (g_asg (eo_lst ed_nil)) (fun _ =>
      (g_pre (R2 := [.ow _, .da _, .nd, .da _, .ow _]) rfl (g_seq (g_for (up := (fun (R : Rg) => p2 (fun (s0 : List D) (s1 : List D) => (((R.set 0 (.ow s0)).set 4 (.ow s1)).set 2 .nd)))) (i0 := fun _ => (_, _)) (ms := [.k, .k, .n, .k, .k]) (ei_R1 (ed_cons (ev_nm rfl) (fun _ => ed_nil))) (fun _ => rfl) (fun _ _ _ => eg_nm) (fun _ _ _ _ =>
      (g_pre (R2 := [.ow _, .da _, .da _, .da _, .ow _]) rfl (g_last (g_seq (g_ifJ (up := (fun (R : Rg) => p2 (fun (s0 : List D) (s1 : List D) => ((R.set 0 (.ow s0)).set 4 (.ow s1))))) (et_andE (up := (fun (R : Rg) (s0 : List D) => (R.set 0 (.ow s0)))) (ms := [.k, .k, .k, .k, .k]) (g0 := fun _ => _) (g := fun _ _ => _) (et_tst (ev_o (eo_op (eb_nm rfl rfl) (fun _ => (eb_v ev_c)) (fun _ _ => rfl) (fun _ _ => rfl)) (fun _ => rfl))) (fun _ => (et_tst (ev_o (eo_op (eb_v (ev_o (eo_call (ea_cons (eb_nm rfl rfl) (fun _ => (ea_cons (eb_v ev_c) (fun _ => ea_nil)))) (fun _ => rfl) (fun _ => fx_law_draw _ _) (fun _ => (subM (ms := ms_law_some_counts) rfl))) (fun _ => rfl))) (fun _ => (eb_v ev_c)) (fun _ _ => rfl) (fun _ _ => rfl)) (fun _ => rfl)))) (fun _ => rfl) (fun _ _ => rfl)) (fun _ => (g_pre (R2 := [.ow _, .da _, .da _, .da _, .ow _]) rfl (g_last (g_seq (g_drop (eo_app (eo_v (ev_o (eo_op (eb_nm rfl rfl) (fun _ => (eb_v (ev_o (eo_u (eb_v ev_c) (fun _ => rfl)) (fun _ => rfl)))) (fun _ _ => rfl) (fun _ _ => rfl)) (fun _ => rfl))) rfl (fun _ => rfl) (fun _ => rfl))) (fun _ =>
      (g_pre (R2 := [.ow _, .da _, .da _, .da _, .ow _]) rfl (g_nx (ms := [.k, .k, .k, .k, .k]) (s := (_, _)) rfl))))))) (fun _ => (g_pre (R2 := [.ow _, .da _, .da _, .da _, .ow _]) rfl (g_last (g_seq (g_drop (eo_app (eo_call (ea_cons (eb_nm rfl rfl) (fun _ => (ea_cons (eb_v (ev_nm rfl)) (fun _ => ea_nil)))) (fun _ => rfl) (fun _ => fx_law_draw _ _) (fun _ => (subM (ms := ms_law_some_counts) rfl))) rfl (fun _ => rfl) (fun _ => rfl))) (fun _ =>
      (g_pre (R2 := [.ow _, .da _, .da _, .da _, .ow _]) rfl (g_nx (ms := [.k, .k, .k, .k, .k]) (s := (_, _)) rfl)))))))) (fun _ =>
      (g_pre (R2 := [.ow _, .da _, .da _, .da _, .ow _]) rfl (g_bd (ms := [.k, .k, .n, .k, .k]) (s := (_, _)) rfl)))))))) (fun _ =>
      (g_pre (R2 := [.ow _, .da _, .nd, .da _, .ow _]) rfl (g_ret (g := fun _ => (_, _)) ri_fn (eo_v (ev_fz rfl)) (fun _ => rfl) (fun _ => rfl))))))))))))))))))))⟩
def f_law_some_counts (a0 : List D) : Z (D × List D) := (r_law_some_counts a0).1
theorem fx_law_some_counts (a0 : List D) : FX m_law_some_counts [.ow a0] (f_law_some_counts a0) (p2 (fun r0 r1 => .da r0)) (p2 (fun r0 r1 => [.ow r1])) [.sm] := (r_law_some_counts a0).2
@[irreducible] def r_law_drawer (a0 : D) (a1 : D) : {z : Z (List D) // FX m_law_drawer [.da a0, .da a1] z (fun r0 => .ow r0) (fun _ => [.da a0, .da a1]) [.da a0, .da a1]} := ⟨_, fx_fn (X := [.da a0, .da a1, .any, .any]) rfl rfl
      (g_pre (R2 := [.da _, .da _, .nd, .nd]) rfl (g_seq (g_asg (eo_v ev_c)) (fun _ =>
      (g_pre (R2 := [.da _, .da _, .da _, .nd]) rfl (g_seq (g_ifJ (up := (fun (R : Rg) (s0 : D) => (R.set 2 (.da s0)))) (et_tst (ev_o (eo_op (eb_nm rfl rfl) (fun _ => (eb_v (ev_o (eo_a (ea_cons (eb_nm rfl rfl) (fun _ => ea_nil)) (fun _ => rfl)) (fun _ => rfl)))) (fun _ _ => rfl) (fun _ _ => rfl)) (fun _ => rfl))) (fun _ => (g_pre (R2 := [.da _, .da _, .da _, .nd]) rfl (g_last (g_seq (g_asg (eo_v (ev_o (eo_a (ea_cons (eb_v (ev_o (eo_op (eb_nm rfl rfl) (fun _ => (eb_nm rfl rfl)) (fun _ _ => rfl) (fun _ _ => rfl)) (fun _ => rfl))) (fun _ => ea_nil)) (fun _ => rfl)) (fun _ => rfl)))) (fun _ =>
      (g_pre (R2 := [.da _, .da _, .da _, .nd]) rfl (g_nx (ms := [.k, .k, .k, .k]) (s := _) rfl))))))) (fun _ => (g_pre (R2 := [.da _, .da _, .da _, .nd]) rfl (g_nx (ms := [.k, .k, .k, .k]) (s := _) rfl)))) (fun _ =>
      (g_pre (R2 := [.da _, .da _, .da _, .nd]) rfl (g_seq (g_asg (eo_v (ev_o (eo_op (eb_v (ev_o (eo_a (ea_cons (eb_v (ev_o (eo_op (eb_v (ev_o (eo_op (eb_nm rfl rfl) (fun _ => (eb_v (ev_o (eo_op (eb_v ev_c) (fun _ => (eb_nm rfl rfl)) (fun _ _ => rfl) (fun _ _ => rfl)) (fun _ => rfl)))) (fun _ _ => rfl) (fun _ _ => rfl)) (fun _ => rfl))) (fun _ => (eb_v ev_c)) (fun _ _ => rfl) (fun _ _ => rfl)) (fun _ => rfl))) (fun _ => ea_nil)) (fun _ => rfl)) (fun _ => rfl))) (fun _ => (eb_v ev_c)) (fun _ _ => rfl) (fun _ _ => rfl)) (fun _ => rfl)))) (fun _ =>
      (g_pre (R2 := [.da _, .da _, .da _, .da _]) rfl (g_ifK (et_tst (ev_o (eo_op (eb_nm rfl rfl) (fun _ => (eb_v (ev_o (eo_op (eb_v ev_c) (fun _ => (eb_v ev_c)) (fun _ _ => rfl) (fun _ _ => rfl)) (fun _ => rfl)))) (fun _ _ => rfl) (fun _ _ => rfl)) (fun _ => rfl))) (fun _ => (g_pre (R2 := [.da _, .da _, .da _, .da _]) rfl (g_termK nn_ret (g_ret (g := fun _ => _) ri_fn (eo_lst (ed_cons (ev_o (eo_op (eb_nm rfl rfl) (fun _ => (eb_v (ev_o (eo_op (eb_v ev_c) (fun _ => (eb_v ev_c)) (fun _ _ => rfl) (fun _ _ => rfl)) (fun _ => rfl)))) (fun _ _ => rfl) (fun _ _ => rfl)) (fun _ => rfl)) (fun _ => (ed_cons (ev_nm rfl) (fun _ => (ed_cons ev_c (fun _ => ed_nil))))))) (fun _ => rfl) (fun _ => rfl))))) (fun _ => (g_nilK (g_pre (R2 := [.da _, .da _, .da _, .da _]) rfl (g_pre (R2 := [.da _, .da _, .da _, .da _]) rfl (g_ret (g := fun _ => _) ri_fn (eo_lst (ed_cons ev_c (fun _ => (ed_cons (ev_nm rfl) (fun _ => (ed_cons ev_c (fun _ => ed_nil))))))) (fun _ => rfl) (fun _ => rfl)))))))))))))))))⟩
def f_law_drawer (a0 : D) (a1 : D) : Z (List D) := (r_law_drawer a0 a1).1
theorem fx_law_drawer (a0 : D) (a1 : D) : FX m_law_drawer [.da a0, .da a1] (f_law_drawer a0 a1) (fun r0 => .ow r0) (fun _ => [.da a0, .da a1]) [.da a0, .da a1] := (r_law_drawer a0 a1).2
abbrev ms_law_complete : List Mk := [.s, .k, .a, .a, .a]
@[irreducible] def r_law_complete (a0 : List D) (a1 : D) : {z : Z (D × List D) // FX m_law_complete [.ow a0, .da a1] z (p2 (fun r0 r1 => .da r0)) (p2 (fun r0 r1 => [.ow r1, .da a1])) [.sm, .da a1]} := ⟨_, fx_fn (X := [.sm, .da a1, .any, .any, .any]) rfl rfl
      (g_pre (R2 := [.ow _, .da _, .nd, .nd, .nd]) rfl (g_seq (g_asg (eo_lst (ed_cons ev_c (fun _ => ed_nil)))) (fun _ =>
      (g_pre (R2 := [.ow _, .da _, .ow _, .nd, .nd]) rfl (g_seq (g_for (up := (fun (R : Rg) => p2 (fun (s0 : List D) (s1 : List D) => ((((R.set 0 (.ow s0)).set 2 (.ow s1)).set 3 .nd).set 4 .nd)))) (i0 := fun _ => (_, _)) (ms := [.k, .k, .k, .n, .n]) (ei_R1 (ed_cons (ev_o (eo_op (eb_nm rfl rfl) (fun _ => (eb_v ev_c)) (fun _ _ => rfl) (fun _ _ => rfl)) (fun _ => rfl)) (fun _ => ed_nil))) (fun _ => rfl) (fun _ _ _ => eg_nm) (fun _ _ _ _ =>
      (g_pre (R2 := [.ow _, .da _, .ow _, .da _, .nd]) rfl (g_seq (g_asg (eo_call (ea_cons (eb_nm rfl rfl) (fun _ => (ea_cons (eb_v (ev_o (eo_a (ea_cons (eb_nm rfl rfl) (fun _ => ea_nil)) (fun _ => rfl)) (fun _ => rfl))) (fun _ => ea_nil)))) (fun _ => rfl) (fun _ => fx_law_draw _ _) (fun _ => (subM (ms := ms_law_complete) rfl)))) (fun _ =>
      (g_pre (R2 := [.ow _, .da _, .ow _, .da _, .da _]) rfl (g_seq (g_put (eo_v (ev_o (eo_op (eb_v (ev_o (eo_op (eb_nm rfl rfl) (fun _ => (eb_nm rfl rfl)) (fun _ _ => rfl) (fun _ _ => rfl)) (fun _ => rfl))) (fun _ => (eb_v ev_c)) (fun _ _ => rfl) (fun _ _ => rfl)) (fun _ => rfl))) (fun _ => rfl) (fun _ => rfl) (fun _ => (eq_nmD rfl))) (fun _ =>
      (g_pre (R2 := [.ow _, .da _, .ow _, .da _, .da _]) rfl (g_last (g_seq (g_drop (eo_app (eo_v (ev_o (eo_op (eb_nm rfl rfl) (fun _ => (eb_nm rfl rfl)) (fun _ _ => rfl) (fun _ _ => rfl)) (fun _ => rfl))) rfl (fun _ => rfl) (fun _ => rfl))) (fun _ =>
      (g_pre (R2 := [.ow _, .da _, .ow _, .da _, .da _]) rfl (g_bd (ms := [.k, .k, .k, .n, .n]) (s := (_, _)) rfl)))))))))))))) (fun _ =>
      (g_pre (R2 := [.ow _, .da _, .ow _, .nd, .nd]) rfl (g_ret (g := fun _ => (_, _)) ri_fn (eo_v (ev_fz rfl)) (fun _ => rfl) (fun _ => rfl)))))))))⟩
def f_law_complete (a0 : List D) (a1 : D) : Z (D × List D) := (r_law_complete a0 a1).1
theorem fx_law_complete (a0 : List D) (a1 : D) : FX m_law_complete [.ow a0, .da a1] (f_law_complete a0 a1) (p2 (fun r0 r1 => .da r0)) (p2 (fun r0 r1 => [.ow r1, .da a1])) [.sm, .da a1] := (r_law_complete a0 a1).2
@[irreducible] def r_least_lengths (a0 : D) : {z : Z (D) // FX m_least_lengths [.da a0] z (fun r0 => .da r0) (fun _ => [.da a0]) [.da a0]} := ⟨_, fx_fn (X := [.da a0, .any, .any, .any, .any, .any, .any, .any, .any, .any]) rfl rfl
      (g_pre (R2 := [.da _, .nd, .nd, .nd, .nd, .nd, .nd, .nd, .nd, .nd]) rfl (g_seq (g_asg (eo_own (eo_op (eb_v (ev_o (eo_lst (ed_cons ev_c (fun _ => ed_nil))) (fun _ => rfl))) (fun _ => (eb_v (ev_o (eo_a (ea_cons (eb_nm rfl rfl) (fun _ => ea_nil)) (fun _ => rfl)) (fun _ => rfl)))) (fun _ _ => rfl) (fun _ _ => rfl)))) (fun _ =>
      (g_pre (R2 := [.da _, .ow _, .nd, .nd, .nd, .nd, .nd, .nd, .nd, .nd]) rfl (g_seq (g_asg (eo_v (ev_o (eo_lc (up := (fun (R : Rg) (s : Unit) => R)) (i0 := fun _ => ()) (nt := fun _ _ _ _ _ => ()) (nx := fun _ _ _ _ _ _ => ()) (ei_en (ed_cons (ev_nm rfl) (fun _ => ed_nil))) (fun _ => rfl) (fun _ => rfl) (fun _ _ => rfl) (fun _ _ _ => (eg_tp (fun _ => (egs_cons (fun _ => eg_nm) (fun _ _ _ => (egs_cons (fun _ => eg_nm) (fun _ _ _ => egs_nil))))))) (fun _ _ _ _ => (ex_pre (R2 := [.da _, .ow _, .da _, .nd, .nd, .nd, .nd, .nd, .nd, .da _]) rfl et_yes)) (fun _ _ _ _ _ => (eo_pre (R2 := [.da _, .ow _, .da _, .nd, .nd, .nd, .nd, .nd, .nd, .da _]) rfl (eo_v (ev_tup (ed_cons (ev_nm rfl) (fun _ => (ed_cons (ev_nm rfl) (fun _ => (ed_cons (ev_tup (ed_cons (ev_nm rfl) (fun _ => ed_nil))) (fun _ => ed_nil)))))))))) (fun _ _ _ _ _ => rfl) (fun _ _ _ _ _ _ => rfl)) (fun _ => rfl)))) (fun _ =>
      (g_pre (R2 := [.da _, .ow _, .nd, .da _, .nd, .nd, .nd, .nd, .nd, .nd]) rfl (g_seq (g_noret (g_while (up := (fun (R : Rg) => p2 (fun (s0 : List D) (s1 : D) => ((((((((R.set 1 (.ow s0)).set 3 (.da s1)).set 2 .nd).set 4 .nd).set 5 .nd).set 6 .nd).set 7 .nd).set 8 .nd)))) (i0 := (_, _)) (ms := [.k, .k, .n, .k, .n, .n, .n, .n, .n, .k]) (RR := fun (r : Empty) _ => r.elim) (fun r => r.elim) rfl (fun _ => (et_tst (ev_o (eo_op (eb_v (ev_o (eo_a (ea_cons (eb_nm rfl rfl) (fun _ => ea_nil)) (fun _ => rfl)) (fun _ => rfl))) (fun _ => (eb_v ev_c)) (fun _ _ => rfl) (fun _ _ => rfl)) (fun _ => rfl)))) (fun _ _ => rfl) (fun _ =>
      (g_pre (R2 := [.da _, .ow _, .nd, .da _, .nd, .nd, .nd, .nd, .nd, .nd]) rfl (g_seq (g_asg (eo_v (ev_o (eo_a (ea_cons (eb_nm rfl rfl) (fun _ => ea_nil)) (fun _ => rfl)) (fun _ => rfl)))) (fun _ =>
      (g_pre (R2 := [.da _, .ow _, .nd, .da _, .da _, .nd, .nd, .nd, .nd, .nd]) rfl (g_seq (g_par (ed_cons (ev_o (eo_op (eb_nm rfl rfl) (fun _ => (eb_v ev_c)) (fun _ _ => rfl) (fun _ _ => rfl)) (fun _ => rfl)) (fun _ => (ed_cons (ev_o (eo_op (eb_nm rfl rfl) (fun _ => (eb_v ev_c)) (fun _ _ => rfl) (fun _ _ => rfl)) (fun _ => rfl)) (fun _ => ed_nil)))) (fun _ => rfl)) (fun _ =>
      (g_pre (R2 := [.da _, .ow _, .nd, .da _, .da _, .da _, .da _, .nd, .nd, .nd]) rfl (g_seq (g_asg (eo_v (ev_o (eo_op (eb_v (ev_o (eo_op (eb_nm rfl rfl) (fun _ => (eb_v ev_c)) (fun _ _ => rfl) (fun _ _ => rfl)) (fun _ => rfl))) (fun _ => (eb_v (ev_o (eo_op (eb_nm rfl rfl) (fun _ => (eb_v ev_c)) (fun _ _ => rfl) (fun _ _ => rfl)) (fun _ => rfl)))) (fun _ _ => rfl) (fun _ _ => rfl)) (fun _ => rfl)))) (fun _ =>
      (g_pre (R2 := [.da _, .ow _, .nd, .da _, .da _, .da _, .da _, .da _, .nd, .nd]) rfl (g_seq (g_for (up := (fun (R : Rg) (s0 : List D) => ((R.set 1 (.ow s0)).set 2 .nd))) (i0 := fun _ => _) (ms := [.k, .k, .n, .k, .k, .k, .k, .k, .k, .k]) (ei_it (ev_nm rfl)) (fun _ => rfl) (fun _ _ _ => eg_nm) (fun _ _ _ _ =>
      (g_pre (R2 := [.da _, .ow _, .da _, .da _, .da _, .da _, .da _, .da _, .nd, .nd]) rfl (g_last (g_seq (g_augS rfl (eo_v (ev_nm rfl)) (fun _ => rfl) (fun _ => rfl) (fun _ => eq_c)) (fun _ =>
      (g_pre (R2 := [.da _, .ow _, .da _, .da _, .da _, .da _, .da _, .da _, .nd, .nd]) rfl (g_bd (ms := [.k, .k, .n, .k, .k, .k, .k, .k, .k, .k]) (s := _) rfl)))))))) (fun _ =>
      (g_pre (R2 := [.da _, .ow _, .nd, .da _, .da _, .da _, .da _, .da _, .nd, .nd]) rfl (g_seq (g_asg (eo_v (ev_tup (ed_cons (ev_o (eo_op (eb_v (ev_o (eo_op (eb_nm rfl rfl) (fun _ => (eb_v ev_c)) (fun _ _ => rfl) (fun _ _ => rfl)) (fun _ => rfl))) (fun _ => (eb_v (ev_o (eo_op (eb_nm rfl rfl) (fun _ => (eb_v ev_c)) (fun _ _ => rfl) (fun _ _ => rfl)) (fun _ => rfl)))) (fun _ _ => rfl) (fun _ _ => rfl)) (fun _ => rfl)) (fun _ => (ed_cons (ev_o (eo_a (ea_cons (eb_v (ev_o (eo_op (eb_nm rfl rfl) (fun _ => (eb_v ev_c)) (fun _ _ => rfl) (fun _ _ => rfl)) (fun _ => rfl))) (fun _ => (ea_cons (eb_v (ev_o (eo_op (eb_nm rfl rfl) (fun _ => (eb_v ev_c)) (fun _ _ => rfl) (fun _ _ => rfl)) (fun _ => rfl))) (fun _ => ea_nil)))) (fun _ => rfl)) (fun _ => rfl)) (fun _ => (ed_cons (ev_nm rfl) (fun _ => ed_nil))))))))) (fun _ =>
      (g_pre (R2 := [.da _, .ow _, .nd, .da _, .da _, .da _, .da _, .da _, .da _, .nd]) rfl (g_last (g_seq (g_asg (eo_v (ev_o (eo_lst (ed_star (ev_o (eo_sl (eb_nm rfl rfl) (fun _ => (ep_some ev_c)) (fun _ _ => ep_no) (fun _ _ _ => rfl)) (fun _ => rfl)) (fun _ _ => (ed_cons (ev_nm rfl) (fun _ => ed_nil))))) (fun _ => rfl)))) (fun _ =>
      (g_pre (R2 := [.da _, .ow _, .nd, .da _, .da _, .da _, .da _, .da _, .da _, .nd]) rfl (g_go (ms := [.k, .k, .n, .k, .n, .n, .n, .n, .n, .k]) (s := (_, _)) rfl)))))))))))))))))))))))) (fun _ =>
      (g_pre (R2 := [.da _, .ow _, .nd, .da _, .nd, .nd, .nd, .nd, .nd, .nd]) rfl (g_ret (g := fun _ => _) ri_fn (eo_v (ev_o (eo_a (ea_cons (eb_nm rfl rfl) (fun _ => ea_nil)) (fun _ => rfl)) (fun _ => rfl))) (fun _ => rfl) (fun _ => rfl))))))))))))⟩
def f_least_lengths (a0 : D) : Z (D) := (r_least_lengths a0).1
theorem fx_least_lengths (a0 : D) : FX m_least_lengths [.da a0] (f_least_lengths a0) (fun r0 => .da r0) (fun _ => [.da a0]) [.da a0] := (r_least_lengths a0).2
@[irreducible] def r_law_int (a0 : D) : {z : Z (D) // FX m_law_int [.da a0] z (fun r0 => .da r0) (fun _ => [.da a0]) [.da a0]} := ⟨_, fx_fn (X := [.da a0]) rfl rfl
      (g_pre (R2 := [.da _]) rfl (g_ret (g := fun _ => _) ri_fn (eo_v (ev_and (ev_o (eo_a (ea_cons (eb_nm rfl rfl) (fun _ => (ea_cons (eb_v ev_c) (fun _ => ea_nil)))) (fun _ => rfl)) (fun _ => rfl)) (fun _ => (ev_not (ev_o (eo_a (ea_cons (eb_nm rfl rfl) (fun _ => (ea_cons (eb_v ev_c) (fun _ => ea_nil)))) (fun _ => rfl)) (fun _ => rfl)))) (fun _ _ => rfl))) (fun _ => rfl) (fun _ => rfl)))⟩
def f_law_int (a0 : D) : Z (D) := (r_law_int a0).1
theorem fx_law_int (a0 : D) : FX m_law_int [.da a0] (f_law_int a0) (fun r0 => .da r0) (fun _ => [.da a0]) [.da a0] := (r_law_int a0).2
abbrev ms_law_complete_ones : List Mk := [.k, .k, .a, .a]
@[irreducible] def r_law_complete_ones (a0 : D) (a1 : D) : {z : Z (D) // FX m_law_complete_ones [.da a0, .da a1] z (fun r0 => .da r0) (fun _ => [.da a0, .da a1]) [.da a0, .da a1]} := ⟨_, fx_fn (X := [.da a0, .da a1, .any, .any]) rfl rfl
      (g_pre (R2 := [.da _, .da _, .nd, .nd]) rfl (g_ifK (et_or (et_not (et_tru (eb_v (ev_o (eo_a (ea_cons (eb_nm rfl rfl) (fun _ => (ea_cons (eb_v ev_c) (fun _ => ea_nil)))) (fun _ => rfl)) (fun _ => rfl))) (fun _ => rfl))) (fun _ => (et_tst (ev_o (eo_op (eb_v (ev_o (eo_a (ea_cons (eb_nm rfl rfl) (fun _ => ea_nil)) (fun _ => rfl)) (fun _ => rfl))) (fun _ => (eb_nm rfl rfl)) (fun _ _ => rfl) (fun _ _ => rfl)) (fun _ => rfl)))) (fun _ _ => rfl)) (fun _ => (g_pre (R2 := [.da _, .da _, .nd, .nd]) rfl (g_termK nn_ret (g_ret (g := fun _ => _) ri_fn (eo_v ev_c) (fun _ => rfl) (fun _ => rfl))))) (fun _ => (g_nilK (g_pre (R2 := [.da _, .da _, .nd, .nd]) rfl (g_pre (R2 := [.da _, .da _, .nd, .nd]) rfl (g_seq (g_asg (eo_v ev_c)) (fun _ =>
      (g_pre (R2 := [.da _, .da _, .da _, .nd]) rfl (g_seqF (g_forF (up := (fun (R : Rg) (s0 : D) => ((R.set 2 (.da s0)).set 3 .nd))) (i0 := fun _ => _) (ms := [.k, .k, .k, .n]) rtR_ret (ei_it (ev_nm rfl)) (fun _ => rfl) (fun _ _ _ => eg_nm) (fun _ _ _ _ =>
      (g_pre (R2 := [.da _, .da _, .da _, .da _]) rfl (g_ifK (et_or (et_not (et_tru (eb_v (ev_o (eo_call (ea_cons (eb_v (ev_nm rfl)) (fun _ => ea_nil)) (fun _ => rfl) (fun _ => fx_law_int _) (fun _ => (subM (ms := ms_law_complete_ones) rfl))) (fun _ => rfl))) (fun _ => rfl))) (fun _ => (et_not (et_tst (ev_chain (eb_v ev_c) (fun _ => (eb_nm rfl rfl)) (fun _ _ => (eb_v ev_c)) (fun _ _ _ => rfl) (fun _ _ => rfl) (fun _ _ => rfl) (fun _ _ _ => rfl) (fun _ _ _ => rfl))))) (fun _ _ => rfl)) (fun _ => (g_pre (R2 := [.da _, .da _, .da _, .da _]) rfl (g_termK nn_ret (g_ret (g := fun _ => _) ri_fl (eo_v ev_c) (fun _ => rfl) (fun _ => rfl))))) (fun _ => (g_nilK (g_pre (R2 := [.da _, .da _, .da _, .da _]) rfl (g_pre (R2 := [.da _, .da _, .da _, .da _]) rfl (g_last (g_seq (g_asg (eo_v (ev_o (eo_op (eb_nm rfl rfl) (fun _ => (eb_v (ev_o (eo_op (eb_v ev_c) (fun _ => (eb_nm rfl rfl)) (fun _ _ => rfl) (fun _ _ => rfl)) (fun _ => rfl)))) (fun _ _ => rfl) (fun _ _ => rfl)) (fun _ => rfl)))) (fun _ =>
      (g_pre (R2 := [.da _, .da _, .da _, .da _]) rfl (g_go (ms := [.k, .k, .k, .n]) (s := _) rfl))))))))))))) rtR_nn ri_fn (fun _ =>
      (g_pre (R2 := [.da _, .da _, .da _, .nd]) rfl (g_ret (g := fun _ => _) ri_fn (eo_v (ev_o (eo_op (eb_nm rfl rfl) (fun _ => (eb_v ev_c)) (fun _ _ => rfl) (fun _ _ => rfl)) (fun _ => rfl))) (fun _ => rfl) (fun _ => rfl))))))))))))))⟩
def f_law_complete_ones (a0 : D) (a1 : D) : Z (D) := (r_law_complete_ones a0 a1).1
theorem fx_law_complete_ones (a0 : D) (a1 : D) : FX m_law_complete_ones [.da a0, .da a1] (f_law_complete_ones a0 a1) (fun r0 => .da r0) (fun _ => [.da a0, .da a1]) [.da a0, .da a1] := (r_law_complete_ones a0 a1).2
abbrev ms_law_same : List Mk := [.k, .k, .a]
@[irreducible] def r1_law_same (n : Nat) (ih : (a0 : D) → (a1 : D) → {z : Z (D) // FX (m_law_same n) [.da a0, .da a1] z (fun r0 => .da r0) (fun _ => [.da a0, .da a1]) [.da a0, .da a1]}) (a0 : D) (a1 : D) : {z : Z (D) // FX (m_law_same (n + 1)) [.da a0, .da a1] z (fun r0 => .da r0) (fun _ => [.da a0, .da a1]) [.da a0, .da a1]} := ⟨_, fx_fn (X := [.da a0, .da a1, .any]) rfl rfl
      (g_pre (R2 := [.da _, .da _, .nd]) rfl (g_ifK (et_tst (ev_o (eo_op (eb_nm rfl rfl) (fun _ => (eb_v ev_c)) (fun _ _ => rfl) (fun _ _ => rfl)) (fun _ => rfl))) (fun _ => (g_pre (R2 := [.da _, .da _, .nd]) rfl (g_termK nn_ret (g_ret (g := fun _ => _) ri_fn (eo_v (ev_o (eo_op (eb_nm rfl rfl) (fun _ => (eb_v ev_c)) (fun _ _ => rfl) (fun _ _ => rfl)) (fun _ => rfl))) (fun _ => rfl) (fun _ => rfl))))) (fun _ => (g_nilK (g_pre (R2 := [.da _, .da _, .nd]) rfl (g_pre (R2 := [.da _, .da _, .nd]) rfl (g_ifK (et_tst (ev_o (eo_op (eb_nm rfl rfl) (fun _ => (eb_v ev_c)) (fun _ _ => rfl) (fun _ _ => rfl)) (fun _ => rfl))) (fun _ => (g_pre (R2 := [.da _, .da _, .nd]) rfl (g_termK nn_ret (g_ret (g := fun _ => _) ri_fn (eo_v (ev_o (eo_op (eb_nm rfl rfl) (fun _ => (eb_v ev_c)) (fun _ _ => rfl) (fun _ _ => rfl)) (fun _ => rfl))) (fun _ => rfl) (fun _ => rfl))))) (fun _ => (g_nilK (g_pre (R2 := [.da _, .da _, .nd]) rfl (g_pre (R2 := [.da _, .da _, .nd]) rfl (g_ifK (et_tst (ev_o (eo_op (eb_nm rfl rfl) (fun _ => (eb_v ev_c)) (fun _ _ => rfl) (fun _ _ => rfl)) (fun _ => rfl))) (fun _ => (g_pre (R2 := [.da _, .da _, .nd]) rfl (g_termK nn_ret (g_ret (g := fun _ => _) ri_fn (eo_v (ev_o (eo_op (eb_nm rfl rfl) (fun _ => (eb_v ev_c)) (fun _ _ => rfl) (fun _ _ => rfl)) (fun _ => rfl))) (fun _ => rfl) (fun _ => rfl))))) (fun _ => (g_nilK (g_pre (R2 := [.da _, .da _, .nd]) rfl (g_pre (R2 := [.da _, .da _, .nd]) rfl (g_ifK (et_tru (eb_v (ev_o (eo_a (ea_cons (eb_nm rfl rfl) (fun _ => (ea_cons (eb_v ev_c) (fun _ => ea_nil)))) (fun _ => rfl)) (fun _ => rfl))) (fun _ => rfl)) (fun _ => (g_pre (R2 := [.da _, .da _, .nd]) rfl (g_termK nn_ret (g_ret (g := fun _ => _) ri_fn (eo_v (ev_and (ev_o (eo_call (ea_cons (eb_v (ev_nm rfl)) (fun _ => ea_nil)) (fun _ => rfl) (fun _ => fx_law_int _) (fun _ => (subM (ms := ms_law_same) rfl))) (fun _ => rfl)) (fun _ => (ev_o (eo_op (eb_nm rfl rfl) (fun _ => (eb_nm rfl rfl)) (fun _ _ => rfl) (fun _ _ => rfl)) (fun _ => rfl))) (fun _ _ => rfl))) (fun _ => rfl) (fun _ => rfl))))) (fun _ => (g_nilK (g_pre (R2 := [.da _, .da _, .nd]) rfl (g_pre (R2 := [.da _, .da _, .nd]) rfl (g_ifK (et_tru (eb_v (ev_o (eo_a (ea_cons (eb_nm rfl rfl) (fun _ => (ea_cons (eb_v ev_c) (fun _ => ea_nil)))) (fun _ => rfl)) (fun _ => rfl))) (fun _ => rfl)) (fun _ => (g_pre (R2 := [.da _, .da _, .nd]) rfl (g_termK nn_ret (g_ret (g := fun _ => _) ri_fn (eo_v (ev_and (ev_o (eo_a (ea_cons (eb_nm rfl rfl) (fun _ => (ea_cons (eb_v ev_c) (fun _ => ea_nil)))) (fun _ => rfl)) (fun _ => rfl)) (fun _ => (ev_o (eo_op (eb_nm rfl rfl) (fun _ => (eb_nm rfl rfl)) (fun _ _ => rfl) (fun _ _ => rfl)) (fun _ => rfl))) (fun _ _ => rfl))) (fun _ => rfl) (fun _ => rfl))))) (fun _ => (g_nilK (g_pre (R2 := [.da _, .da _, .nd]) rfl (g_pre (R2 := [.da _, .da _, .nd]) rfl (g_ifK (et_tru (eb_v (ev_o (eo_a (ea_cons (eb_nm rfl rfl) (fun _ => (ea_cons (eb_v ev_c) (fun _ => ea_nil)))) (fun _ => rfl)) (fun _ => rfl))) (fun _ => rfl)) (fun _ => (g_pre (R2 := [.da _, .da _, .nd]) rfl (g_ifK (et_not (et_tru (eb_v (ev_o (eo_a (ea_cons (eb_nm rfl rfl) (fun _ => (ea_cons (eb_v ev_c) (fun _ => ea_nil)))) (fun _ => rfl)) (fun _ => rfl))) (fun _ => rfl))) (fun _ => (g_pre (R2 := [.da _, .da _, .nd]) rfl (g_termK nn_ret (g_ret (g := fun _ => _) ri_fn (eo_v ev_c) (fun _ => rfl) (fun _ => rfl))))) (fun _ => (g_nilK (g_pre (R2 := [.da _, .da _, .nd]) rfl (g_pre (R2 := [.da _, .da _, .nd]) rfl (g_pre (R2 := [.da _, .da _, .nd]) rfl (g_ifK (et_tst (ev_o (eo_op (eb_v (ev_o (eo_a (ea_cons (eb_nm rfl rfl) (fun _ => ea_nil)) (fun _ => rfl)) (fun _ => rfl))) (fun _ => (eb_v (ev_o (eo_a (ea_cons (eb_nm rfl rfl) (fun _ => ea_nil)) (fun _ => rfl)) (fun _ => rfl)))) (fun _ _ => rfl) (fun _ _ => rfl)) (fun _ => rfl))) (fun _ => (g_pre (R2 := [.da _, .da _, .nd]) rfl (g_termK nn_ret (g_ret (g := fun _ => _) ri_fn (eo_v ev_c) (fun _ => rfl) (fun _ => rfl))))) (fun _ => (g_nilK (g_pre (R2 := [.da _, .da _, .nd]) rfl (g_pre (R2 := [.da _, .da _, .nd]) rfl (g_seqF (g_forF (up := (fun (R : Rg) (s : Unit) => (R.set 2 .nd))) (i0 := fun _ => ()) (ms := [.k, .k, .n]) rtR_ret (ei_R1 (ed_cons (ev_o (eo_a (ea_cons (eb_nm rfl rfl) (fun _ => ea_nil)) (fun _ => rfl)) (fun _ => rfl)) (fun _ => ed_nil))) (fun _ => rfl) (fun _ _ _ => eg_nm) (fun _ _ _ _ =>
      (g_pre (R2 := [.da _, .da _, .da _]) rfl (g_if (et_not (et_tru (eb_v (ev_o (eo_call (ea_cons (eb_v (ev_o (eo_op (eb_nm rfl rfl) (fun _ => (eb_nm rfl rfl)) (fun _ _ => rfl) (fun _ _ => rfl)) (fun _ => rfl))) (fun _ => (ea_cons (eb_v (ev_o (eo_op (eb_nm rfl rfl) (fun _ => (eb_nm rfl rfl)) (fun _ _ => rfl) (fun _ _ => rfl)) (fun _ => rfl))) (fun _ => ea_nil)))) (fun _ => rfl) (fun _ => (ih _ _).2) (fun _ => (subM (ms := ms_law_same) rfl))) (fun _ => rfl))) (fun _ => rfl))) (fun _ => (g_pre (R2 := [.da _, .da _, .da _]) rfl (g_ret (g := fun _ => _) ri_fl (eo_v ev_c) (fun _ => rfl) (fun _ => rfl)))) (fun _ => (g_pre (R2 := [.da _, .da _, .da _]) rfl (g_pre (R2 := [.da _, .da _, .da _]) rfl (g_go (ms := [.k, .k, .n]) (s := ()) rfl)))))))) rtR_nn ri_fn (fun _ =>
      (g_pre (R2 := [.da _, .da _, .nd]) rfl (g_ret (g := fun _ => _) ri_fn (eo_v ev_c) (fun _ => rfl) (fun _ => rfl)))))))))))))))))) (fun _ => (g_pre (R2 := [.da _, .da _, .nd]) rfl (g_ifK (et_not (et_tru (eb_v (ev_o (eo_a (ea_cons (eb_nm rfl rfl) (fun _ => (ea_cons (eb_v ev_c) (fun _ => ea_nil)))) (fun _ => rfl)) (fun _ => rfl))) (fun _ => rfl))) (fun _ => (g_pre (R2 := [.da _, .da _, .nd]) rfl (g_termK nn_ret (g_ret (g := fun _ => _) ri_fn (eo_v ev_c) (fun _ => rfl) (fun _ => rfl))))) (fun _ => (g_nilK (g_pre (R2 := [.da _, .da _, .nd]) rfl (g_pre (R2 := [.da _, .da _, .nd]) rfl (g_pre (R2 := [.da _, .da _, .nd]) rfl (g_ifK (et_tst (ev_o (eo_op (eb_v (ev_o (eo_a (ea_cons (eb_nm rfl rfl) (fun _ => ea_nil)) (fun _ => rfl)) (fun _ => rfl))) (fun _ => (eb_v (ev_o (eo_a (ea_cons (eb_nm rfl rfl) (fun _ => ea_nil)) (fun _ => rfl)) (fun _ => rfl)))) (fun _ _ => rfl) (fun _ _ => rfl)) (fun _ => rfl))) (fun _ => (g_pre (R2 := [.da _, .da _, .nd]) rfl (g_termK nn_ret (g_ret (g := fun _ => _) ri_fn (eo_v ev_c) (fun _ => rfl) (fun _ => rfl))))) (fun _ => (g_nilK (g_pre (R2 := [.da _, .da _, .nd]) rfl (g_pre (R2 := [.da _, .da _, .nd]) rfl (g_seqF (g_forF (up := (fun (R : Rg) (s : Unit) => (R.set 2 .nd))) (i0 := fun _ => ()) (ms := [.k, .k, .n]) rtR_ret (ei_R1 (ed_cons (ev_o (eo_a (ea_cons (eb_nm rfl rfl) (fun _ => ea_nil)) (fun _ => rfl)) (fun _ => rfl)) (fun _ => ed_nil))) (fun _ => rfl) (fun _ _ _ => eg_nm) (fun _ _ _ _ =>
      (g_pre (R2 := [.da _, .da _, .da _]) rfl (g_if (et_not (et_tru (eb_v (ev_o (eo_call (ea_cons (eb_v (ev_o (eo_op (eb_nm rfl rfl) (fun _ => (eb_nm rfl rfl)) (fun _ _ => rfl) (fun _ _ => rfl)) (fun _ => rfl))) (fun _ => (ea_cons (eb_v (ev_o (eo_op (eb_nm rfl rfl) (fun _ => (eb_nm rfl rfl)) (fun _ _ => rfl) (fun _ _ => rfl)) (fun _ => rfl))) (fun _ => ea_nil)))) (fun _ => rfl) (fun _ => (ih _ _).2) (fun _ => (subM (ms := ms_law_same) rfl))) (fun _ => rfl))) (fun _ => rfl))) (fun _ => (g_pre (R2 := [.da _, .da _, .da _]) rfl (g_ret (g := fun _ => _) ri_fl (eo_v ev_c) (fun _ => rfl) (fun _ => rfl)))) (fun _ => (g_pre (R2 := [.da _, .da _, .da _]) rfl (g_pre (R2 := [.da _, .da _, .da _]) rfl (g_go (ms := [.k, .k, .n]) (s := ()) rfl)))))))) rtR_nn ri_fn (fun _ =>
      (g_pre (R2 := [.da _, .da _, .nd]) rfl (g_ret (g := fun _ => _) ri_fn (eo_v ev_c) (fun _ => rfl) (fun _ => rfl)))))))))))))))))))))))))))))))))))))))))))))⟩
def r_law_same : (n : Nat) → (a0 : D) → (a1 : D) → {z : Z (D) // FX (m_law_same n) [.da a0, .da a1] z (fun r0 => .da r0) (fun _ => [.da a0, .da a1]) [.da a0, .da a1]}
  | 0, _, _ => ⟨.stuck, ⟨fun _ _ => trivial⟩⟩
  | n + 1, a0, a1 => r1_law_same n (r_law_same n) a0 a1
def f_law_same (n : Nat) (a0 : D) (a1 : D) : Z (D) := (r_law_same n a0 a1).1
theorem fx_law_same (n : Nat) (a0 : D) (a1 : D) : FX (m_law_same n) [.da a0, .da a1] (f_law_same n a0 a1) (fun r0 => .da r0) (fun _ => [.da a0, .da a1]) [.da a0, .da a1] := (r_law_same n a0 a1).2
@[irreducible] def r_law_cost (a0 : D) (a1 : D) : {z : Z (D) // FX m_law_cost [.da a0, .da a1] z (fun r0 => .da r0) (fun _ => [.da a0, .da a1]) [.da a0, .da a1]} := ⟨_, fx_fn (X := [.da a0, .da a1, .any]) rfl rfl
      (g_pre (R2 := [.da _, .da _, .nd]) rfl (g_ret (g := fun _ => _) ri_fn (eo_v (ev_o (eo_a (ea_cons (eb_v (ev_o (eo_lc (up := (fun (R : Rg) (s : Unit) => R)) (i0 := fun _ => ()) (nt := fun _ _ _ _ _ => ()) (nx := fun _ _ _ _ _ _ => ()) (ei_R1 (ed_cons (ev_o (eo_a (ea_cons (eb_nm rfl rfl) (fun _ => ea_nil)) (fun _ => rfl)) (fun _ => rfl)) (fun _ => ed_nil))) (fun _ => rfl) (fun _ => rfl) (fun _ _ => rfl) (fun _ _ _ => eg_nm) (fun _ _ _ _ => (ex_pre (R2 := [.da _, .da _, .da _]) rfl et_yes)) (fun _ _ _ _ _ => (eo_pre (R2 := [.da _, .da _, .da _]) rfl (eo_v (ev_o (eo_op (eb_v (ev_o (eo_op (eb_nm rfl rfl) (fun _ => (eb_nm rfl rfl)) (fun _ _ => rfl) (fun _ _ => rfl)) (fun _ => rfl))) (fun _ => (eb_v (ev_o (eo_op (eb_nm rfl rfl) (fun _ => (eb_nm rfl rfl)) (fun _ _ => rfl) (fun _ _ => rfl)) (fun _ => rfl)))) (fun _ _ => rfl) (fun _ _ => rfl)) (fun _ => rfl))))) (fun _ _ _ _ _ => rfl) (fun _ _ _ _ _ _ => rfl)) (fun _ => rfl))) (fun _ => ea_nil)) (fun _ => rfl)) (fun _ => rfl))) (fun _ => rfl) (fun _ => rfl)))⟩
def f_law_cost (a0 : D) (a1 : D) : Z (D) := (r_law_cost a0 a1).1
theorem fx_law_cost (a0 : D) (a1 : D) : FX m_law_cost [.da a0, .da a1] (f_law_cost a0 a1) (fun r0 => .da r0) (fun _ => [.da a0, .da a1]) [.da a0, .da a1] := (r_law_cost a0 a1).2
@[irreducible] def r_law_joined (a0 : D) : {z : Z (D) // FX m_law_joined [.da a0] z (fun r0 => .da r0) (fun _ => [.da a0]) [.da a0]} := ⟨_, fx_fn (X := [.da a0, .any, .any, .any, .any, .any, .any, .any, .any, .any, .any, .any, .any, .any]) rfl rfl
      (g_pre (R2 := [.da _, .nd, .nd, .nd, .nd, .nd, .nd, .nd, .nd, .nd, .nd, .nd, .nd, .nd]) rfl (g_seq (g_asg (eo_own (eo_a (ea_cons (eb_nm rfl rfl) (fun _ => ea_nil)) (fun _ => rfl)))) (fun _ =>
      (g_pre (R2 := [.da _, .ow _, .nd, .nd, .nd, .nd, .nd, .nd, .nd, .nd, .nd, .nd, .nd, .nd]) rfl (g_seq (g_asg (eo_lstRg (er_1 (ev_o (eo_a (ea_cons (eb_nm rfl rfl) (fun _ => ea_nil)) (fun _ => rfl)) (fun _ => rfl))))) (fun _ =>
      (g_pre (R2 := [.da _, .ow _, .ow _, .nd, .nd, .nd, .nd, .nd, .nd, .nd, .nd, .nd, .nd, .nd]) rfl (g_seq (g_asg (eo_lc (up := (fun (R : Rg) (s : Unit) => R)) (i0 := fun _ => ()) (nt := fun _ _ _ _ _ => ()) (nx := fun _ _ _ _ _ _ => ()) (ei_it (ev_nm rfl)) (fun _ => rfl) (fun _ => rfl) (fun _ _ => rfl) (fun _ _ _ => eg_nm) (fun _ _ _ _ => (ex_pre (R2 := [.da _, .ow _, .ow _, .nd, .nd, .nd, .nd, .nd, .nd, .nd, .nd, .nd, .nd, .da _]) rfl et_yes)) (fun _ _ _ _ _ => (eo_pre (R2 := [.da _, .ow _, .ow _, .nd, .nd, .nd, .nd, .nd, .nd, .nd, .nd, .nd, .nd, .da _]) rfl (eo_v (ev_o (eo_u (eb_v ev_c) (fun _ => rfl)) (fun _ => rfl))))) (fun _ _ _ _ _ => rfl) (fun _ _ _ _ _ _ => rfl))) (fun _ =>
      (g_pre (R2 := [.da _, .ow _, .ow _, .ow _, .nd, .nd, .nd, .nd, .nd, .nd, .nd, .nd, .nd, .nd]) rfl (g_seq (g_asg (eo_v (ev_o (eo_lstRg (er_1 (ev_o (eo_a (ea_cons (eb_nm rfl rfl) (fun _ => ea_nil)) (fun _ => rfl)) (fun _ => rfl)))) (fun _ => rfl)))) (fun _ =>
      (g_pre (R2 := [.da _, .ow _, .ow _, .ow _, .da _, .nd, .nd, .nd, .nd, .nd, .nd, .nd, .nd, .nd]) rfl (g_seq (g_for (up := (fun (R : Rg) => p4 (fun (s0 : List D) (s1 : List D) (s2 : List D) (s3 : D) => ((((((((R.set 1 (.ow s0)).set 2 (.ow s1)).set 3 (.ow s2)).set 4 (.da s3)).set 5 .nd).set 7 .nd).set 8 .nd).set 9 .nd)))) (i0 := fun _ => (_, _, _, _)) (ms := [.k, .k, .k, .k, .k, .n, .k, .n, .n, .n, .k, .k, .k, .k]) (ei_R1 (ed_cons (ev_o (eo_op (eb_v (ev_o (eo_a (ea_cons (eb_nm rfl rfl) (fun _ => ea_nil)) (fun _ => rfl)) (fun _ => rfl))) (fun _ => (eb_v ev_c)) (fun _ _ => rfl) (fun _ _ => rfl)) (fun _ => rfl)) (fun _ => ed_nil))) (fun _ => rfl) (fun _ _ _ => eg_nm) (fun _ _ _ _ =>
      (g_pre (R2 := [.da _, .ow _, .ow _, .ow _, .da _, .da _, .nd, .nd, .nd, .nd, .nd, .nd, .nd, .nd]) rfl (g_seq (g_asg (eo_v (ev_o (eo_a (ea_cons (eb_v (ev_o (eo_lc (up := (fun (R : Rg) (s : Unit) => R)) (i0 := fun _ => ()) (nt := fun _ _ _ _ _ => ()) (nx := fun _ _ _ _ _ _ => ()) (ei_it (ev_nm rfl)) (fun _ => rfl) (fun _ => rfl) (fun _ _ => rfl) (fun _ _ _ => eg_nm) (fun _ _ _ _ => (ex_pre (R2 := [.da _, .ow _, .ow _, .ow _, .da _, .da _, .da _, .nd, .nd, .nd, .nd, .nd, .nd, .nd]) rfl et_yes)) (fun _ _ _ _ _ => (eo_pre (R2 := [.da _, .ow _, .ow _, .ow _, .da _, .da _, .da _, .nd, .nd, .nd, .nd, .nd, .nd, .nd]) rfl (eo_v (ev_tup (ed_cons (ev_o (eo_op (eb_nm rfl rfl) (fun _ => (eb_nm rfl rfl)) (fun _ _ => rfl) (fun _ _ => rfl)) (fun _ => rfl)) (fun _ => (ed_cons (ev_o (eo_op (eb_nm rfl rfl) (fun _ => (eb_nm rfl rfl)) (fun _ _ => rfl) (fun _ _ => rfl)) (fun _ => rfl)) (fun _ => (ed_cons (ev_nm rfl) (fun _ => ed_nil)))))))))) (fun _ _ _ _ _ => rfl) (fun _ _ _ _ _ _ => rfl)) (fun _ => rfl))) (fun _ => ea_nil)) (fun _ => rfl)) (fun _ => rfl)))) (fun _ =>
      (g_pre (R2 := [.da _, .ow _, .ow _, .ow _, .da _, .da _, .nd, .da _, .nd, .nd, .nd, .nd, .nd, .nd]) rfl (g_seq (g_asg (eo_v (ev_o (eo_op (eb_v (ev_o (eo_op (eb_nm rfl rfl) (fun _ => (eb_v ev_c)) (fun _ _ => rfl) (fun _ _ => rfl)) (fun _ => rfl))) (fun _ => (eb_v ev_c)) (fun _ _ => rfl) (fun _ _ => rfl)) (fun _ => rfl)))) (fun _ =>
      (g_pre (R2 := [.da _, .ow _, .ow _, .ow _, .da _, .da _, .nd, .da _, .da _, .nd, .nd, .nd, .nd, .nd]) rfl (g_seq (g_asg (eo_v (ev_o (eo_op (eb_v (ev_o (eo_op (eb_nm rfl rfl) (fun _ => (eb_v ev_c)) (fun _ _ => rfl) (fun _ _ => rfl)) (fun _ => rfl))) (fun _ => (eb_v ev_c)) (fun _ _ => rfl) (fun _ _ => rfl)) (fun _ => rfl)))) (fun _ =>
      (g_pre (R2 := [.da _, .ow _, .ow _, .ow _, .da _, .da _, .nd, .da _, .da _, .da _, .nd, .nd, .nd, .nd]) rfl (g_seq (g_put (eo_v (ev_o (eo_a (ea_cons (eb_nm rfl rfl) (fun _ => ea_nil)) (fun _ => rfl)) (fun _ => rfl))) (fun _ => rfl) (fun _ => rfl) (fun _ => (eq_nmD rfl))) (fun _ =>
      (g_pre (R2 := [.da _, .ow _, .ow _, .ow _, .da _, .da _, .nd, .da _, .da _, .da _, .nd, .nd, .nd, .nd]) rfl (g_seq (g_put (eo_v (ev_o (eo_a (ea_cons (eb_nm rfl rfl) (fun _ => ea_nil)) (fun _ => rfl)) (fun _ => rfl))) (fun _ => rfl) (fun _ => rfl) (fun _ => (eq_nmD rfl))) (fun _ =>
      (g_pre (R2 := [.da _, .ow _, .ow _, .ow _, .da _, .da _, .nd, .da _, .da _, .da _, .nd, .nd, .nd, .nd]) rfl (g_seq (g_asg (eo_v (ev_o (eo_op (eb_v (ev_o (eo_lc (up := (fun (R : Rg) (s : Unit) => R)) (i0 := fun _ => ()) (nt := fun _ _ _ _ _ => ()) (nx := fun _ _ _ _ _ _ => ()) (ei_it (ev_nm rfl)) (fun _ => rfl) (fun _ => rfl) (fun _ _ => rfl) (fun _ _ _ => eg_nm) (fun _ _ _ _ => (ex_pre (R2 := [.da _, .ow _, .ow _, .ow _, .da _, .da _, .da _, .da _, .da _, .da _, .nd, .nd, .nd, .nd]) rfl (et_and (et_tst (ev_o (eo_op (eb_nm rfl rfl) (fun _ => (eb_nm rfl rfl)) (fun _ _ => rfl) (fun _ _ => rfl)) (fun _ => rfl))) (fun _ => (et_tst (ev_o (eo_op (eb_nm rfl rfl) (fun _ => (eb_nm rfl rfl)) (fun _ _ => rfl) (fun _ _ => rfl)) (fun _ => rfl)))) (fun _ _ => rfl)))) (fun _ _ _ _ _ => (eo_pre (R2 := [.da _, .ow _, .ow _, .ow _, .da _, .da _, .da _, .da _, .da _, .da _, .nd, .nd, .nd, .nd]) rfl (eo_v (ev_nm rfl)))) (fun _ _ _ _ _ => rfl) (fun _ _ _ _ _ _ => rfl)) (fun _ => rfl))) (fun _ => (eb_v (ev_o (eo_lst (ed_cons (ev_o (eo_a (ea_cons (eb_nm rfl rfl) (fun _ => ea_nil)) (fun _ => rfl)) (fun _ => rfl)) (fun _ => ed_nil))) (fun _ => rfl)))) (fun _ _ => rfl) (fun _ _ => rfl)) (fun _ => rfl)))) (fun _ =>
      (g_pre (R2 := [.da _, .ow _, .ow _, .ow _, .da _, .da _, .nd, .da _, .da _, .da _, .nd, .nd, .nd, .nd]) rfl (g_seq (g_drop (eo_app (eo_v (ev_o (eo_op (eb_v (ev_o (eo_op (eb_nm rfl rfl) (fun _ => (eb_nm rfl rfl)) (fun _ _ => rfl) (fun _ _ => rfl)) (fun _ => rfl))) (fun _ => (eb_v (ev_o (eo_op (eb_nm rfl rfl) (fun _ => (eb_nm rfl rfl)) (fun _ _ => rfl) (fun _ _ => rfl)) (fun _ => rfl)))) (fun _ _ => rfl) (fun _ _ => rfl)) (fun _ => rfl))) rfl (fun _ => rfl) (fun _ => rfl))) (fun _ =>
      (g_pre (R2 := [.da _, .ow _, .ow _, .ow _, .da _, .da _, .nd, .da _, .da _, .da _, .nd, .nd, .nd, .nd]) rfl (g_seq (g_drop (eo_app (eo_v (ev_o (eo_a (ea_cons (eb_v (ev_o (eo_op (eb_nm rfl rfl) (fun _ => (eb_nm rfl rfl)) (fun _ _ => rfl) (fun _ _ => rfl)) (fun _ => rfl))) (fun _ => (ea_cons (eb_v (ev_o (eo_op (eb_nm rfl rfl) (fun _ => (eb_nm rfl rfl)) (fun _ _ => rfl) (fun _ _ => rfl)) (fun _ => rfl))) (fun _ => ea_nil)))) (fun _ => rfl)) (fun _ => rfl))) rfl (fun _ => rfl) (fun _ => rfl))) (fun _ =>
      (g_pre (R2 := [.da _, .ow _, .ow _, .ow _, .da _, .da _, .nd, .da _, .da _, .da _, .nd, .nd, .nd, .nd]) rfl (g_last (g_seq (g_drop (eo_app (eo_v (ev_o (eo_u (eb_v ev_c) (fun _ => rfl)) (fun _ => rfl))) rfl (fun _ => rfl) (fun _ => rfl))) (fun _ =>
      (g_pre (R2 := [.da _, .ow _, .ow _, .ow _, .da _, .da _, .nd, .da _, .da _, .da _, .nd, .nd, .nd, .nd]) rfl (g_bd (ms := [.k, .k, .k, .k, .k, .n, .k, .n, .n, .n, .k, .k, .k, .k]) (s := (_, _, _, _)) rfl)))))))))))))))))))))))))))))))) (fun _ =>
      (g_pre (R2 := [.da _, .ow _, .ow _, .ow _, .da _, .nd, .nd, .nd, .nd, .nd, .nd, .nd, .nd, .nd]) rfl (g_seq (g_asg (eo_lst ed_nil)) (fun _ =>
      (g_pre (R2 := [.da _, .ow _, .ow _, .ow _, .da _, .nd, .nd, .nd, .nd, .nd, .ow _, .nd, .nd, .nd]) rfl (g_seq (g_for (up := (fun (R : Rg) (s0 : List D) => (((((R.set 10 (.ow s0)).set 5 .nd).set 6 .nd).set 11 .nd).set 12 .nd))) (i0 := fun _ => _) (ms := [.k, .k, .k, .k, .k, .n, .n, .k, .k, .k, .k, .n, .n, .k]) (ei_R1 (ed_cons (ev_o (eo_a (ea_cons (eb_nm rfl rfl) (fun _ => ea_nil)) (fun _ => rfl)) (fun _ => rfl)) (fun _ => ed_nil))) (fun _ => rfl) (fun _ _ _ => eg_nm) (fun _ _ _ _ =>
      (g_pre (R2 := [.da _, .ow _, .ow _, .ow _, .da _, .nd, .nd, .nd, .nd, .nd, .ow _, .da _, .nd, .nd]) rfl (g_seq (g_asg (eo_v ev_c)) (fun _ =>
      (g_pre (R2 := [.da _, .ow _, .ow _, .ow _, .da _, .nd, .nd, .nd, .nd, .nd, .ow _, .da _, .da _, .nd]) rfl (g_seq (g_asg (eo_v (ev_nm rfl))) (fun _ =>
      (g_pre (R2 := [.da _, .ow _, .ow _, .ow _, .da _, .nd, .da _, .nd, .nd, .nd, .ow _, .da _, .da _, .nd]) rfl (g_seq (g_for (up := (fun (R : Rg) => p2 (fun (s0 : D) (s1 : D) => (((R.set 6 (.da s0)).set 12 (.da s1)).set 5 .nd)))) (i0 := fun _ => (_, _)) (ms := [.k, .k, .k, .k, .k, .n, .k, .k, .k, .k, .k, .k, .k, .k]) (ei_R1 (ed_cons (ev_o (eo_a (ea_cons (eb_nm rfl rfl) (fun _ => ea_nil)) (fun _ => rfl)) (fun _ => rfl)) (fun _ => ed_nil))) (fun _ => rfl) (fun _ _ _ => eg_nm) (fun _ _ _ _ =>
      (g_pre (R2 := [.da _, .ow _, .ow _, .ow _, .da _, .da _, .da _, .nd, .nd, .nd, .ow _, .da _, .da _, .nd]) rfl (g_last (g_seq (g_ifJ (up := (fun (R : Rg) => p2 (fun (s0 : D) (s1 : D) => ((R.set 6 (.da s0)).set 12 (.da s1))))) (et_tst (ev_o (eo_op (eb_v (ev_o (eo_op (eb_nm rfl rfl) (fun _ => (eb_nm rfl rfl)) (fun _ _ => rfl) (fun _ _ => rfl)) (fun _ => rfl))) (fun _ => (eb_v ev_c)) (fun _ _ => rfl) (fun _ _ => rfl)) (fun _ => rfl))) (fun _ => (g_pre (R2 := [.da _, .ow _, .ow _, .ow _, .da _, .da _, .da _, .nd, .nd, .nd, .ow _, .da _, .da _, .nd]) rfl (g_seq (g_asg (eo_v (ev_o (eo_op (eb_nm rfl rfl) (fun _ => (eb_nm rfl rfl)) (fun _ _ => rfl) (fun _ _ => rfl)) (fun _ => rfl)))) (fun _ =>
      (g_pre (R2 := [.da _, .ow _, .ow _, .ow _, .da _, .da _, .da _, .nd, .nd, .nd, .ow _, .da _, .da _, .nd]) rfl (g_last (g_seq (g_asg (eo_v (ev_o (eo_op (eb_nm rfl rfl) (fun _ => (eb_v ev_c)) (fun _ _ => rfl) (fun _ _ => rfl)) (fun _ => rfl)))) (fun _ =>
      (g_pre (R2 := [.da _, .ow _, .ow _, .ow _, .da _, .da _, .da _, .nd, .nd, .nd, .ow _, .da _, .da _, .nd]) rfl (g_nx (ms := [.k, .k, .k, .k, .k, .k, .k, .k, .k, .k, .k, .k, .k, .k]) (s := (_, _)) rfl)))))))))) (fun _ => (g_pre (R2 := [.da _, .ow _, .ow _, .ow _, .da _, .da _, .da _, .nd, .nd, .nd, .ow _, .da _, .da _, .nd]) rfl (g_nx (ms := [.k, .k, .k, .k, .k, .k, .k, .k, .k, .k, .k, .k, .k, .k]) (s := (_, _)) rfl)))) (fun _ =>
      (g_pre (R2 := [.da _, .ow _, .ow _, .ow _, .da _, .da _, .da _, .nd, .nd, .nd, .ow _, .da _, .da _, .nd]) rfl (g_bd (ms := [.k, .k, .k, .k, .k, .n, .k, .k, .k, .k, .k, .k, .k, .k]) (s := (_, _)) rfl)))))))) (fun _ =>
      (g_pre (R2 := [.da _, .ow _, .ow _, .ow _, .da _, .nd, .da _, .nd, .nd, .nd, .ow _, .da _, .da _, .nd]) rfl (g_last (g_seq (g_drop (eo_app (eo_v (ev_nm rfl)) rfl (fun _ => rfl) (fun _ => rfl))) (fun _ =>
      (g_pre (R2 := [.da _, .ow _, .ow _, .ow _, .da _, .nd, .da _, .nd, .nd, .nd, .ow _, .da _, .da _, .nd]) rfl (g_bd (ms := [.k, .k, .k, .k, .k, .n, .n, .k, .k, .k, .k, .n, .n, .k]) (s := _) rfl))))))))))))))))) (fun _ =>
      (g_pre (R2 := [.da _, .ow _, .ow _, .ow _, .da _, .nd, .nd, .nd, .nd, .nd, .ow _, .nd, .nd, .nd]) rfl (g_ret (g := fun _ => _) ri_fn (eo_v (ev_o (eo_a (ea_cons (eb_nm rfl rfl) (fun _ => ea_nil)) (fun _ => rfl)) (fun _ => rfl))) (fun _ => rfl) (fun _ => rfl))))))))))))))))))))))))⟩
def f_law_joined (a0 : D) : Z (D) := (r_law_joined a0).1
theorem fx_law_joined (a0 : D) : FX m_law_joined [.da a0] (f_law_joined a0) (fun r0 => .da r0) (fun _ => [.da a0]) [.da a0] := (r_law_joined a0).2
abbrev ms_law_least : List Mk := [.k, .k, .a, .a]
@[irreducible] def r_law_least (a0 : D) (a1 : D) : {z : Z (D) // FX m_law_least [.da a0, .da a1] z (fun r0 => .da r0) (fun _ => [.da a0, .da a1]) [.da a0, .da a1]} := ⟨_, fx_fn (X := [.da a0, .da a1, .any, .any]) rfl rfl
      (g_pre (R2 := [.da _, .da _, .nd, .nd]) rfl (g_seq (g_asg (eo_v (ev_o (eo_a (ea_cons (eb_nm rfl rfl) (fun _ => ea_nil)) (fun _ => rfl)) (fun _ => rfl)))) (fun _ =>
      (g_pre (R2 := [.da _, .da _, .da _, .nd]) rfl (g_seq (g_asg (eo_call (ea_cons (eb_v (ev_nm rfl)) (fun _ => ea_nil)) (fun _ => rfl) (fun _ => fx_least_lengths _) (fun _ => (subM (ms := ms_law_least) rfl)))) (fun _ =>
      (g_pre (R2 := [.da _, .da _, .da _, .da _]) rfl (g_ifK (et_or (et_not (et_tru (eb_v (ev_o (eo_call (ea_cons (eb_v (ev_nm rfl)) (fun _ => (ea_cons (eb_v (ev_o (eo_a (ea_cons (eb_nm rfl rfl) (fun _ => ea_nil)) (fun _ => rfl)) (fun _ => rfl))) (fun _ => ea_nil)))) (fun _ => rfl) (fun _ => fx_law_complete_ones _ _) (fun _ => (subM (ms := ms_law_least) rfl))) (fun _ => rfl))) (fun _ => rfl))) (fun _ => (et_tst (ev_o (eo_op (eb_nm rfl rfl) (fun _ => (eb_nm rfl rfl)) (fun _ _ => rfl) (fun _ _ => rfl)) (fun _ => rfl)))) (fun _ _ => rfl)) (fun _ => (g_pre (R2 := [.da _, .da _, .da _, .da _]) rfl (g_termK nn_ret (g_ret (g := fun _ => _) ri_fn (eo_v ev_c) (fun _ => rfl) (fun _ => rfl))))) (fun _ => (g_nilK (g_pre (R2 := [.da _, .da _, .da _, .da _]) rfl (g_pre (R2 := [.da _, .da _, .da _, .da _]) rfl (g_ifK (et_not (et_tru (eb_v (ev_o (eo_call (ea_cons (eb_v (ev_o (eo_call (ea_cons (eb_v (ev_o (eo_a (ea_cons (eb_nm rfl rfl) (fun _ => ea_nil)) (fun _ => rfl)) (fun _ => rfl))) (fun _ => ea_nil)) (fun _ => rfl) (fun _ => fx_least_lengths _) (fun _ => (subM (ms := ms_law_least) rfl))) (fun _ => rfl))) (fun _ => (ea_cons (eb_v (ev_nm rfl)) (fun _ => ea_nil)))) (fun _ => rfl) (fun _ => fx_law_same 12 _ _) (fun _ => (subM (ms := ms_law_least) rfl))) (fun _ => rfl))) (fun _ => rfl))) (fun _ => (g_pre (R2 := [.da _, .da _, .da _, .da _]) rfl (g_termK nn_ret (g_ret (g := fun _ => _) ri_fn (eo_v ev_c) (fun _ => rfl) (fun _ => rfl))))) (fun _ => (g_nilK (g_pre (R2 := [.da _, .da _, .da _, .da _]) rfl (g_pre (R2 := [.da _, .da _, .da _, .da _]) rfl (g_ifK (et_tst (ev_o (eo_op (eb_v (ev_o (eo_call (ea_cons (eb_v (ev_nm rfl)) (fun _ => (ea_cons (eb_v (ev_nm rfl)) (fun _ => ea_nil)))) (fun _ => rfl) (fun _ => fx_law_cost _ _) (fun _ => (subM (ms := ms_law_least) rfl))) (fun _ => rfl))) (fun _ => (eb_v (ev_o (eo_call (ea_cons (eb_v (ev_nm rfl)) (fun _ => (ea_cons (eb_v (ev_nm rfl)) (fun _ => ea_nil)))) (fun _ => rfl) (fun _ => fx_law_cost _ _) (fun _ => (subM (ms := ms_law_least) rfl))) (fun _ => rfl)))) (fun _ _ => rfl) (fun _ _ => rfl)) (fun _ => rfl))) (fun _ => (g_pre (R2 := [.da _, .da _, .da _, .da _]) rfl (g_termK nn_ret (g_ret (g := fun _ => _) ri_fn (eo_v ev_c) (fun _ => rfl) (fun _ => rfl))))) (fun _ => (g_nilK (g_pre (R2 := [.da _, .da _, .da _, .da _]) rfl (g_pre (R2 := [.da _, .da _, .da _, .da _]) rfl (g_ret (g := fun _ => _) ri_fn (eo_call (ea_cons (eb_v (ev_nm rfl)) (fun _ => (ea_cons (eb_v (ev_o (eo_call (ea_cons (eb_v (ev_nm rfl)) (fun _ => ea_nil)) (fun _ => rfl) (fun _ => fx_law_joined _) (fun _ => (subM (ms := ms_law_least) rfl))) (fun _ => rfl))) (fun _ => ea_nil)))) (fun _ => rfl) (fun _ => fx_law_same 12 _ _) (fun _ => (subM (ms := ms_law_least) rfl))) (fun _ => rfl) (fun _ => rfl))))))))))))))))))))))))⟩
def f_law_least (a0 : D) (a1 : D) : Z (D) := (r_law_least a0 a1).1
theorem fx_law_least (a0 : D) (a1 : D) : FX m_law_least [.da a0, .da a1] (f_law_least a0 a1) (fun r0 => .da r0) (fun _ => [.da a0, .da a1]) [.da a0, .da a1] := (r_law_least a0 a1).2
abbrev ms_law : List Mk := [.k, .a, .a, .a]
@[irreducible] def r_law (a0 : D) : {z : Z (D) // FX m_law [.da a0] z (fun r0 => .da r0) (fun _ => [.da a0]) [.da a0]} := ⟨_, fx_fn (X := [.da a0, .any, .any, .any]) rfl rfl
      (g_pre (R2 := [.da _, .nd, .nd, .nd]) rfl (g_seq (g_asg (eo_v (ev_o (eo_lst (ed_cons ev_c (fun _ => (ed_cons ev_c (fun _ => (ed_cons ev_c (fun _ => (ed_cons ev_c (fun _ => ed_nil))))))))) (fun _ => rfl)))) (fun _ =>
      (g_pre (R2 := [.da _, .da _, .nd, .nd]) rfl (g_seq (g_asg (eo_v (ev_o (eo_lst (ed_cons ev_c (fun _ => (ed_cons ev_c (fun _ => (ed_cons ev_c (fun _ => (ed_cons ev_c (fun _ => ed_nil))))))))) (fun _ => rfl)))) (fun _ =>
      (g_pre (R2 := [.da _, .da _, .da _, .nd]) rfl (g_seq (g_ifJ (up := (fun (R : Rg) => p2 (fun (s0 : D) (s1 : D) => (((R.set 1 (.da s0)).set 2 (.da s1)).set 3 .any)))) (et_tst (ev_o (eo_op (eb_v (ev_o (eo_a (ea_cons (eb_nm rfl rfl) (fun _ => ea_nil)) (fun _ => rfl)) (fun _ => rfl))) (fun _ => (eb_v ev_c)) (fun _ _ => rfl) (fun _ _ => rfl)) (fun _ => rfl))) (fun _ => (g_pre (R2 := [.da _, .da _, .da _, .nd]) rfl (g_seq (g_asg (eo_callT (eo_call (ea_cons (eb_v (ev_nm rfl)) (fun _ => (ea_cons (eb_v ev_c) (fun _ => ea_nil)))) (fun _ => rfl) (fun _ => fx_law_drawer _ _) (fun _ => (subM (ms := ms_law) rfl))) (fun _ => ea_nil) (fun _ _ => rfl) (fun _ _ => fx_law_some_counts _) (fun _ _ => (subM (ms := ms_law) rfl)))) (fun _ =>
      (g_pre (R2 := [.da _, .da _, .da _, .nd]) rfl (g_seq (g_asg (eo_call (ea_cons (eb_v (ev_nm rfl)) (fun _ => (ea_cons (eb_v ev_c) (fun _ => ea_nil)))) (fun _ => rfl) (fun _ => fx_law_drawer _ _) (fun _ => (subM (ms := ms_law) rfl)))) (fun _ =>
      (g_pre (R2 := [.da _, .da _, .da _, .ow _]) rfl (g_last (g_seq (g_asg (eo_call (ea_cons (eb_nm rfl rfl) (fun _ => (ea_cons (eb_v (ev_o (eo_call (ea_cons (eb_nm rfl rfl) (fun _ => (ea_cons (eb_v (ev_o (eo_a (ea_cons (eb_nm rfl rfl) (fun _ => ea_nil)) (fun _ => rfl)) (fun _ => rfl))) (fun _ => ea_nil)))) (fun _ => rfl) (fun _ => fx_law_complete _ _) (fun _ => (subM (ms := ms_law) rfl))) (fun _ => rfl))) (fun _ => ea_nil)))) (fun _ => rfl) (fun _ => fx_law_dealt _ _) (fun _ => (subM (ms := ms_law) rfl)))) (fun _ =>
      (g_pre (R2 := [.da _, .da _, .da _, .ow _]) rfl (g_nx (ms := [.k, .k, .k, .a]) (s := (_, _)) rfl))))))))))))) (fun _ => (g_pre (R2 := [.da _, .da _, .da _, .nd]) rfl (g_nx (ms := [.k, .k, .k, .a]) (s := (_, _)) rfl)))) (fun _ =>
      (g_pre (R2 := [.da _, .da _, .da _, .any]) rfl (g_ifK (et_or (et_not (et_tru (eb_v (ev_o (eo_call (ea_cons (eb_v (ev_nm rfl)) (fun _ => (ea_cons (eb_v (ev_nm rfl)) (fun _ => ea_nil)))) (fun _ => rfl) (fun _ => fx_law_least _ _) (fun _ => (subM (ms := ms_law) rfl))) (fun _ => rfl))) (fun _ => rfl))) (fun _ => (et_not (et_tru (eb_v (ev_o (eo_call (ea_cons (eb_v (ev_o (eo_rev (eb_nm rfl rfl) (fun _ => rfl)) (fun _ => rfl))) (fun _ => (ea_cons (eb_v (ev_nm rfl)) (fun _ => ea_nil)))) (fun _ => rfl) (fun _ => fx_law_least _ _) (fun _ => (subM (ms := ms_law) rfl))) (fun _ => rfl))) (fun _ => rfl)))) (fun _ _ => rfl)) (fun _ => (g_pre (R2 := [.da _, .da _, .da _, .any]) rfl (g_termK nn_ret (g_ret (g := fun _ => _) ri_fn (eo_v ev_c) (fun _ => rfl) (fun _ => rfl))))) (fun _ => (g_nilK (g_pre (R2 := [.da _, .da _, .da _, .any]) rfl (g_pre (R2 := [.da _, .da _, .da _, .any]) rfl (g_ret (g := fun _ => _) ri_fn (eo_call (ea_cons (eb_v (ev_nm rfl)) (fun _ => (ea_cons (eb_v (ev_nm rfl)) (fun _ => ea_nil)))) (fun _ => rfl) (fun _ => fx_law_least _ _) (fun _ => (subM (ms := ms_law) rfl))) (fun _ => rfl) (fun _ => rfl)))))))))))))))))⟩
def f_law (a0 : D) : Z (D) := (r_law a0).1
theorem fx_law (a0 : D) : FX m_law [.da a0] (f_law a0) (fun r0 => .da r0) (fun _ => [.da a0]) [.da a0] := (r_law a0).2
end KL
/-! The shallow layer: reasoning about its code. -/
namespace KM
open PySem PySem.Spec PyProof.Rows L2 Evl KP
section
variable {α β γ σ φ ρ S : Type} {Q : α → Prop} {c : Prop} [Decidable c]
theorem z_bind (a : α) (k : α → Z β) : (Z.ok a).bind k = k a := rfl
theorem z_bindX (n : Str) (ns : List Str) (ds : List D) (k : α → Z β) : (Z.exc n ns ds).bind k = .exc n ns ds := rfl
theorem z_bindS (k : α → Z β) : (Z.stuck : Z α).bind k = .stuck := rfl
theorem z_assoc (z : Z α) (f : α → Z β) (g : β → Z γ) : (z.bind f).bind g = z.bind fun a => (f a).bind g := by cases z <;> rfl
theorem z_bindI (a b : Z α) (k : α → Z β) : (if c then a else b).bind k = if c then a.bind k else b.bind k := by split <;> rfl
theorem z_opt (a : α) : Z.opt (some a) = .ok a := rfl
theorem z_optN : Z.opt (none : Option α) = .stuck := rfl
theorem z_obind (o : Option α) (f : α → Option β) (k : β → Z γ) : (Z.opt (o.bind f)).bind k = (Z.opt o).bind fun a => (Z.opt (f a)).bind k := by cases o <;> rfl
theorem z_unB (b : Bool) : unB (.bl b) = some b := rfl
theorem z_unBT (b : Bool) : unBT (.val (.bl b)) = some b := rfl
theorem z_unI (i : Int) : unI (.int i) = some i := rfl
theorem z_unS (x : Str) : unS (.str x) = some x := rfl
theorem z_unL (ds : List D) : unL (.lst (leafs ds)) = some ds := unvals_leafs ds
theorem z_sbind (a : α) (f : α → Option β) : (some a).bind f = f a := rfl
theorem z_nbind (f : α → Option β) : (none : Option α).bind f = none := rfl
theorem z_smT {ds : List D} (h : ds.length ≤ 16777216) : smT ds = some (.tup ds) := if_pos h
theorem z_smL {ds : List D} (h : ds.length ≤ 16777216) : smL ds = some ds := if_pos h
theorem z_td (d : D) : toD (.val d) = d := rfl
theorem z_tdL (ds : List D) : toD (.lst (leafs ds)) = .lst ds := x_toDL ds
theorem z_unT {n : Nat} {ds : List D} (h : ds.length = n) : unT n (.tup ds) = some ds := if_pos h
theorem z_unC (d : D) (ds : List D) : unC (d :: ds) = some (d, ds) := rfl
theorem z_un0 : un0 [] = some () := rfl
theorem z_rg1 {n : Int} (h1 : -4611686018427387904 ≤ n) (h2 : n < 4611686018427387904) : rg1 [.int n] = some (rgD 0 n.toNat) := if_pos (x_in62 h1 h2)
theorem z_rg2 {a b : Int} (h1 : -4611686018427387904 ≤ a) (h2 : a < 4611686018427387904) (h3 : -4611686018427387904 ≤ b) (h4 : b < 4611686018427387904) : rg2 [.int a, .int b] = some (rgD a (b - a).toNat) := if_pos (by rw [x_in62 h1 h2, x_in62 h3 h4]; rfl)
theorem z_iterL (ds : List D) : iterD (.lst ds) = some ds := rfl
theorem z_iterT (ds : List D) : iterD (.tup ds) = some ds := rfl
theorem z_iterF (ds : List D) : iterD (.fro ds) = some ds := rfl
theorem z_iterS (z : Str) : iterD (.str z) = some (signs z) := rfl
theorem z_put {ds : List D} {j : Int} {d : D} (h : 0 ≤ j) (h2 : j < ds.length) : putZ ds (.int j) d = some (ds.set j.toNat d) := by
  unfold putZ
  dsimp only
  rw [x_ixN h h2]; rfl
theorem z_for (f : D → S → Z S) (d : D) (ds : List D) (s : S) : forZ f (d :: ds) s = (f d s).bind (forZ f ds) := rfl
theorem z_raise {c : Str} {ns : List Str} {ds : List D} (h : ds.length = ns.length) (h2 : ns.length ≤ 1000) : (raiseZ c ns ds : Z φ) = .exc c ns.reverse ds.reverse := if_pos (by rw [decide_eq_true h, decide_eq_true h2]; rfl)
theorem z_tryOk (cm : Str → Option Bool) (s : S) (h : Str → List Str → List D → Z S) : tryZ cm (.ok s) h = .ok s := rfl
theorem z_tryX {cm : Str → Option Bool} {c : Str} (hc : cm c = some true) (ns : List Str) (ds : List D) (h : Str → List Str → List D → Z S) : tryZ cm (.exc c ns ds) h = h c ns ds := by
  unfold tryZ
  dsimp only
  rw [hc]
theorem z_tryS (cm : Str → Option Bool) (h : Str → List Str → List D → Z S) : tryZ cm (.stuck) h = .stuck := rfl
theorem z_putG {dss : List (List D)} {j k : Int} {ds : List D} {d : D} (h0 : 0 ≤ j) (h : dss[j.toNat]? = some ds) (k0 : 0 ≤ k) (k1 : k < ds.length) : putG dss (.int j) (.int k) d = some (dss.set j.toNat (ds.set k.toNat d)) := by
  have hj := (List.getElem?_eq_some_iff.mp h).1
  unfold putG
  dsimp only
  rw [x_ixN h0 (by omega)]
  show ((dss[j.toNat]?).bind fun ds => (putZ ds (.int k) d).map fun ds' => dss.set j.toNat ds') = _
  rw [h]
  show (putZ ds (.int k) d).map _ = _
  rw [z_put k0 k1]; rfl
/-! ### what is asked of a result -/
theorem wp_ok (a : α) : (Z.ok a).wp Q = Q a := rfl
theorem wp_bind (z : Z β) (k : β → Z α) : (z.bind k).wp Q = z.wp fun b => (k b).wp Q := by cases z <;> rfl
theorem wp_stuck : (Z.stuck : Z α).wp Q = False := rfl
theorem wp_exc (n : Str) (ns : List Str) (ds : List D) : (Z.exc n ns ds : Z α).wp Q = False := rfl
theorem Z.wp.mono {z : Z α} {Q' : α → Prop} (h : z.wp Q') (k : ∀ a, Q' a → Q a) : z.wp Q := by
  cases z with
  | ok a => exact k a h
  | _ => exact h.elim
theorem wp_ite {a b : Z α} (h1 : c → a.wp Q) (h2 : ¬ c → b.wp Q) : (if c then a else b).wp Q := by
  split
  · exact h1 ‹_›
  · exact h2 ‹_›
theorem wp_I {a b : Z α} : (if c then a else b).wp Q ↔ (c → a.wp Q) ∧ (¬ c → b.wp Q) := by
  split
  · exact ⟨fun h => ⟨fun _ => h, fun n => absurd ‹_› n⟩, fun h => h.1 ‹_›⟩
  · exact ⟨fun h => ⟨fun n => absurd n ‹_›, fun _ => h⟩, fun h => h.2 ‹_›⟩
theorem Z.wp.ex {z : Z α} (h : z.wp Q) : ∃ a, z = .ok a ∧ Q a := by
  cases z with
  | ok a => exact ⟨a, rfl, h⟩
  | _ => exact h.elim
/-- a loop, by what holds ahead of each turn -/
theorem wp_for {f : D → S → Z S} {Q : S → Prop} (I : Nat → S → Prop) : ∀ (ds : List D) (k : Nat) (s : S), I k s → (∀ j d s, ds[j]? = some d → I (k + j) s → (f d s).wp (I (k + j + 1))) → (∀ s, I (k + ds.length) s → Q s) → (forZ f ds s).wp Q
  | [], k, s, h, _, q => q s (by simpa using h)
  | d :: ds, k, s, h, st, q => by
    rw [z_for, wp_bind]
    refine (st 0 d s rfl (by simpa using h)).mono fun s' h' => wp_for I ds (k + 1) s' (by simpa using h') (fun j e s hj hi => ?_) fun s h => q s ?_
    · have := st (j + 1) e s (by simpa using hj) (by rw [show k + (j + 1) = k + 1 + j by omega]; exact hi)
      rwa [show k + (j + 1) + 1 = k + 1 + j + 1 by omega] at this
    · rw [List.length_cons, show k + (ds.length + 1) = k + 1 + ds.length by omega]; exact h
theorem wp_forF {f : D → S → Z (Fl S ρ)} {Q : S ⊕ ρ → Prop} (I : Nat → S → Prop) : ∀ (ds : List D) (k : Nat) (s : S), I k s → (∀ j d s, ds[j]? = some d → I (k + j) s → (f d s).wp fun r => match r with | .go s => I (k + j + 1) s | .brk s => Q (.inl s) | .ret r => Q (.inr r)) → (∀ s, I (k + ds.length) s → Q (.inl s)) → (forF f ds s).wp Q
  | [], k, s, h, _, q => q s (by simpa using h)
  | d :: ds, k, s, h, st, q => by
    show ((f d s).bind (flB (forF f ds))).wp Q
    rw [wp_bind]
    refine (st 0 d s rfl (by simpa using h)).mono fun r h' => ?_
    cases r with
    | brk s => exact h'
    | ret r => exact h'
    | go s' =>
      refine wp_forF I ds (k + 1) s' (by simpa using h') (fun j e s hj hi => ?_) fun s h => q s ?_
      · have := st (j + 1) e s (by simpa using hj) (by rw [show k + (j + 1) = k + 1 + j by omega]; exact hi)
        rwa [show k + (j + 1) + 1 = k + 1 + j + 1 by omega] at this
      · rw [List.length_cons, show k + (ds.length + 1) = k + 1 + ds.length by omega]; exact h
/-- .. that keeps no state -/
theorem z_lc {f : D → Unit → Z (Option D × Unit)} {p : D → Bool} {g : D → D} : ∀ (ds acc : List D), acc.length + ds.length ≤ 16777216 → (∀ d ∈ ds, f d () = .ok (if p d = true then some (g d) else none, ())) → lcZ f ds acc () = .ok (acc ++ (ds.filter p).map g, ())
  | [], acc, _, _ => by simp [lcZ]
  | d :: ds, acc, hz, h => by
    rw [List.length_cons] at hz
    have h1 := h d List.mem_cons_self
    unfold lcZ
    rw [h1]
    cases hp : p d with
    | true =>
      rw [if_pos rfl]
      dsimp only
      rw [if_pos (by omega), z_lc ds (acc ++ [g d]) (by rw [List.length_append, List.length_singleton]; omega) fun e he => h e (List.mem_cons_of_mem _ he)]
      simp [hp]
    | false =>
      rw [if_neg (by simp)]
      dsimp only
      rw [z_lc ds acc (by omega) fun e he => h e (List.mem_cons_of_mem _ he)]
      simp [hp]
/-- .. without a test -/
theorem z_lc1 {f : D → Unit → Z (Option D × Unit)} {g : D → D} {ds : List D} (hz : ds.length ≤ 16777216) (h : ∀ d ∈ ds, f d () = .ok (some (g d), ())) : lcZ f ds [] () = .ok (ds.map g, ()) := by
  rw [z_lc (p := fun _ => true) (g := g) ds [] (by simpa using hz) fun d hd => by rw [h d hd]; rfl]
  rw [List.filter_eq_self.mpr (by simp), List.nil_append]
/-- from the law's shallow code to the mirror -/
theorem law_fin {mf : MF} {d : D} {z : Z D} {v : D → Sl} {outs : D → List Sl} {ox : List Sl} (h : FX mf [.da d] z v outs ox) (hv : ∀ r, v r = .da r) (w : z.wp fun r => r = .bl true) : ∃ os, mf [.val d] = .ok (.val (.bl true)) os := by
  have k := h.go [.val d] ⟨rfl, trivial⟩
  obtain ⟨r, hz, hr⟩ := w.ex
  rw [hz] at k
  obtain ⟨t, os, h1, h2, _⟩ := k
  rw [hv, hr] at h2
  cases (show some t = some (T.val (.bl true)) from h2)
  exact ⟨os, h1⟩
end
/-! ### drawers -/
def dr (x : Dr) : List D := dis [x.a, x.b, x.c]
/-- a drawer, whatever it holds -/
def Dw (ds : List D) : Prop := ∃ x : Dr, ds = dr x ∧ x.Ok
end KM
/-! Plain facts about rows of data. -/
namespace KM
open PySem PySem.Spec PyProof.Rows L2 Evl KP
structure Shp (w : Nat) (R : List (List Int)) : Prop where
  h0 : 0 < R.length
  h1 : R.length ≤ 1000
  w0 : 0 < w
  w1 : w ≤ 1000
  al : ∀ r ∈ R, r.length = w
theorem Shp.get {w : Nat} {R : List (List Int)} (s : Shp w R) {k : Nat} (h : k < R.length) : ∃ r, R[k]? = some r ∧ r.length = w := by
  obtain ⟨r, hr⟩ := KM.lt_get h
  exact ⟨r, hr, s.al r (List.mem_of_getElem? hr)⟩
theorem Shp.getD {w : Nat} {R : List (List Int)} (s : Shp w R) {k : Nat} (h : k < R.length) : (R.getD k []).length = w := by
  obtain ⟨r, hr, hw⟩ := s.get h
  rw [List.getD_eq_getElem?_getD, hr]
  exact hw
theorem rgD_len (a : Int) (n : Nat) : (rgD a n).length = n := by unfold rgD; simp
theorem rgD_get {n k : Nat} {d : D} (h : (rgD 0 n)[k]? = some d) : k < n ∧ d = .int (k : Nat) := by
  unfold rgD at h
  rw [List.getElem?_map] at h
  have hk : k < n := by
    rcases Nat.lt_or_ge k n with z | z
    · exact z
    · rw [List.getElem?_eq_none (by simpa using z)] at h; cases h
  rw [List.getElem?_range hk] at h
  simp at h
  exact ⟨hk, h.symm⟩
/-! ### pieces of rows -/
theorem cutD_from {ds : List D} {k : Nat} (h : k ≤ ds.length) : KM.cutD ds (some (k : Nat)) none = ds.drop k := by
  unfold KM.cutD
  rw [HT.sIx_nat, show HT.sIx ds.length ds.length none = ds.length from rfl, Nat.min_eq_left h]
  exact List.take_of_length_le (by rw [List.length_drop]; omega)
theorem Shp.set {w y : Nat} {R : List (List Int)} (s : Shp w R) (q : List Int) (hq : q.length = w) : Shp w (R.set y q) := by
  refine ⟨by rw [List.length_set]; exact s.h0, by rw [List.length_set]; exact s.h1, s.w0, s.w1, fun r hr => ?_⟩
  rcases List.mem_or_eq_of_mem_set hr with h | h
  · exact s.al r h
  · rw [h]; exact hq
/-- data of which _law_same tells -/
def sameOk : Nat → D → Bool
  | 0, _ => false
  | _ + 1, .non => true
  | _ + 1, .bl _ => true
  | _ + 1, .int _ => true
  | _ + 1, .str _ => true
  | n + 1, .tup ds => ds.all (sameOk n) && decide (ds.length ≤ 16777216)
  | n + 1, .lst ds => ds.all (sameOk n) && decide (ds.length ≤ 16777216)
  | _ + 1, _ => false
theorem ok_T {n : Nat} {ds : List D} (h : ∀ d ∈ ds, sameOk n d = true) (hz : ds.length ≤ 16777216) : sameOk (n + 1) (.tup ds) = true := by
  show (ds.all (sameOk n) && _) = true
  rw [List.all_eq_true.mpr h, decide_eq_true hz]; rfl
theorem ok_dis (n : Nat) (r : List Int) : ∀ d ∈ dis r, sameOk (n + 1) d = true := fun d hd => by
  obtain ⟨i, _, rfl⟩ := List.mem_map.mp hd
  rfl
theorem at_last {L : List D} {d : D} (h : L.getLast? = some d) : L2.atI L (-1) = some d := by
  have hl : 0 < L.length := by
    cases L with
    | nil => simp at h
    | cons a r => simp
  rw [x_atM (by decide) (by omega)]
  rw [List.getLast?_eq_getElem?] at h
  rw [← h]
  congr 1
  omega
theorem Shp.cell {w : Nat} {R : List (List Int)} (s : Shp w R) {x y : Nat} (hx : x < w) (hy : y < R.length) : ∃ r v, R[y]? = some r ∧ r.length = w ∧ r[x]? = some v := by
  obtain ⟨r, hr, hw⟩ := s.get hy
  obtain ⟨v, hv⟩ := KM.lt_get (show x < r.length by omega)
  exact ⟨r, v, hr, hw, hv⟩
theorem mul_big {i j : Int} (h1 : i.natAbs < 2 ^ 300) (h2 : j.natAbs < 2 ^ 300) : opMul (.int i) (.int j) = some (.val (.int (i * j))) := by
  show (if mulOk i j = true then _ else _) = _
  have hm : mulOk i j = true := by
    unfold mulOk
    rw [Bool.or_eq_true, Bool.or_eq_true]
    refine .inr (.inr (decide_eq_true ?_))
    have key : ∀ k : Int, k.natAbs < 2 ^ 300 → k.natAbs.log2 < 300 := fun k hk => by
      by_cases hz : k.natAbs = 0
      · rw [hz]; decide
      · exact (Nat.log2_lt hz).mpr hk
    have := key i h1
    have := key j h2
    omega
  rw [if_pos hm]
end KM
/-! Tables, in plain Lean: bits, codewords, starts, shares. -/
namespace KM
open PySem PySem.Spec PyProof.Rows L2 Evl KP
def dg (v : Int) : Str := if v % 2 = 0 then "0" else "1"
def bitG : Nat → Int → Str → Str
  | 0, _, t => t
  | n + 1, v, t => bitG n (v / 2) (dg v ++ t)
def bitS (v p : Int) : Str := bitG p.toNat v ""
/-- the codewords -/
def cwS (s : List Str × Int × Int) (p : Int × Int) : List Str × Int × Int := (s.1.set p.2.toNat (bitS (s.2.1 * 2 ^ (p.1 - s.2.2).toNat) p.1), s.2.1 * 2 ^ (p.1 - s.2.2).toNat + 1, p.1)
structure CB (n N : Nat) (t : Int) (s : List Str × Int × Int) : Prop where
  h0 : 0 ≤ s.2.1
  h1 : s.2.1 ≤ N * 2 ^ s.2.2.toNat
  h2 : 0 ≤ s.2.2
  h3 : s.2.2 ≤ t
  h4 : s.1.length = n
theorem CB.val {n N : Nat} {t : Int} {s : List Str × Int × Int} (h : CB n N t s) {l : Int} (hl : t ≤ l) : 0 ≤ s.2.1 * 2 ^ (l - s.2.2).toNat ∧ s.2.1 * 2 ^ (l - s.2.2).toNat ≤ N * 2 ^ l.toNat := by
  have p : (0 : Int) < 2 ^ (l - s.2.2).toNat := Int.pow_pos (by decide)
  have e : (2 : Int) ^ l.toNat = 2 ^ s.2.2.toNat * 2 ^ (l - s.2.2).toNat := by
    have a := h.h2
    have b := h.h3
    rw [← Int.pow_add]
    congr 1
    omega
  refine ⟨Int.mul_nonneg h.h0 (Int.le_of_lt p), ?_⟩
  rw [e, ← Int.mul_assoc]
  exact Int.mul_le_mul_of_nonneg_right h.h1 (Int.le_of_lt p)
theorem CB.step {n N : Nat} {t : Int} {s : List Str × Int × Int} (h : CB n N t s) {p : Int × Int} (hl : t ≤ p.1) : CB n (N + 1) p.1 (cwS s p) := by
  obtain ⟨a, b⟩ := h.val hl
  have c := h.h2
  have d := h.h3
  have e : (0 : Int) < 2 ^ p.1.toNat := Int.pow_pos (by decide)
  refine ⟨by show 0 ≤ _ + 1; omega, ?_, by show 0 ≤ p.1; omega, Int.le_refl _, by show (List.set _ _ _).length = _; rw [List.length_set]; exact h.h4⟩
  show _ + 1 ≤ ((N + 1 : Nat) : Int) * 2 ^ p.1.toNat
  rw [Int.natCast_add, Int.add_mul]
  omega
/-- shares -/
def shr (ls : List Int) : Int := (ls.map fun l => 2 ^ (15 - l).toNat).sum
theorem shr_app (a b : List Int) : shr (a ++ b) = shr a + shr b := by unfold shr; rw [List.map_append, List.sum_append]
theorem shr_one (l : Int) : shr [l] = 2 ^ (15 - l).toNat := by simp [shr]
theorem sum_perm {a b : List Int} (h : a.Perm b) : a.sum = b.sum := by
  induction h with
  | nil => rfl
  | cons x _ ih => rw [List.sum_cons, List.sum_cons, ih]
  | swap x y l => rw [List.sum_cons, List.sum_cons, List.sum_cons, List.sum_cons]; omega
  | trans _ _ ih1 ih2 => rw [ih1, ih2]
theorem shr_perm {a b : List Int} (h : a.Perm b) : shr a = shr b := sum_perm (h.map _)
theorem shr_set : ∀ {ls : List Int} {p : Nat} {l : Int} (x : Int), ls[p]? = some l → shr (ls.set p x) + 2 ^ (15 - l).toNat = shr ls + 2 ^ (15 - x).toNat
  | a :: ls, 0, l, x, h => by
    cases h
    show shr (x :: ls) + _ = shr (a :: ls) + _
    have e : ∀ y, shr (y :: ls) = 2 ^ (15 - y).toNat + shr ls := fun y => by simp [shr]
    rw [e, e]
    omega
  | a :: ls, p + 1, l, x, h => by
    have ih := shr_set (ls := ls) (p := p) x h
    show shr (a :: ls.set p x) + _ = shr (a :: ls) + _
    have e : ∀ ls, shr (a :: ls) = 2 ^ (15 - a).toNat + shr ls := fun ls => by simp [shr]
    rw [e, e]
    omega
theorem shr_half {l : Int} (h0 : 0 ≤ l) (h1 : l ≤ 14) : (2 : Int) ^ (15 - l).toNat = 2 * 2 ^ (15 - (l + 1)).toNat := by
  rw [show (15 - l).toNat = (15 - (l + 1)).toNat + 1 by omega, Int.pow_succ]
  omega
theorem erase_dis : ∀ (ls : List Int) (p : Nat), (dis ls).eraseIdx p = dis (ls.eraseIdx p)
  | [], _ => rfl
  | _ :: _, 0 => rfl
  | a :: ls, p + 1 => congrArg (D.int a :: ·) (erase_dis ls p)
theorem erase_perm : ∀ {as : List Int} {p : Nat} {l : Int}, as[p]? = some l → (l :: as.eraseIdx p).Perm as
  | a :: as, 0, l, h => by cases h; exact .refl _
  | a :: as, p + 1, l, h => (List.Perm.swap a l _).trans ((erase_perm (as := as) (p := p) h).cons a)
theorem pop_at {ls : List Int} {p : Nat} {l : Int} (h : ls[p]? = some l) (hz : ls.length ≤ 16777216) : lPopAt (dis ls) [.int (p : Nat)] = some (.int l, dis (ls.eraseIdx p)) := by
  have hd : (dis ls)[p]? = some (.int l) := by rw [dis_get, h]; rfl
  have he : (dis ls).eraseIdx p = dis (ls.eraseIdx p) := erase_dis ls p
  unfold lPopAt
  dsimp only
  rw [if_pos (by rw [decide_eq_true (show (0 : Int) ≤ (p : Int) by omega), decide_eq_true (show (dis ls).length ≤ 16777216 by rw [dis_len]; exact hz)]; rfl), Int.toNat_natCast, hd, he]
  rfl
theorem perm_out {as bs : List Int} {p : Nat} {l : Int} (h : as[p]? = some l) : (as.eraseIdx p ++ (bs ++ [l])).Perm (as ++ bs) := by
  have a := erase_perm h
  have b : (as.eraseIdx p ++ (bs ++ [l])).Perm (l :: (as.eraseIdx p ++ bs)) := by
    rw [← List.append_assoc]
    exact List.perm_append_comm
  exact b.trans (a.append_right bs)
end KM
/-! Loops of tables. -/
namespace KM
open PySem PySem.Spec PyProof.Rows L2 Evl KP
/-- a loop whose state ahead of each turn is known -/
theorem z_forE {S : Type} {f : D → S → Z S} (g : Nat → S) : ∀ {ds : List D} {k : Nat}, (∀ j d, ds[j]? = some d → f d (g (k + j)) = .ok (g (k + j + 1))) → forZ f ds (g k) = .ok (g (k + ds.length))
  | [], k, _ => rfl
  | d :: ds, k, h => by
    rw [z_for, show f d (g k) = .ok (g (k + 1)) from h 0 d rfl]
    show forZ f ds (g (k + 1)) = _
    rw [z_forE g (ds := ds) (k := k + 1) fun j e hj => by
      have := h (j + 1) e hj
      rwa [show k + (j + 1) = k + 1 + j by omega] at this]
    rw [List.length_cons, show k + 1 + ds.length = k + (ds.length + 1) by omega]
theorem z_forR {S : Type} {f : D → S → Z S} (g : Nat → S) {n : Nat} {s : S} (hs : s = g 0) (h : ∀ k : Nat, k < n → f (.int k) (g k) = .ok (g (k + 1))) : forZ f (rgD 0 n) s = .ok (g n) := by
  subst hs
  have := z_forE (f := f) g (ds := rgD 0 n) (k := 0) fun j d hj => by
    obtain ⟨hk, rfl⟩ := rgD_get hj
    rw [Nat.zero_add]
    exact h j hk
  rwa [rgD_len, Nat.zero_add] at this
/-- a while loop, by what holds ahead of each turn and a measure that falls -/
theorem wp_wh {S ρ : Type} {c : S → Z Bool} {f : S → Z (Fl S ρ)} {Q : S ⊕ ρ → Prop} (I : S → Prop) (μ : S → Nat) (st : ∀ s, I s → (c s).wp fun b => (b = true → (f s).wp fun r => match r with | .go s' => I s' ∧ μ s' < μ s | .brk s => Q (.inl s) | .ret r => Q (.inr r)) ∧ (b = false → Q (.inl s))) : ∀ (n : Nat) (s : S), I s → μ s < n → (whZ c f n s).wp Q
  | 0, s, _, h => absurd h (Nat.not_lt_zero _)
  | n + 1, s, hi, h => by
    show ((c s).bind fun b => if b = true then (f s).bind (flB (whZ c f n)) else .ok (.inl s)).wp Q
    rw [wp_bind]
    refine (st s hi).mono fun b hb => ?_
    cases b with
    | false => exact hb.2 rfl
    | true =>
      rw [if_pos rfl, wp_bind]
      refine (hb.1 rfl).mono fun r hr => ?_
      cases r with
      | brk s => exact hr
      | ret r => exact hr
      | go s' => exact wp_wh I μ st n s' hr.1 (by have := hr.2; omega)
end KM
/-! Least tokens, in plain Lean; loops that go down. -/
namespace KM
open PySem PySem.Spec PyProof.Rows L2 Evl KP
/-! ### runs -/
def lead (b : Int) : List Int → Nat
  | [] => 0
  | x :: r => if x = b then lead b r + 1 else 0
def al (ns : List Int) (k : Nat) : Nat := match ns.drop k with
  | [] => 0
  | x :: r => lead x (x :: r)
/-! ### sizes and choices -/
structure PT where
  L : Int → Int
  R : Int
  M : Nat
def szA (t : List (Int × Nat)) (j : Nat) : Int := (t.map (·.1)).getD j 0
def dpB (lit A : Int) (m : Nat) : Int × Nat := if 0 < m ∧ (A < lit ∨ (A = lit ∧ 1 < m)) then (A, m) else (lit, 0)
def dp (P : PT) : Int → List Int → List (Int × Nat)
  | _, [] => []
  | b, x :: r => dpB (P.L x + szA (dp P x r) 0) (P.R + szA (dp P x r) (min (lead b (x :: r)) P.M - 1)) (min (lead b (x :: r)) P.M) :: dp P x r
structure PT.Ok (P : PT) : Prop where
  L0 : ∀ n, 0 ≤ P.L n
  R0 : 0 ≤ P.R
/-! ### the lengths of codewords -/
end KM
/-! Ladders, in plain Lean. -/
namespace KM
open PySem PySem.Spec PyProof.Rows L2 Evl KP
/-- the width of a modulus -/
structure Wd (m : Int) (k : Nat) : Prop where
  up : m ≤ 2 ^ k
  lo : ∀ j : Nat, j < k → (2 : Int) ^ j < m
def wdG : Nat → Nat → Int → Nat
  | 0, k, _ => k
  | n + 1, k, m => if m ≤ 2 ^ k then k else wdG n (k + 1) m
def wdt (m : Int) : Nat := wdG 16 0 m
/-- the widths of a ladder -/
def lw : Nat → Int → Int → List Int
  | 0, _, m => [(wdt m : Int)]
  | n + 1, w, m => if 2 ^ w.toNat < m then w :: lw n (w + 1) (m - 2 ^ w.toNat) else [(wdt m : Int)]
theorem pow_pos (w : Nat) : (0 : Int) < 2 ^ w := Int.pow_pos (by decide)
end KM
namespace KL
open PySem PySem.Spec PyProof.Rows L2 Evl KP KM
local macro_rules | `(tactic| walk_at "d") => `(tactic| first | assumption | omega | (simp only [List.length_map, List.length_append, List.length_cons, List.length_nil, dis_len, dit_len]; omega) | (simp; done))
theorem s_draw {ds : List D} {m : Int} (h : Dw ds) (h0 : 0 < m) (h2 : m < 1000000000000000000000000000000) : (f_law_draw ds (.int m)).wp fun r => Dw r.2 ∧ ∃ v, r.1 = .int v ∧ 0 ≤ v ∧ v < m := by
  obtain ⟨x, rfl, hx⟩ := h
  have ha := hx.a0
  have hc := hx.c0
  have b0 := hx.b0
  have b1 := hx.b1
  simp only [f_law_draw, r_law_draw]
  unfold dr dis
  have r1 : ∀ i : Int, 0 ≤ i % 2147483647 := fun i => Int.emod_nonneg _ (by decide)
  have r2 : ∀ i : Int, i % 2147483647 < 2147483647 := fun i => Int.emod_lt_of_pos _ (by decide)
  (try simp -implicitDefEqProofs (maxSteps := 1000000) (disch := walk_at "d") only [z_bindI, wp_I, false_imp_iff, true_imp_iff, not_false_eq_true, not_true_eq_false, true_and, and_true, and_self, z_bind, z_bindX, z_bindS, z_assoc, z_opt, z_optN, z_obind, z_unB, z_unBT, z_unI, z_unS, z_unL, z_sbind, z_nbind, z_smT, z_smL, z_td, z_tdL, z_unT, z_unC, z_un0, z_rg1, z_rg2, z_iterL, z_iterT, z_iterF, z_iterS, z_put, z_raise, z_tryOk, z_tryX, z_tryS, z_putG, x_add, x_addL, x_addT, x_addS, x_sub, x_band, x_bor, x_bxor, x_mul, x_fdiv, x_mod, x_pow, x_shl, x_shr, x_neg, x_lt, x_le, x_gt', x_ge, x_eqI, x_neI, x_eqS, x_neS, x_eqB, x_neB, x_is, x_isnot, x_ixT, x_ixL, x_ixF, x_ixS, x_lenL, x_lenT, x_lenF, x_lenS, x_abs, x_min, x_max, x_int, x_intB, x_list, x_tup, x_itL, x_itF, x_itT, x_slT, x_slL, x_slF, x_slS, x_seqL, x_seqT, x_count, x_starts, x_sumL, x_sortedL, x_join, x_zipT_LL, x_zpL_LL, x_zipT_LT, x_zpL_LT, x_zipT_TL, x_zpL_TL, x_zipT_TT, x_zpL_TT, x_isD_nn, x_isD_nb, x_isD_bn, x_isD_bb, x_isD_in, x_isD_ib, x_isD_sn, x_isD_sb, x_isD_ln, x_isD_lb, x_isD_tn, x_isD_tb, x_truN, x_truB, x_truI, x_truL, x_truF, x_truT, x_truS, x_eqIL, x_eqIT, x_eqIR, x_eqBB, x_cut, x_boolB, x_boolI, x_revT, x_revL, x_revF, x_repT, x_map, x_ipAdd, x_ipSub, x_ipXor, x_atN, x_isi_n_int, x_isi_n_bool, x_isi_n_str, x_isi_n_list, x_isi_n_tuple, x_isi_b_int, x_isi_b_bool, x_isi_b_str, x_isi_b_list, x_isi_b_tuple, x_isi_i_int, x_isi_i_bool, x_isi_i_str, x_isi_i_list, x_isi_i_tuple, x_isi_s_int, x_isi_s_bool, x_isi_s_str, x_isi_s_list, x_isi_s_tuple, x_isi_l_int, x_isi_l_bool, x_isi_l_str, x_isi_l_list, x_isi_l_tuple, x_isi_t_int, x_isi_t_bool, x_isi_t_str, x_isi_t_list, x_isi_t_tuple, List.length_cons, List.length_nil, List.getElem?_cons_zero, List.getElem?_cons_succ, List.set_cons_zero, List.set_cons_succ, List.map_cons, List.map_nil, List.cons_append, List.nil_append, Bool.and_self, Bool.and_true, Bool.true_and, Bool.and_false, Bool.false_and, Bool.not_true, Bool.not_false, Bool.false_eq_true, if_true, if_false, ite_true, ite_false, decide_true, decide_false, decide_eq_true_eq, decide_eq_false_iff_not, Bool.not_eq_true, Bool.not_eq_true', Nat.zero_add, Option.map_some, Int.toNat_natCast, reduceIte, reduceCtorEq, Int.reduceToNat, Int.reduceNeg, Int.reduceAdd, Int.reduceSub, Int.reduceMul, Int.reduceLT, Int.reduceLE, Int.reducePow, Nat.reduceLT, Nat.reduceLeDiff, Nat.reduceAdd, Nat.reduceMul, Nat.reduceSub, Int.reduceMod, Int.reduceDiv, Int.reduceEq, Nat.reduceEqDiff, Int.cast_ofNat_Int, wp_ok, wp_bind, wp_stuck, wp_exc, id_eq])
  refine ⟨fun c => ⟨⟨⟨x.a / m, x.b, x.c⟩, rfl, ⟨Int.ediv_nonneg ha (by omega), b0, b1, hc⟩⟩, _, rfl, Int.emod_nonneg _ (by omega), Int.emod_lt_of_pos _ h0⟩, fun c => ⟨⟨⟨x.a, x.b, x.c + 1⟩, rfl, ⟨ha, b0, b1, by show 0 ≤ x.c + 1; omega⟩⟩, _, rfl, Int.emod_nonneg _ (by omega), Int.emod_lt_of_pos _ h0⟩⟩
theorem s_drawer {ns : List Int} {k : Int} (hz : ns.length ≤ 63) (h : 0 ≤ k) (h2 : k < 1000000) : (f_law_drawer (.fro (ns.map D.int)) (.int k)).wp Dw := by
  simp only [f_law_drawer, r_law_drawer]
  have hl : (ns.map D.int).length = ns.length := by simp
  have fin : ∀ i : Int, 0 ≤ i → (1000000000000000000 ≤ i → Dw [D.int (i - 1000000000000000000), D.int ((i + 1013 * k + 7) % 2147483629), D.int 0]) ∧ (¬ 1000000000000000000 ≤ i → Dw [D.int 0, D.int ((i + 1013 * k + 7) % 2147483629), D.int 0]) := fun i hi => by
    have h1 := Int.emod_nonneg (i + 1013 * k + 7) (b := 2147483629) (by decide)
    have h2 := Int.emod_lt_of_pos (i + 1013 * k + 7) (b := 2147483629) (by decide)
    exact ⟨fun c => ⟨⟨i - 1000000000000000000, _, 0⟩, rfl, ⟨by show 0 ≤ i - _; omega, h1, by show _ % _ < _; omega, Int.le_refl 0⟩⟩, fun c => ⟨⟨0, _, 0⟩, rfl, ⟨Int.le_refl 0, h1, by show _ % _ < _; omega, Int.le_refl 0⟩⟩⟩
  by_cases c : k < ns.length
  · obtain ⟨i, hi⟩ := KM.lt_get (show k.toNat < ns.length by omega)
    have hd : (ns.map D.int)[k.toNat]? = some (.int i) := by simp [hi]
    (try simp -implicitDefEqProofs (maxSteps := 1000000) (disch := walk_at "d") only [z_bindI, wp_I, false_imp_iff, true_imp_iff, not_false_eq_true, not_true_eq_false, true_and, and_true, and_self, hl, hd, c, z_bind, z_bindX, z_bindS, z_assoc, z_opt, z_optN, z_obind, z_unB, z_unBT, z_unI, z_unS, z_unL, z_sbind, z_nbind, z_smT, z_smL, z_td, z_tdL, z_unT, z_unC, z_un0, z_rg1, z_rg2, z_iterL, z_iterT, z_iterF, z_iterS, z_put, z_raise, z_tryOk, z_tryX, z_tryS, z_putG, x_add, x_addL, x_addT, x_addS, x_sub, x_band, x_bor, x_bxor, x_mul, x_fdiv, x_mod, x_pow, x_shl, x_shr, x_neg, x_lt, x_le, x_gt', x_ge, x_eqI, x_neI, x_eqS, x_neS, x_eqB, x_neB, x_is, x_isnot, x_ixT, x_ixL, x_ixF, x_ixS, x_lenL, x_lenT, x_lenF, x_lenS, x_abs, x_min, x_max, x_int, x_intB, x_list, x_tup, x_itL, x_itF, x_itT, x_slT, x_slL, x_slF, x_slS, x_seqL, x_seqT, x_count, x_starts, x_sumL, x_sortedL, x_join, x_zipT_LL, x_zpL_LL, x_zipT_LT, x_zpL_LT, x_zipT_TL, x_zpL_TL, x_zipT_TT, x_zpL_TT, x_isD_nn, x_isD_nb, x_isD_bn, x_isD_bb, x_isD_in, x_isD_ib, x_isD_sn, x_isD_sb, x_isD_ln, x_isD_lb, x_isD_tn, x_isD_tb, x_truN, x_truB, x_truI, x_truL, x_truF, x_truT, x_truS, x_eqIL, x_eqIT, x_eqIR, x_eqBB, x_cut, x_boolB, x_boolI, x_revT, x_revL, x_revF, x_repT, x_map, x_ipAdd, x_ipSub, x_ipXor, x_atN, x_isi_n_int, x_isi_n_bool, x_isi_n_str, x_isi_n_list, x_isi_n_tuple, x_isi_b_int, x_isi_b_bool, x_isi_b_str, x_isi_b_list, x_isi_b_tuple, x_isi_i_int, x_isi_i_bool, x_isi_i_str, x_isi_i_list, x_isi_i_tuple, x_isi_s_int, x_isi_s_bool, x_isi_s_str, x_isi_s_list, x_isi_s_tuple, x_isi_l_int, x_isi_l_bool, x_isi_l_str, x_isi_l_list, x_isi_l_tuple, x_isi_t_int, x_isi_t_bool, x_isi_t_str, x_isi_t_list, x_isi_t_tuple, List.length_cons, List.length_nil, List.getElem?_cons_zero, List.getElem?_cons_succ, List.set_cons_zero, List.set_cons_succ, List.map_cons, List.map_nil, List.cons_append, List.nil_append, Bool.and_self, Bool.and_true, Bool.true_and, Bool.and_false, Bool.false_and, Bool.not_true, Bool.not_false, Bool.false_eq_true, if_true, if_false, ite_true, ite_false, decide_true, decide_false, decide_eq_true_eq, decide_eq_false_iff_not, Bool.not_eq_true, Bool.not_eq_true', Nat.zero_add, Option.map_some, Int.toNat_natCast, reduceIte, reduceCtorEq, Int.reduceToNat, Int.reduceNeg, Int.reduceAdd, Int.reduceSub, Int.reduceMul, Int.reduceLT, Int.reduceLE, Int.reducePow, Nat.reduceLT, Nat.reduceLeDiff, Nat.reduceAdd, Nat.reduceMul, Nat.reduceSub, Int.reduceMod, Int.reduceDiv, Int.reduceEq, Nat.reduceEqDiff, Int.cast_ofNat_Int, wp_ok, wp_bind, wp_stuck, wp_exc, id_eq])
    exact fin _ (by split <;> omega)
  · (try simp -implicitDefEqProofs (maxSteps := 1000000) (disch := walk_at "d") only [z_bindI, wp_I, false_imp_iff, true_imp_iff, not_false_eq_true, not_true_eq_false, true_and, and_true, and_self, hl, c, z_bind, z_bindX, z_bindS, z_assoc, z_opt, z_optN, z_obind, z_unB, z_unBT, z_unI, z_unS, z_unL, z_sbind, z_nbind, z_smT, z_smL, z_td, z_tdL, z_unT, z_unC, z_un0, z_rg1, z_rg2, z_iterL, z_iterT, z_iterF, z_iterS, z_put, z_raise, z_tryOk, z_tryX, z_tryS, z_putG, x_add, x_addL, x_addT, x_addS, x_sub, x_band, x_bor, x_bxor, x_mul, x_fdiv, x_mod, x_pow, x_shl, x_shr, x_neg, x_lt, x_le, x_gt', x_ge, x_eqI, x_neI, x_eqS, x_neS, x_eqB, x_neB, x_is, x_isnot, x_ixT, x_ixL, x_ixF, x_ixS, x_lenL, x_lenT, x_lenF, x_lenS, x_abs, x_min, x_max, x_int, x_intB, x_list, x_tup, x_itL, x_itF, x_itT, x_slT, x_slL, x_slF, x_slS, x_seqL, x_seqT, x_count, x_starts, x_sumL, x_sortedL, x_join, x_zipT_LL, x_zpL_LL, x_zipT_LT, x_zpL_LT, x_zipT_TL, x_zpL_TL, x_zipT_TT, x_zpL_TT, x_isD_nn, x_isD_nb, x_isD_bn, x_isD_bb, x_isD_in, x_isD_ib, x_isD_sn, x_isD_sb, x_isD_ln, x_isD_lb, x_isD_tn, x_isD_tb, x_truN, x_truB, x_truI, x_truL, x_truF, x_truT, x_truS, x_eqIL, x_eqIT, x_eqIR, x_eqBB, x_cut, x_boolB, x_boolI, x_revT, x_revL, x_revF, x_repT, x_map, x_ipAdd, x_ipSub, x_ipXor, x_atN, x_isi_n_int, x_isi_n_bool, x_isi_n_str, x_isi_n_list, x_isi_n_tuple, x_isi_b_int, x_isi_b_bool, x_isi_b_str, x_isi_b_list, x_isi_b_tuple, x_isi_i_int, x_isi_i_bool, x_isi_i_str, x_isi_i_list, x_isi_i_tuple, x_isi_s_int, x_isi_s_bool, x_isi_s_str, x_isi_s_list, x_isi_s_tuple, x_isi_l_int, x_isi_l_bool, x_isi_l_str, x_isi_l_list, x_isi_l_tuple, x_isi_t_int, x_isi_t_bool, x_isi_t_str, x_isi_t_list, x_isi_t_tuple, List.length_cons, List.length_nil, List.getElem?_cons_zero, List.getElem?_cons_succ, List.set_cons_zero, List.set_cons_succ, List.map_cons, List.map_nil, List.cons_append, List.nil_append, Bool.and_self, Bool.and_true, Bool.true_and, Bool.and_false, Bool.false_and, Bool.not_true, Bool.not_false, Bool.false_eq_true, if_true, if_false, ite_true, ite_false, decide_true, decide_false, decide_eq_true_eq, decide_eq_false_iff_not, Bool.not_eq_true, Bool.not_eq_true', Nat.zero_add, Option.map_some, Int.toNat_natCast, reduceIte, reduceCtorEq, Int.reduceToNat, Int.reduceNeg, Int.reduceAdd, Int.reduceSub, Int.reduceMul, Int.reduceLT, Int.reduceLE, Int.reducePow, Nat.reduceLT, Nat.reduceLeDiff, Nat.reduceAdd, Nat.reduceMul, Nat.reduceSub, Int.reduceMod, Int.reduceDiv, Int.reduceEq, Nat.reduceEqDiff, Int.cast_ofNat_Int, wp_ok, wp_bind, wp_stuck, wp_exc, id_eq])
    exact (fin 0 (by decide)).2 (by decide)
local macro_rules | `(tactic| walk_at "dr") => `(tactic| (refine Z.wp.mono (s_draw (by assumption) (by first | decide | omega) (by first | decide | omega)) ?_; rintro ⟨_, _⟩ ⟨hw, _, hh, _, _⟩; dsimp only at hw hh; subst hh; dsimp only))
theorem s_pick {ds cs : List D} (h : Dw ds) (h0 : 0 < cs.length) (h1 : cs.length ≤ 1000) : (f_law_pick ds (.lst cs)).wp fun r => Dw r.2 ∧ r.1 ∈ cs := by
  simp only [f_law_pick, r_law_pick]
  (try simp -implicitDefEqProofs (maxSteps := 1000000) (disch := walk_at "d") only [z_bind, z_bindX, z_bindS, z_assoc, z_opt, z_optN, z_obind, z_unB, z_unBT, z_unI, z_unS, z_unL, z_sbind, z_nbind, z_smT, z_smL, z_td, z_tdL, z_unT, z_unC, z_un0, z_rg1, z_rg2, z_iterL, z_iterT, z_iterF, z_iterS, z_put, z_raise, z_tryOk, z_tryX, z_tryS, z_putG, x_add, x_addL, x_addT, x_addS, x_sub, x_band, x_bor, x_bxor, x_mul, x_fdiv, x_mod, x_pow, x_shl, x_shr, x_neg, x_lt, x_le, x_gt', x_ge, x_eqI, x_neI, x_eqS, x_neS, x_eqB, x_neB, x_is, x_isnot, x_ixT, x_ixL, x_ixF, x_ixS, x_lenL, x_lenT, x_lenF, x_lenS, x_abs, x_min, x_max, x_int, x_intB, x_list, x_tup, x_itL, x_itF, x_itT, x_slT, x_slL, x_slF, x_slS, x_seqL, x_seqT, x_count, x_starts, x_sumL, x_sortedL, x_join, x_zipT_LL, x_zpL_LL, x_zipT_LT, x_zpL_LT, x_zipT_TL, x_zpL_TL, x_zipT_TT, x_zpL_TT, x_isD_nn, x_isD_nb, x_isD_bn, x_isD_bb, x_isD_in, x_isD_ib, x_isD_sn, x_isD_sb, x_isD_ln, x_isD_lb, x_isD_tn, x_isD_tb, x_truN, x_truB, x_truI, x_truL, x_truF, x_truT, x_truS, x_eqIL, x_eqIT, x_eqIR, x_eqBB, x_cut, x_boolB, x_boolI, x_revT, x_revL, x_revF, x_repT, x_map, x_ipAdd, x_ipSub, x_ipXor, x_atN, x_isi_n_int, x_isi_n_bool, x_isi_n_str, x_isi_n_list, x_isi_n_tuple, x_isi_b_int, x_isi_b_bool, x_isi_b_str, x_isi_b_list, x_isi_b_tuple, x_isi_i_int, x_isi_i_bool, x_isi_i_str, x_isi_i_list, x_isi_i_tuple, x_isi_s_int, x_isi_s_bool, x_isi_s_str, x_isi_s_list, x_isi_s_tuple, x_isi_l_int, x_isi_l_bool, x_isi_l_str, x_isi_l_list, x_isi_l_tuple, x_isi_t_int, x_isi_t_bool, x_isi_t_str, x_isi_t_list, x_isi_t_tuple, List.length_cons, List.length_nil, List.getElem?_cons_zero, List.getElem?_cons_succ, List.set_cons_zero, List.set_cons_succ, List.map_cons, List.map_nil, List.cons_append, List.nil_append, Bool.and_self, Bool.and_true, Bool.true_and, Bool.and_false, Bool.false_and, Bool.not_true, Bool.not_false, Bool.false_eq_true, if_true, if_false, ite_true, ite_false, decide_true, decide_false, decide_eq_true_eq, decide_eq_false_iff_not, Bool.not_eq_true, Bool.not_eq_true', Nat.zero_add, Option.map_some, Int.toNat_natCast, reduceIte, reduceCtorEq, Int.reduceToNat, Int.reduceNeg, Int.reduceAdd, Int.reduceSub, Int.reduceMul, Int.reduceLT, Int.reduceLE, Int.reducePow, Nat.reduceLT, Nat.reduceLeDiff, Nat.reduceAdd, Nat.reduceMul, Nat.reduceSub, Int.reduceMod, Int.reduceDiv, Int.reduceEq, Nat.reduceEqDiff, Int.cast_ofNat_Int, wp_ok, wp_bind, wp_stuck, wp_exc, id_eq])
  refine Z.wp.mono (s_draw h (by omega) (by omega)) ?_
  rintro ⟨_, e⟩ ⟨he, v, rfl, v0, v1⟩
  dsimp only
  obtain ⟨x, hx⟩ := KM.lt_get (show v.toNat < cs.length by omega)
  (try simp -implicitDefEqProofs (maxSteps := 1000000) (disch := walk_at "d") only [hx, z_bind, z_bindX, z_bindS, z_assoc, z_opt, z_optN, z_obind, z_unB, z_unBT, z_unI, z_unS, z_unL, z_sbind, z_nbind, z_smT, z_smL, z_td, z_tdL, z_unT, z_unC, z_un0, z_rg1, z_rg2, z_iterL, z_iterT, z_iterF, z_iterS, z_put, z_raise, z_tryOk, z_tryX, z_tryS, z_putG, x_add, x_addL, x_addT, x_addS, x_sub, x_band, x_bor, x_bxor, x_mul, x_fdiv, x_mod, x_pow, x_shl, x_shr, x_neg, x_lt, x_le, x_gt', x_ge, x_eqI, x_neI, x_eqS, x_neS, x_eqB, x_neB, x_is, x_isnot, x_ixT, x_ixL, x_ixF, x_ixS, x_lenL, x_lenT, x_lenF, x_lenS, x_abs, x_min, x_max, x_int, x_intB, x_list, x_tup, x_itL, x_itF, x_itT, x_slT, x_slL, x_slF, x_slS, x_seqL, x_seqT, x_count, x_starts, x_sumL, x_sortedL, x_join, x_zipT_LL, x_zpL_LL, x_zipT_LT, x_zpL_LT, x_zipT_TL, x_zpL_TL, x_zipT_TT, x_zpL_TT, x_isD_nn, x_isD_nb, x_isD_bn, x_isD_bb, x_isD_in, x_isD_ib, x_isD_sn, x_isD_sb, x_isD_ln, x_isD_lb, x_isD_tn, x_isD_tb, x_truN, x_truB, x_truI, x_truL, x_truF, x_truT, x_truS, x_eqIL, x_eqIT, x_eqIR, x_eqBB, x_cut, x_boolB, x_boolI, x_revT, x_revL, x_revF, x_repT, x_map, x_ipAdd, x_ipSub, x_ipXor, x_atN, x_isi_n_int, x_isi_n_bool, x_isi_n_str, x_isi_n_list, x_isi_n_tuple, x_isi_b_int, x_isi_b_bool, x_isi_b_str, x_isi_b_list, x_isi_b_tuple, x_isi_i_int, x_isi_i_bool, x_isi_i_str, x_isi_i_list, x_isi_i_tuple, x_isi_s_int, x_isi_s_bool, x_isi_s_str, x_isi_s_list, x_isi_s_tuple, x_isi_l_int, x_isi_l_bool, x_isi_l_str, x_isi_l_list, x_isi_l_tuple, x_isi_t_int, x_isi_t_bool, x_isi_t_str, x_isi_t_list, x_isi_t_tuple, List.length_cons, List.length_nil, List.getElem?_cons_zero, List.getElem?_cons_succ, List.set_cons_zero, List.set_cons_succ, List.map_cons, List.map_nil, List.cons_append, List.nil_append, Bool.and_self, Bool.and_true, Bool.true_and, Bool.and_false, Bool.false_and, Bool.not_true, Bool.not_false, Bool.false_eq_true, if_true, if_false, ite_true, ite_false, decide_true, decide_false, decide_eq_true_eq, decide_eq_false_iff_not, Bool.not_eq_true, Bool.not_eq_true', Nat.zero_add, Option.map_some, Int.toNat_natCast, reduceIte, reduceCtorEq, Int.reduceToNat, Int.reduceNeg, Int.reduceAdd, Int.reduceSub, Int.reduceMul, Int.reduceLT, Int.reduceLE, Int.reducePow, Nat.reduceLT, Nat.reduceLeDiff, Nat.reduceAdd, Nat.reduceMul, Nat.reduceSub, Int.reduceMod, Int.reduceDiv, Int.reduceEq, Nat.reduceEqDiff, Int.cast_ofNat_Int, wp_ok, wp_bind, wp_stuck, wp_exc, id_eq])
  exact ⟨he, List.mem_of_getElem? hx⟩
theorem get_dis {ls : List Int} {k : Nat} (h : k < ls.length) : ∃ l, (dis ls)[k]? = some (.int l) ∧ ls[k]? = some l ∧ l ∈ ls := by
  obtain ⟨l, hl⟩ := KM.lt_get h
  exact ⟨l, by rw [dis_get, hl]; rfl, hl, List.mem_of_getElem? hl⟩
theorem s_complete {ds : List D} {m : Int} (hd : Dw ds) (m0 : 1 ≤ m) (m1 : m ≤ 16) : (f_law_complete ds (.int m)).wp fun r => Dw r.2 ∧ ∃ ls, r.1 = .lst (dis ls) ∧ (ls.length : Int) = m ∧ shr ls = 32768 ∧ ∀ l ∈ ls, 0 ≤ l ∧ l < m := by
  simp only [f_law_complete, r_law_complete]
  (try simp -implicitDefEqProofs (maxSteps := 1000000) (disch := walk_at "d") only [z_bindI, wp_I, false_imp_iff, true_imp_iff, not_false_eq_true, not_true_eq_false, true_and, and_true, and_self, z_bind, z_bindX, z_bindS, z_assoc, z_opt, z_optN, z_obind, z_unB, z_unBT, z_unI, z_unS, z_unL, z_sbind, z_nbind, z_smT, z_smL, z_td, z_tdL, z_unT, z_unC, z_un0, z_rg1, z_rg2, z_iterL, z_iterT, z_iterF, z_iterS, z_put, z_raise, z_tryOk, z_tryX, z_tryS, z_putG, x_add, x_addL, x_addT, x_addS, x_sub, x_band, x_bor, x_bxor, x_mul, x_fdiv, x_mod, x_pow, x_shl, x_shr, x_neg, x_lt, x_le, x_gt', x_ge, x_eqI, x_neI, x_eqS, x_neS, x_eqB, x_neB, x_is, x_isnot, x_ixT, x_ixL, x_ixF, x_ixS, x_lenL, x_lenT, x_lenF, x_lenS, x_abs, x_min, x_max, x_int, x_intB, x_list, x_tup, x_itL, x_itF, x_itT, x_slT, x_slL, x_slF, x_slS, x_seqL, x_seqT, x_count, x_starts, x_sumL, x_sortedL, x_join, x_zipT_LL, x_zpL_LL, x_zipT_LT, x_zpL_LT, x_zipT_TL, x_zpL_TL, x_zipT_TT, x_zpL_TT, x_isD_nn, x_isD_nb, x_isD_bn, x_isD_bb, x_isD_in, x_isD_ib, x_isD_sn, x_isD_sb, x_isD_ln, x_isD_lb, x_isD_tn, x_isD_tb, x_truN, x_truB, x_truI, x_truL, x_truF, x_truT, x_truS, x_eqIL, x_eqIT, x_eqIR, x_eqBB, x_cut, x_boolB, x_boolI, x_revT, x_revL, x_revF, x_repT, x_map, x_ipAdd, x_ipSub, x_ipXor, x_atN, x_isi_n_int, x_isi_n_bool, x_isi_n_str, x_isi_n_list, x_isi_n_tuple, x_isi_b_int, x_isi_b_bool, x_isi_b_str, x_isi_b_list, x_isi_b_tuple, x_isi_i_int, x_isi_i_bool, x_isi_i_str, x_isi_i_list, x_isi_i_tuple, x_isi_s_int, x_isi_s_bool, x_isi_s_str, x_isi_s_list, x_isi_s_tuple, x_isi_l_int, x_isi_l_bool, x_isi_l_str, x_isi_l_list, x_isi_l_tuple, x_isi_t_int, x_isi_t_bool, x_isi_t_str, x_isi_t_list, x_isi_t_tuple, List.length_cons, List.length_nil, List.getElem?_cons_zero, List.getElem?_cons_succ, List.set_cons_zero, List.set_cons_succ, List.map_cons, List.map_nil, List.cons_append, List.nil_append, Bool.and_self, Bool.and_true, Bool.true_and, Bool.and_false, Bool.false_and, Bool.not_true, Bool.not_false, Bool.false_eq_true, if_true, if_false, ite_true, ite_false, decide_true, decide_false, decide_eq_true_eq, decide_eq_false_iff_not, Bool.not_eq_true, Bool.not_eq_true', Nat.zero_add, Option.map_some, Int.toNat_natCast, reduceIte, reduceCtorEq, Int.reduceToNat, Int.reduceNeg, Int.reduceAdd, Int.reduceSub, Int.reduceMul, Int.reduceLT, Int.reduceLE, Int.reducePow, Nat.reduceLT, Nat.reduceLeDiff, Nat.reduceAdd, Nat.reduceMul, Nat.reduceSub, Int.reduceMod, Int.reduceDiv, Int.reduceEq, Nat.reduceEqDiff, Int.cast_ofNat_Int, wp_ok, wp_bind, wp_stuck, wp_exc, id_eq])
  refine wp_for (S := List D × List D) (fun k s => Dw s.1 ∧ ∃ ls, s.2 = dis ls ∧ ls.length = k + 1 ∧ shr ls = 32768 ∧ ∀ l ∈ ls, 0 ≤ l ∧ l ≤ k) _ 0 _ ⟨hd, [0], rfl, rfl, by decide, by simp⟩ ?_ ?_
  · rintro k d ⟨e, _⟩ hk ⟨he, ls, hls, h1, h2, h3⟩
    obtain ⟨hk, rfl⟩ := rgD_get hk
    dsimp only at hls he
    subst hls
    rw [Nat.zero_add] at h1 h3 ⊢
    have ll := dis_len ls
    (try simp -implicitDefEqProofs (maxSteps := 1000000) (disch := walk_at "d") only [z_bind, z_bindX, z_bindS, z_assoc, z_opt, z_optN, z_obind, z_unB, z_unBT, z_unI, z_unS, z_unL, z_sbind, z_nbind, z_smT, z_smL, z_td, z_tdL, z_unT, z_unC, z_un0, z_rg1, z_rg2, z_iterL, z_iterT, z_iterF, z_iterS, z_put, z_raise, z_tryOk, z_tryX, z_tryS, z_putG, x_add, x_addL, x_addT, x_addS, x_sub, x_band, x_bor, x_bxor, x_mul, x_fdiv, x_mod, x_pow, x_shl, x_shr, x_neg, x_lt, x_le, x_gt', x_ge, x_eqI, x_neI, x_eqS, x_neS, x_eqB, x_neB, x_is, x_isnot, x_ixT, x_ixL, x_ixF, x_ixS, x_lenL, x_lenT, x_lenF, x_lenS, x_abs, x_min, x_max, x_int, x_intB, x_list, x_tup, x_itL, x_itF, x_itT, x_slT, x_slL, x_slF, x_slS, x_seqL, x_seqT, x_count, x_starts, x_sumL, x_sortedL, x_join, x_zipT_LL, x_zpL_LL, x_zipT_LT, x_zpL_LT, x_zipT_TL, x_zpL_TL, x_zipT_TT, x_zpL_TT, x_isD_nn, x_isD_nb, x_isD_bn, x_isD_bb, x_isD_in, x_isD_ib, x_isD_sn, x_isD_sb, x_isD_ln, x_isD_lb, x_isD_tn, x_isD_tb, x_truN, x_truB, x_truI, x_truL, x_truF, x_truT, x_truS, x_eqIL, x_eqIT, x_eqIR, x_eqBB, x_cut, x_boolB, x_boolI, x_revT, x_revL, x_revF, x_repT, x_map, x_ipAdd, x_ipSub, x_ipXor, x_atN, x_isi_n_int, x_isi_n_bool, x_isi_n_str, x_isi_n_list, x_isi_n_tuple, x_isi_b_int, x_isi_b_bool, x_isi_b_str, x_isi_b_list, x_isi_b_tuple, x_isi_i_int, x_isi_i_bool, x_isi_i_str, x_isi_i_list, x_isi_i_tuple, x_isi_s_int, x_isi_s_bool, x_isi_s_str, x_isi_s_list, x_isi_s_tuple, x_isi_l_int, x_isi_l_bool, x_isi_l_str, x_isi_l_list, x_isi_l_tuple, x_isi_t_int, x_isi_t_bool, x_isi_t_str, x_isi_t_list, x_isi_t_tuple, List.length_cons, List.length_nil, List.getElem?_cons_zero, List.getElem?_cons_succ, List.set_cons_zero, List.set_cons_succ, List.map_cons, List.map_nil, List.cons_append, List.nil_append, Bool.and_self, Bool.and_true, Bool.true_and, Bool.and_false, Bool.false_and, Bool.not_true, Bool.not_false, Bool.false_eq_true, if_true, if_false, ite_true, ite_false, decide_true, decide_false, decide_eq_true_eq, decide_eq_false_iff_not, Bool.not_eq_true, Bool.not_eq_true', Nat.zero_add, Option.map_some, Int.toNat_natCast, reduceIte, reduceCtorEq, Int.reduceToNat, Int.reduceNeg, Int.reduceAdd, Int.reduceSub, Int.reduceMul, Int.reduceLT, Int.reduceLE, Int.reducePow, Nat.reduceLT, Nat.reduceLeDiff, Nat.reduceAdd, Nat.reduceMul, Nat.reduceSub, Int.reduceMod, Int.reduceDiv, Int.reduceEq, Nat.reduceEqDiff, Int.cast_ofNat_Int, wp_ok, wp_bind, wp_stuck, wp_exc, id_eq])
    refine Z.wp.mono (s_draw he (by omega) (by omega)) ?_
    rintro ⟨_, e⟩ ⟨he, p, rfl, p0, p1⟩
    obtain ⟨p, rfl⟩ : ∃ k : Nat, p = k := ⟨p.toNat, by omega⟩
    obtain ⟨l, g1, g2, g3⟩ := get_dis (ls := ls) (k := p) (by omega)
    have b := h3 l g3
    have g4 : ((dis ls).set p (D.int (l + 1)))[p]? = some (.int (l + 1)) := by rw [List.getElem?_set_self (by omega)]
    have g5 : ((dis ls).set p (D.int (l + 1))).length < 16777216 := by rw [List.length_set]; omega
    (try simp -implicitDefEqProofs (maxSteps := 1000000) (disch := walk_at "d") only [g1, g4, g5, z_bind, z_bindX, z_bindS, z_assoc, z_opt, z_optN, z_obind, z_unB, z_unBT, z_unI, z_unS, z_unL, z_sbind, z_nbind, z_smT, z_smL, z_td, z_tdL, z_unT, z_unC, z_un0, z_rg1, z_rg2, z_iterL, z_iterT, z_iterF, z_iterS, z_put, z_raise, z_tryOk, z_tryX, z_tryS, z_putG, x_add, x_addL, x_addT, x_addS, x_sub, x_band, x_bor, x_bxor, x_mul, x_fdiv, x_mod, x_pow, x_shl, x_shr, x_neg, x_lt, x_le, x_gt', x_ge, x_eqI, x_neI, x_eqS, x_neS, x_eqB, x_neB, x_is, x_isnot, x_ixT, x_ixL, x_ixF, x_ixS, x_lenL, x_lenT, x_lenF, x_lenS, x_abs, x_min, x_max, x_int, x_intB, x_list, x_tup, x_itL, x_itF, x_itT, x_slT, x_slL, x_slF, x_slS, x_seqL, x_seqT, x_count, x_starts, x_sumL, x_sortedL, x_join, x_zipT_LL, x_zpL_LL, x_zipT_LT, x_zpL_LT, x_zipT_TL, x_zpL_TL, x_zipT_TT, x_zpL_TT, x_isD_nn, x_isD_nb, x_isD_bn, x_isD_bb, x_isD_in, x_isD_ib, x_isD_sn, x_isD_sb, x_isD_ln, x_isD_lb, x_isD_tn, x_isD_tb, x_truN, x_truB, x_truI, x_truL, x_truF, x_truT, x_truS, x_eqIL, x_eqIT, x_eqIR, x_eqBB, x_cut, x_boolB, x_boolI, x_revT, x_revL, x_revF, x_repT, x_map, x_ipAdd, x_ipSub, x_ipXor, x_atN, x_isi_n_int, x_isi_n_bool, x_isi_n_str, x_isi_n_list, x_isi_n_tuple, x_isi_b_int, x_isi_b_bool, x_isi_b_str, x_isi_b_list, x_isi_b_tuple, x_isi_i_int, x_isi_i_bool, x_isi_i_str, x_isi_i_list, x_isi_i_tuple, x_isi_s_int, x_isi_s_bool, x_isi_s_str, x_isi_s_list, x_isi_s_tuple, x_isi_l_int, x_isi_l_bool, x_isi_l_str, x_isi_l_list, x_isi_l_tuple, x_isi_t_int, x_isi_t_bool, x_isi_t_str, x_isi_t_list, x_isi_t_tuple, List.length_cons, List.length_nil, List.getElem?_cons_zero, List.getElem?_cons_succ, List.set_cons_zero, List.set_cons_succ, List.map_cons, List.map_nil, List.cons_append, List.nil_append, Bool.and_self, Bool.and_true, Bool.true_and, Bool.and_false, Bool.false_and, Bool.not_true, Bool.not_false, Bool.false_eq_true, if_true, if_false, ite_true, ite_false, decide_true, decide_false, decide_eq_true_eq, decide_eq_false_iff_not, Bool.not_eq_true, Bool.not_eq_true', Nat.zero_add, Option.map_some, Int.toNat_natCast, reduceIte, reduceCtorEq, Int.reduceToNat, Int.reduceNeg, Int.reduceAdd, Int.reduceSub, Int.reduceMul, Int.reduceLT, Int.reduceLE, Int.reducePow, Nat.reduceLT, Nat.reduceLeDiff, Nat.reduceAdd, Nat.reduceMul, Nat.reduceSub, Int.reduceMod, Int.reduceDiv, Int.reduceEq, Nat.reduceEqDiff, Int.cast_ofNat_Int, wp_ok, wp_bind, wp_stuck, wp_exc, id_eq])
    have a := shr_set (l + 1) g2
    have c := shr_half (l := l) b.1 (by omega)
    refine ⟨he, ls.set p (l + 1) ++ [l + 1], by unfold dis; rw [List.map_append, List.map_set]; rfl, by simp [h1], by rw [shr_app, shr_one]; omega, fun x hx => ?_⟩
    rcases List.mem_append.mp hx with hx | hx
    · rcases List.mem_or_eq_of_mem_set hx with hx | rfl
      · have := h3 x hx; omega
      · omega
    · rw [List.mem_singleton.mp hx]; omega
  · rintro ⟨e, _⟩ ⟨he, ls, hls, h1, h2, h3⟩
    dsimp only at hls he
    subst hls
    rw [rgD_len] at h1 h3
    exact ⟨he, ls, rfl, by omega, h2, fun l hl => by have := h3 l hl; omega⟩
theorem s_dealt {ds : List D} {ls : List Int} (hd : Dw ds) (m1 : ls.length ≤ 16) : (f_law_dealt ds (.lst (dis ls))).wp fun r => Dw r.2 ∧ ∃ ks, r.1 = .lst (dis ks) ∧ ks.Perm ls := by
  simp only [f_law_dealt, r_law_dealt]
  (try simp -implicitDefEqProofs (maxSteps := 1000000) (disch := walk_at "d") only [z_bindI, wp_I, false_imp_iff, true_imp_iff, not_false_eq_true, not_true_eq_false, true_and, and_true, and_self, z_bind, z_bindX, z_bindS, z_assoc, z_opt, z_optN, z_obind, z_unB, z_unBT, z_unI, z_unS, z_unL, z_sbind, z_nbind, z_smT, z_smL, z_td, z_tdL, z_unT, z_unC, z_un0, z_rg1, z_rg2, z_iterL, z_iterT, z_iterF, z_iterS, z_put, z_raise, z_tryOk, z_tryX, z_tryS, z_putG, x_add, x_addL, x_addT, x_addS, x_sub, x_band, x_bor, x_bxor, x_mul, x_fdiv, x_mod, x_pow, x_shl, x_shr, x_neg, x_lt, x_le, x_gt', x_ge, x_eqI, x_neI, x_eqS, x_neS, x_eqB, x_neB, x_is, x_isnot, x_ixT, x_ixL, x_ixF, x_ixS, x_lenL, x_lenT, x_lenF, x_lenS, x_abs, x_min, x_max, x_int, x_intB, x_list, x_tup, x_itL, x_itF, x_itT, x_slT, x_slL, x_slF, x_slS, x_seqL, x_seqT, x_count, x_starts, x_sumL, x_sortedL, x_join, x_zipT_LL, x_zpL_LL, x_zipT_LT, x_zpL_LT, x_zipT_TL, x_zpL_TL, x_zipT_TT, x_zpL_TT, x_isD_nn, x_isD_nb, x_isD_bn, x_isD_bb, x_isD_in, x_isD_ib, x_isD_sn, x_isD_sb, x_isD_ln, x_isD_lb, x_isD_tn, x_isD_tb, x_truN, x_truB, x_truI, x_truL, x_truF, x_truT, x_truS, x_eqIL, x_eqIT, x_eqIR, x_eqBB, x_cut, x_boolB, x_boolI, x_revT, x_revL, x_revF, x_repT, x_map, x_ipAdd, x_ipSub, x_ipXor, x_atN, x_isi_n_int, x_isi_n_bool, x_isi_n_str, x_isi_n_list, x_isi_n_tuple, x_isi_b_int, x_isi_b_bool, x_isi_b_str, x_isi_b_list, x_isi_b_tuple, x_isi_i_int, x_isi_i_bool, x_isi_i_str, x_isi_i_list, x_isi_i_tuple, x_isi_s_int, x_isi_s_bool, x_isi_s_str, x_isi_s_list, x_isi_s_tuple, x_isi_l_int, x_isi_l_bool, x_isi_l_str, x_isi_l_list, x_isi_l_tuple, x_isi_t_int, x_isi_t_bool, x_isi_t_str, x_isi_t_list, x_isi_t_tuple, List.length_cons, List.length_nil, List.getElem?_cons_zero, List.getElem?_cons_succ, List.set_cons_zero, List.set_cons_succ, List.map_cons, List.map_nil, List.cons_append, List.nil_append, Bool.and_self, Bool.and_true, Bool.true_and, Bool.and_false, Bool.false_and, Bool.not_true, Bool.not_false, Bool.false_eq_true, if_true, if_false, ite_true, ite_false, decide_true, decide_false, decide_eq_true_eq, decide_eq_false_iff_not, Bool.not_eq_true, Bool.not_eq_true', Nat.zero_add, Option.map_some, Int.toNat_natCast, reduceIte, reduceCtorEq, Int.reduceToNat, Int.reduceNeg, Int.reduceAdd, Int.reduceSub, Int.reduceMul, Int.reduceLT, Int.reduceLE, Int.reducePow, Nat.reduceLT, Nat.reduceLeDiff, Nat.reduceAdd, Nat.reduceMul, Nat.reduceSub, Int.reduceMod, Int.reduceDiv, Int.reduceEq, Nat.reduceEqDiff, Int.cast_ofNat_Int, wp_ok, wp_bind, wp_stuck, wp_exc, id_eq])
  have ll := dis_len ls
  refine wp_for (S := List D × List D × List D) (fun k s => Dw s.1 ∧ ∃ as bs, s.2.1 = dis as ∧ s.2.2 = dis bs ∧ as.length + k = ls.length ∧ (as ++ bs).Perm ls) _ 0 _ ⟨hd, ls, [], rfl, rfl, by omega, by simp⟩ ?_ ?_
  · rintro k d ⟨e, _, _⟩ hk ⟨he, as, bs, ha, hb, h1, h2⟩
    obtain ⟨hk, rfl⟩ := rgD_get hk
    dsimp only at ha hb he
    subst ha hb
    rw [Nat.zero_add] at h1 ⊢
    have l1 := dis_len as
    have l2 := dis_len bs
    have l3 := h2.length_eq
    rw [List.length_append] at l3
    (try simp -implicitDefEqProofs (maxSteps := 1000000) (disch := walk_at "d") only [z_bind, z_bindX, z_bindS, z_assoc, z_opt, z_optN, z_obind, z_unB, z_unBT, z_unI, z_unS, z_unL, z_sbind, z_nbind, z_smT, z_smL, z_td, z_tdL, z_unT, z_unC, z_un0, z_rg1, z_rg2, z_iterL, z_iterT, z_iterF, z_iterS, z_put, z_raise, z_tryOk, z_tryX, z_tryS, z_putG, x_add, x_addL, x_addT, x_addS, x_sub, x_band, x_bor, x_bxor, x_mul, x_fdiv, x_mod, x_pow, x_shl, x_shr, x_neg, x_lt, x_le, x_gt', x_ge, x_eqI, x_neI, x_eqS, x_neS, x_eqB, x_neB, x_is, x_isnot, x_ixT, x_ixL, x_ixF, x_ixS, x_lenL, x_lenT, x_lenF, x_lenS, x_abs, x_min, x_max, x_int, x_intB, x_list, x_tup, x_itL, x_itF, x_itT, x_slT, x_slL, x_slF, x_slS, x_seqL, x_seqT, x_count, x_starts, x_sumL, x_sortedL, x_join, x_zipT_LL, x_zpL_LL, x_zipT_LT, x_zpL_LT, x_zipT_TL, x_zpL_TL, x_zipT_TT, x_zpL_TT, x_isD_nn, x_isD_nb, x_isD_bn, x_isD_bb, x_isD_in, x_isD_ib, x_isD_sn, x_isD_sb, x_isD_ln, x_isD_lb, x_isD_tn, x_isD_tb, x_truN, x_truB, x_truI, x_truL, x_truF, x_truT, x_truS, x_eqIL, x_eqIT, x_eqIR, x_eqBB, x_cut, x_boolB, x_boolI, x_revT, x_revL, x_revF, x_repT, x_map, x_ipAdd, x_ipSub, x_ipXor, x_atN, x_isi_n_int, x_isi_n_bool, x_isi_n_str, x_isi_n_list, x_isi_n_tuple, x_isi_b_int, x_isi_b_bool, x_isi_b_str, x_isi_b_list, x_isi_b_tuple, x_isi_i_int, x_isi_i_bool, x_isi_i_str, x_isi_i_list, x_isi_i_tuple, x_isi_s_int, x_isi_s_bool, x_isi_s_str, x_isi_s_list, x_isi_s_tuple, x_isi_l_int, x_isi_l_bool, x_isi_l_str, x_isi_l_list, x_isi_l_tuple, x_isi_t_int, x_isi_t_bool, x_isi_t_str, x_isi_t_list, x_isi_t_tuple, List.length_cons, List.length_nil, List.getElem?_cons_zero, List.getElem?_cons_succ, List.set_cons_zero, List.set_cons_succ, List.map_cons, List.map_nil, List.cons_append, List.nil_append, Bool.and_self, Bool.and_true, Bool.true_and, Bool.and_false, Bool.false_and, Bool.not_true, Bool.not_false, Bool.false_eq_true, if_true, if_false, ite_true, ite_false, decide_true, decide_false, decide_eq_true_eq, decide_eq_false_iff_not, Bool.not_eq_true, Bool.not_eq_true', Nat.zero_add, Option.map_some, Int.toNat_natCast, reduceIte, reduceCtorEq, Int.reduceToNat, Int.reduceNeg, Int.reduceAdd, Int.reduceSub, Int.reduceMul, Int.reduceLT, Int.reduceLE, Int.reducePow, Nat.reduceLT, Nat.reduceLeDiff, Nat.reduceAdd, Nat.reduceMul, Nat.reduceSub, Int.reduceMod, Int.reduceDiv, Int.reduceEq, Nat.reduceEqDiff, Int.cast_ofNat_Int, wp_ok, wp_bind, wp_stuck, wp_exc, id_eq])
    refine Z.wp.mono (s_draw he (by omega) (by omega)) ?_
    rintro ⟨_, e⟩ ⟨he, p, rfl, p0, p1⟩
    obtain ⟨p, rfl⟩ : ∃ k : Nat, p = k := ⟨p.toNat, by omega⟩
    obtain ⟨l, g1, g2, g3⟩ := get_dis (ls := as) (k := p) (by omega)
    have g4 := pop_at g2 (by omega)
    (try simp -implicitDefEqProofs (maxSteps := 1000000) (disch := walk_at "d") only [g4, z_bind, z_bindX, z_bindS, z_assoc, z_opt, z_optN, z_obind, z_unB, z_unBT, z_unI, z_unS, z_unL, z_sbind, z_nbind, z_smT, z_smL, z_td, z_tdL, z_unT, z_unC, z_un0, z_rg1, z_rg2, z_iterL, z_iterT, z_iterF, z_iterS, z_put, z_raise, z_tryOk, z_tryX, z_tryS, z_putG, x_add, x_addL, x_addT, x_addS, x_sub, x_band, x_bor, x_bxor, x_mul, x_fdiv, x_mod, x_pow, x_shl, x_shr, x_neg, x_lt, x_le, x_gt', x_ge, x_eqI, x_neI, x_eqS, x_neS, x_eqB, x_neB, x_is, x_isnot, x_ixT, x_ixL, x_ixF, x_ixS, x_lenL, x_lenT, x_lenF, x_lenS, x_abs, x_min, x_max, x_int, x_intB, x_list, x_tup, x_itL, x_itF, x_itT, x_slT, x_slL, x_slF, x_slS, x_seqL, x_seqT, x_count, x_starts, x_sumL, x_sortedL, x_join, x_zipT_LL, x_zpL_LL, x_zipT_LT, x_zpL_LT, x_zipT_TL, x_zpL_TL, x_zipT_TT, x_zpL_TT, x_isD_nn, x_isD_nb, x_isD_bn, x_isD_bb, x_isD_in, x_isD_ib, x_isD_sn, x_isD_sb, x_isD_ln, x_isD_lb, x_isD_tn, x_isD_tb, x_truN, x_truB, x_truI, x_truL, x_truF, x_truT, x_truS, x_eqIL, x_eqIT, x_eqIR, x_eqBB, x_cut, x_boolB, x_boolI, x_revT, x_revL, x_revF, x_repT, x_map, x_ipAdd, x_ipSub, x_ipXor, x_atN, x_isi_n_int, x_isi_n_bool, x_isi_n_str, x_isi_n_list, x_isi_n_tuple, x_isi_b_int, x_isi_b_bool, x_isi_b_str, x_isi_b_list, x_isi_b_tuple, x_isi_i_int, x_isi_i_bool, x_isi_i_str, x_isi_i_list, x_isi_i_tuple, x_isi_s_int, x_isi_s_bool, x_isi_s_str, x_isi_s_list, x_isi_s_tuple, x_isi_l_int, x_isi_l_bool, x_isi_l_str, x_isi_l_list, x_isi_l_tuple, x_isi_t_int, x_isi_t_bool, x_isi_t_str, x_isi_t_list, x_isi_t_tuple, List.length_cons, List.length_nil, List.getElem?_cons_zero, List.getElem?_cons_succ, List.set_cons_zero, List.set_cons_succ, List.map_cons, List.map_nil, List.cons_append, List.nil_append, Bool.and_self, Bool.and_true, Bool.true_and, Bool.and_false, Bool.false_and, Bool.not_true, Bool.not_false, Bool.false_eq_true, if_true, if_false, ite_true, ite_false, decide_true, decide_false, decide_eq_true_eq, decide_eq_false_iff_not, Bool.not_eq_true, Bool.not_eq_true', Nat.zero_add, Option.map_some, Int.toNat_natCast, reduceIte, reduceCtorEq, Int.reduceToNat, Int.reduceNeg, Int.reduceAdd, Int.reduceSub, Int.reduceMul, Int.reduceLT, Int.reduceLE, Int.reducePow, Nat.reduceLT, Nat.reduceLeDiff, Nat.reduceAdd, Nat.reduceMul, Nat.reduceSub, Int.reduceMod, Int.reduceDiv, Int.reduceEq, Nat.reduceEqDiff, Int.cast_ofNat_Int, wp_ok, wp_bind, wp_stuck, wp_exc, id_eq])
    rw [if_pos (by omega)]
    refine ⟨he, as.eraseIdx p, bs ++ [l], rfl, by unfold dis; rw [List.map_append]; rfl, by rw [List.length_eraseIdx_of_lt (by omega)]; omega, (perm_out g2).trans h2⟩
  · rintro ⟨e, _, _⟩ ⟨he, as, bs, ha, hb, h1, h2⟩
    dsimp only at ha hb he
    subst ha hb
    rw [rgD_len, ll] at h1
    have : as = [] := List.length_eq_zero_iff.mp (by omega)
    subst this
    exact ⟨he, bs, rfl, h2⟩
theorem t_int (i : Int) : f_law_int (.int i) = .ok (.bl true) := by
  simp only [f_law_int, r_law_int]
  (try simp -implicitDefEqProofs (maxSteps := 1000000) (disch := walk_at "d") only [z_bindI, wp_I, false_imp_iff, true_imp_iff, not_false_eq_true, not_true_eq_false, true_and, and_true, and_self, z_bind, z_bindX, z_bindS, z_assoc, z_opt, z_optN, z_obind, z_unB, z_unBT, z_unI, z_unS, z_unL, z_sbind, z_nbind, z_smT, z_smL, z_td, z_tdL, z_unT, z_unC, z_un0, z_rg1, z_rg2, z_iterL, z_iterT, z_iterF, z_iterS, z_put, z_raise, z_tryOk, z_tryX, z_tryS, z_putG, x_add, x_addL, x_addT, x_addS, x_sub, x_band, x_bor, x_bxor, x_mul, x_fdiv, x_mod, x_pow, x_shl, x_shr, x_neg, x_lt, x_le, x_gt', x_ge, x_eqI, x_neI, x_eqS, x_neS, x_eqB, x_neB, x_is, x_isnot, x_ixT, x_ixL, x_ixF, x_ixS, x_lenL, x_lenT, x_lenF, x_lenS, x_abs, x_min, x_max, x_int, x_intB, x_list, x_tup, x_itL, x_itF, x_itT, x_slT, x_slL, x_slF, x_slS, x_seqL, x_seqT, x_count, x_starts, x_sumL, x_sortedL, x_join, x_zipT_LL, x_zpL_LL, x_zipT_LT, x_zpL_LT, x_zipT_TL, x_zpL_TL, x_zipT_TT, x_zpL_TT, x_isD_nn, x_isD_nb, x_isD_bn, x_isD_bb, x_isD_in, x_isD_ib, x_isD_sn, x_isD_sb, x_isD_ln, x_isD_lb, x_isD_tn, x_isD_tb, x_truN, x_truB, x_truI, x_truL, x_truF, x_truT, x_truS, x_eqIL, x_eqIT, x_eqIR, x_eqBB, x_cut, x_boolB, x_boolI, x_revT, x_revL, x_revF, x_repT, x_map, x_ipAdd, x_ipSub, x_ipXor, x_atN, x_isi_n_int, x_isi_n_bool, x_isi_n_str, x_isi_n_list, x_isi_n_tuple, x_isi_b_int, x_isi_b_bool, x_isi_b_str, x_isi_b_list, x_isi_b_tuple, x_isi_i_int, x_isi_i_bool, x_isi_i_str, x_isi_i_list, x_isi_i_tuple, x_isi_s_int, x_isi_s_bool, x_isi_s_str, x_isi_s_list, x_isi_s_tuple, x_isi_l_int, x_isi_l_bool, x_isi_l_str, x_isi_l_list, x_isi_l_tuple, x_isi_t_int, x_isi_t_bool, x_isi_t_str, x_isi_t_list, x_isi_t_tuple, List.length_cons, List.length_nil, List.getElem?_cons_zero, List.getElem?_cons_succ, List.set_cons_zero, List.set_cons_succ, List.map_cons, List.map_nil, List.cons_append, List.nil_append, Bool.and_self, Bool.and_true, Bool.true_and, Bool.and_false, Bool.false_and, Bool.not_true, Bool.not_false, Bool.false_eq_true, if_true, if_false, ite_true, ite_false, decide_true, decide_false, decide_eq_true_eq, decide_eq_false_iff_not, Bool.not_eq_true, Bool.not_eq_true', Nat.zero_add, Option.map_some, Int.toNat_natCast, reduceIte, reduceCtorEq, Int.reduceToNat, Int.reduceNeg, Int.reduceAdd, Int.reduceSub, Int.reduceMul, Int.reduceLT, Int.reduceLE, Int.reducePow, Nat.reduceLT, Nat.reduceLeDiff, Nat.reduceAdd, Nat.reduceMul, Nat.reduceSub, Int.reduceMod, Int.reduceDiv, Int.reduceEq, Nat.reduceEqDiff, Int.cast_ofNat_Int, wp_ok, wp_bind, wp_stuck, wp_exc, id_eq])
theorem s_same (n : Nat) : ∀ d : D, sameOk n d = true → (f_law_same n d d).wp fun r => r = .bl true := by
  induction n with
  | zero => intro d h; cases h
  | succ n ih =>
    intro d h
    have seq : ∀ ds : List D, ds.all (sameOk n) = true → ∀ k (d : D), (rgD 0 ds.length)[k]? = some d → ∃ x, d = .int (k : Nat) ∧ ds[k]? = some x ∧ (f_law_same n x x).wp fun r => r = .bl true := fun ds hall k d hd => by
      obtain ⟨hk, rfl⟩ := rgD_get hd
      obtain ⟨x, hx⟩ := KM.lt_get hk
      exact ⟨x, rfl, hx, ih x (List.all_eq_true.mp hall x (List.mem_of_getElem? hx))⟩
    show ((r1_law_same n (r_law_same n) d d).1).wp _
    simp only [r1_law_same]
    cases d with
    | non => (try simp -implicitDefEqProofs (maxSteps := 1000000) (disch := walk_at "d") only [z_bindI, wp_I, false_imp_iff, true_imp_iff, not_false_eq_true, not_true_eq_false, true_and, and_true, and_self, z_bind, z_bindX, z_bindS, z_assoc, z_opt, z_optN, z_obind, z_unB, z_unBT, z_unI, z_unS, z_unL, z_sbind, z_nbind, z_smT, z_smL, z_td, z_tdL, z_unT, z_unC, z_un0, z_rg1, z_rg2, z_iterL, z_iterT, z_iterF, z_iterS, z_put, z_raise, z_tryOk, z_tryX, z_tryS, z_putG, x_add, x_addL, x_addT, x_addS, x_sub, x_band, x_bor, x_bxor, x_mul, x_fdiv, x_mod, x_pow, x_shl, x_shr, x_neg, x_lt, x_le, x_gt', x_ge, x_eqI, x_neI, x_eqS, x_neS, x_eqB, x_neB, x_is, x_isnot, x_ixT, x_ixL, x_ixF, x_ixS, x_lenL, x_lenT, x_lenF, x_lenS, x_abs, x_min, x_max, x_int, x_intB, x_list, x_tup, x_itL, x_itF, x_itT, x_slT, x_slL, x_slF, x_slS, x_seqL, x_seqT, x_count, x_starts, x_sumL, x_sortedL, x_join, x_zipT_LL, x_zpL_LL, x_zipT_LT, x_zpL_LT, x_zipT_TL, x_zpL_TL, x_zipT_TT, x_zpL_TT, x_isD_nn, x_isD_nb, x_isD_bn, x_isD_bb, x_isD_in, x_isD_ib, x_isD_sn, x_isD_sb, x_isD_ln, x_isD_lb, x_isD_tn, x_isD_tb, x_truN, x_truB, x_truI, x_truL, x_truF, x_truT, x_truS, x_eqIL, x_eqIT, x_eqIR, x_eqBB, x_cut, x_boolB, x_boolI, x_revT, x_revL, x_revF, x_repT, x_map, x_ipAdd, x_ipSub, x_ipXor, x_atN, x_isi_n_int, x_isi_n_bool, x_isi_n_str, x_isi_n_list, x_isi_n_tuple, x_isi_b_int, x_isi_b_bool, x_isi_b_str, x_isi_b_list, x_isi_b_tuple, x_isi_i_int, x_isi_i_bool, x_isi_i_str, x_isi_i_list, x_isi_i_tuple, x_isi_s_int, x_isi_s_bool, x_isi_s_str, x_isi_s_list, x_isi_s_tuple, x_isi_l_int, x_isi_l_bool, x_isi_l_str, x_isi_l_list, x_isi_l_tuple, x_isi_t_int, x_isi_t_bool, x_isi_t_str, x_isi_t_list, x_isi_t_tuple, List.length_cons, List.length_nil, List.getElem?_cons_zero, List.getElem?_cons_succ, List.set_cons_zero, List.set_cons_succ, List.map_cons, List.map_nil, List.cons_append, List.nil_append, Bool.and_self, Bool.and_true, Bool.true_and, Bool.and_false, Bool.false_and, Bool.not_true, Bool.not_false, Bool.false_eq_true, if_true, if_false, ite_true, ite_false, decide_true, decide_false, decide_eq_true_eq, decide_eq_false_iff_not, Bool.not_eq_true, Bool.not_eq_true', Nat.zero_add, Option.map_some, Int.toNat_natCast, reduceIte, reduceCtorEq, Int.reduceToNat, Int.reduceNeg, Int.reduceAdd, Int.reduceSub, Int.reduceMul, Int.reduceLT, Int.reduceLE, Int.reducePow, Nat.reduceLT, Nat.reduceLeDiff, Nat.reduceAdd, Nat.reduceMul, Nat.reduceSub, Int.reduceMod, Int.reduceDiv, Int.reduceEq, Nat.reduceEqDiff, Int.cast_ofNat_Int, wp_ok, wp_bind, wp_stuck, wp_exc, id_eq])
    | bl v => cases v <;> (try simp -implicitDefEqProofs (maxSteps := 1000000) (disch := walk_at "d") only [z_bindI, wp_I, false_imp_iff, true_imp_iff, not_false_eq_true, not_true_eq_false, true_and, and_true, and_self, z_bind, z_bindX, z_bindS, z_assoc, z_opt, z_optN, z_obind, z_unB, z_unBT, z_unI, z_unS, z_unL, z_sbind, z_nbind, z_smT, z_smL, z_td, z_tdL, z_unT, z_unC, z_un0, z_rg1, z_rg2, z_iterL, z_iterT, z_iterF, z_iterS, z_put, z_raise, z_tryOk, z_tryX, z_tryS, z_putG, x_add, x_addL, x_addT, x_addS, x_sub, x_band, x_bor, x_bxor, x_mul, x_fdiv, x_mod, x_pow, x_shl, x_shr, x_neg, x_lt, x_le, x_gt', x_ge, x_eqI, x_neI, x_eqS, x_neS, x_eqB, x_neB, x_is, x_isnot, x_ixT, x_ixL, x_ixF, x_ixS, x_lenL, x_lenT, x_lenF, x_lenS, x_abs, x_min, x_max, x_int, x_intB, x_list, x_tup, x_itL, x_itF, x_itT, x_slT, x_slL, x_slF, x_slS, x_seqL, x_seqT, x_count, x_starts, x_sumL, x_sortedL, x_join, x_zipT_LL, x_zpL_LL, x_zipT_LT, x_zpL_LT, x_zipT_TL, x_zpL_TL, x_zipT_TT, x_zpL_TT, x_isD_nn, x_isD_nb, x_isD_bn, x_isD_bb, x_isD_in, x_isD_ib, x_isD_sn, x_isD_sb, x_isD_ln, x_isD_lb, x_isD_tn, x_isD_tb, x_truN, x_truB, x_truI, x_truL, x_truF, x_truT, x_truS, x_eqIL, x_eqIT, x_eqIR, x_eqBB, x_cut, x_boolB, x_boolI, x_revT, x_revL, x_revF, x_repT, x_map, x_ipAdd, x_ipSub, x_ipXor, x_atN, x_isi_n_int, x_isi_n_bool, x_isi_n_str, x_isi_n_list, x_isi_n_tuple, x_isi_b_int, x_isi_b_bool, x_isi_b_str, x_isi_b_list, x_isi_b_tuple, x_isi_i_int, x_isi_i_bool, x_isi_i_str, x_isi_i_list, x_isi_i_tuple, x_isi_s_int, x_isi_s_bool, x_isi_s_str, x_isi_s_list, x_isi_s_tuple, x_isi_l_int, x_isi_l_bool, x_isi_l_str, x_isi_l_list, x_isi_l_tuple, x_isi_t_int, x_isi_t_bool, x_isi_t_str, x_isi_t_list, x_isi_t_tuple, List.length_cons, List.length_nil, List.getElem?_cons_zero, List.getElem?_cons_succ, List.set_cons_zero, List.set_cons_succ, List.map_cons, List.map_nil, List.cons_append, List.nil_append, Bool.and_self, Bool.and_true, Bool.true_and, Bool.and_false, Bool.false_and, Bool.not_true, Bool.not_false, Bool.false_eq_true, if_true, if_false, ite_true, ite_false, decide_true, decide_false, decide_eq_true_eq, decide_eq_false_iff_not, Bool.not_eq_true, Bool.not_eq_true', Nat.zero_add, Option.map_some, Int.toNat_natCast, reduceIte, reduceCtorEq, Int.reduceToNat, Int.reduceNeg, Int.reduceAdd, Int.reduceSub, Int.reduceMul, Int.reduceLT, Int.reduceLE, Int.reducePow, Nat.reduceLT, Nat.reduceLeDiff, Nat.reduceAdd, Nat.reduceMul, Nat.reduceSub, Int.reduceMod, Int.reduceDiv, Int.reduceEq, Nat.reduceEqDiff, Int.cast_ofNat_Int, wp_ok, wp_bind, wp_stuck, wp_exc, id_eq])
    | int i => (try simp -implicitDefEqProofs (maxSteps := 1000000) (disch := walk_at "d") only [z_bindI, wp_I, false_imp_iff, true_imp_iff, not_false_eq_true, not_true_eq_false, true_and, and_true, and_self, t_int, z_bind, z_bindX, z_bindS, z_assoc, z_opt, z_optN, z_obind, z_unB, z_unBT, z_unI, z_unS, z_unL, z_sbind, z_nbind, z_smT, z_smL, z_td, z_tdL, z_unT, z_unC, z_un0, z_rg1, z_rg2, z_iterL, z_iterT, z_iterF, z_iterS, z_put, z_raise, z_tryOk, z_tryX, z_tryS, z_putG, x_add, x_addL, x_addT, x_addS, x_sub, x_band, x_bor, x_bxor, x_mul, x_fdiv, x_mod, x_pow, x_shl, x_shr, x_neg, x_lt, x_le, x_gt', x_ge, x_eqI, x_neI, x_eqS, x_neS, x_eqB, x_neB, x_is, x_isnot, x_ixT, x_ixL, x_ixF, x_ixS, x_lenL, x_lenT, x_lenF, x_lenS, x_abs, x_min, x_max, x_int, x_intB, x_list, x_tup, x_itL, x_itF, x_itT, x_slT, x_slL, x_slF, x_slS, x_seqL, x_seqT, x_count, x_starts, x_sumL, x_sortedL, x_join, x_zipT_LL, x_zpL_LL, x_zipT_LT, x_zpL_LT, x_zipT_TL, x_zpL_TL, x_zipT_TT, x_zpL_TT, x_isD_nn, x_isD_nb, x_isD_bn, x_isD_bb, x_isD_in, x_isD_ib, x_isD_sn, x_isD_sb, x_isD_ln, x_isD_lb, x_isD_tn, x_isD_tb, x_truN, x_truB, x_truI, x_truL, x_truF, x_truT, x_truS, x_eqIL, x_eqIT, x_eqIR, x_eqBB, x_cut, x_boolB, x_boolI, x_revT, x_revL, x_revF, x_repT, x_map, x_ipAdd, x_ipSub, x_ipXor, x_atN, x_isi_n_int, x_isi_n_bool, x_isi_n_str, x_isi_n_list, x_isi_n_tuple, x_isi_b_int, x_isi_b_bool, x_isi_b_str, x_isi_b_list, x_isi_b_tuple, x_isi_i_int, x_isi_i_bool, x_isi_i_str, x_isi_i_list, x_isi_i_tuple, x_isi_s_int, x_isi_s_bool, x_isi_s_str, x_isi_s_list, x_isi_s_tuple, x_isi_l_int, x_isi_l_bool, x_isi_l_str, x_isi_l_list, x_isi_l_tuple, x_isi_t_int, x_isi_t_bool, x_isi_t_str, x_isi_t_list, x_isi_t_tuple, List.length_cons, List.length_nil, List.getElem?_cons_zero, List.getElem?_cons_succ, List.set_cons_zero, List.set_cons_succ, List.map_cons, List.map_nil, List.cons_append, List.nil_append, Bool.and_self, Bool.and_true, Bool.true_and, Bool.and_false, Bool.false_and, Bool.not_true, Bool.not_false, Bool.false_eq_true, if_true, if_false, ite_true, ite_false, decide_true, decide_false, decide_eq_true_eq, decide_eq_false_iff_not, Bool.not_eq_true, Bool.not_eq_true', Nat.zero_add, Option.map_some, Int.toNat_natCast, reduceIte, reduceCtorEq, Int.reduceToNat, Int.reduceNeg, Int.reduceAdd, Int.reduceSub, Int.reduceMul, Int.reduceLT, Int.reduceLE, Int.reducePow, Nat.reduceLT, Nat.reduceLeDiff, Nat.reduceAdd, Nat.reduceMul, Nat.reduceSub, Int.reduceMod, Int.reduceDiv, Int.reduceEq, Nat.reduceEqDiff, Int.cast_ofNat_Int, wp_ok, wp_bind, wp_stuck, wp_exc, id_eq])
    | str z => (try simp -implicitDefEqProofs (maxSteps := 1000000) (disch := walk_at "d") only [z_bindI, wp_I, false_imp_iff, true_imp_iff, not_false_eq_true, not_true_eq_false, true_and, and_true, and_self, z_bind, z_bindX, z_bindS, z_assoc, z_opt, z_optN, z_obind, z_unB, z_unBT, z_unI, z_unS, z_unL, z_sbind, z_nbind, z_smT, z_smL, z_td, z_tdL, z_unT, z_unC, z_un0, z_rg1, z_rg2, z_iterL, z_iterT, z_iterF, z_iterS, z_put, z_raise, z_tryOk, z_tryX, z_tryS, z_putG, x_add, x_addL, x_addT, x_addS, x_sub, x_band, x_bor, x_bxor, x_mul, x_fdiv, x_mod, x_pow, x_shl, x_shr, x_neg, x_lt, x_le, x_gt', x_ge, x_eqI, x_neI, x_eqS, x_neS, x_eqB, x_neB, x_is, x_isnot, x_ixT, x_ixL, x_ixF, x_ixS, x_lenL, x_lenT, x_lenF, x_lenS, x_abs, x_min, x_max, x_int, x_intB, x_list, x_tup, x_itL, x_itF, x_itT, x_slT, x_slL, x_slF, x_slS, x_seqL, x_seqT, x_count, x_starts, x_sumL, x_sortedL, x_join, x_zipT_LL, x_zpL_LL, x_zipT_LT, x_zpL_LT, x_zipT_TL, x_zpL_TL, x_zipT_TT, x_zpL_TT, x_isD_nn, x_isD_nb, x_isD_bn, x_isD_bb, x_isD_in, x_isD_ib, x_isD_sn, x_isD_sb, x_isD_ln, x_isD_lb, x_isD_tn, x_isD_tb, x_truN, x_truB, x_truI, x_truL, x_truF, x_truT, x_truS, x_eqIL, x_eqIT, x_eqIR, x_eqBB, x_cut, x_boolB, x_boolI, x_revT, x_revL, x_revF, x_repT, x_map, x_ipAdd, x_ipSub, x_ipXor, x_atN, x_isi_n_int, x_isi_n_bool, x_isi_n_str, x_isi_n_list, x_isi_n_tuple, x_isi_b_int, x_isi_b_bool, x_isi_b_str, x_isi_b_list, x_isi_b_tuple, x_isi_i_int, x_isi_i_bool, x_isi_i_str, x_isi_i_list, x_isi_i_tuple, x_isi_s_int, x_isi_s_bool, x_isi_s_str, x_isi_s_list, x_isi_s_tuple, x_isi_l_int, x_isi_l_bool, x_isi_l_str, x_isi_l_list, x_isi_l_tuple, x_isi_t_int, x_isi_t_bool, x_isi_t_str, x_isi_t_list, x_isi_t_tuple, List.length_cons, List.length_nil, List.getElem?_cons_zero, List.getElem?_cons_succ, List.set_cons_zero, List.set_cons_succ, List.map_cons, List.map_nil, List.cons_append, List.nil_append, Bool.and_self, Bool.and_true, Bool.true_and, Bool.and_false, Bool.false_and, Bool.not_true, Bool.not_false, Bool.false_eq_true, if_true, if_false, ite_true, ite_false, decide_true, decide_false, decide_eq_true_eq, decide_eq_false_iff_not, Bool.not_eq_true, Bool.not_eq_true', Nat.zero_add, Option.map_some, Int.toNat_natCast, reduceIte, reduceCtorEq, Int.reduceToNat, Int.reduceNeg, Int.reduceAdd, Int.reduceSub, Int.reduceMul, Int.reduceLT, Int.reduceLE, Int.reducePow, Nat.reduceLT, Nat.reduceLeDiff, Nat.reduceAdd, Nat.reduceMul, Nat.reduceSub, Int.reduceMod, Int.reduceDiv, Int.reduceEq, Nat.reduceEqDiff, Int.cast_ofNat_Int, wp_ok, wp_bind, wp_stuck, wp_exc, id_eq])
    | tup ds =>
      have h : (ds.all (sameOk n) && decide (ds.length ≤ 16777216)) = true := h
      rw [Bool.and_eq_true] at h
      have hz : ds.length ≤ 16777216 := of_decide_eq_true h.2
      (try simp -implicitDefEqProofs (maxSteps := 1000000) (disch := walk_at "d") only [z_bindI, wp_I, false_imp_iff, true_imp_iff, not_false_eq_true, not_true_eq_false, true_and, and_true, and_self, z_bind, z_bindX, z_bindS, z_assoc, z_opt, z_optN, z_obind, z_unB, z_unBT, z_unI, z_unS, z_unL, z_sbind, z_nbind, z_smT, z_smL, z_td, z_tdL, z_unT, z_unC, z_un0, z_rg1, z_rg2, z_iterL, z_iterT, z_iterF, z_iterS, z_put, z_raise, z_tryOk, z_tryX, z_tryS, z_putG, x_add, x_addL, x_addT, x_addS, x_sub, x_band, x_bor, x_bxor, x_mul, x_fdiv, x_mod, x_pow, x_shl, x_shr, x_neg, x_lt, x_le, x_gt', x_ge, x_eqI, x_neI, x_eqS, x_neS, x_eqB, x_neB, x_is, x_isnot, x_ixT, x_ixL, x_ixF, x_ixS, x_lenL, x_lenT, x_lenF, x_lenS, x_abs, x_min, x_max, x_int, x_intB, x_list, x_tup, x_itL, x_itF, x_itT, x_slT, x_slL, x_slF, x_slS, x_seqL, x_seqT, x_count, x_starts, x_sumL, x_sortedL, x_join, x_zipT_LL, x_zpL_LL, x_zipT_LT, x_zpL_LT, x_zipT_TL, x_zpL_TL, x_zipT_TT, x_zpL_TT, x_isD_nn, x_isD_nb, x_isD_bn, x_isD_bb, x_isD_in, x_isD_ib, x_isD_sn, x_isD_sb, x_isD_ln, x_isD_lb, x_isD_tn, x_isD_tb, x_truN, x_truB, x_truI, x_truL, x_truF, x_truT, x_truS, x_eqIL, x_eqIT, x_eqIR, x_eqBB, x_cut, x_boolB, x_boolI, x_revT, x_revL, x_revF, x_repT, x_map, x_ipAdd, x_ipSub, x_ipXor, x_atN, x_isi_n_int, x_isi_n_bool, x_isi_n_str, x_isi_n_list, x_isi_n_tuple, x_isi_b_int, x_isi_b_bool, x_isi_b_str, x_isi_b_list, x_isi_b_tuple, x_isi_i_int, x_isi_i_bool, x_isi_i_str, x_isi_i_list, x_isi_i_tuple, x_isi_s_int, x_isi_s_bool, x_isi_s_str, x_isi_s_list, x_isi_s_tuple, x_isi_l_int, x_isi_l_bool, x_isi_l_str, x_isi_l_list, x_isi_l_tuple, x_isi_t_int, x_isi_t_bool, x_isi_t_str, x_isi_t_list, x_isi_t_tuple, List.length_cons, List.length_nil, List.getElem?_cons_zero, List.getElem?_cons_succ, List.set_cons_zero, List.set_cons_succ, List.map_cons, List.map_nil, List.cons_append, List.nil_append, Bool.and_self, Bool.and_true, Bool.true_and, Bool.and_false, Bool.false_and, Bool.not_true, Bool.not_false, Bool.false_eq_true, if_true, if_false, ite_true, ite_false, decide_true, decide_false, decide_eq_true_eq, decide_eq_false_iff_not, Bool.not_eq_true, Bool.not_eq_true', Nat.zero_add, Option.map_some, Int.toNat_natCast, reduceIte, reduceCtorEq, Int.reduceToNat, Int.reduceNeg, Int.reduceAdd, Int.reduceSub, Int.reduceMul, Int.reduceLT, Int.reduceLE, Int.reducePow, Nat.reduceLT, Nat.reduceLeDiff, Nat.reduceAdd, Nat.reduceMul, Nat.reduceSub, Int.reduceMod, Int.reduceDiv, Int.reduceEq, Nat.reduceEqDiff, Int.cast_ofNat_Int, wp_ok, wp_bind, wp_stuck, wp_exc, id_eq])
      refine wp_forF (S := Unit) (fun _ _ => True) _ 0 _ trivial (fun k d s hd _ => ?_) fun _ _ => ?_
      · obtain ⟨x, rfl, hx, hw⟩ := seq ds h.1 k d hd
        obtain ⟨_, e, rfl⟩ := hw.ex
        simp only [f_law_same] at e
        (try simp -implicitDefEqProofs (maxSteps := 1000000) (disch := walk_at "d") only [z_bindI, wp_I, false_imp_iff, true_imp_iff, not_false_eq_true, not_true_eq_false, true_and, and_true, and_self, hx, e, z_bind, z_bindX, z_bindS, z_assoc, z_opt, z_optN, z_obind, z_unB, z_unBT, z_unI, z_unS, z_unL, z_sbind, z_nbind, z_smT, z_smL, z_td, z_tdL, z_unT, z_unC, z_un0, z_rg1, z_rg2, z_iterL, z_iterT, z_iterF, z_iterS, z_put, z_raise, z_tryOk, z_tryX, z_tryS, z_putG, x_add, x_addL, x_addT, x_addS, x_sub, x_band, x_bor, x_bxor, x_mul, x_fdiv, x_mod, x_pow, x_shl, x_shr, x_neg, x_lt, x_le, x_gt', x_ge, x_eqI, x_neI, x_eqS, x_neS, x_eqB, x_neB, x_is, x_isnot, x_ixT, x_ixL, x_ixF, x_ixS, x_lenL, x_lenT, x_lenF, x_lenS, x_abs, x_min, x_max, x_int, x_intB, x_list, x_tup, x_itL, x_itF, x_itT, x_slT, x_slL, x_slF, x_slS, x_seqL, x_seqT, x_count, x_starts, x_sumL, x_sortedL, x_join, x_zipT_LL, x_zpL_LL, x_zipT_LT, x_zpL_LT, x_zipT_TL, x_zpL_TL, x_zipT_TT, x_zpL_TT, x_isD_nn, x_isD_nb, x_isD_bn, x_isD_bb, x_isD_in, x_isD_ib, x_isD_sn, x_isD_sb, x_isD_ln, x_isD_lb, x_isD_tn, x_isD_tb, x_truN, x_truB, x_truI, x_truL, x_truF, x_truT, x_truS, x_eqIL, x_eqIT, x_eqIR, x_eqBB, x_cut, x_boolB, x_boolI, x_revT, x_revL, x_revF, x_repT, x_map, x_ipAdd, x_ipSub, x_ipXor, x_atN, x_isi_n_int, x_isi_n_bool, x_isi_n_str, x_isi_n_list, x_isi_n_tuple, x_isi_b_int, x_isi_b_bool, x_isi_b_str, x_isi_b_list, x_isi_b_tuple, x_isi_i_int, x_isi_i_bool, x_isi_i_str, x_isi_i_list, x_isi_i_tuple, x_isi_s_int, x_isi_s_bool, x_isi_s_str, x_isi_s_list, x_isi_s_tuple, x_isi_l_int, x_isi_l_bool, x_isi_l_str, x_isi_l_list, x_isi_l_tuple, x_isi_t_int, x_isi_t_bool, x_isi_t_str, x_isi_t_list, x_isi_t_tuple, List.length_cons, List.length_nil, List.getElem?_cons_zero, List.getElem?_cons_succ, List.set_cons_zero, List.set_cons_succ, List.map_cons, List.map_nil, List.cons_append, List.nil_append, Bool.and_self, Bool.and_true, Bool.true_and, Bool.and_false, Bool.false_and, Bool.not_true, Bool.not_false, Bool.false_eq_true, if_true, if_false, ite_true, ite_false, decide_true, decide_false, decide_eq_true_eq, decide_eq_false_iff_not, Bool.not_eq_true, Bool.not_eq_true', Nat.zero_add, Option.map_some, Int.toNat_natCast, reduceIte, reduceCtorEq, Int.reduceToNat, Int.reduceNeg, Int.reduceAdd, Int.reduceSub, Int.reduceMul, Int.reduceLT, Int.reduceLE, Int.reducePow, Nat.reduceLT, Nat.reduceLeDiff, Nat.reduceAdd, Nat.reduceMul, Nat.reduceSub, Int.reduceMod, Int.reduceDiv, Int.reduceEq, Nat.reduceEqDiff, Int.cast_ofNat_Int, wp_ok, wp_bind, wp_stuck, wp_exc, id_eq])
      · (try simp -implicitDefEqProofs (maxSteps := 1000000) (disch := walk_at "d") only [z_bindI, wp_I, false_imp_iff, true_imp_iff, not_false_eq_true, not_true_eq_false, true_and, and_true, and_self, z_bind, z_bindX, z_bindS, z_assoc, z_opt, z_optN, z_obind, z_unB, z_unBT, z_unI, z_unS, z_unL, z_sbind, z_nbind, z_smT, z_smL, z_td, z_tdL, z_unT, z_unC, z_un0, z_rg1, z_rg2, z_iterL, z_iterT, z_iterF, z_iterS, z_put, z_raise, z_tryOk, z_tryX, z_tryS, z_putG, x_add, x_addL, x_addT, x_addS, x_sub, x_band, x_bor, x_bxor, x_mul, x_fdiv, x_mod, x_pow, x_shl, x_shr, x_neg, x_lt, x_le, x_gt', x_ge, x_eqI, x_neI, x_eqS, x_neS, x_eqB, x_neB, x_is, x_isnot, x_ixT, x_ixL, x_ixF, x_ixS, x_lenL, x_lenT, x_lenF, x_lenS, x_abs, x_min, x_max, x_int, x_intB, x_list, x_tup, x_itL, x_itF, x_itT, x_slT, x_slL, x_slF, x_slS, x_seqL, x_seqT, x_count, x_starts, x_sumL, x_sortedL, x_join, x_zipT_LL, x_zpL_LL, x_zipT_LT, x_zpL_LT, x_zipT_TL, x_zpL_TL, x_zipT_TT, x_zpL_TT, x_isD_nn, x_isD_nb, x_isD_bn, x_isD_bb, x_isD_in, x_isD_ib, x_isD_sn, x_isD_sb, x_isD_ln, x_isD_lb, x_isD_tn, x_isD_tb, x_truN, x_truB, x_truI, x_truL, x_truF, x_truT, x_truS, x_eqIL, x_eqIT, x_eqIR, x_eqBB, x_cut, x_boolB, x_boolI, x_revT, x_revL, x_revF, x_repT, x_map, x_ipAdd, x_ipSub, x_ipXor, x_atN, x_isi_n_int, x_isi_n_bool, x_isi_n_str, x_isi_n_list, x_isi_n_tuple, x_isi_b_int, x_isi_b_bool, x_isi_b_str, x_isi_b_list, x_isi_b_tuple, x_isi_i_int, x_isi_i_bool, x_isi_i_str, x_isi_i_list, x_isi_i_tuple, x_isi_s_int, x_isi_s_bool, x_isi_s_str, x_isi_s_list, x_isi_s_tuple, x_isi_l_int, x_isi_l_bool, x_isi_l_str, x_isi_l_list, x_isi_l_tuple, x_isi_t_int, x_isi_t_bool, x_isi_t_str, x_isi_t_list, x_isi_t_tuple, List.length_cons, List.length_nil, List.getElem?_cons_zero, List.getElem?_cons_succ, List.set_cons_zero, List.set_cons_succ, List.map_cons, List.map_nil, List.cons_append, List.nil_append, Bool.and_self, Bool.and_true, Bool.true_and, Bool.and_false, Bool.false_and, Bool.not_true, Bool.not_false, Bool.false_eq_true, if_true, if_false, ite_true, ite_false, decide_true, decide_false, decide_eq_true_eq, decide_eq_false_iff_not, Bool.not_eq_true, Bool.not_eq_true', Nat.zero_add, Option.map_some, Int.toNat_natCast, reduceIte, reduceCtorEq, Int.reduceToNat, Int.reduceNeg, Int.reduceAdd, Int.reduceSub, Int.reduceMul, Int.reduceLT, Int.reduceLE, Int.reducePow, Nat.reduceLT, Nat.reduceLeDiff, Nat.reduceAdd, Nat.reduceMul, Nat.reduceSub, Int.reduceMod, Int.reduceDiv, Int.reduceEq, Nat.reduceEqDiff, Int.cast_ofNat_Int, wp_ok, wp_bind, wp_stuck, wp_exc, id_eq])
    | lst ds =>
      have h : (ds.all (sameOk n) && decide (ds.length ≤ 16777216)) = true := h
      rw [Bool.and_eq_true] at h
      have hz : ds.length ≤ 16777216 := of_decide_eq_true h.2
      (try simp -implicitDefEqProofs (maxSteps := 1000000) (disch := walk_at "d") only [z_bindI, wp_I, false_imp_iff, true_imp_iff, not_false_eq_true, not_true_eq_false, true_and, and_true, and_self, z_bind, z_bindX, z_bindS, z_assoc, z_opt, z_optN, z_obind, z_unB, z_unBT, z_unI, z_unS, z_unL, z_sbind, z_nbind, z_smT, z_smL, z_td, z_tdL, z_unT, z_unC, z_un0, z_rg1, z_rg2, z_iterL, z_iterT, z_iterF, z_iterS, z_put, z_raise, z_tryOk, z_tryX, z_tryS, z_putG, x_add, x_addL, x_addT, x_addS, x_sub, x_band, x_bor, x_bxor, x_mul, x_fdiv, x_mod, x_pow, x_shl, x_shr, x_neg, x_lt, x_le, x_gt', x_ge, x_eqI, x_neI, x_eqS, x_neS, x_eqB, x_neB, x_is, x_isnot, x_ixT, x_ixL, x_ixF, x_ixS, x_lenL, x_lenT, x_lenF, x_lenS, x_abs, x_min, x_max, x_int, x_intB, x_list, x_tup, x_itL, x_itF, x_itT, x_slT, x_slL, x_slF, x_slS, x_seqL, x_seqT, x_count, x_starts, x_sumL, x_sortedL, x_join, x_zipT_LL, x_zpL_LL, x_zipT_LT, x_zpL_LT, x_zipT_TL, x_zpL_TL, x_zipT_TT, x_zpL_TT, x_isD_nn, x_isD_nb, x_isD_bn, x_isD_bb, x_isD_in, x_isD_ib, x_isD_sn, x_isD_sb, x_isD_ln, x_isD_lb, x_isD_tn, x_isD_tb, x_truN, x_truB, x_truI, x_truL, x_truF, x_truT, x_truS, x_eqIL, x_eqIT, x_eqIR, x_eqBB, x_cut, x_boolB, x_boolI, x_revT, x_revL, x_revF, x_repT, x_map, x_ipAdd, x_ipSub, x_ipXor, x_atN, x_isi_n_int, x_isi_n_bool, x_isi_n_str, x_isi_n_list, x_isi_n_tuple, x_isi_b_int, x_isi_b_bool, x_isi_b_str, x_isi_b_list, x_isi_b_tuple, x_isi_i_int, x_isi_i_bool, x_isi_i_str, x_isi_i_list, x_isi_i_tuple, x_isi_s_int, x_isi_s_bool, x_isi_s_str, x_isi_s_list, x_isi_s_tuple, x_isi_l_int, x_isi_l_bool, x_isi_l_str, x_isi_l_list, x_isi_l_tuple, x_isi_t_int, x_isi_t_bool, x_isi_t_str, x_isi_t_list, x_isi_t_tuple, List.length_cons, List.length_nil, List.getElem?_cons_zero, List.getElem?_cons_succ, List.set_cons_zero, List.set_cons_succ, List.map_cons, List.map_nil, List.cons_append, List.nil_append, Bool.and_self, Bool.and_true, Bool.true_and, Bool.and_false, Bool.false_and, Bool.not_true, Bool.not_false, Bool.false_eq_true, if_true, if_false, ite_true, ite_false, decide_true, decide_false, decide_eq_true_eq, decide_eq_false_iff_not, Bool.not_eq_true, Bool.not_eq_true', Nat.zero_add, Option.map_some, Int.toNat_natCast, reduceIte, reduceCtorEq, Int.reduceToNat, Int.reduceNeg, Int.reduceAdd, Int.reduceSub, Int.reduceMul, Int.reduceLT, Int.reduceLE, Int.reducePow, Nat.reduceLT, Nat.reduceLeDiff, Nat.reduceAdd, Nat.reduceMul, Nat.reduceSub, Int.reduceMod, Int.reduceDiv, Int.reduceEq, Nat.reduceEqDiff, Int.cast_ofNat_Int, wp_ok, wp_bind, wp_stuck, wp_exc, id_eq])
      refine wp_forF (S := Unit) (fun _ _ => True) _ 0 _ trivial (fun k d s hd _ => ?_) fun _ _ => ?_
      · obtain ⟨x, rfl, hx, hw⟩ := seq ds h.1 k d hd
        obtain ⟨_, e, rfl⟩ := hw.ex
        simp only [f_law_same] at e
        (try simp -implicitDefEqProofs (maxSteps := 1000000) (disch := walk_at "d") only [z_bindI, wp_I, false_imp_iff, true_imp_iff, not_false_eq_true, not_true_eq_false, true_and, and_true, and_self, hx, e, z_bind, z_bindX, z_bindS, z_assoc, z_opt, z_optN, z_obind, z_unB, z_unBT, z_unI, z_unS, z_unL, z_sbind, z_nbind, z_smT, z_smL, z_td, z_tdL, z_unT, z_unC, z_un0, z_rg1, z_rg2, z_iterL, z_iterT, z_iterF, z_iterS, z_put, z_raise, z_tryOk, z_tryX, z_tryS, z_putG, x_add, x_addL, x_addT, x_addS, x_sub, x_band, x_bor, x_bxor, x_mul, x_fdiv, x_mod, x_pow, x_shl, x_shr, x_neg, x_lt, x_le, x_gt', x_ge, x_eqI, x_neI, x_eqS, x_neS, x_eqB, x_neB, x_is, x_isnot, x_ixT, x_ixL, x_ixF, x_ixS, x_lenL, x_lenT, x_lenF, x_lenS, x_abs, x_min, x_max, x_int, x_intB, x_list, x_tup, x_itL, x_itF, x_itT, x_slT, x_slL, x_slF, x_slS, x_seqL, x_seqT, x_count, x_starts, x_sumL, x_sortedL, x_join, x_zipT_LL, x_zpL_LL, x_zipT_LT, x_zpL_LT, x_zipT_TL, x_zpL_TL, x_zipT_TT, x_zpL_TT, x_isD_nn, x_isD_nb, x_isD_bn, x_isD_bb, x_isD_in, x_isD_ib, x_isD_sn, x_isD_sb, x_isD_ln, x_isD_lb, x_isD_tn, x_isD_tb, x_truN, x_truB, x_truI, x_truL, x_truF, x_truT, x_truS, x_eqIL, x_eqIT, x_eqIR, x_eqBB, x_cut, x_boolB, x_boolI, x_revT, x_revL, x_revF, x_repT, x_map, x_ipAdd, x_ipSub, x_ipXor, x_atN, x_isi_n_int, x_isi_n_bool, x_isi_n_str, x_isi_n_list, x_isi_n_tuple, x_isi_b_int, x_isi_b_bool, x_isi_b_str, x_isi_b_list, x_isi_b_tuple, x_isi_i_int, x_isi_i_bool, x_isi_i_str, x_isi_i_list, x_isi_i_tuple, x_isi_s_int, x_isi_s_bool, x_isi_s_str, x_isi_s_list, x_isi_s_tuple, x_isi_l_int, x_isi_l_bool, x_isi_l_str, x_isi_l_list, x_isi_l_tuple, x_isi_t_int, x_isi_t_bool, x_isi_t_str, x_isi_t_list, x_isi_t_tuple, List.length_cons, List.length_nil, List.getElem?_cons_zero, List.getElem?_cons_succ, List.set_cons_zero, List.set_cons_succ, List.map_cons, List.map_nil, List.cons_append, List.nil_append, Bool.and_self, Bool.and_true, Bool.true_and, Bool.and_false, Bool.false_and, Bool.not_true, Bool.not_false, Bool.false_eq_true, if_true, if_false, ite_true, ite_false, decide_true, decide_false, decide_eq_true_eq, decide_eq_false_iff_not, Bool.not_eq_true, Bool.not_eq_true', Nat.zero_add, Option.map_some, Int.toNat_natCast, reduceIte, reduceCtorEq, Int.reduceToNat, Int.reduceNeg, Int.reduceAdd, Int.reduceSub, Int.reduceMul, Int.reduceLT, Int.reduceLE, Int.reducePow, Nat.reduceLT, Nat.reduceLeDiff, Nat.reduceAdd, Nat.reduceMul, Nat.reduceSub, Int.reduceMod, Int.reduceDiv, Int.reduceEq, Nat.reduceEqDiff, Int.cast_ofNat_Int, wp_ok, wp_bind, wp_stuck, wp_exc, id_eq])
      · (try simp -implicitDefEqProofs (maxSteps := 1000000) (disch := walk_at "d") only [z_bindI, wp_I, false_imp_iff, true_imp_iff, not_false_eq_true, not_true_eq_false, true_and, and_true, and_self, z_bind, z_bindX, z_bindS, z_assoc, z_opt, z_optN, z_obind, z_unB, z_unBT, z_unI, z_unS, z_unL, z_sbind, z_nbind, z_smT, z_smL, z_td, z_tdL, z_unT, z_unC, z_un0, z_rg1, z_rg2, z_iterL, z_iterT, z_iterF, z_iterS, z_put, z_raise, z_tryOk, z_tryX, z_tryS, z_putG, x_add, x_addL, x_addT, x_addS, x_sub, x_band, x_bor, x_bxor, x_mul, x_fdiv, x_mod, x_pow, x_shl, x_shr, x_neg, x_lt, x_le, x_gt', x_ge, x_eqI, x_neI, x_eqS, x_neS, x_eqB, x_neB, x_is, x_isnot, x_ixT, x_ixL, x_ixF, x_ixS, x_lenL, x_lenT, x_lenF, x_lenS, x_abs, x_min, x_max, x_int, x_intB, x_list, x_tup, x_itL, x_itF, x_itT, x_slT, x_slL, x_slF, x_slS, x_seqL, x_seqT, x_count, x_starts, x_sumL, x_sortedL, x_join, x_zipT_LL, x_zpL_LL, x_zipT_LT, x_zpL_LT, x_zipT_TL, x_zpL_TL, x_zipT_TT, x_zpL_TT, x_isD_nn, x_isD_nb, x_isD_bn, x_isD_bb, x_isD_in, x_isD_ib, x_isD_sn, x_isD_sb, x_isD_ln, x_isD_lb, x_isD_tn, x_isD_tb, x_truN, x_truB, x_truI, x_truL, x_truF, x_truT, x_truS, x_eqIL, x_eqIT, x_eqIR, x_eqBB, x_cut, x_boolB, x_boolI, x_revT, x_revL, x_revF, x_repT, x_map, x_ipAdd, x_ipSub, x_ipXor, x_atN, x_isi_n_int, x_isi_n_bool, x_isi_n_str, x_isi_n_list, x_isi_n_tuple, x_isi_b_int, x_isi_b_bool, x_isi_b_str, x_isi_b_list, x_isi_b_tuple, x_isi_i_int, x_isi_i_bool, x_isi_i_str, x_isi_i_list, x_isi_i_tuple, x_isi_s_int, x_isi_s_bool, x_isi_s_str, x_isi_s_list, x_isi_s_tuple, x_isi_l_int, x_isi_l_bool, x_isi_l_str, x_isi_l_list, x_isi_l_tuple, x_isi_t_int, x_isi_t_bool, x_isi_t_str, x_isi_t_list, x_isi_t_tuple, List.length_cons, List.length_nil, List.getElem?_cons_zero, List.getElem?_cons_succ, List.set_cons_zero, List.set_cons_succ, List.map_cons, List.map_nil, List.cons_append, List.nil_append, Bool.and_self, Bool.and_true, Bool.true_and, Bool.and_false, Bool.false_and, Bool.not_true, Bool.not_false, Bool.false_eq_true, if_true, if_false, ite_true, ite_false, decide_true, decide_false, decide_eq_true_eq, decide_eq_false_iff_not, Bool.not_eq_true, Bool.not_eq_true', Nat.zero_add, Option.map_some, Int.toNat_natCast, reduceIte, reduceCtorEq, Int.reduceToNat, Int.reduceNeg, Int.reduceAdd, Int.reduceSub, Int.reduceMul, Int.reduceLT, Int.reduceLE, Int.reducePow, Nat.reduceLT, Nat.reduceLeDiff, Nat.reduceAdd, Nat.reduceMul, Nat.reduceSub, Int.reduceMod, Int.reduceDiv, Int.reduceEq, Nat.reduceEqDiff, Int.cast_ofNat_Int, wp_ok, wp_bind, wp_stuck, wp_exc, id_eq])
    | _ => cases h
theorem t_same {d : D} (h : sameOk 12 d = true) : f_law_same 12 d d = .ok (.bl true) := by
  obtain ⟨_, e, rfl⟩ := (s_same 12 d h).ex
  exact e
end KL
namespace KL
open PySem PySem.Spec PyProof.Rows L2 Evl KP KM
local macro_rules | `(tactic| walk_at "d") => `(tactic| first | assumption | omega | (simp only [List.length_map, List.length_append, List.length_cons, List.length_nil, dis_len, dit_len]; omega) | (simp; done))
local macro_rules | `(tactic| walk_at "dr") => `(tactic| (refine Z.wp.mono (s_draw (by assumption) (by first | decide | omega) (by first | decide | omega)) ?_; rintro ⟨_, _⟩ ⟨hw, _, hh, _, _⟩; dsimp only at hw hh; subst hh; dsimp only))
/-! ### least lengths: no complete lengths cost less than the joinings -/
def kr (P : List (Int × Int)) : Int := (P.map fun p => (2 : Int) ^ (15 - p.2).toNat).sum
def co (P : List (Int × Int)) : Int := (P.map fun p => p.1 * p.2).sum
theorem kr_cons (p : Int × Int) (P : List (Int × Int)) : kr (p :: P) = 2 ^ (15 - p.2).toNat + kr P := by simp [kr]
theorem co_cons (p : Int × Int) (P : List (Int × Int)) : co (p :: P) = p.1 * p.2 + co P := by simp [co]
theorem kr_perm {P Q : List (Int × Int)} (h : P.Perm Q) : kr P = kr Q := sum_perm (h.map _)
theorem co_perm {P Q : List (Int × Int)} (h : P.Perm Q) : co P = co Q := sum_perm (h.map _)
theorem kr_nn : ∀ P : List (Int × Int), 0 ≤ kr P
  | [] => Int.le_refl _
  | p :: P => by
    have := kr_nn P
    have e : (0 : Int) < 2 ^ (15 - p.2).toNat := Int.pow_pos (by decide)
    rw [kr_cons]
    omega
inductive HC : List Int → Int → Prop
  | one (w : Int) : HC [w] 0
  | join {W V U : List Int} {a b c : Int} : W.Perm (a :: b :: U) → V.Perm ((a + b) :: U) → (∀ x ∈ U, b ≤ x) → a ≤ b → HC V c → HC W (a + b + c)
theorem take_out {P : List (Int × Int)} {a : Int} {U : List Int} (h : (P.map (·.1)).Perm (a :: U)) : ∃ l P', P.Perm ((a, l) :: P') ∧ (P'.map (·.1)).Perm U := by
  have hm : a ∈ P.map (·.1) := h.mem_iff.mpr List.mem_cons_self
  obtain ⟨p, hp, e⟩ := List.mem_map.mp hm
  obtain ⟨s, t, rfl⟩ := List.append_of_mem hp
  have pm : (s ++ p :: t).Perm (p :: (s ++ t)) := List.perm_middle
  refine ⟨p.2, s ++ t, by rw [← e]; exact pm, ?_⟩
  have := (pm.map (·.1)).symm.trans h
  rw [List.map_cons, e] at this
  exact this.cons_inv
/-- the lengths of two are changed for each other -/
theorem swap_out {a la L : Int} {rest : List (Int × Int)} (hw : ∀ q ∈ rest, a ≤ q.1) (hl : 0 ≤ la ∧ la ≤ L) (hr : ∀ q ∈ rest, 0 ≤ q.2 ∧ q.2 ≤ L) (hL : la = L ∨ ∃ q ∈ rest, q.2 = L) :
    ∃ R : List (Int × Int), (R.map (·.1)).Perm (rest.map (·.1)) ∧ (∀ q ∈ R, 0 ≤ q.2 ∧ q.2 ≤ L) ∧ kr ((a, L) :: R) = kr ((a, la) :: rest) ∧ co ((a, L) :: R) ≤ co ((a, la) :: rest) := by
  rcases hL with rfl | ⟨q, hq, e⟩
  · exact ⟨rest, .refl _, hr, rfl, Int.le_refl _⟩
  · obtain ⟨s, t, rfl⟩ := List.append_of_mem hq
    have pm : (s ++ q :: t).Perm (q :: (s ++ t)) := List.perm_middle
    refine ⟨(q.1, la) :: (s ++ t), ?_, ?_, ?_, ?_⟩
    · have := (pm.map (·.1)).symm
      rw [List.map_cons] at this ⊢
      exact this
    · intro x hx
      rcases List.mem_cons.mp hx with rfl | hx
      · exact hl
      · exact hr x (pm.mem_iff.mpr (List.mem_cons_of_mem _ hx))
    · rw [kr_cons, kr_cons, kr_cons, kr_perm pm, kr_cons, ← e]
      dsimp only
      omega
    · rw [co_cons, co_cons, co_cons, co_perm pm, co_cons, ← e]
      dsimp only
      have w := hw q hq
      have l := e ▸ hl.2
      have : 0 ≤ (q.1 - a) * (q.2 - la) := Int.mul_nonneg (by omega) (by omega)
      rw [Int.sub_mul, Int.mul_sub, Int.mul_sub] at this
      omega
theorem max_el : ∀ {P : List (Int × Int)}, P ≠ [] → ∃ p ∈ P, ∀ q ∈ P, q.2 ≤ p.2
  | [], h => absurd rfl h
  | [p], _ => ⟨p, List.mem_cons_self, fun q hq => by rw [List.mem_singleton.mp hq]; exact Int.le_refl _⟩
  | p :: r :: P, _ => by
    obtain ⟨m, hm, h⟩ := max_el (P := r :: P) (by simp)
    by_cases c : m.2 ≤ p.2
    · exact ⟨p, List.mem_cons_self, fun q hq => by
        rcases List.mem_cons.mp hq with rfl | hq
        · exact Int.le_refl _
        · have := h q hq; omega⟩
    · exact ⟨m, List.mem_cons_of_mem _ hm, fun q hq => by
        rcases List.mem_cons.mp hq with rfl | hq
        · omega
        · exact h q hq⟩
theorem kr_even {L : Int} (h1 : 1 ≤ L) (h2 : L ≤ 15) : ∀ R : List (Int × Int), (∀ q ∈ R, 0 ≤ q.2 ∧ q.2 ≤ L - 1) → ∃ m : Int, kr R = 2 * (2 ^ (15 - L).toNat * m)
  | [], _ => ⟨0, by simp [kr]⟩
  | q :: R, h => by
    obtain ⟨m, hm⟩ := kr_even h1 h2 R fun x hx => h x (List.mem_cons_of_mem _ hx)
    have b := h q List.mem_cons_self
    have e : (15 - q.2).toNat = (15 - L).toNat + (L - 1 - q.2).toNat + 1 := by omega
    refine ⟨2 ^ (L - 1 - q.2).toNat + m, ?_⟩
    rw [kr_cons, hm, e, Int.pow_succ, Int.pow_add, Int.mul_add]
    generalize (2 : Int) ^ (15 - L).toNat * 2 ^ (L - 1 - q.2).toNat = x
    omega
theorem parity {a L : Int} {R : List (Int × Int)} (h1 : 1 ≤ L) (h2 : L ≤ 15) (hr : ∀ q ∈ R, 0 ≤ q.2 ∧ q.2 ≤ L) (hk : kr ((a, L) :: R) = 32768) : ∃ q ∈ R, q.2 = L := by
  by_cases c : ∃ q ∈ R, q.2 = L
  · exact c
  · exfalso
    obtain ⟨m, hm⟩ := kr_even h1 h2 R fun q hq => ⟨(hr q hq).1, by
      have := (hr q hq).2
      have : q.2 ≠ L := fun e => c ⟨q, hq, e⟩
      omega⟩
    rw [kr_cons, hm] at hk
    have e : (32768 : Int) = 2 * (2 ^ (15 - L).toNat * 2 ^ (L - 1).toNat) := by
      rw [← Int.pow_add, show (15 - L).toNat + (L - 1).toNat = 14 by omega]
      decide
    have hk : (2 : Int) ^ (15 - L).toNat + 2 * (2 ^ (15 - L).toNat * m) = 32768 := hk
    rw [e] at hk
    have p : (0 : Int) < 2 ^ (15 - L).toNat := Int.pow_pos (by decide)
    generalize (2 : Int) ^ (15 - L).toNat = x at hk p
    generalize (2 : Int) ^ (L - 1).toNat = y at hk
    have hk : x * (1 + 2 * m - 2 * y) = 0 := by
      rw [Int.mul_sub, Int.mul_add, Int.mul_one, Int.mul_left_comm x 2 m, Int.mul_left_comm x 2 y]
      omega
    rcases Int.mul_eq_zero.mp hk with h | h <;> omega
theorem HC.opt {W : List Int} {c : Int} (h : HC W c) : ∀ P : List (Int × Int), (P.map (·.1)).Perm W → (∀ w ∈ W, 0 ≤ w) → (∀ p ∈ P, 0 ≤ p.2 ∧ p.2 ≤ 15) → kr P = 32768 → c ≤ co P := by
  induction h with
  | one w =>
    intro P hp hw hb hk
    obtain ⟨l, P', pm, h2⟩ := take_out hp
    have : P' = [] := by
      have := h2.length_eq
      rw [List.length_map] at this
      exact List.length_eq_zero_iff.mp this
    subst this
    rw [co_perm pm, co_cons]
    have := hw w List.mem_cons_self
    have := (hb (w, l) (pm.mem_iff.mpr List.mem_cons_self)).1
    have : 0 ≤ w * l := Int.mul_nonneg (by assumption) (by assumption)
    show 0 ≤ w * l + 0
    omega
  | @join W V U a b c pW pV lU ab _ ih =>
    intro P hp hw hb hk
    obtain ⟨la, P1, pm1, h1⟩ := take_out (hp.trans pW)
    have wU : ∀ x ∈ a :: b :: U, 0 ≤ x := fun x hx => hw x (pW.mem_iff.mpr hx)
    have b1 : ∀ q ∈ (a, la) :: P1, 0 ≤ q.2 ∧ q.2 ≤ 15 := fun q hq => hb q (pm1.mem_iff.mpr hq)
    rw [kr_perm pm1] at hk
    rw [co_perm pm1]
    obtain ⟨m, hm, hmax⟩ := max_el (P := (a, la) :: P1) (by simp)
    have w1 : ∀ q ∈ P1, a ≤ q.1 := fun q hq => by
      have := h1.mem_iff.mp (List.mem_map.mpr ⟨q, hq, rfl⟩)
      rcases List.mem_cons.mp this with e | hx
      · rw [e]; exact ab
      · have := lU _ hx; omega
    obtain ⟨R1, p1, r1, k1, c1⟩ := swap_out (L := m.2) w1 ⟨(b1 _ List.mem_cons_self).1, hmax _ List.mem_cons_self⟩ (fun q hq => ⟨(b1 q (List.mem_cons_of_mem _ hq)).1, hmax q (List.mem_cons_of_mem _ hq)⟩) (by
      rcases List.mem_cons.mp hm with e | hq
      · left; rw [e]
      · right; exact ⟨m, hq, rfl⟩)
    have mb := b1 m hm
    rw [hk] at k1
    have L1 : 1 ≤ m.2 := by
      rcases Int.lt_or_le m.2 1 with z | z
      · exfalso
        obtain ⟨l2, P2, pm2, _⟩ := take_out (p1.trans h1)
        rw [kr_cons, kr_perm pm2, kr_cons] at k1
        have := kr_nn P2
        have l0 := r1 (b, l2) (pm2.mem_iff.mpr List.mem_cons_self)
        have e1 : m.2 = 0 := by omega
        have e2 : l2 = 0 := by have := l0.1; have := l0.2; dsimp only at *; omega
        rw [e1, e2] at k1
        have e15 : (2 : Int) ^ (15 - (0 : Int)).toNat = 32768 := by decide
        dsimp only at k1
        rw [e15] at k1
        omega
      · exact z
    have pa := parity (a := a) L1 mb.2 r1 k1
    obtain ⟨lb, P2, pm2, h2⟩ := take_out (p1.trans h1)
    have w2 : ∀ q ∈ P2, b ≤ q.1 := fun q hq => lU _ (h2.mem_iff.mp (List.mem_map.mpr ⟨q, hq, rfl⟩))
    obtain ⟨R2, p2, r2, k2, c2⟩ := swap_out (L := m.2) w2 (r1 _ (pm2.mem_iff.mpr List.mem_cons_self)) (fun q hq => r1 q (pm2.mem_iff.mpr (List.mem_cons_of_mem _ hq))) (by
      obtain ⟨q, hq, e⟩ := pa
      rcases List.mem_cons.mp (pm2.mem_iff.mp hq) with rfl | hq
      · exact .inl e
      · exact .inr ⟨q, hq, e⟩)
    have q := ih ((a + b, m.2 - 1) :: R2) (by
      rw [List.map_cons]
      exact ((p2.trans h2).cons _).trans pV.symm) (fun w hw2 => by
        rcases List.mem_cons.mp (pV.mem_iff.mp hw2) with e | hx
        · have := wU a List.mem_cons_self
          have := wU b (by simp)
          omega
        · exact wU w (by simp [hx])) (fun p hp => by
        rcases List.mem_cons.mp hp with rfl | hp
        · exact ⟨by show 0 ≤ m.2 - 1; omega, by show m.2 - 1 ≤ 15; omega⟩
        · have := r2 p hp; omega) (by
        rw [kr_cons] at k1 k2 ⊢
        rw [kr_perm pm2, ← k2] at k1
        have e : (2 : Int) ^ (15 - (m.2 - 1)).toNat = 2 * 2 ^ (15 - m.2).toNat := by
          rw [show (15 - (m.2 - 1)).toNat = (15 - m.2).toNat + 1 by omega, Int.pow_succ]
          omega
        dsimp only at k1 ⊢
        rw [e]
        omega)
    rw [co_cons] at c1 c2 q
    rw [co_perm pm2] at c1
    have e : (a + b) * (m.2 - 1) = a * m.2 + b * m.2 - a - b := by
      rw [Int.mul_sub, Int.add_mul]
      omega
    dsimp only at c1 c2 q
    rw [e] at q
    omega
end KL
namespace KL
open PySem PySem.Spec PyProof.Rows L2 Evl KP KM
local macro_rules | `(tactic| walk_at "d") => `(tactic| first | assumption | omega | (simp only [List.length_map, List.length_append, List.length_cons, List.length_nil, dis_len, dit_len]; omega) | (simp; done))
local macro_rules | `(tactic| walk_at "dr") => `(tactic| (refine Z.wp.mono (s_draw (by assumption) (by first | decide | omega) (by first | decide | omega)) ?_; rintro ⟨_, _⟩ ⟨hw, _, hh, _, _⟩; dsimp only at hw hh; subst hh; dsimp only))
/-! ### the groups -/
structure Gp where
  w : Int
  r : Int
  ps : List Nat
def plD (ps : List Nat) : List D := dis (ps.map fun p : Nat => (p : Int))
def Gp.tri (g : Gp) : Tri := ((g.w, g.r), .tup (plD g.ps))
def Gp.d (g : Gp) : D := trD g.tri
def gLe (a b : Gp) : Bool := lexLe (a.w, a.r) (b.w, b.r)
def gsort (gs : List Gp) : List Gp := gs.mergeSort gLe
theorem gsort_perm (gs : List Gp) : (gsort gs).Perm gs := List.mergeSort_perm _ _
theorem gsort_tri (gs : List Gp) : tsort (gs.map Gp.tri) = (gsort gs).map Gp.tri := by
  unfold tsort gsort
  exact (List.map_mergeSort (r := gLe) (s := triLe) (f := Gp.tri) (l := gs) fun a _ b _ => rfl).symm
theorem gsort_srt (gs : List Gp) : (gsort gs).Pairwise fun a b => gLe a b = true := by
  refine List.pairwise_mergeSort (fun a b c h1 h2 => ?_) (fun a b => ?_) gs
  · unfold gLe at h1 h2 ⊢
    rw [lexLe_le] at h1 h2 ⊢
    dsimp only at *
    omega
  · unfold gLe
    rw [Bool.or_eq_true, lexLe_le, lexLe_le]
    dsimp only
    omega
def bump (ls : List Int) (ps : List Nat) : List Int := ps.foldl (fun l p => l.set p (l.getD p 0 + 1)) ls
theorem bump_len : ∀ (ps : List Nat) (ls : List Int), (bump ls ps).length = ls.length
  | [], _ => rfl
  | p :: ps, ls => by
    show (bump (ls.set p _) ps).length = _
    rw [bump_len ps, List.length_set]
theorem bump_get : ∀ (ps : List Nat) (ls : List Int), ps.Nodup → (∀ p ∈ ps, p < ls.length) → ∀ q, (bump ls ps).getD q 0 = ls.getD q 0 + if q ∈ ps then 1 else 0
  | [], ls, _, _, q => by simp [bump]
  | p :: ps, ls, hn, hl, q => by
    obtain ⟨h1, h2⟩ := List.nodup_cons.mp hn
    have hp := hl p List.mem_cons_self
    show (bump (ls.set p (ls.getD p 0 + 1)) ps).getD q 0 = _
    rw [bump_get ps _ h2 (fun x hx => by rw [List.length_set]; exact hl x (List.mem_cons_of_mem _ hx)) q]
    by_cases e : q = p
    · subst e
      have g : (ls.set q (ls.getD q 0 + 1)).getD q 0 = ls.getD q 0 + 1 := by
        rw [List.getD_eq_getElem?_getD, List.getElem?_set_self hp]; rfl
      rw [g, if_neg h1, if_pos List.mem_cons_self]
      omega
    · have g : (ls.set p (ls.getD p 0 + 1)).getD q 0 = ls.getD q 0 := by
        rw [List.getD_eq_getElem?_getD, List.getElem?_set_ne (Ne.symm e), ← List.getD_eq_getElem?_getD]
      rw [g]
      congr 1
      simp [e]
def hStep (s : List Int × List Gp) : List Int × List Gp := match gsort s.2 with
  | a :: b :: rest => (bump s.1 (a.ps ++ b.ps), rest ++ [⟨a.w + b.w, min a.r b.r, a.ps ++ b.ps⟩])
  | _ => s
def hInit (c : List Int) : List Int × List Gp := (List.replicate c.length 0, (List.range c.length).map fun p => ⟨c.getD p 0, (p : Int), [p]⟩)
def hIt (c : List Int) : Nat → List Int × List Gp
  | 0 => hInit c
  | k + 1 => hStep (hIt c k)
def sumW (c : List Int) (ps : List Nat) : Int := (ps.map fun p => c.getD p 0).sum
def sumK (ls : List Int) (ps : List Nat) : Int := (ps.map fun p => (2 : Int) ^ (15 - ls.getD p 0).toNat).sum
def cst (c ls : List Int) (ps : List Nat) : Int := (ps.map fun p => c.getD p 0 * ls.getD p 0).sum
theorem sum_app (a b : List Int) : (a ++ b).sum = a.sum + b.sum := List.sum_append
theorem sumW_app (c : List Int) (a b : List Nat) : sumW c (a ++ b) = sumW c a + sumW c b := by unfold sumW; rw [List.map_append, sum_app]
theorem sumK_app (c : List Int) (a b : List Nat) : sumK c (a ++ b) = sumK c a + sumK c b := by unfold sumK; rw [List.map_append, sum_app]
theorem cst_app (c ls : List Int) (a b : List Nat) : cst c ls (a ++ b) = cst c ls a + cst c ls b := by unfold cst; rw [List.map_append, sum_app]
theorem cst_perm (c ls : List Int) {a b : List Nat} (h : a.Perm b) : cst c ls a = cst c ls b := sum_perm (h.map _)
theorem sumK_perm (ls : List Int) {a b : List Nat} (h : a.Perm b) : sumK ls a = sumK ls b := sum_perm (h.map _)
theorem cst_up {c ls ls' : List Int} : ∀ {ps : List Nat}, (∀ p ∈ ps, ls'.getD p 0 = ls.getD p 0 + 1) → cst c ls' ps = cst c ls ps + sumW c ps
  | [], _ => rfl
  | p :: ps, h => by
    have ih := cst_up (c := c) (ls := ls) (ls' := ls') (ps := ps) fun q hq => h q (List.mem_cons_of_mem _ hq)
    have a : cst c ls' (p :: ps) = c.getD p 0 * ls'.getD p 0 + cst c ls' ps := by simp [cst]
    have b : cst c ls (p :: ps) = c.getD p 0 * ls.getD p 0 + cst c ls ps := by simp [cst]
    have d : sumW c (p :: ps) = c.getD p 0 + sumW c ps := by simp [sumW]
    rw [a, b, d, ih, h p List.mem_cons_self, Int.mul_add, Int.mul_one]
    omega
theorem cst_same {c ls ls' : List Int} {ps : List Nat} (h : ∀ p ∈ ps, ls'.getD p 0 = ls.getD p 0) : cst c ls' ps = cst c ls ps := by
  unfold cst
  congr 1
  exact List.map_congr_left fun p hp => by rw [h p hp]
theorem sumK_same {ls ls' : List Int} {ps : List Nat} (h : ∀ p ∈ ps, ls'.getD p 0 = ls.getD p 0) : sumK ls' ps = sumK ls ps := by
  unfold sumK
  congr 1
  exact List.map_congr_left fun p hp => by rw [h p hp]
theorem sumK_up {ls ls' : List Int} : ∀ {ps : List Nat}, (∀ p ∈ ps, ls'.getD p 0 = ls.getD p 0 + 1 ∧ 0 ≤ ls.getD p 0 ∧ ls.getD p 0 ≤ 14) → 2 * sumK ls' ps = sumK ls ps
  | [], _ => rfl
  | p :: ps, h => by
    have ih := sumK_up (ls := ls) (ls' := ls') (ps := ps) fun q hq => h q (List.mem_cons_of_mem _ hq)
    have a : sumK ls' (p :: ps) = 2 ^ (15 - ls'.getD p 0).toNat + sumK ls' ps := by simp [sumK]
    have b : sumK ls (p :: ps) = 2 ^ (15 - ls.getD p 0).toNat + sumK ls ps := by simp [sumK]
    have hp := h p List.mem_cons_self
    have e := shr_half hp.2.1 hp.2.2
    rw [a, b, hp.1, e]
    omega
structure HI (c : List Int) (s : List Int × List Gp) : Prop where
  n1 : s.1.length = c.length
  pa : (s.2.flatMap Gp.ps).Perm (List.range c.length)
  rk : ∀ g ∈ s.2, ∃ p ∈ g.ps, g.r = (p : Int)
  we : ∀ g ∈ s.2, g.w = sumW c g.ps
  kt : ∀ g ∈ s.2, sumK s.1 g.ps = 32768
  dp : ∀ g ∈ s.2, ∀ p ∈ g.ps, 0 ≤ s.1.getD p 0 ∧ s.1.getD p 0 + 1 ≤ g.ps.length
  opt : ∀ x, HC (s.2.map Gp.w) x → HC c (cst c s.1 (List.range c.length) + x)
theorem HI.nodup {c : List Int} {s : List Int × List Gp} (h : HI c s) : (s.2.map fun g => (g.w, g.r)).Nodup := by
  have nd : (s.2.flatMap Gp.ps).Nodup := h.pa.nodup_iff.mpr List.nodup_range
  have := (List.pairwise_flatMap.mp nd).2
  refine List.pairwise_map.mpr (List.Pairwise.imp_of_mem (fun {a b} ha hb hab e => ?_) this)
  obtain ⟨p, hp, ep⟩ := h.rk a ha
  obtain ⟨q, hq, eq⟩ := h.rk b hb
  have er : a.r = b.r := congrArg Prod.snd e
  exact hab p hp q hq (by omega)
theorem HI.init {c : List Int} (hc : c ≠ []) : HI c (hInit c) := by
  have hn : 0 < c.length := List.length_pos_iff.mpr hc
  refine ⟨by simp [hInit], ?_, ?_, ?_, ?_, ?_, ?_⟩
  · show (((List.range c.length).map _).flatMap Gp.ps).Perm _
    rw [List.flatMap_map]
    have : (List.range c.length).flatMap (fun p => [p]) = List.range c.length := List.flatMap_singleton' _
    show ((List.range c.length).flatMap (fun p => [p])).Perm _
    rw [this]
  · intro g hg
    obtain ⟨p, _, rfl⟩ := List.mem_map.mp hg
    exact ⟨p, by simp, rfl⟩
  · intro g hg
    obtain ⟨p, _, rfl⟩ := List.mem_map.mp hg
    simp [sumW]
  · intro g hg
    obtain ⟨p, hp, rfl⟩ := List.mem_map.mp hg
    have hp := List.mem_range.mp hp
    show sumK (List.replicate c.length 0) [p] = 32768
    have e : (List.replicate c.length (0 : Int)).getD p 0 = 0 := by
      rw [List.getD_eq_getElem?_getD, List.getElem?_replicate]; split <;> rfl
    unfold sumK
    rw [List.map_cons, List.map_nil, e]
    decide
  · intro g hg q hq
    obtain ⟨p, hp, rfl⟩ := List.mem_map.mp hg
    have e : (List.replicate c.length (0 : Int)).getD q 0 = 0 := by
      rw [List.getD_eq_getElem?_getD, List.getElem?_replicate]; split <;> rfl
    show 0 ≤ (List.replicate c.length (0 : Int)).getD q 0 ∧ _
    rw [show (hInit c).1 = List.replicate c.length 0 from rfl, e]
    exact ⟨Int.le_refl _, by show (0 : Int) + 1 ≤ 1; decide⟩
  · intro x hx
    have e1 : ((hInit c).2.map Gp.w) = c := by
      show (((List.range c.length).map _).map Gp.w) = c
      rw [List.map_map]
      refine List.ext_getElem? fun i => ?_
      rw [List.getElem?_map]
      rcases Nat.lt_or_ge i c.length with hi | hi
      · rw [List.getElem?_range hi]
        show some (c.getD i 0) = c[i]?
        rw [List.getD_eq_getElem?_getD, List.getElem?_eq_getElem hi]; rfl
      · rw [List.getElem?_eq_none (by simpa using hi), List.getElem?_eq_none hi]; rfl
    rw [e1] at hx
    have e2 : cst c (hInit c).1 (List.range c.length) = 0 := by
      unfold cst
      have : ∀ p : Nat, c.getD p 0 * (hInit c).1.getD p 0 = 0 := fun p => by
        have e : (List.replicate c.length (0 : Int)).getD p 0 = 0 := by
          rw [List.getD_eq_getElem?_getD, List.getElem?_replicate]; split <;> rfl
        show c.getD p 0 * (List.replicate c.length (0 : Int)).getD p 0 = 0
        rw [e, Int.mul_zero]
      rw [List.map_congr_left (g := fun _ => (0 : Int)) fun p _ => this p]
      induction List.range c.length with
      | nil => rfl
      | cons a l ih => rw [List.map_cons, List.sum_cons, ih]; rfl
    rw [e2, Int.zero_add]
    exact hx
theorem hStep_eq {s : List Int × List Gp} (h2 : 2 ≤ s.2.length) : ∃ a b rest, gsort s.2 = a :: b :: rest ∧ hStep s = (bump s.1 (a.ps ++ b.ps), rest ++ [⟨a.w + b.w, min a.r b.r, a.ps ++ b.ps⟩]) := by
  have l := (gsort_perm s.2).length_eq
  rcases e : gsort s.2 with _ | ⟨a, _ | ⟨b, rest⟩⟩
  · rw [e] at l; exact absurd l (by show ¬ (0 = s.2.length); omega)
  · rw [e] at l; exact absurd l (by show ¬ (1 = s.2.length); omega)
  · refine ⟨a, b, rest, rfl, ?_⟩
    unfold hStep
    rw [e]
theorem HI.step {c : List Int} {s : List Int × List Gp} (hz : c.length ≤ 16) (h : HI c s) (h2 : 2 ≤ s.2.length) : HI c (hStep s) ∧ (hStep s).2.length + 1 = s.2.length := by
  obtain ⟨a, b, rest, e, es⟩ := hStep_eq h2
  have pm : s.2.Perm (a :: b :: rest) := by rw [← e]; exact (gsort_perm s.2).symm
  have so := gsort_srt s.2
  rw [e] at so
  have ma : a ∈ s.2 := pm.mem_iff.mpr List.mem_cons_self
  have mb : b ∈ s.2 := pm.mem_iff.mpr (by simp)
  have mr : ∀ g ∈ rest, g ∈ s.2 := fun g hg => pm.mem_iff.mpr (by simp [hg])
  have pf : (List.range c.length).Perm ((a.ps ++ b.ps) ++ rest.flatMap Gp.ps) := by
    have := (pm.flatMap_right Gp.ps).symm.trans h.pa
    rw [List.flatMap_cons, List.flatMap_cons, ← List.append_assoc] at this
    exact this.symm
  have nd : ((a.ps ++ b.ps) ++ rest.flatMap Gp.ps).Nodup := pf.nodup_iff.mp List.nodup_range
  obtain ⟨nA, nR, nX⟩ := List.nodup_append.mp nd
  have inr : ∀ p ∈ a.ps ++ b.ps, p < s.1.length := fun p hp => by
    rw [h.n1]
    exact List.mem_range.mp (pf.mem_iff.mpr (List.mem_append_left _ hp))
  have bg := bump_get (a.ps ++ b.ps) s.1 nA inr
  have up : ∀ p ∈ a.ps ++ b.ps, (bump s.1 (a.ps ++ b.ps)).getD p 0 = s.1.getD p 0 + 1 := fun p hp => by rw [bg, if_pos hp]
  have same : ∀ p ∈ rest.flatMap Gp.ps, (bump s.1 (a.ps ++ b.ps)).getD p 0 = s.1.getD p 0 := fun p hp => by
    rw [bg, if_neg fun z => nX p z p hp rfl, Int.add_zero]
  have same2 : ∀ g ∈ rest, ∀ p ∈ g.ps, (bump s.1 (a.ps ++ b.ps)).getD p 0 = s.1.getD p 0 := fun g hg p hp => same p (List.mem_flatMap.mpr ⟨g, hg, hp⟩)
  have lA : a.ps.length + b.ps.length ≤ 16 := by
    have := pf.length_eq
    rw [List.length_range, List.length_append, List.length_append] at this
    omega
  obtain ⟨pa, hpa, ea⟩ := h.rk a ma
  obtain ⟨pb, hpb, eb⟩ := h.rk b mb
  have la : 1 ≤ a.ps.length := List.length_pos_of_mem hpa
  have lb : 1 ≤ b.ps.length := List.length_pos_of_mem hpb
  have dA : ∀ p ∈ a.ps ++ b.ps, 0 ≤ s.1.getD p 0 ∧ s.1.getD p 0 + 2 ≤ a.ps.length + b.ps.length := fun p hp => by
    rcases List.mem_append.mp hp with q | q
    · have := h.dp a ma p q; omega
    · have := h.dp b mb p q; omega
  rw [es]
  refine ⟨⟨?_, ?_, ?_, ?_, ?_, ?_, ?_⟩, ?_⟩
  · show (bump s.1 _).length = _
    rw [bump_len]; exact h.n1
  · show ((rest ++ [_]).flatMap Gp.ps).Perm _
    rw [List.flatMap_append, List.flatMap_cons, List.flatMap_nil, List.append_nil]
    exact List.perm_append_comm.trans pf.symm
  · intro g hg
    rcases List.mem_append.mp hg with hg | hg
    · exact h.rk g (mr g hg)
    · rw [List.mem_singleton.mp hg]
      rcases Int.le_total a.r b.r with z | z
      · exact ⟨pa, List.mem_append_left _ hpa, by show min a.r b.r = _; rw [Int.min_eq_left z]; exact ea⟩
      · exact ⟨pb, List.mem_append_right _ hpb, by show min a.r b.r = _; rw [Int.min_eq_right z]; exact eb⟩
  · intro g hg
    rcases List.mem_append.mp hg with hg | hg
    · exact h.we g (mr g hg)
    · rw [List.mem_singleton.mp hg]
      show a.w + b.w = sumW c (a.ps ++ b.ps)
      rw [sumW_app, ← h.we a ma, ← h.we b mb]
  · intro g hg
    rcases List.mem_append.mp hg with hg | hg
    · show sumK (bump s.1 _) g.ps = 32768
      rw [sumK_same (same2 g hg)]
      exact h.kt g (mr g hg)
    · rw [List.mem_singleton.mp hg]
      show sumK (bump s.1 (a.ps ++ b.ps)) (a.ps ++ b.ps) = 32768
      have k := sumK_up (ls := s.1) (ls' := bump s.1 (a.ps ++ b.ps)) (ps := a.ps ++ b.ps) fun p hp => ⟨up p hp, (dA p hp).1, by have := (dA p hp).2; omega⟩
      rw [sumK_app s.1, h.kt a ma, h.kt b mb] at k
      omega
  · intro g hg p hp
    rcases List.mem_append.mp hg with hg | hg
    · show 0 ≤ (bump s.1 _).getD p 0 ∧ _
      rw [same2 g hg p hp]
      exact h.dp g (mr g hg) p hp
    · rw [List.mem_singleton.mp hg] at hp ⊢
      have hp : p ∈ a.ps ++ b.ps := hp
      have d := dA p hp
      show 0 ≤ (bump s.1 (a.ps ++ b.ps)).getD p 0 ∧ (bump s.1 (a.ps ++ b.ps)).getD p 0 + 1 ≤ ((a.ps ++ b.ps).length : Nat)
      rw [up p hp, List.length_append]
      omega
  · intro x hx
    have hx : HC ((rest ++ [(⟨a.w + b.w, min a.r b.r, a.ps ++ b.ps⟩ : Gp)]).map Gp.w) x := hx
    have j := HC.join (W := s.2.map Gp.w) (a := a.w) (b := b.w) (U := rest.map Gp.w) (pm.map Gp.w) (by
      rw [List.map_append]
      exact List.perm_append_comm) (fun y hy => by
      obtain ⟨g, hg, rfl⟩ := List.mem_map.mp hy
      have := (List.pairwise_cons.mp (List.pairwise_cons.mp so).2).1 g hg
      unfold gLe at this
      rw [lexLe_le] at this
      dsimp only at this
      omega) (by
      have := (List.pairwise_cons.mp so).1 b List.mem_cons_self
      unfold gLe at this
      rw [lexLe_le] at this
      dsimp only at this
      omega) hx
    have := h.opt _ j
    have ec : cst c (bump s.1 (a.ps ++ b.ps)) (List.range c.length) = cst c s.1 (List.range c.length) + (a.w + b.w) := by
      rw [cst_perm c _ pf, cst_perm c s.1 pf, cst_app c _ (a.ps ++ b.ps) (rest.flatMap Gp.ps), cst_app c s.1 (a.ps ++ b.ps) (rest.flatMap Gp.ps), cst_up (ls := s.1) up, cst_same same, sumW_app, ← h.we a ma, ← h.we b mb]
      omega
    show HC c (cst c (bump s.1 (a.ps ++ b.ps)) (List.range c.length) + x)
    rw [ec, show cst c s.1 (List.range c.length) + (a.w + b.w) + x = cst c s.1 (List.range c.length) + (a.w + b.w + x) by omega]
    exact this
  · show (rest ++ [_]).length + 1 = _
    have := pm.length_eq
    rw [List.length_cons, List.length_cons] at this
    rw [List.length_append, List.length_singleton]
    omega
theorem hIt_ok {c : List Int} (hz : c.length ≤ 16) (hc : c ≠ []) : ∀ k, k + 1 ≤ c.length → HI c (hIt c k) ∧ (hIt c k).2.length + k = c.length
  | 0, _ => ⟨HI.init hc, by show ((List.range c.length).map _).length + 0 = _; rw [List.length_map, List.length_range]; rfl⟩
  | k + 1, h => by
    obtain ⟨h1, h2⟩ := hIt_ok hz hc k (by omega)
    obtain ⟨h3, h4⟩ := h1.step hz (by omega)
    exact ⟨h3, by show (hStep (hIt c k)).2.length + (k + 1) = _; omega⟩
def lensOf (c : List Int) : List Int := (hIt c (c.length - 1)).1
/-- what the lengths are good for -/
structure Good (c ls : List Int) : Prop where
  n1 : ls.length = c.length
  al : ∀ p, p < c.length → 0 ≤ ls.getD p 0 ∧ ls.getD p 0 ≤ 15
  kt : sumK ls (List.range c.length) = 32768
  opt : HC c (cst c ls (List.range c.length))
theorem lens_good {c : List Int} (hz : c.length ≤ 16) (hc : c ≠ []) : Good c (lensOf c) := by
  have hn : 0 < c.length := List.length_pos_iff.mpr hc
  obtain ⟨h, l⟩ := hIt_ok hz hc (c.length - 1) (by omega)
  unfold lensOf
  obtain ⟨g, hg⟩ := List.length_eq_one_iff.mp (show (hIt c (c.length - 1)).2.length = 1 by omega)
  have mg : g ∈ (hIt c (c.length - 1)).2 := by rw [hg]; simp
  have pf : g.ps.Perm (List.range c.length) := by
    have := h.pa
    rw [hg] at this
    simpa using this
  refine ⟨h.n1, fun p hp => ?_, ?_, ?_⟩
  · have := h.dp g mg p (pf.mem_iff.mpr (List.mem_range.mpr hp))
    have e := pf.length_eq
    rw [List.length_range] at e
    omega
  · rw [← sumK_perm _ pf]
    exact h.kt g mg
  · have := h.opt 0 (by rw [hg]; exact HC.one _)
    rwa [Int.add_zero] at this
end KL
namespace KL
open PySem PySem.Spec PyProof.Rows L2 Evl KP KM
local macro_rules | `(tactic| walk_at "d") => `(tactic| first | assumption | omega | (simp only [List.length_map, List.length_append, List.length_cons, List.length_nil, dis_len, dit_len]; omega) | (simp; done))
local macro_rules | `(tactic| walk_at "dr") => `(tactic| (refine Z.wp.mono (s_draw (by assumption) (by first | decide | omega) (by first | decide | omega)) ?_; rintro ⟨_, _⟩ ⟨hw, _, hh, _, _⟩; dsimp only at hw hh; subst hh; dsimp only))
theorem trsOf_map : ∀ ps : List Tri, trsOf (ps.map trD) = some ps
  | [] => rfl
  | p :: ps => by
    show (trsOf (ps.map trD)).map (p :: ·) = _
    rw [trsOf_map ps]; rfl
theorem srtT {ps : List Tri} (h : (ps.map (·.1)).Nodup) : bSortedT [.lst (ps.map trD)] = some (.lst (leafs ((tsort ps).map trD))) := by
  show (trsOf (ps.map trD)).bind _ = _
  rw [trsOf_map ps]
  show (if (ps.map (·.1)).Nodup then _ else _) = _
  rw [if_pos h]
theorem plD_app (a b : List Nat) : plD (a ++ b) = plD a ++ plD b := by unfold plD dis; rw [List.map_append, List.map_append]
theorem plD_len (a : List Nat) : (plD a).length = a.length := by unfold plD dis; rw [List.length_map, List.length_map]
theorem for_bump {f : D → List D → Z (List D)} (hf : ∀ (p : Nat) (ls : List Int), p < ls.length → f (.int p) (dis ls) = .ok (dis (ls.set p (ls.getD p 0 + 1)))) : ∀ (ps : List Nat) (ls : List Int), (∀ p ∈ ps, p < ls.length) → forZ f (plD ps) (dis ls) = .ok (dis (bump ls ps))
  | [], ls, _ => rfl
  | p :: ps, ls, h => by
    show ((f (.int p) (dis ls)).bind (forZ f (plD ps))) = _
    rw [hf p ls (h p List.mem_cons_self)]
    exact for_bump hf ps _ fun q hq => by rw [List.length_set]; exact h q (List.mem_cons_of_mem _ hq)
def gp0 : D → D
  | .tup [a, b] => .tup [b, a, .tup [a]]
  | d => d
theorem gp0_init (c : List Int) : (enD 0 (dis c)).map gp0 = (hInit c).2.map Gp.d := by
  refine List.ext_getElem? fun k => ?_
  rw [List.getElem?_map, enD_get, dis_get]
  show _ = (((List.range c.length).map _).map Gp.d)[k]?
  rw [List.getElem?_map, List.getElem?_map]
  rcases Nat.lt_or_ge k c.length with h | h
  · rw [List.getElem?_range h, List.getElem?_eq_getElem h]
    simp [gp0, Gp.d, Gp.tri, trD, plD, dis, List.getElem?_eq_getElem h]
  · rw [List.getElem?_eq_none h, List.getElem?_eq_none (by simpa using h)]
    rfl
theorem mul0 (n : Nat) (hn : n ≤ 1000) : opMul (.lst [.int 0]) (.int (n : Nat)) = some (.lst (leafs (dis (List.replicate n 0)))) := by
  unfold opMul
  (try dsimp only)
  rw [if_pos (by rw [decide_eq_true (show -(2 : Int) ^ 63 ≤ (n : Int) by omega), decide_eq_true (show (n : Int) < 2 ^ 63 by omega), decide_eq_true (show [D.int 0].length * (n : Int).toNat ≤ 16777216 by rw [Int.toNat_natCast]; show 1 * n ≤ _; omega)]; rfl)]
  rw [Int.toNat_natCast]
  have e : ∀ n, (List.replicate n [D.int 0]).flatten = dis (List.replicate n 0) := fun n => by
    induction n with
    | zero => rfl
    | succ n ih => rw [List.replicate_succ, List.replicate_succ, List.flatten_cons, ih]; rfl
  rw [e]
theorem lns2 {ds : List D} {d : D} (hd : d = .lst ds ∨ d = .tup ds) : bLen [d] = bLen [.lst ds] := by
  rcases hd with rfl | rfl <;> rfl
theorem t_least {c : List Int} (hz : c.length ≤ 16) (hc : c ≠ []) {d : D} (hd : d = .lst (dis c) ∨ d = .tup (dis c)) : f_least_lengths d = .ok (.tup (dis (lensOf c))) := by
  have hn : 0 < c.length := List.length_pos_iff.mpr hc
  have ln := lns2 hd
  have dl := dis_len c
  have ml := mul0 c.length (by omega)
  have en : enL [d] = some (enD 0 (dis c)) := by rcases hd with rfl | rfl <;> rfl
  have gl : ∀ f : D → Unit → Z (Option D × Unit), (∀ k l, f (.tup [.int k, .int l]) () = .ok (some (.tup [.int l, .int k, .tup [.int k]]), ())) → lcZ f (enD 0 (dis c)) [] () = .ok ((hInit c).2.map Gp.d, ()) := fun f hf => by
    have el : (enD 0 (dis c)).length = c.length := by
      have := congrArg List.length (gp0_init c)
      rw [List.length_map, List.length_map] at this
      rw [this]
      simp [hInit]
    rw [z_lc1 (g := gp0) (by omega) fun d hd => by
      obtain ⟨k, hk⟩ := List.getElem?_of_mem hd
      rw [enD_get, dis_get] at hk
      cases hk2 : c[k]? with
      | none => rw [hk2] at hk; cases hk
      | some l => rw [hk2] at hk; cases hk; exact hf _ l]
    rw [gp0_init]
  suffices w : (f_least_lengths d).wp fun r => r = .tup (dis (lensOf c)) by
    obtain ⟨_, e, rfl⟩ := w.ex
    exact e
  simp only [f_least_lengths, r_least_lengths]
  (try simp -implicitDefEqProofs (maxSteps := 1000000) (disch := walk_at "d") only [ln, dl, ml, en, z_bind, z_bindX, z_bindS, z_assoc, z_opt, z_optN, z_obind, z_unB, z_unBT, z_unI, z_unS, z_unL, z_sbind, z_nbind, z_smT, z_smL, z_td, z_tdL, z_unT, z_unC, z_un0, z_rg1, z_rg2, z_iterL, z_iterT, z_iterF, z_iterS, z_put, z_raise, z_tryOk, z_tryX, z_tryS, z_putG, x_add, x_addL, x_addT, x_addS, x_sub, x_band, x_bor, x_bxor, x_mul, x_fdiv, x_mod, x_pow, x_shl, x_shr, x_neg, x_lt, x_le, x_gt', x_ge, x_eqI, x_neI, x_eqS, x_neS, x_eqB, x_neB, x_is, x_isnot, x_ixT, x_ixL, x_ixF, x_ixS, x_lenL, x_lenT, x_lenF, x_lenS, x_abs, x_min, x_max, x_int, x_intB, x_list, x_tup, x_itL, x_itF, x_itT, x_slT, x_slL, x_slF, x_slS, x_seqL, x_seqT, x_count, x_starts, x_sumL, x_sortedL, x_join, x_zipT_LL, x_zpL_LL, x_zipT_LT, x_zpL_LT, x_zipT_TL, x_zpL_TL, x_zipT_TT, x_zpL_TT, x_isD_nn, x_isD_nb, x_isD_bn, x_isD_bb, x_isD_in, x_isD_ib, x_isD_sn, x_isD_sb, x_isD_ln, x_isD_lb, x_isD_tn, x_isD_tb, x_truN, x_truB, x_truI, x_truL, x_truF, x_truT, x_truS, x_eqIL, x_eqIT, x_eqIR, x_eqBB, x_cut, x_boolB, x_boolI, x_revT, x_revL, x_revF, x_repT, x_map, x_ipAdd, x_ipSub, x_ipXor, x_atN, x_isi_n_int, x_isi_n_bool, x_isi_n_str, x_isi_n_list, x_isi_n_tuple, x_isi_b_int, x_isi_b_bool, x_isi_b_str, x_isi_b_list, x_isi_b_tuple, x_isi_i_int, x_isi_i_bool, x_isi_i_str, x_isi_i_list, x_isi_i_tuple, x_isi_s_int, x_isi_s_bool, x_isi_s_str, x_isi_s_list, x_isi_s_tuple, x_isi_l_int, x_isi_l_bool, x_isi_l_str, x_isi_l_list, x_isi_l_tuple, x_isi_t_int, x_isi_t_bool, x_isi_t_str, x_isi_t_list, x_isi_t_tuple, List.length_cons, List.length_nil, List.getElem?_cons_zero, List.getElem?_cons_succ, List.set_cons_zero, List.set_cons_succ, List.map_cons, List.map_nil, List.cons_append, List.nil_append, Bool.and_self, Bool.and_true, Bool.true_and, Bool.and_false, Bool.false_and, Bool.not_true, Bool.not_false, Bool.false_eq_true, if_true, if_false, ite_true, ite_false, decide_true, decide_false, decide_eq_true_eq, decide_eq_false_iff_not, Bool.not_eq_true, Bool.not_eq_true', Nat.zero_add, Option.map_some, Int.toNat_natCast, reduceIte, reduceCtorEq, Int.reduceToNat, Int.reduceNeg, Int.reduceAdd, Int.reduceSub, Int.reduceMul, Int.reduceLT, Int.reduceLE, Int.reducePow, Nat.reduceLT, Nat.reduceLeDiff, Nat.reduceAdd, Nat.reduceMul, Nat.reduceSub, Int.reduceMod, Int.reduceDiv, Int.reduceEq, Nat.reduceEqDiff, Int.cast_ofNat_Int, wp_ok, wp_bind, wp_stuck, wp_exc, id_eq])
  rw [gl _ fun k l => by (try simp -implicitDefEqProofs (maxSteps := 1000000) (disch := walk_at "d") only [z_bind, z_bindX, z_bindS, z_assoc, z_opt, z_optN, z_obind, z_unB, z_unBT, z_unI, z_unS, z_unL, z_sbind, z_nbind, z_smT, z_smL, z_td, z_tdL, z_unT, z_unC, z_un0, z_rg1, z_rg2, z_iterL, z_iterT, z_iterF, z_iterS, z_put, z_raise, z_tryOk, z_tryX, z_tryS, z_putG, x_add, x_addL, x_addT, x_addS, x_sub, x_band, x_bor, x_bxor, x_mul, x_fdiv, x_mod, x_pow, x_shl, x_shr, x_neg, x_lt, x_le, x_gt', x_ge, x_eqI, x_neI, x_eqS, x_neS, x_eqB, x_neB, x_is, x_isnot, x_ixT, x_ixL, x_ixF, x_ixS, x_lenL, x_lenT, x_lenF, x_lenS, x_abs, x_min, x_max, x_int, x_intB, x_list, x_tup, x_itL, x_itF, x_itT, x_slT, x_slL, x_slF, x_slS, x_seqL, x_seqT, x_count, x_starts, x_sumL, x_sortedL, x_join, x_zipT_LL, x_zpL_LL, x_zipT_LT, x_zpL_LT, x_zipT_TL, x_zpL_TL, x_zipT_TT, x_zpL_TT, x_isD_nn, x_isD_nb, x_isD_bn, x_isD_bb, x_isD_in, x_isD_ib, x_isD_sn, x_isD_sb, x_isD_ln, x_isD_lb, x_isD_tn, x_isD_tb, x_truN, x_truB, x_truI, x_truL, x_truF, x_truT, x_truS, x_eqIL, x_eqIT, x_eqIR, x_eqBB, x_cut, x_boolB, x_boolI, x_revT, x_revL, x_revF, x_repT, x_map, x_ipAdd, x_ipSub, x_ipXor, x_atN, x_isi_n_int, x_isi_n_bool, x_isi_n_str, x_isi_n_list, x_isi_n_tuple, x_isi_b_int, x_isi_b_bool, x_isi_b_str, x_isi_b_list, x_isi_b_tuple, x_isi_i_int, x_isi_i_bool, x_isi_i_str, x_isi_i_list, x_isi_i_tuple, x_isi_s_int, x_isi_s_bool, x_isi_s_str, x_isi_s_list, x_isi_s_tuple, x_isi_l_int, x_isi_l_bool, x_isi_l_str, x_isi_l_list, x_isi_l_tuple, x_isi_t_int, x_isi_t_bool, x_isi_t_str, x_isi_t_list, x_isi_t_tuple, List.length_cons, List.length_nil, List.getElem?_cons_zero, List.getElem?_cons_succ, List.set_cons_zero, List.set_cons_succ, List.map_cons, List.map_nil, List.cons_append, List.nil_append, Bool.and_self, Bool.and_true, Bool.true_and, Bool.and_false, Bool.false_and, Bool.not_true, Bool.not_false, Bool.false_eq_true, if_true, if_false, ite_true, ite_false, decide_true, decide_false, decide_eq_true_eq, decide_eq_false_iff_not, Bool.not_eq_true, Bool.not_eq_true', Nat.zero_add, Option.map_some, Int.toNat_natCast, reduceIte, reduceCtorEq, Int.reduceToNat, Int.reduceNeg, Int.reduceAdd, Int.reduceSub, Int.reduceMul, Int.reduceLT, Int.reduceLE, Int.reducePow, Nat.reduceLT, Nat.reduceLeDiff, Nat.reduceAdd, Nat.reduceMul, Nat.reduceSub, Int.reduceMod, Int.reduceDiv, Int.reduceEq, Nat.reduceEqDiff, Int.cast_ofNat_Int, wp_ok, wp_bind, wp_stuck, wp_exc, id_eq])]
  (try simp -implicitDefEqProofs (maxSteps := 1000000) (disch := walk_at "d") only [z_bind, z_bindX, z_bindS, z_assoc, z_opt, z_optN, z_obind, z_unB, z_unBT, z_unI, z_unS, z_unL, z_sbind, z_nbind, z_smT, z_smL, z_td, z_tdL, z_unT, z_unC, z_un0, z_rg1, z_rg2, z_iterL, z_iterT, z_iterF, z_iterS, z_put, z_raise, z_tryOk, z_tryX, z_tryS, z_putG, x_add, x_addL, x_addT, x_addS, x_sub, x_band, x_bor, x_bxor, x_mul, x_fdiv, x_mod, x_pow, x_shl, x_shr, x_neg, x_lt, x_le, x_gt', x_ge, x_eqI, x_neI, x_eqS, x_neS, x_eqB, x_neB, x_is, x_isnot, x_ixT, x_ixL, x_ixF, x_ixS, x_lenL, x_lenT, x_lenF, x_lenS, x_abs, x_min, x_max, x_int, x_intB, x_list, x_tup, x_itL, x_itF, x_itT, x_slT, x_slL, x_slF, x_slS, x_seqL, x_seqT, x_count, x_starts, x_sumL, x_sortedL, x_join, x_zipT_LL, x_zpL_LL, x_zipT_LT, x_zpL_LT, x_zipT_TL, x_zpL_TL, x_zipT_TT, x_zpL_TT, x_isD_nn, x_isD_nb, x_isD_bn, x_isD_bb, x_isD_in, x_isD_ib, x_isD_sn, x_isD_sb, x_isD_ln, x_isD_lb, x_isD_tn, x_isD_tb, x_truN, x_truB, x_truI, x_truL, x_truF, x_truT, x_truS, x_eqIL, x_eqIT, x_eqIR, x_eqBB, x_cut, x_boolB, x_boolI, x_revT, x_revL, x_revF, x_repT, x_map, x_ipAdd, x_ipSub, x_ipXor, x_atN, x_isi_n_int, x_isi_n_bool, x_isi_n_str, x_isi_n_list, x_isi_n_tuple, x_isi_b_int, x_isi_b_bool, x_isi_b_str, x_isi_b_list, x_isi_b_tuple, x_isi_i_int, x_isi_i_bool, x_isi_i_str, x_isi_i_list, x_isi_i_tuple, x_isi_s_int, x_isi_s_bool, x_isi_s_str, x_isi_s_list, x_isi_s_tuple, x_isi_l_int, x_isi_l_bool, x_isi_l_str, x_isi_l_list, x_isi_l_tuple, x_isi_t_int, x_isi_t_bool, x_isi_t_str, x_isi_t_list, x_isi_t_tuple, List.length_cons, List.length_nil, List.getElem?_cons_zero, List.getElem?_cons_succ, List.set_cons_zero, List.set_cons_succ, List.map_cons, List.map_nil, List.cons_append, List.nil_append, Bool.and_self, Bool.and_true, Bool.true_and, Bool.and_false, Bool.false_and, Bool.not_true, Bool.not_false, Bool.false_eq_true, if_true, if_false, ite_true, ite_false, decide_true, decide_false, decide_eq_true_eq, decide_eq_false_iff_not, Bool.not_eq_true, Bool.not_eq_true', Nat.zero_add, Option.map_some, Int.toNat_natCast, reduceIte, reduceCtorEq, Int.reduceToNat, Int.reduceNeg, Int.reduceAdd, Int.reduceSub, Int.reduceMul, Int.reduceLT, Int.reduceLE, Int.reducePow, Nat.reduceLT, Nat.reduceLeDiff, Nat.reduceAdd, Nat.reduceMul, Nat.reduceSub, Int.reduceMod, Int.reduceDiv, Int.reduceEq, Nat.reduceEqDiff, Int.cast_ofNat_Int, wp_ok, wp_bind, wp_stuck, wp_exc, id_eq])
  refine Z.wp.mono (Q' := fun b => ∃ q, b = .inl (dis (lensOf c), q)) (wp_wh (S := List D × D) (fun s => ∃ k, k + 1 ≤ c.length ∧ s = (dis (hIt c k).1, .lst ((hIt c k).2.map Gp.d))) (fun s => match s.2 with | .lst ds => ds.length | _ => 0) ?_ _ _ ⟨0, by omega, rfl⟩ (by unfold fuel; show ((hInit c).2.map Gp.d).length < _; simp [hInit]; omega)) ?_
  · rintro _ ⟨k, k1, rfl⟩
    obtain ⟨hi, hl⟩ := hIt_ok hz hc k k1
    have lg : ((hIt c k).2.map Gp.d).length = (hIt c k).2.length := List.length_map ..
    (try simp -implicitDefEqProofs (maxSteps := 1000000) (disch := walk_at "d") only [lg, z_bind, z_bindX, z_bindS, z_assoc, z_opt, z_optN, z_obind, z_unB, z_unBT, z_unI, z_unS, z_unL, z_sbind, z_nbind, z_smT, z_smL, z_td, z_tdL, z_unT, z_unC, z_un0, z_rg1, z_rg2, z_iterL, z_iterT, z_iterF, z_iterS, z_put, z_raise, z_tryOk, z_tryX, z_tryS, z_putG, x_add, x_addL, x_addT, x_addS, x_sub, x_band, x_bor, x_bxor, x_mul, x_fdiv, x_mod, x_pow, x_shl, x_shr, x_neg, x_lt, x_le, x_gt', x_ge, x_eqI, x_neI, x_eqS, x_neS, x_eqB, x_neB, x_is, x_isnot, x_ixT, x_ixL, x_ixF, x_ixS, x_lenL, x_lenT, x_lenF, x_lenS, x_abs, x_min, x_max, x_int, x_intB, x_list, x_tup, x_itL, x_itF, x_itT, x_slT, x_slL, x_slF, x_slS, x_seqL, x_seqT, x_count, x_starts, x_sumL, x_sortedL, x_join, x_zipT_LL, x_zpL_LL, x_zipT_LT, x_zpL_LT, x_zipT_TL, x_zpL_TL, x_zipT_TT, x_zpL_TT, x_isD_nn, x_isD_nb, x_isD_bn, x_isD_bb, x_isD_in, x_isD_ib, x_isD_sn, x_isD_sb, x_isD_ln, x_isD_lb, x_isD_tn, x_isD_tb, x_truN, x_truB, x_truI, x_truL, x_truF, x_truT, x_truS, x_eqIL, x_eqIT, x_eqIR, x_eqBB, x_cut, x_boolB, x_boolI, x_revT, x_revL, x_revF, x_repT, x_map, x_ipAdd, x_ipSub, x_ipXor, x_atN, x_isi_n_int, x_isi_n_bool, x_isi_n_str, x_isi_n_list, x_isi_n_tuple, x_isi_b_int, x_isi_b_bool, x_isi_b_str, x_isi_b_list, x_isi_b_tuple, x_isi_i_int, x_isi_i_bool, x_isi_i_str, x_isi_i_list, x_isi_i_tuple, x_isi_s_int, x_isi_s_bool, x_isi_s_str, x_isi_s_list, x_isi_s_tuple, x_isi_l_int, x_isi_l_bool, x_isi_l_str, x_isi_l_list, x_isi_l_tuple, x_isi_t_int, x_isi_t_bool, x_isi_t_str, x_isi_t_list, x_isi_t_tuple, List.length_cons, List.length_nil, List.getElem?_cons_zero, List.getElem?_cons_succ, List.set_cons_zero, List.set_cons_succ, List.map_cons, List.map_nil, List.cons_append, List.nil_append, Bool.and_self, Bool.and_true, Bool.true_and, Bool.and_false, Bool.false_and, Bool.not_true, Bool.not_false, Bool.false_eq_true, if_true, if_false, ite_true, ite_false, decide_true, decide_false, decide_eq_true_eq, decide_eq_false_iff_not, Bool.not_eq_true, Bool.not_eq_true', Nat.zero_add, Option.map_some, Int.toNat_natCast, reduceIte, reduceCtorEq, Int.reduceToNat, Int.reduceNeg, Int.reduceAdd, Int.reduceSub, Int.reduceMul, Int.reduceLT, Int.reduceLE, Int.reducePow, Nat.reduceLT, Nat.reduceLeDiff, Nat.reduceAdd, Nat.reduceMul, Nat.reduceSub, Int.reduceMod, Int.reduceDiv, Int.reduceEq, Nat.reduceEqDiff, Int.cast_ofNat_Int, wp_ok, wp_bind, wp_stuck, wp_exc, id_eq])
    by_cases c2 : 2 ≤ (hIt c k).2.length
    · refine ⟨fun _ => ?_, fun h => absurd h (by omega)⟩
      obtain ⟨a, b, rest, e, es⟩ := hStep_eq c2
      have pm : (hIt c k).2.Perm (a :: b :: rest) := by rw [← e]; exact (gsort_perm _).symm
      have lr := pm.length_eq
      rw [List.length_cons, List.length_cons] at lr
      have srt : bSortedT [.lst ((hIt c k).2.map Gp.d)] = some (.lst (leafs (a.d :: b.d :: rest.map Gp.d))) := by
        have nd : (((hIt c k).2.map Gp.tri).map (·.1)).Nodup := by rw [List.map_map]; exact hi.nodup
        have := srtT nd
        rw [gsort_tri, e, List.map_map, List.map_map] at this
        exact this
      have j0 : ∀ g : Gp, opIx g.d (.int 0) = some (.val (.int g.w)) := fun _ => rfl
      have j1 : ∀ g : Gp, opIx g.d (.int 1) = some (.val (.int g.r)) := fun _ => rfl
      have j2 : ∀ g : Gp, opIx g.d (.int 2) = some (.val (.tup (plD g.ps))) := fun _ => rfl
      have pf : ((a.ps ++ b.ps) ++ rest.flatMap Gp.ps).Perm (List.range c.length) := by
        have := (pm.flatMap_right Gp.ps).symm.trans hi.pa
        rw [List.flatMap_cons, List.flatMap_cons, ← List.append_assoc] at this
        exact this
      have lA : a.ps.length + b.ps.length ≤ 16 := by
        have := pf.length_eq
        rw [List.length_range, List.length_append, List.length_append] at this
        omega
      have inr : ∀ p ∈ a.ps ++ b.ps, p < (hIt c k).1.length := fun p hp => by
        rw [hi.n1]
        exact List.mem_range.mp (pf.mem_iff.mp (List.mem_append_left _ hp))
      have ad : opAdd (.tup (plD a.ps)) (.tup (plD b.ps)) = some (.val (.tup (plD (a.ps ++ b.ps)))) := by
        rw [plD_app]
        exact x_addT (by rw [plD_len, plD_len]; omega)
      have mn : ∀ x y : Int, bMin [.int x, .int y] = some (.val (.int (min x y))) := fun x y => by
        rw [x_min]
        have : (if y < x then y else x) = min x y := by split <;> omega
        rw [this]
      have sl : KM.cutD (a.d :: b.d :: rest.map Gp.d) (some 2) none = rest.map Gp.d := cutD_from (ds := a.d :: b.d :: rest.map Gp.d) (k := 2) (by simp)
      have sm := z_smL (ds := rest.map Gp.d ++ [D.tup [.int (a.w + b.w), .int (min a.r b.r), .tup (plD (a.ps ++ b.ps))]]) (by simp; omega)
      have fb : ∀ f : D → List D → Z (List D), (∀ (p : Nat) (ls : List Int), p < ls.length → f (.int p) (dis ls) = .ok (dis (ls.set p (ls.getD p 0 + 1)))) → forZ f (plD (a.ps ++ b.ps)) (dis (hIt c k).1) = .ok (dis (bump (hIt c k).1 (a.ps ++ b.ps))) := fun f hf => for_bump hf _ _ inr
      (try simp -implicitDefEqProofs (maxSteps := 1000000) (disch := walk_at "d") only [srt, j2, ad, z_bind, z_bindX, z_bindS, z_assoc, z_opt, z_optN, z_obind, z_unB, z_unBT, z_unI, z_unS, z_unL, z_sbind, z_nbind, z_smT, z_smL, z_td, z_tdL, z_unT, z_unC, z_un0, z_rg1, z_rg2, z_iterL, z_iterT, z_iterF, z_iterS, z_put, z_raise, z_tryOk, z_tryX, z_tryS, z_putG, x_add, x_addL, x_addT, x_addS, x_sub, x_band, x_bor, x_bxor, x_mul, x_fdiv, x_mod, x_pow, x_shl, x_shr, x_neg, x_lt, x_le, x_gt', x_ge, x_eqI, x_neI, x_eqS, x_neS, x_eqB, x_neB, x_is, x_isnot, x_ixT, x_ixL, x_ixF, x_ixS, x_lenL, x_lenT, x_lenF, x_lenS, x_abs, x_min, x_max, x_int, x_intB, x_list, x_tup, x_itL, x_itF, x_itT, x_slT, x_slL, x_slF, x_slS, x_seqL, x_seqT, x_count, x_starts, x_sumL, x_sortedL, x_join, x_zipT_LL, x_zpL_LL, x_zipT_LT, x_zpL_LT, x_zipT_TL, x_zpL_TL, x_zipT_TT, x_zpL_TT, x_isD_nn, x_isD_nb, x_isD_bn, x_isD_bb, x_isD_in, x_isD_ib, x_isD_sn, x_isD_sb, x_isD_ln, x_isD_lb, x_isD_tn, x_isD_tb, x_truN, x_truB, x_truI, x_truL, x_truF, x_truT, x_truS, x_eqIL, x_eqIT, x_eqIR, x_eqBB, x_cut, x_boolB, x_boolI, x_revT, x_revL, x_revF, x_repT, x_map, x_ipAdd, x_ipSub, x_ipXor, x_atN, x_isi_n_int, x_isi_n_bool, x_isi_n_str, x_isi_n_list, x_isi_n_tuple, x_isi_b_int, x_isi_b_bool, x_isi_b_str, x_isi_b_list, x_isi_b_tuple, x_isi_i_int, x_isi_i_bool, x_isi_i_str, x_isi_i_list, x_isi_i_tuple, x_isi_s_int, x_isi_s_bool, x_isi_s_str, x_isi_s_list, x_isi_s_tuple, x_isi_l_int, x_isi_l_bool, x_isi_l_str, x_isi_l_list, x_isi_l_tuple, x_isi_t_int, x_isi_t_bool, x_isi_t_str, x_isi_t_list, x_isi_t_tuple, List.length_cons, List.length_nil, List.getElem?_cons_zero, List.getElem?_cons_succ, List.set_cons_zero, List.set_cons_succ, List.map_cons, List.map_nil, List.cons_append, List.nil_append, Bool.and_self, Bool.and_true, Bool.true_and, Bool.and_false, Bool.false_and, Bool.not_true, Bool.not_false, Bool.false_eq_true, if_true, if_false, ite_true, ite_false, decide_true, decide_false, decide_eq_true_eq, decide_eq_false_iff_not, Bool.not_eq_true, Bool.not_eq_true', Nat.zero_add, Option.map_some, Int.toNat_natCast, reduceIte, reduceCtorEq, Int.reduceToNat, Int.reduceNeg, Int.reduceAdd, Int.reduceSub, Int.reduceMul, Int.reduceLT, Int.reduceLE, Int.reducePow, Nat.reduceLT, Nat.reduceLeDiff, Nat.reduceAdd, Nat.reduceMul, Nat.reduceSub, Int.reduceMod, Int.reduceDiv, Int.reduceEq, Nat.reduceEqDiff, Int.cast_ofNat_Int, wp_ok, wp_bind, wp_stuck, wp_exc, id_eq])
      rw [fb _ fun p ls hp => by
        have g : (dis ls)[((p : Nat) : Int).toNat]? = some (.int (ls.getD p 0)) := by
          rw [Int.toNat_natCast, dis_get, List.getD_eq_getElem?_getD, List.getElem?_eq_getElem hp]; rfl
        have au := z_aug (b := 1) (show 0 ≤ ((p : Nat) : Int) by omega) g
        (try simp -implicitDefEqProofs (maxSteps := 1000000) (disch := walk_at "d") only [au, z_bind, z_bindX, z_bindS, z_assoc, z_opt, z_optN, z_obind, z_unB, z_unBT, z_unI, z_unS, z_unL, z_sbind, z_nbind, z_smT, z_smL, z_td, z_tdL, z_unT, z_unC, z_un0, z_rg1, z_rg2, z_iterL, z_iterT, z_iterF, z_iterS, z_put, z_raise, z_tryOk, z_tryX, z_tryS, z_putG, x_add, x_addL, x_addT, x_addS, x_sub, x_band, x_bor, x_bxor, x_mul, x_fdiv, x_mod, x_pow, x_shl, x_shr, x_neg, x_lt, x_le, x_gt', x_ge, x_eqI, x_neI, x_eqS, x_neS, x_eqB, x_neB, x_is, x_isnot, x_ixT, x_ixL, x_ixF, x_ixS, x_lenL, x_lenT, x_lenF, x_lenS, x_abs, x_min, x_max, x_int, x_intB, x_list, x_tup, x_itL, x_itF, x_itT, x_slT, x_slL, x_slF, x_slS, x_seqL, x_seqT, x_count, x_starts, x_sumL, x_sortedL, x_join, x_zipT_LL, x_zpL_LL, x_zipT_LT, x_zpL_LT, x_zipT_TL, x_zpL_TL, x_zipT_TT, x_zpL_TT, x_isD_nn, x_isD_nb, x_isD_bn, x_isD_bb, x_isD_in, x_isD_ib, x_isD_sn, x_isD_sb, x_isD_ln, x_isD_lb, x_isD_tn, x_isD_tb, x_truN, x_truB, x_truI, x_truL, x_truF, x_truT, x_truS, x_eqIL, x_eqIT, x_eqIR, x_eqBB, x_cut, x_boolB, x_boolI, x_revT, x_revL, x_revF, x_repT, x_map, x_ipAdd, x_ipSub, x_ipXor, x_atN, x_isi_n_int, x_isi_n_bool, x_isi_n_str, x_isi_n_list, x_isi_n_tuple, x_isi_b_int, x_isi_b_bool, x_isi_b_str, x_isi_b_list, x_isi_b_tuple, x_isi_i_int, x_isi_i_bool, x_isi_i_str, x_isi_i_list, x_isi_i_tuple, x_isi_s_int, x_isi_s_bool, x_isi_s_str, x_isi_s_list, x_isi_s_tuple, x_isi_l_int, x_isi_l_bool, x_isi_l_str, x_isi_l_list, x_isi_l_tuple, x_isi_t_int, x_isi_t_bool, x_isi_t_str, x_isi_t_list, x_isi_t_tuple, List.length_cons, List.length_nil, List.getElem?_cons_zero, List.getElem?_cons_succ, List.set_cons_zero, List.set_cons_succ, List.map_cons, List.map_nil, List.cons_append, List.nil_append, Bool.and_self, Bool.and_true, Bool.true_and, Bool.and_false, Bool.false_and, Bool.not_true, Bool.not_false, Bool.false_eq_true, if_true, if_false, ite_true, ite_false, decide_true, decide_false, decide_eq_true_eq, decide_eq_false_iff_not, Bool.not_eq_true, Bool.not_eq_true', Nat.zero_add, Option.map_some, Int.toNat_natCast, reduceIte, reduceCtorEq, Int.reduceToNat, Int.reduceNeg, Int.reduceAdd, Int.reduceSub, Int.reduceMul, Int.reduceLT, Int.reduceLE, Int.reducePow, Nat.reduceLT, Nat.reduceLeDiff, Nat.reduceAdd, Nat.reduceMul, Nat.reduceSub, Int.reduceMod, Int.reduceDiv, Int.reduceEq, Nat.reduceEqDiff, Int.cast_ofNat_Int, wp_ok, wp_bind, wp_stuck, wp_exc, id_eq])
        unfold dis
        rw [List.map_set]]
      (try simp -implicitDefEqProofs (maxSteps := 1000000) (disch := walk_at "d") only [j0, j1, mn, sl, sm, z_bind, z_bindX, z_bindS, z_assoc, z_opt, z_optN, z_obind, z_unB, z_unBT, z_unI, z_unS, z_unL, z_sbind, z_nbind, z_smT, z_smL, z_td, z_tdL, z_unT, z_unC, z_un0, z_rg1, z_rg2, z_iterL, z_iterT, z_iterF, z_iterS, z_put, z_raise, z_tryOk, z_tryX, z_tryS, z_putG, x_add, x_addL, x_addT, x_addS, x_sub, x_band, x_bor, x_bxor, x_mul, x_fdiv, x_mod, x_pow, x_shl, x_shr, x_neg, x_lt, x_le, x_gt', x_ge, x_eqI, x_neI, x_eqS, x_neS, x_eqB, x_neB, x_is, x_isnot, x_ixT, x_ixL, x_ixF, x_ixS, x_lenL, x_lenT, x_lenF, x_lenS, x_abs, x_min, x_max, x_int, x_intB, x_list, x_tup, x_itL, x_itF, x_itT, x_slT, x_slL, x_slF, x_slS, x_seqL, x_seqT, x_count, x_starts, x_sumL, x_sortedL, x_join, x_zipT_LL, x_zpL_LL, x_zipT_LT, x_zpL_LT, x_zipT_TL, x_zpL_TL, x_zipT_TT, x_zpL_TT, x_isD_nn, x_isD_nb, x_isD_bn, x_isD_bb, x_isD_in, x_isD_ib, x_isD_sn, x_isD_sb, x_isD_ln, x_isD_lb, x_isD_tn, x_isD_tb, x_truN, x_truB, x_truI, x_truL, x_truF, x_truT, x_truS, x_eqIL, x_eqIT, x_eqIR, x_eqBB, x_cut, x_boolB, x_boolI, x_revT, x_revL, x_revF, x_repT, x_map, x_ipAdd, x_ipSub, x_ipXor, x_atN, x_isi_n_int, x_isi_n_bool, x_isi_n_str, x_isi_n_list, x_isi_n_tuple, x_isi_b_int, x_isi_b_bool, x_isi_b_str, x_isi_b_list, x_isi_b_tuple, x_isi_i_int, x_isi_i_bool, x_isi_i_str, x_isi_i_list, x_isi_i_tuple, x_isi_s_int, x_isi_s_bool, x_isi_s_str, x_isi_s_list, x_isi_s_tuple, x_isi_l_int, x_isi_l_bool, x_isi_l_str, x_isi_l_list, x_isi_l_tuple, x_isi_t_int, x_isi_t_bool, x_isi_t_str, x_isi_t_list, x_isi_t_tuple, List.length_cons, List.length_nil, List.getElem?_cons_zero, List.getElem?_cons_succ, List.set_cons_zero, List.set_cons_succ, List.map_cons, List.map_nil, List.cons_append, List.nil_append, Bool.and_self, Bool.and_true, Bool.true_and, Bool.and_false, Bool.false_and, Bool.not_true, Bool.not_false, Bool.false_eq_true, if_true, if_false, ite_true, ite_false, decide_true, decide_false, decide_eq_true_eq, decide_eq_false_iff_not, Bool.not_eq_true, Bool.not_eq_true', Nat.zero_add, Option.map_some, Int.toNat_natCast, reduceIte, reduceCtorEq, Int.reduceToNat, Int.reduceNeg, Int.reduceAdd, Int.reduceSub, Int.reduceMul, Int.reduceLT, Int.reduceLE, Int.reducePow, Nat.reduceLT, Nat.reduceLeDiff, Nat.reduceAdd, Nat.reduceMul, Nat.reduceSub, Int.reduceMod, Int.reduceDiv, Int.reduceEq, Nat.reduceEqDiff, Int.cast_ofNat_Int, wp_ok, wp_bind, wp_stuck, wp_exc, id_eq])
      have e3 : hIt c (k + 1) = (bump (hIt c k).1 (a.ps ++ b.ps), rest ++ [⟨a.w + b.w, min a.r b.r, a.ps ++ b.ps⟩]) := es
      refine ⟨⟨k + 1, by omega, ?_⟩, ?_⟩
      · rw [e3, List.map_append]; rfl
      · rw [List.length_append, List.length_map, List.length_singleton]
        omega
    · refine ⟨fun h => absurd h (by omega), fun _ => ?_⟩
      have : k = c.length - 1 := by omega
      subst this
      exact ⟨_, rfl⟩
  · rintro _ ⟨q, rfl⟩
    (try simp -implicitDefEqProofs (maxSteps := 1000000) (disch := walk_at "d") only [z_bind, z_bindX, z_bindS, z_assoc, z_opt, z_optN, z_obind, z_unB, z_unBT, z_unI, z_unS, z_unL, z_sbind, z_nbind, z_smT, z_smL, z_td, z_tdL, z_unT, z_unC, z_un0, z_rg1, z_rg2, z_iterL, z_iterT, z_iterF, z_iterS, z_put, z_raise, z_tryOk, z_tryX, z_tryS, z_putG, x_add, x_addL, x_addT, x_addS, x_sub, x_band, x_bor, x_bxor, x_mul, x_fdiv, x_mod, x_pow, x_shl, x_shr, x_neg, x_lt, x_le, x_gt', x_ge, x_eqI, x_neI, x_eqS, x_neS, x_eqB, x_neB, x_is, x_isnot, x_ixT, x_ixL, x_ixF, x_ixS, x_lenL, x_lenT, x_lenF, x_lenS, x_abs, x_min, x_max, x_int, x_intB, x_list, x_tup, x_itL, x_itF, x_itT, x_slT, x_slL, x_slF, x_slS, x_seqL, x_seqT, x_count, x_starts, x_sumL, x_sortedL, x_join, x_zipT_LL, x_zpL_LL, x_zipT_LT, x_zpL_LT, x_zipT_TL, x_zpL_TL, x_zipT_TT, x_zpL_TT, x_isD_nn, x_isD_nb, x_isD_bn, x_isD_bb, x_isD_in, x_isD_ib, x_isD_sn, x_isD_sb, x_isD_ln, x_isD_lb, x_isD_tn, x_isD_tb, x_truN, x_truB, x_truI, x_truL, x_truF, x_truT, x_truS, x_eqIL, x_eqIT, x_eqIR, x_eqBB, x_cut, x_boolB, x_boolI, x_revT, x_revL, x_revF, x_repT, x_map, x_ipAdd, x_ipSub, x_ipXor, x_atN, x_isi_n_int, x_isi_n_bool, x_isi_n_str, x_isi_n_list, x_isi_n_tuple, x_isi_b_int, x_isi_b_bool, x_isi_b_str, x_isi_b_list, x_isi_b_tuple, x_isi_i_int, x_isi_i_bool, x_isi_i_str, x_isi_i_list, x_isi_i_tuple, x_isi_s_int, x_isi_s_bool, x_isi_s_str, x_isi_s_list, x_isi_s_tuple, x_isi_l_int, x_isi_l_bool, x_isi_l_str, x_isi_l_list, x_isi_l_tuple, x_isi_t_int, x_isi_t_bool, x_isi_t_str, x_isi_t_list, x_isi_t_tuple, List.length_cons, List.length_nil, List.getElem?_cons_zero, List.getElem?_cons_succ, List.set_cons_zero, List.set_cons_succ, List.map_cons, List.map_nil, List.cons_append, List.nil_append, Bool.and_self, Bool.and_true, Bool.true_and, Bool.and_false, Bool.false_and, Bool.not_true, Bool.not_false, Bool.false_eq_true, if_true, if_false, ite_true, ite_false, decide_true, decide_false, decide_eq_true_eq, decide_eq_false_iff_not, Bool.not_eq_true, Bool.not_eq_true', Nat.zero_add, Option.map_some, Int.toNat_natCast, reduceIte, reduceCtorEq, Int.reduceToNat, Int.reduceNeg, Int.reduceAdd, Int.reduceSub, Int.reduceMul, Int.reduceLT, Int.reduceLE, Int.reducePow, Nat.reduceLT, Nat.reduceLeDiff, Nat.reduceAdd, Nat.reduceMul, Nat.reduceSub, Int.reduceMod, Int.reduceDiv, Int.reduceEq, Nat.reduceEqDiff, Int.cast_ofNat_Int, wp_ok, wp_bind, wp_stuck, wp_exc, id_eq])
end KL
namespace KL
open PySem PySem.Spec PyProof.Rows L2 Evl KP KM
local macro_rules | `(tactic| walk_at "d") => `(tactic| first | assumption | omega | (simp only [List.length_map, List.length_append, List.length_cons, List.length_nil, dis_len, dit_len]; omega) | (simp; done))
local macro_rules | `(tactic| walk_at "dr") => `(tactic| (refine Z.wp.mono (s_draw (by assumption) (by first | decide | omega) (by first | decide | omega)) ?_; rintro ⟨_, _⟩ ⟨hw, _, hh, _, _⟩; dsimp only at hw hh; subst hh; dsimp only))
/-! ### the joinings of the law -/
inductive Clm (ab : List Int) : Nat → Nat → Nat → Prop
  | nil (p : Nat) : Clm ab 0 p p
  | step {k p q r : Nat} : ab[p]? = some (q : Int) → Clm ab k q r → Clm ab (k + 1) p r
theorem Clm.mono {ab ab' : List Int} (h : ∀ p q : Nat, ab[p]? = some (q : Int) → ab'[p]? = some (q : Int)) {k p r : Nat} (c : Clm ab k p r) : Clm ab' k p r := by
  induction c with
  | nil p => exact .nil p
  | step e _ ih => exact .step (h _ _ e) ih
theorem Clm.snoc {ab : List Int} {k p q r : Nat} (c : Clm ab k p q) (e : ab[q]? = some (r : Int)) : Clm ab (k + 1) p r := by
  induction c with
  | nil p => exact .step e (.nil r)
  | step e2 _ ih => exact .step e2 (ih e)
theorem for_clm {ab : List Int} {f : D → D × D → Z (D × D)} (h1 : ∀ d (p q : Nat) (l : Int), ab[p]? = some (q : Int) → f d (.int p, .int l) = .ok (.int q, .int (l + 1))) (h2 : ∀ d (p : Nat) (l : Int), ab[p]? = some (-1) → f d (.int p, .int l) = .ok (.int p, .int l)) : ∀ (ds : List D) (k p r : Nat) (l : Int), Clm ab k p r → ab[r]? = some (-1) → k ≤ ds.length → forZ f ds (.int p, .int l) = .ok (.int r, .int (l + k))
  | [], k, p, r, l, c, e, hk => by
    have : k = 0 := by simpa using hk
    subst this
    cases c
    show Z.ok _ = _
    rw [show l + ((0 : Nat) : Int) = l by omega]
  | d :: ds, k, p, r, l, c, e, hk => by
    show ((f d (.int p, .int l)).bind (forZ f ds)) = _
    cases c with
    | nil =>
      rw [h2 d p l e]
      exact for_clm h1 h2 ds 0 p p l (.nil p) e (Nat.zero_le _)
    | @step k p q r e1 c =>
      rw [h1 d p q l e1]
      show forZ f ds (.int q, .int (l + 1)) = _
      rw [for_clm h1 h2 ds k q r (l + 1) c e (by rw [List.length_cons] at hk; omega), show l + 1 + (k : Int) = l + ((k + 1 : Nat) : Int) by omega]
theorem gsort_uniq {gs hs : List Gp} (h : gs.Perm hs) (nd : (gs.map fun g => (g.w, g.r)).Nodup) : gsort gs = gsort hs := by
  refine List.Perm.eq_of_pairwise (le := fun a b => gLe a b = true) (fun a b ha hb h1 h2 => ?_) (gsort_srt gs) (gsort_srt hs) ((gsort_perm gs).trans (h.trans (gsort_perm hs).symm))
  unfold gLe at h1 h2
  rw [lexLe_le] at h1 h2
  dsimp only at h1 h2
  exact nodup_inj nd a ((gsort_perm gs).mem_iff.mp ha) b (h.symm.mem_iff.mp ((gsort_perm hs).mem_iff.mp hb)) (Prod.ext (by dsimp only; omega) (by dsimp only; omega))
/-- what a step does to the lengths -/
theorem HI.lens {c : List Int} {s : List Int × List Gp} (h : HI c s) (h2 : 2 ≤ s.2.length) {a b : Gp} {rest : List Gp} (e : gsort s.2 = a :: b :: rest) : (∀ p ∈ a.ps ++ b.ps, (bump s.1 (a.ps ++ b.ps)).getD p 0 = s.1.getD p 0 + 1) ∧ ∀ g ∈ rest, ∀ p ∈ g.ps, (bump s.1 (a.ps ++ b.ps)).getD p 0 = s.1.getD p 0 := by
  have pm : s.2.Perm (a :: b :: rest) := by rw [← e]; exact (gsort_perm s.2).symm
  have pf : (List.range c.length).Perm ((a.ps ++ b.ps) ++ rest.flatMap Gp.ps) := by
    have := (pm.flatMap_right Gp.ps).symm.trans h.pa
    rw [List.flatMap_cons, List.flatMap_cons, ← List.append_assoc] at this
    exact this.symm
  have nd : ((a.ps ++ b.ps) ++ rest.flatMap Gp.ps).Nodup := pf.nodup_iff.mp List.nodup_range
  obtain ⟨nA, nR, nX⟩ := List.nodup_append.mp nd
  have inr : ∀ p ∈ a.ps ++ b.ps, p < s.1.length := fun p hp => by
    rw [h.n1]
    exact List.mem_range.mp (pf.mem_iff.mpr (List.mem_append_left _ hp))
  have bg := bump_get (a.ps ++ b.ps) s.1 nA inr
  exact ⟨fun p hp => by rw [bg, if_pos hp], fun g hg p hp => by
    rw [bg, if_neg fun z => nX p z p (List.mem_flatMap.mpr ⟨g, hg, hp⟩) rfl, Int.add_zero]⟩
def gpO (we rk : List Int) (pss : List (List Nat)) (i : Nat) : Gp := ⟨we.getD i 0, rk.getD i 0, pss.getD i []⟩
structure Lk (c : List Int) (k : Nat) (we rk ab : List Int) (L : List Nat) (pss : List (List Nat)) : Prop where
  l1 : we.length = c.length + k
  l2 : rk.length = c.length + k
  l3 : ab.length = c.length + k
  l4 : pss.length = c.length + k
  lt : ∀ i ∈ L, i < c.length + k
  gs : (hIt c k).2.Perm (L.map (gpO we rk pss))
  rt : ∀ i ∈ L, ab[i]? = some (-1)
  cl : ∀ i ∈ L, ∀ p ∈ pss.getD i [], Clm ab ((hIt c k).1.getD p 0).toNat p i
  nd : L.Nodup
theorem Lk.init (c : List Int) : Lk c 0 c ((List.range c.length).map fun i : Nat => (i : Int)) (List.replicate c.length (-1)) (List.range c.length) ((List.range c.length).map fun i => [i]) := by
  refine ⟨rfl, by simp, by simp, by simp, fun i hi => by simpa using hi, ?_, fun i hi => ?_, fun i hi p hp => ?_, List.nodup_range⟩
  · have : (hInit c).2 = (List.range c.length).map (gpO c ((List.range c.length).map fun i : Nat => (i : Int)) ((List.range c.length).map fun i => [i])) := by
      refine List.map_congr_left fun i hi => ?_
      have hi := List.mem_range.mp hi
      unfold gpO
      congr 1
      · rw [List.getD_eq_getElem?_getD, List.getElem?_map, List.getElem?_range hi]; rfl
      · rw [List.getD_eq_getElem?_getD, List.getElem?_map, List.getElem?_range hi]; rfl
    show (hInit c).2.Perm _
    rw [this]
  · rw [List.getElem?_replicate, if_pos (List.mem_range.mp hi)]
  · have hi := List.mem_range.mp hi
    have e : ((List.range c.length).map fun i => [i]).getD i [] = [i] := by
      rw [List.getD_eq_getElem?_getD, List.getElem?_map, List.getElem?_range hi]; rfl
    rw [e] at hp
    have hp := List.mem_singleton.mp hp
    subst hp
    have e : (hIt c 0).1.getD p 0 = 0 := by
      show (List.replicate c.length (0 : Int)).getD p 0 = 0
      rw [List.getD_eq_getElem?_getD, List.getElem?_replicate]; split <;> rfl
    rw [e]
    exact .nil p
def lKey (we rk : List Int) (i j : Nat) : Bool := lexLe (we.getD i 0, rk.getD i 0) (we.getD j 0, rk.getD j 0)
def lSort (we rk : List Int) (L : List Nat) : List Nat := L.mergeSort (lKey we rk)
def lTri (we rk : List Int) (i : Nat) : Tri := ((we.getD i 0, rk.getD i 0), .int (i : Nat))
theorem lSort_tri (we rk : List Int) (L : List Nat) : tsort (L.map (lTri we rk)) = (lSort we rk L).map (lTri we rk) := by
  unfold tsort lSort
  exact (List.map_mergeSort (r := lKey we rk) (s := triLe) (f := lTri we rk) (l := L) fun a _ b _ => rfl).symm
theorem lSort_gp (we rk : List Int) (pss : List (List Nat)) (L : List Nat) : gsort (L.map (gpO we rk pss)) = (lSort we rk L).map (gpO we rk pss) := by
  unfold gsort lSort
  exact (List.map_mergeSort (r := lKey we rk) (s := gLe) (f := gpO we rk pss) (l := L) fun a _ b _ => rfl).symm
theorem getD_app_l {α : Type} {a b : List α} {i : Nat} {d : α} (h : i < a.length) : (a ++ b).getD i d = a.getD i d := by
  rw [List.getD_eq_getElem?_getD, List.getD_eq_getElem?_getD, List.getElem?_append_left h]
theorem getD_app_r {α : Type} {a : List α} {x d : α} {i : Nat} (h : i = a.length) : (a ++ [x]).getD i d = x := by
  subst h
  rw [List.getD_eq_getElem?_getD, List.getElem?_append_right (Nat.le_refl _), Nat.sub_self]; rfl
/-- one joining -/
theorem Lk.step {c : List Int} {k : Nat} {we rk ab : List Int} {L : List Nat} {pss : List (List Nat)} (hz : c.length ≤ 16) (hc : c ≠ []) (hk : k + 2 ≤ c.length) (h : Lk c k we rk ab L pss) :
    ∃ one two Lr, lSort we rk L = one :: two :: Lr ∧ one ∈ L ∧ two ∈ L ∧ one ≠ two ∧ ((L.map (lTri we rk)).map (·.1)).Nodup ∧
      Lk c (k + 1) (we ++ [we.getD one 0 + we.getD two 0]) (rk ++ [min (rk.getD one 0) (rk.getD two 0)]) (((ab.set one (c.length + k : Nat)).set two (c.length + k : Nat)) ++ [-1]) (L.filter (fun i => decide (i ≠ one) && decide (i ≠ two)) ++ [c.length + k]) (pss ++ [pss.getD one [] ++ pss.getD two []]) := by
  obtain ⟨hI, hl⟩ := hIt_ok hz hc k (by omega)
  obtain ⟨a, b, rest, e, es⟩ := hStep_eq (s := hIt c k) (by omega)
  have nd := hI.nodup
  have u := gsort_uniq h.gs nd
  rw [lSort_gp, e] at u
  have pL : (lSort we rk L).Perm L := List.mergeSort_perm _ _
  rcases eL : lSort we rk L with _ | ⟨one, _ | ⟨two, Lr⟩⟩
  · rw [eL] at u; cases u
  · rw [eL] at u; cases u
  rw [eL] at u pL
  rw [List.map_cons, List.map_cons] at u
  injection u with ua u
  injection u with ub ur
  have m1 : one ∈ L := pL.mem_iff.mp List.mem_cons_self
  have m2 : two ∈ L := pL.mem_iff.mp (by simp)
  have mr : ∀ i ∈ Lr, i ∈ L := fun i hi => pL.mem_iff.mp (by simp [hi])
  have ndL : (one :: two :: Lr).Nodup := pL.nodup_iff.mpr h.nd
  obtain ⟨n1, ndL⟩ := List.nodup_cons.mp ndL
  obtain ⟨n2, ndr⟩ := List.nodup_cons.mp ndL
  have ne : one ≠ two := fun z => n1 (by rw [z]; exact List.mem_cons_self)
  have nr1 : ∀ i ∈ Lr, i ≠ one := fun i hi z => n1 (by rw [← z]; exact List.mem_cons_of_mem _ hi)
  have nr2 : ∀ i ∈ Lr, i ≠ two := fun i hi z => n2 (by rw [← z]; exact hi)
  have fl : (L.filter fun i => decide (i ≠ one) && decide (i ≠ two)).Perm Lr := by
    have := pL.symm.filter fun i => decide (i ≠ one) && decide (i ≠ two)
    rw [List.filter_cons_of_neg (by simp), List.filter_cons_of_neg (by simp)] at this
    have e5 : Lr.filter (fun i => decide (i ≠ one) && decide (i ≠ two)) = Lr := List.filter_eq_self.mpr fun i hi => by simp [nr1 i hi, nr2 i hi]
    rwa [e5] at this
  have b1 := h.lt one m1
  have b2 := h.lt two m2
  have h1 := h.l1
  have h2 := h.l2
  have h3 := h.l3
  have h4 := h.l4
  have kn : ((L.map (lTri we rk)).map (·.1)).Nodup := by
    have := (h.gs.map fun g => (g.w, g.r)).nodup_iff.mp nd
    rw [List.map_map] at this ⊢
    exact this
  have e3 : hIt c (k + 1) = (bump (hIt c k).1 (a.ps ++ b.ps), rest ++ [⟨a.w + b.w, min a.r b.r, a.ps ++ b.ps⟩]) := es
  obtain ⟨bl1, bl2⟩ := hI.lens (by omega) e
  have ap : a.ps = pss.getD one [] := by rw [ua]; rfl
  have bp : b.ps = pss.getD two [] := by rw [ub]; rfl
  have aw : a.w = we.getD one 0 := by rw [ua]; rfl
  have bw : b.w = we.getD two 0 := by rw [ub]; rfl
  have ar : a.r = rk.getD one 0 := by rw [ua]; rfl
  have br : b.r = rk.getD two 0 := by rw [ub]; rfl
  have al : (((ab.set one (c.length + k : Nat)).set two (c.length + k : Nat))).length = c.length + k := by rw [List.length_set, List.length_set, h3]
  have mono : ∀ p q : Nat, ab[p]? = some (q : Int) → (((ab.set one (c.length + k : Nat)).set two (c.length + k : Nat)) ++ [-1])[p]? = some (q : Int) := fun p q hp => by
    have hp2 := (List.getElem?_eq_some_iff.mp hp).1
    have q1 : p ≠ one := fun z => by
      rw [z, h.rt one m1] at hp
      injection hp with hp
      omega
    have q2 : p ≠ two := fun z => by
      rw [z, h.rt two m2] at hp
      injection hp with hp
      omega
    rw [List.getElem?_append_left (by omega), List.getElem?_set_ne (Ne.symm q2), List.getElem?_set_ne (Ne.symm q1)]
    exact hp
  have at1 : (((ab.set one (c.length + k : Nat)).set two (c.length + k : Nat)) ++ [-1])[one]? = some ((c.length + k : Nat) : Int) := by
    rw [List.getElem?_append_left (by omega), List.getElem?_set_ne (Ne.symm ne), List.getElem?_set_self (by omega)]
  have at2 : (((ab.set one (c.length + k : Nat)).set two (c.length + k : Nat)) ++ [-1])[two]? = some ((c.length + k : Nat) : Int) := by
    rw [List.getElem?_append_left (by omega), List.getElem?_set_self (by rw [List.length_set]; omega)]
  refine ⟨one, two, Lr, rfl, m1, m2, ne, kn, ⟨by simp; omega, by simp; omega, by rw [List.length_append, al]; rfl, by simp; omega, ?_, ?_, ?_, ?_, ?_⟩⟩
  · intro i hi
    rcases List.mem_append.mp hi with hi | hi
    · have := h.lt i (mr i (fl.mem_iff.mp hi)); omega
    · rw [List.mem_singleton.mp hi]; omega
  · rw [e3]
    (try dsimp only)
    have e4 : (L.filter (fun i => decide (i ≠ one) && decide (i ≠ two)) ++ [c.length + k]).map (gpO (we ++ [we.getD one 0 + we.getD two 0]) (rk ++ [min (rk.getD one 0) (rk.getD two 0)]) (pss ++ [pss.getD one [] ++ pss.getD two []])) = (L.filter (fun i => decide (i ≠ one) && decide (i ≠ two))).map (gpO we rk pss) ++ [⟨a.w + b.w, min a.r b.r, a.ps ++ b.ps⟩] := by
      rw [List.map_append, List.map_cons, List.map_nil]
      congr 1
      · refine List.map_congr_left fun i hi => ?_
        have hb := h.lt i (mr i (fl.mem_iff.mp hi))
        unfold gpO
        rw [getD_app_l (by omega), getD_app_l (by omega), getD_app_l (by omega)]
      · unfold gpO
        rw [getD_app_r h1.symm, getD_app_r h2.symm, getD_app_r h4.symm, aw, bw, ar, br, ap, bp]
    rw [e4, ur]
    exact (fl.map _).symm.append_right _
  · intro i hi
    rcases List.mem_append.mp hi with hi | hi
    · have hi2 := fl.mem_iff.mp hi
      have hb := h.lt i (mr i hi2)
      rw [List.getElem?_append_left (by omega), List.getElem?_set_ne (Ne.symm (nr2 i hi2)), List.getElem?_set_ne (Ne.symm (nr1 i hi2))]
      exact h.rt i (mr i hi2)
    · rw [List.mem_singleton.mp hi, List.getElem?_append_right (by omega), al, Nat.sub_self]; rfl
  · intro i hi p hp
    rw [e3]
    (try dsimp only)
    rcases List.mem_append.mp hi with hi | hi
    · have hi2 := fl.mem_iff.mp hi
      have hb := h.lt i (mr i hi2)
      rw [getD_app_l (by omega)] at hp
      have : gpO we rk pss i ∈ rest := by rw [ur]; exact List.mem_map.mpr ⟨i, hi2, rfl⟩
      rw [bl2 _ this p hp]
      exact (h.cl i (mr i hi2) p hp).mono mono
    · rw [List.mem_singleton.mp hi] at hp ⊢
      rw [getD_app_r h4.symm] at hp
      rw [← ap, ← bp] at hp
      rw [bl1 p hp]
      have l0 : 0 ≤ (hIt c k).1.getD p 0 := by
        have pm : (hIt c k).2.Perm (a :: b :: rest) := by rw [← e]; exact (gsort_perm _).symm
        rcases List.mem_append.mp hp with q | q
        · exact (hI.dp a (pm.mem_iff.mpr List.mem_cons_self) p q).1
        · exact (hI.dp b (pm.mem_iff.mpr (by simp)) p q).1
      rw [show ((hIt c k).1.getD p 0 + 1).toNat = ((hIt c k).1.getD p 0).toNat + 1 by omega]
      rcases List.mem_append.mp hp with q | q
      · rw [ap] at q
        exact ((h.cl one m1 p q).mono mono).snoc at1
      · rw [bp] at q
        exact ((h.cl two m2 p q).mono mono).snoc at2
  · refine List.nodup_append.mpr ⟨h.nd.filter _, by simp, fun x hx y hy z => ?_⟩
    have := h.lt x (mr x (fl.mem_iff.mp hx))
    rw [List.mem_singleton.mp hy] at z
    omega
end KL
namespace KL
open PySem PySem.Spec PyProof.Rows L2 Evl KP KM
local macro_rules | `(tactic| walk_at "d") => `(tactic| first | assumption | omega | (simp only [List.length_map, List.length_append, List.length_cons, List.length_nil, dis_len, dit_len]; omega) | (simp; done))
local macro_rules | `(tactic| walk_at "dr") => `(tactic| (refine Z.wp.mono (s_draw (by assumption) (by first | decide | omega) (by first | decide | omega)) ?_; rintro ⟨_, _⟩ ⟨hw, _, hh, _, _⟩; dsimp only at hw hh; subst hh; dsimp only))
theorem rgD_plD (n : Nat) : rgD 0 n = plD (List.range n) := by
  unfold rgD plD dis
  rw [List.map_map]
  refine List.map_congr_left fun i _ => ?_
  show D.int (0 + (i : Int)) = D.int (i : Int)
  rw [Int.zero_add]
theorem put_dis {ls : List Int} {i : Nat} (v : Int) (h : i < ls.length) : putZ (dis ls) (.int (i : Nat)) (.int v) = some (dis (ls.set i v)) := by
  rw [z_put (by omega) (by rw [dis_len]; omega), Int.toNat_natCast]
  unfold dis
  rw [List.map_set]
theorem get_int {ls : List Int} {i : Nat} (h : i < ls.length) : (dis ls)[i]? = some (.int (ls.getD i 0)) := by
  rw [dis_get, List.getD_eq_getElem?_getD, List.getElem?_eq_getElem h]; rfl
theorem lc_tri {we rk : List Int} {L : List Nat} {f : D → Unit → Z (Option D × Unit)} (hz : L.length ≤ 1000) (hf : ∀ i ∈ L, f (.int (i : Nat)) () = .ok (some (trD (lTri we rk i)), ())) : lcZ f (plD L) [] () = .ok ((L.map (lTri we rk)).map trD, ()) := by
  rw [z_lc1 (g := fun d => match d with | .int i => trD (lTri we rk i.toNat) | d => d) (by rw [plD_len]; omega) fun d hd => by
    obtain ⟨j, hj, rfl⟩ := List.mem_map.mp hd
    obtain ⟨i, hi, rfl⟩ := List.mem_map.mp hj
    rw [hf i hi]
    (try dsimp only)
    rw [Int.toNat_natCast]]
  unfold plD dis
  rw [List.map_map, List.map_map, List.map_map]
  congr 2
theorem lc_flt {one two : Nat} {L : List Nat} {f : D → Unit → Z (Option D × Unit)} (hz : L.length ≤ 1000) (hf : ∀ i : Nat, f (.int (i : Nat)) () = .ok (if (decide (i ≠ one) && decide (i ≠ two)) = true then some (.int (i : Nat)) else none, ())) : lcZ f (plD L) [] () = .ok (plD (L.filter fun i => decide (i ≠ one) && decide (i ≠ two)), ()) := by
  have e := z_lc (f := f) (p := fun d => match d with | .int i => (decide (i.toNat ≠ one) && decide (i.toNat ≠ two)) | _ => false) (g := id) (plD L) [] (by rw [plD_len]; show 0 + _ ≤ _; omega) fun d hd => by
    obtain ⟨j, hj, rfl⟩ := List.mem_map.mp hd
    obtain ⟨i, hi, rfl⟩ := List.mem_map.mp hj
    rw [hf i]
    rfl
  rw [e, List.nil_append, List.map_id]
  congr 2
  unfold plD dis
  rw [List.filter_map, List.filter_map]
  congr 2
theorem t_joined {c : List Int} (hz : c.length ≤ 16) (hc : c ≠ []) : f_law_joined (.lst (dis c)) = .ok (.tup (dis (lensOf c))) := by
  have hn : 0 < c.length := List.length_pos_iff.mpr hc
  have dl := dis_len c
  suffices w : (f_law_joined (.lst (dis c))).wp fun r => r = .tup (dis (lensOf c)) by
    obtain ⟨_, e, rfl⟩ := w.ex
    exact e
  have m1 : ∀ f : D → Unit → Z (Option D × Unit), (∀ d, f d () = .ok (some (.int (-1)), ())) → lcZ f (dis c) [] () = .ok (dis (List.replicate c.length (-1)), ()) := fun f hf => by
    rw [z_lc1 (g := fun _ => .int (-1)) (by omega) fun d _ => hf d]
    congr 2
    unfold dis
    rw [List.map_map, List.map_replicate]
    refine List.eq_replicate_iff.mpr ⟨by simp, fun x hx => ?_⟩
    obtain ⟨y, _, rfl⟩ := List.mem_map.mp hx
    rfl
  simp only [f_law_joined, r_law_joined]
  (try simp -implicitDefEqProofs (maxSteps := 1000000) (disch := walk_at "d") only [dl, z_bind, z_bindX, z_bindS, z_assoc, z_opt, z_optN, z_obind, z_unB, z_unBT, z_unI, z_unS, z_unL, z_sbind, z_nbind, z_smT, z_smL, z_td, z_tdL, z_unT, z_unC, z_un0, z_rg1, z_rg2, z_iterL, z_iterT, z_iterF, z_iterS, z_put, z_raise, z_tryOk, z_tryX, z_tryS, z_putG, x_add, x_addL, x_addT, x_addS, x_sub, x_band, x_bor, x_bxor, x_mul, x_fdiv, x_mod, x_pow, x_shl, x_shr, x_neg, x_lt, x_le, x_gt', x_ge, x_eqI, x_neI, x_eqS, x_neS, x_eqB, x_neB, x_is, x_isnot, x_ixT, x_ixL, x_ixF, x_ixS, x_lenL, x_lenT, x_lenF, x_lenS, x_abs, x_min, x_max, x_int, x_intB, x_list, x_tup, x_itL, x_itF, x_itT, x_slT, x_slL, x_slF, x_slS, x_seqL, x_seqT, x_count, x_starts, x_sumL, x_sortedL, x_join, x_zipT_LL, x_zpL_LL, x_zipT_LT, x_zpL_LT, x_zipT_TL, x_zpL_TL, x_zipT_TT, x_zpL_TT, x_isD_nn, x_isD_nb, x_isD_bn, x_isD_bb, x_isD_in, x_isD_ib, x_isD_sn, x_isD_sb, x_isD_ln, x_isD_lb, x_isD_tn, x_isD_tb, x_truN, x_truB, x_truI, x_truL, x_truF, x_truT, x_truS, x_eqIL, x_eqIT, x_eqIR, x_eqBB, x_cut, x_boolB, x_boolI, x_revT, x_revL, x_revF, x_repT, x_map, x_ipAdd, x_ipSub, x_ipXor, x_atN, x_isi_n_int, x_isi_n_bool, x_isi_n_str, x_isi_n_list, x_isi_n_tuple, x_isi_b_int, x_isi_b_bool, x_isi_b_str, x_isi_b_list, x_isi_b_tuple, x_isi_i_int, x_isi_i_bool, x_isi_i_str, x_isi_i_list, x_isi_i_tuple, x_isi_s_int, x_isi_s_bool, x_isi_s_str, x_isi_s_list, x_isi_s_tuple, x_isi_l_int, x_isi_l_bool, x_isi_l_str, x_isi_l_list, x_isi_l_tuple, x_isi_t_int, x_isi_t_bool, x_isi_t_str, x_isi_t_list, x_isi_t_tuple, List.length_cons, List.length_nil, List.getElem?_cons_zero, List.getElem?_cons_succ, List.set_cons_zero, List.set_cons_succ, List.map_cons, List.map_nil, List.cons_append, List.nil_append, Bool.and_self, Bool.and_true, Bool.true_and, Bool.and_false, Bool.false_and, Bool.not_true, Bool.not_false, Bool.false_eq_true, if_true, if_false, ite_true, ite_false, decide_true, decide_false, decide_eq_true_eq, decide_eq_false_iff_not, Bool.not_eq_true, Bool.not_eq_true', Nat.zero_add, Option.map_some, Int.toNat_natCast, reduceIte, reduceCtorEq, Int.reduceToNat, Int.reduceNeg, Int.reduceAdd, Int.reduceSub, Int.reduceMul, Int.reduceLT, Int.reduceLE, Int.reducePow, Nat.reduceLT, Nat.reduceLeDiff, Nat.reduceAdd, Nat.reduceMul, Nat.reduceSub, Int.reduceMod, Int.reduceDiv, Int.reduceEq, Nat.reduceEqDiff, Int.cast_ofNat_Int, wp_ok, wp_bind, wp_stuck, wp_exc, id_eq])
  rw [m1 _ fun d => by (try simp -implicitDefEqProofs (maxSteps := 1000000) (disch := walk_at "d") only [z_bind, z_bindX, z_bindS, z_assoc, z_opt, z_optN, z_obind, z_unB, z_unBT, z_unI, z_unS, z_unL, z_sbind, z_nbind, z_smT, z_smL, z_td, z_tdL, z_unT, z_unC, z_un0, z_rg1, z_rg2, z_iterL, z_iterT, z_iterF, z_iterS, z_put, z_raise, z_tryOk, z_tryX, z_tryS, z_putG, x_add, x_addL, x_addT, x_addS, x_sub, x_band, x_bor, x_bxor, x_mul, x_fdiv, x_mod, x_pow, x_shl, x_shr, x_neg, x_lt, x_le, x_gt', x_ge, x_eqI, x_neI, x_eqS, x_neS, x_eqB, x_neB, x_is, x_isnot, x_ixT, x_ixL, x_ixF, x_ixS, x_lenL, x_lenT, x_lenF, x_lenS, x_abs, x_min, x_max, x_int, x_intB, x_list, x_tup, x_itL, x_itF, x_itT, x_slT, x_slL, x_slF, x_slS, x_seqL, x_seqT, x_count, x_starts, x_sumL, x_sortedL, x_join, x_zipT_LL, x_zpL_LL, x_zipT_LT, x_zpL_LT, x_zipT_TL, x_zpL_TL, x_zipT_TT, x_zpL_TT, x_isD_nn, x_isD_nb, x_isD_bn, x_isD_bb, x_isD_in, x_isD_ib, x_isD_sn, x_isD_sb, x_isD_ln, x_isD_lb, x_isD_tn, x_isD_tb, x_truN, x_truB, x_truI, x_truL, x_truF, x_truT, x_truS, x_eqIL, x_eqIT, x_eqIR, x_eqBB, x_cut, x_boolB, x_boolI, x_revT, x_revL, x_revF, x_repT, x_map, x_ipAdd, x_ipSub, x_ipXor, x_atN, x_isi_n_int, x_isi_n_bool, x_isi_n_str, x_isi_n_list, x_isi_n_tuple, x_isi_b_int, x_isi_b_bool, x_isi_b_str, x_isi_b_list, x_isi_b_tuple, x_isi_i_int, x_isi_i_bool, x_isi_i_str, x_isi_i_list, x_isi_i_tuple, x_isi_s_int, x_isi_s_bool, x_isi_s_str, x_isi_s_list, x_isi_s_tuple, x_isi_l_int, x_isi_l_bool, x_isi_l_str, x_isi_l_list, x_isi_l_tuple, x_isi_t_int, x_isi_t_bool, x_isi_t_str, x_isi_t_list, x_isi_t_tuple, List.length_cons, List.length_nil, List.getElem?_cons_zero, List.getElem?_cons_succ, List.set_cons_zero, List.set_cons_succ, List.map_cons, List.map_nil, List.cons_append, List.nil_append, Bool.and_self, Bool.and_true, Bool.true_and, Bool.and_false, Bool.false_and, Bool.not_true, Bool.not_false, Bool.false_eq_true, if_true, if_false, ite_true, ite_false, decide_true, decide_false, decide_eq_true_eq, decide_eq_false_iff_not, Bool.not_eq_true, Bool.not_eq_true', Nat.zero_add, Option.map_some, Int.toNat_natCast, reduceIte, reduceCtorEq, Int.reduceToNat, Int.reduceNeg, Int.reduceAdd, Int.reduceSub, Int.reduceMul, Int.reduceLT, Int.reduceLE, Int.reducePow, Nat.reduceLT, Nat.reduceLeDiff, Nat.reduceAdd, Nat.reduceMul, Nat.reduceSub, Int.reduceMod, Int.reduceDiv, Int.reduceEq, Nat.reduceEqDiff, Int.cast_ofNat_Int, wp_ok, wp_bind, wp_stuck, wp_exc, id_eq])]
  have rz : rgZ 0 (c.length : Nat) = some (rgD 0 c.length) := by
    unfold rgZ
    rw [if_pos (by unfold rgOkB; rw [x_in62 (by decide) (by decide), x_in62 (by omega) (by omega), decide_eq_true (show (((c.length : Nat) : Int) - 0).toNat ≤ 16777216 by omega)]; rfl), Int.sub_zero, Int.toNat_natCast]
  (try simp -implicitDefEqProofs (maxSteps := 1000000) (disch := walk_at "d") only [dl, rz, z_bind, z_bindX, z_bindS, z_assoc, z_opt, z_optN, z_obind, z_unB, z_unBT, z_unI, z_unS, z_unL, z_sbind, z_nbind, z_smT, z_smL, z_td, z_tdL, z_unT, z_unC, z_un0, z_rg1, z_rg2, z_iterL, z_iterT, z_iterF, z_iterS, z_put, z_raise, z_tryOk, z_tryX, z_tryS, z_putG, x_add, x_addL, x_addT, x_addS, x_sub, x_band, x_bor, x_bxor, x_mul, x_fdiv, x_mod, x_pow, x_shl, x_shr, x_neg, x_lt, x_le, x_gt', x_ge, x_eqI, x_neI, x_eqS, x_neS, x_eqB, x_neB, x_is, x_isnot, x_ixT, x_ixL, x_ixF, x_ixS, x_lenL, x_lenT, x_lenF, x_lenS, x_abs, x_min, x_max, x_int, x_intB, x_list, x_tup, x_itL, x_itF, x_itT, x_slT, x_slL, x_slF, x_slS, x_seqL, x_seqT, x_count, x_starts, x_sumL, x_sortedL, x_join, x_zipT_LL, x_zpL_LL, x_zipT_LT, x_zpL_LT, x_zipT_TL, x_zpL_TL, x_zipT_TT, x_zpL_TT, x_isD_nn, x_isD_nb, x_isD_bn, x_isD_bb, x_isD_in, x_isD_ib, x_isD_sn, x_isD_sb, x_isD_ln, x_isD_lb, x_isD_tn, x_isD_tb, x_truN, x_truB, x_truI, x_truL, x_truF, x_truT, x_truS, x_eqIL, x_eqIT, x_eqIR, x_eqBB, x_cut, x_boolB, x_boolI, x_revT, x_revL, x_revF, x_repT, x_map, x_ipAdd, x_ipSub, x_ipXor, x_atN, x_isi_n_int, x_isi_n_bool, x_isi_n_str, x_isi_n_list, x_isi_n_tuple, x_isi_b_int, x_isi_b_bool, x_isi_b_str, x_isi_b_list, x_isi_b_tuple, x_isi_i_int, x_isi_i_bool, x_isi_i_str, x_isi_i_list, x_isi_i_tuple, x_isi_s_int, x_isi_s_bool, x_isi_s_str, x_isi_s_list, x_isi_s_tuple, x_isi_l_int, x_isi_l_bool, x_isi_l_str, x_isi_l_list, x_isi_l_tuple, x_isi_t_int, x_isi_t_bool, x_isi_t_str, x_isi_t_list, x_isi_t_tuple, List.length_cons, List.length_nil, List.getElem?_cons_zero, List.getElem?_cons_succ, List.set_cons_zero, List.set_cons_succ, List.map_cons, List.map_nil, List.cons_append, List.nil_append, Bool.and_self, Bool.and_true, Bool.true_and, Bool.and_false, Bool.false_and, Bool.not_true, Bool.not_false, Bool.false_eq_true, if_true, if_false, ite_true, ite_false, decide_true, decide_false, decide_eq_true_eq, decide_eq_false_iff_not, Bool.not_eq_true, Bool.not_eq_true', Nat.zero_add, Option.map_some, Int.toNat_natCast, reduceIte, reduceCtorEq, Int.reduceToNat, Int.reduceNeg, Int.reduceAdd, Int.reduceSub, Int.reduceMul, Int.reduceLT, Int.reduceLE, Int.reducePow, Nat.reduceLT, Nat.reduceLeDiff, Nat.reduceAdd, Nat.reduceMul, Nat.reduceSub, Int.reduceMod, Int.reduceDiv, Int.reduceEq, Nat.reduceEqDiff, Int.cast_ofNat_Int, wp_ok, wp_bind, wp_stuck, wp_exc, id_eq])
  have rp := rgD_plD c.length
  have e0 : (rgD 0 c.length : List D) = dis ((List.range c.length).map fun i : Nat => (i : Int)) := rp
  refine wp_for (S := List D × List D × List D × D) (fun k s => ∃ we rk ab L pss, s = (dis we, dis rk, dis ab, .lst (plD L)) ∧ Lk c k we rk ab L pss) _ 0 _ ⟨_, _, _, _, _, by rw [e0]; rfl, Lk.init c⟩ ?_ ?_
  · rintro k d _ hk ⟨we, rk, ab, L, pss, rfl, lk⟩
    obtain ⟨hk, rfl⟩ := rgD_get hk
    rw [Nat.zero_add] at lk ⊢
    obtain ⟨one, two, Lr, eL, m1, m2, ne, kn, lk'⟩ := lk.step hz hc (by omega)
    have h1 := lk.l1
    have h2 := lk.l2
    have h3 := lk.l3
    have b1 := lk.lt one m1
    have b2 := lk.lt two m2
    have lL : L.length ≤ 1000 := by
      obtain ⟨hI, hl⟩ := hIt_ok hz hc k (by omega)
      have := lk.gs.length_eq
      rw [List.length_map] at this
      omega
    have dw := dis_len we
    have dk := dis_len rk
    have da := dis_len ab
    rw [h1] at dw
    rw [h2] at dk
    rw [h3] at da
    have lw : (dis we).length < 16777216 := by omega
    have lr : (dis rk).length < 16777216 := by omega
    have la : (dis ((ab.set one (c.length + k : Nat)).set two (c.length + k : Nat))).length < 16777216 := by rw [dis_len, List.length_set, List.length_set]; omega
    have st := srtT kn
    rw [lSort_tri, eL, List.map_cons, List.map_cons, List.map_cons, List.map_cons] at st
    have j2 : ∀ i, opIx (trD (lTri we rk i)) (.int 2) = some (.val (.int (i : Nat))) := fun _ => rfl
    have p1 := put_dis (ls := ab) (i := one) ((c.length + k : Nat) : Int) (by omega)
    have p2 := put_dis (ls := ab.set one ((c.length + k : Nat) : Int)) (i := two) ((c.length + k : Nat) : Int) (by rw [List.length_set]; omega)
    have gw1 := get_int (ls := we) (i := one) (by omega)
    have gw2 := get_int (ls := we) (i := two) (by omega)
    have gr1 := get_int (ls := rk) (i := one) (by omega)
    have gr2 := get_int (ls := rk) (i := two) (by omega)
    have mn : ∀ x y : Int, bMin [.int x, .int y] = some (.val (.int (min x y))) := fun x y => by
      rw [x_min]
      have : (if y < x then y else x) = min x y := by split <;> omega
      rw [this]
    have ad : opAdd (.lst (plD (L.filter fun i => decide (i ≠ one) && decide (i ≠ two)))) (.lst [.int ((c.length + k : Nat) : Int)]) = some (.lst (leafs (plD (L.filter (fun i => decide (i ≠ one) && decide (i ≠ two)) ++ [c.length + k])))) := by
      have lf := List.length_filter_le (fun i => decide (i ≠ one) && decide (i ≠ two)) L
      rw [plD_app]
      exact x_addL (by rw [plD_len]; show _ + 1 ≤ _; omega)
    have q1 : ∀ f : D → Unit → Z (Option D × Unit), (∀ i ∈ L, f (.int (i : Nat)) () = .ok (some (trD (lTri we rk i)), ())) → lcZ f (plD L) [] () = .ok ((L.map (lTri we rk)).map trD, ()) := fun f hf => lc_tri lL hf
    have q2 : ∀ f : D → Unit → Z (Option D × Unit), (∀ i : Nat, f (.int (i : Nat)) () = .ok (if (decide (i ≠ one) && decide (i ≠ two)) = true then some (.int (i : Nat)) else none, ())) → lcZ f (plD L) [] () = .ok (plD (L.filter fun i => decide (i ≠ one) && decide (i ≠ two)), ()) := fun f hf => lc_flt lL hf
    (try simp -implicitDefEqProofs (maxSteps := 1000000) (disch := walk_at "d") only [z_bind, z_bindX, z_bindS, z_assoc, z_opt, z_optN, z_obind, z_unB, z_unBT, z_unI, z_unS, z_unL, z_sbind, z_nbind, z_smT, z_smL, z_td, z_tdL, z_unT, z_unC, z_un0, z_rg1, z_rg2, z_iterL, z_iterT, z_iterF, z_iterS, z_put, z_raise, z_tryOk, z_tryX, z_tryS, z_putG, x_add, x_addL, x_addT, x_addS, x_sub, x_band, x_bor, x_bxor, x_mul, x_fdiv, x_mod, x_pow, x_shl, x_shr, x_neg, x_lt, x_le, x_gt', x_ge, x_eqI, x_neI, x_eqS, x_neS, x_eqB, x_neB, x_is, x_isnot, x_ixT, x_ixL, x_ixF, x_ixS, x_lenL, x_lenT, x_lenF, x_lenS, x_abs, x_min, x_max, x_int, x_intB, x_list, x_tup, x_itL, x_itF, x_itT, x_slT, x_slL, x_slF, x_slS, x_seqL, x_seqT, x_count, x_starts, x_sumL, x_sortedL, x_join, x_zipT_LL, x_zpL_LL, x_zipT_LT, x_zpL_LT, x_zipT_TL, x_zpL_TL, x_zipT_TT, x_zpL_TT, x_isD_nn, x_isD_nb, x_isD_bn, x_isD_bb, x_isD_in, x_isD_ib, x_isD_sn, x_isD_sb, x_isD_ln, x_isD_lb, x_isD_tn, x_isD_tb, x_truN, x_truB, x_truI, x_truL, x_truF, x_truT, x_truS, x_eqIL, x_eqIT, x_eqIR, x_eqBB, x_cut, x_boolB, x_boolI, x_revT, x_revL, x_revF, x_repT, x_map, x_ipAdd, x_ipSub, x_ipXor, x_atN, x_isi_n_int, x_isi_n_bool, x_isi_n_str, x_isi_n_list, x_isi_n_tuple, x_isi_b_int, x_isi_b_bool, x_isi_b_str, x_isi_b_list, x_isi_b_tuple, x_isi_i_int, x_isi_i_bool, x_isi_i_str, x_isi_i_list, x_isi_i_tuple, x_isi_s_int, x_isi_s_bool, x_isi_s_str, x_isi_s_list, x_isi_s_tuple, x_isi_l_int, x_isi_l_bool, x_isi_l_str, x_isi_l_list, x_isi_l_tuple, x_isi_t_int, x_isi_t_bool, x_isi_t_str, x_isi_t_list, x_isi_t_tuple, List.length_cons, List.length_nil, List.getElem?_cons_zero, List.getElem?_cons_succ, List.set_cons_zero, List.set_cons_succ, List.map_cons, List.map_nil, List.cons_append, List.nil_append, Bool.and_self, Bool.and_true, Bool.true_and, Bool.and_false, Bool.false_and, Bool.not_true, Bool.not_false, Bool.false_eq_true, if_true, if_false, ite_true, ite_false, decide_true, decide_false, decide_eq_true_eq, decide_eq_false_iff_not, Bool.not_eq_true, Bool.not_eq_true', Nat.zero_add, Option.map_some, Int.toNat_natCast, reduceIte, reduceCtorEq, Int.reduceToNat, Int.reduceNeg, Int.reduceAdd, Int.reduceSub, Int.reduceMul, Int.reduceLT, Int.reduceLE, Int.reducePow, Nat.reduceLT, Nat.reduceLeDiff, Nat.reduceAdd, Nat.reduceMul, Nat.reduceSub, Int.reduceMod, Int.reduceDiv, Int.reduceEq, Nat.reduceEqDiff, Int.cast_ofNat_Int, wp_ok, wp_bind, wp_stuck, wp_exc, id_eq])
    rw [q1 _ fun i hi => by
      have b := lk.lt i hi
      have g1 := get_int (ls := we) (i := i) (by omega)
      have g2 := get_int (ls := rk) (i := i) (by omega)
      (try simp -implicitDefEqProofs (maxSteps := 1000000) (disch := walk_at "d") only [g1, g2, z_bind, z_bindX, z_bindS, z_assoc, z_opt, z_optN, z_obind, z_unB, z_unBT, z_unI, z_unS, z_unL, z_sbind, z_nbind, z_smT, z_smL, z_td, z_tdL, z_unT, z_unC, z_un0, z_rg1, z_rg2, z_iterL, z_iterT, z_iterF, z_iterS, z_put, z_raise, z_tryOk, z_tryX, z_tryS, z_putG, x_add, x_addL, x_addT, x_addS, x_sub, x_band, x_bor, x_bxor, x_mul, x_fdiv, x_mod, x_pow, x_shl, x_shr, x_neg, x_lt, x_le, x_gt', x_ge, x_eqI, x_neI, x_eqS, x_neS, x_eqB, x_neB, x_is, x_isnot, x_ixT, x_ixL, x_ixF, x_ixS, x_lenL, x_lenT, x_lenF, x_lenS, x_abs, x_min, x_max, x_int, x_intB, x_list, x_tup, x_itL, x_itF, x_itT, x_slT, x_slL, x_slF, x_slS, x_seqL, x_seqT, x_count, x_starts, x_sumL, x_sortedL, x_join, x_zipT_LL, x_zpL_LL, x_zipT_LT, x_zpL_LT, x_zipT_TL, x_zpL_TL, x_zipT_TT, x_zpL_TT, x_isD_nn, x_isD_nb, x_isD_bn, x_isD_bb, x_isD_in, x_isD_ib, x_isD_sn, x_isD_sb, x_isD_ln, x_isD_lb, x_isD_tn, x_isD_tb, x_truN, x_truB, x_truI, x_truL, x_truF, x_truT, x_truS, x_eqIL, x_eqIT, x_eqIR, x_eqBB, x_cut, x_boolB, x_boolI, x_revT, x_revL, x_revF, x_repT, x_map, x_ipAdd, x_ipSub, x_ipXor, x_atN, x_isi_n_int, x_isi_n_bool, x_isi_n_str, x_isi_n_list, x_isi_n_tuple, x_isi_b_int, x_isi_b_bool, x_isi_b_str, x_isi_b_list, x_isi_b_tuple, x_isi_i_int, x_isi_i_bool, x_isi_i_str, x_isi_i_list, x_isi_i_tuple, x_isi_s_int, x_isi_s_bool, x_isi_s_str, x_isi_s_list, x_isi_s_tuple, x_isi_l_int, x_isi_l_bool, x_isi_l_str, x_isi_l_list, x_isi_l_tuple, x_isi_t_int, x_isi_t_bool, x_isi_t_str, x_isi_t_list, x_isi_t_tuple, List.length_cons, List.length_nil, List.getElem?_cons_zero, List.getElem?_cons_succ, List.set_cons_zero, List.set_cons_succ, List.map_cons, List.map_nil, List.cons_append, List.nil_append, Bool.and_self, Bool.and_true, Bool.true_and, Bool.and_false, Bool.false_and, Bool.not_true, Bool.not_false, Bool.false_eq_true, if_true, if_false, ite_true, ite_false, decide_true, decide_false, decide_eq_true_eq, decide_eq_false_iff_not, Bool.not_eq_true, Bool.not_eq_true', Nat.zero_add, Option.map_some, Int.toNat_natCast, reduceIte, reduceCtorEq, Int.reduceToNat, Int.reduceNeg, Int.reduceAdd, Int.reduceSub, Int.reduceMul, Int.reduceLT, Int.reduceLE, Int.reducePow, Nat.reduceLT, Nat.reduceLeDiff, Nat.reduceAdd, Nat.reduceMul, Nat.reduceSub, Int.reduceMod, Int.reduceDiv, Int.reduceEq, Nat.reduceEqDiff, Int.cast_ofNat_Int, wp_ok, wp_bind, wp_stuck, wp_exc, id_eq])
      rfl]
    (try simp -implicitDefEqProofs (maxSteps := 1000000) (disch := walk_at "d") only [st, j2, dw, p1, p2, z_bind, z_bindX, z_bindS, z_assoc, z_opt, z_optN, z_obind, z_unB, z_unBT, z_unI, z_unS, z_unL, z_sbind, z_nbind, z_smT, z_smL, z_td, z_tdL, z_unT, z_unC, z_un0, z_rg1, z_rg2, z_iterL, z_iterT, z_iterF, z_iterS, z_put, z_raise, z_tryOk, z_tryX, z_tryS, z_putG, x_add, x_addL, x_addT, x_addS, x_sub, x_band, x_bor, x_bxor, x_mul, x_fdiv, x_mod, x_pow, x_shl, x_shr, x_neg, x_lt, x_le, x_gt', x_ge, x_eqI, x_neI, x_eqS, x_neS, x_eqB, x_neB, x_is, x_isnot, x_ixT, x_ixL, x_ixF, x_ixS, x_lenL, x_lenT, x_lenF, x_lenS, x_abs, x_min, x_max, x_int, x_intB, x_list, x_tup, x_itL, x_itF, x_itT, x_slT, x_slL, x_slF, x_slS, x_seqL, x_seqT, x_count, x_starts, x_sumL, x_sortedL, x_join, x_zipT_LL, x_zpL_LL, x_zipT_LT, x_zpL_LT, x_zipT_TL, x_zpL_TL, x_zipT_TT, x_zpL_TT, x_isD_nn, x_isD_nb, x_isD_bn, x_isD_bb, x_isD_in, x_isD_ib, x_isD_sn, x_isD_sb, x_isD_ln, x_isD_lb, x_isD_tn, x_isD_tb, x_truN, x_truB, x_truI, x_truL, x_truF, x_truT, x_truS, x_eqIL, x_eqIT, x_eqIR, x_eqBB, x_cut, x_boolB, x_boolI, x_revT, x_revL, x_revF, x_repT, x_map, x_ipAdd, x_ipSub, x_ipXor, x_atN, x_isi_n_int, x_isi_n_bool, x_isi_n_str, x_isi_n_list, x_isi_n_tuple, x_isi_b_int, x_isi_b_bool, x_isi_b_str, x_isi_b_list, x_isi_b_tuple, x_isi_i_int, x_isi_i_bool, x_isi_i_str, x_isi_i_list, x_isi_i_tuple, x_isi_s_int, x_isi_s_bool, x_isi_s_str, x_isi_s_list, x_isi_s_tuple, x_isi_l_int, x_isi_l_bool, x_isi_l_str, x_isi_l_list, x_isi_l_tuple, x_isi_t_int, x_isi_t_bool, x_isi_t_str, x_isi_t_list, x_isi_t_tuple, List.length_cons, List.length_nil, List.getElem?_cons_zero, List.getElem?_cons_succ, List.set_cons_zero, List.set_cons_succ, List.map_cons, List.map_nil, List.cons_append, List.nil_append, Bool.and_self, Bool.and_true, Bool.true_and, Bool.and_false, Bool.false_and, Bool.not_true, Bool.not_false, Bool.false_eq_true, if_true, if_false, ite_true, ite_false, decide_true, decide_false, decide_eq_true_eq, decide_eq_false_iff_not, Bool.not_eq_true, Bool.not_eq_true', Nat.zero_add, Option.map_some, Int.toNat_natCast, reduceIte, reduceCtorEq, Int.reduceToNat, Int.reduceNeg, Int.reduceAdd, Int.reduceSub, Int.reduceMul, Int.reduceLT, Int.reduceLE, Int.reducePow, Nat.reduceLT, Nat.reduceLeDiff, Nat.reduceAdd, Nat.reduceMul, Nat.reduceSub, Int.reduceMod, Int.reduceDiv, Int.reduceEq, Nat.reduceEqDiff, Int.cast_ofNat_Int, wp_ok, wp_bind, wp_stuck, wp_exc, id_eq])
    rw [q2 _ fun i => by
      (try simp -implicitDefEqProofs (maxSteps := 1000000) (disch := walk_at "d") only [z_bind, z_bindX, z_bindS, z_assoc, z_opt, z_optN, z_obind, z_unB, z_unBT, z_unI, z_unS, z_unL, z_sbind, z_nbind, z_smT, z_smL, z_td, z_tdL, z_unT, z_unC, z_un0, z_rg1, z_rg2, z_iterL, z_iterT, z_iterF, z_iterS, z_put, z_raise, z_tryOk, z_tryX, z_tryS, z_putG, x_add, x_addL, x_addT, x_addS, x_sub, x_band, x_bor, x_bxor, x_mul, x_fdiv, x_mod, x_pow, x_shl, x_shr, x_neg, x_lt, x_le, x_gt', x_ge, x_eqI, x_neI, x_eqS, x_neS, x_eqB, x_neB, x_is, x_isnot, x_ixT, x_ixL, x_ixF, x_ixS, x_lenL, x_lenT, x_lenF, x_lenS, x_abs, x_min, x_max, x_int, x_intB, x_list, x_tup, x_itL, x_itF, x_itT, x_slT, x_slL, x_slF, x_slS, x_seqL, x_seqT, x_count, x_starts, x_sumL, x_sortedL, x_join, x_zipT_LL, x_zpL_LL, x_zipT_LT, x_zpL_LT, x_zipT_TL, x_zpL_TL, x_zipT_TT, x_zpL_TT, x_isD_nn, x_isD_nb, x_isD_bn, x_isD_bb, x_isD_in, x_isD_ib, x_isD_sn, x_isD_sb, x_isD_ln, x_isD_lb, x_isD_tn, x_isD_tb, x_truN, x_truB, x_truI, x_truL, x_truF, x_truT, x_truS, x_eqIL, x_eqIT, x_eqIR, x_eqBB, x_cut, x_boolB, x_boolI, x_revT, x_revL, x_revF, x_repT, x_map, x_ipAdd, x_ipSub, x_ipXor, x_atN, x_isi_n_int, x_isi_n_bool, x_isi_n_str, x_isi_n_list, x_isi_n_tuple, x_isi_b_int, x_isi_b_bool, x_isi_b_str, x_isi_b_list, x_isi_b_tuple, x_isi_i_int, x_isi_i_bool, x_isi_i_str, x_isi_i_list, x_isi_i_tuple, x_isi_s_int, x_isi_s_bool, x_isi_s_str, x_isi_s_list, x_isi_s_tuple, x_isi_l_int, x_isi_l_bool, x_isi_l_str, x_isi_l_list, x_isi_l_tuple, x_isi_t_int, x_isi_t_bool, x_isi_t_str, x_isi_t_list, x_isi_t_tuple, List.length_cons, List.length_nil, List.getElem?_cons_zero, List.getElem?_cons_succ, List.set_cons_zero, List.set_cons_succ, List.map_cons, List.map_nil, List.cons_append, List.nil_append, Bool.and_self, Bool.and_true, Bool.true_and, Bool.and_false, Bool.false_and, Bool.not_true, Bool.not_false, Bool.false_eq_true, if_true, if_false, ite_true, ite_false, decide_true, decide_false, decide_eq_true_eq, decide_eq_false_iff_not, Bool.not_eq_true, Bool.not_eq_true', Nat.zero_add, Option.map_some, Int.toNat_natCast, reduceIte, reduceCtorEq, Int.reduceToNat, Int.reduceNeg, Int.reduceAdd, Int.reduceSub, Int.reduceMul, Int.reduceLT, Int.reduceLE, Int.reducePow, Nat.reduceLT, Nat.reduceLeDiff, Nat.reduceAdd, Nat.reduceMul, Nat.reduceSub, Int.reduceMod, Int.reduceDiv, Int.reduceEq, Nat.reduceEqDiff, Int.cast_ofNat_Int, wp_ok, wp_bind, wp_stuck, wp_exc, id_eq])
      by_cases c1 : i = one
      · rw [if_neg (show ¬ ¬ ((i : Nat) : Int) = (one : Nat) by omega)]
        show Z.ok (none, ()) = _
        rw [if_neg (by simp [c1])]
      · rw [if_pos (show ¬ ((i : Nat) : Int) = (one : Nat) by omega)]
        by_cases c2 : i = two
        · rw [decide_eq_true (show ((i : Nat) : Int) = (two : Nat) by omega)]
          show Z.ok (none, ()) = _
          rw [if_neg (by simp [c2])]
        · rw [decide_eq_false (show ¬ ((i : Nat) : Int) = (two : Nat) by omega)]
          show Z.ok (some _, ()) = _
          rw [if_pos (by simp [c1, c2])]]
    (try simp -implicitDefEqProofs (maxSteps := 1000000) (disch := walk_at "d") only [dw, ad, gw1, gw2, gr1, gr2, mn, lw, lr, la, z_bind, z_bindX, z_bindS, z_assoc, z_opt, z_optN, z_obind, z_unB, z_unBT, z_unI, z_unS, z_unL, z_sbind, z_nbind, z_smT, z_smL, z_td, z_tdL, z_unT, z_unC, z_un0, z_rg1, z_rg2, z_iterL, z_iterT, z_iterF, z_iterS, z_put, z_raise, z_tryOk, z_tryX, z_tryS, z_putG, x_add, x_addL, x_addT, x_addS, x_sub, x_band, x_bor, x_bxor, x_mul, x_fdiv, x_mod, x_pow, x_shl, x_shr, x_neg, x_lt, x_le, x_gt', x_ge, x_eqI, x_neI, x_eqS, x_neS, x_eqB, x_neB, x_is, x_isnot, x_ixT, x_ixL, x_ixF, x_ixS, x_lenL, x_lenT, x_lenF, x_lenS, x_abs, x_min, x_max, x_int, x_intB, x_list, x_tup, x_itL, x_itF, x_itT, x_slT, x_slL, x_slF, x_slS, x_seqL, x_seqT, x_count, x_starts, x_sumL, x_sortedL, x_join, x_zipT_LL, x_zpL_LL, x_zipT_LT, x_zpL_LT, x_zipT_TL, x_zpL_TL, x_zipT_TT, x_zpL_TT, x_isD_nn, x_isD_nb, x_isD_bn, x_isD_bb, x_isD_in, x_isD_ib, x_isD_sn, x_isD_sb, x_isD_ln, x_isD_lb, x_isD_tn, x_isD_tb, x_truN, x_truB, x_truI, x_truL, x_truF, x_truT, x_truS, x_eqIL, x_eqIT, x_eqIR, x_eqBB, x_cut, x_boolB, x_boolI, x_revT, x_revL, x_revF, x_repT, x_map, x_ipAdd, x_ipSub, x_ipXor, x_atN, x_isi_n_int, x_isi_n_bool, x_isi_n_str, x_isi_n_list, x_isi_n_tuple, x_isi_b_int, x_isi_b_bool, x_isi_b_str, x_isi_b_list, x_isi_b_tuple, x_isi_i_int, x_isi_i_bool, x_isi_i_str, x_isi_i_list, x_isi_i_tuple, x_isi_s_int, x_isi_s_bool, x_isi_s_str, x_isi_s_list, x_isi_s_tuple, x_isi_l_int, x_isi_l_bool, x_isi_l_str, x_isi_l_list, x_isi_l_tuple, x_isi_t_int, x_isi_t_bool, x_isi_t_str, x_isi_t_list, x_isi_t_tuple, List.length_cons, List.length_nil, List.getElem?_cons_zero, List.getElem?_cons_succ, List.set_cons_zero, List.set_cons_succ, List.map_cons, List.map_nil, List.cons_append, List.nil_append, Bool.and_self, Bool.and_true, Bool.true_and, Bool.and_false, Bool.false_and, Bool.not_true, Bool.not_false, Bool.false_eq_true, if_true, if_false, ite_true, ite_false, decide_true, decide_false, decide_eq_true_eq, decide_eq_false_iff_not, Bool.not_eq_true, Bool.not_eq_true', Nat.zero_add, Option.map_some, Int.toNat_natCast, reduceIte, reduceCtorEq, Int.reduceToNat, Int.reduceNeg, Int.reduceAdd, Int.reduceSub, Int.reduceMul, Int.reduceLT, Int.reduceLE, Int.reducePow, Nat.reduceLT, Nat.reduceLeDiff, Nat.reduceAdd, Nat.reduceMul, Nat.reduceSub, Int.reduceMod, Int.reduceDiv, Int.reduceEq, Nat.reduceEqDiff, Int.cast_ofNat_Int, wp_ok, wp_bind, wp_stuck, wp_exc, id_eq])
    rw [if_pos (by omega)]
    exact ⟨_, _, _, _, _, by unfold dis; rw [List.map_append, List.map_append, List.map_append]; rfl, lk'⟩
  · rintro _ ⟨we, rk, ab, L, pss, rfl, lk⟩
    rw [rgD_len, show 0 + (((c.length : Nat) : Int) - 1).toNat = c.length - 1 by omega] at lk
    obtain ⟨hI, hl⟩ := hIt_ok hz hc (c.length - 1) (by omega)
    obtain ⟨g, hg⟩ := List.length_eq_one_iff.mp (show (hIt c (c.length - 1)).2.length = 1 by omega)
    have pg := lk.gs
    rw [hg] at pg
    have pl := pg.length_eq
    rw [List.length_map] at pl
    obtain ⟨i, hL⟩ := List.length_eq_one_iff.mp pl.symm
    subst hL
    have eg : g = gpO we rk pss i := by
      have := pg.mem_iff (a := g)
      exact List.mem_singleton.mp (this.mp List.mem_cons_self)
    have pf : (pss.getD i []).Perm (List.range c.length) := by
      have := hI.pa
      rw [hg, List.flatMap_cons, List.flatMap_nil, List.append_nil, eg] at this
      exact this
    have cl : ∀ p, p < c.length → Clm ab ((lensOf c).getD p 0).toNat p i ∧ 0 ≤ (lensOf c).getD p 0 ∧ (lensOf c).getD p 0 ≤ c.length := fun p hp => by
      have mp := pf.mem_iff.mpr (List.mem_range.mpr hp)
      have d := hI.dp g (by rw [hg]; simp) p (by rw [eg]; exact mp)
      have e := pf.length_eq
      rw [List.length_range] at e
      have e2 : g.ps.length = c.length := by rw [eg]; exact e
      refine ⟨lk.cl i (by simp) p mp, d.1, ?_⟩
      have := d.2
      unfold lensOf
      omega
    have ri := lk.rt i (by simp)
    have n1 : (lensOf c).length = c.length := hI.n1
    have q3 : ∀ f : D → D × D → Z (D × D), (∀ d (p q : Nat) (l : Int), ab[p]? = some (q : Int) → f d (.int p, .int l) = .ok (.int q, .int (l + 1))) → (∀ d (p : Nat) (l : Int), ab[p]? = some (-1) → f d (.int p, .int l) = .ok (.int p, .int l)) → ∀ p : Nat, p < c.length → forZ f (rgD 0 c.length) (.int p, .int 0) = .ok (.int i, .int ((lensOf c).getD p 0)) := fun f h1 h2 p hp => by
      obtain ⟨c1, c2, c3⟩ := cl p hp
      rw [for_clm h1 h2 (rgD 0 c.length) _ p i 0 c1 ri (by rw [rgD_len]; omega), show (0 : Int) + ((lensOf c).getD p 0).toNat = (lensOf c).getD p 0 by omega]
    have q4 : ∀ f : D → List D → Z (List D), (∀ k : Nat, k < c.length → f (.int k) (dis ((lensOf c).take k)) = .ok (dis ((lensOf c).take (k + 1)))) → forZ f (rgD 0 c.length) [] = .ok (dis (lensOf c)) := fun f hf => by
      have := z_forR (f := f) (n := c.length) (s := ([] : List D)) (fun k => dis ((lensOf c).take k)) rfl hf
      (try dsimp only at this)
      rwa [List.take_of_length_le (by omega)] at this
    (try dsimp only)
    rw [q4 _ fun k hk => by
      have lz : (dis ((lensOf c).take k)).length < 16777216 := by rw [dis_len, List.length_take]; omega
      rw [q3 _ (fun d p q l hp => by
        have g : (dis ab)[p]? = some (.int (q : Int)) := by rw [dis_get, hp]; rfl
        have q0 : (0 : Int) ≤ (q : Int) := by omega
        (try simp -implicitDefEqProofs (maxSteps := 1000000) (disch := walk_at "d") only [g, q0, z_bind, z_bindX, z_bindS, z_assoc, z_opt, z_optN, z_obind, z_unB, z_unBT, z_unI, z_unS, z_unL, z_sbind, z_nbind, z_smT, z_smL, z_td, z_tdL, z_unT, z_unC, z_un0, z_rg1, z_rg2, z_iterL, z_iterT, z_iterF, z_iterS, z_put, z_raise, z_tryOk, z_tryX, z_tryS, z_putG, x_add, x_addL, x_addT, x_addS, x_sub, x_band, x_bor, x_bxor, x_mul, x_fdiv, x_mod, x_pow, x_shl, x_shr, x_neg, x_lt, x_le, x_gt', x_ge, x_eqI, x_neI, x_eqS, x_neS, x_eqB, x_neB, x_is, x_isnot, x_ixT, x_ixL, x_ixF, x_ixS, x_lenL, x_lenT, x_lenF, x_lenS, x_abs, x_min, x_max, x_int, x_intB, x_list, x_tup, x_itL, x_itF, x_itT, x_slT, x_slL, x_slF, x_slS, x_seqL, x_seqT, x_count, x_starts, x_sumL, x_sortedL, x_join, x_zipT_LL, x_zpL_LL, x_zipT_LT, x_zpL_LT, x_zipT_TL, x_zpL_TL, x_zipT_TT, x_zpL_TT, x_isD_nn, x_isD_nb, x_isD_bn, x_isD_bb, x_isD_in, x_isD_ib, x_isD_sn, x_isD_sb, x_isD_ln, x_isD_lb, x_isD_tn, x_isD_tb, x_truN, x_truB, x_truI, x_truL, x_truF, x_truT, x_truS, x_eqIL, x_eqIT, x_eqIR, x_eqBB, x_cut, x_boolB, x_boolI, x_revT, x_revL, x_revF, x_repT, x_map, x_ipAdd, x_ipSub, x_ipXor, x_atN, x_isi_n_int, x_isi_n_bool, x_isi_n_str, x_isi_n_list, x_isi_n_tuple, x_isi_b_int, x_isi_b_bool, x_isi_b_str, x_isi_b_list, x_isi_b_tuple, x_isi_i_int, x_isi_i_bool, x_isi_i_str, x_isi_i_list, x_isi_i_tuple, x_isi_s_int, x_isi_s_bool, x_isi_s_str, x_isi_s_list, x_isi_s_tuple, x_isi_l_int, x_isi_l_bool, x_isi_l_str, x_isi_l_list, x_isi_l_tuple, x_isi_t_int, x_isi_t_bool, x_isi_t_str, x_isi_t_list, x_isi_t_tuple, List.length_cons, List.length_nil, List.getElem?_cons_zero, List.getElem?_cons_succ, List.set_cons_zero, List.set_cons_succ, List.map_cons, List.map_nil, List.cons_append, List.nil_append, Bool.and_self, Bool.and_true, Bool.true_and, Bool.and_false, Bool.false_and, Bool.not_true, Bool.not_false, Bool.false_eq_true, if_true, if_false, ite_true, ite_false, decide_true, decide_false, decide_eq_true_eq, decide_eq_false_iff_not, Bool.not_eq_true, Bool.not_eq_true', Nat.zero_add, Option.map_some, Int.toNat_natCast, reduceIte, reduceCtorEq, Int.reduceToNat, Int.reduceNeg, Int.reduceAdd, Int.reduceSub, Int.reduceMul, Int.reduceLT, Int.reduceLE, Int.reducePow, Nat.reduceLT, Nat.reduceLeDiff, Nat.reduceAdd, Nat.reduceMul, Nat.reduceSub, Int.reduceMod, Int.reduceDiv, Int.reduceEq, Nat.reduceEqDiff, Int.cast_ofNat_Int, wp_ok, wp_bind, wp_stuck, wp_exc, id_eq])) (fun d p l hp => by
        have g : (dis ab)[p]? = some (.int (-1)) := by rw [dis_get, hp]; rfl
        (try simp -implicitDefEqProofs (maxSteps := 1000000) (disch := walk_at "d") only [g, z_bind, z_bindX, z_bindS, z_assoc, z_opt, z_optN, z_obind, z_unB, z_unBT, z_unI, z_unS, z_unL, z_sbind, z_nbind, z_smT, z_smL, z_td, z_tdL, z_unT, z_unC, z_un0, z_rg1, z_rg2, z_iterL, z_iterT, z_iterF, z_iterS, z_put, z_raise, z_tryOk, z_tryX, z_tryS, z_putG, x_add, x_addL, x_addT, x_addS, x_sub, x_band, x_bor, x_bxor, x_mul, x_fdiv, x_mod, x_pow, x_shl, x_shr, x_neg, x_lt, x_le, x_gt', x_ge, x_eqI, x_neI, x_eqS, x_neS, x_eqB, x_neB, x_is, x_isnot, x_ixT, x_ixL, x_ixF, x_ixS, x_lenL, x_lenT, x_lenF, x_lenS, x_abs, x_min, x_max, x_int, x_intB, x_list, x_tup, x_itL, x_itF, x_itT, x_slT, x_slL, x_slF, x_slS, x_seqL, x_seqT, x_count, x_starts, x_sumL, x_sortedL, x_join, x_zipT_LL, x_zpL_LL, x_zipT_LT, x_zpL_LT, x_zipT_TL, x_zpL_TL, x_zipT_TT, x_zpL_TT, x_isD_nn, x_isD_nb, x_isD_bn, x_isD_bb, x_isD_in, x_isD_ib, x_isD_sn, x_isD_sb, x_isD_ln, x_isD_lb, x_isD_tn, x_isD_tb, x_truN, x_truB, x_truI, x_truL, x_truF, x_truT, x_truS, x_eqIL, x_eqIT, x_eqIR, x_eqBB, x_cut, x_boolB, x_boolI, x_revT, x_revL, x_revF, x_repT, x_map, x_ipAdd, x_ipSub, x_ipXor, x_atN, x_isi_n_int, x_isi_n_bool, x_isi_n_str, x_isi_n_list, x_isi_n_tuple, x_isi_b_int, x_isi_b_bool, x_isi_b_str, x_isi_b_list, x_isi_b_tuple, x_isi_i_int, x_isi_i_bool, x_isi_i_str, x_isi_i_list, x_isi_i_tuple, x_isi_s_int, x_isi_s_bool, x_isi_s_str, x_isi_s_list, x_isi_s_tuple, x_isi_l_int, x_isi_l_bool, x_isi_l_str, x_isi_l_list, x_isi_l_tuple, x_isi_t_int, x_isi_t_bool, x_isi_t_str, x_isi_t_list, x_isi_t_tuple, List.length_cons, List.length_nil, List.getElem?_cons_zero, List.getElem?_cons_succ, List.set_cons_zero, List.set_cons_succ, List.map_cons, List.map_nil, List.cons_append, List.nil_append, Bool.and_self, Bool.and_true, Bool.true_and, Bool.and_false, Bool.false_and, Bool.not_true, Bool.not_false, Bool.false_eq_true, if_true, if_false, ite_true, ite_false, decide_true, decide_false, decide_eq_true_eq, decide_eq_false_iff_not, Bool.not_eq_true, Bool.not_eq_true', Nat.zero_add, Option.map_some, Int.toNat_natCast, reduceIte, reduceCtorEq, Int.reduceToNat, Int.reduceNeg, Int.reduceAdd, Int.reduceSub, Int.reduceMul, Int.reduceLT, Int.reduceLE, Int.reducePow, Nat.reduceLT, Nat.reduceLeDiff, Nat.reduceAdd, Nat.reduceMul, Nat.reduceSub, Int.reduceMod, Int.reduceDiv, Int.reduceEq, Nat.reduceEqDiff, Int.cast_ofNat_Int, wp_ok, wp_bind, wp_stuck, wp_exc, id_eq])) k hk]
      (try simp -implicitDefEqProofs (maxSteps := 1000000) (disch := walk_at "d") only [lz, z_bind, z_bindX, z_bindS, z_assoc, z_opt, z_optN, z_obind, z_unB, z_unBT, z_unI, z_unS, z_unL, z_sbind, z_nbind, z_smT, z_smL, z_td, z_tdL, z_unT, z_unC, z_un0, z_rg1, z_rg2, z_iterL, z_iterT, z_iterF, z_iterS, z_put, z_raise, z_tryOk, z_tryX, z_tryS, z_putG, x_add, x_addL, x_addT, x_addS, x_sub, x_band, x_bor, x_bxor, x_mul, x_fdiv, x_mod, x_pow, x_shl, x_shr, x_neg, x_lt, x_le, x_gt', x_ge, x_eqI, x_neI, x_eqS, x_neS, x_eqB, x_neB, x_is, x_isnot, x_ixT, x_ixL, x_ixF, x_ixS, x_lenL, x_lenT, x_lenF, x_lenS, x_abs, x_min, x_max, x_int, x_intB, x_list, x_tup, x_itL, x_itF, x_itT, x_slT, x_slL, x_slF, x_slS, x_seqL, x_seqT, x_count, x_starts, x_sumL, x_sortedL, x_join, x_zipT_LL, x_zpL_LL, x_zipT_LT, x_zpL_LT, x_zipT_TL, x_zpL_TL, x_zipT_TT, x_zpL_TT, x_isD_nn, x_isD_nb, x_isD_bn, x_isD_bb, x_isD_in, x_isD_ib, x_isD_sn, x_isD_sb, x_isD_ln, x_isD_lb, x_isD_tn, x_isD_tb, x_truN, x_truB, x_truI, x_truL, x_truF, x_truT, x_truS, x_eqIL, x_eqIT, x_eqIR, x_eqBB, x_cut, x_boolB, x_boolI, x_revT, x_revL, x_revF, x_repT, x_map, x_ipAdd, x_ipSub, x_ipXor, x_atN, x_isi_n_int, x_isi_n_bool, x_isi_n_str, x_isi_n_list, x_isi_n_tuple, x_isi_b_int, x_isi_b_bool, x_isi_b_str, x_isi_b_list, x_isi_b_tuple, x_isi_i_int, x_isi_i_bool, x_isi_i_str, x_isi_i_list, x_isi_i_tuple, x_isi_s_int, x_isi_s_bool, x_isi_s_str, x_isi_s_list, x_isi_s_tuple, x_isi_l_int, x_isi_l_bool, x_isi_l_str, x_isi_l_list, x_isi_l_tuple, x_isi_t_int, x_isi_t_bool, x_isi_t_str, x_isi_t_list, x_isi_t_tuple, List.length_cons, List.length_nil, List.getElem?_cons_zero, List.getElem?_cons_succ, List.set_cons_zero, List.set_cons_succ, List.map_cons, List.map_nil, List.cons_append, List.nil_append, Bool.and_self, Bool.and_true, Bool.true_and, Bool.and_false, Bool.false_and, Bool.not_true, Bool.not_false, Bool.false_eq_true, if_true, if_false, ite_true, ite_false, decide_true, decide_false, decide_eq_true_eq, decide_eq_false_iff_not, Bool.not_eq_true, Bool.not_eq_true', Nat.zero_add, Option.map_some, Int.toNat_natCast, reduceIte, reduceCtorEq, Int.reduceToNat, Int.reduceNeg, Int.reduceAdd, Int.reduceSub, Int.reduceMul, Int.reduceLT, Int.reduceLE, Int.reducePow, Nat.reduceLT, Nat.reduceLeDiff, Nat.reduceAdd, Nat.reduceMul, Nat.reduceSub, Int.reduceMod, Int.reduceDiv, Int.reduceEq, Nat.reduceEqDiff, Int.cast_ofNat_Int, wp_ok, wp_bind, wp_stuck, wp_exc, id_eq])
      rw [List.take_add_one, List.getElem?_eq_getElem (by omega), List.getD_eq_getElem?_getD, List.getElem?_eq_getElem (by omega)]
      unfold dis
      rw [List.map_append]
      rfl]
    (try simp -implicitDefEqProofs (maxSteps := 1000000) (disch := walk_at "d") only [z_bind, z_bindX, z_bindS, z_assoc, z_opt, z_optN, z_obind, z_unB, z_unBT, z_unI, z_unS, z_unL, z_sbind, z_nbind, z_smT, z_smL, z_td, z_tdL, z_unT, z_unC, z_un0, z_rg1, z_rg2, z_iterL, z_iterT, z_iterF, z_iterS, z_put, z_raise, z_tryOk, z_tryX, z_tryS, z_putG, x_add, x_addL, x_addT, x_addS, x_sub, x_band, x_bor, x_bxor, x_mul, x_fdiv, x_mod, x_pow, x_shl, x_shr, x_neg, x_lt, x_le, x_gt', x_ge, x_eqI, x_neI, x_eqS, x_neS, x_eqB, x_neB, x_is, x_isnot, x_ixT, x_ixL, x_ixF, x_ixS, x_lenL, x_lenT, x_lenF, x_lenS, x_abs, x_min, x_max, x_int, x_intB, x_list, x_tup, x_itL, x_itF, x_itT, x_slT, x_slL, x_slF, x_slS, x_seqL, x_seqT, x_count, x_starts, x_sumL, x_sortedL, x_join, x_zipT_LL, x_zpL_LL, x_zipT_LT, x_zpL_LT, x_zipT_TL, x_zpL_TL, x_zipT_TT, x_zpL_TT, x_isD_nn, x_isD_nb, x_isD_bn, x_isD_bb, x_isD_in, x_isD_ib, x_isD_sn, x_isD_sb, x_isD_ln, x_isD_lb, x_isD_tn, x_isD_tb, x_truN, x_truB, x_truI, x_truL, x_truF, x_truT, x_truS, x_eqIL, x_eqIT, x_eqIR, x_eqBB, x_cut, x_boolB, x_boolI, x_revT, x_revL, x_revF, x_repT, x_map, x_ipAdd, x_ipSub, x_ipXor, x_atN, x_isi_n_int, x_isi_n_bool, x_isi_n_str, x_isi_n_list, x_isi_n_tuple, x_isi_b_int, x_isi_b_bool, x_isi_b_str, x_isi_b_list, x_isi_b_tuple, x_isi_i_int, x_isi_i_bool, x_isi_i_str, x_isi_i_list, x_isi_i_tuple, x_isi_s_int, x_isi_s_bool, x_isi_s_str, x_isi_s_list, x_isi_s_tuple, x_isi_l_int, x_isi_l_bool, x_isi_l_str, x_isi_l_list, x_isi_l_tuple, x_isi_t_int, x_isi_t_bool, x_isi_t_str, x_isi_t_list, x_isi_t_tuple, List.length_cons, List.length_nil, List.getElem?_cons_zero, List.getElem?_cons_succ, List.set_cons_zero, List.set_cons_succ, List.map_cons, List.map_nil, List.cons_append, List.nil_append, Bool.and_self, Bool.and_true, Bool.true_and, Bool.and_false, Bool.false_and, Bool.not_true, Bool.not_false, Bool.false_eq_true, if_true, if_false, ite_true, ite_false, decide_true, decide_false, decide_eq_true_eq, decide_eq_false_iff_not, Bool.not_eq_true, Bool.not_eq_true', Nat.zero_add, Option.map_some, Int.toNat_natCast, reduceIte, reduceCtorEq, Int.reduceToNat, Int.reduceNeg, Int.reduceAdd, Int.reduceSub, Int.reduceMul, Int.reduceLT, Int.reduceLE, Int.reducePow, Nat.reduceLT, Nat.reduceLeDiff, Nat.reduceAdd, Nat.reduceMul, Nat.reduceSub, Int.reduceMod, Int.reduceDiv, Int.reduceEq, Nat.reduceEqDiff, Int.cast_ofNat_Int, wp_ok, wp_bind, wp_stuck, wp_exc, id_eq])
end KL
namespace KL
open PySem PySem.Spec PyProof.Rows L2 Evl KP KM
local macro_rules | `(tactic| walk_at "d") => `(tactic| first | assumption | omega | (simp only [List.length_map, List.length_append, List.length_cons, List.length_nil, dis_len, dit_len]; omega) | (simp; done))
local macro_rules | `(tactic| walk_at "dr") => `(tactic| (refine Z.wp.mono (s_draw (by assumption) (by first | decide | omega) (by first | decide | omega)) ?_; rintro ⟨_, _⟩ ⟨hw, _, hh, _, _⟩; dsimp only at hw hh; subst hh; dsimp only))
theorem map_getD (ls : List Int) : (List.range ls.length).map (fun p => ls.getD p 0) = ls := by
  refine List.ext_getElem? fun i => ?_
  rw [List.getElem?_map]
  rcases Nat.lt_or_ge i ls.length with hi | hi
  · rw [List.getElem?_range hi]
    show some (ls.getD i 0) = ls[i]?
    rw [List.getD_eq_getElem?_getD, List.getElem?_eq_getElem hi]; rfl
  · rw [List.getElem?_eq_none (by simpa using hi), List.getElem?_eq_none hi]; rfl
/-- no rival costs less -/
theorem Good.least {c ls rv : List Int} (g : Good c ls) (hc : ∀ x ∈ c, 0 ≤ x) (hr : rv.length = c.length) (hb : ∀ l ∈ rv, 0 ≤ l ∧ l ≤ 15) (hs : shr rv = 32768) : cst c ls (List.range c.length) ≤ cst c rv (List.range c.length) := by
  have h := g.opt.opt ((List.range c.length).map fun p => (c.getD p 0, rv.getD p 0)) (by
    rw [List.map_map]
    have := map_getD c
    exact (show ((List.range c.length).map fun p => c.getD p 0).Perm c by rw [this])) hc (fun p hp => by
    obtain ⟨i, hi, rfl⟩ := List.mem_map.mp hp
    have hi := List.mem_range.mp hi
    (try dsimp only)
    rw [List.getD_eq_getElem?_getD, List.getElem?_eq_getElem (show i < rv.length by omega)]
    exact hb _ (List.getElem_mem _)) (by
    unfold kr
    rw [List.map_map]
    rw [← hs]
    unfold shr
    have := map_getD rv
    rw [hr] at this
    have e : rv.map (fun l => (2 : Int) ^ (15 - l).toNat) = ((List.range c.length).map fun p => rv.getD p 0).map fun l => (2 : Int) ^ (15 - l).toNat := by rw [this]
    rw [e, List.map_map]
    rfl)
  unfold co at h
  rw [List.map_map] at h
  exact h
theorem t_cost {c ls : List Int} {d : D} (hd : d = .lst (dis ls) ∨ d = .tup (dis ls)) (hl : ls.length = c.length) (hz : c.length ≤ 16) (hc : ∀ x ∈ c, 0 ≤ x ∧ x ≤ 1000000000000) (hb : ∀ l ∈ ls, 0 ≤ l ∧ l ≤ 16) : f_law_cost (.lst (dis c)) d = .ok (.int (cst c ls (List.range c.length))) := by
  have dl := dis_len c
  have g : ∀ f : D → Unit → Z (Option D × Unit), (∀ k : Nat, k < c.length → f (.int k) () = .ok (some (.int (c.getD k 0 * ls.getD k 0)), ())) → lcZ f (rgD 0 c.length) [] () = .ok (((List.range c.length).map fun p => c.getD p 0 * ls.getD p 0).map D.int, ()) := fun f hf => by
    rw [z_lc1 (g := fun d => match d with | .int k => .int (c.getD k.toNat 0 * ls.getD k.toNat 0) | d => d) (by rw [rgD_len]; omega) fun d hd => by
      obtain ⟨k, hk⟩ := List.getElem?_of_mem hd
      obtain ⟨hk2, rfl⟩ := rgD_get hk
      rw [hf k hk2]
      (try dsimp only)
      rw [Int.toNat_natCast]]
    congr 2
    unfold rgD
    rw [List.map_map, List.map_map]
    refine List.map_congr_left fun k _ => ?_
    show D.int (c.getD (0 + (k : Int)).toNat 0 * ls.getD (0 + (k : Int)).toNat 0) = D.int (c.getD k 0 * ls.getD k 0)
    rw [show (0 + (k : Int)).toNat = k by omega]
  simp only [f_law_cost, r_law_cost]
  (try simp -implicitDefEqProofs (maxSteps := 1000000) (disch := walk_at "d") only [dl, z_bind, z_bindX, z_bindS, z_assoc, z_opt, z_optN, z_obind, z_unB, z_unBT, z_unI, z_unS, z_unL, z_sbind, z_nbind, z_smT, z_smL, z_td, z_tdL, z_unT, z_unC, z_un0, z_rg1, z_rg2, z_iterL, z_iterT, z_iterF, z_iterS, z_put, z_raise, z_tryOk, z_tryX, z_tryS, z_putG, x_add, x_addL, x_addT, x_addS, x_sub, x_band, x_bor, x_bxor, x_mul, x_fdiv, x_mod, x_pow, x_shl, x_shr, x_neg, x_lt, x_le, x_gt', x_ge, x_eqI, x_neI, x_eqS, x_neS, x_eqB, x_neB, x_is, x_isnot, x_ixT, x_ixL, x_ixF, x_ixS, x_lenL, x_lenT, x_lenF, x_lenS, x_abs, x_min, x_max, x_int, x_intB, x_list, x_tup, x_itL, x_itF, x_itT, x_slT, x_slL, x_slF, x_slS, x_seqL, x_seqT, x_count, x_starts, x_sumL, x_sortedL, x_join, x_zipT_LL, x_zpL_LL, x_zipT_LT, x_zpL_LT, x_zipT_TL, x_zpL_TL, x_zipT_TT, x_zpL_TT, x_isD_nn, x_isD_nb, x_isD_bn, x_isD_bb, x_isD_in, x_isD_ib, x_isD_sn, x_isD_sb, x_isD_ln, x_isD_lb, x_isD_tn, x_isD_tb, x_truN, x_truB, x_truI, x_truL, x_truF, x_truT, x_truS, x_eqIL, x_eqIT, x_eqIR, x_eqBB, x_cut, x_boolB, x_boolI, x_revT, x_revL, x_revF, x_repT, x_map, x_ipAdd, x_ipSub, x_ipXor, x_atN, x_isi_n_int, x_isi_n_bool, x_isi_n_str, x_isi_n_list, x_isi_n_tuple, x_isi_b_int, x_isi_b_bool, x_isi_b_str, x_isi_b_list, x_isi_b_tuple, x_isi_i_int, x_isi_i_bool, x_isi_i_str, x_isi_i_list, x_isi_i_tuple, x_isi_s_int, x_isi_s_bool, x_isi_s_str, x_isi_s_list, x_isi_s_tuple, x_isi_l_int, x_isi_l_bool, x_isi_l_str, x_isi_l_list, x_isi_l_tuple, x_isi_t_int, x_isi_t_bool, x_isi_t_str, x_isi_t_list, x_isi_t_tuple, List.length_cons, List.length_nil, List.getElem?_cons_zero, List.getElem?_cons_succ, List.set_cons_zero, List.set_cons_succ, List.map_cons, List.map_nil, List.cons_append, List.nil_append, Bool.and_self, Bool.and_true, Bool.true_and, Bool.and_false, Bool.false_and, Bool.not_true, Bool.not_false, Bool.false_eq_true, if_true, if_false, ite_true, ite_false, decide_true, decide_false, decide_eq_true_eq, decide_eq_false_iff_not, Bool.not_eq_true, Bool.not_eq_true', Nat.zero_add, Option.map_some, Int.toNat_natCast, reduceIte, reduceCtorEq, Int.reduceToNat, Int.reduceNeg, Int.reduceAdd, Int.reduceSub, Int.reduceMul, Int.reduceLT, Int.reduceLE, Int.reducePow, Nat.reduceLT, Nat.reduceLeDiff, Nat.reduceAdd, Nat.reduceMul, Nat.reduceSub, Int.reduceMod, Int.reduceDiv, Int.reduceEq, Nat.reduceEqDiff, Int.cast_ofNat_Int, wp_ok, wp_bind, wp_stuck, wp_exc, id_eq])
  rw [g _ fun k hk => by
    have g1 := get_int (ls := c) hk
    have g2 : opIx d (.int (k : Nat)) = some (.val (.int (ls.getD k 0))) := by
      have := get_int (ls := ls) (i := k) (by omega)
      rcases hd with rfl | rfl
      · rw [x_ixL, x_atN (by omega), Int.toNat_natCast, this]; rfl
      · rw [x_ixT, x_atN (by omega), Int.toNat_natCast, this]; rfl
    have m1 : c.getD k 0 ∈ c := by
      rw [List.getD_eq_getElem?_getD, List.getElem?_eq_getElem hk]
      exact List.getElem_mem hk
    have m2 : ls.getD k 0 ∈ ls := by
      rw [List.getD_eq_getElem?_getD, List.getElem?_eq_getElem (show k < ls.length by omega)]
      exact List.getElem_mem _
    have b1 := hc _ m1
    have b2 := hb _ m2
    have mu := mul_big (i := c.getD k 0) (j := ls.getD k 0) (by omega) (by omega)
    (try simp -implicitDefEqProofs (maxSteps := 1000000) (disch := walk_at "d") only [g1, g2, mu, z_bind, z_bindX, z_bindS, z_assoc, z_opt, z_optN, z_obind, z_unB, z_unBT, z_unI, z_unS, z_unL, z_sbind, z_nbind, z_smT, z_smL, z_td, z_tdL, z_unT, z_unC, z_un0, z_rg1, z_rg2, z_iterL, z_iterT, z_iterF, z_iterS, z_put, z_raise, z_tryOk, z_tryX, z_tryS, z_putG, x_add, x_addL, x_addT, x_addS, x_sub, x_band, x_bor, x_bxor, x_mul, x_fdiv, x_mod, x_pow, x_shl, x_shr, x_neg, x_lt, x_le, x_gt', x_ge, x_eqI, x_neI, x_eqS, x_neS, x_eqB, x_neB, x_is, x_isnot, x_ixT, x_ixL, x_ixF, x_ixS, x_lenL, x_lenT, x_lenF, x_lenS, x_abs, x_min, x_max, x_int, x_intB, x_list, x_tup, x_itL, x_itF, x_itT, x_slT, x_slL, x_slF, x_slS, x_seqL, x_seqT, x_count, x_starts, x_sumL, x_sortedL, x_join, x_zipT_LL, x_zpL_LL, x_zipT_LT, x_zpL_LT, x_zipT_TL, x_zpL_TL, x_zipT_TT, x_zpL_TT, x_isD_nn, x_isD_nb, x_isD_bn, x_isD_bb, x_isD_in, x_isD_ib, x_isD_sn, x_isD_sb, x_isD_ln, x_isD_lb, x_isD_tn, x_isD_tb, x_truN, x_truB, x_truI, x_truL, x_truF, x_truT, x_truS, x_eqIL, x_eqIT, x_eqIR, x_eqBB, x_cut, x_boolB, x_boolI, x_revT, x_revL, x_revF, x_repT, x_map, x_ipAdd, x_ipSub, x_ipXor, x_atN, x_isi_n_int, x_isi_n_bool, x_isi_n_str, x_isi_n_list, x_isi_n_tuple, x_isi_b_int, x_isi_b_bool, x_isi_b_str, x_isi_b_list, x_isi_b_tuple, x_isi_i_int, x_isi_i_bool, x_isi_i_str, x_isi_i_list, x_isi_i_tuple, x_isi_s_int, x_isi_s_bool, x_isi_s_str, x_isi_s_list, x_isi_s_tuple, x_isi_l_int, x_isi_l_bool, x_isi_l_str, x_isi_l_list, x_isi_l_tuple, x_isi_t_int, x_isi_t_bool, x_isi_t_str, x_isi_t_list, x_isi_t_tuple, List.length_cons, List.length_nil, List.getElem?_cons_zero, List.getElem?_cons_succ, List.set_cons_zero, List.set_cons_succ, List.map_cons, List.map_nil, List.cons_append, List.nil_append, Bool.and_self, Bool.and_true, Bool.true_and, Bool.and_false, Bool.false_and, Bool.not_true, Bool.not_false, Bool.false_eq_true, if_true, if_false, ite_true, ite_false, decide_true, decide_false, decide_eq_true_eq, decide_eq_false_iff_not, Bool.not_eq_true, Bool.not_eq_true', Nat.zero_add, Option.map_some, Int.toNat_natCast, reduceIte, reduceCtorEq, Int.reduceToNat, Int.reduceNeg, Int.reduceAdd, Int.reduceSub, Int.reduceMul, Int.reduceLT, Int.reduceLE, Int.reducePow, Nat.reduceLT, Nat.reduceLeDiff, Nat.reduceAdd, Nat.reduceMul, Nat.reduceSub, Int.reduceMod, Int.reduceDiv, Int.reduceEq, Nat.reduceEqDiff, Int.cast_ofNat_Int, wp_ok, wp_bind, wp_stuck, wp_exc, id_eq])]
  (try simp -implicitDefEqProofs (maxSteps := 1000000) (disch := walk_at "d") only [x_sumL, z_bind, z_bindX, z_bindS, z_assoc, z_opt, z_optN, z_obind, z_unB, z_unBT, z_unI, z_unS, z_unL, z_sbind, z_nbind, z_smT, z_smL, z_td, z_tdL, z_unT, z_unC, z_un0, z_rg1, z_rg2, z_iterL, z_iterT, z_iterF, z_iterS, z_put, z_raise, z_tryOk, z_tryX, z_tryS, z_putG, x_add, x_addL, x_addT, x_addS, x_sub, x_band, x_bor, x_bxor, x_mul, x_fdiv, x_mod, x_pow, x_shl, x_shr, x_neg, x_lt, x_le, x_gt', x_ge, x_eqI, x_neI, x_eqS, x_neS, x_eqB, x_neB, x_is, x_isnot, x_ixT, x_ixL, x_ixF, x_ixS, x_lenL, x_lenT, x_lenF, x_lenS, x_abs, x_min, x_max, x_int, x_intB, x_list, x_tup, x_itL, x_itF, x_itT, x_slT, x_slL, x_slF, x_slS, x_seqL, x_seqT, x_count, x_starts, x_sumL, x_sortedL, x_join, x_zipT_LL, x_zpL_LL, x_zipT_LT, x_zpL_LT, x_zipT_TL, x_zpL_TL, x_zipT_TT, x_zpL_TT, x_isD_nn, x_isD_nb, x_isD_bn, x_isD_bb, x_isD_in, x_isD_ib, x_isD_sn, x_isD_sb, x_isD_ln, x_isD_lb, x_isD_tn, x_isD_tb, x_truN, x_truB, x_truI, x_truL, x_truF, x_truT, x_truS, x_eqIL, x_eqIT, x_eqIR, x_eqBB, x_cut, x_boolB, x_boolI, x_revT, x_revL, x_revF, x_repT, x_map, x_ipAdd, x_ipSub, x_ipXor, x_atN, x_isi_n_int, x_isi_n_bool, x_isi_n_str, x_isi_n_list, x_isi_n_tuple, x_isi_b_int, x_isi_b_bool, x_isi_b_str, x_isi_b_list, x_isi_b_tuple, x_isi_i_int, x_isi_i_bool, x_isi_i_str, x_isi_i_list, x_isi_i_tuple, x_isi_s_int, x_isi_s_bool, x_isi_s_str, x_isi_s_list, x_isi_s_tuple, x_isi_l_int, x_isi_l_bool, x_isi_l_str, x_isi_l_list, x_isi_l_tuple, x_isi_t_int, x_isi_t_bool, x_isi_t_str, x_isi_t_list, x_isi_t_tuple, List.length_cons, List.length_nil, List.getElem?_cons_zero, List.getElem?_cons_succ, List.set_cons_zero, List.set_cons_succ, List.map_cons, List.map_nil, List.cons_append, List.nil_append, Bool.and_self, Bool.and_true, Bool.true_and, Bool.and_false, Bool.false_and, Bool.not_true, Bool.not_false, Bool.false_eq_true, if_true, if_false, ite_true, ite_false, decide_true, decide_false, decide_eq_true_eq, decide_eq_false_iff_not, Bool.not_eq_true, Bool.not_eq_true', Nat.zero_add, Option.map_some, Int.toNat_natCast, reduceIte, reduceCtorEq, Int.reduceToNat, Int.reduceNeg, Int.reduceAdd, Int.reduceSub, Int.reduceMul, Int.reduceLT, Int.reduceLE, Int.reducePow, Nat.reduceLT, Nat.reduceLeDiff, Nat.reduceAdd, Nat.reduceMul, Nat.reduceSub, Int.reduceMod, Int.reduceDiv, Int.reduceEq, Nat.reduceEqDiff, Int.cast_ofNat_Int, wp_ok, wp_bind, wp_stuck, wp_exc, id_eq])
  rfl
theorem t_ones {c ls : List Int} (hz : c.length ≤ 16) (g : Good c ls) : f_law_complete_ones (.tup (dis ls)) (.int c.length) = .ok (.bl true) := by
  have dl := dis_len ls
  have n1 := g.n1
  have sl : ls.length = c.length := n1
  suffices w : (f_law_complete_ones (.tup (dis ls)) (.int c.length)).wp fun r => r = .bl true by
    obtain ⟨_, e, rfl⟩ := w.ex
    exact e
  have al : ∀ l ∈ ls, 0 ≤ l ∧ l ≤ 15 := fun l hl => by
    obtain ⟨i, hi, rfl⟩ := List.getElem_of_mem hl
    have := g.al i (by omega)
    rw [List.getD_eq_getElem?_getD, List.getElem?_eq_getElem hi] at this
    exact this
  have ks : shr ls = 32768 := by
    have := g.kt
    unfold sumK at this
    unfold shr
    have e := map_getD ls
    rw [n1] at e
    have e2 : ls.map (fun l => (2 : Int) ^ (15 - l).toNat) = ((List.range c.length).map fun p => ls.getD p 0).map fun l => (2 : Int) ^ (15 - l).toNat := by rw [e]
    rw [e2, List.map_map]
    exact this
  simp only [f_law_complete_ones, r_law_complete_ones]
  (try simp -implicitDefEqProofs (maxSteps := 1000000) (disch := walk_at "d") only [dl, sl, z_bind, z_bindX, z_bindS, z_assoc, z_opt, z_optN, z_obind, z_unB, z_unBT, z_unI, z_unS, z_unL, z_sbind, z_nbind, z_smT, z_smL, z_td, z_tdL, z_unT, z_unC, z_un0, z_rg1, z_rg2, z_iterL, z_iterT, z_iterF, z_iterS, z_put, z_raise, z_tryOk, z_tryX, z_tryS, z_putG, x_add, x_addL, x_addT, x_addS, x_sub, x_band, x_bor, x_bxor, x_mul, x_fdiv, x_mod, x_pow, x_shl, x_shr, x_neg, x_lt, x_le, x_gt', x_ge, x_eqI, x_neI, x_eqS, x_neS, x_eqB, x_neB, x_is, x_isnot, x_ixT, x_ixL, x_ixF, x_ixS, x_lenL, x_lenT, x_lenF, x_lenS, x_abs, x_min, x_max, x_int, x_intB, x_list, x_tup, x_itL, x_itF, x_itT, x_slT, x_slL, x_slF, x_slS, x_seqL, x_seqT, x_count, x_starts, x_sumL, x_sortedL, x_join, x_zipT_LL, x_zpL_LL, x_zipT_LT, x_zpL_LT, x_zipT_TL, x_zpL_TL, x_zipT_TT, x_zpL_TT, x_isD_nn, x_isD_nb, x_isD_bn, x_isD_bb, x_isD_in, x_isD_ib, x_isD_sn, x_isD_sb, x_isD_ln, x_isD_lb, x_isD_tn, x_isD_tb, x_truN, x_truB, x_truI, x_truL, x_truF, x_truT, x_truS, x_eqIL, x_eqIT, x_eqIR, x_eqBB, x_cut, x_boolB, x_boolI, x_revT, x_revL, x_revF, x_repT, x_map, x_ipAdd, x_ipSub, x_ipXor, x_atN, x_isi_n_int, x_isi_n_bool, x_isi_n_str, x_isi_n_list, x_isi_n_tuple, x_isi_b_int, x_isi_b_bool, x_isi_b_str, x_isi_b_list, x_isi_b_tuple, x_isi_i_int, x_isi_i_bool, x_isi_i_str, x_isi_i_list, x_isi_i_tuple, x_isi_s_int, x_isi_s_bool, x_isi_s_str, x_isi_s_list, x_isi_s_tuple, x_isi_l_int, x_isi_l_bool, x_isi_l_str, x_isi_l_list, x_isi_l_tuple, x_isi_t_int, x_isi_t_bool, x_isi_t_str, x_isi_t_list, x_isi_t_tuple, List.length_cons, List.length_nil, List.getElem?_cons_zero, List.getElem?_cons_succ, List.set_cons_zero, List.set_cons_succ, List.map_cons, List.map_nil, List.cons_append, List.nil_append, Bool.and_self, Bool.and_true, Bool.true_and, Bool.and_false, Bool.false_and, Bool.not_true, Bool.not_false, Bool.false_eq_true, if_true, if_false, ite_true, ite_false, decide_true, decide_false, decide_eq_true_eq, decide_eq_false_iff_not, Bool.not_eq_true, Bool.not_eq_true', Nat.zero_add, Option.map_some, Int.toNat_natCast, reduceIte, reduceCtorEq, Int.reduceToNat, Int.reduceNeg, Int.reduceAdd, Int.reduceSub, Int.reduceMul, Int.reduceLT, Int.reduceLE, Int.reducePow, Nat.reduceLT, Nat.reduceLeDiff, Nat.reduceAdd, Nat.reduceMul, Nat.reduceSub, Int.reduceMod, Int.reduceDiv, Int.reduceEq, Nat.reduceEqDiff, Int.cast_ofNat_Int, wp_ok, wp_bind, wp_stuck, wp_exc, id_eq])
  refine Z.wp.mono (Q' := fun b => b = .inl (.int 32768)) (wp_forF (S := D) (fun k s => s = .int (shr (ls.take k))) _ 0 _ rfl ?_ ?_) ?_
  · rintro k d _ hk rfl
    rw [Nat.zero_add] at *
    rw [dis_get] at hk
    cases hk2 : ls[k]? with
    | none => rw [hk2] at hk; cases hk
    | some l =>
      rw [hk2] at hk
      cases hk
      have b := al l (List.mem_of_getElem? hk2)
      have ti := t_int l
      have b0 := b.1
      have b1 := b.2
      (try simp -implicitDefEqProofs (maxSteps := 1000000) (disch := walk_at "d") only [ti, b0, b1, z_bind, z_bindX, z_bindS, z_assoc, z_opt, z_optN, z_obind, z_unB, z_unBT, z_unI, z_unS, z_unL, z_sbind, z_nbind, z_smT, z_smL, z_td, z_tdL, z_unT, z_unC, z_un0, z_rg1, z_rg2, z_iterL, z_iterT, z_iterF, z_iterS, z_put, z_raise, z_tryOk, z_tryX, z_tryS, z_putG, x_add, x_addL, x_addT, x_addS, x_sub, x_band, x_bor, x_bxor, x_mul, x_fdiv, x_mod, x_pow, x_shl, x_shr, x_neg, x_lt, x_le, x_gt', x_ge, x_eqI, x_neI, x_eqS, x_neS, x_eqB, x_neB, x_is, x_isnot, x_ixT, x_ixL, x_ixF, x_ixS, x_lenL, x_lenT, x_lenF, x_lenS, x_abs, x_min, x_max, x_int, x_intB, x_list, x_tup, x_itL, x_itF, x_itT, x_slT, x_slL, x_slF, x_slS, x_seqL, x_seqT, x_count, x_starts, x_sumL, x_sortedL, x_join, x_zipT_LL, x_zpL_LL, x_zipT_LT, x_zpL_LT, x_zipT_TL, x_zpL_TL, x_zipT_TT, x_zpL_TT, x_isD_nn, x_isD_nb, x_isD_bn, x_isD_bb, x_isD_in, x_isD_ib, x_isD_sn, x_isD_sb, x_isD_ln, x_isD_lb, x_isD_tn, x_isD_tb, x_truN, x_truB, x_truI, x_truL, x_truF, x_truT, x_truS, x_eqIL, x_eqIT, x_eqIR, x_eqBB, x_cut, x_boolB, x_boolI, x_revT, x_revL, x_revF, x_repT, x_map, x_ipAdd, x_ipSub, x_ipXor, x_atN, x_isi_n_int, x_isi_n_bool, x_isi_n_str, x_isi_n_list, x_isi_n_tuple, x_isi_b_int, x_isi_b_bool, x_isi_b_str, x_isi_b_list, x_isi_b_tuple, x_isi_i_int, x_isi_i_bool, x_isi_i_str, x_isi_i_list, x_isi_i_tuple, x_isi_s_int, x_isi_s_bool, x_isi_s_str, x_isi_s_list, x_isi_s_tuple, x_isi_l_int, x_isi_l_bool, x_isi_l_str, x_isi_l_list, x_isi_l_tuple, x_isi_t_int, x_isi_t_bool, x_isi_t_str, x_isi_t_list, x_isi_t_tuple, List.length_cons, List.length_nil, List.getElem?_cons_zero, List.getElem?_cons_succ, List.set_cons_zero, List.set_cons_succ, List.map_cons, List.map_nil, List.cons_append, List.nil_append, Bool.and_self, Bool.and_true, Bool.true_and, Bool.and_false, Bool.false_and, Bool.not_true, Bool.not_false, Bool.false_eq_true, if_true, if_false, ite_true, ite_false, decide_true, decide_false, decide_eq_true_eq, decide_eq_false_iff_not, Bool.not_eq_true, Bool.not_eq_true', Nat.zero_add, Option.map_some, Int.toNat_natCast, reduceIte, reduceCtorEq, Int.reduceToNat, Int.reduceNeg, Int.reduceAdd, Int.reduceSub, Int.reduceMul, Int.reduceLT, Int.reduceLE, Int.reducePow, Nat.reduceLT, Nat.reduceLeDiff, Nat.reduceAdd, Nat.reduceMul, Nat.reduceSub, Int.reduceMod, Int.reduceDiv, Int.reduceEq, Nat.reduceEqDiff, Int.cast_ofNat_Int, wp_ok, wp_bind, wp_stuck, wp_exc, id_eq])
      have e : (32768 : Int) / 2 ^ l.toNat = 2 ^ (15 - l).toNat := by
        have : (32768 : Int) = 2 ^ (15 - l).toNat * 2 ^ l.toNat := by
          rw [← Int.pow_add, show (15 - l).toNat + l.toNat = 15 by omega]
          decide
        rw [this, Int.mul_ediv_cancel _ (by have : (0 : Int) < 2 ^ l.toNat := Int.pow_pos (by decide)
                                            omega)]
      rw [e, List.take_add_one, hk2, Option.toList_some, shr_app, shr_one]
  · rintro _ rfl
    rw [Nat.zero_add, dl, List.take_of_length_le (Nat.le_refl _), ks]
  · rintro _ rfl
    (try simp -implicitDefEqProofs (maxSteps := 1000000) (disch := walk_at "d") only [z_bind, z_bindX, z_bindS, z_assoc, z_opt, z_optN, z_obind, z_unB, z_unBT, z_unI, z_unS, z_unL, z_sbind, z_nbind, z_smT, z_smL, z_td, z_tdL, z_unT, z_unC, z_un0, z_rg1, z_rg2, z_iterL, z_iterT, z_iterF, z_iterS, z_put, z_raise, z_tryOk, z_tryX, z_tryS, z_putG, x_add, x_addL, x_addT, x_addS, x_sub, x_band, x_bor, x_bxor, x_mul, x_fdiv, x_mod, x_pow, x_shl, x_shr, x_neg, x_lt, x_le, x_gt', x_ge, x_eqI, x_neI, x_eqS, x_neS, x_eqB, x_neB, x_is, x_isnot, x_ixT, x_ixL, x_ixF, x_ixS, x_lenL, x_lenT, x_lenF, x_lenS, x_abs, x_min, x_max, x_int, x_intB, x_list, x_tup, x_itL, x_itF, x_itT, x_slT, x_slL, x_slF, x_slS, x_seqL, x_seqT, x_count, x_starts, x_sumL, x_sortedL, x_join, x_zipT_LL, x_zpL_LL, x_zipT_LT, x_zpL_LT, x_zipT_TL, x_zpL_TL, x_zipT_TT, x_zpL_TT, x_isD_nn, x_isD_nb, x_isD_bn, x_isD_bb, x_isD_in, x_isD_ib, x_isD_sn, x_isD_sb, x_isD_ln, x_isD_lb, x_isD_tn, x_isD_tb, x_truN, x_truB, x_truI, x_truL, x_truF, x_truT, x_truS, x_eqIL, x_eqIT, x_eqIR, x_eqBB, x_cut, x_boolB, x_boolI, x_revT, x_revL, x_revF, x_repT, x_map, x_ipAdd, x_ipSub, x_ipXor, x_atN, x_isi_n_int, x_isi_n_bool, x_isi_n_str, x_isi_n_list, x_isi_n_tuple, x_isi_b_int, x_isi_b_bool, x_isi_b_str, x_isi_b_list, x_isi_b_tuple, x_isi_i_int, x_isi_i_bool, x_isi_i_str, x_isi_i_list, x_isi_i_tuple, x_isi_s_int, x_isi_s_bool, x_isi_s_str, x_isi_s_list, x_isi_s_tuple, x_isi_l_int, x_isi_l_bool, x_isi_l_str, x_isi_l_list, x_isi_l_tuple, x_isi_t_int, x_isi_t_bool, x_isi_t_str, x_isi_t_list, x_isi_t_tuple, List.length_cons, List.length_nil, List.getElem?_cons_zero, List.getElem?_cons_succ, List.set_cons_zero, List.set_cons_succ, List.map_cons, List.map_nil, List.cons_append, List.nil_append, Bool.and_self, Bool.and_true, Bool.true_and, Bool.and_false, Bool.false_and, Bool.not_true, Bool.not_false, Bool.false_eq_true, if_true, if_false, ite_true, ite_false, decide_true, decide_false, decide_eq_true_eq, decide_eq_false_iff_not, Bool.not_eq_true, Bool.not_eq_true', Nat.zero_add, Option.map_some, Int.toNat_natCast, reduceIte, reduceCtorEq, Int.reduceToNat, Int.reduceNeg, Int.reduceAdd, Int.reduceSub, Int.reduceMul, Int.reduceLT, Int.reduceLE, Int.reducePow, Nat.reduceLT, Nat.reduceLeDiff, Nat.reduceAdd, Nat.reduceMul, Nat.reduceSub, Int.reduceMod, Int.reduceDiv, Int.reduceEq, Nat.reduceEqDiff, Int.cast_ofNat_Int, wp_ok, wp_bind, wp_stuck, wp_exc, id_eq])
theorem x_neIL2 (a : List Int) : opEq true (.lst (dis a)) (.lst (dis a)) = some (.val (.bl false)) := by
  show (if (eqOk (.lst (dis a)) && eqOk (.lst (dis a))) = true then some (T.val (.bl (!PyData.eqv (.list (toPys (dis a))) (.list (toPys (dis a)))))) else none) = _
  rw [eqOk_L, PyData.eqv, KM.eqv_ints, decide_eq_true rfl]; rfl
theorem t_lleast {c rv : List Int} (hz : c.length ≤ 16) (hn : c ≠ []) (hc : ∀ x ∈ c, 0 ≤ x ∧ x ≤ 1000000000000) (hr : rv.length = c.length) (hb : ∀ l ∈ rv, 0 ≤ l ∧ l ≤ 15) (hs : shr rv = 32768) : f_law_least (.lst (dis c)) (.lst (dis rv)) = .ok (.bl true) := by
  have g := lens_good hz hn
  have dl := dis_len c
  have n1 := g.n1
  have al : ∀ l ∈ lensOf c, 0 ≤ l ∧ l ≤ 16 := fun l hl => by
    obtain ⟨i, hi, rfl⟩ := List.getElem_of_mem hl
    have := g.al i (by omega)
    rw [List.getD_eq_getElem?_getD, List.getElem?_eq_getElem hi] at this
    have e : (lensOf c)[i] = ((some (lensOf c)[i]).getD 0 : Int) := rfl
    omega
  have e1 := t_least hz hn (d := .lst (dis c)) (.inl rfl)
  have e2 := t_least hz hn (d := .tup (dis c)) (.inr rfl)
  have e3 := t_ones hz g
  have e4 := t_joined hz hn
  have e5 := t_cost (d := .tup (dis (lensOf c))) (.inr rfl) n1 hz hc al
  have e6 := t_cost (d := .lst (dis rv)) (.inl rfl) hr hz hc fun l hl => by have := hb l hl; omega
  have le := g.least (fun x hx => (hc x hx).1) hr hb hs
  have s1 := t_same (d := .tup (dis (lensOf c))) (ok_T (ok_dis 10 _) (by rw [dis_len]; omega))
  have ne := x_neIL2 c
  have nl : ¬ cst c rv (List.range c.length) < cst c (lensOf c) (List.range c.length) := by omega
  simp only [f_law_least, r_law_least]
  (try simp -implicitDefEqProofs (maxSteps := 1000000) (disch := walk_at "d") only [e1, e2, e3, dl, ne, s1, e5, e6, nl, e4, z_bind, z_bindX, z_bindS, z_assoc, z_opt, z_optN, z_obind, z_unB, z_unBT, z_unI, z_unS, z_unL, z_sbind, z_nbind, z_smT, z_smL, z_td, z_tdL, z_unT, z_unC, z_un0, z_rg1, z_rg2, z_iterL, z_iterT, z_iterF, z_iterS, z_put, z_raise, z_tryOk, z_tryX, z_tryS, z_putG, x_add, x_addL, x_addT, x_addS, x_sub, x_band, x_bor, x_bxor, x_mul, x_fdiv, x_mod, x_pow, x_shl, x_shr, x_neg, x_lt, x_le, x_gt', x_ge, x_eqI, x_neI, x_eqS, x_neS, x_eqB, x_neB, x_is, x_isnot, x_ixT, x_ixL, x_ixF, x_ixS, x_lenL, x_lenT, x_lenF, x_lenS, x_abs, x_min, x_max, x_int, x_intB, x_list, x_tup, x_itL, x_itF, x_itT, x_slT, x_slL, x_slF, x_slS, x_seqL, x_seqT, x_count, x_starts, x_sumL, x_sortedL, x_join, x_zipT_LL, x_zpL_LL, x_zipT_LT, x_zpL_LT, x_zipT_TL, x_zpL_TL, x_zipT_TT, x_zpL_TT, x_isD_nn, x_isD_nb, x_isD_bn, x_isD_bb, x_isD_in, x_isD_ib, x_isD_sn, x_isD_sb, x_isD_ln, x_isD_lb, x_isD_tn, x_isD_tb, x_truN, x_truB, x_truI, x_truL, x_truF, x_truT, x_truS, x_eqIL, x_eqIT, x_eqIR, x_eqBB, x_cut, x_boolB, x_boolI, x_revT, x_revL, x_revF, x_repT, x_map, x_ipAdd, x_ipSub, x_ipXor, x_atN, x_isi_n_int, x_isi_n_bool, x_isi_n_str, x_isi_n_list, x_isi_n_tuple, x_isi_b_int, x_isi_b_bool, x_isi_b_str, x_isi_b_list, x_isi_b_tuple, x_isi_i_int, x_isi_i_bool, x_isi_i_str, x_isi_i_list, x_isi_i_tuple, x_isi_s_int, x_isi_s_bool, x_isi_s_str, x_isi_s_list, x_isi_s_tuple, x_isi_l_int, x_isi_l_bool, x_isi_l_str, x_isi_l_list, x_isi_l_tuple, x_isi_t_int, x_isi_t_bool, x_isi_t_str, x_isi_t_list, x_isi_t_tuple, List.length_cons, List.length_nil, List.getElem?_cons_zero, List.getElem?_cons_succ, List.set_cons_zero, List.set_cons_succ, List.map_cons, List.map_nil, List.cons_append, List.nil_append, Bool.and_self, Bool.and_true, Bool.true_and, Bool.and_false, Bool.false_and, Bool.not_true, Bool.not_false, Bool.false_eq_true, if_true, if_false, ite_true, ite_false, decide_true, decide_false, decide_eq_true_eq, decide_eq_false_iff_not, Bool.not_eq_true, Bool.not_eq_true', Nat.zero_add, Option.map_some, Int.toNat_natCast, reduceIte, reduceCtorEq, Int.reduceToNat, Int.reduceNeg, Int.reduceAdd, Int.reduceSub, Int.reduceMul, Int.reduceLT, Int.reduceLE, Int.reducePow, Nat.reduceLT, Nat.reduceLeDiff, Nat.reduceAdd, Nat.reduceMul, Nat.reduceSub, Int.reduceMod, Int.reduceDiv, Int.reduceEq, Nat.reduceEqDiff, Int.cast_ofNat_Int, wp_ok, wp_bind, wp_stuck, wp_exc, id_eq])
theorem s_some_counts {ds : List D} (hd : Dw ds) : (f_law_some_counts ds).wp fun r => Dw r.2 ∧ ∃ c : List Int, r.1 = .lst (dis c) ∧ c ≠ [] ∧ c.length ≤ 16 ∧ ∀ x ∈ c, 0 ≤ x ∧ x ≤ 1000000000000 := by
  simp only [f_law_some_counts, r_law_some_counts]
  (try simp -implicitDefEqProofs (maxSteps := 1000000) (disch := walk_at "d") only [z_bind, z_bindX, z_bindS, z_assoc, z_opt, z_optN, z_obind, z_unB, z_unBT, z_unI, z_unS, z_unL, z_sbind, z_nbind, z_smT, z_smL, z_td, z_tdL, z_unT, z_unC, z_un0, z_rg1, z_rg2, z_iterL, z_iterT, z_iterF, z_iterS, z_put, z_raise, z_tryOk, z_tryX, z_tryS, z_putG, x_add, x_addL, x_addT, x_addS, x_sub, x_band, x_bor, x_bxor, x_mul, x_fdiv, x_mod, x_pow, x_shl, x_shr, x_neg, x_lt, x_le, x_gt', x_ge, x_eqI, x_neI, x_eqS, x_neS, x_eqB, x_neB, x_is, x_isnot, x_ixT, x_ixL, x_ixF, x_ixS, x_lenL, x_lenT, x_lenF, x_lenS, x_abs, x_min, x_max, x_int, x_intB, x_list, x_tup, x_itL, x_itF, x_itT, x_slT, x_slL, x_slF, x_slS, x_seqL, x_seqT, x_count, x_starts, x_sumL, x_sortedL, x_join, x_zipT_LL, x_zpL_LL, x_zipT_LT, x_zpL_LT, x_zipT_TL, x_zpL_TL, x_zipT_TT, x_zpL_TT, x_isD_nn, x_isD_nb, x_isD_bn, x_isD_bb, x_isD_in, x_isD_ib, x_isD_sn, x_isD_sb, x_isD_ln, x_isD_lb, x_isD_tn, x_isD_tb, x_truN, x_truB, x_truI, x_truL, x_truF, x_truT, x_truS, x_eqIL, x_eqIT, x_eqIR, x_eqBB, x_cut, x_boolB, x_boolI, x_revT, x_revL, x_revF, x_repT, x_map, x_ipAdd, x_ipSub, x_ipXor, x_atN, x_isi_n_int, x_isi_n_bool, x_isi_n_str, x_isi_n_list, x_isi_n_tuple, x_isi_b_int, x_isi_b_bool, x_isi_b_str, x_isi_b_list, x_isi_b_tuple, x_isi_i_int, x_isi_i_bool, x_isi_i_str, x_isi_i_list, x_isi_i_tuple, x_isi_s_int, x_isi_s_bool, x_isi_s_str, x_isi_s_list, x_isi_s_tuple, x_isi_l_int, x_isi_l_bool, x_isi_l_str, x_isi_l_list, x_isi_l_tuple, x_isi_t_int, x_isi_t_bool, x_isi_t_str, x_isi_t_list, x_isi_t_tuple, List.length_cons, List.length_nil, List.getElem?_cons_zero, List.getElem?_cons_succ, List.set_cons_zero, List.set_cons_succ, List.map_cons, List.map_nil, List.cons_append, List.nil_append, Bool.and_self, Bool.and_true, Bool.true_and, Bool.and_false, Bool.false_and, Bool.not_true, Bool.not_false, Bool.false_eq_true, if_true, if_false, ite_true, ite_false, decide_true, decide_false, decide_eq_true_eq, decide_eq_false_iff_not, Bool.not_eq_true, Bool.not_eq_true', Nat.zero_add, Option.map_some, Int.toNat_natCast, reduceIte, reduceCtorEq, Int.reduceToNat, Int.reduceNeg, Int.reduceAdd, Int.reduceSub, Int.reduceMul, Int.reduceLT, Int.reduceLE, Int.reducePow, Nat.reduceLT, Nat.reduceLeDiff, Nat.reduceAdd, Nat.reduceMul, Nat.reduceSub, Int.reduceMod, Int.reduceDiv, Int.reduceEq, Nat.reduceEqDiff, Int.cast_ofNat_Int, wp_ok, wp_bind, wp_stuck, wp_exc, id_eq])
  refine Z.wp.mono (s_draw hd (by decide) (by decide)) ?_
  rintro ⟨_, d⟩ ⟨hd, m, rfl, m0, m1⟩
  dsimp only at hd ⊢
  obtain ⟨n, hn⟩ : ∃ n : Nat, 1 + m = (n : Int) := ⟨(1 + m).toNat, by omega⟩
  (try simp -implicitDefEqProofs (maxSteps := 1000000) (disch := walk_at "d") only [hn, z_bind, z_bindX, z_bindS, z_assoc, z_opt, z_optN, z_obind, z_unB, z_unBT, z_unI, z_unS, z_unL, z_sbind, z_nbind, z_smT, z_smL, z_td, z_tdL, z_unT, z_unC, z_un0, z_rg1, z_rg2, z_iterL, z_iterT, z_iterF, z_iterS, z_put, z_raise, z_tryOk, z_tryX, z_tryS, z_putG, x_add, x_addL, x_addT, x_addS, x_sub, x_band, x_bor, x_bxor, x_mul, x_fdiv, x_mod, x_pow, x_shl, x_shr, x_neg, x_lt, x_le, x_gt', x_ge, x_eqI, x_neI, x_eqS, x_neS, x_eqB, x_neB, x_is, x_isnot, x_ixT, x_ixL, x_ixF, x_ixS, x_lenL, x_lenT, x_lenF, x_lenS, x_abs, x_min, x_max, x_int, x_intB, x_list, x_tup, x_itL, x_itF, x_itT, x_slT, x_slL, x_slF, x_slS, x_seqL, x_seqT, x_count, x_starts, x_sumL, x_sortedL, x_join, x_zipT_LL, x_zpL_LL, x_zipT_LT, x_zpL_LT, x_zipT_TL, x_zpL_TL, x_zipT_TT, x_zpL_TT, x_isD_nn, x_isD_nb, x_isD_bn, x_isD_bb, x_isD_in, x_isD_ib, x_isD_sn, x_isD_sb, x_isD_ln, x_isD_lb, x_isD_tn, x_isD_tb, x_truN, x_truB, x_truI, x_truL, x_truF, x_truT, x_truS, x_eqIL, x_eqIT, x_eqIR, x_eqBB, x_cut, x_boolB, x_boolI, x_revT, x_revL, x_revF, x_repT, x_map, x_ipAdd, x_ipSub, x_ipXor, x_atN, x_isi_n_int, x_isi_n_bool, x_isi_n_str, x_isi_n_list, x_isi_n_tuple, x_isi_b_int, x_isi_b_bool, x_isi_b_str, x_isi_b_list, x_isi_b_tuple, x_isi_i_int, x_isi_i_bool, x_isi_i_str, x_isi_i_list, x_isi_i_tuple, x_isi_s_int, x_isi_s_bool, x_isi_s_str, x_isi_s_list, x_isi_s_tuple, x_isi_l_int, x_isi_l_bool, x_isi_l_str, x_isi_l_list, x_isi_l_tuple, x_isi_t_int, x_isi_t_bool, x_isi_t_str, x_isi_t_list, x_isi_t_tuple, List.length_cons, List.length_nil, List.getElem?_cons_zero, List.getElem?_cons_succ, List.set_cons_zero, List.set_cons_succ, List.map_cons, List.map_nil, List.cons_append, List.nil_append, Bool.and_self, Bool.and_true, Bool.true_and, Bool.and_false, Bool.false_and, Bool.not_true, Bool.not_false, Bool.false_eq_true, if_true, if_false, ite_true, ite_false, decide_true, decide_false, decide_eq_true_eq, decide_eq_false_iff_not, Bool.not_eq_true, Bool.not_eq_true', Nat.zero_add, Option.map_some, Int.toNat_natCast, reduceIte, reduceCtorEq, Int.reduceToNat, Int.reduceNeg, Int.reduceAdd, Int.reduceSub, Int.reduceMul, Int.reduceLT, Int.reduceLE, Int.reducePow, Nat.reduceLT, Nat.reduceLeDiff, Nat.reduceAdd, Nat.reduceMul, Nat.reduceSub, Int.reduceMod, Int.reduceDiv, Int.reduceEq, Nat.reduceEqDiff, Int.cast_ofNat_Int, wp_ok, wp_bind, wp_stuck, wp_exc, id_eq])
  refine Z.wp.mono (s_draw hd (by decide) (by decide)) ?_
  rintro ⟨_, d⟩ ⟨hd, v, rfl, v0, v1⟩
  dsimp only at hd ⊢
  (try simp -implicitDefEqProofs (maxSteps := 1000000) (disch := walk_at "d") only [z_bind, z_bindX, z_bindS, z_assoc, z_opt, z_optN, z_obind, z_unB, z_unBT, z_unI, z_unS, z_unL, z_sbind, z_nbind, z_smT, z_smL, z_td, z_tdL, z_unT, z_unC, z_un0, z_rg1, z_rg2, z_iterL, z_iterT, z_iterF, z_iterS, z_put, z_raise, z_tryOk, z_tryX, z_tryS, z_putG, x_add, x_addL, x_addT, x_addS, x_sub, x_band, x_bor, x_bxor, x_mul, x_fdiv, x_mod, x_pow, x_shl, x_shr, x_neg, x_lt, x_le, x_gt', x_ge, x_eqI, x_neI, x_eqS, x_neS, x_eqB, x_neB, x_is, x_isnot, x_ixT, x_ixL, x_ixF, x_ixS, x_lenL, x_lenT, x_lenF, x_lenS, x_abs, x_min, x_max, x_int, x_intB, x_list, x_tup, x_itL, x_itF, x_itT, x_slT, x_slL, x_slF, x_slS, x_seqL, x_seqT, x_count, x_starts, x_sumL, x_sortedL, x_join, x_zipT_LL, x_zpL_LL, x_zipT_LT, x_zpL_LT, x_zipT_TL, x_zpL_TL, x_zipT_TT, x_zpL_TT, x_isD_nn, x_isD_nb, x_isD_bn, x_isD_bb, x_isD_in, x_isD_ib, x_isD_sn, x_isD_sb, x_isD_ln, x_isD_lb, x_isD_tn, x_isD_tb, x_truN, x_truB, x_truI, x_truL, x_truF, x_truT, x_truS, x_eqIL, x_eqIT, x_eqIR, x_eqBB, x_cut, x_boolB, x_boolI, x_revT, x_revL, x_revF, x_repT, x_map, x_ipAdd, x_ipSub, x_ipXor, x_atN, x_isi_n_int, x_isi_n_bool, x_isi_n_str, x_isi_n_list, x_isi_n_tuple, x_isi_b_int, x_isi_b_bool, x_isi_b_str, x_isi_b_list, x_isi_b_tuple, x_isi_i_int, x_isi_i_bool, x_isi_i_str, x_isi_i_list, x_isi_i_tuple, x_isi_s_int, x_isi_s_bool, x_isi_s_str, x_isi_s_list, x_isi_s_tuple, x_isi_l_int, x_isi_l_bool, x_isi_l_str, x_isi_l_list, x_isi_l_tuple, x_isi_t_int, x_isi_t_bool, x_isi_t_str, x_isi_t_list, x_isi_t_tuple, List.length_cons, List.length_nil, List.getElem?_cons_zero, List.getElem?_cons_succ, List.set_cons_zero, List.set_cons_succ, List.map_cons, List.map_nil, List.cons_append, List.nil_append, Bool.and_self, Bool.and_true, Bool.true_and, Bool.and_false, Bool.false_and, Bool.not_true, Bool.not_false, Bool.false_eq_true, if_true, if_false, ite_true, ite_false, decide_true, decide_false, decide_eq_true_eq, decide_eq_false_iff_not, Bool.not_eq_true, Bool.not_eq_true', Nat.zero_add, Option.map_some, Int.toNat_natCast, reduceIte, reduceCtorEq, Int.reduceToNat, Int.reduceNeg, Int.reduceAdd, Int.reduceSub, Int.reduceMul, Int.reduceLT, Int.reduceLE, Int.reducePow, Nat.reduceLT, Nat.reduceLeDiff, Nat.reduceAdd, Nat.reduceMul, Nat.reduceSub, Int.reduceMod, Int.reduceDiv, Int.reduceEq, Nat.reduceEqDiff, Int.cast_ofNat_Int, wp_ok, wp_bind, wp_stuck, wp_exc, id_eq])
  refine wp_ite (fun c => ?_) fun c => ?_
  · have g : ∀ f : D → Unit → Z (Option D × Unit), (∀ k : Nat, k < n → f (.int k) () = .ok (some (.int (2 ^ k)), ())) → lcZ f (rgD 0 n) [] () = .ok (dis ((List.range n).map fun k => (2 : Int) ^ k), ()) := fun f hf => by
      rw [z_lc1 (g := fun d => match d with | .int k => .int (2 ^ k.toNat) | d => d) (by rw [rgD_len]; omega) fun d hd => by
        obtain ⟨k, hk⟩ := List.getElem?_of_mem hd
        obtain ⟨hk2, rfl⟩ := rgD_get hk
        rw [hf k hk2]
        (try dsimp only)
        rw [Int.toNat_natCast]]
      congr 2
      unfold rgD dis
      rw [List.map_map, List.map_map]
      refine List.map_congr_left fun k _ => ?_
      show D.int (2 ^ (0 + (k : Int)).toNat) = D.int (2 ^ k)
      rw [show (0 + (k : Int)).toNat = k by omega]
    (try simp -implicitDefEqProofs (maxSteps := 1000000) (disch := walk_at "d") only [z_bind, z_bindX, z_bindS, z_assoc, z_opt, z_optN, z_obind, z_unB, z_unBT, z_unI, z_unS, z_unL, z_sbind, z_nbind, z_smT, z_smL, z_td, z_tdL, z_unT, z_unC, z_un0, z_rg1, z_rg2, z_iterL, z_iterT, z_iterF, z_iterS, z_put, z_raise, z_tryOk, z_tryX, z_tryS, z_putG, x_add, x_addL, x_addT, x_addS, x_sub, x_band, x_bor, x_bxor, x_mul, x_fdiv, x_mod, x_pow, x_shl, x_shr, x_neg, x_lt, x_le, x_gt', x_ge, x_eqI, x_neI, x_eqS, x_neS, x_eqB, x_neB, x_is, x_isnot, x_ixT, x_ixL, x_ixF, x_ixS, x_lenL, x_lenT, x_lenF, x_lenS, x_abs, x_min, x_max, x_int, x_intB, x_list, x_tup, x_itL, x_itF, x_itT, x_slT, x_slL, x_slF, x_slS, x_seqL, x_seqT, x_count, x_starts, x_sumL, x_sortedL, x_join, x_zipT_LL, x_zpL_LL, x_zipT_LT, x_zpL_LT, x_zipT_TL, x_zpL_TL, x_zipT_TT, x_zpL_TT, x_isD_nn, x_isD_nb, x_isD_bn, x_isD_bb, x_isD_in, x_isD_ib, x_isD_sn, x_isD_sb, x_isD_ln, x_isD_lb, x_isD_tn, x_isD_tb, x_truN, x_truB, x_truI, x_truL, x_truF, x_truT, x_truS, x_eqIL, x_eqIT, x_eqIR, x_eqBB, x_cut, x_boolB, x_boolI, x_revT, x_revL, x_revF, x_repT, x_map, x_ipAdd, x_ipSub, x_ipXor, x_atN, x_isi_n_int, x_isi_n_bool, x_isi_n_str, x_isi_n_list, x_isi_n_tuple, x_isi_b_int, x_isi_b_bool, x_isi_b_str, x_isi_b_list, x_isi_b_tuple, x_isi_i_int, x_isi_i_bool, x_isi_i_str, x_isi_i_list, x_isi_i_tuple, x_isi_s_int, x_isi_s_bool, x_isi_s_str, x_isi_s_list, x_isi_s_tuple, x_isi_l_int, x_isi_l_bool, x_isi_l_str, x_isi_l_list, x_isi_l_tuple, x_isi_t_int, x_isi_t_bool, x_isi_t_str, x_isi_t_list, x_isi_t_tuple, List.length_cons, List.length_nil, List.getElem?_cons_zero, List.getElem?_cons_succ, List.set_cons_zero, List.set_cons_succ, List.map_cons, List.map_nil, List.cons_append, List.nil_append, Bool.and_self, Bool.and_true, Bool.true_and, Bool.and_false, Bool.false_and, Bool.not_true, Bool.not_false, Bool.false_eq_true, if_true, if_false, ite_true, ite_false, decide_true, decide_false, decide_eq_true_eq, decide_eq_false_iff_not, Bool.not_eq_true, Bool.not_eq_true', Nat.zero_add, Option.map_some, Int.toNat_natCast, reduceIte, reduceCtorEq, Int.reduceToNat, Int.reduceNeg, Int.reduceAdd, Int.reduceSub, Int.reduceMul, Int.reduceLT, Int.reduceLE, Int.reducePow, Nat.reduceLT, Nat.reduceLeDiff, Nat.reduceAdd, Nat.reduceMul, Nat.reduceSub, Int.reduceMod, Int.reduceDiv, Int.reduceEq, Nat.reduceEqDiff, Int.cast_ofNat_Int, wp_ok, wp_bind, wp_stuck, wp_exc, id_eq])
    rw [g _ fun k hk => by (try simp -implicitDefEqProofs (maxSteps := 1000000) (disch := walk_at "d") only [Int.one_mul, z_bind, z_bindX, z_bindS, z_assoc, z_opt, z_optN, z_obind, z_unB, z_unBT, z_unI, z_unS, z_unL, z_sbind, z_nbind, z_smT, z_smL, z_td, z_tdL, z_unT, z_unC, z_un0, z_rg1, z_rg2, z_iterL, z_iterT, z_iterF, z_iterS, z_put, z_raise, z_tryOk, z_tryX, z_tryS, z_putG, x_add, x_addL, x_addT, x_addS, x_sub, x_band, x_bor, x_bxor, x_mul, x_fdiv, x_mod, x_pow, x_shl, x_shr, x_neg, x_lt, x_le, x_gt', x_ge, x_eqI, x_neI, x_eqS, x_neS, x_eqB, x_neB, x_is, x_isnot, x_ixT, x_ixL, x_ixF, x_ixS, x_lenL, x_lenT, x_lenF, x_lenS, x_abs, x_min, x_max, x_int, x_intB, x_list, x_tup, x_itL, x_itF, x_itT, x_slT, x_slL, x_slF, x_slS, x_seqL, x_seqT, x_count, x_starts, x_sumL, x_sortedL, x_join, x_zipT_LL, x_zpL_LL, x_zipT_LT, x_zpL_LT, x_zipT_TL, x_zpL_TL, x_zipT_TT, x_zpL_TT, x_isD_nn, x_isD_nb, x_isD_bn, x_isD_bb, x_isD_in, x_isD_ib, x_isD_sn, x_isD_sb, x_isD_ln, x_isD_lb, x_isD_tn, x_isD_tb, x_truN, x_truB, x_truI, x_truL, x_truF, x_truT, x_truS, x_eqIL, x_eqIT, x_eqIR, x_eqBB, x_cut, x_boolB, x_boolI, x_revT, x_revL, x_revF, x_repT, x_map, x_ipAdd, x_ipSub, x_ipXor, x_atN, x_isi_n_int, x_isi_n_bool, x_isi_n_str, x_isi_n_list, x_isi_n_tuple, x_isi_b_int, x_isi_b_bool, x_isi_b_str, x_isi_b_list, x_isi_b_tuple, x_isi_i_int, x_isi_i_bool, x_isi_i_str, x_isi_i_list, x_isi_i_tuple, x_isi_s_int, x_isi_s_bool, x_isi_s_str, x_isi_s_list, x_isi_s_tuple, x_isi_l_int, x_isi_l_bool, x_isi_l_str, x_isi_l_list, x_isi_l_tuple, x_isi_t_int, x_isi_t_bool, x_isi_t_str, x_isi_t_list, x_isi_t_tuple, List.length_cons, List.length_nil, List.getElem?_cons_zero, List.getElem?_cons_succ, List.set_cons_zero, List.set_cons_succ, List.map_cons, List.map_nil, List.cons_append, List.nil_append, Bool.and_self, Bool.and_true, Bool.true_and, Bool.and_false, Bool.false_and, Bool.not_true, Bool.not_false, Bool.false_eq_true, if_true, if_false, ite_true, ite_false, decide_true, decide_false, decide_eq_true_eq, decide_eq_false_iff_not, Bool.not_eq_true, Bool.not_eq_true', Nat.zero_add, Option.map_some, Int.toNat_natCast, reduceIte, reduceCtorEq, Int.reduceToNat, Int.reduceNeg, Int.reduceAdd, Int.reduceSub, Int.reduceMul, Int.reduceLT, Int.reduceLE, Int.reducePow, Nat.reduceLT, Nat.reduceLeDiff, Nat.reduceAdd, Nat.reduceMul, Nat.reduceSub, Int.reduceMod, Int.reduceDiv, Int.reduceEq, Nat.reduceEqDiff, Int.cast_ofNat_Int, wp_ok, wp_bind, wp_stuck, wp_exc, id_eq])]
    (try simp -implicitDefEqProofs (maxSteps := 1000000) (disch := walk_at "d") only [z_bind, z_bindX, z_bindS, z_assoc, z_opt, z_optN, z_obind, z_unB, z_unBT, z_unI, z_unS, z_unL, z_sbind, z_nbind, z_smT, z_smL, z_td, z_tdL, z_unT, z_unC, z_un0, z_rg1, z_rg2, z_iterL, z_iterT, z_iterF, z_iterS, z_put, z_raise, z_tryOk, z_tryX, z_tryS, z_putG, x_add, x_addL, x_addT, x_addS, x_sub, x_band, x_bor, x_bxor, x_mul, x_fdiv, x_mod, x_pow, x_shl, x_shr, x_neg, x_lt, x_le, x_gt', x_ge, x_eqI, x_neI, x_eqS, x_neS, x_eqB, x_neB, x_is, x_isnot, x_ixT, x_ixL, x_ixF, x_ixS, x_lenL, x_lenT, x_lenF, x_lenS, x_abs, x_min, x_max, x_int, x_intB, x_list, x_tup, x_itL, x_itF, x_itT, x_slT, x_slL, x_slF, x_slS, x_seqL, x_seqT, x_count, x_starts, x_sumL, x_sortedL, x_join, x_zipT_LL, x_zpL_LL, x_zipT_LT, x_zpL_LT, x_zipT_TL, x_zpL_TL, x_zipT_TT, x_zpL_TT, x_isD_nn, x_isD_nb, x_isD_bn, x_isD_bb, x_isD_in, x_isD_ib, x_isD_sn, x_isD_sb, x_isD_ln, x_isD_lb, x_isD_tn, x_isD_tb, x_truN, x_truB, x_truI, x_truL, x_truF, x_truT, x_truS, x_eqIL, x_eqIT, x_eqIR, x_eqBB, x_cut, x_boolB, x_boolI, x_revT, x_revL, x_revF, x_repT, x_map, x_ipAdd, x_ipSub, x_ipXor, x_atN, x_isi_n_int, x_isi_n_bool, x_isi_n_str, x_isi_n_list, x_isi_n_tuple, x_isi_b_int, x_isi_b_bool, x_isi_b_str, x_isi_b_list, x_isi_b_tuple, x_isi_i_int, x_isi_i_bool, x_isi_i_str, x_isi_i_list, x_isi_i_tuple, x_isi_s_int, x_isi_s_bool, x_isi_s_str, x_isi_s_list, x_isi_s_tuple, x_isi_l_int, x_isi_l_bool, x_isi_l_str, x_isi_l_list, x_isi_l_tuple, x_isi_t_int, x_isi_t_bool, x_isi_t_str, x_isi_t_list, x_isi_t_tuple, List.length_cons, List.length_nil, List.getElem?_cons_zero, List.getElem?_cons_succ, List.set_cons_zero, List.set_cons_succ, List.map_cons, List.map_nil, List.cons_append, List.nil_append, Bool.and_self, Bool.and_true, Bool.true_and, Bool.and_false, Bool.false_and, Bool.not_true, Bool.not_false, Bool.false_eq_true, if_true, if_false, ite_true, ite_false, decide_true, decide_false, decide_eq_true_eq, decide_eq_false_iff_not, Bool.not_eq_true, Bool.not_eq_true', Nat.zero_add, Option.map_some, Int.toNat_natCast, reduceIte, reduceCtorEq, Int.reduceToNat, Int.reduceNeg, Int.reduceAdd, Int.reduceSub, Int.reduceMul, Int.reduceLT, Int.reduceLE, Int.reducePow, Nat.reduceLT, Nat.reduceLeDiff, Nat.reduceAdd, Nat.reduceMul, Nat.reduceSub, Int.reduceMod, Int.reduceDiv, Int.reduceEq, Nat.reduceEqDiff, Int.cast_ofNat_Int, wp_ok, wp_bind, wp_stuck, wp_exc, id_eq])
    refine Z.wp.mono (s_dealt hd (by simp; omega)) ?_
    rintro ⟨_, d⟩ ⟨hd, ks, rfl, kp⟩
    have kl := kp.length_eq
    rw [List.length_map, List.length_range] at kl
    (try simp -implicitDefEqProofs (maxSteps := 1000000) (disch := walk_at "d") only [z_bind, z_bindX, z_bindS, z_assoc, z_opt, z_optN, z_obind, z_unB, z_unBT, z_unI, z_unS, z_unL, z_sbind, z_nbind, z_smT, z_smL, z_td, z_tdL, z_unT, z_unC, z_un0, z_rg1, z_rg2, z_iterL, z_iterT, z_iterF, z_iterS, z_put, z_raise, z_tryOk, z_tryX, z_tryS, z_putG, x_add, x_addL, x_addT, x_addS, x_sub, x_band, x_bor, x_bxor, x_mul, x_fdiv, x_mod, x_pow, x_shl, x_shr, x_neg, x_lt, x_le, x_gt', x_ge, x_eqI, x_neI, x_eqS, x_neS, x_eqB, x_neB, x_is, x_isnot, x_ixT, x_ixL, x_ixF, x_ixS, x_lenL, x_lenT, x_lenF, x_lenS, x_abs, x_min, x_max, x_int, x_intB, x_list, x_tup, x_itL, x_itF, x_itT, x_slT, x_slL, x_slF, x_slS, x_seqL, x_seqT, x_count, x_starts, x_sumL, x_sortedL, x_join, x_zipT_LL, x_zpL_LL, x_zipT_LT, x_zpL_LT, x_zipT_TL, x_zpL_TL, x_zipT_TT, x_zpL_TT, x_isD_nn, x_isD_nb, x_isD_bn, x_isD_bb, x_isD_in, x_isD_ib, x_isD_sn, x_isD_sb, x_isD_ln, x_isD_lb, x_isD_tn, x_isD_tb, x_truN, x_truB, x_truI, x_truL, x_truF, x_truT, x_truS, x_eqIL, x_eqIT, x_eqIR, x_eqBB, x_cut, x_boolB, x_boolI, x_revT, x_revL, x_revF, x_repT, x_map, x_ipAdd, x_ipSub, x_ipXor, x_atN, x_isi_n_int, x_isi_n_bool, x_isi_n_str, x_isi_n_list, x_isi_n_tuple, x_isi_b_int, x_isi_b_bool, x_isi_b_str, x_isi_b_list, x_isi_b_tuple, x_isi_i_int, x_isi_i_bool, x_isi_i_str, x_isi_i_list, x_isi_i_tuple, x_isi_s_int, x_isi_s_bool, x_isi_s_str, x_isi_s_list, x_isi_s_tuple, x_isi_l_int, x_isi_l_bool, x_isi_l_str, x_isi_l_list, x_isi_l_tuple, x_isi_t_int, x_isi_t_bool, x_isi_t_str, x_isi_t_list, x_isi_t_tuple, List.length_cons, List.length_nil, List.getElem?_cons_zero, List.getElem?_cons_succ, List.set_cons_zero, List.set_cons_succ, List.map_cons, List.map_nil, List.cons_append, List.nil_append, Bool.and_self, Bool.and_true, Bool.true_and, Bool.and_false, Bool.false_and, Bool.not_true, Bool.not_false, Bool.false_eq_true, if_true, if_false, ite_true, ite_false, decide_true, decide_false, decide_eq_true_eq, decide_eq_false_iff_not, Bool.not_eq_true, Bool.not_eq_true', Nat.zero_add, Option.map_some, Int.toNat_natCast, reduceIte, reduceCtorEq, Int.reduceToNat, Int.reduceNeg, Int.reduceAdd, Int.reduceSub, Int.reduceMul, Int.reduceLT, Int.reduceLE, Int.reducePow, Nat.reduceLT, Nat.reduceLeDiff, Nat.reduceAdd, Nat.reduceMul, Nat.reduceSub, Int.reduceMod, Int.reduceDiv, Int.reduceEq, Nat.reduceEqDiff, Int.cast_ofNat_Int, wp_ok, wp_bind, wp_stuck, wp_exc, id_eq])
    refine ⟨hd, ks, rfl, fun z => by rw [z] at kl; simp at kl; omega, by omega, fun x hx => ?_⟩
    obtain ⟨k, hk, rfl⟩ := List.mem_map.mp (kp.mem_iff.mp hx)
    have hk := List.mem_range.mp hk
    have p1 : (0 : Int) < 2 ^ k := Int.pow_pos (by decide)
    have p2 : (2 : Nat) ^ k ≤ 2 ^ 16 := Nat.pow_le_pow_right (by decide) (by omega)
    have p3 : (2 : Int) ^ k ≤ 2 ^ 16 := by exact_mod_cast p2
    have e16 : (2 : Int) ^ 16 = 65536 := by decide
    omega
  · (try simp -implicitDefEqProofs (maxSteps := 1000000) (disch := walk_at "d") only [z_bind, z_bindX, z_bindS, z_assoc, z_opt, z_optN, z_obind, z_unB, z_unBT, z_unI, z_unS, z_unL, z_sbind, z_nbind, z_smT, z_smL, z_td, z_tdL, z_unT, z_unC, z_un0, z_rg1, z_rg2, z_iterL, z_iterT, z_iterF, z_iterS, z_put, z_raise, z_tryOk, z_tryX, z_tryS, z_putG, x_add, x_addL, x_addT, x_addS, x_sub, x_band, x_bor, x_bxor, x_mul, x_fdiv, x_mod, x_pow, x_shl, x_shr, x_neg, x_lt, x_le, x_gt', x_ge, x_eqI, x_neI, x_eqS, x_neS, x_eqB, x_neB, x_is, x_isnot, x_ixT, x_ixL, x_ixF, x_ixS, x_lenL, x_lenT, x_lenF, x_lenS, x_abs, x_min, x_max, x_int, x_intB, x_list, x_tup, x_itL, x_itF, x_itT, x_slT, x_slL, x_slF, x_slS, x_seqL, x_seqT, x_count, x_starts, x_sumL, x_sortedL, x_join, x_zipT_LL, x_zpL_LL, x_zipT_LT, x_zpL_LT, x_zipT_TL, x_zpL_TL, x_zipT_TT, x_zpL_TT, x_isD_nn, x_isD_nb, x_isD_bn, x_isD_bb, x_isD_in, x_isD_ib, x_isD_sn, x_isD_sb, x_isD_ln, x_isD_lb, x_isD_tn, x_isD_tb, x_truN, x_truB, x_truI, x_truL, x_truF, x_truT, x_truS, x_eqIL, x_eqIT, x_eqIR, x_eqBB, x_cut, x_boolB, x_boolI, x_revT, x_revL, x_revF, x_repT, x_map, x_ipAdd, x_ipSub, x_ipXor, x_atN, x_isi_n_int, x_isi_n_bool, x_isi_n_str, x_isi_n_list, x_isi_n_tuple, x_isi_b_int, x_isi_b_bool, x_isi_b_str, x_isi_b_list, x_isi_b_tuple, x_isi_i_int, x_isi_i_bool, x_isi_i_str, x_isi_i_list, x_isi_i_tuple, x_isi_s_int, x_isi_s_bool, x_isi_s_str, x_isi_s_list, x_isi_s_tuple, x_isi_l_int, x_isi_l_bool, x_isi_l_str, x_isi_l_list, x_isi_l_tuple, x_isi_t_int, x_isi_t_bool, x_isi_t_str, x_isi_t_list, x_isi_t_tuple, List.length_cons, List.length_nil, List.getElem?_cons_zero, List.getElem?_cons_succ, List.set_cons_zero, List.set_cons_succ, List.map_cons, List.map_nil, List.cons_append, List.nil_append, Bool.and_self, Bool.and_true, Bool.true_and, Bool.and_false, Bool.false_and, Bool.not_true, Bool.not_false, Bool.false_eq_true, if_true, if_false, ite_true, ite_false, decide_true, decide_false, decide_eq_true_eq, decide_eq_false_iff_not, Bool.not_eq_true, Bool.not_eq_true', Nat.zero_add, Option.map_some, Int.toNat_natCast, reduceIte, reduceCtorEq, Int.reduceToNat, Int.reduceNeg, Int.reduceAdd, Int.reduceSub, Int.reduceMul, Int.reduceLT, Int.reduceLE, Int.reducePow, Nat.reduceLT, Nat.reduceLeDiff, Nat.reduceAdd, Nat.reduceMul, Nat.reduceSub, Int.reduceMod, Int.reduceDiv, Int.reduceEq, Nat.reduceEqDiff, Int.cast_ofNat_Int, wp_ok, wp_bind, wp_stuck, wp_exc, id_eq])
    refine Z.wp.mono (s_pick hd (by decide) (by decide)) ?_
    rintro ⟨v, e⟩ ⟨he, hv⟩
    obtain ⟨u, rfl, u0, u1⟩ : ∃ u : Int, v = .int u ∧ 1 ≤ u ∧ u ≤ 1000000000001 := by
      dsimp only at hv
      simp only [List.mem_cons, List.not_mem_nil, or_false] at hv
      rcases hv with h | h | h | h | h <;> exact ⟨_, h, by decide, by decide⟩
    dsimp only at he ⊢
    (try simp -implicitDefEqProofs (maxSteps := 1000000) (disch := walk_at "d") only [z_bind, z_bindX, z_bindS, z_assoc, z_opt, z_optN, z_obind, z_unB, z_unBT, z_unI, z_unS, z_unL, z_sbind, z_nbind, z_smT, z_smL, z_td, z_tdL, z_unT, z_unC, z_un0, z_rg1, z_rg2, z_iterL, z_iterT, z_iterF, z_iterS, z_put, z_raise, z_tryOk, z_tryX, z_tryS, z_putG, x_add, x_addL, x_addT, x_addS, x_sub, x_band, x_bor, x_bxor, x_mul, x_fdiv, x_mod, x_pow, x_shl, x_shr, x_neg, x_lt, x_le, x_gt', x_ge, x_eqI, x_neI, x_eqS, x_neS, x_eqB, x_neB, x_is, x_isnot, x_ixT, x_ixL, x_ixF, x_ixS, x_lenL, x_lenT, x_lenF, x_lenS, x_abs, x_min, x_max, x_int, x_intB, x_list, x_tup, x_itL, x_itF, x_itT, x_slT, x_slL, x_slF, x_slS, x_seqL, x_seqT, x_count, x_starts, x_sumL, x_sortedL, x_join, x_zipT_LL, x_zpL_LL, x_zipT_LT, x_zpL_LT, x_zipT_TL, x_zpL_TL, x_zipT_TT, x_zpL_TT, x_isD_nn, x_isD_nb, x_isD_bn, x_isD_bb, x_isD_in, x_isD_ib, x_isD_sn, x_isD_sb, x_isD_ln, x_isD_lb, x_isD_tn, x_isD_tb, x_truN, x_truB, x_truI, x_truL, x_truF, x_truT, x_truS, x_eqIL, x_eqIT, x_eqIR, x_eqBB, x_cut, x_boolB, x_boolI, x_revT, x_revL, x_revF, x_repT, x_map, x_ipAdd, x_ipSub, x_ipXor, x_atN, x_isi_n_int, x_isi_n_bool, x_isi_n_str, x_isi_n_list, x_isi_n_tuple, x_isi_b_int, x_isi_b_bool, x_isi_b_str, x_isi_b_list, x_isi_b_tuple, x_isi_i_int, x_isi_i_bool, x_isi_i_str, x_isi_i_list, x_isi_i_tuple, x_isi_s_int, x_isi_s_bool, x_isi_s_str, x_isi_s_list, x_isi_s_tuple, x_isi_l_int, x_isi_l_bool, x_isi_l_str, x_isi_l_list, x_isi_l_tuple, x_isi_t_int, x_isi_t_bool, x_isi_t_str, x_isi_t_list, x_isi_t_tuple, List.length_cons, List.length_nil, List.getElem?_cons_zero, List.getElem?_cons_succ, List.set_cons_zero, List.set_cons_succ, List.map_cons, List.map_nil, List.cons_append, List.nil_append, Bool.and_self, Bool.and_true, Bool.true_and, Bool.and_false, Bool.false_and, Bool.not_true, Bool.not_false, Bool.false_eq_true, if_true, if_false, ite_true, ite_false, decide_true, decide_false, decide_eq_true_eq, decide_eq_false_iff_not, Bool.not_eq_true, Bool.not_eq_true', Nat.zero_add, Option.map_some, Int.toNat_natCast, reduceIte, reduceCtorEq, Int.reduceToNat, Int.reduceNeg, Int.reduceAdd, Int.reduceSub, Int.reduceMul, Int.reduceLT, Int.reduceLE, Int.reducePow, Nat.reduceLT, Nat.reduceLeDiff, Nat.reduceAdd, Nat.reduceMul, Nat.reduceSub, Int.reduceMod, Int.reduceDiv, Int.reduceEq, Nat.reduceEqDiff, Int.cast_ofNat_Int, wp_ok, wp_bind, wp_stuck, wp_exc, id_eq])
    refine wp_for (S := List D × List D) (fun k s => Dw s.1 ∧ ∃ c : List Int, s.2 = dis c ∧ c.length = k ∧ ∀ x ∈ c, 0 ≤ x ∧ x ≤ 1000000000000) _ 0 _ ⟨he, [], rfl, rfl, by simp⟩ ?_ ?_
    · rintro k d ⟨e, _⟩ hk ⟨he, cs, hx, c1, c2⟩
      obtain ⟨hk, rfl⟩ := rgD_get hk
      dsimp only at hx he
      subst hx
      rw [Nat.zero_add] at c1 ⊢
      have dl := dis_len cs
      have lz : (dis cs).length < 16777216 := by omega
      (try simp -implicitDefEqProofs (maxSteps := 1000000) (disch := walk_at "d") only [z_bind, z_bindX, z_bindS, z_assoc, z_opt, z_optN, z_obind, z_unB, z_unBT, z_unI, z_unS, z_unL, z_sbind, z_nbind, z_smT, z_smL, z_td, z_tdL, z_unT, z_unC, z_un0, z_rg1, z_rg2, z_iterL, z_iterT, z_iterF, z_iterS, z_put, z_raise, z_tryOk, z_tryX, z_tryS, z_putG, x_add, x_addL, x_addT, x_addS, x_sub, x_band, x_bor, x_bxor, x_mul, x_fdiv, x_mod, x_pow, x_shl, x_shr, x_neg, x_lt, x_le, x_gt', x_ge, x_eqI, x_neI, x_eqS, x_neS, x_eqB, x_neB, x_is, x_isnot, x_ixT, x_ixL, x_ixF, x_ixS, x_lenL, x_lenT, x_lenF, x_lenS, x_abs, x_min, x_max, x_int, x_intB, x_list, x_tup, x_itL, x_itF, x_itT, x_slT, x_slL, x_slF, x_slS, x_seqL, x_seqT, x_count, x_starts, x_sumL, x_sortedL, x_join, x_zipT_LL, x_zpL_LL, x_zipT_LT, x_zpL_LT, x_zipT_TL, x_zpL_TL, x_zipT_TT, x_zpL_TT, x_isD_nn, x_isD_nb, x_isD_bn, x_isD_bb, x_isD_in, x_isD_ib, x_isD_sn, x_isD_sb, x_isD_ln, x_isD_lb, x_isD_tn, x_isD_tb, x_truN, x_truB, x_truI, x_truL, x_truF, x_truT, x_truS, x_eqIL, x_eqIT, x_eqIR, x_eqBB, x_cut, x_boolB, x_boolI, x_revT, x_revL, x_revF, x_repT, x_map, x_ipAdd, x_ipSub, x_ipXor, x_atN, x_isi_n_int, x_isi_n_bool, x_isi_n_str, x_isi_n_list, x_isi_n_tuple, x_isi_b_int, x_isi_b_bool, x_isi_b_str, x_isi_b_list, x_isi_b_tuple, x_isi_i_int, x_isi_i_bool, x_isi_i_str, x_isi_i_list, x_isi_i_tuple, x_isi_s_int, x_isi_s_bool, x_isi_s_str, x_isi_s_list, x_isi_s_tuple, x_isi_l_int, x_isi_l_bool, x_isi_l_str, x_isi_l_list, x_isi_l_tuple, x_isi_t_int, x_isi_t_bool, x_isi_t_str, x_isi_t_list, x_isi_t_tuple, List.length_cons, List.length_nil, List.getElem?_cons_zero, List.getElem?_cons_succ, List.set_cons_zero, List.set_cons_succ, List.map_cons, List.map_nil, List.cons_append, List.nil_append, Bool.and_self, Bool.and_true, Bool.true_and, Bool.and_false, Bool.false_and, Bool.not_true, Bool.not_false, Bool.false_eq_true, if_true, if_false, ite_true, ite_false, decide_true, decide_false, decide_eq_true_eq, decide_eq_false_iff_not, Bool.not_eq_true, Bool.not_eq_true', Nat.zero_add, Option.map_some, Int.toNat_natCast, reduceIte, reduceCtorEq, Int.reduceToNat, Int.reduceNeg, Int.reduceAdd, Int.reduceSub, Int.reduceMul, Int.reduceLT, Int.reduceLE, Int.reducePow, Nat.reduceLT, Nat.reduceLeDiff, Nat.reduceAdd, Nat.reduceMul, Nat.reduceSub, Int.reduceMod, Int.reduceDiv, Int.reduceEq, Nat.reduceEqDiff, Int.cast_ofNat_Int, wp_ok, wp_bind, wp_stuck, wp_exc, id_eq])
      refine Z.wp.mono (Q' := fun b => Dw b.2 ∧ (b.1 = true → 0 < k)) (wp_ite (fun c => ?_) fun c => ⟨he, fun h => by cases h⟩) ?_
      · refine wp_bind _ _ |>.mpr ?_
        refine Z.wp.mono (s_draw he (by decide) (by decide)) ?_
        rintro ⟨_, e⟩ ⟨he, v, rfl, v0, v1⟩
        dsimp only at he ⊢
        (try simp -implicitDefEqProofs (maxSteps := 1000000) (disch := walk_at "d") only [z_bind, z_bindX, z_bindS, z_assoc, z_opt, z_optN, z_obind, z_unB, z_unBT, z_unI, z_unS, z_unL, z_sbind, z_nbind, z_smT, z_smL, z_td, z_tdL, z_unT, z_unC, z_un0, z_rg1, z_rg2, z_iterL, z_iterT, z_iterF, z_iterS, z_put, z_raise, z_tryOk, z_tryX, z_tryS, z_putG, x_add, x_addL, x_addT, x_addS, x_sub, x_band, x_bor, x_bxor, x_mul, x_fdiv, x_mod, x_pow, x_shl, x_shr, x_neg, x_lt, x_le, x_gt', x_ge, x_eqI, x_neI, x_eqS, x_neS, x_eqB, x_neB, x_is, x_isnot, x_ixT, x_ixL, x_ixF, x_ixS, x_lenL, x_lenT, x_lenF, x_lenS, x_abs, x_min, x_max, x_int, x_intB, x_list, x_tup, x_itL, x_itF, x_itT, x_slT, x_slL, x_slF, x_slS, x_seqL, x_seqT, x_count, x_starts, x_sumL, x_sortedL, x_join, x_zipT_LL, x_zpL_LL, x_zipT_LT, x_zpL_LT, x_zipT_TL, x_zpL_TL, x_zipT_TT, x_zpL_TT, x_isD_nn, x_isD_nb, x_isD_bn, x_isD_bb, x_isD_in, x_isD_ib, x_isD_sn, x_isD_sb, x_isD_ln, x_isD_lb, x_isD_tn, x_isD_tb, x_truN, x_truB, x_truI, x_truL, x_truF, x_truT, x_truS, x_eqIL, x_eqIT, x_eqIR, x_eqBB, x_cut, x_boolB, x_boolI, x_revT, x_revL, x_revF, x_repT, x_map, x_ipAdd, x_ipSub, x_ipXor, x_atN, x_isi_n_int, x_isi_n_bool, x_isi_n_str, x_isi_n_list, x_isi_n_tuple, x_isi_b_int, x_isi_b_bool, x_isi_b_str, x_isi_b_list, x_isi_b_tuple, x_isi_i_int, x_isi_i_bool, x_isi_i_str, x_isi_i_list, x_isi_i_tuple, x_isi_s_int, x_isi_s_bool, x_isi_s_str, x_isi_s_list, x_isi_s_tuple, x_isi_l_int, x_isi_l_bool, x_isi_l_str, x_isi_l_list, x_isi_l_tuple, x_isi_t_int, x_isi_t_bool, x_isi_t_str, x_isi_t_list, x_isi_t_tuple, List.length_cons, List.length_nil, List.getElem?_cons_zero, List.getElem?_cons_succ, List.set_cons_zero, List.set_cons_succ, List.map_cons, List.map_nil, List.cons_append, List.nil_append, Bool.and_self, Bool.and_true, Bool.true_and, Bool.and_false, Bool.false_and, Bool.not_true, Bool.not_false, Bool.false_eq_true, if_true, if_false, ite_true, ite_false, decide_true, decide_false, decide_eq_true_eq, decide_eq_false_iff_not, Bool.not_eq_true, Bool.not_eq_true', Nat.zero_add, Option.map_some, Int.toNat_natCast, reduceIte, reduceCtorEq, Int.reduceToNat, Int.reduceNeg, Int.reduceAdd, Int.reduceSub, Int.reduceMul, Int.reduceLT, Int.reduceLE, Int.reducePow, Nat.reduceLT, Nat.reduceLeDiff, Nat.reduceAdd, Nat.reduceMul, Nat.reduceSub, Int.reduceMod, Int.reduceDiv, Int.reduceEq, Nat.reduceEqDiff, Int.cast_ofNat_Int, wp_ok, wp_bind, wp_stuck, wp_exc, id_eq])
        exact ⟨he, fun _ => by omega⟩
      rintro ⟨b, e⟩ ⟨he, hb⟩
      dsimp only at he hb ⊢
      cases b with
      | true =>
        have hb := hb rfl
        obtain ⟨x, hx⟩ : ∃ x, cs.getLast? = some x := by
          cases h : cs.getLast? with
          | none => rw [List.getLast?_eq_none_iff] at h; rw [h] at c1; simp at c1; omega
          | some x => exact ⟨x, rfl⟩
        have la : L2.atI (dis cs) (-1) = some (.int x) := at_last (by unfold dis; rw [List.getLast?_map, hx]; rfl)
        (try simp -implicitDefEqProofs (maxSteps := 1000000) (disch := walk_at "d") only [la, lz, z_bind, z_bindX, z_bindS, z_assoc, z_opt, z_optN, z_obind, z_unB, z_unBT, z_unI, z_unS, z_unL, z_sbind, z_nbind, z_smT, z_smL, z_td, z_tdL, z_unT, z_unC, z_un0, z_rg1, z_rg2, z_iterL, z_iterT, z_iterF, z_iterS, z_put, z_raise, z_tryOk, z_tryX, z_tryS, z_putG, x_add, x_addL, x_addT, x_addS, x_sub, x_band, x_bor, x_bxor, x_mul, x_fdiv, x_mod, x_pow, x_shl, x_shr, x_neg, x_lt, x_le, x_gt', x_ge, x_eqI, x_neI, x_eqS, x_neS, x_eqB, x_neB, x_is, x_isnot, x_ixT, x_ixL, x_ixF, x_ixS, x_lenL, x_lenT, x_lenF, x_lenS, x_abs, x_min, x_max, x_int, x_intB, x_list, x_tup, x_itL, x_itF, x_itT, x_slT, x_slL, x_slF, x_slS, x_seqL, x_seqT, x_count, x_starts, x_sumL, x_sortedL, x_join, x_zipT_LL, x_zpL_LL, x_zipT_LT, x_zpL_LT, x_zipT_TL, x_zpL_TL, x_zipT_TT, x_zpL_TT, x_isD_nn, x_isD_nb, x_isD_bn, x_isD_bb, x_isD_in, x_isD_ib, x_isD_sn, x_isD_sb, x_isD_ln, x_isD_lb, x_isD_tn, x_isD_tb, x_truN, x_truB, x_truI, x_truL, x_truF, x_truT, x_truS, x_eqIL, x_eqIT, x_eqIR, x_eqBB, x_cut, x_boolB, x_boolI, x_revT, x_revL, x_revF, x_repT, x_map, x_ipAdd, x_ipSub, x_ipXor, x_atN, x_isi_n_int, x_isi_n_bool, x_isi_n_str, x_isi_n_list, x_isi_n_tuple, x_isi_b_int, x_isi_b_bool, x_isi_b_str, x_isi_b_list, x_isi_b_tuple, x_isi_i_int, x_isi_i_bool, x_isi_i_str, x_isi_i_list, x_isi_i_tuple, x_isi_s_int, x_isi_s_bool, x_isi_s_str, x_isi_s_list, x_isi_s_tuple, x_isi_l_int, x_isi_l_bool, x_isi_l_str, x_isi_l_list, x_isi_l_tuple, x_isi_t_int, x_isi_t_bool, x_isi_t_str, x_isi_t_list, x_isi_t_tuple, List.length_cons, List.length_nil, List.getElem?_cons_zero, List.getElem?_cons_succ, List.set_cons_zero, List.set_cons_succ, List.map_cons, List.map_nil, List.cons_append, List.nil_append, Bool.and_self, Bool.and_true, Bool.true_and, Bool.and_false, Bool.false_and, Bool.not_true, Bool.not_false, Bool.false_eq_true, if_true, if_false, ite_true, ite_false, decide_true, decide_false, decide_eq_true_eq, decide_eq_false_iff_not, Bool.not_eq_true, Bool.not_eq_true', Nat.zero_add, Option.map_some, Int.toNat_natCast, reduceIte, reduceCtorEq, Int.reduceToNat, Int.reduceNeg, Int.reduceAdd, Int.reduceSub, Int.reduceMul, Int.reduceLT, Int.reduceLE, Int.reducePow, Nat.reduceLT, Nat.reduceLeDiff, Nat.reduceAdd, Nat.reduceMul, Nat.reduceSub, Int.reduceMod, Int.reduceDiv, Int.reduceEq, Nat.reduceEqDiff, Int.cast_ofNat_Int, wp_ok, wp_bind, wp_stuck, wp_exc, id_eq])
        refine ⟨he, cs ++ [x], by unfold dis; rw [List.map_append]; rfl, by rw [List.length_append, c1]; rfl, fun y hy => ?_⟩
        rcases List.mem_append.mp hy with h | h
        · exact c2 y h
        · rw [List.mem_singleton.mp h]; exact c2 x (List.mem_of_getLast? hx)
      | false =>
        (try simp -implicitDefEqProofs (maxSteps := 1000000) (disch := walk_at "d") only [z_bind, z_bindX, z_bindS, z_assoc, z_opt, z_optN, z_obind, z_unB, z_unBT, z_unI, z_unS, z_unL, z_sbind, z_nbind, z_smT, z_smL, z_td, z_tdL, z_unT, z_unC, z_un0, z_rg1, z_rg2, z_iterL, z_iterT, z_iterF, z_iterS, z_put, z_raise, z_tryOk, z_tryX, z_tryS, z_putG, x_add, x_addL, x_addT, x_addS, x_sub, x_band, x_bor, x_bxor, x_mul, x_fdiv, x_mod, x_pow, x_shl, x_shr, x_neg, x_lt, x_le, x_gt', x_ge, x_eqI, x_neI, x_eqS, x_neS, x_eqB, x_neB, x_is, x_isnot, x_ixT, x_ixL, x_ixF, x_ixS, x_lenL, x_lenT, x_lenF, x_lenS, x_abs, x_min, x_max, x_int, x_intB, x_list, x_tup, x_itL, x_itF, x_itT, x_slT, x_slL, x_slF, x_slS, x_seqL, x_seqT, x_count, x_starts, x_sumL, x_sortedL, x_join, x_zipT_LL, x_zpL_LL, x_zipT_LT, x_zpL_LT, x_zipT_TL, x_zpL_TL, x_zipT_TT, x_zpL_TT, x_isD_nn, x_isD_nb, x_isD_bn, x_isD_bb, x_isD_in, x_isD_ib, x_isD_sn, x_isD_sb, x_isD_ln, x_isD_lb, x_isD_tn, x_isD_tb, x_truN, x_truB, x_truI, x_truL, x_truF, x_truT, x_truS, x_eqIL, x_eqIT, x_eqIR, x_eqBB, x_cut, x_boolB, x_boolI, x_revT, x_revL, x_revF, x_repT, x_map, x_ipAdd, x_ipSub, x_ipXor, x_atN, x_isi_n_int, x_isi_n_bool, x_isi_n_str, x_isi_n_list, x_isi_n_tuple, x_isi_b_int, x_isi_b_bool, x_isi_b_str, x_isi_b_list, x_isi_b_tuple, x_isi_i_int, x_isi_i_bool, x_isi_i_str, x_isi_i_list, x_isi_i_tuple, x_isi_s_int, x_isi_s_bool, x_isi_s_str, x_isi_s_list, x_isi_s_tuple, x_isi_l_int, x_isi_l_bool, x_isi_l_str, x_isi_l_list, x_isi_l_tuple, x_isi_t_int, x_isi_t_bool, x_isi_t_str, x_isi_t_list, x_isi_t_tuple, List.length_cons, List.length_nil, List.getElem?_cons_zero, List.getElem?_cons_succ, List.set_cons_zero, List.set_cons_succ, List.map_cons, List.map_nil, List.cons_append, List.nil_append, Bool.and_self, Bool.and_true, Bool.true_and, Bool.and_false, Bool.false_and, Bool.not_true, Bool.not_false, Bool.false_eq_true, if_true, if_false, ite_true, ite_false, decide_true, decide_false, decide_eq_true_eq, decide_eq_false_iff_not, Bool.not_eq_true, Bool.not_eq_true', Nat.zero_add, Option.map_some, Int.toNat_natCast, reduceIte, reduceCtorEq, Int.reduceToNat, Int.reduceNeg, Int.reduceAdd, Int.reduceSub, Int.reduceMul, Int.reduceLT, Int.reduceLE, Int.reducePow, Nat.reduceLT, Nat.reduceLeDiff, Nat.reduceAdd, Nat.reduceMul, Nat.reduceSub, Int.reduceMod, Int.reduceDiv, Int.reduceEq, Nat.reduceEqDiff, Int.cast_ofNat_Int, wp_ok, wp_bind, wp_stuck, wp_exc, id_eq])
        refine Z.wp.mono (s_draw he (by omega) (by omega)) ?_
        rintro ⟨_, e⟩ ⟨he, v, rfl, v0, v1⟩
        dsimp only at he ⊢
        (try simp -implicitDefEqProofs (maxSteps := 1000000) (disch := walk_at "d") only [lz, z_bind, z_bindX, z_bindS, z_assoc, z_opt, z_optN, z_obind, z_unB, z_unBT, z_unI, z_unS, z_unL, z_sbind, z_nbind, z_smT, z_smL, z_td, z_tdL, z_unT, z_unC, z_un0, z_rg1, z_rg2, z_iterL, z_iterT, z_iterF, z_iterS, z_put, z_raise, z_tryOk, z_tryX, z_tryS, z_putG, x_add, x_addL, x_addT, x_addS, x_sub, x_band, x_bor, x_bxor, x_mul, x_fdiv, x_mod, x_pow, x_shl, x_shr, x_neg, x_lt, x_le, x_gt', x_ge, x_eqI, x_neI, x_eqS, x_neS, x_eqB, x_neB, x_is, x_isnot, x_ixT, x_ixL, x_ixF, x_ixS, x_lenL, x_lenT, x_lenF, x_lenS, x_abs, x_min, x_max, x_int, x_intB, x_list, x_tup, x_itL, x_itF, x_itT, x_slT, x_slL, x_slF, x_slS, x_seqL, x_seqT, x_count, x_starts, x_sumL, x_sortedL, x_join, x_zipT_LL, x_zpL_LL, x_zipT_LT, x_zpL_LT, x_zipT_TL, x_zpL_TL, x_zipT_TT, x_zpL_TT, x_isD_nn, x_isD_nb, x_isD_bn, x_isD_bb, x_isD_in, x_isD_ib, x_isD_sn, x_isD_sb, x_isD_ln, x_isD_lb, x_isD_tn, x_isD_tb, x_truN, x_truB, x_truI, x_truL, x_truF, x_truT, x_truS, x_eqIL, x_eqIT, x_eqIR, x_eqBB, x_cut, x_boolB, x_boolI, x_revT, x_revL, x_revF, x_repT, x_map, x_ipAdd, x_ipSub, x_ipXor, x_atN, x_isi_n_int, x_isi_n_bool, x_isi_n_str, x_isi_n_list, x_isi_n_tuple, x_isi_b_int, x_isi_b_bool, x_isi_b_str, x_isi_b_list, x_isi_b_tuple, x_isi_i_int, x_isi_i_bool, x_isi_i_str, x_isi_i_list, x_isi_i_tuple, x_isi_s_int, x_isi_s_bool, x_isi_s_str, x_isi_s_list, x_isi_s_tuple, x_isi_l_int, x_isi_l_bool, x_isi_l_str, x_isi_l_list, x_isi_l_tuple, x_isi_t_int, x_isi_t_bool, x_isi_t_str, x_isi_t_list, x_isi_t_tuple, List.length_cons, List.length_nil, List.getElem?_cons_zero, List.getElem?_cons_succ, List.set_cons_zero, List.set_cons_succ, List.map_cons, List.map_nil, List.cons_append, List.nil_append, Bool.and_self, Bool.and_true, Bool.true_and, Bool.and_false, Bool.false_and, Bool.not_true, Bool.not_false, Bool.false_eq_true, if_true, if_false, ite_true, ite_false, decide_true, decide_false, decide_eq_true_eq, decide_eq_false_iff_not, Bool.not_eq_true, Bool.not_eq_true', Nat.zero_add, Option.map_some, Int.toNat_natCast, reduceIte, reduceCtorEq, Int.reduceToNat, Int.reduceNeg, Int.reduceAdd, Int.reduceSub, Int.reduceMul, Int.reduceLT, Int.reduceLE, Int.reducePow, Nat.reduceLT, Nat.reduceLeDiff, Nat.reduceAdd, Nat.reduceMul, Nat.reduceSub, Int.reduceMod, Int.reduceDiv, Int.reduceEq, Nat.reduceEqDiff, Int.cast_ofNat_Int, wp_ok, wp_bind, wp_stuck, wp_exc, id_eq])
        refine ⟨he, cs ++ [v], by unfold dis; rw [List.map_append]; rfl, by rw [List.length_append, c1]; rfl, fun y hy => ?_⟩
        rcases List.mem_append.mp hy with h | h
        · exact c2 y h
        · rw [List.mem_singleton.mp h]; omega
    · rintro ⟨e, _⟩ ⟨he, cs, hx, c1, c2⟩
      dsimp only at hx he
      subst hx
      rw [rgD_len] at c1
      (try simp -implicitDefEqProofs (maxSteps := 1000000) (disch := walk_at "d") only [z_bind, z_bindX, z_bindS, z_assoc, z_opt, z_optN, z_obind, z_unB, z_unBT, z_unI, z_unS, z_unL, z_sbind, z_nbind, z_smT, z_smL, z_td, z_tdL, z_unT, z_unC, z_un0, z_rg1, z_rg2, z_iterL, z_iterT, z_iterF, z_iterS, z_put, z_raise, z_tryOk, z_tryX, z_tryS, z_putG, x_add, x_addL, x_addT, x_addS, x_sub, x_band, x_bor, x_bxor, x_mul, x_fdiv, x_mod, x_pow, x_shl, x_shr, x_neg, x_lt, x_le, x_gt', x_ge, x_eqI, x_neI, x_eqS, x_neS, x_eqB, x_neB, x_is, x_isnot, x_ixT, x_ixL, x_ixF, x_ixS, x_lenL, x_lenT, x_lenF, x_lenS, x_abs, x_min, x_max, x_int, x_intB, x_list, x_tup, x_itL, x_itF, x_itT, x_slT, x_slL, x_slF, x_slS, x_seqL, x_seqT, x_count, x_starts, x_sumL, x_sortedL, x_join, x_zipT_LL, x_zpL_LL, x_zipT_LT, x_zpL_LT, x_zipT_TL, x_zpL_TL, x_zipT_TT, x_zpL_TT, x_isD_nn, x_isD_nb, x_isD_bn, x_isD_bb, x_isD_in, x_isD_ib, x_isD_sn, x_isD_sb, x_isD_ln, x_isD_lb, x_isD_tn, x_isD_tb, x_truN, x_truB, x_truI, x_truL, x_truF, x_truT, x_truS, x_eqIL, x_eqIT, x_eqIR, x_eqBB, x_cut, x_boolB, x_boolI, x_revT, x_revL, x_revF, x_repT, x_map, x_ipAdd, x_ipSub, x_ipXor, x_atN, x_isi_n_int, x_isi_n_bool, x_isi_n_str, x_isi_n_list, x_isi_n_tuple, x_isi_b_int, x_isi_b_bool, x_isi_b_str, x_isi_b_list, x_isi_b_tuple, x_isi_i_int, x_isi_i_bool, x_isi_i_str, x_isi_i_list, x_isi_i_tuple, x_isi_s_int, x_isi_s_bool, x_isi_s_str, x_isi_s_list, x_isi_s_tuple, x_isi_l_int, x_isi_l_bool, x_isi_l_str, x_isi_l_list, x_isi_l_tuple, x_isi_t_int, x_isi_t_bool, x_isi_t_str, x_isi_t_list, x_isi_t_tuple, List.length_cons, List.length_nil, List.getElem?_cons_zero, List.getElem?_cons_succ, List.set_cons_zero, List.set_cons_succ, List.map_cons, List.map_nil, List.cons_append, List.nil_append, Bool.and_self, Bool.and_true, Bool.true_and, Bool.and_false, Bool.false_and, Bool.not_true, Bool.not_false, Bool.false_eq_true, if_true, if_false, ite_true, ite_false, decide_true, decide_false, decide_eq_true_eq, decide_eq_false_iff_not, Bool.not_eq_true, Bool.not_eq_true', Nat.zero_add, Option.map_some, Int.toNat_natCast, reduceIte, reduceCtorEq, Int.reduceToNat, Int.reduceNeg, Int.reduceAdd, Int.reduceSub, Int.reduceMul, Int.reduceLT, Int.reduceLE, Int.reducePow, Nat.reduceLT, Nat.reduceLeDiff, Nat.reduceAdd, Nat.reduceMul, Nat.reduceSub, Int.reduceMod, Int.reduceDiv, Int.reduceEq, Nat.reduceEqDiff, Int.cast_ofNat_Int, wp_ok, wp_bind, wp_stuck, wp_exc, id_eq])
      exact ⟨he, cs, rfl, fun z => by rw [z] at c1; simp at c1; omega, by omega, c2⟩
theorem w_law {ns : List Int} (hz : ns.length ≤ 63) : (f_law (.fro (ns.map D.int))).wp fun r => r = .bl true := by
  have hl : (ns.map D.int).length = ns.length := by simp
  simp only [f_law, r_law]
  (try simp -implicitDefEqProofs (maxSteps := 1000000) (disch := walk_at "d") only [hl, z_bind, z_bindX, z_bindS, z_assoc, z_opt, z_optN, z_obind, z_unB, z_unBT, z_unI, z_unS, z_unL, z_sbind, z_nbind, z_smT, z_smL, z_td, z_tdL, z_unT, z_unC, z_un0, z_rg1, z_rg2, z_iterL, z_iterT, z_iterF, z_iterS, z_put, z_raise, z_tryOk, z_tryX, z_tryS, z_putG, x_add, x_addL, x_addT, x_addS, x_sub, x_band, x_bor, x_bxor, x_mul, x_fdiv, x_mod, x_pow, x_shl, x_shr, x_neg, x_lt, x_le, x_gt', x_ge, x_eqI, x_neI, x_eqS, x_neS, x_eqB, x_neB, x_is, x_isnot, x_ixT, x_ixL, x_ixF, x_ixS, x_lenL, x_lenT, x_lenF, x_lenS, x_abs, x_min, x_max, x_int, x_intB, x_list, x_tup, x_itL, x_itF, x_itT, x_slT, x_slL, x_slF, x_slS, x_seqL, x_seqT, x_count, x_starts, x_sumL, x_sortedL, x_join, x_zipT_LL, x_zpL_LL, x_zipT_LT, x_zpL_LT, x_zipT_TL, x_zpL_TL, x_zipT_TT, x_zpL_TT, x_isD_nn, x_isD_nb, x_isD_bn, x_isD_bb, x_isD_in, x_isD_ib, x_isD_sn, x_isD_sb, x_isD_ln, x_isD_lb, x_isD_tn, x_isD_tb, x_truN, x_truB, x_truI, x_truL, x_truF, x_truT, x_truS, x_eqIL, x_eqIT, x_eqIR, x_eqBB, x_cut, x_boolB, x_boolI, x_revT, x_revL, x_revF, x_repT, x_map, x_ipAdd, x_ipSub, x_ipXor, x_atN, x_isi_n_int, x_isi_n_bool, x_isi_n_str, x_isi_n_list, x_isi_n_tuple, x_isi_b_int, x_isi_b_bool, x_isi_b_str, x_isi_b_list, x_isi_b_tuple, x_isi_i_int, x_isi_i_bool, x_isi_i_str, x_isi_i_list, x_isi_i_tuple, x_isi_s_int, x_isi_s_bool, x_isi_s_str, x_isi_s_list, x_isi_s_tuple, x_isi_l_int, x_isi_l_bool, x_isi_l_str, x_isi_l_list, x_isi_l_tuple, x_isi_t_int, x_isi_t_bool, x_isi_t_str, x_isi_t_list, x_isi_t_tuple, List.length_cons, List.length_nil, List.getElem?_cons_zero, List.getElem?_cons_succ, List.set_cons_zero, List.set_cons_succ, List.map_cons, List.map_nil, List.cons_append, List.nil_append, Bool.and_self, Bool.and_true, Bool.true_and, Bool.and_false, Bool.false_and, Bool.not_true, Bool.not_false, Bool.false_eq_true, if_true, if_false, ite_true, ite_false, decide_true, decide_false, decide_eq_true_eq, decide_eq_false_iff_not, Bool.not_eq_true, Bool.not_eq_true', Nat.zero_add, Option.map_some, Int.toNat_natCast, reduceIte, reduceCtorEq, Int.reduceToNat, Int.reduceNeg, Int.reduceAdd, Int.reduceSub, Int.reduceMul, Int.reduceLT, Int.reduceLE, Int.reducePow, Nat.reduceLT, Nat.reduceLeDiff, Nat.reduceAdd, Nat.reduceMul, Nat.reduceSub, Int.reduceMod, Int.reduceDiv, Int.reduceEq, Nat.reduceEqDiff, Int.cast_ofNat_Int, wp_ok, wp_bind, wp_stuck, wp_exc, id_eq])
  refine Z.wp.mono (Q' := fun r => ∃ c rv : List Int, r = (.lst (dis c), .lst (dis rv)) ∧ c ≠ [] ∧ c.length ≤ 16 ∧ (∀ x ∈ c, 0 ≤ x ∧ x ≤ 1000000000000) ∧ rv.length = c.length ∧ (∀ l ∈ rv, 0 ≤ l ∧ l ≤ 15) ∧ shr rv = 32768) (wp_ite (fun c => ?_) fun c => ?_) ?_
  · (try simp -implicitDefEqProofs (maxSteps := 1000000) (disch := walk_at "d") only [z_bind, z_bindX, z_bindS, z_assoc, z_opt, z_optN, z_obind, z_unB, z_unBT, z_unI, z_unS, z_unL, z_sbind, z_nbind, z_smT, z_smL, z_td, z_tdL, z_unT, z_unC, z_un0, z_rg1, z_rg2, z_iterL, z_iterT, z_iterF, z_iterS, z_put, z_raise, z_tryOk, z_tryX, z_tryS, z_putG, x_add, x_addL, x_addT, x_addS, x_sub, x_band, x_bor, x_bxor, x_mul, x_fdiv, x_mod, x_pow, x_shl, x_shr, x_neg, x_lt, x_le, x_gt', x_ge, x_eqI, x_neI, x_eqS, x_neS, x_eqB, x_neB, x_is, x_isnot, x_ixT, x_ixL, x_ixF, x_ixS, x_lenL, x_lenT, x_lenF, x_lenS, x_abs, x_min, x_max, x_int, x_intB, x_list, x_tup, x_itL, x_itF, x_itT, x_slT, x_slL, x_slF, x_slS, x_seqL, x_seqT, x_count, x_starts, x_sumL, x_sortedL, x_join, x_zipT_LL, x_zpL_LL, x_zipT_LT, x_zpL_LT, x_zipT_TL, x_zpL_TL, x_zipT_TT, x_zpL_TT, x_isD_nn, x_isD_nb, x_isD_bn, x_isD_bb, x_isD_in, x_isD_ib, x_isD_sn, x_isD_sb, x_isD_ln, x_isD_lb, x_isD_tn, x_isD_tb, x_truN, x_truB, x_truI, x_truL, x_truF, x_truT, x_truS, x_eqIL, x_eqIT, x_eqIR, x_eqBB, x_cut, x_boolB, x_boolI, x_revT, x_revL, x_revF, x_repT, x_map, x_ipAdd, x_ipSub, x_ipXor, x_atN, x_isi_n_int, x_isi_n_bool, x_isi_n_str, x_isi_n_list, x_isi_n_tuple, x_isi_b_int, x_isi_b_bool, x_isi_b_str, x_isi_b_list, x_isi_b_tuple, x_isi_i_int, x_isi_i_bool, x_isi_i_str, x_isi_i_list, x_isi_i_tuple, x_isi_s_int, x_isi_s_bool, x_isi_s_str, x_isi_s_list, x_isi_s_tuple, x_isi_l_int, x_isi_l_bool, x_isi_l_str, x_isi_l_list, x_isi_l_tuple, x_isi_t_int, x_isi_t_bool, x_isi_t_str, x_isi_t_list, x_isi_t_tuple, List.length_cons, List.length_nil, List.getElem?_cons_zero, List.getElem?_cons_succ, List.set_cons_zero, List.set_cons_succ, List.map_cons, List.map_nil, List.cons_append, List.nil_append, Bool.and_self, Bool.and_true, Bool.true_and, Bool.and_false, Bool.false_and, Bool.not_true, Bool.not_false, Bool.false_eq_true, if_true, if_false, ite_true, ite_false, decide_true, decide_false, decide_eq_true_eq, decide_eq_false_iff_not, Bool.not_eq_true, Bool.not_eq_true', Nat.zero_add, Option.map_some, Int.toNat_natCast, reduceIte, reduceCtorEq, Int.reduceToNat, Int.reduceNeg, Int.reduceAdd, Int.reduceSub, Int.reduceMul, Int.reduceLT, Int.reduceLE, Int.reducePow, Nat.reduceLT, Nat.reduceLeDiff, Nat.reduceAdd, Nat.reduceMul, Nat.reduceSub, Int.reduceMod, Int.reduceDiv, Int.reduceEq, Nat.reduceEqDiff, Int.cast_ofNat_Int, wp_ok, wp_bind, wp_stuck, wp_exc, id_eq])
    refine Z.wp.mono (s_drawer hz (by decide) (by decide)) ?_
    intro d1 h1
    refine Z.wp.mono (s_some_counts h1) ?_
    rintro ⟨_, _⟩ ⟨_, c, rfl, c0, c1, c2⟩
    refine Z.wp.mono (s_drawer hz (by decide) (by decide)) ?_
    intro d2 h2
    have dl := dis_len c
    have hn : 0 < c.length := List.length_pos_iff.mpr c0
    (try simp -implicitDefEqProofs (maxSteps := 1000000) (disch := walk_at "d") only [dl, z_bind, z_bindX, z_bindS, z_assoc, z_opt, z_optN, z_obind, z_unB, z_unBT, z_unI, z_unS, z_unL, z_sbind, z_nbind, z_smT, z_smL, z_td, z_tdL, z_unT, z_unC, z_un0, z_rg1, z_rg2, z_iterL, z_iterT, z_iterF, z_iterS, z_put, z_raise, z_tryOk, z_tryX, z_tryS, z_putG, x_add, x_addL, x_addT, x_addS, x_sub, x_band, x_bor, x_bxor, x_mul, x_fdiv, x_mod, x_pow, x_shl, x_shr, x_neg, x_lt, x_le, x_gt', x_ge, x_eqI, x_neI, x_eqS, x_neS, x_eqB, x_neB, x_is, x_isnot, x_ixT, x_ixL, x_ixF, x_ixS, x_lenL, x_lenT, x_lenF, x_lenS, x_abs, x_min, x_max, x_int, x_intB, x_list, x_tup, x_itL, x_itF, x_itT, x_slT, x_slL, x_slF, x_slS, x_seqL, x_seqT, x_count, x_starts, x_sumL, x_sortedL, x_join, x_zipT_LL, x_zpL_LL, x_zipT_LT, x_zpL_LT, x_zipT_TL, x_zpL_TL, x_zipT_TT, x_zpL_TT, x_isD_nn, x_isD_nb, x_isD_bn, x_isD_bb, x_isD_in, x_isD_ib, x_isD_sn, x_isD_sb, x_isD_ln, x_isD_lb, x_isD_tn, x_isD_tb, x_truN, x_truB, x_truI, x_truL, x_truF, x_truT, x_truS, x_eqIL, x_eqIT, x_eqIR, x_eqBB, x_cut, x_boolB, x_boolI, x_revT, x_revL, x_revF, x_repT, x_map, x_ipAdd, x_ipSub, x_ipXor, x_atN, x_isi_n_int, x_isi_n_bool, x_isi_n_str, x_isi_n_list, x_isi_n_tuple, x_isi_b_int, x_isi_b_bool, x_isi_b_str, x_isi_b_list, x_isi_b_tuple, x_isi_i_int, x_isi_i_bool, x_isi_i_str, x_isi_i_list, x_isi_i_tuple, x_isi_s_int, x_isi_s_bool, x_isi_s_str, x_isi_s_list, x_isi_s_tuple, x_isi_l_int, x_isi_l_bool, x_isi_l_str, x_isi_l_list, x_isi_l_tuple, x_isi_t_int, x_isi_t_bool, x_isi_t_str, x_isi_t_list, x_isi_t_tuple, List.length_cons, List.length_nil, List.getElem?_cons_zero, List.getElem?_cons_succ, List.set_cons_zero, List.set_cons_succ, List.map_cons, List.map_nil, List.cons_append, List.nil_append, Bool.and_self, Bool.and_true, Bool.true_and, Bool.and_false, Bool.false_and, Bool.not_true, Bool.not_false, Bool.false_eq_true, if_true, if_false, ite_true, ite_false, decide_true, decide_false, decide_eq_true_eq, decide_eq_false_iff_not, Bool.not_eq_true, Bool.not_eq_true', Nat.zero_add, Option.map_some, Int.toNat_natCast, reduceIte, reduceCtorEq, Int.reduceToNat, Int.reduceNeg, Int.reduceAdd, Int.reduceSub, Int.reduceMul, Int.reduceLT, Int.reduceLE, Int.reducePow, Nat.reduceLT, Nat.reduceLeDiff, Nat.reduceAdd, Nat.reduceMul, Nat.reduceSub, Int.reduceMod, Int.reduceDiv, Int.reduceEq, Nat.reduceEqDiff, Int.cast_ofNat_Int, wp_ok, wp_bind, wp_stuck, wp_exc, id_eq])
    refine Z.wp.mono (s_complete h2 (by omega) (by omega)) ?_
    rintro ⟨_, e⟩ ⟨he, ls, rfl, l1, l2, l3⟩
    dsimp only at he ⊢
    refine Z.wp.mono (s_dealt he (by omega)) ?_
    rintro ⟨_, e⟩ ⟨he, ks, rfl, kp⟩
    have kl := kp.length_eq
    exact ⟨c, ks, rfl, c0, c1, c2, by omega, (fun l hl => by have := l3 l (kp.mem_iff.mp hl); omega), by rw [shr_perm kp, l2]⟩
  · exact ⟨[2, 1, 1, 3], [2, 2, 2, 2], rfl, by decide, by decide, by decide, by decide, by decide, by decide⟩
  rintro _ ⟨c, rv, rfl, c0, c1, c2, r1, r2, r3⟩
  (try dsimp only)
  have w1 := t_lleast c1 c0 c2 r1 r2 r3
  have w2 := t_lleast (c := c.reverse) (rv := rv) (by rw [List.length_reverse]; exact c1) (by simpa using c0) (fun x hx => c2 x (List.mem_reverse.mp hx)) (by rw [List.length_reverse]; exact r1) r2 r3
  have re : dis c.reverse = (dis c).reverse := by unfold dis; rw [List.map_reverse]
  rw [re] at w2
  (try simp -implicitDefEqProofs (maxSteps := 1000000) (disch := walk_at "d") only [w1, w2, z_bind, z_bindX, z_bindS, z_assoc, z_opt, z_optN, z_obind, z_unB, z_unBT, z_unI, z_unS, z_unL, z_sbind, z_nbind, z_smT, z_smL, z_td, z_tdL, z_unT, z_unC, z_un0, z_rg1, z_rg2, z_iterL, z_iterT, z_iterF, z_iterS, z_put, z_raise, z_tryOk, z_tryX, z_tryS, z_putG, x_add, x_addL, x_addT, x_addS, x_sub, x_band, x_bor, x_bxor, x_mul, x_fdiv, x_mod, x_pow, x_shl, x_shr, x_neg, x_lt, x_le, x_gt', x_ge, x_eqI, x_neI, x_eqS, x_neS, x_eqB, x_neB, x_is, x_isnot, x_ixT, x_ixL, x_ixF, x_ixS, x_lenL, x_lenT, x_lenF, x_lenS, x_abs, x_min, x_max, x_int, x_intB, x_list, x_tup, x_itL, x_itF, x_itT, x_slT, x_slL, x_slF, x_slS, x_seqL, x_seqT, x_count, x_starts, x_sumL, x_sortedL, x_join, x_zipT_LL, x_zpL_LL, x_zipT_LT, x_zpL_LT, x_zipT_TL, x_zpL_TL, x_zipT_TT, x_zpL_TT, x_isD_nn, x_isD_nb, x_isD_bn, x_isD_bb, x_isD_in, x_isD_ib, x_isD_sn, x_isD_sb, x_isD_ln, x_isD_lb, x_isD_tn, x_isD_tb, x_truN, x_truB, x_truI, x_truL, x_truF, x_truT, x_truS, x_eqIL, x_eqIT, x_eqIR, x_eqBB, x_cut, x_boolB, x_boolI, x_revT, x_revL, x_revF, x_repT, x_map, x_ipAdd, x_ipSub, x_ipXor, x_atN, x_isi_n_int, x_isi_n_bool, x_isi_n_str, x_isi_n_list, x_isi_n_tuple, x_isi_b_int, x_isi_b_bool, x_isi_b_str, x_isi_b_list, x_isi_b_tuple, x_isi_i_int, x_isi_i_bool, x_isi_i_str, x_isi_i_list, x_isi_i_tuple, x_isi_s_int, x_isi_s_bool, x_isi_s_str, x_isi_s_list, x_isi_s_tuple, x_isi_l_int, x_isi_l_bool, x_isi_l_str, x_isi_l_list, x_isi_l_tuple, x_isi_t_int, x_isi_t_bool, x_isi_t_str, x_isi_t_list, x_isi_t_tuple, List.length_cons, List.length_nil, List.getElem?_cons_zero, List.getElem?_cons_succ, List.set_cons_zero, List.set_cons_succ, List.map_cons, List.map_nil, List.cons_append, List.nil_append, Bool.and_self, Bool.and_true, Bool.true_and, Bool.and_false, Bool.false_and, Bool.not_true, Bool.not_false, Bool.false_eq_true, if_true, if_false, ite_true, ite_false, decide_true, decide_false, decide_eq_true_eq, decide_eq_false_iff_not, Bool.not_eq_true, Bool.not_eq_true', Nat.zero_add, Option.map_some, Int.toNat_natCast, reduceIte, reduceCtorEq, Int.reduceToNat, Int.reduceNeg, Int.reduceAdd, Int.reduceSub, Int.reduceMul, Int.reduceLT, Int.reduceLE, Int.reducePow, Nat.reduceLT, Nat.reduceLeDiff, Nat.reduceAdd, Nat.reduceMul, Nat.reduceSub, Int.reduceMod, Int.reduceDiv, Int.reduceEq, Nat.reduceEqDiff, Int.cast_ofNat_Int, wp_ok, wp_bind, wp_stuck, wp_exc, id_eq])
end KL
namespace KL
open PySem PySem.Spec PyProof.Rows L2 Evl KP KM
theorem fin (ns : List Int) (hz : ns.length ≤ 63) : ∃ outs, m_law [.val (.fro (ns.map D.int))] = .ok (.val (.bl true)) outs := law_fin (fx_law (.fro (ns.map D.int))) (fun _ => rfl) (w_law hz)
/-! ### the end: what the top leaves, the row -/
abbrev R : PySem.W.OpenRow := PySem.W.OpenLaw.row PySem.Challenge.rw_keptpictures_k34_whole_least_lengths
abbrev hk : PySem.W.Hook := KP.hookE 6 fa fn ex
def ob (s : PySem.W.SharedT) : KP.AlE := KP.obsEG 6 fa fn ex (HandSHeadRun.getT s)
theorem ob_eq (s : PySem.W.SharedT) : ob s = hk.obs s.abs := KP.obsEG_eq (HandSHeadRun.getT_eq s)
def names : List Str := [Str.ofString "least_lengths", Str.ofString "_law_drawer", Str.ofString "_law_draw", Str.ofString "_law_pick", Str.ofString "_law_complete", Str.ofString "_law_int", Str.ofString "_law_same", Str.ofString "_law_dealt", Str.ofString "_law_some_counts", Str.ofString "_law_joined", Str.ofString "_law_cost", Str.ofString "_law_complete_ones", Str.ofString "_law_least"]
theorem run (w : World) : HandSHeadRun.RunEq R (PySem.W.view R.prog [15]) hk ob 8000 names w := by
  intro os
  kernel_rfl
end KL
open PySem PySem.W PySem.Calls PyProof.Rows
theorem PySem.Challenge.cw_keptpictures_k34_whole_least_lengths_holds : PySem.Challenge.rw_keptpictures_k34_whole_least_lengths.Holds := by
  w_on; o_law
  refine HandSHeadRun.head_any (r := KL.R) (q := view KL.R.prog [15]) (H := KL.hk) (ob := KL.ob) (M := 8000) (loose := KL.names) (d := HandSHeadRun.topDef KL.R.prog 15) (kwd := []) KL.ob_eq
    (by kernel_rfl) (fun s => by kernel_rfl) KL.run (by kernel_rfl) (by kernel_rfl) (by kernel_rfl) (by rfl) (by first | assumption | decide +kernel) (by decide +kernel) ⟨rfl, rfl, rfl, rfl, rfl, by decide +kernel⟩ ?hw ?hc
  case hw => w_witness2
  case hc =>
    refine L2.walk_ofE (l := PySem.Challenge.rw_keptpictures_k34_whole_least_lengths) (n := 63) (k := 16) (x := "script") (CX := L2.CX0) rfl (by decide) (by kernel_rfl) ⟨rfl, by decide, by decide⟩ ?F (fun _ _ _ _ z => z)
    intro w mg fa h Y G hmg0
    obtain ⟨K, KX, c, cx⟩ := Y
    have hmg : mg ("law" : PySem.Str) = some (.ref fa) := by
      have e : (HandSHeadRun.topDef KL.R.prog 15).name = ("law" : PySem.Str) := by kernel_rfl
      rw [← e]
      exact hmg0
    have hd : KL.Hd K mg := ⟨⟨h, KX, G⟩, c, cx⟩
    obtain ⟨fd, F⟩ := hd.def_ 13
    have ha := hd.glo 26
    cases hmg.symm.trans ha
    refine ⟨K, fd, KP.sp_law K, KX, fun s u => L2.FunD.bindsA (ps := ["script"]) F (fun _ _ _ _ _ _ us hl => match us, hl with | [_], _ => rfl) s [u] rfl, fun H a ns hl hO hS => ⟨.ref a, rfl, a, ns, rfl, KP.Scr.of hO hS, hl, fun _ => rfl⟩, fun base _ _ => ?_⟩
    exact KM.law_end (KL.ok_law hd F) KL.fin
