import PyProof.Rows.All
import Wide.All
import OpenK.AllK
import Wide.FinOn
import HandS.ForMost
import HandS.ForExc
import HandS.IsInst
import HandS.AnyAll
import HandS.Flow
import HandS.TupMul
import HandS.Style
import HandS.TryOnly
import HandS.Codes
import HandS.EndTab
import HandS.Conv
import PyProof.ExcBaseAll.Exception
import PyProof.ListStr
import PyProof.TupleOfStr
import HandS.ExcSuper
import HandS.ExcField
import HandS.ExcIs
import KE.KExcIs
import PySem.Challenge.RW_runsasmeant_k11_whole_words_by_own_readi
import HandS.GenBody
import HandS.HotCalls
import HandS.GenList
import PyProof.GenQ
import PyProof.CodeObjX
import HandS.SuiteRaise
import HandS.Iter
import HandS.HeadHook4
set_option Elab.async false
set_option linter.all false
set_option maxRecDepth 100000
set_option maxHeartbeats 4000000
/-! The layer of this work: rules for several kinds of values at once; heaps that only grow (a code object's table may grow, too); data in heaps. -/
namespace Zl
open PySem PySem.Spec PyProof.Rows L2

/-! ### heaps that grow -/
def Le (H H' : Hp) : Prop := ∀ a o, H a = some o → H' a = some o ∨ ∃ ps ps', o = .tbl ps ∧ H' a = some (.tbl ps') ∧ (TriplesOk ps.toList → TriplesOk ps'.toList)
theorem Le.refl (H : Hp) : Le H H := fun _ _ h => .inl h
theorem Le.trans {H H1 H2 : Hp} (x : Le H H1) (y : Le H1 H2) : Le H H2 := fun a o h => by
  rcases x a o h with h1 | ⟨ps, ps', rfl, h1, t1⟩
  · exact y a o h1
  · rcases y a _ h1 with h2 | ⟨qs, qs', e, h2, t2⟩
    · exact .inr ⟨ps, ps', rfl, h2, t1⟩
    · cases e
      exact .inr ⟨ps, qs', rfl, h2, fun t => t2 (t1 t)⟩
theorem Le.at {H H' : Hp} {a : Addr} {o : HO} (x : Le H H') (h : H a = some o) (nt : ∀ ps, o ≠ .tbl ps) : H' a = some o := by
  rcases x a o h with h1 | ⟨ps, _, e, _⟩
  · exact h1
  · exact absurd e (nt ps)
theorem Le.lst {H H' : Hp} {a : Addr} {xs : List V} (x : Le H H') (h : H a = some (.lst xs)) : H' a = some (.lst xs) := x.at h fun _ e => by cases e
theorem Le.tup {H H' : Hp} {a : Addr} {xs : List V} (x : Le H H') (h : H a = some (.tup xs)) : H' a = some (.tup xs) := x.at h fun _ e => by cases e
theorem Le.dK {H H' : Hp} {a : Addr} {xs : List (Key × V)} (x : Le H H') (h : H a = some (.dK xs)) : H' a = some (.dK xs) := x.at h fun _ e => by cases e
theorem Le.new {H : Hp} {p : Addr} {o : HO} (h : H p = none) : Le H (upd H p o) := fun a u e => .inl (by rw [upd_ne (ne_of_none e h)]; exact e)
/-- what H does not know may change -/
theorem Le.mut {H H' : Hp} {p : Addr} {o : HO} (x : Le H H') (h : H p = none) : Le H (upd H' p o) := fun a u e => by
  rw [upd_ne (ne_of_none e h)]
  exact x a u e
theorem Le.back {H H' : Hp} {p : Addr} (x : Le H H') (h : H' p = none) : H p = none := by
  cases e : H p with
  | none => rfl
  | some o =>
    rcases x p o e with h1 | ⟨_, _, _, h1, _⟩ <;> (rw [h1] at h; cases h)
theorem Le.tab {H H' : Hp} {P : Addr} (t : GxR.TabG H P) (x : GxR.Tabbed P H H') : Le H H' := fun a o e => by
  by_cases h : a = P
  · subst h
    obtain ⟨ps, hp, ok⟩ := t
    obtain ⟨⟨ps', hp', ok'⟩, _⟩ := x
    rw [hp] at e
    cases e
    exact .inr ⟨ps, ps', rfl, hp', fun _ => ok'⟩
  · exact .inl ((x.2 a h).trans e)
theorem Le.tabG {H H' : Hp} {P : Addr} (x : Le H H') (t : GxR.TabG H P) : GxR.TabG H' P := by
  obtain ⟨ps, hp, ok⟩ := t
  rcases x P _ hp with h1 | ⟨qs, ps', e, h1, t1⟩
  · exact ⟨ps, h1, ok⟩
  · cases e
    exact ⟨ps', h1, t1 ok⟩
theorem Le.rd {H H' : Hp} {a : Addr} {u : HO} (x : Le H H') (nt : ∀ ps, u ≠ .tbl ps) (h : Rd H a u) : Rd H' a u := by
  rcases h with h | ⟨o, h⟩
  · exact .inl (x.at h nt)
  · exact .inr ⟨o, x.at h fun _ e => by cases e⟩
theorem Le.sl {K : PySem.W.Frag} {H H' : Hp} {a : Addr} {xs : List V} (x : Le H H') (h : SqL K H a xs) : SqL K H' a xs := h.imp (x.rd fun _ e => by cases e) id
theorem Le.st {K : PySem.W.Frag} {H H' : Hp} {a : Addr} {xs : List V} (x : Le H H') (h : SqT K H a xs) : SqT K H' a xs := h.imp (x.rd fun _ e => by cases e) id
mutual
theorem Le.dp {K : PySem.W.Frag} {H H' : Hp} (x : Le H H') : ∀ {v : V} {d : PyData}, Dp K H v d → Dp K H' v d
  | _, _, .non => .non
  | _, _, .bl b => .bl b
  | _, _, .int i => .int i
  | _, _, .str s => .str s
  | _, _, .lst h r => .lst (x.sl h) (x.dps r)
  | _, _, .tup h r => .tup (x.st h) (x.dps r)
theorem Le.dps {K : PySem.W.Frag} {H H' : Hp} (x : Le H H') : ∀ {vs : List V} {ds : List PyData}, DpAll K H vs ds → DpAll K H' vs ds
  | _, _, .nil => .nil
  | _, _, .cons h r => .cons (x.dp h) (x.dps r)
end

/-! ### tuples just laid -/
inductive Tups (H : Hp) : List V → List (List V) → Prop
  | nil : Tups H [] []
  | cons {q : Addr} {r : List V} {vs : List V} {rs : List (List V)} : H q = some (.tup r) → Tups H vs rs → Tups H (.ref q :: vs) (r :: rs)
theorem Tups.le {H H' : Hp} (x : Le H H') {vs : List V} {rs : List (List V)} (h : Tups H vs rs) : Tups H' vs rs := by
  induction h with
  | nil => exact .nil
  | cons e _ ih => exact .cons (x.tup e) ih
theorem Tups.mut {H : Hp} {w : Addr} {xs ys : List V} (e : H w = some (.lst xs)) {vs : List V} {rs : List (List V)} (h : Tups H vs rs) : Tups (upd H w (.lst ys)) vs rs := by
  induction h with
  | nil => exact .nil
  | @cons q r vs rs e2 _ ih => exact .cons (by rw [upd_ne (fun z => by rw [z, e] at e2; cases e2)]; exact e2) ih
theorem Tups.snoc {H : Hp} {q : Addr} {r : List V} (e : H q = some (.tup r)) {vs : List V} {rs : List (List V)} (h : Tups H vs rs) : Tups H (vs ++ [.ref q]) (rs ++ [r]) := by
  induction h with
  | nil => exact .cons e .nil
  | cons e2 _ ih => exact .cons e2 ih
theorem Tups.length {H : Hp} {vs : List V} {rs : List (List V)} (h : Tups H vs rs) : vs.length = rs.length := by
  induction h with
  | nil => rfl
  | cons _ _ ih => rw [List.length_cons, List.length_cons, ih]
theorem Tups.dps {K : PySem.W.Frag} {α : Type} {H : Hp} {f : α → List V} {g : α → List PyData} (hfg : ∀ a, DpAll K H (f a) (g a)) {vs : List V} : ∀ {as : List α}, Tups H vs (as.map f) → DpAll K H vs (as.map fun a => .tuple (g a)) := by
  intro as h
  generalize hr : as.map f = rs at h
  induction h generalizing as with
  | nil =>
    cases as with
    | nil => exact .nil
    | cons _ _ => cases hr
  | cons e _ ih =>
    cases as with
    | nil => cases hr
    | cons a as =>
      cases hr
      exact .cons (.tup (.inl (.inl e)) (hfg a)) (ih rfl)

/-! ### texts as lists of codes -/
def tx (l : List Nat) : Str := ⟨l.toArray⟩
theorem tx_list (l : List Nat) : (tx l).cps.toList = l := rfl
theorem tx_len (l : List Nat) : (tx l).length = l.length := rfl
theorem tx_inj {a b : List Nat} : tx a = tx b ↔ a = b := by
  constructor
  · intro h
    have := congrArg (fun s : Str => s.cps.toList) h
    exact this
  · intro h
    rw [h]
theorem dec_tx (p q : List Nat) : decide (V.str (tx p) = V.str (tx q)) = decide (p = q) := by
  by_cases h : p = q
  · subst h
    rw [decide_eq_true rfl, decide_eq_true rfl]
  · rw [decide_eq_false h, decide_eq_false]
    intro e
    exact h (tx_inj.mp (V.str.inj e))
theorem inV_tx (x : List Nat) : ∀ ls : List (List Nat), inV (.str (tx x)) (ls.map fun l => V.str (tx l)) = decide (x ∈ ls)
  | [] => rfl
  | l :: r => by
    show ((tx l == tx x) || inV (.str (tx x)) (r.map fun l => V.str (tx l))) = _
    rw [inV_tx x r]
    by_cases h : x = l
    · subst h
      rw [decide_eq_true List.mem_cons_self, beq_self_eq_true, Bool.true_or]
    · have h1 : (tx l == tx x) = false := by
        rw [beq_eq_false_iff_ne]
        exact fun e => h (tx_inj.mp e).symm
      rw [h1, Bool.false_or]
      exact decide_eq_decide.mpr ⟨fun m => List.mem_cons_of_mem _ m, fun m => (List.mem_cons.mp m).resolve_left h⟩
theorem flat_tx (ls : List (List Nat)) : (ls.map fun l => V.str (tx l)).all flatV = true := by
  rw [List.all_map, List.all_eq_true]
  intro _ _
  rfl
/-- text[n:m] -/
theorem cut_tx {l : List Nat} {n m : Nat} (h : n ≤ m) : cutS (tx l) (some (n : Int)) (some (m : Int)) = tx ((l.drop n).take (m - n)) := by
  unfold cutS
  rw [tx_list, tx_len, HT.sIx_nat, HT.sIx_nat]
  show tx _ = tx _
  by_cases hn : n ≤ l.length
  · rw [Nat.min_eq_left hn]
    by_cases hm : m ≤ l.length
    · rw [Nat.min_eq_left hm]
    · rw [Nat.min_eq_right (by omega), List.take_of_length_le (by rw [List.length_drop]; omega), List.take_of_length_le (by rw [List.length_drop]; omega)]
  · rw [show min n l.length = l.length by omega, show min m l.length = l.length by omega, List.drop_length, List.drop_eq_nil_of_le (show l.length ≤ n by omega)]
    simp
theorem tx_of (s : Str) : s = tx s.cps.toList := rfl

/-! ### rules for several kinds of values -/
section
variable {X : Cx}
def rAddZ (K : PySem.W.Frag) : R2 := fun x y H Q => (∃ i j, x = .int i ∧ y = .int j ∧ Q (.int (i + j)) H) ∨ (∃ i j, x = .str i ∧ y = .str j ∧ i.length + j.length ≤ sizeLine ∧ Q (.str (i ++ j)) H) ∨ rCat x y H Q ∨ rCatT K x y H Q
theorem op_addZ : OpR X (binaryOp .Add) (rAddZ X.K) := OpR.or op_add (OpR.or op_add_str (OpR.or op_cat op_catT))
def rEqZ (K : PySem.W.Frag) : R2 := fun x y H Q => rEq x y H Q ∨ rEqD K x y H Q
def rNeZ (K : PySem.W.Frag) : R2 := fun x y H Q => rNe x y H Q ∨ rNeD K x y H Q
theorem op_eqZ (hu : X.A.units + 64 < cLine) : OpR X (compareOp .Eq) (rEqZ X.K) := OpR.or op_eq (op_eqD hu)
theorem op_neZ (hu : X.A.units + 64 < cLine) : OpR X (compareOp .NotEq) (rNeZ X.K) := OpR.or op_ne (op_neD hu)
theorem op_ltZ : OpR X (compareOp .Lt) (rI0 fun i j => .bl (decide (i < j))) := op_lt
theorem op_leZ : OpR X (compareOp .LtE) (rI0 fun i j => .bl (decide (i ≤ j))) := op_le
def rIsZ : R2 := fun x y H Q => (y = .non ∧ Q (.bl (decide (x = .non))) H) ∨ (∃ a b, x = .bl a ∧ y = .bl b ∧ Q (.bl (decide (a = b))) H)
def rIsnotZ : R2 := fun x y H Q => (y = .non ∧ Q (.bl (!decide (x = .non))) H) ∨ (∃ a b, x = .bl a ∧ y = .bl b ∧ Q (.bl (!decide (a = b))) H)
def rInZ (K : PySem.W.Frag) (neg : Bool) : R2 := fun x y H Q => (∃ (c : Nat) (z : Str), x = .str ⟨#[c]⟩ ∧ y = .str z ∧ Q (.bl (if neg then !decide (c ∈ z.cps.toList) else decide (c ∈ z.cps.toList))) H) ∨ rIn K neg x y H Q
theorem op_inZ : OpR X (compareOp .In) (rInZ X.K false) := OpR.or op_in_sign op_in_seq
theorem op_notinZ : OpR X (compareOp .NotIn) (rInZ X.K true) := OpR.or op_notIn_sign op_notIn_seq
theorem sl_Z : SlR X (fun x lo hi H Q => rSlS x lo hi H Q ∨ rSlL X.K x lo hi H Q ∨ rSlT X.K x lo hi H Q) := SlR.or sl_str (SlR.or sl_list sl_tup)
def iSeq (K : PySem.W.Frag) (t : TE) : TI := fun σ H R => t σ H fun x H1 => ∃ a, x = .ref a ∧ (((∃ xs, SqL K H1 a xs) ∧ R (Itl K a) H1) ∨ ((∃ xs, SqT K H1 a xs) ∧ R (Itt K a) H1))
theorem pi_seq {tg l : Expr} {tl : TE} (hl : PE X l tl) : PI X tg l (iSeq X.K tl) := by
  refine ⟨fun pins s σ H R I h => ?_⟩
  have two : ∀ (x : V) (u : Value) (H1 : Hp) (s1 : Shared), Inv X pins σ H1 s1 → RelV x u → (∃ a, x = .ref a ∧ (((∃ xs, SqL X.K H1 a xs) ∧ R (Itl X.K a) H1) ∨ ((∃ xs, SqT X.K H1 a xs) ∧ R (Itt X.K a) H1))) →
      wpAny (model X.prog X.w) X.A (pyIter u) (PIE X pins σ tg R) X.xe s1 := by
    intro x u H1 s1 I1 rx hh
    obtain ⟨a, rfl, hh⟩ := hh
    cases rx
    rcases hh with ⟨⟨xs, hq⟩, q⟩ | ⟨⟨xs, hq⟩, q⟩
    · obtain ⟨its, rv, p, hz⟩ := I1.list hq
      refine wpAny_pyIter_list p.isList ?_
      refine ⟨s1.heap.objs.size, [s1.heap.objs.size], _, _, H1, rfl, I1.kept (t' := s1.toks) fun b o e => Heap.get?_push_of_some _ e, turn_list a _, ⟨_, Heap.get?_push_size _ rfl, rfl, rfl⟩, fun b hb => ?_, q⟩
      have e : b = s1.heap.objs.size := by simpa using hb
      subst e
      exact I1.fpOk (Nat.le_refl _) (I1.hok.fresh (Nat.le_refl _))
    · obtain ⟨its, rv, p, hz⟩ := I1.tuple hq
      refine wpAny_pyIter_tuple (show s1.heap.IsTuple a its.toArray from p) ?_
      refine ⟨s1.heap.objs.size, [s1.heap.objs.size], _, _, H1, rfl, I1.kept (t' := s1.toks) fun b o e => Heap.get?_push_of_some _ e, turn_tuple a _, ⟨_, Heap.get?_push_size _ rfl, rfl, rfl⟩, fun b hb => ?_, q⟩
      have e : b = s1.heap.objs.size := by simpa using hb
      subst e
      exact I1.fpOk (Nat.le_refl _) (I1.hok.fresh (Nat.le_refl _))
  exact thn (hl.run pins s σ H _ I h) fun v s1 ⟨x, H1, I1, r1, q1⟩ => two x v H1 s1 I1 r1 q1
def rIsZZ : R2 := fun x y H Q => (y = .non ∧ Q (.bl (decide (x = .non))) H) ∨ rIsB x y H Q
def rIsnotZZ : R2 := fun x y H Q => (y = .non ∧ Q (.bl (!decide (x = .non))) H) ∨ rNotB x y H Q
theorem op_isZ : OpR X (compareOp .Is) rIsZZ := OpR.or op_isN op_isBl
theorem op_isnotZ : OpR X (compareOp .IsNot) rIsnotZZ := OpR.or op_notN op_notBl
/-- a tuple, many times -/
def rRepZ (K : PySem.W.Frag) : R2 := fun x y H Q => ∃ l k xs, x = .ref l ∧ y = .int k ∧ SqT K H l xs ∧ xs ≠ [] ∧ 2 ≤ k ∧ k * xs.length ≤ 100000 ∧ ∀ p, H p = none → Q (.ref p) (upd H p (.tup (List.replicate k.toNat xs).flatten))
theorem op_repZ : OpR X (binaryOp .Mult) (rRepZ X.K) := by
  intro pins s σ H x y v u Q I rx ry h
  obtain ⟨l, k, xs, rfl, rfl, hT, hne, h1, hz, q⟩ := h
  cases rx
  obtain ⟨t, rfl⟩ := ry
  obtain ⟨its, r, ⟨⟨cls, dd, data, sl⟩, ho, hc, n, hd⟩, hs⟩ := I.tuple hT
  simp only at hc hd
  subst hc hd
  have same : its.length = xs.length := r.length.symm
  have pos : 0 < its.length := by rw [same]; exact List.length_pos_iff.mpr hne
  have full : its.toArray.isEmpty = false := by
    cases its with
    | nil => exact absurd pos (by simp)
    | cons a b => rfl
  have siz : its.toArray.size = xs.length := by rw [List.size_toArray, same]
  have hp : 1 ≤ (xs.length : Int) := by omega
  have hk : k ≤ 100000 := by
    have : k * 1 ≤ k * (xs.length : Int) := Int.mul_le_mul_of_nonneg_left hp (by omega)
    omega
  have comm : ((its.toArray.size : Nat) : Int) * k = k * xs.length := by rw [siz, Int.mul_comm]
  have kN : ((k.toNat : Nat) : Int) = k := Int.toNat_of_nonneg (by omega)
  have cnt : k.toNat * xs.length ≤ 100000 := by
    have : ((k.toNat * xs.length : Nat) : Int) ≤ 100000 := by rw [Int.natCast_mul, kN]; exact hz
    omega
  have flen : (List.replicate k.toNat its).flatten.length ≤ sizeLine := by
    rw [PyProof.Rows.lm_len_rep_flat, same, sizeLine_eq]
    omega
  have c0 : (decide (k < -(2 ^ 63)) || decide (k ≥ 2 ^ 63)) = false := by
    rw [decide_eq_false (by omega), decide_eq_false (by omega)] <;> rfl
  have c1 : (its.toArray.isEmpty || k == 1) = false := by
    rw [full, Bool.false_or]
    exact beq_eq_false_iff_ne.mpr (by omega)
  have c2 : (decide (k ≤ 0) || its.toArray.isEmpty) = false := by
    rw [full, Bool.or_false]
    exact decide_eq_false (by omega)
  have c3 : ¬ ((its.toArray.size : Nat) : Int) * k > (2 ^ 63 - 1) / 8 := by rw [comm]; omega
  have c4 : Builtin.Tuple.tupleTooMany (((its.toArray.size : Nat) : Int) * k) = false := by
    unfold Builtin.Tuple.tupleTooMany
    rw [sizeLine_eq, comm]
    exact decide_eq_false (by omega)
  have meet := tuple_mulW l its.toArray n dd sl k t c0 c1 c2 c3 c4 (by rw [size_rep, List.size_toArray]; exact flen)
  refine wpAny_binaryOp_repeat_ref (T := "tuple") (U := "int") (by decide) ⟨_, ho, rfl⟩ (fun s' => typeIs_int s' k t) noFill_tuple_mul F.fills_int_mul F.slot_int_rmul repeat_tuple F.slot_int_index.lookup ?_
  refine call_meets F.slot_int_rmul (typeIs_int s k t) F.entry_int_rmul (F.args_int_rmul_2 _ _) (int_rmul_tuple k t l its.toArray n dd sl) ⟨ho, rfl, ⟨_, ho, rfl⟩, ?_⟩
  refine call_meets F.slot_tuple_mul ⟨_, ho, rfl⟩ F.entry_tuple_mul (F.args_tuple_mul_2 _ _) meet ⟨ho, ?_⟩
  rw [size_rep]
  have fresh := I.hok.fresh (Nat.le_refl s.heap.objs.size)
  refine ⟨.ref s.heap.objs.size, _, I.laid (t' := s.toks) (o := .tup (List.replicate k.toNat xs).flatten) (fun b ob e => Heap.get?_push_of_some _ e) (Nat.le_refl _) ?_, rfl, q _ fresh⟩
  refine ⟨?_, _, r.rep k.toNat, IsTup.new _ _⟩
  rw [PyProof.Rows.lm_len_rep_flat, sizeLine_eq]
  omega
/-- a text, many times -/
def rMulS : R2 := fun x y H Q => ∃ z k, x = .str z ∧ y = .int k ∧ 0 ≤ k ∧ k ≤ 100000 ∧ z.length ≤ 100 ∧ Q (.str (Txt.mul z k)) H
theorem op_mulS : OpR X (binaryOp .Mult) rMulS := by
  intro pins s σ H x y v u Q I rx ry h
  obtain ⟨z, k, rfl, rfl, h0, h1, hz, q⟩ := h
  obtain ⟨t, rfl⟩ := rx
  obtain ⟨t2, rfl⟩ := ry
  refine SB.mul ⟨?_, fun _ _ => ?_, fun _ _ => ?_⟩ fun t' tk => ⟨.str _, H, I.tok _, ⟨_, rfl⟩, q⟩
  · rw [decide_eq_false (by omega), decide_eq_false (by omega)] <;> rfl
  · rename_i a b
    have k1 : 1 ≤ k := by omega
    have : (92233720368547 : Int) ≤ (2 ^ 63 - 1) / k := by
      rw [Int.le_ediv_iff_mul_le (by omega)]
      omega
    omega
  · have : z.length * k.toNat ≤ 100 * 100000 := Nat.mul_le_mul hz (by omega)
    unfold Builtin.Str.tooLong
    rw [sizeLine_eq]
    exact decide_eq_false (by omega)
def rMulZ (K : PySem.W.Frag) : R2 := fun x y H Q => (∃ i j, x = .int i ∧ y = .int j ∧ CMul i j ∧ Q (.int (i * j)) H) ∨ rRepZ K x y H Q ∨ rMulS x y H Q
theorem op_mulZ : OpR X (binaryOp .Mult) (rMulZ X.K) := OpR.or op_mul (OpR.or op_repZ op_mulS)
theorem call_lenZ : CallR X (.builtin "len") (fun xs H Q => ∃ x n, xs = [x] ∧ LenV X.K x H n ∧ Q (.int n) H) := call_len
theorem call_isinstanceZ : CallR X (.builtin "isinstance") (fun xs H Q => rIsi X.K xs H Q ∨ rIsiT X.K xs H Q) := CallR.or call_isi call_isiT
theorem call_tupleZ : CallR X (.type "tuple") (fun xs H Q => ∃ p ys, xs = [.ref p] ∧ ((SqL X.K H p ys ∧ ∀ l, H l = none → Q (.ref l) (upd H l (.tup ys))) ∨ (SqT X.K H p ys ∧ Q (.ref p) H))) := call_tuple_of
theorem call_listZ : CallR X (.type "list") (fun xs H Q => ∃ p ys, xs = [.ref p] ∧ (SqL X.K H p ys ∨ SqT X.K H p ys) ∧ ∀ l, H l = none → Q (.ref l) (upd H l (.lst ys))) := call_list_of
/-- the signs of a text, each a text -/
def chV (z : Str) : List V := z.cps.toList.map fun c => V.str ⟨#[c]⟩
theorem vals_ch {z : Str} {acc : Array Value} (h : ItemsOf (SignAt z) acc z.cps.size) : Vals (chV z) acc.toList := by
  refine vals_of_at ?_ fun j x u hx hu => ?_
  · unfold chV
    rw [List.length_map, Array.length_toList, Array.length_toList, h.1]
  · unfold chV at hx
    rw [List.getElem?_map] at hx
    rw [Array.getElem?_toList] at hu
    obtain ⟨c, t, hc, rfl⟩ := h.2 j u hu
    rw [Array.getElem?_toList, hc] at hx
    cases hx
    exact ⟨t, rfl⟩
theorem call_listS (hc : X.calm = true) : CallR X (.type "list") (fun xs H Q => ∃ z : Str, xs = [.str z] ∧ z.length ≤ sizeLine ∧ ∀ p, H p = none → Q (.ref p) (upd H p (.lst (chV z)))) := by
  intro pins s σ H xs us Q I r h
  obtain ⟨z, rfl, hz, q⟩ := h
  obtain ⟨u, rfl, t, rfl⟩ := vals1 r
  have e : z.cps.size = z.length := rfl
  refine call_list_str (hn := hz) (I.ok.hd hc) z t fun h' tk acc c' hk e' hi => ?_
  refine ⟨.ref s.heap.objs.size, upd H s.heap.objs.size (.lst (chV z)), I.laid hk (Nat.le_refl _) (show ObjOk X.prog X.w _ _ _ (.lst (chV z)) from ⟨?_, acc.toList, c', vals_ch hi, ?_⟩), rfl, q _ (I.hok.fresh (Nat.le_refl _))⟩
  · have z2 := (vals_ch hi).length
    rw [z2, Array.length_toList, hi.1]
    exact hz
  · rw [Array.toArray_toList]; exact e'
theorem call_tupleS (hc : X.calm = true) : CallR X (.type "tuple") (fun xs H Q => ∃ z : Str, xs = [.str z] ∧ z.length ≤ sizeLine ∧ ∀ p, H p = none → Q (.ref p) (upd H p (.tup (chV z)))) := by
  intro pins s σ H xs us Q I r h
  obtain ⟨z, rfl, hz, q⟩ := h
  obtain ⟨u, rfl, t, rfl⟩ := vals1 r
  refine call_tuple_str (hsz := hz) (I.ok.hd hc) z t fun h' tk acc hk hi => ?_
  have I2 : Inv X pins σ H { s with heap := h', toks := tk } := I.kept hk
  refine ⟨.ref h'.objs.size, upd H h'.objs.size (.tup (chV z)), I2.laid (t' := tk) (fun c o e => Heap.get?_push_of_some _ e) (Nat.le_refl _) (show ObjOk X.prog X.w _ _ _ (.tup (chV z)) from ⟨?_, acc.toList, vals_ch hi, ?_⟩), rfl, q _ (I2.hok.fresh (Nat.le_refl _))⟩
  · have z2 := (vals_ch hi).length
    rw [z2, Array.length_toList, hi.1]
    exact hz
  · rw [Array.toArray_toList]; exact IsTup.new _ _
theorem call_listW (hc : X.calm = true := by rfl) : CallR X (.type "list") (fun xs H Q => (∃ z : Str, xs = [.str z] ∧ z.length ≤ sizeLine ∧ ∀ p, H p = none → Q (.ref p) (upd H p (.lst (chV z)))) ∨ ∃ p ys, xs = [.ref p] ∧ (SqL X.K H p ys ∨ SqT X.K H p ys) ∧ ∀ l, H l = none → Q (.ref l) (upd H l (.lst ys))) := CallR.or (call_listS hc) call_list_of
theorem call_intZ : CallR X (.type "int") (fun xs H Q => (∃ i, xs = [.int i] ∧ Q (.int i) H) ∨ ∃ k, xs = [.bl k] ∧ Q (.int (if k then 1 else 0)) H) := call_int1
theorem call_maxZ (hc : X.calm = true := by rfl) : CallR X (.builtin "max") (rMax X.K) := cr_max hc
theorem pe_notZ {a : Expr} {ta : TE} {pos : Pos} (ha : PE X a ta) : PE X (.UnaryOp .Not a pos) (tNotT X.K ta) := pe_notT ha
/-- isinstance of one built-in class -/
theorem isi_of {K : PySem.W.Frag} {x : V} {n m : String} {b : Bool} {H : Hp} {Q : VK} (ty : TyX K H x (.type n)) (hk : kitB n m = some b) (q : Q (.bl b) H) : rIsi K [x, .ty m] H Q ∨ rIsiT K [x, .ty m] H Q := .inl ⟨x, .ty m, _, _, b, rfl, .ty m, ty, kit_ty hk, q⟩
theorem ty_st {K : PySem.W.Frag} {H : Hp} {a : Addr} {xs : List V} (h : SqT K H a xs) : TyX K H (.ref a) (.type "tuple") := by
  rcases h with (h | ⟨o, h⟩) | ⟨o, its, n, h, hc, _⟩
  · exact .base (.tup h)
  · exact .fTuple h
  · exact .kTuple h hc
theorem ty_sl {K : PySem.W.Frag} {H : Hp} {a : Addr} {xs : List V} (h : SqL K H a xs) : TyX K H (.ref a) (.type "list") := by
  rcases h with (h | ⟨o, h⟩) | ⟨o, its, n, h, hc, _⟩
  · exact .base (.lst h)
  · exact .base (.frz h)
  · exact .kList h hc
end

/-! ### the same, K told (inside of displays with «for») -/
section
variable {X : Cx} {K : PySem.W.Frag} (ek : X.K = K)
include ek
theorem op_addK : OpR X (binaryOp .Add) (rAddZ K) := by subst ek; exact op_addZ
theorem op_mulK : OpR X (binaryOp .Mult) (rMulZ K) := by subst ek; exact op_mulZ
theorem op_eqK (hu : X.A.units + 64 < cLine) : OpR X (compareOp .Eq) (rEqZ K) := by subst ek; exact op_eqZ hu
theorem op_neK (hu : X.A.units + 64 < cLine) : OpR X (compareOp .NotEq) (rNeZ K) := by subst ek; exact op_neZ hu
theorem op_inK : OpR X (compareOp .In) (rInZ K false) := by subst ek; exact op_inZ
theorem op_notinK : OpR X (compareOp .NotIn) (rInZ K true) := by subst ek; exact op_notinZ
theorem sl_K : SlR X (fun x lo hi H Q => rSlS x lo hi H Q ∨ rSlL K x lo hi H Q ∨ rSlT K x lo hi H Q) := by subst ek; exact sl_Z
theorem ix_seqK : IxR X (rIx K) := by subst ek; exact ix_seq
theorem call_lenK : CallR X (.builtin "len") (fun xs H Q => ∃ x n, xs = [x] ∧ LenV K x H n ∧ Q (.int n) H) := by subst ek; exact call_len
theorem call_isinstanceK : CallR X (.builtin "isinstance") (fun xs H Q => rIsi K xs H Q ∨ rIsiT K xs H Q) := by subst ek; exact call_isinstanceZ
theorem call_tupleK : CallR X (.type "tuple") (fun xs H Q => ∃ p ys, xs = [.ref p] ∧ ((SqL K H p ys ∧ ∀ l, H l = none → Q (.ref l) (upd H l (.tup ys))) ∨ (SqT K H p ys ∧ Q (.ref p) H))) := by subst ek; exact call_tuple_of
theorem call_listK : CallR X (.type "list") (fun xs H Q => ∃ p ys, xs = [.ref p] ∧ (SqL K H p ys ∨ SqT K H p ys) ∧ ∀ l, H l = none → Q (.ref l) (upd H l (.lst ys))) := by subst ek; exact call_list_of
theorem call_intK : CallR X (.type "int") (fun xs H Q => (∃ i, xs = [.int i] ∧ Q (.int i) H) ∨ ∃ k, xs = [.bl k] ∧ Q (.int (if k then 1 else 0)) H) := by subst ek; exact call_int1
theorem call_maxK (hc : X.calm = true := by rfl) : CallR X (.builtin "max") (rMax K) := by subst ek; exact cr_max hc
end
/-! ### the built-in names -/
theorem bt_len : bootBuiltins "len" = some (.builtin "len") := by kernel_rfl
theorem bt_isinstance : bootBuiltins "isinstance" = some (.builtin "isinstance") := by kernel_rfl
theorem bt_all : bootBuiltins "all" = some (.builtin "all") := by kernel_rfl
theorem bt_any : bootBuiltins "any" = some (.builtin "any") := by kernel_rfl
theorem bt_max : bootBuiltins "max" = some (.builtin "max") := by kernel_rfl
theorem bt_min : bootBuiltins "min" = some (.builtin "min") := by kernel_rfl
theorem bt_sum : bootBuiltins "sum" = some (.builtin "sum") := by kernel_rfl
theorem bt_sorted : bootBuiltins "sorted" = some (.builtin "sorted") := by kernel_rfl
theorem bt_abs : bootBuiltins "abs" = some (.builtin "abs") := by kernel_rfl
theorem bt_ord : bootBuiltins "ord" = some (.builtin "ord") := by kernel_rfl
theorem bt_chr : bootBuiltins "chr" = some (.builtin "chr") := by kernel_rfl
theorem bt_str : bootBuiltins "str" = some (.type "str") := by kernel_rfl
theorem bt_int : bootBuiltins "int" = some (.type "int") := by kernel_rfl
theorem bt_bool : bootBuiltins "bool" = some (.type "bool") := by kernel_rfl
theorem bt_tuple : bootBuiltins "tuple" = some (.type "tuple") := by kernel_rfl
theorem bt_list : bootBuiltins "list" = some (.type "list") := by kernel_rfl
theorem bt_dict : bootBuiltins "dict" = some (.type "dict") := by kernel_rfl
theorem bt_set : bootBuiltins "set" = some (.type "set") := by kernel_rfl
theorem bt_bytes : bootBuiltins "bytes" = some (.type "bytes") := by kernel_rfl
theorem bt_range : bootBuiltins "range" = some (.type "range") := by kernel_rfl
theorem bt_type : bootBuiltins "type" = some (.type "type") := by kernel_rfl
theorem bt_object : bootBuiltins "object" = some (.type "object") := by kernel_rfl
/-! ### a def of the text, its code object told -/
structure D (K : PySem.W.Frag) (mg : Str → Option Value) (x : Str) (st : Stmt) (ps : List Str) (f c : Addr) (fd : FuncData) : Prop where
  ex : ∃ (oc kV doc pm ct : Value) (od an : Option Addr) (osl : Array (Option Value)),
    fd = PySem.W.fnOf x x (defArgs st) (defBody st) (defScope st) .none kV doc pm an (.ref c) ct ∧ K.lookup f = some ⟨oc, od, .func fd, osl⟩ ∧ PySem.W.codeIn K (.ref c) x = true
  kp : PySem.W.keepIn K (.ref f) = true
  g : mg x = some (.ref f)
  b : Binds K fd ps []
section
variable {P : Program} {w : World} {K : PySem.W.Frag} {mg : Str → Option Value} {base : Heap} {x : Str} {st : Stmt} {f c : Addr} {fd : FuncData} {N ps : List Str} {k : Nat} {sp : Sp}
theorem D.ok (d : D K mg x st ps f c fd) (S : FnScope N ps (defScope st)) (len : ∀ vs H Q E, sp vs H Q E → vs.length = ps.length)
    (body : ∀ (A : Around) (outer : List Env) (s : Shared) (H : Hp) (vs : List V) (Q : VK) (E : XK), Room k (A.deeper (envOfC x (defScope st) s.heap.objs.size f (.ref c))) → sp vs H Q E →
      ∃ t, PSs (cxOf CX0 P w K mg base N x (defScope st) f (.ref c) A outer s H E).nox (defBody st) t ∧ t { nx := fun _ H' => Q .non H', rt := Q } (start N vs) H) :
    FnOk P w K mg base CX0 (k + 1) f fd ps sp := by
  obtain ⟨oc, kV, doc, pm, ct, od, an, osl, rfl, lk, hcd⟩ := d.ex
  exact fn_of lk hcd S len fun A outer s H vs Q E hr hsp => (body A outer s H vs Q E hr hsp).imp fun t h => ⟨h.1.nox, h.2⟩
/-- of a def that may raise -/
theorem D.okX (d : D K mg x st ps f c fd) (S : FnScope N ps (defScope st)) (len : ∀ vs H Q E, sp vs H Q E → vs.length = ps.length)
    (body : ∀ (A : Around) (outer : List Env) (s : Shared) (H : Hp) (vs : List V) (Q : VK) (E : XK), Room k (A.deeper (envOfC x (defScope st) s.heap.objs.size f (.ref c))) → sp vs H Q E →
      ∃ t, PSs (cxOf (L2.CX P w) P w K mg base N x (defScope st) f (.ref c) A outer s H E) (defBody st) t ∧ t { nx := fun _ H' => Q .non H', rt := Q } (start N vs) H) :
    FnOk P w K mg base (L2.CX P w) (k + 1) f fd ps sp := by
  obtain ⟨oc, kV, doc, pm, ct, od, an, osl, rfl, lk, hcd⟩ := d.ex
  exact fn_of lk hcd S len body
end
theorem d_mk {K : PySem.W.Frag} {mg : Str → Option Value} {h : Heap} {x : Str} {st : Stmt} {ps : List Str} {f c : Addr} {oc kV doc pm ct : Value} {od an : Option Addr} {osl : Array (Option Value)} (X : K.In h) (G : h.Ns mainGlobals mg)
    (g : PySem.W.nsIn K mainGlobals x = some (some (.ref f)))
    (l : K.lookup f = some ⟨oc, od, .func (PySem.W.fnOf x x (defArgs st) (defBody st) (defScope st) .none kV doc pm an (.ref c) ct), osl⟩) (hc : PySem.W.codeIn K (.ref c) x = true) (kp : PySem.W.keepIn K (.ref f) = true)
    (hb : ∀ (us : List Value), us.length = ps.length → bindArgs (PySem.W.fnOf x x (defArgs st) (defBody st) (defScope st) .none kV doc pm an (.ref c) ct) ⟨us, []⟩ = pure (ps.zip us)) :
    D K mg x st ps f c (PySem.W.fnOf x x (defArgs st) (defBody st) (defScope st) .none kV doc pm an (.ref c) ct) :=
  ⟨⟨oc, kV, doc, pm, ct, od, an, osl, rfl, l, hc⟩, kp, PySem.W.mg_of X G g, .all hb⟩
/-- the loop over a walked thing -/
abbrev forB (J : It) (g : TG) (tb : TS) (D : Ends) (σ : L2.St) (H : Hp) : Prop := ∃ W : Nat → Nat → L2.St → Hp → Prop, (∃ m, W 0 m σ H) ∧ ∀ i m σ H, W i m σ H →
  (J.stop i H ∧ D.nx σ H) ∨ (J.go i H ∧ ∃ N : L2.St → Hp → Prop, (∀ σ' H', N σ' H' → ∃ m', m' < m ∧ W (i + 1) m' σ' H') ∧ ∀ x H', J.yld i H x H' → g x σ H' fun σ2 H2 => tb { D with nx := N, ct := N, bk := D.nx } σ2 H2)
def Sq (K : PySem.W.Frag) (H : Hp) (a : Addr) (xs : List V) : Prop := SqL K H a xs ∨ SqT K H a xs
theorem Le.sq {K : PySem.W.Frag} {H H' : Hp} {a : Addr} {xs : List V} (x : Le H H') (h : Sq K H a xs) : Sq K H' a xs := h.imp x.sl x.st
theorem for_sq {K : PySem.W.Frag} {a : Addr} {xs : List V} {g : TG} {tb : TS} {D : Ends} {σ : L2.St} {H : Hp} (Pv : Nat → L2.St → Hp → Prop) (h0 : Pv 0 σ H)
    (hl : (∀ i σ H, i ≤ xs.length → Pv i σ H → SqL K H a xs) ∨ (∀ i σ H, i ≤ xs.length → Pv i σ H → SqT K H a xs))
    (hs : ∀ i x σ H, xs[i]? = some x → Pv i σ H → g x σ H fun σ2 H2 => tb { D with nx := Pv (i + 1), ct := Pv (i + 1), bk := D.nx } σ2 H2) (hd : ∀ σ H, Pv xs.length σ H → D.nx σ H) :
    ((∃ ys, SqL K H a ys) ∧ forB (Itl K a) g tb D σ H) ∨ ((∃ ys, SqT K H a ys) ∧ forB (Itt K a) g tb D σ H) :=
  hl.imp (fun hl => ⟨⟨xs, hl 0 σ H (Nat.zero_le _) h0⟩, for_list Pv h0 hl hs hd⟩) (fun hl => ⟨⟨xs, hl 0 σ H (Nat.zero_le _) h0⟩, for_tup Pv h0 hl hs hd⟩)
/-- over a list or a tuple that stood in H0 -/
theorem for_seq {K : PySem.W.Frag} {a : Addr} {xs : List V} {g : TG} {tb : TS} {D : Ends} {σ : L2.St} {H : Hp} (H0 : Hp) (hq : Sq K H0 a xs) (Pv : Nat → L2.St → Hp → Prop) (h0 : Pv 0 σ H)
    (hl : ∀ i σ H', Pv i σ H' → Le H0 H')
    (hs : ∀ i x σ H, xs[i]? = some x → Pv i σ H → g x σ H fun σ2 H2 => tb { D with nx := Pv (i + 1), ct := Pv (i + 1), bk := D.nx } σ2 H2) (hd : ∀ σ H, Pv xs.length σ H → D.nx σ H) :
    ((∃ ys, SqL K H a ys) ∧ forB (Itl K a) g tb D σ H) ∨ ((∃ ys, SqT K H a ys) ∧ forB (Itt K a) g tb D σ H) :=
  for_sq Pv h0 (hq.imp (fun q i σ H' _ h => (hl i σ H' h).sl q) (fun q i σ H' _ h => (hl i σ H' h).st q)) hs hd
theorem map_get {α β : Type} {f : α → β} {l : List α} {i : Nat} {y : β} (h : (l.map f)[i]? = some y) : ∃ x, l[i]? = some x ∧ y = f x := by
  rw [List.getElem?_map] at h
  cases e : l[i]? with
  | none => rw [e] at h; cases h
  | some x => rw [e] at h; exact ⟨x, rfl, (Option.some.inj h).symm⟩
/-! ### list displays with «for» -/
abbrev lcB (J : It) (g : TG) (tt : TT) (te : TE) (vs : List Nat) (σ : L2.St) (H1 : Hp) (Q : Addr → Hp → Prop) : Prop := ∀ D, H1 D = none → ∃ W : Nat → Nat → Hp → Prop, (∃ m, W 0 m (upd H1 D (.lst []))) ∧ ∀ i m H, W i m H →
  (J.stop i H ∧ Q D H) ∨ (J.go i H ∧ ∃ Nx : Hp → Prop, (∀ H', Nx H' → ∃ m', m' < m ∧ W (i + 1) m' H') ∧ ∀ x H', J.yld i H x H' → g x (wipe σ vs) H' fun σ2 H2 => wipe σ2 vs = wipe σ vs ∧ tt σ2 H2 fun b H3 =>
    if b = true then te σ2 H3 fun y H4 => ∃ acc, H4 D = some (.lst acc) ∧ acc.length < sizeLine ∧ Nx (upd H4 D (.lst (acc ++ [y]))) else Nx H3)
/-- so far: H1 has grown, the new list at D holds acc -/
def LcP (H1 : Hp) (D : Addr) (I : Nat → List V → Hp → Prop) (i : Nat) (H : Hp) : Prop := ∃ acc, Le H1 H ∧ H D = some (.lst acc) ∧ I i acc H
theorem LcP.put {H1 H4 : Hp} {D : Addr} {I : Nat → List V → Hp → Prop} {i : Nat} {acc : List V} {y : V} (hD : H1 D = none) (hL : Le H1 H4) (e : H4 D = some (.lst acc)) (hz : acc.length < sizeLine) (h : I i (acc ++ [y]) (upd H4 D (.lst (acc ++ [y])))) :
    ∃ acc, H4 D = some (.lst acc) ∧ acc.length < sizeLine ∧ LcP H1 D I i (upd H4 D (.lst (acc ++ [y]))) := ⟨acc, e, hz, _, hL.mut hD, upd_same, h⟩
theorem lc_sq {K : PySem.W.Frag} {a : Addr} {xs : List V} {g : TG} {tt : TT} {te : TE} {vs : List Nat} {σ : L2.St} {H1 : Hp} {Q : Addr → Hp → Prop} (hq : Sq K H1 a xs) (I : Nat → List V → Hp → Prop) (h0 : ∀ D, H1 D = none → I 0 [] (upd H1 D (.lst [])))
    (hs : ∀ D i x acc H, H1 D = none → xs[i]? = some x → Le H1 H → H D = some (.lst acc) → I i acc H → g x (wipe σ vs) H fun σ2 H2 => wipe σ2 vs = wipe σ vs ∧ tt σ2 H2 fun b H3 =>
      if b = true then te σ2 H3 fun y H4 => ∃ acc, H4 D = some (.lst acc) ∧ acc.length < sizeLine ∧ LcP H1 D I (i + 1) (upd H4 D (.lst (acc ++ [y]))) else LcP H1 D I (i + 1) H3)
    (hd : ∀ D acc H, H1 D = none → Le H1 H → H D = some (.lst acc) → I xs.length acc H → Q D H) :
    ((∃ ys, SqL K H1 a ys) ∧ lcB (Itl K a) g tt te vs σ H1 Q) ∨ ((∃ ys, SqT K H1 a ys) ∧ lcB (Itt K a) g tt te vs σ H1 Q) := by
  rcases hq with q | q
  · exact .inl ⟨⟨_, q⟩, fun D hD => lc_list (LcP H1 D I) ⟨[], Le.new hD, upd_same, h0 D hD⟩ (fun i H _ ⟨_, hL, _⟩ => hL.sl q) (fun i x H hx ⟨acc, hL, e, h⟩ => hs D i x acc H hD hx hL e h) (fun H ⟨acc, hL, e, h⟩ => hd D acc H hD hL e h)⟩
  · exact .inr ⟨⟨_, q⟩, fun D hD => lc_tup (LcP H1 D I) ⟨[], Le.new hD, upd_same, h0 D hD⟩ (fun i H _ ⟨_, hL, _⟩ => hL.st q) (fun i x H hx ⟨acc, hL, e, h⟩ => hs D i x acc H hD hx hL e h) (fun H ⟨acc, hL, e, h⟩ => hd D acc H hD hL e h)⟩
theorem lc_rng {lo : Int} {n : Nat} {g : TG} {tt : TT} {te : TE} {vs : List Nat} {σ : L2.St} {H1 : Hp} {Q : Addr → Hp → Prop} (I : Nat → List V → Hp → Prop) (h0 : ∀ D, H1 D = none → I 0 [] (upd H1 D (.lst [])))
    (hs : ∀ D i acc H, H1 D = none → i < n → Le H1 H → H D = some (.lst acc) → I i acc H → g (.int (lo + i)) (wipe σ vs) H fun σ2 H2 => wipe σ2 vs = wipe σ vs ∧ tt σ2 H2 fun b H3 =>
      if b = true then te σ2 H3 fun y H4 => ∃ acc, H4 D = some (.lst acc) ∧ acc.length < sizeLine ∧ LcP H1 D I (i + 1) (upd H4 D (.lst (acc ++ [y]))) else LcP H1 D I (i + 1) H3)
    (hd : ∀ D acc H, H1 D = none → Le H1 H → H D = some (.lst acc) → I n acc H → Q D H) : lcB (Itr lo n) g tt te vs σ H1 Q :=
  fun D hD => lc_range (LcP H1 D I) ⟨[], Le.new hD, upd_same, h0 D hD⟩ (fun i H hi ⟨acc, hL, e, h⟩ => hs D i acc H hD hi hL e h) (fun H ⟨acc, hL, e, h⟩ => hd D acc H hD hL e h)
/-- an own exception class without own __init__ -/
structure OwnX (K : PySem.W.Frag) (mg : Str → Option Value) (x : Str) (C : Addr) : Prop where
  g : mg x = some (.ref C)
  kp : PySem.W.keepIn K (.ref C) = true
  ex : PySem.W.excIn K C [.type "Exception", .type "BaseException", .type "object"] "Exception.__new__" = true
  sub : PySem.W.subIn K (.ref C) (.type "BaseException") = some true
  ty : PySem.W.typeIn K (.ref C) = some (.type "type")
theorem pmk_ownX {X : Cx} {C : Addr} {x m : Str} {j : Nat} {p p2 pos : Pos} (T : OwnX X.K X.mg x C) (hg : Gl X x) (hdb : (x == ("__debug__" : Str)) = false := by decide) :
    PMk X (.Call (.Name x p) [.Constant (.str m) j p2] [] pos) (fun _ H Q => Q (.ref C) none H) := pmk_own PySem.F.excBase_Exception T.ex T.g T.kp (raises_own T.sub T.ty) hg hdb
theorem ifT {c : Bool} {A B : Prop} (hc : c = true) (h : A) : if c = true then A else B := by
  subst hc
  exact h
theorem ifF {c : Bool} {A B : Prop} (hc : c = false) (h : B) : if c = true then A else B := by
  subst hc
  exact h
theorem if2 {c : Bool} {A B : Prop} (h1 : c = true → A) (h2 : c = false → B) : if c = true then A else B := by
  cases c with
  | true => exact h1 rfl
  | false => exact h2 rfl
theorem u64 {k : Nat} {A : Around} (r : Room k A) : A.units + 64 < cLine := r.units
end Zl
namespace GxR
open PySem PySem.Spec PyProof.Rows L2
theorem gs_plain {env : Env} {scope : Scope} {x : Str} (a : scope.kind = .function) (b : scope.isCoroutine = false) (c : ∀ y ∈ scope.names, y.2 ≠ .cell) (d : scope.names.lookup (".0" : Str) = some NameKind.local) (e : scope.names.lookup x = some .local) (f : ∀ y ∈ scope.names, y.2 ≠ .free) : GenS env scope x :=
  ⟨a, b, c, d, e, fun y hy h => absurd h (f y hy)⟩
end GxR
set_option linter.all false
set_option Elab.async false
/-! K11: the plain law. Texts are lists of codes. -/
namespace K11
def cds (s : String) : List Nat := s.toList.map Char.toNat
def lowS : List Nat := cds "abcdefghijklmnopqrstuvwxyz"
def upS : List Nat := cds "ABCDEFGHIJKLMNOPQRSTUVWXYZ"
def figS : List Nat := cds "0123456789"
def nameS : List Nat := lowS ++ figS ++ [95]
def makerS : List Nat := upS ++ lowS ++ figS ++ [95]
def blankS : List Nat := [32, 10]
def keysL : List (List Nat) := [cds "kind", cds "let", cds "rec", cds "in", cds "fun", cds "case", cds "of", cds "end", cds "trap"]
def marksP : List (List Nat) := [cds "->", cds "==", cds "(", cds ")", cds "=", cds "|", cds ";", cds ",", cds "+", cds "-", cds "*", cds "/", cds "<", cds "_"]
def marksL : List (List Nat) := [cds "(", cds ")", cds "=", cds "|", cds ";", cds ",", cds "->", cds "+", cds "-", cds "*", cds "/", cds "<", cds "==", cds "_"]
def sName := cds "name"
def sMaker := cds "maker"
def sNumber := cds "number"
def sKey := cds "key"
def sMark := cds "mark"

/-- how many signs from the beginning are among these -/
def runLen (p l : List Nat) : Nat := (l.takeWhile fun c => decide (c ∈ p)).length
theorem runLen_le (p l : List Nat) : runLen p l ≤ l.length := (List.takeWhile_sublist _).length_le
theorem runLen_nil (p : List Nat) : runLen p [] = 0 := rfl
theorem runLen_yes {p : List Nat} {c : Nat} {r : List Nat} (h : c ∈ p) : runLen p (c :: r) = runLen p r + 1 := by
  unfold runLen
  rw [List.takeWhile_cons_of_pos (by simpa using h), List.length_cons]
theorem runLen_no {p : List Nat} {c : Nat} {r : List Nat} (h : c ∉ p) : runLen p (c :: r) = 0 := by
  unfold runLen
  rw [List.takeWhile_cons_of_neg (by simpa using h), List.length_nil]
theorem runLen_congr {p q : List Nat} (h : ∀ c, c ∈ p ↔ c ∈ q) (l : List Nat) : runLen p l = runLen q l := by
  unfold runLen
  congr 2
  funext c
  exact decide_eq_decide.mpr (h c)

/-! ### the program's word -/
def alphaS : List Nat := lowS ++ upS ++ [95]
def numLen (l : List Nat) : Option Nat :=
  let n := runLen figS l
  if n > 12 ∨ (l.head? = some 48 ∧ n > 1) then none
  else match l[n]? with
    | some d => if d ∈ alphaS then none else some n
    | none => some n
def firstMark (l : List Nat) : List (List Nat) → Option (List Nat × Nat)
  | [] => none
  | m :: r => if l.take m.length = m then some (sMark, m.length) else firstMark l r
def wordAt (l : List Nat) : Option (List Nat × Nat) :=
  match l with
  | [] => none
  | c :: _ =>
    if c ∈ figS then (numLen l).map fun n => (sNumber, n)
    else if c ∈ lowS ∨ c ∈ upS then
      let n := runLen (if c ∈ lowS then nameS else makerS) l
      if n > 12 then none
      else if l.take n ∈ keysL then some (sKey, n)
      else some (if c ∈ lowS then sName else sMaker, n)
    else firstMark l marksP

theorem firstMark_mark {l : List Nat} : ∀ {ms : List (List Nat)} {k : List Nat} {n : Nat}, (∀ m ∈ ms, m ≠ []) → firstMark l ms = some (k, n) → 0 < n ∧ n ≤ l.length
  | [], _, _, _, h => by cases h
  | m :: r, k, n, hm, h => by
    unfold firstMark at h
    split at h
    · rename_i e
      cases h
      have h1 := hm m List.mem_cons_self
      have h2 : (l.take m.length).length = m.length := by rw [e]
      rw [List.length_take] at h2
      exact ⟨List.length_pos_iff.mpr h1, by omega⟩
    · exact firstMark_mark (fun m' h' => hm m' (List.mem_cons_of_mem _ h')) h
theorem wordAt_pos {l k : List Nat} {n : Nat} (h : wordAt l = some (k, n)) : 0 < n ∧ n ≤ l.length := by
  unfold wordAt at h
  split at h
  · cases h
  · rename_i c r
    split at h
    · rename_i hc
      unfold numLen at h
      have hp := runLen_yes (r := r) hc
      have hl := runLen_le figS (c :: r)
      dsimp only at h
      split at h
      · cases h
      · split at h
        · split at h
          · cases h
          · cases h; omega
        · cases h; omega
    · split at h
      · rename_i hf hc
        have hin : c ∈ (if c ∈ lowS then nameS else makerS) := by
          by_cases hl : c ∈ lowS
          · rw [if_pos hl]; unfold nameS; simp [hl]
          · rw [if_neg hl]; unfold makerS
            rcases hc with hc | hc
            · exact absurd hc hl
            · simp [hc]
        generalize (if c ∈ lowS then nameS else makerS) = p at hin h
        generalize (if c ∈ lowS then sName else sMaker) = q at h
        have hp := runLen_yes (r := r) hin
        have hl := runLen_le p (c :: r)
        dsimp only at h
        split at h
        · cases h
        · split at h
          · cases h; omega
          · cases h; omega
      · exact firstMark_mark (by decide +kernel) h

/-! ### reading on -/
structure Row where
  srt : List Nat
  w : List Nat
  a : Nat
  b : Nat
def tk : Nat → List Nat → Nat → List Row → Except Nat (List Row)
  | 0, _, _, rows => .ok rows
  | _ + 1, [], _, rows => .ok rows
  | f + 1, c :: r, at_, rows =>
    if c ∈ blankS then tk f r (at_ + 1) rows
    else match wordAt (c :: r) with
      | none => .error at_
      | some (k, n) => tk f ((c :: r).drop n) (at_ + n) (rows ++ [⟨k, (c :: r).take n, at_, at_ + n⟩])
theorem tk_fuel : ∀ (f g : Nat) (l : List Nat) (a : Nat) (rows : List Row), l.length ≤ f → l.length ≤ g → tk f l a rows = tk g l a rows
  | 0, 0, _, _, _, _, _ => rfl
  | 0, g + 1, [], _, _, _, _ => rfl
  | 0, g + 1, c :: r, _, _, h, _ => by simp at h
  | f + 1, 0, [], _, _, _, _ => rfl
  | f + 1, 0, c :: r, _, _, _, h => by simp at h
  | f + 1, g + 1, [], _, _, _, _ => rfl
  | f + 1, g + 1, c :: r, a, rows, hf, hg => by
    rw [List.length_cons] at hf hg
    unfold tk
    split
    · exact tk_fuel f g r _ _ (by omega) (by omega)
    · split
      · rfl
      · rename_i k n e
        have hn := wordAt_pos e
        have hd : ((c :: r).drop n).length ≤ r.length := by rw [List.length_drop, List.length_cons]; omega
        exact tk_fuel f g _ _ _ (by omega) (by omega)
/-- the rest l, from the place a on, behind rows -/
def rd (l : List Nat) (a : Nat) (rows : List Row) : Except Nat (List Row) := tk l.length l a rows
theorem rd_nil (a : Nat) (rows : List Row) : rd [] a rows = .ok rows := rfl
theorem rd_blank {c : Nat} {r : List Nat} {a : Nat} {rows : List Row} (h : c ∈ blankS) : rd (c :: r) a rows = rd r (a + 1) rows := by
  unfold rd
  rw [List.length_cons]
  conv => lhs; unfold tk
  rw [if_pos h]
theorem rd_bad {c : Nat} {r : List Nat} {a : Nat} {rows : List Row} (h : c ∉ blankS) (e : wordAt (c :: r) = none) : rd (c :: r) a rows = .error a := by
  unfold rd
  rw [List.length_cons]
  conv => lhs; unfold tk
  rw [if_neg h, e]
theorem rd_word {c : Nat} {r k : List Nat} {a n : Nat} {rows : List Row} (h : c ∉ blankS) (e : wordAt (c :: r) = some (k, n)) :
    rd (c :: r) a rows = rd ((c :: r).drop n) (a + n) (rows ++ [⟨k, (c :: r).take n, a, a + n⟩]) := by
  unfold rd
  rw [List.length_cons]
  conv => lhs; unfold tk
  rw [if_neg h, e]
  have hn := wordAt_pos e
  refine tk_fuel _ _ _ _ _ ?_ (Nat.le_refl _)
  rw [List.length_drop, List.length_cons]; omega
theorem rd_blanks : ∀ (l : List Nat) (a : Nat) (rows : List Row), rd l a rows = rd (l.drop (runLen blankS l)) (a + runLen blankS l) rows
  | [], _, _ => rfl
  | c :: r, a, rows => by
    by_cases h : c ∈ blankS
    · rw [rd_blank h, rd_blanks r, runLen_yes h, List.drop_succ_cons]
      congr 1; omega
    · rw [runLen_no h]; rfl

/-! ### the law's word -/
def lawSigns (c : Nat) : List Nat := if c ∈ figS then figS else if c ∈ upS then lowS ++ upS ++ figS ++ [95] else lowS ++ figS ++ [95]
def lawSort (c : Nat) : List Nat := if c ∈ figS then sNumber else if c ∈ upS then sMaker else sName
def lawWord (c : Nat) (r : List Nat) : Option (List Nat × Nat) :=
  let l := c :: r
  if c ∈ lowS ++ upS ++ figS then
    let n := runLen (lawSigns c) r + 1
    let w := l.take n
    let s := if w ∈ keysL then sKey else lawSort c
    if n > 12 ∨ (s = sNumber ∧ ((w.head? = some 48 ∧ w ≠ [48]) ∨ (∃ d, l[n]? = some d ∧ d ∈ alphaS))) then none else some (s, n)
  else
    let fits := marksL.filter fun m => decide (l.take m.length = m)
    match fits with
    | [] => none
    | m :: ms => some (sMark, (ms.map List.length).foldl max m.length)

theorem low_not_up : ∀ c ∈ lowS, c ∉ upS := by decide +kernel
theorem low_not_fig : ∀ c ∈ lowS, c ∉ figS := by decide +kernel
theorem up_not_fig : ∀ c ∈ upS, c ∉ figS := by decide +kernel
theorem keys_low : ∀ w ∈ keysL, ∃ c r, w = c :: r ∧ c ∈ lowS := by
  intro w hw
  have h : keysL.all (fun w => match w with | c :: _ => decide (c ∈ lowS) | [] => false) = true := by decide +kernel
  have h2 := List.all_eq_true.mp h w hw
  cases w with
  | nil => cases h2
  | cons c r => exact ⟨c, r, rfl, by simpa using h2⟩
theorem key_first {c : Nat} {r : List Nat} {n : Nat} (hn : 0 < n) (h : (c :: r).take n ∈ keysL) : c ∈ lowS := by
  obtain ⟨d, s, e, hd⟩ := keys_low _ h
  cases n with
  | zero => omega
  | succ n => rw [List.take_succ_cons] at e; cases e; exact hd
theorem sKey_ne : sKey ≠ sNumber := by decide +kernel
theorem sName_ne : sName ≠ sNumber := by decide +kernel
theorem sMaker_ne : sMaker ≠ sNumber := by decide +kernel

theorem fits_of (l : List Nat) : ∀ (x y : Nat) (r : List Nat), True := fun _ _ _ => trivial

/-- the marks: the first of the program's is the longest of the law's -/
theorem mark_word (l : List Nat) : firstMark l marksP = (match marksL.filter fun m => decide (l.take m.length = m) with
    | [] => none
    | m :: ms => some (sMark, (ms.map List.length).foldl max m.length)) := by
  cases l with
  | nil => decide +kernel
  | cons c r =>
    cases r with
    | nil =>
      have h1 : ∀ d : Nat, ((c :: ([] : List Nat)).take 1 = [d]) = (c = d) := fun d => by simp
      have h2 : ∀ d e : Nat, ((c :: ([] : List Nat)).take 2 = [d, e]) = False := fun d e => by simp
      have t1 : (c :: ([] : List Nat)).take 1 = [c] := rfl
      have t2 : (c :: ([] : List Nat)).take 2 = [c] := rfl
      simp only [marksP, marksL, cds, firstMark]
      by_cases hc : c ∈ ([40, 41, 61, 124, 59, 44, 43, 45, 42, 47, 60, 95] : List Nat)
      · simp only [List.mem_cons, List.not_mem_nil, or_false] at hc
        rcases hc with rfl | rfl | rfl | rfl | rfl | rfl | rfl | rfl | rfl | rfl | rfl | rfl <;> decide +kernel
      · simp only [List.mem_cons, List.not_mem_nil, or_false, not_or] at hc
        obtain ⟨a1, a2, a3, a4, a5, a6, a7, a8, a9, a10, a11, a12⟩ := hc
        simp [firstMark, List.filter, a1, a2, a3, a4, a5, a6, a7, a8, a9, a10, a11, a12]
    | cons d s =>
      by_cases hc : c ∈ ([40, 41, 61, 124, 59, 44, 43, 45, 42, 47, 60, 95] : List Nat)
      · simp only [List.mem_cons, List.not_mem_nil, or_false] at hc
        by_cases h45 : d = 62
        · subst h45
          rcases hc with rfl | rfl | rfl | rfl | rfl | rfl | rfl | rfl | rfl | rfl | rfl | rfl <;> simp [firstMark, marksP, marksL, cds, List.filter]
        · by_cases h61 : d = 61
          · subst h61
            rcases hc with rfl | rfl | rfl | rfl | rfl | rfl | rfl | rfl | rfl | rfl | rfl | rfl <;> simp [firstMark, marksP, marksL, cds, List.filter]
          · rcases hc with rfl | rfl | rfl | rfl | rfl | rfl | rfl | rfl | rfl | rfl | rfl | rfl <;> simp [firstMark, marksP, marksL, cds, List.filter, h45, h61]
      · simp only [List.mem_cons, List.not_mem_nil, or_false, not_or] at hc
        obtain ⟨a1, a2, a3, a4, a5, a6, a7, a8, a9, a10, a11, a12⟩ := hc
        simp [firstMark, marksP, marksL, cds, List.filter, a1, a2, a3, a4, a5, a6, a7, a8, a9, a10, a11, a12]

theorem alpha_mem {c : Nat} : c ∈ lowS ++ upS ++ figS ↔ c ∈ figS ∨ c ∈ lowS ∨ c ∈ upS := by
  simp only [List.mem_append]
  constructor
  · rintro ((h | h) | h)
    · exact .inr (.inl h)
    · exact .inr (.inr h)
    · exact .inl h
  · rintro (h | h | h)
    · exact .inr h
    · exact .inl (.inl h)
    · exact .inl (.inr h)
theorem maker_iff (c : Nat) : c ∈ lowS ++ upS ++ figS ++ [95] ↔ c ∈ makerS := by
  unfold makerS
  simp only [List.mem_append]
  constructor
  · rintro (((h | h) | h) | h)
    · exact .inl (.inl (.inr h))
    · exact .inl (.inl (.inl h))
    · exact .inl (.inr h)
    · exact .inr h
  · rintro (((h | h) | h) | h)
    · exact .inl (.inl (.inr h))
    · exact .inl (.inl (.inl h))
    · exact .inl (.inr h)
    · exact .inr h
theorem take_one_of {c : Nat} {r : List Nat} {n : Nat} (hn : 0 < n) (hl : n ≤ r.length + 1) : (c :: r).take n = [c] ↔ n = 1 := by
  cases n with
  | zero => omega
  | succ n =>
    rw [List.take_succ_cons]
    constructor
    · intro h
      have h2 : (r.take n).length = 0 := by rw [(List.cons.inj h).2]; rfl
      rw [List.length_take] at h2
      omega
    · intro h
      have : n = 0 := by omega
      subst this; rfl
theorem law_word (c : Nat) (r : List Nat) : lawWord c r = wordAt (c :: r) := by
  unfold lawWord wordAt
  dsimp only
  by_cases hf : c ∈ figS
  · have hnl : c ∉ lowS := fun h => low_not_fig c h hf
    rw [if_pos (alpha_mem.mpr (.inl hf)), if_pos hf]
    have e1 : lawSigns c = figS := if_pos hf
    have e2 : lawSort c = sNumber := if_pos hf
    rw [e1, e2]
    have hr : runLen figS r + 1 = runLen figS (c :: r) := (runLen_yes hf).symm
    rw [hr]
    have hpos : 0 < runLen figS (c :: r) := by omega
    have hle := runLen_le figS (c :: r)
    have hk : (c :: r).take (runLen figS (c :: r)) ∉ keysL := fun h => hnl (key_first hpos h)
    rw [if_neg hk]
    unfold numLen
    dsimp only
    generalize hN : runLen figS (c :: r) = n at *
    rw [List.length_cons] at hle
    have hh : ((c :: r).take n).head? = some c := by
      cases n with
      | zero => omega
      | succ n => rfl
    have hh2 : (c :: r).head? = some c := rfl
    rw [hh, hh2]
    by_cases h1 : n > 12
    · rw [if_pos (.inl h1), if_pos (.inl h1)]; rfl
    · by_cases h2 : c = 48 ∧ n > 1
      · obtain ⟨rfl, h2⟩ := h2
        have hne : (48 :: r).take n ≠ [48] := fun e => by
          have := (take_one_of hpos hle).mp e; omega
        rw [if_pos (.inr ⟨rfl, .inl ⟨rfl, hne⟩⟩), if_pos (.inr ⟨rfl, h2⟩)]; rfl
      · have h3 : ¬ (some c = some 48 ∧ n > 1) := fun ⟨a, b⟩ => h2 ⟨Option.some.inj a, b⟩
        rw [if_neg (show ¬ (n > 12 ∨ (some c = some 48 ∧ n > 1)) from fun h => h.elim h1 h3)]
        have h4 : ¬ (some c = some 48 ∧ (c :: r).take n ≠ [48]) := fun ⟨a, b⟩ => by
          have a' := Option.some.inj a
          subst a'
          have h5 : n ≠ 1 := fun e => b ((take_one_of hpos hle).mpr e)
          exact h2 ⟨rfl, by omega⟩
        cases hd : (c :: r)[n]? with
        | none =>
          rw [if_neg (fun h => by
            rcases h with h | ⟨_, h | ⟨d, h, _⟩⟩
            · exact h1 h
            · exact h4 h
            · cases h)]
          rfl
        | some d =>
          by_cases ha : d ∈ alphaS
          · rw [if_pos (.inr ⟨rfl, .inr ⟨d, rfl, ha⟩⟩)]
            dsimp only
            rw [if_pos ha]; rfl
          · rw [if_neg (fun h => by
              rcases h with h | ⟨_, h | ⟨d', h, h'⟩⟩
              · exact h1 h
              · exact h4 h
              · cases h; exact ha h')]
            dsimp only
            rw [if_neg ha]; rfl
  · rw [if_neg hf]
    by_cases hl : c ∈ lowS ∨ c ∈ upS
    · rw [if_pos (alpha_mem.mpr (.inr hl)), if_pos hl]
      have key : ∀ (p q s t : List Nat), c ∈ p → (∀ x, x ∈ q ↔ x ∈ p) → lawSigns c = q → lawSort c = s → s ≠ sNumber → t = s →
          (if runLen (lawSigns c) r + 1 > 12 ∨ ((if (c :: r).take (runLen (lawSigns c) r + 1) ∈ keysL then sKey else lawSort c) = sNumber ∧ ((((c :: r).take (runLen (lawSigns c) r + 1)).head? = some 48 ∧ (c :: r).take (runLen (lawSigns c) r + 1) ≠ [48]) ∨ (∃ d, (c :: r)[runLen (lawSigns c) r + 1]? = some d ∧ d ∈ alphaS)))
            then none else some ((if (c :: r).take (runLen (lawSigns c) r + 1) ∈ keysL then sKey else lawSort c), runLen (lawSigns c) r + 1)) =
          (if runLen p (c :: r) > 12 then none else if (c :: r).take (runLen p (c :: r)) ∈ keysL then some (sKey, runLen p (c :: r)) else some (t, runLen p (c :: r))) := by
        intro p q s t hp hq e1 e2 hs et
        subst et
        rw [e1, e2, runLen_congr hq r, runLen_yes hp]
        generalize runLen p r + 1 = n
        by_cases h1 : n > 12
        · rw [if_pos (.inl h1), if_pos h1]
        · have hn : ¬ ((if (c :: r).take n ∈ keysL then sKey else t) = sNumber) := by
            split
            · exact sKey_ne
            · exact hs
          rw [if_neg (fun h => h.elim h1 fun h => hn h.1), if_neg h1]
          split <;> rfl
      by_cases hlow : c ∈ lowS
      · have hu := low_not_up c hlow
        rw [if_pos hlow, if_pos hlow]
        refine key nameS (lowS ++ figS ++ [95]) sName sName (by unfold nameS; simp [hlow]) (fun x => Iff.rfl) ?_ ?_ sName_ne rfl
        · unfold lawSigns; rw [if_neg hf, if_neg hu]
        · unfold lawSort; rw [if_neg hf, if_neg hu]
      · have hu : c ∈ upS := hl.resolve_left hlow
        rw [if_neg hlow, if_neg hlow]
        refine key makerS (lowS ++ upS ++ figS ++ [95]) sMaker sMaker (by unfold makerS; simp [hu]) maker_iff ?_ ?_ sMaker_ne rfl
        · unfold lawSigns; rw [if_neg hf, if_pos hu]
        · unfold lawSort; rw [if_neg hf, if_pos hu]
    · rw [if_neg (fun h => by
        rcases alpha_mem.mp h with h | h
        · exact hf h
        · exact hl h), if_neg hl]
      exact (mark_word (c :: r)).symm

/-! ### words joined by blanks -/
def joinW : List (List Nat) → List Nat
  | [] => []
  | [w] => w
  | w :: v :: r => w ++ 32 :: joinW (v :: r)
def Good (w : List Nat) (k : List Nat) : Prop := wordAt w = some (k, w.length) ∧ ∃ c r, w = c :: r ∧ c ∉ blankS
theorem runLen_append {p w : List Nat} {d : Nat} {s : List Nat} (hd : d ∉ p) : runLen p (w ++ d :: s) = runLen p w := by
  induction w with
  | nil => rw [List.nil_append, runLen_no hd]; rfl
  | cons c r ih =>
    by_cases h : c ∈ p
    · rw [List.cons_append, runLen_yes h, runLen_yes h, ih]
    · rw [List.cons_append, runLen_no h, runLen_no h]
theorem firstMark_append {w : List Nat} {d : Nat} {s : List Nat} : ∀ {ms : List (List Nat)}, (∀ m ∈ ms, d ∉ m) → firstMark (w ++ d :: s) ms = firstMark w ms
  | [], _ => rfl
  | m :: r, h => by
    have hm := h m List.mem_cons_self
    unfold firstMark
    have e : ((w ++ d :: s).take m.length = m) ↔ (w.take m.length = m) := by
      by_cases hl : m.length ≤ w.length
      · rw [List.take_append_of_le_length hl]
      · constructor
        · intro q
          exfalso
          apply hm
          rw [← q]
          rw [List.take_append]
          refine List.mem_append_right _ ?_
          have : m.length - w.length = (m.length - w.length - 1) + 1 := by omega
          rw [this, List.take_succ_cons]
          exact List.mem_cons_self
        · intro q
          have h2 : (w.take m.length).length = m.length := by rw [q]
          rw [List.length_take] at h2
          omega
    by_cases q : w.take m.length = m
    · rw [if_pos q, if_pos (e.mpr q)]
    · rw [if_neg q, if_neg (fun h => q (e.mp h)), firstMark_append fun m' h' => h m' (List.mem_cons_of_mem _ h')]
theorem wordAt_append {w k : List Nat} {s : List Nat} (h : wordAt w = some (k, w.length)) : wordAt (w ++ 32 :: s) = some (k, w.length) := by
  cases w with
  | nil => cases h
  | cons c r =>
    have n1 : (32 : Nat) ∉ figS := by decide +kernel
    have n2 : (32 : Nat) ∉ nameS := by decide +kernel
    have n3 : (32 : Nat) ∉ makerS := by decide +kernel
    have n4 : ∀ m ∈ marksP, (32 : Nat) ∉ m := by decide +kernel
    have n5 : (32 : Nat) ∉ alphaS := by decide +kernel
    rw [← h]
    show wordAt (c :: (r ++ 32 :: s)) = wordAt (c :: r)
    unfold wordAt
    dsimp only
    have ea : c :: (r ++ 32 :: s) = (c :: r) ++ 32 :: s := rfl
    by_cases hf : c ∈ figS
    · rw [if_pos hf, if_pos hf]
      have h' := h
      unfold wordAt at h'
      dsimp only at h'
      rw [if_pos hf] at h'
      unfold numLen at h' ⊢
      rw [ea, runLen_append n1]
      have hle := runLen_le figS (c :: r)
      generalize runLen figS (c :: r) = n at *
      have hh : ((c :: r) ++ 32 :: s).head? = (c :: r).head? := rfl
      dsimp only at h' ⊢
      rw [hh]
      split at h'
      · cases h'
      · rename_i hc
        rw [if_neg hc]
        split at h'
        · split at h'
          · cases h'
          · rename_i d hd _
            have e3 : n = (c :: r).length := by
              have := (Prod.mk.inj (Option.some.inj h')).2
              exact this
            rw [e3] at hd
            simp at hd
        · rename_i hd
          have e3 : n = (c :: r).length := (Prod.mk.inj (Option.some.inj h')).2
          subst e3
          have : ((c :: r) ++ 32 :: s)[(c :: r).length]? = some 32 := by
            rw [List.getElem?_append_right (Nat.le_refl _), Nat.sub_self]; rfl
          rw [this]
          dsimp only
          rw [if_neg n5, if_neg hc]
    · rw [if_neg hf, if_neg hf]
      by_cases hl : c ∈ lowS ∨ c ∈ upS
      · rw [if_pos hl, if_pos hl, ea]
        have n6 : (32 : Nat) ∉ (if c ∈ lowS then nameS else makerS) := by split <;> assumption
        rw [runLen_append n6]
        have hle := runLen_le (if c ∈ lowS then nameS else makerS) (c :: r)
        rw [List.take_append_of_le_length hle]
      · rw [if_neg hl, if_neg hl, ea, firstMark_append n4]

def rowsOf : List (List Nat × List Nat) → Nat → List Row
  | [], _ => []
  | (w, k) :: r, a => ⟨k, w, a, a + w.length⟩ :: rowsOf r (a + w.length + 1)
theorem rowsOf_words : ∀ (ws : List (List Nat × List Nat)) (a : Nat), (rowsOf ws a).map Row.w = ws.map (·.1)
  | [], _ => rfl
  | (w, k) :: r, a => by
    show w :: _ = w :: _
    rw [rowsOf_words r]
theorem rowsOf_len : ∀ (ws : List (List Nat × List Nat)) (a : Nat), (rowsOf ws a).length = ws.length
  | [], _ => rfl
  | (w, k) :: r, a => by
    show (rowsOf r _).length + 1 = r.length + 1
    rw [rowsOf_len r]
theorem rd_join : ∀ (ws : List (List Nat × List Nat)) (a : Nat) (rows : List Row), (∀ p ∈ ws, Good p.1 p.2) → rd (joinW (ws.map (·.1))) a rows = .ok (rows ++ rowsOf ws a)
  | [], a, rows, _ => by
    show rd [] a rows = .ok (rows ++ [])
    rw [List.append_nil]; rfl
  | [(w, k)], a, rows, h => by
    obtain ⟨hw, c, r, e, hb⟩ := h (w, k) List.mem_cons_self
    dsimp only at hw e
    show rd w a rows = .ok (rows ++ [⟨k, w, a, a + w.length⟩])
    rw [e] at hw ⊢
    rw [rd_word hb hw, List.drop_length, rd_nil, List.take_length]
  | (w, k) :: (v, k2) :: r, a, rows, h => by
    obtain ⟨hw, c, s, e, hb⟩ := h (w, k) List.mem_cons_self
    dsimp only at hw e
    show rd (w ++ 32 :: joinW (v :: r.map (·.1))) a rows = .ok (rows ++ (⟨k, w, a, a + w.length⟩ :: rowsOf ((v, k2) :: r) (a + w.length + 1)))
    have hw2 := wordAt_append (s := joinW (v :: r.map (·.1))) hw
    have ih := rd_join ((v, k2) :: r) (a + w.length + 1) (rows ++ [⟨k, w, a, a + w.length⟩]) fun p hp => h p (List.mem_cons_of_mem _ hp)
    have e2 : (rows ++ [⟨k, w, a, a + w.length⟩]) ++ rowsOf ((v, k2) :: r) (a + w.length + 1) = rows ++ (⟨k, w, a, a + w.length⟩ :: rowsOf ((v, k2) :: r) (a + w.length + 1)) := by
      rw [List.append_assoc]; rfl
    rw [← e2, ← ih]
    have e3 : joinW (((v, k2) :: r).map (·.1)) = joinW (v :: r.map (·.1)) := rfl
    rw [e3]
    generalize joinW (v :: r.map (·.1)) = z at *
    have e4 : w ++ 32 :: z = c :: (s ++ 32 :: z) := by rw [e]; rfl
    have e5 : (c :: (s ++ 32 :: z)).drop w.length = 32 :: z := by rw [← e4, List.drop_left]
    have e6 : (c :: (s ++ 32 :: z)).take w.length = w := by rw [← e4, List.take_left]
    rw [e4] at hw2 ⊢
    rw [rd_word hb hw2, e5, e6, rd_blank (by decide)]

/-! ### lines -/
def begins (l : List Nat) : List Nat := 0 :: ((List.range l.length).filter fun k => decide (l[k]? = some 10)).map (· + 1)
def lineOf (l : List Nat) (n : Nat) : Nat := ((begins l).filter fun b => decide (b ≤ n)).length - 1
theorem lineOf_lt (l : List Nat) (n : Nat) : lineOf l n < (begins l).length := by
  unfold lineOf
  have h1 : ((begins l).filter fun b => decide (b ≤ n)).length ≤ (begins l).length := List.length_filter_le _ _
  have h2 : 0 < (begins l).length := by unfold begins; simp
  omega
theorem lineOf_pos (l : List Nat) (n : Nat) : 0 < ((begins l).filter fun b => decide (b ≤ n)).length := by
  unfold begins
  rw [List.filter_cons_of_pos (by simp)]
  simp
end K11
set_option Elab.async false
set_option linter.all false
set_option maxRecDepth 100000
set_option maxHeartbeats 4000000
/-! An own exception class over an own base over Exception, whose __init__ hands a text to super().__init__ and keeps its argument in one field. -/
namespace Sup
open PySem PySem.W PySem.Calls PyProof.Rows
/-- how such an __init__ is written: the text `msg`, the parameter and field `fd` -/
def bodyOf (msg fd : Str) (q1 q2 q3 q4 q5 q6 q7 q8 q9 q10 q11 q12 q13 q14 : Pos) : List Stmt :=
  [.Expr (.Call (.Attribute (.Call (.Name "super" q1) [] [] q2) "__init__" q3) [.BinOp (.Constant (.str msg) 0 q4) .Add (.Call (.Name "str" q5) [.Name fd q6] [] q7) q8] [] q9) q10,
   .Assign [.Attribute (.Name "self" q11) fd q12] (.Name fd q13) q14]
def argsOf (fd : Str) (p1 p2 : Pos) : Arguments := { posonlyargs := [], args := [{ arg := "self", annotation := none, pos := p1 }, { arg := fd, annotation := none, pos := p2 }], vararg := none, kwonlyargs := [], kw_defaults := [], kwarg := none, defaults := [] }
def scopeOf (fd : Str) : Scope := { kind := .function, names := [("self", .local), (fd, .local), ("__class__", .free), ("super", .globalImplicit), ("str", .globalImplicit)], isGenerator := false, isCoroutine := false }
/-- what the written part says of the class at C (its base at B), of its __init__ at fI, whose __class__ cell stands at cc -/
structure Txt (prog : Program) (K : Frag) (mg : Str → Option Value) (x : Str) (msg : Str) (C B fI cc : Addr) : Prop where
  gC : mg x = some (.ref C)
  cls : ∃ nm q N bs sn sub ab col dd k0 k1 k2 k3 k5, K.lookup C = some (excClassObj nm q C N bs (.ref B :: ESX.exTail) true sn sub ab col dd k0 k1 k2 k3 k5 "Exception.__new__")
  sa : findIn K (.ref C) "__setattr__" = some (some (.builtin "object.__setattr__"))
  ga : findIn K (.ref C) "__getattribute__" = some (some (.builtin "BaseException.__getattribute__"))
  gg : findIn K (.ref C) "__getattr__" = some none
  noN : findIn K (.ref C) "at" = some none
  iC : findIn K (.ref C) "__init__" = some (some (.ref fI))
  tI : typeIn K (.ref fI) = some (.type "function")
  kC : keepIn K (.ref C) = true
  exC : subIn K (.ref C) (.type "BaseException") = some true
  exE : subIn K (.ref C) (.type "Exception") = some true
  tyC : typeIn K (.ref C) = some (.type "type")
  hdC : hasDictIn K C = true
  self : mroIn K C (.ref C) = some true
  along : alongIn K "__init__" (.ref B :: ESX.exTail) = some (some (.builtin "Exception.__init__"))
  opq : nsIn K cStatics "thirdparty.any" = some none
  te : exmOne K (.ref C) (.ref C) = some true
  fn : ∃ (oc : Value) (od : Option Addr) (doc pm : Value) (an : Option Addr) (cda : Addr) (ct : Value) (osl : Array (Option Value)) (qual : Str) (p1 p2 q1 q2 q3 q4 q5 q6 q7 q8 q9 q10 q11 q12 q13 q14 : Pos),
    K.lookup fI = some ⟨oc, od, .func (ksFn "__init__" qual (argsOf "at" p1 p2) (bodyOf msg "at" q1 q2 q3 q4 q5 q6 q7 q8 q9 q10 q11 q12 q13 q14) (scopeOf "at") .none .none doc pm an (.ref cda) ct cc), osl⟩ ∧ codeIn K (.ref cda) qual = true ∧ (q3.endLine == q9.line) = true ∧
      ∃ (ccl : Value) (cdd : Option Addr) (vs : Array Value) (ccs : Array (Option Value)) (file : Str) (tf : Tok), K.lookup cda = some ⟨ccl, cdd, .fields vs, ccs⟩ ∧ vs[2]? = some (.str file tf) ∧ ((prog.main.file : Str) == file) = true
  cell : ∃ (cl : Value) (cld : Option Addr) (csl : Array (Option Value)), K.lookup cc = some ⟨cl, cld, .cell (some (.ref C)), csl⟩
  clsA : findIn K (.ref C) "__class__" = some (some (.builtin "object.__class__"))
  getA : specialIn K (.builtin "object.__class__") "__get__" = some (some (.builtin "getset_descriptor.__get__"))
  tkA : takesIn K (.builtin "object.__class__") = some true
  obA : mroIn K C (.type "object") = some true
  top : (prog.main.scope.names.lookup ("super" : Str)).isSome = false
  sup : mg "super" = none
  str : mg "str" = none
/-- what __init__ leaves of a fresh exception at x -/
structure Left (h h' : Heap) (x C dx t1 : Addr) (v : Value) : Prop where
  keep : ∀ b o, b ≠ x → h.get? b = some o → h'.get? b = some o
  obj : h'.get? x = some { cls := .ref C, dict := some dx, data := .fields #[.ref t1, .none, .none, .none, .bool false, .none] }
  dbig : h.objs.size ≤ dx
  dne : dx ≠ x
  ns : h'.Ns1 dx (fun y => if y = ("at" : Str) then some v else none)
section
variable {prog : Program} {w : World} {A : Around} {E : Value → Shared → Prop} {R : Result → Shared → Prop} {K : Frag} {mg mb : Str → Option Value} {x : Str} {msg : Str} {C B fI cc : Addr}
variable {hp : Heap} {g : Array GenState} {d : Drawn} {t : Nat} {os : OsState}
theorem mro2 {cd : ClassData} (hcd : clsIn K C = some cd) (hm : cd.mro = .ref C :: .ref B :: ESX.exTail) {b : Value} (hb : (Value.ref C :: .ref B :: ESX.exTail).contains b = true) : mroIn K C b = some true := by
  unfold W.mroIn
  simp only [hcd, Option.bind_some, hm, List.isEmpty_cons, Bool.false_eq_true, if_false, hb]
/-- self.fd = v, the exception without a dict as yet -/
theorem keeps_field {name : Str} {tk : Tok} {v : Value} {e : Addr} {fv : Array Value} {cd : ClassData}
    (X : K.In hp) (hx : hp.get? e = some { cls := .ref C, data := .fields fv }) (hcd : W.clsIn K C = some cd) (hm : cd.mro = .ref C :: .ref B :: ESX.exTail) (hh : cd.hasDict = true) (ha : W.findIn K (.ref C) name = some none)
    (hq : ∀ h' tk' dx, (∀ b o, b ≠ e → hp.get? b = some o → h'.get? b = some o) → hp.objs.size ≤ dx → dx ≠ e → h'.get? e = some { cls := .ref C, dict := some dx, data := .fields fv } →
      h'.Ns1 dx (fun y => if y = name then some v else none) → R (.ok (.ret .none)) ⟨h', g, d, tk', os⟩) :
    codeAny (model prog w) A (.call (.builtin "object.__setattr__") ⟨[.ref e, .str name tk, v], []⟩) R ⟨hp, g, d, t, os⟩ := by
  have I0 : W.InstAt hp e { cls := .ref C, data := .fields fv } C none := ⟨hx, rfl, rfl, trivial⟩
  have far : e ≠ hp.objs.size := Nat.ne_of_lt (Heap.lt_size hx)
  have ST := PySem.F.store_object
  have isO : W.Looks (model prog w) hp (isInstance (.ref e) (.type "object")) true := I0.type.andThen (W.looks_mroIn X (mro2 hcd hm (by rw [List.contains_cons, List.contains_cons, show (ESX.exTail.contains (Value.type "object")) = true by decide +kernel, Bool.or_true, Bool.or_true])))
  have lm : W.Looks (model prog w) hp (mroOf (.ref C)) cd.mro := (W.looks_clsIn X hcd).andThen .now
  have ln : W.Looks (model prog w) hp (Builtin.ObjectAttr.storeTaker? none) none := .now
  have lc : W.Looks (model prog w) hp (classData C) cd := W.looks_clsIn X hcd
  have lets : refuseLoop (.ref e) "__setattr__" cd.mro = pure () := by
    rw [hm, refuseLoop_ref, refuseLoop_ref]
    exact PySem.F.store_Exception.passes _
  refine codeAny_call_builtin ST.slot.plain ST.entry ?_
  refine @W.check_slot (model prog w) _ _ ⟨hp, g, d, t, os⟩ "object.__setattr__" "object" "__setattr__" (.ref e) [.str name tk, v] [] _ ST.kind ST.split isO (ST.args (.ref e) (.str name tk) v) ?_
  rw [W.osa_eq, refuse_eq]
  refine wpAny_bind (wpAny_bind (I0.type.at (wpAny_bind (lm.at ?_))))
  rw [lets]
  refine wpAny_pure (wpAny_bind (I0.type.at (wpAny_bind ((W.looks_findIn X ha).at (wpAny_bind (ln.at ?_))))))
  show wpAny _ _ (Builtin.ObjectAttr.storeInOwnDict (.ref e) (.ref C) (.str name tk) name v false) _ _ _
  obtain ⟨n1, b1, m1, ns1, qn1, hd1, sn1, sb1, ab1, col1, del1⟩ := cd
  dsimp only at hh
  subst hh
  unfold Builtin.ObjectAttr.storeInOwnDict Builtin.ObjectAttr.ownDictForStores
  repeat (first
    | with_reducible refine HandSPX.store_in_new ?_ ?_
    | with_reducible refine wpAny_loadPart_at hx ?_
    | with_reducible refine lc.at ?_
    | wp_step)
  · exact ⟨_, #[], _, (Heap.get?_update_ne _ _ _ _ far.symm).trans (Heap.get?_push_at rfl rfl), rfl, fun e' he' => absurd he' (by simp), fun _ => rfl⟩
  · intro h' tk' hn' hs
    have hx1 : (hp.push { cls := .type "dict", data := .dict #[] }).get? e = some { cls := .ref C, data := .fields fv } := Heap.get?_push_of_some _ hx
    refine hq h' tk' hp.objs.size (fun b o hb ho => ?_) (Nat.le_refl _) far.symm ?_ hn'
    · exact (hs.2 b (Nat.ne_of_lt (Heap.lt_size ho))).trans ((Heap.get?_update_ne _ _ _ _ hb).trans (Heap.get?_push_of_some _ ho))
    · exact (hs.2 e far).trans (Heap.get?_update_self _ hx1 rfl)

theorem at_method {M : Model} {c : Code} {s : Shared} {env : Env} {o : Expr} {name : Str} {apos pos : Pos} {args : List Expr} {Q : Value → Shared → Prop} (hline : (apos.endLine == pos.line) = true)
    (hform : methodCallForm (args.length + ([] : List Keyword).length) (backTo pos (starEach args env)) (backToKw pos (keywordEach [] env)) = true)
    (h : PySem.wpAt M A c (attributeBase o name env (eval o env)) (fun ov s₁ => ∀ pl, wpAny M A (getMethod ov name pl) (fun fx s₂ => wpAny M A (callWith pos fx.1 fx.2 (backTo pos (starEach args env)) []) Q E s₂) E s₁) E s) :
    PySem.wpAt M A c (eval (.Call (.Attribute o name apos) args [] pos) env) Q E s := by
  rw [arm_eval_Call]
  refine PySem.wpAt_bind (ks_wpAt_mono h (fun ov s₁ h₁ => wpAt_of_wpAny (wpAny_bind (wpAny_standAt ?_))) fun _ _ x => x)
  have hpos : methodCallPos true o env apos pos = pure pos := by unfold methodCallPos; simp [hline]
  unfold methodCall
  rw [hform]
  refine wpAny_bind (wpAny_holding (wpAny_mono (h₁ _) (fun fx s₂ h₂ => ?_) fun _ _ x => x))
  exact wpAny_bind (wpAny_of_eq hpos h₂)
/-- the run of __init__ -/
theorem init_run (T : Txt prog K mg x msg C B fI cc) {e t0 : Addr} {i : Int} {tv : Tok} (X : K.In hp) (hns : hp.Ns mainGlobals mg) (hb : hp.Ns builtinsNs mb) (hbb : ∀ y : Str, y ≠ "__name__" → mb y = bootBuiltins y) (hlim : hp.NoLimit)
    (hx : hp.get? e = some (HandSPX.excO C t0)) (hKe : K.lookup e = none) (hroom : A.depth < recursionLimit) (hi : i.natAbs.log2 < 1920) (hlen : msg.length + (toString i : Str).length ≤ sizeLine)
    (hq : ∀ h' tk dx t1, Left hp h' e C dx t1 (.int i tv) → R (.ok (.ret .none)) ⟨h', g, d, tk, os⟩) :
    codeAny (model prog w) A (.call (.ref fI) ⟨[.ref e, .int i tv], []⟩) R ⟨hp, g, d, t, os⟩ := by
  obtain ⟨oc, od, doc, pm, an, cda, ct, osl, qual, p1, p2, q1, q2, q3, q4, q5, q6, q7, q8, q9, q10, q11, q12, q13, q14, hf, hcd, hline, ccl, cdd, vsC, ccs, file, tf, hcode, hfl, hfile⟩ := T.fn
  obtain ⟨nm, q, N, bs, sn, sub, ab, col, dd, k0, k1, k2, k3, k5, hC⟩ := T.cls
  obtain ⟨cl, cld, csl, hcell⟩ := T.cell
  have hcl : clsIn K C = some { name := nm, bases := bs, mro := .ref C :: .ref B :: ESX.exTail, ns := N, qualname := q, hasDict := true, slotNames := sn, subclasses := sub, abstract := ab, collection := col, hasDel := false } := by unfold clsIn; rw [hC] <;> rfl
  have eC : e ≠ C := by
    intro z
    have z2 := X _ _ hC
    rw [← z, hx] at z2
    cases z2
  refine ks_codeAny_call_defAt (fd := ksFn "__init__" qual (argsOf "at" p1 p2) (bodyOf msg "at" q1 q2 q3 q4 q5 q6 q7 q8 q9 q10 q11 q12 q13 q14) (scopeOf "at") .none .none doc pm an (.ref cda) ct cc) (body := bodyOf msg "at" q1 q2 q3 q4 q5 q6 q7 q8 q9 q10 q11 q12 q13 q14)
    (binds := [("self", .ref e), ("at", .int i tv)]) hroom (X _ _ hf) rfl hlim (codeRec_of X hcd) rfl (BindsTo.of_eq (by first | rfl | with_unfolding_all rfl)) (by show ∀ y ∈ (scopeOf "at").names, y.2 ≠ .cell; decide) (fun y hy => ?_) (fun h1 hn1 hk1 => ?_) rfl rfl rfl
  · rcases List.mem_cons.mp hy with rfl | hy
    · rfl
    · rcases List.mem_cons.mp hy with rfl | hy
      · rfl
      · cases hy
  have X1 : K.In h1 := X.keeps hk1
  have far : hp.objs.size ≠ e := Nat.ne_of_gt (Heap.lt_size hx)
  refine ks_wpAt_execs_cons (ks_wpAt_Expr_any (at_method hline (by rfl) ?_) rfl rfl)
  refine ks_wpAt_super_base (tf := tf) (file := file) (vs := vsC) (fd := ksFn "__init__" qual (argsOf "at" p1 p2) (bodyOf msg "at" q1 q2 q3 q4 q5 q6 q7 q8 q9 q10 q11 q12 q13 q14) (scopeOf "at") .none .none doc pm an (.ref cda) ct cc) (f := fI) (cc := cda) (ar := { arg := "self", annotation := none, pos := p1 }) (by rfl) (by rfl) (by decide) rfl (X1 _ _ hf) rfl rfl rfl (X1 _ _ hcode) rfl hfl hfile T.top ?_
  refine ks_loadName_global rfl (by rfl) (loadGlobal_builtin (hns.keeps hk1) T.sup (hb.keeps hk1) ((hbb _ (by decide)).trans (by kernel_rfl)) ⟨rfl, ?_⟩)
  refine wpAny_loadName_free rfl (by rfl) rfl ⟨_, X1 _ _ hcell, rfl⟩ ?_
  refine wpAny_loadName_local rfl (by rfl) hn1 (v := .ref e) rfl ?_
  refine ks_wpAny_isType_cls (X1 _ _ hC) rfl ⟨rfl, ?_⟩
  have hx1 : h1.get? e = some (HandSPX.excO C t0) := hk1 _ _ hx
  refine ks_wpAny_call_super (X1 _ _ hC) rfl hx1 rfl (fun c z => by cases z) (looks_mroIn X1 T.self) (fun h2 e2 k2 => ?_)
  intro pl
  have X2 : K.In h2 := X1.keeps k2
  have hx2 : h2.get? e = some (HandSPX.excO C t0) := k2 _ _ hx1
  have I2 : W.InstAt h2 e (HandSPX.excO C t0) C none := ⟨hx2, rfl, rfl, trivial⟩
  refine ESX.getMethod_super e2 (looks_opaque X2 T.opq) ((W.looks_clsIn X2 hcl).andThen .now) (ESX.drop_own C _) X2 T.along eC (by decide) (I2.type.andThen (looks_subIn X2 T.exE)) ?_
  have k3 : ∀ b o, h2.get? b = some o → (h2.push (ESX.bw e)).get? b = some o := fun b o z => Heap.get?_push_of_some _ z
  have u3 : (h2.push (ESX.bw e)).get? h2.objs.size = some (ESX.bw e) := Heap.get?_push_at rfl rfl
  have kk : ∀ b o, hp.get? b = some o → (h2.push (ESX.bw e)).get? b = some o := fun b o z => k3 _ _ (k2 _ _ (hk1 _ _ z))
  have hn3 := (hn1.keeps k2).keeps k3
  refine ESX.callWith_bound (x := e) ?_
  refine Calls.spliced_cons (wpAny_BinOp (Calls.Constant_str ?_))
  refine wpAny_Call_Name_kw (Calls.Name_function_global rfl (by rfl) (Calls.loadGlobal_builtin (v := .type "str") (hns.keeps kk) T.str (hb.keeps kk) ((hbb _ (by decide)).trans (by kernel_rfl)) ?_) (by decide))
  refine PyProof.Rows.callWith_type1 (Calls.spliced_cons (ESX.ldL (v := .int i tv) hn3 rfl (Calls.spliced_nil ?_)))
  refine PySem.P.str_of_int hi ?_
  refine PyProof.Rows.add_str (fun t' tk => ?_) hlen
  refine Calls.spliced_nil ⟨u3, ?_⟩
  refine ESX.call_bw ((X2.keeps k3) _ _ hC) (k3 _ _ hx2) u3 (by show 1 ≤ sizeLine; rw [sizeLine_eq]; omega) (fun h4 t1 k4 e4 => ?_)
  have nf : hp.objs.size ≠ e := far
  have hn4 : h4.Ns hp.objs.size (fun y => ([("self", .ref e), ("at", .int i tv)] : List (Str × Value)).reverse.lookup y) := by
    obtain ⟨o, es, ep, z1, z2⟩ := hn3
    exact ⟨o, es, ep, k4 _ _ nf z1, z2⟩
  have X4 : K.In h4 := fun b o z => k4 b o (fun y => by
    rw [y, hKe] at z
    cases z) ((X2.keeps k3) b o z)
  refine wpAt_of_wpAny (wpAny_execs_cons (plainObj_wpAny_Assign_Attribute ?_))
  refine ESX.ldL (v := .int i tv) hn4 rfl (ESX.ldL (v := .ref e) hn4 rfl ?_)
  refine set_plain X4 (ox := HandSPX.excO C t1) (od := none) ⟨e4, rfl, rfl, trivial⟩ T.sa ?_
  refine keeps_field X4 e4 hcl rfl rfl T.noN (fun h5 tk5 dx k5 dn dne e5 n5 => ?_)
  refine wpAny_execs_nil ?_
  have big : hp.objs.size ≤ h4.objs.size := by
    have := hn4.lt
    exact Nat.le_of_lt this
  refine hq h5 _ dx t1 ⟨fun b o hb z => k5 b o hb (k4 b o hb (kk b o z)), e5, Nat.le_trans big dn, dne, n5⟩
/-- a made one -/
structure Made (h h' : Heap) (e C d : Addr) (v : Value) : Prop where
  keep : ∀ b o, h.get? b = some o → h'.get? b = some o
  new : h.objs.size ≤ e
  obj : ∃ oe vs, h'.get? e = some oe ∧ oe.cls = .ref C ∧ oe.dict = some d ∧ oe.data = .fields vs ∧ vs[1]? = some .none
  dbig : h.objs.size ≤ d
  dne : d ≠ e
  ns : h'.Ns1 d (fun y => if y = ("at" : Str) then some v else none)
theorem made (T : Txt prog K mg x msg C B fI cc) {i : Int} {tv : Tok} (X : K.In hp) (hns : hp.Ns mainGlobals mg) (hb : hp.Ns builtinsNs mb) (hbb : ∀ y : Str, y ≠ "__name__" → mb y = bootBuiltins y) (hlim : hp.NoLimit)
    (hroom : A.depth + 1 < recursionLimit) (hi : i.natAbs.log2 < 1920) (hlen : msg.length + (toString i : Str).length ≤ sizeLine)
    (hq : ∀ h' tk e dd, Made hp h' e C dd (.int i tv) → R (.ok (.ret (.ref e))) ⟨h', g, d, tk, os⟩) :
    codeAny (model prog w) A (.call (.ref C) ⟨[.int i tv], []⟩) R ⟨hp, g, d, t, os⟩ := by
  obtain ⟨nm, q, N, bs, sn, sub, ab, col, dd, k0, k1, k2, k3, k5, hC⟩ := T.cls
  have kp : ∀ b o, hp.get? b = some o → ((hp.push (kdv_tup [.int i tv])).push (HandSPX.excO C hp.objs.size)).get? b = some o := fun b o z => Heap.get?_push_of_some _ (Heap.get?_push_of_some _ z)
  have at1 : ((hp.push (kdv_tup [.int i tv])).push (HandSPX.excO C hp.objs.size)).get? (hp.objs.size + 1) = some (HandSPX.excO C hp.objs.size) := by heap_get
  have notK : K.lookup (hp.objs.size + 1) = none := by
    cases z : K.lookup (hp.objs.size + 1) with
    | none => rfl
    | some o => exact absurd (Nat.lt_of_succ_lt (Heap.lt_size (X _ _ z))) (Nat.lt_irrefl _)
  have tl : ∀ Y : String, (Value.ref B :: ESX.exTail).contains (.type Y) = ESX.exTail.contains (.type Y) := fun Y => by rw [List.contains_cons]; rfl
  refine HandSPX.call_own PySem.F.excBase_Exception tl (X _ _ hC) (looks_findIn X T.iC) (fun self => bind_fn X self T.tI) (by show 1 ≤ sizeLine; rw [sizeLine_eq]; omega) ?_
  refine init_run (hp := (hp.push (kdv_tup [.int i tv])).push (HandSPX.excO C hp.objs.size)) T (X.keeps kp) (hns.keeps kp) (hb.keeps kp) hbb (hlim.keeps kp) at1 notK ?_ hi hlen (fun h' tk dx t1 L => ?_)
  · show A.depth + 1 < recursionLimit
    exact hroom
  · have old : ∀ b o, hp.get? b = some o → h'.get? b = some o := fun b o z => L.keep b o (Nat.ne_of_lt (Nat.lt_succ_of_lt (Heap.lt_size z))) (kp b o z)
    have z : hp.objs.size + 1 + 1 ≤ dx := by
      have q := L.dbig
      rw [Heap.size_push, Heap.size_push] at q
      exact q
    exact ⟨rfl, hq h' tk (hp.objs.size + 1) dx ⟨old, Nat.le_succ _, ⟨_, _, L.obj, rfl, rfl, rfl, rfl⟩, by omega, L.dne, L.ns⟩⟩
end
end Sup
namespace L2
open PySem PySem.Spec PyProof.Rows
theorem rel_at {v : V} {v' : Value} (r : RelV v v') (f : Str) : RelO (List.lookup f [(("at" : Str), v)]) (if f = "at" then some v' else none) := by
  by_cases hw : f = "at"
  · subst hw
    rw [if_pos rfl, show List.lookup ("at" : Str) [(("at" : Str), v)] = some v by simp [List.lookup]]
    exact r
  · rw [if_neg hw]
    have z : (f == ("at" : Str)) = false := by simpa using hw
    rw [show List.lookup f [(("at" : Str), v)] = none by simp [List.lookup, z]]
    trivial
section
variable {X : Cx} {C B fI cc : Addr} {x msg : Str}
/-- X(e) made, e a small number -/
def tMkSup (C : Addr) (ta : TA) : L2.St → Hp → XK → Prop := fun σ H Q => ta σ H fun vs H1 => ∃ i, vs = [V.int i] ∧ 0 ≤ i ∧ i < 1000000 ∧ ∀ d, H1 d = none → Q (.ref C) (some d) (upd H1 d (.xd [(("at" : Str), .int i)]))
theorem small_log {i : Int} (h0 : 0 ≤ i) (h1 : i < 1000000) : i.natAbs.log2 < 1920 := by
  have h2 : i.natAbs < 2 ^ 30 := by omega
  by_cases h : i.natAbs = 0
  · rw [h]; decide
  · have := (Nat.log2_lt h).mpr h2
    omega
theorem pmk_sup {a : Expr} {ta : TA} {p pos : Pos} {k : Nat} (T : Sup.Txt X.prog X.K X.mg x msg C B fI cc) (hmsg : msg.length ≤ 1000) (hr : Room k X.A) (hk : 1 ≤ k) (ha : PA X [a] ta) (hg : Gl X x) (hdb : (x == ("__debug__" : Str)) = false := by decide)
    (he : starEach (a :: []) X.env = (false, eval a X.env) :: starEach [] X.env := by rfl) (hpl : (backTo pos (starEach [] X.env)).any (·.1) = false := by rfl) :
    PMk X (.Call (.Name x p) [a] [] pos) (tMkSup C ta) := by
  intro pins s σ H Q I h
  refine wpAny_Call_Name_kw (ld_glob I hg T.gC ?_ hdb)
  refine PySem.W.callWith_K (h₀ := X.base) I.ok.mod.kin T.kC (thn (ha.run pos pins s σ H _ I h) fun us s1 hh => ?_) he hpl
  obtain ⟨vs, H1, I1, r1, i, ev, h0, h1, q1⟩ := hh
  subst ev
  refine ⟨I1.kIn, ?_⟩
  cases r1 with
  | cons rv rn =>
    rename_i v' us'
    cases rn
    obtain ⟨tv, rfl⟩ := rv
    show wpAny _ _ (call (.ref C) [Value.int i tv]) _ _ _
    have hlim := I1.nolimit
    have hK := I1.kIn
    have hG := I1.mod.glob.keeps I1.bk
    obtain ⟨mb, hB, hBB⟩ := I1.mod.blt
    have hB' := hB.keeps I1.bk
    obtain ⟨hp, g, dr, tk, os⟩ := s1
    have len : msg.length + (toString i : Str).length ≤ sizeLine := by
      have z := len_str_of_int i
      rw [sizeLine_eq]
      omega
    refine wpAny_call (Sup.made T hK hG hB' hBB hlim (by have := hr.dp; omega) (small_log h0 h1) len fun h' tk' e d M => ?_)
    show MkP X pins σ Q (.ref e) ⟨h', g, dr, tk', os⟩
    obtain ⟨oe, fv, hoe, hc, hd, hdat, hv1⟩ := M.obj
    have hns := M.ns
    obtain ⟨G', g1, g2⟩ := restrict h' fun b => decide (b ≠ e)
    have gk : ∀ b, b ≠ e → G'.get? b = h'.get? b := fun b hb => g1 b (decide_eq_true hb)
    have ge : G'.get? e = none := g2 e (by simp)
    have old : ∀ b o, hp.get? b = some o → G'.get? b = some o := fun b o q => (gk b (Nat.ne_of_lt (Nat.lt_of_lt_of_le (Heap.lt_size q) M.new))).trans (M.keep b o q)
    have ob : ObjOk X.prog X.w (upd H1 d (.xd [(("at" : Str), V.int i)])) G' d (.xd [(("at" : Str), V.int i)]) :=
      ⟨_, hns.at (fun o q => (gk d M.dne).trans q), fun f => rel_at (v := V.int i) ⟨tv, rfl⟩ f⟩
    have J : Inv X pins σ (upd H1 d (.xd [(("at" : Str), V.int i)])) ⟨G', g, dr, tk', os⟩ := I1.laid (t' := tk') old M.dbig ob
    have fr := I1.hok.fresh M.dbig
    have fr2 := I1.hok.fresh M.new
    refine ⟨e, oe, fv, ⟨G', g, dr, tk', os⟩, _, .ref C, some d, rfl, J, fun b o q => ?_, ge, hoe, ⟨hc, hd⟩, hdat, hv1, ?_, rfl, I1.bare, raises_own T.exC T.tyC, q1 d fr⟩
    · by_cases hb : b = e
      · have z : G'.get? b = some o := q
        rw [hb, ge] at z
        cases z
      · exact (gk b hb).symm.trans q
    · rw [upd_ne (Ne.symm M.dne)]
      exact fr2
/-- isinstance(e, D), e the exception that the suite holds, with its field -/
def rIsX (K : PySem.W.Frag) (C a : Addr) (cls : Value) (d : Option Addr) : List V → Hp → VK → Prop := fun xs H Q =>
  cls = .ref C ∧ ∃ (dd D : Addr) (fs : List (Str × V)) (b : Bool), xs = [.ref a, .ref D] ∧ d = some dd ∧ H dd = some (.xd fs) ∧ PySem.W.kitOne K (.ref C) (.ref D) = some b ∧ Q (.bl b) H
theorem call_isX {a : Addr} {oe : Obj} {cls : Value} {d : Option Addr} {pn : List (Addr × Obj)} (T : Sup.Txt X.prog X.K X.mg x msg C B fI cc) (hz : Zc cls d oe) (hf : ∃ vs, oe.data = .fields vs) : CallR (X.suite a ((a, oe) :: pn)) (.builtin "isinstance") (rIsX X.K C a cls d) := by
  intro pins s σ H xs us Q I r h
  obtain ⟨rfl, dd, D, fs, b, rfl, rfl, hd, hk, q⟩ := h
  cases r with
  | cons rx rr =>
    cases rr with
    | cons rt rr =>
      cases rr
      cases rx
      cases rt
      obtain ⟨hget, _⟩ := I.pin (a, oe) (List.mem_append.mpr (.inl List.mem_cons_self))
      obtain ⟨vs, hv⟩ := hf
      obtain ⟨mA, ⟨od, es, ep, ho, _⟩, _⟩ := (show ObjOk X.prog X.w H s.heap dd (.xd fs) from I.hok dd _ hd)
      have J : PySem.W.InstAt s.heap a oe C (some od) := ⟨hget, hz.1, by unfold PySem.W.notCls; rw [hv] <;> rfl, by rw [hz.2]; exact ho⟩
      obtain ⟨nm, q', N, bs, sn, sub, ab, col, dd', k0, k1, k2, k3, k5, hC⟩ := T.cls
      have hcl : (PySem.W.clsIn X.K C).isSome = true := by unfold PySem.W.clsIn; rw [hC] <;> rfl
      exact PySem.W.kia_one (PySem.W.kitx_exc hcl T.ga T.gg T.exC T.clsA T.getA T.tkA T.obA) I.kIn J hk (fun z => nomatch z) fun tk => ⟨.bl b, H, I.kept (t' := tk) fun _ _ z => z, rfl, q⟩
theorem Sup.Txt.xf (T : Sup.Txt X.prog X.K X.mg x msg C B fI cc) : XfC X.K C := ⟨T.ga, T.gg, T.exC, T.hdC⟩
end
end L2
set_option Elab.async false
set_option linter.all false
set_option maxRecDepth 100000
set_option maxHeartbeats 4000000
namespace K11
open PySem PySem.Spec PyProof.Rows L2 Zl
abbrev prg : Program := PySem.Challenge.pw_runsasmeant_k11_whole_words_by_own_readi
def topS (i : Nat) : Stmt := prg.main.body.getD i (.Pass ⟨0, 0, 0, 0⟩)
abbrev s_is_number : Stmt := topS 10
abbrev n_is_number : List Str := ["value"]
abbrev p_is_number : List Str := ["value"]
theorem sc_is_number : FnScope n_is_number p_is_number (defScope s_is_number) := ⟨rfl, rfl, rfl, by decide +kernel, rfl, by decide +kernel, by decide +kernel⟩
abbrev s_is_within : Stmt := topS 11
abbrev n_is_within : List Str := ["value", "least", "most"]
abbrev p_is_within : List Str := ["value", "least", "most"]
theorem sc_is_within : FnScope n_is_within p_is_within (defScope s_is_within) := ⟨rfl, rfl, rfl, by decide +kernel, rfl, by decide +kernel, by decide +kernel⟩
abbrev s_is_row : Stmt := topS 12
abbrev n_is_row : List Str := ["value"]
abbrev p_is_row : List Str := ["value"]
theorem sc_is_row : FnScope n_is_row p_is_row (defScope s_is_row) := ⟨rfl, rfl, rfl, by decide +kernel, rfl, by decide +kernel, by decide +kernel⟩
abbrev s_is_text : Stmt := topS 19
abbrev n_is_text : List Str := ["value"]
abbrev p_is_text : List Str := ["value"]
theorem sc_is_text : FnScope n_is_text p_is_text (defScope s_is_text) := ⟨rfl, rfl, rfl, by decide +kernel, rfl, by decide +kernel, by decide +kernel⟩
abbrev s_ask_text : Stmt := topS 20
abbrev n_ask_text : List Str := ["text", "at"]
abbrev p_ask_text : List Str := ["text", "at"]
theorem sc_ask_text : FnScope n_ask_text p_ask_text (defScope s_ask_text) := ⟨rfl, rfl, rfl, by decide +kernel, rfl, by decide +kernel, by decide +kernel⟩
abbrev s_run_until : Stmt := topS 21
abbrev n_run_until : List Str := ["text", "at", "signs"]
abbrev p_run_until : List Str := ["text", "at", "signs"]
theorem sc_run_until : FnScope n_run_until p_run_until (defScope s_run_until) := ⟨rfl, rfl, rfl, by decide +kernel, rfl, by decide +kernel, by decide +kernel⟩
abbrev s_number_until : Stmt := topS 22
abbrev n_number_until : List Str := ["text", "at", "until"]
abbrev p_number_until : List Str := ["text", "at"]
theorem sc_number_until : FnScope n_number_until p_number_until (defScope s_number_until) := ⟨rfl, rfl, rfl, by decide +kernel, rfl, by decide +kernel, by decide +kernel⟩
abbrev s_word_at : Stmt := topS 23
abbrev n_word_at : List Str := ["text", "at", "sign", "until", "sort", "signs", "mark"]
abbrev p_word_at : List Str := ["text", "at"]
theorem sc_word_at : FnScope n_word_at p_word_at (defScope s_word_at) := ⟨rfl, rfl, rfl, by decide +kernel, rfl, by decide +kernel, by decide +kernel⟩
abbrev s_words_of : Stmt := topS 24
abbrev n_words_of : List Str := ["text", "words", "at", "found"]
abbrev p_words_of : List Str := ["text"]
theorem sc_words_of : FnScope n_words_of p_words_of (defScope s_words_of) := ⟨rfl, rfl, rfl, by decide +kernel, rfl, by decide +kernel, by decide +kernel⟩
abbrev s_sort_in : Stmt := topS 25
abbrev n_sort_in : List Str := ["word", "found"]
abbrev p_sort_in : List Str := ["word"]
theorem sc_sort_in : FnScope n_sort_in p_sort_in (defScope s_sort_in) := ⟨rfl, rfl, rfl, by decide +kernel, rfl, by decide +kernel, by decide +kernel⟩
abbrev s_joined : Stmt := topS 26
abbrev n_joined : List Str := ["words", "text"]
abbrev p_joined : List Str := ["words"]
theorem sc_joined : FnScope n_joined p_joined (defScope s_joined) := ⟨rfl, rfl, rfl, by decide +kernel, rfl, by decide +kernel, by decide +kernel⟩
abbrev s_laid : Stmt := topS 27
abbrev n_laid : List Str := ["words", "word"]
abbrev p_laid : List Str := ["words"]
theorem sc_laid : FnScope n_laid p_laid (defScope s_laid) := ⟨rfl, rfl, rfl, by decide +kernel, rfl, by decide +kernel, by decide +kernel⟩
abbrev s_is_word : Stmt := topS 28
abbrev n_is_word : List Str := ["word"]
abbrev p_is_word : List Str := ["word"]
theorem sc_is_word : FnScope n_is_word p_is_word (defScope s_is_word) := ⟨rfl, rfl, rfl, by decide +kernel, rfl, by decide +kernel, by decide +kernel⟩
abbrev s_sort_of : Stmt := topS 29
abbrev n_sort_of : List Str := ["word"]
abbrev p_sort_of : List Str := ["word"]
theorem sc_sort_of : FnScope n_sort_of p_sort_of (defScope s_sort_of) := ⟨rfl, rfl, rfl, by decide +kernel, rfl, by decide +kernel, by decide +kernel⟩
abbrev s_line_begins : Stmt := topS 30
abbrev n_line_begins : List Str := ["text", "begins", "at"]
abbrev p_line_begins : List Str := ["text"]
theorem sc_line_begins : FnScope n_line_begins p_line_begins (defScope s_line_begins) := ⟨rfl, rfl, rfl, by decide +kernel, rfl, by decide +kernel, by decide +kernel⟩
abbrev s_lines_of : Stmt := topS 31
abbrev n_lines_of : List Str := ["text"]
abbrev p_lines_of : List Str := ["text"]
theorem sc_lines_of : FnScope n_lines_of p_lines_of (defScope s_lines_of) := ⟨rfl, rfl, rfl, by decide +kernel, rfl, by decide +kernel, by decide +kernel⟩
abbrev s_line_at : Stmt := topS 32
abbrev n_line_at : List Str := ["text", "number", "line", "begin"]
abbrev p_line_at : List Str := ["text", "number"]
theorem sc_line_at : FnScope n_line_at p_line_at (defScope s_line_at) := ⟨rfl, rfl, rfl, by decide +kernel, rfl, by decide +kernel, by decide +kernel⟩
abbrev s__law_power : Stmt := topS 34
abbrev n__law_power : List Str := ["base", "many", "result", "k"]
abbrev p__law_power : List Str := ["base", "many"]
theorem sc__law_power : FnScope n__law_power p__law_power (defScope s__law_power) := ⟨rfl, rfl, rfl, by decide +kernel, rfl, by decide +kernel, by decide +kernel⟩
abbrev s__law_cell : Stmt := topS 35
abbrev n__law_cell : List Str := ["script", "place"]
abbrev p__law_cell : List Str := ["script", "place"]
theorem sc__law_cell : FnScope n__law_cell p__law_cell (defScope s__law_cell) := ⟨rfl, rfl, rfl, by decide +kernel, rfl, by decide +kernel, by decide +kernel⟩
abbrev s__law_numbers : Stmt := topS 36
abbrev n__law_numbers : List Str := ["script", "place", "many", "cell", "numbers", "rest", "k", "twice"]
abbrev p__law_numbers : List Str := ["script", "place", "many"]
theorem sc__law_numbers : FnScope n__law_numbers p__law_numbers (defScope s__law_numbers) := ⟨rfl, rfl, rfl, by decide +kernel, rfl, by decide +kernel, by decide +kernel⟩
abbrev s__law_same : Stmt := topS 37
abbrev n__law_same : List Str := ["one", "other", "k"]
abbrev p__law_same : List Str := ["one", "other"]
theorem sc__law_same : FnScope n__law_same p__law_same (defScope s__law_same) := ⟨rfl, rfl, rfl, by decide +kernel, rfl, by decide +kernel, by decide +kernel⟩
abbrev s__law_keys : Stmt := topS 38
abbrev n__law_keys : List Str := []
abbrev p__law_keys : List Str := []
theorem sc__law_keys : FnScope n__law_keys p__law_keys (defScope s__law_keys) := ⟨rfl, rfl, rfl, by decide +kernel, rfl, by decide +kernel, by decide +kernel⟩
abbrev s__law_tokens : Stmt := topS 39
abbrev n__law_tokens : List Str := ["text", "rows", "here", "small", "great", "figures", "marks", "turn", "sign", "end", "some", "step", "word", "sort", "fits", "mark"]
abbrev p__law_tokens : List Str := ["text"]
theorem sc__law_tokens : FnScope n__law_tokens p__law_tokens (defScope s__law_tokens) := ⟨rfl, rfl, rfl, by decide +kernel, rfl, by decide +kernel, by decide +kernel⟩
abbrev s__law_told : Stmt := topS 40
abbrev n__law_told : List Str := ["text", "e"]
abbrev p__law_told : List Str := ["text"]
theorem sc__law_told : FnScope n__law_told p__law_told (defScope s__law_told) := ⟨rfl, rfl, rfl, by decide +kernel, rfl, by decide +kernel, by decide +kernel⟩
abbrev s_law : Stmt := topS 41
abbrev n_law : List Str := ["script", "numbers", "signs", "number", "text", "lines", "spot", "row", "pool", "words", "told", "word", "sort", "at", "k", "line"]
abbrev p_law : List Str := ["script"]
theorem sc_law : FnScope n_law p_law (defScope s_law) := ⟨rfl, rfl, rfl, by decide +kernel, rfl, by decide +kernel, by decide +kernel⟩
structure Ad where
  f_is_number : Addr
  c_is_number : Addr
  d_is_number : FuncData
  f_is_within : Addr
  c_is_within : Addr
  d_is_within : FuncData
  f_is_row : Addr
  c_is_row : Addr
  d_is_row : FuncData
  f_is_text : Addr
  c_is_text : Addr
  d_is_text : FuncData
  f_ask_text : Addr
  c_ask_text : Addr
  d_ask_text : FuncData
  f_run_until : Addr
  c_run_until : Addr
  d_run_until : FuncData
  f_number_until : Addr
  c_number_until : Addr
  d_number_until : FuncData
  f_word_at : Addr
  c_word_at : Addr
  d_word_at : FuncData
  f_words_of : Addr
  c_words_of : Addr
  d_words_of : FuncData
  f_sort_in : Addr
  c_sort_in : Addr
  d_sort_in : FuncData
  f_joined : Addr
  c_joined : Addr
  d_joined : FuncData
  f_laid : Addr
  c_laid : Addr
  d_laid : FuncData
  f_is_word : Addr
  c_is_word : Addr
  d_is_word : FuncData
  f_sort_of : Addr
  c_sort_of : Addr
  d_sort_of : FuncData
  f_line_begins : Addr
  c_line_begins : Addr
  d_line_begins : FuncData
  f_lines_of : Addr
  c_lines_of : Addr
  d_lines_of : FuncData
  f_line_at : Addr
  c_line_at : Addr
  d_line_at : FuncData
  f__law_power : Addr
  c__law_power : Addr
  d__law_power : FuncData
  f__law_cell : Addr
  c__law_cell : Addr
  d__law_cell : FuncData
  f__law_numbers : Addr
  c__law_numbers : Addr
  d__law_numbers : FuncData
  f__law_same : Addr
  c__law_same : Addr
  d__law_same : FuncData
  f__law_keys : Addr
  c__law_keys : Addr
  d__law_keys : FuncData
  f__law_tokens : Addr
  c__law_tokens : Addr
  d__law_tokens : FuncData
  f__law_told : Addr
  c__law_told : Addr
  d__law_told : FuncData
  f_law : Addr
  c_law : Addr
  d_law : FuncData
  a_KEYS : Addr
  t_LOWER : Tok
  t_UPPER : Tok
  t_FIGURES : Tok
  t_MOST_SIGNS : Tok
  t_MOST_WORD : Tok
  t_NAME_SIGNS : Tok
  t_MAKER_SIGNS : Tok
  a_MARKS : Addr
  k_MeaningError : Addr
  k_BadValue : Addr
  k_BadText : Addr
  k_TooMany : Addr
  i_BadText : Addr
  e_BadText : Addr
  tab_is_text : Addr
structure Txt (K : PySem.W.Frag) (mg : Str → Option Value) (a : Ad) : Prop where
  d_is_number : D K mg "is_number" s_is_number p_is_number a.f_is_number a.c_is_number a.d_is_number
  d_is_within : D K mg "is_within" s_is_within p_is_within a.f_is_within a.c_is_within a.d_is_within
  d_is_row : D K mg "is_row" s_is_row p_is_row a.f_is_row a.c_is_row a.d_is_row
  d_is_text : D K mg "is_text" s_is_text p_is_text a.f_is_text a.c_is_text a.d_is_text
  d_ask_text : D K mg "ask_text" s_ask_text p_ask_text a.f_ask_text a.c_ask_text a.d_ask_text
  d_run_until : D K mg "run_until" s_run_until p_run_until a.f_run_until a.c_run_until a.d_run_until
  d_number_until : D K mg "number_until" s_number_until p_number_until a.f_number_until a.c_number_until a.d_number_until
  d_word_at : D K mg "word_at" s_word_at p_word_at a.f_word_at a.c_word_at a.d_word_at
  d_words_of : D K mg "words_of" s_words_of p_words_of a.f_words_of a.c_words_of a.d_words_of
  d_sort_in : D K mg "sort_in" s_sort_in p_sort_in a.f_sort_in a.c_sort_in a.d_sort_in
  d_joined : D K mg "joined" s_joined p_joined a.f_joined a.c_joined a.d_joined
  d_laid : D K mg "laid" s_laid p_laid a.f_laid a.c_laid a.d_laid
  d_is_word : D K mg "is_word" s_is_word p_is_word a.f_is_word a.c_is_word a.d_is_word
  d_sort_of : D K mg "sort_of" s_sort_of p_sort_of a.f_sort_of a.c_sort_of a.d_sort_of
  d_line_begins : D K mg "line_begins" s_line_begins p_line_begins a.f_line_begins a.c_line_begins a.d_line_begins
  d_lines_of : D K mg "lines_of" s_lines_of p_lines_of a.f_lines_of a.c_lines_of a.d_lines_of
  d_line_at : D K mg "line_at" s_line_at p_line_at a.f_line_at a.c_line_at a.d_line_at
  d__law_power : D K mg "_law_power" s__law_power p__law_power a.f__law_power a.c__law_power a.d__law_power
  d__law_cell : D K mg "_law_cell" s__law_cell p__law_cell a.f__law_cell a.c__law_cell a.d__law_cell
  d__law_numbers : D K mg "_law_numbers" s__law_numbers p__law_numbers a.f__law_numbers a.c__law_numbers a.d__law_numbers
  d__law_same : D K mg "_law_same" s__law_same p__law_same a.f__law_same a.c__law_same a.d__law_same
  d__law_keys : D K mg "_law_keys" s__law_keys p__law_keys a.f__law_keys a.c__law_keys a.d__law_keys
  d__law_tokens : D K mg "_law_tokens" s__law_tokens p__law_tokens a.f__law_tokens a.c__law_tokens a.d__law_tokens
  d__law_told : D K mg "_law_told" s__law_told p__law_told a.f__law_told a.c__law_told a.d__law_told
  d_law : D K mg "law" s_law p_law a.f_law a.c_law a.d_law
  m_KEYS : mg "KEYS" = some (.ref a.a_KEYS)
  q_KEYS : ∀ H, SqT K H a.a_KEYS (keysL.map fun l => V.str (tx l))
  m_LOWER : mg "LOWER" = some (.str (tx lowS) a.t_LOWER)
  m_UPPER : mg "UPPER" = some (.str (tx upS) a.t_UPPER)
  m_FIGURES : mg "FIGURES" = some (.str (tx figS) a.t_FIGURES)
  m_MOST_SIGNS : mg "MOST_SIGNS" = some (.int 6000 a.t_MOST_SIGNS)
  m_MOST_WORD : mg "MOST_WORD" = some (.int 12 a.t_MOST_WORD)
  m_NAME_SIGNS : mg "NAME_SIGNS" = some (.str (tx nameS) a.t_NAME_SIGNS)
  m_MAKER_SIGNS : mg "MAKER_SIGNS" = some (.str (tx makerS) a.t_MAKER_SIGNS)
  m_MARKS : mg "MARKS" = some (.ref a.a_MARKS)
  q_MARKS : ∀ H, SqT K H a.a_MARKS (marksP.map fun l => V.str (tx l))
  m_all : mg "all" = none
  m_bool : mg "bool" = none
  m_int : mg "int" = none
  m_isinstance : mg "isinstance" = none
  m_len : mg "len" = none
  m_list : mg "list" = none
  m_max : mg "max" = none
  m_range : mg "range" = none
  m_str : mg "str" = none
  m_tuple : mg "tuple" = none
  m_MeaningError : mg "MeaningError" = some (.ref a.k_MeaningError)
  m_BadValue : mg "BadValue" = some (.ref a.k_BadValue)
  m_BadText : mg "BadText" = some (.ref a.k_BadText)
  m_TooMany : mg "TooMany" = some (.ref a.k_TooMany)
  x_TooMany : OwnX K mg "TooMany" a.k_TooMany
  x_BadText : Sup.Txt prg K mg "BadText" "not to be read at " a.k_BadText a.k_MeaningError a.i_BadText a.e_BadText
section
variable {K : PySem.W.Frag} {mg : Str → Option Value} {a : Ad} (T : Txt K mg a)
theorem Txt.r_KEYS (_ : Txt K mg a) : RelV (.ref a.a_KEYS) (.ref a.a_KEYS) := rfl
theorem Txt.r_LOWER (_ : Txt K mg a) : RelV (.str (tx lowS)) (.str (tx lowS) a.t_LOWER) := ⟨_, rfl⟩
theorem Txt.r_UPPER (_ : Txt K mg a) : RelV (.str (tx upS)) (.str (tx upS) a.t_UPPER) := ⟨_, rfl⟩
theorem Txt.r_FIGURES (_ : Txt K mg a) : RelV (.str (tx figS)) (.str (tx figS) a.t_FIGURES) := ⟨_, rfl⟩
theorem Txt.r_MOST_SIGNS (_ : Txt K mg a) : RelV (.int 6000) (.int 6000 a.t_MOST_SIGNS) := ⟨_, rfl⟩
theorem Txt.r_MOST_WORD (_ : Txt K mg a) : RelV (.int 12) (.int 12 a.t_MOST_WORD) := ⟨_, rfl⟩
theorem Txt.r_NAME_SIGNS (_ : Txt K mg a) : RelV (.str (tx nameS)) (.str (tx nameS) a.t_NAME_SIGNS) := ⟨_, rfl⟩
theorem Txt.r_MAKER_SIGNS (_ : Txt K mg a) : RelV (.str (tx makerS)) (.str (tx makerS) a.t_MAKER_SIGNS) := ⟨_, rfl⟩
theorem Txt.r_MARKS (_ : Txt K mg a) : RelV (.ref a.a_MARKS) (.ref a.a_MARKS) := rfl
end
end K11
set_option Elab.async false
set_option linter.all false
set_option maxRecDepth 100000
set_option maxHeartbeats 4000000
namespace K11
open PySem PySem.Spec PyProof.Rows L2 Zl
local macro_rules | `(tactic| walk_at "go") => `(tactic| repeat (first | refine ⟨_, rfl, ?_⟩ | refine ⟨_, _, rfl, rfl, ?_⟩ | refine .inl ⟨_, _, rfl, rfl, ?_⟩))
local macro_rules | `(tactic| walk_at "isi") => `(tactic| first
  | refine isi_of (b := true) (.base (.int _)) (by decide +kernel) ?_ | refine isi_of (b := false) (.base (.int _)) (by decide +kernel) ?_
  | refine isi_of (b := true) (.base (.str _)) (by decide +kernel) ?_ | refine isi_of (b := false) (.base (.str _)) (by decide +kernel) ?_
  | refine isi_of (b := true) (ty_st (by assumption)) (by decide +kernel) ?_ | refine isi_of (b := false) (ty_st (by assumption)) (by decide +kernel) ?_
  | refine isi_of (b := true) (ty_sl (by assumption)) (by decide +kernel) ?_ | refine isi_of (b := false) (ty_sl (by assumption)) (by decide +kernel) ?_)
theorem sz6 {l : List Nat} (h : l.length ≤ 6000) : (tx l).length ≤ sizeLine := by rw [tx_len, sizeLine_eq]; omega
section
variable {P : Program} {w : World} {K : PySem.W.Frag} {mg : Str → Option Value} {base : Heap} {a : Ad}
/-! ### is_number, is_within, is_row -/
def spIsNumber : Sp := fun vs H Q _ => ∃ i, vs = [.int i] ∧ Q (.bl true) H
theorem ok_is_number (T : Txt K mg a) : FnOk P w K mg base CX0 1 a.f_is_number a.d_is_number p_is_number spIsNumber := by
  refine T.d_is_number.ok sc_is_number (fun vs H Q E h => ?_) (fun A outer s H vs Q E hr h => ?_)
  · obtain ⟨i, rfl, _⟩ := h; rfl
  · obtain ⟨i, rfl, q⟩ := h
    refine ⟨_, (pss_one (ps_ret (pe_and (pe_callB call_isinstanceZ (by rfl) T.m_isinstance (by decide +kernel) (pa_cons (pv 0) (pa_cons (pe_bltn (v := .ty "int") (by rfl) T.m_int (by decide +kernel) rfl) pa_nil))) (pe_one (pe_notZ (pe_callB call_isinstanceZ (by rfl) T.m_isinstance (by decide +kernel) (pa_cons (pv 0) (pa_cons (pe_bltn (v := .ty "bool") (by rfl) T.m_bool (by decide +kernel) rfl) pa_nil)))))))), ?_⟩
    walk_at "go"
    walk_at "isi"
    walk_at "go"
    walk_at "isi"
    refine ⟨false, rfl, ?_⟩
    exact q
def spIsWithin : Sp := fun vs H Q _ => ∃ i lo hi : Int, vs = [.int i, .int lo, .int hi] ∧ Q (.bl (decide (lo ≤ i) && decide (i ≤ hi))) H
theorem ok_is_within (T : Txt K mg a) : FnOk P w K mg base CX0 2 a.f_is_within a.d_is_within p_is_within spIsWithin := by
  have G_is_number := ok_is_number (P := P) (w := w) (base := base) T
  refine T.d_is_within.ok sc_is_within (fun vs H Q E h => ?_) (fun A outer s H vs Q E hr h => ?_)
  · obtain ⟨i, lo, hi, rfl, _⟩ := h; rfl
  · obtain ⟨i, lo, hi, rfl, q⟩ := h
    refine ⟨_, (pss_one (ps_ret (pe_and (pe_call G_is_number (hr.mono (by decide)) (by rfl) T.d_is_number.g T.d_is_number.kp T.d_is_number.b .nil pass0 (pa_cons (pv 0) pa_nil)) (pe_one (pe_chain op_leZ op_leZ (pv 1) (pv 0) (pv 2)))))), ?_⟩
    walk_at "go"
    refine if2 (fun e => ?_) (fun e => ?_)
    · walk_at "go"
      rw [e, Bool.true_and] at q
      exact q
    · rw [e, Bool.false_and] at q
      exact q
def spIsRow (K : PySem.W.Frag) : Sp := fun vs H Q _ => ∃ p xs, vs = [.ref p] ∧ (SqT K H p xs ∨ SqL K H p xs) ∧ Q (.bl true) H
theorem ok_is_row (T : Txt K mg a) : FnOk P w K mg base CX0 1 a.f_is_row a.d_is_row p_is_row (spIsRow K) := by
  refine T.d_is_row.ok sc_is_row (fun vs H Q E h => ?_) (fun A outer s H vs Q E hr h => ?_)
  · obtain ⟨i, xs, rfl, _⟩ := h; rfl
  · obtain ⟨p, xs, rfl, hs, q⟩ := h
    refine ⟨_, (pss_one (ps_ret (pe_or (pe_callB call_isinstanceZ (by rfl) T.m_isinstance (by decide +kernel) (pa_cons (pv 0) (pa_cons (pe_bltn (v := .ty "tuple") (by rfl) T.m_tuple (by decide +kernel) rfl) pa_nil))) (pe_one (pe_callB call_isinstanceZ (by rfl) T.m_isinstance (by decide +kernel) (pa_cons (pv 0) (pa_cons (pe_bltn (v := .ty "list") (by rfl) T.m_list (by decide +kernel) rfl) pa_nil))))))), ?_⟩
    walk_at "go"
    rcases hs with hs | hs
    · walk_at "isi"
      walk_at "go"
      exact q
    · walk_at "isi"
      walk_at "go"
      walk_at "isi"
      exact q
/-! ### run_until -/
def spRun : Sp := fun vs H Q _ => ∃ (l s : List Nat) (n : Nat), vs = [.str (tx l), .int n, .str (tx s)] ∧ n ≤ l.length ∧ l.length ≤ 6000 ∧ Q (.int ((n + runLen s (l.drop n) : Nat) : Int)) H
theorem ok_run_until (T : Txt K mg a) : FnOk P w K mg base CX0 1 a.f_run_until a.d_run_until p_run_until spRun := by
  refine T.d_run_until.ok sc_run_until (fun vs H Q E h => ?_) (fun A outer s H vs Q E hr h => ?_)
  · obtain ⟨l, s, n, rfl, _⟩ := h; rfl
  · obtain ⟨l, z, n, rfl, hn, hl, q⟩ := h
    refine ⟨_, (pss_cons (ps_while PassesOwn.never (PW.pt (pw_and (pt_cmpR op_ltZ (pv 1) (pe_callB call_lenZ (by rfl) T.m_len (by decide +kernel) (pa_cons (pv 0) pa_nil)) (nomark _)) (pw_and1 (pt_cmpR op_inZ (pe_ix ix_seq (pv 0) (pv 1) (fun _ _ => rfl)) (pv 2) (by rfl)))))
    (pss_one (ps_aug (i := 1) sc_run_until.nd rfl (.inl rfl) pe_int ip_add)))
    (pss_one (ps_ret (pv 1)))), ?_⟩
    refine ⟨fun m σ H' => ∃ k : Nat, σ = [some (.str (tx l)), some (.int (k : Int)), some (.str (tx z))] ∧ k + m = l.length ∧ H' = H ∧ k + runLen z (l.drop k) = n + runLen z (l.drop n), ⟨l.length - n, n, rfl, by omega, rfl, rfl⟩, fun m σ H' hW => ?_⟩
    obtain ⟨k, rfl, hk, rfl, e⟩ := hW
    walk_at "go"
    refine ⟨_, _, rfl, ⟨sz6 hl, rfl⟩, ?_⟩
    walk_at "go"
    by_cases hlt : k < l.length
    · refine ifT (decide_eq_true (by rw [tx_len]; omega)) ?_
      have hd : l.drop k = l[k] :: l.drop (k + 1) := List.drop_eq_getElem_cons hlt
      walk_at "go"
      refine .inr (.inr ⟨_, _, l[k], rfl, rfl, sz6 hl, atI_nat (List.getElem?_eq_getElem hlt), ?_⟩)
      walk_at "go"
      refine if2 (fun c => ?_) (fun c => ?_)
      · have c' : l[k] ∈ z := of_decide_eq_true c
        rw [hd, runLen_yes c'] at e
        refine ⟨fun σ' H2 => σ' = [some (.str (tx l)), some (.int ((k : Int) + 1)), some (.str (tx z))] ∧ H2 = H', fun σ' H2 h2 => ⟨m - 1, by omega, k + 1, ?_, by omega, h2.2, by omega⟩, ?_⟩
        · rw [h2.1]; rfl
        · walk_at "go"
          exact ⟨rfl, rfl⟩
      · have c' : l[k] ∉ z := of_decide_eq_false c
        rw [hd, runLen_no c'] at e
        walk_at "go"
        rw [← e] at q
        exact q
    · refine ifF (decide_eq_false (by rw [tx_len]; omega)) ?_
      refine ifF rfl ?_
      have hd : l.drop k = [] := List.drop_eq_nil_of_le (by omega)
      rw [hd, runLen_nil] at e
      walk_at "go"
      rw [← e] at q
      exact q
end
end K11
set_option Elab.async false
set_option linter.all false
set_option maxRecDepth 100000
set_option maxHeartbeats 4000000
namespace K11
open PySem PySem.Spec PyProof.Rows L2 Zl
local macro_rules | `(tactic| walk_at "go") => `(tactic| repeat (first | refine ⟨_, rfl, ?_⟩ | refine ⟨_, _, rfl, rfl, ?_⟩ | refine .inl ⟨_, _, rfl, rfl, ?_⟩))
local macro_rules | `(tactic| walk_at "isi") => `(tactic| first
  | refine isi_of (b := true) (.base (.int _)) (by decide +kernel) ?_ | refine isi_of (b := false) (.base (.int _)) (by decide +kernel) ?_
  | refine isi_of (b := true) (.base (.str _)) (by decide +kernel) ?_ | refine isi_of (b := false) (.base (.str _)) (by decide +kernel) ?_
  | refine isi_of (b := true) (ty_st (by assumption)) (by decide +kernel) ?_ | refine isi_of (b := false) (ty_st (by assumption)) (by decide +kernel) ?_
  | refine isi_of (b := true) (ty_sl (by assumption)) (by decide +kernel) ?_ | refine isi_of (b := false) (ty_sl (by assumption)) (by decide +kernel) ?_)
section
variable {P : Program} {w : World} {K : PySem.W.Frag} {mg : Str → Option Value} {base : Heap} {a : Ad}
theorem s_add (a b : Str) : a ++ b = tx (a.cps.toList ++ b.cps.toList) := by
  show (⟨a.cps ++ b.cps⟩ : Str) = ⟨(a.cps.toList ++ b.cps.toList).toArray⟩
  congr 1
  apply Array.ext'
  simp
def orNon : Option Nat → V
  | none => .non
  | some n => .int (n : Int)
def spNumber : Sp := fun vs H Q _ => ∃ (l : List Nat) (n : Nat), vs = [.str (tx l), .int n] ∧ n < l.length ∧ l.length ≤ 6000 ∧ Q (orNon ((numLen (l.drop n)).map (n + ·))) H
theorem ok_number_until (T : Txt K mg a) : FnOk P w K mg base CX0 2 a.f_number_until a.d_number_until p_number_until spNumber := by
  have G_run_until := ok_run_until (P := P) (w := w) (base := base) T
  refine T.d_number_until.ok sc_number_until (fun vs H Q E h => ?_) (fun A outer s H vs Q E hr h => ?_)
  · obtain ⟨l, n, rfl, _⟩ := h; rfl
  · obtain ⟨l, n, rfl, hn, hl, q⟩ := h
    refine ⟨_, (pss_cons (ps_set (i := 2) sc_number_until.nd rfl (.inl rfl) (pe_call G_run_until (hr.mono (by decide)) (by rfl) T.d_run_until.g T.d_run_until.kp T.d_run_until.b .nil pass0 (pa_cons (pv 0) (pa_cons (pv 1) (pa_cons (pe_glob rfl T.m_FIGURES T.r_FIGURES) pa_nil)))))
    (pss_cons (ps_if (PW.pt (pw_or (pt_cmpR op_gt (pe_op op_sub (pv 2) (pv 1)) (pe_glob rfl T.m_MOST_WORD T.r_MOST_WORD) (nomark _)) (pw_or1 (PW.pt (pw_and (pt_cmpR (op_eqZ (u64 hr)) (pe_ix ix_seq (pv 0) (pv 1) (fun _ _ => rfl)) pe_str (nomark _)) (pw_and1 (pt_cmpR op_gt (pe_op op_sub (pv 2) (pv 1)) pe_int (nomark _))))))))
    (pss_one (ps_ret pe_non))
    pss_nil)
    (pss_cons (ps_if (PW.pt (pw_and (pt_cmpR op_ltZ (pv 2) (pe_callB call_lenZ (by rfl) T.m_len (by decide +kernel) (pa_cons (pv 0) pa_nil)) (nomark _)) (pw_and1 (pt_cmpR op_inZ (pe_ix ix_seq (pv 0) (pv 2) (fun _ _ => rfl)) (pe_op op_addZ (pe_op op_addZ (pe_glob rfl T.m_LOWER T.r_LOWER) (pe_glob rfl T.m_UPPER T.r_UPPER)) pe_str) (by rfl)))))
    (pss_one (ps_ret pe_non))
    pss_nil)
    (pss_one (ps_ret (pv 2)))))), ?_⟩
    walk_at "go"
    refine ⟨l, figS, n, rfl, by omega, hl, ?_⟩
    have hle := runLen_le figS (l.drop n)
    rw [List.length_drop] at hle
    have hd : l.drop n = l[n] :: l.drop (n + 1) := List.drop_eq_getElem_cons hn
    have hnum : numLen (l.drop n) = (if runLen figS (l.drop n) > 12 ∨ ((l.drop n).head? = some 48 ∧ runLen figS (l.drop n) > 1) then none
      else match (l.drop n)[runLen figS (l.drop n)]? with
        | some d => if d ∈ alphaS then none else some (runLen figS (l.drop n))
        | none => some (runLen figS (l.drop n))) := rfl
    rw [hnum] at q
    have hh : (l.drop n).head? = some l[n] := by rw [hd]; rfl
    rw [hh, List.getElem?_drop] at q
    generalize runLen figS (l.drop n) = u at *
    walk_at "go"
    refine if2 (fun c1 => ?_) (fun c1 => ?_)
    · have c1' := of_decide_eq_true c1
      walk_at "go"
      rw [if_pos (.inl (by omega))] at q
      exact q
    · have c1' := of_decide_eq_false c1
      walk_at "go"
      refine .inr (.inr ⟨_, _, l[n], rfl, rfl, sz6 hl, atI_nat (List.getElem?_eq_getElem hn), ?_⟩)
      walk_at "go"
      refine .inl ⟨rfl, ?_⟩
      walk_at "go"
      have eq0 : decide (V.str (tx [l[n]]) = V.str (Str.ofString "0")) = decide (l[n] = 48) := by
        rw [show Str.ofString "0" = tx [48] by decide +kernel, dec_tx]
        exact decide_eq_decide.mpr ⟨fun e => (List.cons.inj e).1, fun e => by rw [e]⟩
      have fin : ∀ (_ : ¬ (u > 12 ∨ (some l[n] = some 48 ∧ u > 1))), tSeq (tIfS (tAnd (tTest (tOp (rI0 fun i j => .bl (decide (i < j))) (tVar 2) (tCB (fun xs H Q => ∃ x n, xs = [x] ∧ LenV K x H n ∧ Q (.int n) H) (tCons (tVar 0) tNil)))) (tTest (tOp (rInZ K false) (tOp (rIx K) (tVar 0) (tVar 2)) (tOp (rAddZ K) (tOp (rAddZ K) (tC (.str (tx lowS))) (tC (.str (tx upS)))) (tC (.str (Str.ofString "_"))))))) (tRet (tC .non)) tNext) (tRet (tVar 2)) { nx := fun _ H' => Q .non H', rt := Q } [some (.str (tx l)), some (.int (n : Int)), some (.int ((n + u : Nat) : Int))] H := by
        intro hc
        rw [if_neg hc] at q
        walk_at "go"
        refine ⟨_, _, rfl, ⟨sz6 hl, rfl⟩, ?_⟩
        walk_at "go"
        by_cases hu : n + u < l.length
        · refine ifT (decide_eq_true (by rw [tx_len]; omega)) ?_
          rw [List.getElem?_eq_getElem hu] at q
          walk_at "go"
          refine .inr (.inr ⟨_, _, l[n + u], rfl, rfl, sz6 hl, atI_nat (List.getElem?_eq_getElem hu), ?_⟩)
          refine .inr (.inl ⟨_, _, rfl, rfl, by decide +kernel, ?_⟩)
          refine .inr (.inl ⟨_, _, rfl, rfl, by decide +kernel, ?_⟩)
          refine .inl ⟨_, _, rfl, rfl, ?_⟩
          walk_at "go"
          have ea : ((tx lowS ++ tx upS) ++ Str.ofString "_").cps.toList = alphaS := by decide +kernel
          rw [ea]
          dsimp only at q
          by_cases hin : l[n + u] ∈ alphaS
          · refine ifT (decide_eq_true hin) ?_
            rw [if_pos hin] at q
            walk_at "go"
            exact q
          · refine ifF (decide_eq_false hin) ?_
            rw [if_neg hin] at q
            walk_at "go"
            exact q
        · refine ifF (decide_eq_false (by rw [tx_len]; omega)) ?_
          refine ifF rfl ?_
          rw [List.getElem?_eq_none (by omega)] at q
          walk_at "go"
          exact q
      by_cases h48 : l[n] = 48
      · refine ifT (eq0.trans (decide_eq_true h48)) ?_
        walk_at "go"
        by_cases h1 : u > 1
        · refine ifT (decide_eq_true (by omega)) ?_
          walk_at "go"
          rw [if_pos (.inr ⟨by rw [h48], h1⟩)] at q
          exact q
        · refine ifF (decide_eq_false (by omega)) ?_
          exact fin (fun h => by rcases h with h | h <;> omega)
      · refine ifF (eq0.trans (decide_eq_false h48)) ?_
        refine ifF rfl ?_
        exact fin (fun h => by
          rcases h with h | h
          · omega
          · exact h48 (Option.some.inj h.1))
end
end K11
set_option Elab.async false
set_option linter.all false
set_option maxRecDepth 100000
set_option maxHeartbeats 4000000
namespace K11
open PySem PySem.Spec PyProof.Rows L2 Zl
local macro_rules | `(tactic| walk_at "go") => `(tactic| repeat (first | refine ⟨_, rfl, ?_⟩ | refine ⟨_, _, rfl, rfl, ?_⟩ | refine .inl ⟨_, _, rfl, rfl, ?_⟩))
local macro_rules | `(tactic| walk_at "isi") => `(tactic| first
  | refine isi_of (b := true) (.base (.int _)) (by decide +kernel) ?_ | refine isi_of (b := false) (.base (.int _)) (by decide +kernel) ?_
  | refine isi_of (b := true) (.base (.str _)) (by decide +kernel) ?_ | refine isi_of (b := false) (.base (.str _)) (by decide +kernel) ?_
  | refine isi_of (b := true) (ty_st (by assumption)) (by decide +kernel) ?_ | refine isi_of (b := false) (ty_st (by assumption)) (by decide +kernel) ?_
  | refine isi_of (b := true) (ty_sl (by assumption)) (by decide +kernel) ?_ | refine isi_of (b := false) (ty_sl (by assumption)) (by decide +kernel) ?_)
section
variable {P : Program} {w : World} {K : PySem.W.Frag} {mg : Str → Option Value} {base : Heap} {a : Ad}
def spWordAt : Sp := fun vs H Q _ => ∃ (l : List Nat) (n : Nat), vs = [.str (tx l), .int n] ∧ n < l.length ∧ l.length ≤ 6000 ∧ (wordAt (l.drop n) = none → Q .non H) ∧
  ∀ k m, wordAt (l.drop n) = some (k, m) → ∀ p, H p = none → Q (.ref p) (upd H p (.tup [.str (tx k), .int ((n + m : Nat) : Int)]))
theorem tup_sz {xs : List V} (h : xs.length ≤ 100) : xs.length ≤ sizeLine := by rw [sizeLine_eq]; omega
theorem firstMark_drop {l : List Nat} {i : Nat} {m : List Nat} (h : marksP[i]? = some m) : firstMark l (marksP.drop i) = (if l.take m.length = m then some (sMark, m.length) else firstMark l (marksP.drop (i + 1))) := by
  obtain ⟨hi, e⟩ := List.getElem?_eq_some_iff.mp h
  rw [List.drop_eq_getElem_cons hi, e]
  rfl
theorem ok_word_at (T : Txt K mg a) : FnOk P w K mg base CX0 3 a.f_word_at a.d_word_at p_word_at spWordAt := by
  have G_run_until := ok_run_until (P := P) (w := w) (base := base) T
  have G_number_until := ok_number_until (P := P) (w := w) (base := base) T
  refine T.d_word_at.ok sc_word_at (fun vs H Q E h => ?_) (fun A outer s H vs Q E hr h => ?_)
  · obtain ⟨l, n, rfl, _⟩ := h; rfl
  · obtain ⟨l, n, rfl, hn, hl, q0, q1⟩ := h
    refine ⟨_, (pss_cons (ps_set (i := 2) sc_word_at.nd rfl (.inl rfl) (pe_ix ix_seq (pv 0) (pv 1) (fun _ _ => rfl)))
    (pss_cons (ps_if (pt_cmpR op_inZ (pv 2) (pe_glob rfl T.m_FIGURES T.r_FIGURES) (by rfl))
    (pss_cons (ps_set (i := 3) sc_word_at.nd rfl (.inl rfl) (pe_call G_number_until (hr.mono (by decide)) (by rfl) T.d_number_until.g T.d_number_until.kp T.d_number_until.b .nil pass0 (pa_cons (pv 0) (pa_cons (pv 1) pa_nil))))
    (pss_cons (ps_if (pt_cmpR op_isZ (pv 3) pe_non (nomark _))
    (pss_one (ps_ret pe_non))
    pss_nil)
    (pss_one (ps_ret (pe_tup (pa_cons pe_str (pa_cons (pv 3) pa_nil)))))))
    pss_nil)
    (pss_cons (ps_if (PW.pt (pw_or (pt_cmpR op_inZ (pv 2) (pe_glob rfl T.m_LOWER T.r_LOWER) (by rfl)) (pw_or1 (pt_cmpR op_inZ (pv 2) (pe_glob rfl T.m_UPPER T.r_UPPER) (by rfl)))))
    (pss_cons (ps_par (i := 4) (j := 5) (by rfl) sc_word_at.nd rfl rfl (by decide) rfl rfl (pa_cons pe_str (pa_cons (pe_glob rfl T.m_MAKER_SIGNS T.r_MAKER_SIGNS) pa_nil)) (by rfl))
    (C8.pss_cut (ps_if (pt_cmpR op_inZ (pv 2) (pe_glob rfl T.m_LOWER T.r_LOWER) (by rfl))
    (pss_one (ps_par (i := 4) (j := 5) (by rfl) sc_word_at.nd rfl rfl (by decide) rfl rfl (pa_cons pe_str (pa_cons (pe_glob rfl T.m_NAME_SIGNS T.r_NAME_SIGNS) pa_nil)) (by rfl)))
    pss_nil)
    (pss_cons (ps_set (i := 3) sc_word_at.nd rfl (.inl rfl) (pe_call G_run_until (hr.mono (by decide)) (by rfl) T.d_run_until.g T.d_run_until.kp T.d_run_until.b .nil pass0 (pa_cons (pv 0) (pa_cons (pv 1) (pa_cons (pv 5) pa_nil)))))
    (pss_cons (ps_if (pt_cmpR op_gt (pe_op op_sub (pv 3) (pv 1)) (pe_glob rfl T.m_MOST_WORD T.r_MOST_WORD) (nomark _))
    (pss_one (ps_ret pe_non))
    pss_nil)
    (pss_cons (ps_if (pt_cmpR op_inZ (pe_slice sl_Z (pv 0) (po_some (pv 1)) (po_some (pv 3))) (pe_glob rfl T.m_KEYS T.r_KEYS) (by rfl))
    (pss_one (ps_set (i := 4) sc_word_at.nd rfl (.inl rfl) pe_str))
    pss_nil)
    (pss_one (ps_ret (pe_tup (pa_cons (pv 4) (pa_cons (pv 3) pa_nil))))))))))
    pss_nil)
    (pss_cons (ps_for PassesOwn.never rfl (pi_seq (pe_glob rfl T.m_MARKS T.r_MARKS)) (pg_name (i := 6) sc_word_at.nd rfl (.inl rfl))
    (pss_one (ps_if (pt_cmpR (op_eqZ (u64 hr)) (pe_slice sl_Z (pv 0) (po_some (pv 1)) (po_some (pe_op op_addZ (pv 1) (pe_callB call_lenZ (by rfl) T.m_len (by decide +kernel) (pa_cons (pv 6) pa_nil))))) (pv 6) (nomark _))
    (pss_one (ps_ret (pe_tup (pa_cons pe_str (pa_cons (pe_op op_addZ (pv 1) (pe_callB call_lenZ (by rfl) T.m_len (by decide +kernel) (pa_cons (pv 6) pa_nil))) pa_nil)))))
    pss_nil)))
    (pss_one (ps_ret pe_non)))))), ?_⟩
    have hd : l.drop n = l[n] :: l.drop (n + 1) := List.drop_eq_getElem_cons hn
    have hw : wordAt (l.drop n) = (if l[n] ∈ figS then (numLen (l.drop n)).map fun n => (sNumber, n)
      else if l[n] ∈ lowS ∨ l[n] ∈ upS then
        (if runLen (if l[n] ∈ lowS then nameS else makerS) (l.drop n) > 12 then none
        else if (l.drop n).take (runLen (if l[n] ∈ lowS then nameS else makerS) (l.drop n)) ∈ keysL then some (sKey, runLen (if l[n] ∈ lowS then nameS else makerS) (l.drop n))
        else some (if l[n] ∈ lowS then sName else sMaker, runLen (if l[n] ∈ lowS then nameS else makerS) (l.drop n)))
      else firstMark (l.drop n) marksP) := by rw [hd]; rfl
    rw [hw] at q0 q1
    walk_at "go"
    refine .inr (.inr ⟨_, _, l[n], rfl, rfl, sz6 hl, atI_nat (List.getElem?_eq_getElem hn), ?_⟩)
    walk_at "go"
    by_cases hf : l[n] ∈ figS
    · refine ifT (decide_eq_true hf) ?_
      rw [if_pos hf] at q0 q1
      walk_at "go"
      refine ⟨l, n, rfl, hn, hl, ?_⟩
      cases hnu : numLen (l.drop n) with
      | none =>
        rw [hnu] at q0
        refine ⟨_, rfl, ?_⟩
        refine .inl ⟨rfl, ?_⟩
        walk_at "go"
        exact q0 rfl
      | some m =>
        rw [hnu] at q1
        refine ⟨_, rfl, ?_⟩
        refine .inl ⟨rfl, ?_⟩
        walk_at "go"
        refine ⟨tup_sz (by simp), fun p hp => ?_⟩
        have z := q1 sNumber m rfl p hp
        rw [show tx sNumber = Str.ofString "number" by decide +kernel] at z
        exact z
    · refine ifF (decide_eq_false hf) ?_
      rw [if_neg hf] at q0 q1
      by_cases hc : l[n] ∈ lowS ∨ l[n] ∈ upS
      · rw [if_pos hc] at q0 q1
        walk_at "go"
        by_cases h1 : l[n] ∈ lowS
        · refine ifT (decide_eq_true h1) ?_
          walk_at "go"
          refine ⟨_, _, rfl, ?_⟩
          refine ⟨fun σ' H' => σ' = [some (.str (tx l)), some (.int (n : Int)), some (.str ⟨#[l[n]]⟩), none, some (.str (tx sName)), some (.str (tx nameS)), none] ∧ H' = H, ?_, ?_⟩
          · walk_at "go"
            refine ifT (decide_eq_true h1) ?_
            refine ⟨_, _, rfl, ?_⟩
            exact ⟨by rw [show tx sName = Str.ofString "name" by decide +kernel]; rfl, rfl⟩
          · rw [if_pos h1, if_pos h1] at q0 q1
            rintro σ' H' ⟨rfl, rfl⟩
            generalize sName = srt at q0 q1 ⊢
            generalize nameS = sg at q0 q1 ⊢
            walk_at "go"
            refine ⟨l, sg, n, rfl, by omega, hl, ?_⟩
            have hle := runLen_le sg (l.drop n)
            rw [List.length_drop] at hle
            generalize runLen sg (l.drop n) = u at *
            walk_at "go"
            refine if2 (fun c => ?_) (fun c => ?_)
            · have c' := of_decide_eq_true c
              walk_at "go"
              exact q0 (if_pos (by omega))
            · have c' := of_decide_eq_false c
              rw [if_neg (show ¬ u > 12 by omega)] at q0 q1
              walk_at "go"
              refine .inl ⟨_, rfl, sz6 hl, ?_⟩
              have ecut := cut_tx (l := l) (n := n) (m := n + u) (by omega)
              rw [show n + u - n = u by omega] at ecut
              rw [ecut]
              refine .inr ⟨_, _, rfl, .inr (T.q_KEYS _), rfl, flat_tx _, ?_⟩
              walk_at "go"
              rw [show (if false = true then !inV (.str (tx ((l.drop n).take u))) (keysL.map fun l => V.str (tx l)) else inV (.str (tx ((l.drop n).take u))) (keysL.map fun l => V.str (tx l))) = decide ((l.drop n).take u ∈ keysL) from inV_tx _ _]
              by_cases hk : (l.drop n).take u ∈ keysL
              · refine ifT (decide_eq_true hk) ?_
                rw [if_pos hk] at q1
                walk_at "go"
                refine ⟨tup_sz (by simp), fun p hp => ?_⟩
                have z := q1 sKey u rfl p hp
                rw [show tx sKey = Str.ofString "key" by decide +kernel] at z
                exact z
              · refine ifF (decide_eq_false hk) ?_
                rw [if_neg hk] at q1
                walk_at "go"
                refine ⟨tup_sz (by simp), fun p hp => ?_⟩
                exact q1 srt u rfl p hp
        · refine ifF (decide_eq_false h1) ?_
          walk_at "go"
          refine ifT (decide_eq_true (hc.resolve_left h1)) ?_
          walk_at "go"
          refine ⟨_, _, rfl, ?_⟩
          refine ⟨fun σ' H' => σ' = [some (.str (tx l)), some (.int (n : Int)), some (.str ⟨#[l[n]]⟩), none, some (.str (tx sMaker)), some (.str (tx makerS)), none] ∧ H' = H, ?_, ?_⟩
          · walk_at "go"
            refine ifF (decide_eq_false h1) ?_
            exact ⟨by rw [show tx sMaker = Str.ofString "maker" by decide +kernel]; rfl, rfl⟩
          · rw [if_neg h1, if_neg h1] at q0 q1
            rintro σ' H' ⟨rfl, rfl⟩
            generalize sMaker = srt at q0 q1 ⊢
            generalize makerS = sg at q0 q1 ⊢
            walk_at "go"
            refine ⟨l, sg, n, rfl, by omega, hl, ?_⟩
            have hle := runLen_le sg (l.drop n)
            rw [List.length_drop] at hle
            generalize runLen sg (l.drop n) = u at *
            walk_at "go"
            refine if2 (fun c => ?_) (fun c => ?_)
            · have c' := of_decide_eq_true c
              walk_at "go"
              exact q0 (if_pos (by omega))
            · have c' := of_decide_eq_false c
              rw [if_neg (show ¬ u > 12 by omega)] at q0 q1
              walk_at "go"
              refine .inl ⟨_, rfl, sz6 hl, ?_⟩
              have ecut := cut_tx (l := l) (n := n) (m := n + u) (by omega)
              rw [show n + u - n = u by omega] at ecut
              rw [ecut]
              refine .inr ⟨_, _, rfl, .inr (T.q_KEYS _), rfl, flat_tx _, ?_⟩
              walk_at "go"
              rw [show (if false = true then !inV (.str (tx ((l.drop n).take u))) (keysL.map fun l => V.str (tx l)) else inV (.str (tx ((l.drop n).take u))) (keysL.map fun l => V.str (tx l))) = decide ((l.drop n).take u ∈ keysL) from inV_tx _ _]
              by_cases hk : (l.drop n).take u ∈ keysL
              · refine ifT (decide_eq_true hk) ?_
                rw [if_pos hk] at q1
                walk_at "go"
                refine ⟨tup_sz (by simp), fun p hp => ?_⟩
                have z := q1 sKey u rfl p hp
                rw [show tx sKey = Str.ofString "key" by decide +kernel] at z
                exact z
              · refine ifF (decide_eq_false hk) ?_
                rw [if_neg hk] at q1
                walk_at "go"
                refine ⟨tup_sz (by simp), fun p hp => ?_⟩
                exact q1 srt u rfl p hp
      · rw [if_neg hc] at q0 q1
        have n1 : l[n] ∉ lowS := fun h => hc (.inl h)
        have n2 : l[n] ∉ upS := fun h => hc (.inr h)
        walk_at "go"
        refine ifF (decide_eq_false n1) ?_
        walk_at "go"
        refine ifF (decide_eq_false n2) ?_
        refine ⟨a.a_MARKS, rfl, .inr ⟨⟨_, T.q_MARKS H⟩, for_tup (K := K) (a := a.a_MARKS) (xs := marksP.map fun l => V.str (tx l)) (fun i σ' H' => ∃ x6, σ' = [some (.str (tx l)), some (.int (n : Int)), some (.str ⟨#[l[n]]⟩), none, none, none, x6] ∧ H' = H ∧ firstMark (l.drop n) marksP = firstMark (l.drop n) (marksP.drop i)) ⟨none, rfl, rfl, rfl⟩ (fun i σ' H' _ h => T.q_MARKS H') ?_ ?_⟩⟩
        · rintro i y σ' H' hi ⟨x6, rfl, rfl, hm⟩
          obtain ⟨mk, hmk, rfl⟩ : ∃ mk, marksP[i]? = some mk ∧ y = V.str (tx mk) := by
            rw [List.getElem?_map] at hi
            cases e : marksP[i]? with
            | none => rw [e] at hi; cases hi
            | some z => rw [e] at hi; exact ⟨z, rfl, (Option.some.inj hi).symm⟩
          have len2 : ∀ m ∈ marksP, m.length ≤ 2 := by decide +kernel
          have hlen := len2 mk (List.mem_of_getElem? hmk)
          have zl : (tx mk).length ≤ sizeLine := by rw [tx_len, sizeLine_eq]; omega
          rw [firstMark_drop hmk] at hm
          walk_at "go"
          refine ⟨_, _, rfl, ⟨zl, rfl⟩, ?_⟩
          walk_at "go"
          refine .inl ⟨_, rfl, sz6 hl, ?_⟩
          walk_at "go"
          refine .inl ⟨rfl, ?_⟩
          walk_at "go"
          have ecut : cutS (tx l) (some (n : Int)) (some ((n : Int) + ((tx mk).length : Int))) = tx ((l.drop n).take mk.length) := by
            have z := cut_tx (l := l) (n := n) (m := n + mk.length) (by omega)
            rw [show n + mk.length - n = mk.length by omega] at z
            exact z
          rw [ecut, dec_tx]
          by_cases hq : (l.drop n).take mk.length = mk
          · refine ifT (decide_eq_true hq) ?_
            rw [if_pos hq] at hm
            rw [hm] at q1
            walk_at "go"
            refine ⟨_, _, rfl, ⟨zl, rfl⟩, ?_⟩
            walk_at "go"
            refine ⟨tup_sz (by simp), fun p hp => ?_⟩
            have z := q1 sMark mk.length rfl p hp
            rw [show tx sMark = Str.ofString "mark" by decide +kernel] at z
            exact z
          · refine ifF (decide_eq_false hq) ?_
            rw [if_neg hq] at hm
            exact ⟨_, rfl, rfl, hm⟩
        · rintro σ' H' ⟨x6, rfl, rfl, hm⟩
          rw [List.length_map, List.drop_length] at hm
          walk_at "go"
          exact q0 hm
end
end K11
set_option Elab.async false
set_option linter.all false
set_option maxRecDepth 100000
set_option maxHeartbeats 4000000
namespace K11
open PySem PySem.Spec PyProof.Rows L2 Zl
local macro_rules | `(tactic| walk_at "go") => `(tactic| repeat (first | refine ⟨_, rfl, ?_⟩ | refine ⟨_, _, rfl, rfl, ?_⟩ | refine .inl ⟨_, _, rfl, rfl, ?_⟩))
local macro_rules | `(tactic| walk_at "isi") => `(tactic| first
  | refine isi_of (b := true) (.base (.int _)) (by decide +kernel) ?_ | refine isi_of (b := false) (.base (.int _)) (by decide +kernel) ?_
  | refine isi_of (b := true) (.base (.str _)) (by decide +kernel) ?_ | refine isi_of (b := false) (.base (.str _)) (by decide +kernel) ?_
  | refine isi_of (b := true) (ty_st (by assumption)) (by decide +kernel) ?_ | refine isi_of (b := false) (ty_st (by assumption)) (by decide +kernel) ?_
  | refine isi_of (b := true) (ty_sl (by assumption)) (by decide +kernel) ?_ | refine isi_of (b := false) (ty_sl (by assumption)) (by decide +kernel) ?_)
section
variable {P : Program} {w : World} {K : PySem.W.Frag} {mg : Str → Option Value} {base : Heap} {a : Ad}
def okSign (c : Nat) : Bool := c == 10 || (decide (32 ≤ c) && decide (c ≤ 126))
theorem el_sign {scope : Scope} {p1 p2 p3 p4 p5 p6 p7 p8 : Pos} {j1 j2 j3 : Nat} (hk : scope.kind = .function) (hl : scope.names.lookup ("sign" : Str) = some NameKind.local) :
    GxR.EltP P w scope "sign" (.BoolOp .Or [.Compare (.Name "sign" p1) [.Eq] [.Constant (.str "\n") j1 p2] p3, .Compare (.Constant (.str " ") j2 p4) [.LtE, .LtE] [.Name "sign" p5, .Constant (.str "~") j3 p6] p7] p8) okSign := by
  intro cenv A' E' c t s₂ m₂ hs hn hm
  have nm : ∀ {Q : Value → Shared → Prop} {p : Pos} {s : Shared}, s.heap.Ns cenv.locals m₂ → Q (.str ⟨#[c]⟩ t) s → wpAny (model P w) A' (eval (.Name "sign" p) cenv) Q E' s := fun hn' h =>
    wpAny_Name (wpAny_loadName_local (by rw [hs]; exact hk) (show cenv.scope.names.lookup ("sign" : Str) = some NameKind.local by rw [hs]; exact hl) hn' hm h) (by decide)
  refine BoolOp_or ?_
  refine wpAny_Compare1 (nm hn ?_)
  refine Calls.Constant_str ?_
  refine PySem.P.eq_str ?_
  refine wpAny_truthy_bool ?_
  refine if2 (fun c1 => ?_) (fun c1 => ?_)
  · have e : c = 10 := (List.cons.inj ((eq_of_beq c1).trans (show ("\n" : Str).cps.toList = [10] by decide +kernel))).1
    subst e
    exact ⟨rfl, GxR.keeps_tok _ _⟩
  · have e : c ≠ 10 := fun z => by
      rw [z] at c1
      revert c1
      decide +kernel
    refine BoolOp_one ?_
    refine Compare_chain ?_
    refine Calls.Constant_str ?_
    refine chain_link ?_
    refine nm hn ?_
    refine PySem.P.le_str ?_
    refine wpAny_truthy_bool ?_
    have l1 : (!decide ((⟨#[c]⟩ : Str).cps.toList < (" " : Str).cps.toList)) = decide (32 ≤ c) := by
      rw [← decide_not]
      refine decide_eq_decide.mpr ?_
      show ¬ ([c] < [32]) ↔ _
      rw [List.cons_lt_cons_iff]
      simp
    have l2 : (!decide (("~" : Str).cps.toList < (⟨#[c]⟩ : Str).cps.toList)) = decide (c ≤ 126) := by
      rw [← decide_not]
      refine decide_eq_decide.mpr ?_
      show ¬ ([126] < [c]) ↔ _
      rw [List.cons_lt_cons_iff]
      simp
    have e2 : okSign c = (decide (32 ≤ c) && decide (c ≤ 126)) := by
      unfold okSign
      rw [beq_eq_false_iff_ne.mpr e, Bool.false_or]
    rw [e2]
    rw [l1]
    refine if2 (fun c2 => ?_) (fun c2 => ?_)
    · refine chain_last (Calls.Constant_str (PySem.P.le_str ?_))
      refine ⟨?_, GxR.keeps_tok _ _⟩
      rw [l2, c2, Bool.true_and]
    · refine ⟨?_, GxR.keeps_tok _ _⟩
      rw [c2, Bool.false_and]
def spIsText (tab : Addr) : Sp := fun vs H Q _ => ∃ l : List Nat, vs = [.str (tx l)] ∧ l.length ≤ 6000 ∧ l.all okSign = true ∧ GxR.TabG H tab ∧ ∀ H', GxR.Tabbed tab H H' → Q (.bl true) H'
theorem ok_is_text (T : Txt K mg a) (TB : GxR.TabB base mg a.c_is_text a.tab_is_text) : FnOk P w K mg base CX0 1 a.f_is_text a.d_is_text p_is_text (spIsText a.tab_is_text) := by
  refine T.d_is_text.ok sc_is_text (fun vs H Q E h => ?_) (fun A outer s H vs Q E hr h => ?_)
  · obtain ⟨l, rfl, _⟩ := h; rfl
  · obtain ⟨l, rfl, hl, hs, ht, q⟩ := h
    have EL := @el_sign P w
    refine ⟨_, (pss_cons (ps_if (PW.pt (pw_or (pt_not (pt_truth (pe_callB call_isinstanceZ (by rfl) T.m_isinstance (by decide +kernel) (pa_cons (pv 0) (pa_cons (pe_bltn (v := .ty "str") (by rfl) T.m_str (by decide +kernel) rfl) pa_nil))) (by intro _; rfl))) (pw_or1 (pt_cmpR op_gt (pe_callB call_lenZ (by rfl) T.m_len (by decide +kernel) (pa_cons (pv 0) pa_nil)) (pe_glob rfl T.m_MOST_SIGNS T.r_MOST_SIGNS) (nomark _)))))
    (pss_one (ps_ret pe_bl))
    pss_nil)
    (pss_one (ps_ret (GxR.pe_allS (pb := okSign) hr (by rfl) T.m_all (by kernel_rfl) TB rfl (GxR.gs_plain rfl rfl (by decide +kernel) rfl rfl (by decide +kernel)) (pv 0) (EL rfl rfl) (by intro _; rfl))))), ?_⟩
    walk_at "go"
    walk_at "isi"
    refine ⟨_, rfl, ?_⟩
    refine ifF rfl ?_
    walk_at "go"
    refine ⟨_, _, rfl, ⟨sz6 hl, rfl⟩, ?_⟩
    walk_at "go"
    refine ifF (decide_eq_false (by rw [tx_len]; omega)) ?_
    walk_at "go"
    refine ⟨ht, fun H' hH => ?_⟩
    have z := q H' hH
    rw [← hs] at z
    exact z
theorem el_ok : True := trivial
end
end K11
set_option Elab.async false
set_option linter.all false
set_option maxRecDepth 100000
set_option maxHeartbeats 4000000
namespace K11
open PySem PySem.Spec PyProof.Rows L2 Zl
local macro_rules | `(tactic| walk_at "go") => `(tactic| repeat (first | refine ⟨_, rfl, ?_⟩ | refine ⟨_, _, rfl, rfl, ?_⟩ | refine .inl ⟨_, _, rfl, rfl, ?_⟩))
local macro_rules | `(tactic| walk_at "isi") => `(tactic| first
  | refine isi_of (b := true) (.base (.int _)) (by decide +kernel) ?_ | refine isi_of (b := false) (.base (.int _)) (by decide +kernel) ?_
  | refine isi_of (b := true) (.base (.str _)) (by decide +kernel) ?_ | refine isi_of (b := false) (.base (.str _)) (by decide +kernel) ?_
  | refine isi_of (b := true) (ty_st (by assumption)) (by decide +kernel) ?_ | refine isi_of (b := false) (ty_st (by assumption)) (by decide +kernel) ?_
  | refine isi_of (b := true) (ty_sl (by assumption)) (by decide +kernel) ?_ | refine isi_of (b := false) (ty_sl (by assumption)) (by decide +kernel) ?_)
section
variable {P : Program} {w : World} {K : PySem.W.Frag} {mg : Str → Option Value} {base : Heap} {a : Ad}
def spAskText (tab : Addr) : Sp := fun vs H Q _ => ∃ (l : List Nat) (v : V), vs = [.str (tx l), v] ∧ l.length ≤ 6000 ∧ l.all okSign = true ∧ GxR.TabG H tab ∧ ∀ H', GxR.Tabbed tab H H' → Q (.str (tx l)) H'
theorem ok_ask_text (T : Txt K mg a) (TB : GxR.TabB base mg a.c_is_text a.tab_is_text) : FnOk P w K mg base CX0 2 a.f_ask_text a.d_ask_text p_ask_text (spAskText a.tab_is_text) := by
  have G_is_text := ok_is_text (P := P) (w := w) T TB
  refine T.d_ask_text.ok sc_ask_text (fun vs H Q E h => ?_) (fun A outer s H vs Q E hr h => ?_)
  · obtain ⟨l, v, rfl, _⟩ := h; rfl
  · obtain ⟨l, v, rfl, hl, hs, ht, q⟩ := h
    refine ⟨_, (pss_cons (ps_if (pt_not (pt_truth (pe_call G_is_text (hr.mono (by decide)) (by rfl) T.d_is_text.g T.d_is_text.kp T.d_is_text.b .nil pass0 (pa_cons (pv 0) pa_nil)) (by intro _; rfl)))
    (pss_one ps_never)
    pss_nil)
    (pss_one (ps_ret (pv 0)))), ?_⟩
    walk_at "go"
    refine ⟨hl, hs, ht, fun H' hH => ?_⟩
    refine ⟨_, rfl, ?_⟩
    refine ifF rfl ?_
    walk_at "go"
    exact q H' hH
def rowV (r : Row) : List V := [.str (tx r.srt), .str (tx r.w), .int (r.a : Int), .int (r.b : Int)]
def rowD (r : Row) : List PyData := [.str (tx r.srt), .str (tx r.w), .int (r.a : Int), .int (r.b : Int)]
theorem row_dps {H : Hp} (r : Row) : DpAll K H (rowV r) (rowD r) := .cons (.str _) (.cons (.str _) (.cons (.int _) (.cons (.int _) .nil)))
def spWordsOf (a : Ad) : Sp := fun vs H Q E => ∃ l : List Nat, vs = [.str (tx l)] ∧ l.length ≤ 6000 ∧ l.all okSign = true ∧ GxR.TabG H a.tab_is_text ∧
  (∀ rows, rd l 0 [] = .ok rows → ∀ (H' : Hp) (p : Addr) (xs : List V), Le H H' → H' p = some (.tup xs) → Tups H' xs (rows.map rowV) → Q (.ref p) H') ∧
  (∀ n, rd l 0 [] = .error n → ∀ (H' : Hp) (d : Addr), Le H H' → H' d = some (.xd [(("at" : Str), .int (n : Int))]) → E (.ref a.k_BadText) (some d) H')
theorem run_stop {p : List Nat} : ∀ (l : List Nat) (h : runLen p l < l.length), l[runLen p l] ∉ p
  | [], h => by simp at h
  | c :: r, h => by
    by_cases hc : c ∈ p
    · have h' : runLen p r < r.length := by rw [runLen_yes hc, List.length_cons] at h; omega
      have := run_stop r h'
      simp only [runLen_yes hc, List.getElem_cons_succ]
      exact this
    · simp only [runLen_no hc, List.getElem_cons_zero]
      exact hc
theorem ok_words_of (T : Txt K mg a) (TB : GxR.TabB base mg a.c_is_text a.tab_is_text) : FnOk prg w K mg base (L2.CX prg w) 4 a.f_words_of a.d_words_of p_words_of (spWordsOf a) := by
  have G_ask_text := ok_ask_text (P := prg) (w := w) T TB
  have G_run_until := ok_run_until (P := prg) (w := w) (base := base) T
  have G_word_at := ok_word_at (P := prg) (w := w) (base := base) T
  refine T.d_words_of.okX sc_words_of (fun vs H Q E h => ?_) (fun A outer s H vs Q E hr h => ?_)
  · obtain ⟨l, rfl, _⟩ := h; rfl
  · obtain ⟨l, rfl, hl, hs, ht, q, e⟩ := h
    refine ⟨_, (pss_cons (ps_expr (pe_call G_ask_text (hr.mono (by decide)) (by rfl) T.d_ask_text.g T.d_ask_text.kp T.d_ask_text.b .nil pass0 (pa_cons (pv 0) (pa_cons pe_int pa_nil))))
    (pss_cons (ps_set (i := 1) sc_words_of.nd rfl (.inl rfl) (pe_lst pa_nil))
    (pss_cons (ps_set (i := 2) sc_words_of.nd rfl (.inl rfl) (pe_call G_run_until (hr.mono (by decide)) (by rfl) T.d_run_until.g T.d_run_until.kp T.d_run_until.b .nil pass0 (pa_cons (pv 0) (pa_cons pe_int (pa_cons pe_str pa_nil)))))
    (pss_cons (ps_while (passes_of rfl) (pt_cmpR op_ltZ (pv 2) (pe_callB call_lenZ (by rfl) T.m_len (by decide +kernel) (pa_cons (pv 0) pa_nil)) (nomark _))
    (pss_cons (ps_set (i := 3) sc_words_of.nd rfl (.inl rfl) (pe_call G_word_at (hr.mono (by decide)) (by rfl) T.d_word_at.g T.d_word_at.kp T.d_word_at.b .nil pass0 (pa_cons (pv 0) (pa_cons (pv 2) pa_nil))))
    (pss_cons (ps_if (pt_cmpR op_isZ (pv 3) pe_non (nomark _))
    (pss_one (ps_raise rfl (takes_of rfl rfl rfl rfl) (pmk_sup T.x_BadText (by decide +kernel) hr (by decide) (pa_cons (pv 2) pa_nil) (by rfl))))
    pss_nil)
    (pss_cons (ps_expr (pe_bm PySem.F.plainAttrs_list PySem.F.slot_list_append PySem.F.type_list_append mt_append (pv 1) (pa_cons (pe_tup (pa_cons (pe_ix ix_seq (pv 3) pe_int (fun _ _ => rfl)) (pa_cons (pe_slice sl_Z (pv 0) (po_some (pv 2)) (po_some (pe_ix ix_seq (pv 3) pe_int (fun _ _ => rfl)))) (pa_cons (pv 2) (pa_cons (pe_ix ix_seq (pv 3) pe_int (fun _ _ => rfl)) pa_nil))))) pa_nil)))
    (pss_one (ps_set (i := 2) sc_words_of.nd rfl (.inl rfl) (pe_call G_run_until (hr.mono (by decide)) (by rfl) T.d_run_until.g T.d_run_until.kp T.d_run_until.b .nil pass0 (pa_cons (pv 0) (pa_cons (pe_ix ix_seq (pv 3) pe_int (fun _ _ => rfl)) (pa_cons pe_str pa_nil))))))))))
    (pss_one (ps_ret (pe_callTy call_tupleZ (by rfl) T.m_tuple (by decide +kernel) (pa_cons (pv 1) pa_nil)))))))), ?_⟩
    walk_at "go"
    refine ⟨l, _, rfl, hl, hs, ht, fun H1 hH1 => ?_⟩
    walk_at "go"
    refine ⟨tup_sz (by simp), fun wA hw => ?_⟩
    walk_at "go"
    have eb : Str.ofString " \n" = tx blankS := by decide +kernel
    refine ⟨l, blankS, 0, by rw [eb]; rfl, by omega, hl, ?_⟩
    have hle := runLen_le blankS l
    rw [List.drop_zero, Nat.zero_add]
    have hw0 : H wA = none := (Le.tab ht hH1).back hw
    refine ⟨fun m σ' H' => ∃ n rows vs x3, σ' = [some (.str (tx l)), some (.ref wA), some (.int ((n : Nat) : Int)), x3] ∧ Le H H' ∧ H' wA = some (.lst vs) ∧ Tups H' vs (rows.map rowV) ∧ rows.length ≤ n ∧ n ≤ l.length ∧ rd l 0 [] = rd (l.drop n) n rows ∧ (∀ h : n < l.length, l[n] ∉ blankS) ∧ m = l.length - n,
      ⟨_, runLen blankS l, [], [], none, rfl, (Le.tab ht hH1).trans (Le.new hw), upd_same, .nil, Nat.zero_le _, hle, ?_, ?_, rfl⟩, ?_⟩
    · rw [rd_blanks l 0 [], Nat.zero_add]
    · exact run_stop l
    · rintro m σ' H' ⟨n, rows, vs, x3, rfl, hLe, hL, hT, hrn, hn, hrd, hnb, rfl⟩
      walk_at "go"
      refine ⟨_, _, rfl, ⟨sz6 hl, rfl⟩, ?_⟩
      walk_at "go"
      refine if2 (fun c => ?_) (fun c => ?_)
      · have hlt : n < l.length := by have := of_decide_eq_true c; rw [tx_len] at this; omega
        refine ⟨fun σ'' H'' => ∃ n' rows' vs' x3', σ'' = [some (.str (tx l)), some (.ref wA), some (.int ((n' : Nat) : Int)), x3'] ∧ Le H H'' ∧ H'' wA = some (.lst vs') ∧ Tups H'' vs' (rows'.map rowV) ∧ rows'.length ≤ n' ∧ n' ≤ l.length ∧ rd l 0 [] = rd (l.drop n') n' rows' ∧ (∀ h : n' < l.length, l[n'] ∉ blankS) ∧ n < n', ?_, ?_⟩
        · rintro σ'' H'' ⟨n', rows', vs', x3', e1, e2, e3, e4, e5, e6, e7, e8, e9⟩
          exact ⟨_, by omega, n', rows', vs', x3', e1, e2, e3, e4, e5, e6, e7, e8, rfl⟩
        have hd : l.drop n = l[n] :: l.drop (n + 1) := List.drop_eq_getElem_cons hlt
        walk_at "go"
        refine ⟨l, n, rfl, hlt, hl, fun h0 => ?_, fun k m h1 p hp => ?_⟩
        · walk_at "go"
          refine .inl ⟨rfl, ?_⟩
          walk_at "go"
          refine ⟨by omega, by omega, fun d hd' => e n ?_ _ d (hLe.trans (Le.new hd')) upd_same⟩
          rw [hrd, hd]
          exact rd_bad (hnb hlt) (by rw [← hd]; exact h0)
        · walk_at "go"
          refine .inl ⟨rfl, ?_⟩
          walk_at "go"
          have hne : p ≠ wA := fun z => by rw [z, hL] at hp; cases hp
          have hmp := wordAt_pos h1
          rw [List.length_drop] at hmp
          have ep : upd H' p (.tup [.str (tx k), .int ((n + m : Nat) : Int)]) p = some (.tup [.str (tx k), .int ((n + m : Nat) : Int)]) := upd_same
          refine ⟨.inl ⟨rfl, _, .inl (.inl (by rw [upd_ne (Ne.symm hne)]; exact hL))⟩, ?_⟩
          walk_at "go"
          refine .inr (.inl ⟨p, _, 0, _, rfl, rfl, .inl (.inl ep), rfl, ?_⟩)
          walk_at "go"
          refine .inr (.inl ⟨p, _, 1, _, rfl, rfl, .inl (.inl ep), rfl, ?_⟩)
          walk_at "go"
          refine .inl ⟨_, rfl, sz6 hl, ?_⟩
          have ecut := cut_tx (l := l) (n := n) (m := n + m) (by omega)
          rw [show n + m - n = m by omega] at ecut
          rw [ecut]
          walk_at "go"
          refine .inr (.inl ⟨p, _, 1, _, rfl, rfl, .inl (.inl ep), rfl, ?_⟩)
          walk_at "go"
          refine ⟨tup_sz (by simp), fun pr hpr => ?_⟩
          walk_at "go"
          have hL2 : upd (upd H' p (.tup [.str (tx k), .int ((n + m : Nat) : Int)])) pr (.tup (rowV ⟨k, (l.drop n).take m, n, n + m⟩)) wA = some (.lst vs) := by
            rw [upd_ne (fun z => ?_), upd_ne (Ne.symm hne)]
            · exact hL
            · rw [← z, upd_ne (Ne.symm hne), hL] at hpr
              cases hpr
          have hT2 := (hT.le (Le.new hp)).le (Le.new (o := .tup (rowV ⟨k, (l.drop n).take m, n, n + m⟩)) hpr)
          have e2 : upd (upd H' p (.tup [.str (tx k), .int ((n + m : Nat) : Int)])) pr (.tup (rowV ⟨k, (l.drop n).take m, n, n + m⟩)) pr = some (.tup (rowV ⟨k, (l.drop n).take m, n, n + m⟩)) := upd_same
          have hlen := hT.length
          rw [List.length_map] at hlen
          refine ⟨wA, vs, _, rfl, rfl, hL2, by rw [sizeLine_eq]; omega, ?_⟩
          walk_at "go"
          refine .inr (.inl ⟨p, [.str (tx k), .int ((n + m : Nat) : Int)], 1, _, rfl, rfl, .inl (.inl ?_), rfl, ?_⟩)
          · rw [upd_ne hne, upd_ne (fun z => ?_)]
            · exact ep
            · rw [← z, ep] at hpr; cases hpr
          walk_at "go"
          refine ⟨l, blankS, n + m, by rw [eb]; rfl, by omega, hl, ?_⟩
          have hle2 := runLen_le blankS (l.drop (n + m))
          rw [List.length_drop] at hle2
          refine ⟨n + m + runLen blankS (l.drop (n + m)), rows ++ [⟨k, (l.drop n).take m, n, n + m⟩], vs ++ [.ref pr], _, rfl, ?_, upd_same, ?_, ?_, by omega, ?_, ?_, by omega⟩
          · exact ((hLe.trans (Le.new hp)).trans (Le.new hpr)).mut hw0
          · rw [List.map_append]
            exact (hT2.snoc e2).mut hL2
          · rw [List.length_append, List.length_singleton]; omega
          · rw [hrd, hd, rd_word (hnb hlt) (by rw [← hd]; exact h1), rd_blanks, ← hd]
            simp only [List.drop_drop, Nat.add_assoc]
          · intro h
            have := run_stop (p := blankS) (l.drop (n + m)) (by rw [List.length_drop]; omega)
            rw [List.getElem_drop] at this
            exact this
      · have hge : n = l.length := by have := of_decide_eq_false c; rw [tx_len] at this; omega
        walk_at "go"
        refine ⟨wA, vs, rfl, .inl ⟨.inl (.inl hL), fun p hp => ?_⟩⟩
        refine q rows (by rw [hrd, hge, List.drop_length]; rfl) _ p vs (hLe.trans (Le.new hp)) upd_same (hT.le (Le.new hp))
end
end K11
set_option Elab.async false
set_option linter.all false
set_option maxRecDepth 100000
set_option maxHeartbeats 4000000
namespace K11
open PySem PySem.Spec PyProof.Rows L2 Zl
local macro_rules | `(tactic| walk_at "go") => `(tactic| repeat (first | refine ⟨_, rfl, ?_⟩ | refine ⟨_, _, rfl, rfl, ?_⟩ | refine .inl ⟨_, _, rfl, rfl, ?_⟩))
local macro_rules | `(tactic| walk_at "isi") => `(tactic| first
  | refine isi_of (b := true) (.base (.int _)) (by decide +kernel) ?_ | refine isi_of (b := false) (.base (.int _)) (by decide +kernel) ?_
  | refine isi_of (b := true) (.base (.str _)) (by decide +kernel) ?_ | refine isi_of (b := false) (.base (.str _)) (by decide +kernel) ?_
  | refine isi_of (b := true) (ty_st (by assumption)) (by decide +kernel) ?_ | refine isi_of (b := false) (ty_st (by assumption)) (by decide +kernel) ?_
  | refine isi_of (b := true) (ty_sl (by assumption)) (by decide +kernel) ?_ | refine isi_of (b := false) (ty_sl (by assumption)) (by decide +kernel) ?_)
section
variable {P : Program} {w : World} {K : PySem.W.Frag} {mg : Str → Option Value} {base : Heap} {a : Ad}
def sortIn (l : List Nat) : Option (List Nat) := match wordAt l with
  | some (k, n) => if n = l.length then some k else none
  | none => none
def orStr : Option (List Nat) → V
  | none => .non
  | some k => .str (tx k)
def spSortIn : Sp := fun vs H Q _ => ∃ l : List Nat, vs = [.str (tx l)] ∧ l.length ≤ 6000 ∧ ∀ H', Le H H' → Q (orStr (sortIn l)) H'
theorem tx_nil {l : List Nat} : decide (V.str (tx l) = V.str (Str.ofString "")) = decide (l = []) := by
  rw [show Str.ofString "" = tx [] by decide +kernel, dec_tx]
theorem ok_sort_in (T : Txt K mg a) : FnOk P w K mg base CX0 4 a.f_sort_in a.d_sort_in p_sort_in spSortIn := by
  have G_word_at := ok_word_at (P := P) (w := w) (base := base) T
  refine T.d_sort_in.ok sc_sort_in (fun vs H Q E h => ?_) (fun A outer s H vs Q E hr h => ?_)
  · obtain ⟨l, rfl, _⟩ := h; rfl
  · obtain ⟨l, rfl, hl, q⟩ := h
    refine ⟨_, (pss_cons (ps_if (PW.pt (pw_or (pt_not (pt_truth (pe_callB call_isinstanceZ (by rfl) T.m_isinstance (by decide +kernel) (pa_cons (pv 0) (pa_cons (pe_bltn (v := .ty "str") (by rfl) T.m_str (by decide +kernel) rfl) pa_nil))) (by intro _; rfl))) (pw_or1 (pt_cmpR (op_eqZ (u64 hr)) (pv 0) pe_str (nomark _)))))
    (pss_one (ps_ret pe_non))
    pss_nil)
    (pss_cons (ps_set (i := 1) sc_sort_in.nd rfl (.inl rfl) (pe_call G_word_at (hr.mono (by decide)) (by rfl) T.d_word_at.g T.d_word_at.kp T.d_word_at.b .nil pass0 (pa_cons (pv 0) (pa_cons pe_int pa_nil))))
    (pss_cons (ps_if (PW.pt (pw_or (pt_cmpR op_isZ (pv 1) pe_non (nomark _)) (pw_or1 (pt_cmpR (op_neZ (u64 hr)) (pe_ix ix_seq (pv 1) pe_int (fun _ _ => rfl)) (pe_callB call_lenZ (by rfl) T.m_len (by decide +kernel) (pa_cons (pv 0) pa_nil)) (nomark _)))))
    (pss_one (ps_ret pe_non))
    pss_nil)
    (pss_one (ps_ret (pe_ix ix_seq (pv 1) pe_int (fun _ _ => rfl))))))), ?_⟩
    walk_at "go"
    walk_at "isi"
    refine ⟨_, rfl, ?_⟩
    refine ifF rfl ?_
    walk_at "go"
    refine .inl ⟨rfl, ?_⟩
    walk_at "go"
    by_cases h0 : l = []
    · subst h0
      refine ifT (by rw [tx_nil]; rfl) ?_
      walk_at "go"
      exact q _ (Le.refl _)
    · refine ifF (by rw [tx_nil]; exact decide_eq_false h0) ?_
      have hpos : 0 < l.length := List.length_pos_iff.mpr h0
      refine ⟨_, rfl, ?_⟩
      refine ⟨l, 0, rfl, hpos, hl, fun hw => ?_, fun k m hw p hp => ?_⟩
      · have e : sortIn l = none := by unfold sortIn; rw [show wordAt l = none from hw]
        rw [e] at q
        walk_at "go"
        refine .inl ⟨rfl, ?_⟩
        walk_at "go"
        exact q _ (Le.refl _)
      · have e : sortIn l = if m = l.length then some k else none := by unfold sortIn; rw [show wordAt l = some (k, m) from hw]
        rw [e] at q
        rw [Nat.zero_add]
        have ep : upd H p (.tup [.str (tx k), .int (m : Int)]) p = some (.tup [.str (tx k), .int (m : Int)]) := upd_same
        walk_at "go"
        refine .inl ⟨rfl, ?_⟩
        walk_at "go"
        refine .inr (.inl ⟨p, _, 1, _, rfl, rfl, .inl (.inl ep), rfl, ?_⟩)
        walk_at "go"
        refine ⟨_, _, rfl, ⟨sz6 hl, rfl⟩, ?_⟩
        refine .inl ⟨rfl, ?_⟩
        walk_at "go"
        by_cases hm : m = l.length
        · refine ifF (by simp [tx_len, hm]) ?_
          rw [if_pos hm] at q
          walk_at "go"
          refine .inr (.inl ⟨p, _, 0, _, rfl, rfl, .inl (.inl ep), rfl, ?_⟩)
          exact q _ (Le.new hp)
        · refine ifT (by simp [tx_len, hm]; omega) ?_
          rw [if_neg hm] at q
          walk_at "go"
          exact q _ (Le.new hp)
theorem join_tx (a : List Nat) (ys : List (List Nat)) : Txt.join (tx a) (ys.map tx) = tx (TL.joinL a ys) := SX.join_S a ys
theorem joinW_eq : ∀ ws : List (List Nat), joinW ws = TL.joinL [32] ws
  | [] => rfl
  | [_] => rfl
  | p :: q :: r => by
    show p ++ 32 :: joinW (q :: r) = p ++ ([32] ++ TL.joinL [32] (q :: r))
    rw [joinW_eq (q :: r)]
    rfl
theorem joinW_len : ∀ ws : List (List Nat), (∀ l ∈ ws, l.length ≤ 100) → (joinW ws).length ≤ ws.length * 101
  | [], _ => Nat.zero_le _
  | [w], h => by
    have := h w List.mem_cons_self
    show w.length ≤ 1 * 101
    omega
  | p :: q :: r, h => by
    have h1 := h p List.mem_cons_self
    have h2 := joinW_len (q :: r) fun l hl => h l (List.mem_cons_of_mem _ hl)
    show (p ++ 32 :: joinW (q :: r)).length ≤ _
    rw [List.length_append, List.length_cons, List.length_cons]
    omega
def spText (K : PySem.W.Frag) (ws : List (List Nat)) (p : Addr) (H : Hp) : Prop := Sq K H p (ws.map fun l => V.str (tx l))
def spJoined (K : PySem.W.Frag) (a : Ad) : Sp := fun vs H Q E => ∃ (ws : List (List Nat)) (p : Addr), vs = [.ref p] ∧ spText K ws p H ∧ ws.length ≤ 6000 ∧ (∀ l ∈ ws, l.length ≤ 100) ∧ ((joinW ws).length ≤ 6000 → Q (.str (tx (joinW ws))) H) ∧ ((joinW ws).length > 6000 → E (.ref a.k_TooMany) none H)
theorem ok_joined (T : Txt K mg a) : FnOk prg w K mg base (L2.CX prg w) 1 a.f_joined a.d_joined p_joined (spJoined K a) := by
  refine T.d_joined.okX sc_joined (fun vs H Q E h => ?_) (fun A outer s H vs Q E hr h => ?_)
  · obtain ⟨l, p, rfl, _⟩ := h; rfl
  · obtain ⟨ws, p, rfl, hp, hws, hlen, q, e⟩ := h
    refine ⟨_, (pss_cons (ps_set (i := 1) sc_joined.nd rfl (.inl rfl) (pe_bm PySem.F.plainAttrs_str PySem.F.slot_str_join PySem.F.type_str_join mt_join pe_str (pa_cons (pv 0) pa_nil)))
    (pss_cons (ps_if (pt_cmpR op_gt (pe_callB call_lenZ (by rfl) T.m_len (by decide +kernel) (pa_cons (pv 1) pa_nil)) (pe_glob rfl T.m_MOST_SIGNS T.r_MOST_SIGNS) (nomark _))
    (pss_one (ps_raise rfl (takes_of rfl rfl rfl rfl) (pmk_ownX T.x_TooMany (by rfl))))
    pss_nil)
    (pss_one (ps_ret (pv 1))))), ?_⟩
    walk_at "go"
    refine ⟨rfl, ?_⟩
    walk_at "go"
    have hsum : ∀ (vs : List (List Nat)), (∀ l ∈ vs, l.length ≤ 100) → ((vs.map tx).map (·.length)).sum ≤ vs.length * 100 := by
      intro vs
      induction vs with
      | nil => intro _; exact Nat.le_refl _
      | cons v r ih =>
        intro h
        have h1 := ih fun l hl => h l (List.mem_cons_of_mem _ hl)
        have h2 := h v List.mem_cons_self
        rw [List.map_cons, List.map_cons, List.sum_cons, List.length_cons, tx_len]
        omega
    refine ⟨_, p, ws.map tx, rfl, rfl, by rw [List.map_map]; exact hp, ?_, ?_⟩
    · have := hsum ws hlen
      have h1 : (Str.ofString " ").length = 1 := by decide +kernel
      rw [h1, List.length_map]
      omega
    · rw [show Str.ofString " " = tx [32] by decide +kernel, join_tx, ← joinW_eq]
      walk_at "go"
      have hlj : (joinW ws).length ≤ 700000 := by
        have := joinW_len ws hlen
        omega
      refine ⟨_, _, rfl, ⟨by rw [tx_len, sizeLine_eq]; omega, rfl⟩, ?_⟩
      walk_at "go"
      refine if2 (fun c => ?_) (fun c => ?_)
      · have c' := of_decide_eq_true c
        rw [tx_len] at c'
        exact e (by omega)
      · have c' := of_decide_eq_false c
        rw [tx_len] at c'
        walk_at "go"
        exact q (by omega)
end
end K11
set_option Elab.async false
set_option linter.all false
set_option maxRecDepth 100000
set_option maxHeartbeats 4000000
namespace K11
open PySem PySem.Spec PyProof.Rows L2 Zl
local macro_rules | `(tactic| walk_at "go") => `(tactic| repeat (first | refine ⟨_, rfl, ?_⟩ | refine ⟨_, _, rfl, rfl, ?_⟩ | refine .inl ⟨_, _, rfl, rfl, ?_⟩))
local macro_rules | `(tactic| walk_at "isi") => `(tactic| first
  | refine isi_of (b := true) (.base (.int _)) (by decide +kernel) ?_ | refine isi_of (b := false) (.base (.int _)) (by decide +kernel) ?_
  | refine isi_of (b := true) (.base (.str _)) (by decide +kernel) ?_ | refine isi_of (b := false) (.base (.str _)) (by decide +kernel) ?_
  | refine isi_of (b := true) (ty_st (by assumption)) (by decide +kernel) ?_ | refine isi_of (b := false) (ty_st (by assumption)) (by decide +kernel) ?_
  | refine isi_of (b := true) (ty_sl (by assumption)) (by decide +kernel) ?_ | refine isi_of (b := false) (ty_sl (by assumption)) (by decide +kernel) ?_)
section
variable {P : Program} {w : World} {K : PySem.W.Frag} {mg : Str → Option Value} {base : Heap} {a : Ad}
def spLaid (K : PySem.W.Frag) (a : Ad) : Sp := fun vs H Q E => ∃ (ws : List (List Nat)) (p : Addr), vs = [.ref p] ∧ spText K ws p H ∧ ws.length ≤ 6000 ∧ (∀ l ∈ ws, l.length ≤ 100 ∧ sortIn l ≠ none) ∧
  ((joinW ws).length ≤ 6000 → ∀ H', Le H H' → Q (.str (tx (joinW ws))) H') ∧ ((joinW ws).length > 6000 → ∀ H', Le H H' → E (.ref a.k_TooMany) none H')
theorem ok_laid (T : Txt K mg a) : FnOk prg w K mg base (L2.CX prg w) 5 a.f_laid a.d_laid p_laid (spLaid K a) := by
  have G_is_row := ok_is_row (P := prg) (w := w) (base := base) T
  have G_sort_in := ok_sort_in (P := prg) (w := w) (base := base) T
  have G_joined := ok_joined (w := w) (base := base) T
  refine T.d_laid.okX sc_laid (fun vs H Q E h => ?_) (fun A outer s H vs Q E hr h => ?_)
  · obtain ⟨l, p, rfl, _⟩ := h; rfl
  · obtain ⟨ws, p, rfl, hp, hws, hlen, q, e⟩ := h
    refine ⟨_, (pss_cons (ps_if (pt_not (pt_truth (pe_call G_is_row (hr.mono (by decide)) (by rfl) T.d_is_row.g T.d_is_row.kp T.d_is_row.b .nil pass0 (pa_cons (pv 0) pa_nil)) (by intro _; rfl)))
    (pss_one ps_never)
    pss_nil)
    (pss_cons (ps_for (passes_of rfl) rfl (pi_seq (pv 0)) (pg_name (i := 1) sc_laid.nd rfl (.inl rfl))
    (pss_one (ps_if (pt_cmpR op_isZ (pe_call G_sort_in (hr.mono (by decide)) (by rfl) T.d_sort_in.g T.d_sort_in.kp T.d_sort_in.b .nil pass0 (pa_cons (pv 1) pa_nil)) pe_non (nomark _))
    (pss_one ps_never)
    pss_nil)))
    (pss_one (ps_ret (pe_call G_joined (hr.mono (by decide)) (by rfl) T.d_joined.g T.d_joined.kp T.d_joined.b .nil (passes_call (takes_of rfl rfl rfl rfl) (fun _ _ _ _ h => h)) (pa_cons (pv 0) pa_nil)))))), ?_⟩
    walk_at "go"
    refine ⟨p, _, rfl, hp.symm, ?_⟩
    walk_at "go"
    refine for_seq H hp (fun i σ' H' => ∃ x1, σ' = [some (.ref p), x1] ∧ Le H H') ⟨_, rfl, Le.refl _⟩ (fun i σ' H' h => h.elim fun _ h => h.2) ?_ ?_
    · rintro i y σ' H' hi ⟨x1, rfl, hLe⟩
      obtain ⟨l, hl, rfl⟩ := map_get hi
      have hm := hlen l (List.mem_of_getElem? hl)
      walk_at "go"
      refine ⟨by omega, fun H2 hL2 => ?_⟩
      refine .inl ⟨rfl, ?_⟩
      walk_at "go"
      cases hs : sortIn l with
      | none => exact absurd hs hm.2
      | some k =>
        walk_at "go"
        exact hLe.trans hL2
    · rintro σ' H' ⟨x1, rfl, hLe⟩
      walk_at "go"
      refine ⟨ws, p, rfl, hLe.sq hp, hws, fun l hl => (hlen l hl).1, fun hj => q hj H' hLe, fun hj => e hj H' hLe⟩
def spIsWord : Sp := fun vs H Q _ => ∃ l : List Nat, vs = [.str (tx l)] ∧ l.length ≤ 6000 ∧ ∀ H', Le H H' → Q (.bl (decide (sortIn l ≠ none))) H'
theorem ok_is_word (T : Txt K mg a) : FnOk P w K mg base CX0 5 a.f_is_word a.d_is_word p_is_word spIsWord := by
  have G_sort_in := ok_sort_in (P := P) (w := w) (base := base) T
  refine T.d_is_word.ok sc_is_word (fun vs H Q E h => ?_) (fun A outer s H vs Q E hr h => ?_)
  · obtain ⟨l, rfl, _⟩ := h; rfl
  · obtain ⟨l, rfl, hl, q⟩ := h
    refine ⟨_, (pss_cons (ps_if (pt_not (pt_truth (pe_callB call_isinstanceZ (by rfl) T.m_isinstance (by decide +kernel) (pa_cons (pv 0) (pa_cons (pe_bltn (v := .ty "str") (by rfl) T.m_str (by decide +kernel) rfl) pa_nil))) (by intro _; rfl)))
    (pss_one ps_never)
    pss_nil)
    (pss_one (ps_ret (pe_cmpR op_isnotZ (pe_call G_sort_in (hr.mono (by decide)) (by rfl) T.d_sort_in.g T.d_sort_in.kp T.d_sort_in.b .nil pass0 (pa_cons (pv 0) pa_nil)) pe_non (nomark _))))), ?_⟩
    walk_at "go"
    walk_at "isi"
    refine ⟨_, rfl, ?_⟩
    walk_at "go"
    refine ⟨hl, fun H2 hL2 => ?_⟩
    walk_at "go"
    refine .inl ⟨rfl, ?_⟩
    walk_at "go"
    have z := q H2 hL2
    cases hs : sortIn l with
    | none => rw [hs] at z; exact z
    | some k => rw [hs] at z; exact z
def spSortOf : Sp := fun vs H Q _ => ∃ l : List Nat, vs = [.str (tx l)] ∧ l.length ≤ 6000 ∧ ∀ H', Le H H' → Q (orStr (sortIn l)) H'
theorem ok_sort_of (T : Txt K mg a) : FnOk P w K mg base CX0 5 a.f_sort_of a.d_sort_of p_sort_of spSortOf := by
  have G_sort_in := ok_sort_in (P := P) (w := w) (base := base) T
  refine T.d_sort_of.ok sc_sort_of (fun vs H Q E h => ?_) (fun A outer s H vs Q E hr h => ?_)
  · obtain ⟨l, rfl, _⟩ := h; rfl
  · obtain ⟨l, rfl, hl, q⟩ := h
    refine ⟨_, (pss_cons (ps_if (pt_not (pt_truth (pe_callB call_isinstanceZ (by rfl) T.m_isinstance (by decide +kernel) (pa_cons (pv 0) (pa_cons (pe_bltn (v := .ty "str") (by rfl) T.m_str (by decide +kernel) rfl) pa_nil))) (by intro _; rfl)))
    (pss_one ps_never)
    pss_nil)
    (pss_one (ps_ret (pe_call G_sort_in (hr.mono (by decide)) (by rfl) T.d_sort_in.g T.d_sort_in.kp T.d_sort_in.b .nil pass0 (pa_cons (pv 0) pa_nil))))), ?_⟩
    walk_at "go"
    walk_at "isi"
    refine ⟨_, rfl, ?_⟩
    walk_at "go"
    exact ⟨hl, q⟩
end
end K11
set_option Elab.async false
set_option linter.all false
set_option maxRecDepth 100000
set_option maxHeartbeats 4000000
namespace K11
open PySem PySem.Spec PyProof.Rows L2 Zl
local macro_rules | `(tactic| walk_at "go") => `(tactic| repeat (first | refine ⟨_, rfl, ?_⟩ | refine ⟨_, _, rfl, rfl, ?_⟩ | refine .inl ⟨_, _, rfl, rfl, ?_⟩))
local macro_rules | `(tactic| walk_at "isi") => `(tactic| first
  | refine isi_of (b := true) (.base (.int _)) (by decide +kernel) ?_ | refine isi_of (b := false) (.base (.int _)) (by decide +kernel) ?_
  | refine isi_of (b := true) (.base (.str _)) (by decide +kernel) ?_ | refine isi_of (b := false) (.base (.str _)) (by decide +kernel) ?_
  | refine isi_of (b := true) (ty_st (by assumption)) (by decide +kernel) ?_ | refine isi_of (b := false) (ty_st (by assumption)) (by decide +kernel) ?_
  | refine isi_of (b := true) (ty_sl (by assumption)) (by decide +kernel) ?_ | refine isi_of (b := false) (ty_sl (by assumption)) (by decide +kernel) ?_)
section
variable {P : Program} {w : World} {K : PySem.W.Frag} {mg : Str → Option Value} {base : Heap} {a : Ad}
def upTo (l : List Nat) (i : Nat) : List V := (0 :: ((List.range i).filter fun k => decide (l[k]? = some 10)).map (· + 1)).map fun n : Nat => V.int (n : Int)
theorem upTo_yes {l : List Nat} {i : Nat} (h : l[i]? = some 10) : upTo l (i + 1) = upTo l i ++ [.int ((i : Int) + 1)] := by
  unfold upTo
  rw [List.range_succ, List.filter_append, List.filter_cons_of_pos (by simpa using h)]
  simp
theorem upTo_no {l : List Nat} {i : Nat} (h : l[i]? ≠ some 10) : upTo l (i + 1) = upTo l i := by
  unfold upTo
  rw [List.range_succ, List.filter_append, List.filter_cons_of_neg (by simpa using h)]
  simp
theorem upTo_len (l : List Nat) (i : Nat) : (upTo l i).length ≤ i + 1 := by
  unfold upTo
  rw [List.length_map, List.length_cons, List.length_map]
  have := List.length_filter_le (fun k => decide (l[k]? = some 10)) (List.range i)
  rw [List.length_range] at this
  omega
def beginsV (l : List Nat) : List V := (begins l).map fun n : Nat => V.int (n : Int)
theorem upTo_all (l : List Nat) : upTo l l.length = beginsV l := rfl
def spBegins : Sp := fun vs H Q _ => ∃ l : List Nat, vs = [.str (tx l)] ∧ l.length ≤ 6000 ∧ ∀ H' p, Le H H' → H p = none → H' p = some (.lst (beginsV l)) → Q (.ref p) H'
theorem ok_line_begins (T : Txt K mg a) : FnOk P w K mg base CX0 1 a.f_line_begins a.d_line_begins p_line_begins spBegins := by
  refine T.d_line_begins.ok sc_line_begins (fun vs H Q E h => ?_) (fun A outer s H vs Q E hr h => ?_)
  · obtain ⟨l, rfl, _⟩ := h; rfl
  · obtain ⟨l, rfl, hl, q⟩ := h
    refine ⟨_, (pss_cons (ps_set (i := 1) sc_line_begins.nd rfl (.inl rfl) (pe_lst (pa_cons pe_int pa_nil)))
    (pss_cons (ps_for PassesOwn.never rfl (pi_range1 (by rfl) T.m_range (pa_cons (pe_callB call_lenZ (by rfl) T.m_len (by decide +kernel) (pa_cons (pv 0) pa_nil)) pa_nil)) (pg_name (i := 2) sc_line_begins.nd rfl (.inl rfl))
    (pss_one (ps_if (pt_cmpR (op_eqZ (u64 hr)) (pe_ix ix_seq (pv 0) (pv 2) (fun _ _ => rfl)) pe_str (nomark _))
    (pss_one (ps_expr (pe_bm PySem.F.plainAttrs_list PySem.F.slot_list_append PySem.F.type_list_append mt_append (pv 1) (pa_cons (pe_op op_addZ (pv 2) pe_int) pa_nil))))
    pss_nil)))
    (pss_one (ps_ret (pv 1))))), ?_⟩
    walk_at "go"
    refine ⟨tup_sz (by simp), fun w0 hw => ?_⟩
    walk_at "go"
    refine ⟨_, _, rfl, ⟨sz6 hl, rfl⟩, ?_⟩
    walk_at "go"
    refine ⟨by omega, by rw [tx_len]; omega, ?_⟩
    rw [show (((tx l).length : Nat) : Int).toNat = l.length from Int.toNat_natCast _]
    have fin : ∀ σ' H', (∃ x2, σ' = [some (.str (tx l)), some (.ref w0), x2] ∧ Le H H' ∧ H' w0 = some (.lst (upTo l l.length))) → tRet (tVar 1) { nx := fun _ H' => Q .non H', rt := Q } σ' H' := by
      rintro σ' H' ⟨x2, rfl, hLe, e⟩
      walk_at "go"
      exact q H' w0 hLe hw e
    refine for_range (fun i σ' H' => ∃ x2, σ' = [some (.str (tx l)), some (.ref w0), x2] ∧ Le H H' ∧ H' w0 = some (.lst (upTo l i))) ⟨_, rfl, Le.new hw, upd_same⟩ ?_ fin
    rintro i σ' H' hi ⟨x2, rfl, hLe, e⟩
    rw [show (0 : Int) + (i : Int) = (i : Int) by omega]
    walk_at "go"
    refine .inr (.inr ⟨_, _, l[i], rfl, rfl, sz6 hl, atI_nat (List.getElem?_eq_getElem hi), ?_⟩)
    refine .inl ⟨rfl, ?_⟩
    walk_at "go"
    have ed : decide (V.str ⟨#[l[i]]⟩ = V.str (Str.ofString "\n")) = decide (l[i] = 10) := by
      rw [show Str.ofString "\n" = tx [10] by decide +kernel, show (⟨#[l[i]]⟩ : Str) = tx [l[i]] from rfl, dec_tx]
      exact decide_eq_decide.mpr ⟨fun e => (List.cons.inj e).1, fun e => by rw [e]⟩
    by_cases h10 : l[i] = 10
    · refine ifT (ed.trans (decide_eq_true h10)) ?_
      walk_at "go"
      refine ⟨.inl ⟨rfl, _, .inl (.inl e)⟩, ?_⟩
      walk_at "go"
      have hlen := upTo_len l i
      refine ⟨w0, _, _, rfl, rfl, e, by rw [sizeLine_eq]; omega, ?_⟩
      refine ⟨_, rfl, hLe.mut hw, ?_⟩
      rw [upd_same, upTo_yes (by rw [List.getElem?_eq_getElem hi, h10])]
    · refine ifF (ed.trans (decide_eq_false h10)) ?_
      refine ⟨_, rfl, hLe, ?_⟩
      rw [upTo_no (by rw [List.getElem?_eq_getElem hi]; exact fun z => h10 (Option.some.inj z))]
      exact e
def spLinesOf (tab : Addr) : Sp := fun vs H Q _ => ∃ l : List Nat, vs = [.str (tx l)] ∧ l.length ≤ 6000 ∧ l.all okSign = true ∧ GxR.TabG H tab ∧ ∀ H' p, Le H H' → H' p = some (.tup (beginsV l)) → Q (.ref p) H'
theorem ok_lines_of (T : Txt K mg a) (TB : GxR.TabB base mg a.c_is_text a.tab_is_text) : FnOk P w K mg base CX0 3 a.f_lines_of a.d_lines_of p_lines_of (spLinesOf a.tab_is_text) := by
  have G_ask_text := ok_ask_text (P := P) (w := w) T TB
  have G_line_begins := ok_line_begins (P := P) (w := w) (base := base) T
  refine T.d_lines_of.ok sc_lines_of (fun vs H Q E h => ?_) (fun A outer s H vs Q E hr h => ?_)
  · obtain ⟨l, rfl, _⟩ := h; rfl
  · obtain ⟨l, rfl, hl, hs, ht, q⟩ := h
    refine ⟨_, (pss_cons (ps_expr (pe_call G_ask_text (hr.mono (by decide)) (by rfl) T.d_ask_text.g T.d_ask_text.kp T.d_ask_text.b .nil pass0 (pa_cons (pv 0) (pa_cons pe_int pa_nil))))
    (pss_one (ps_ret (pe_callTy call_tupleZ (by rfl) T.m_tuple (by decide +kernel) (pa_cons (pe_call G_line_begins (hr.mono (by decide)) (by rfl) T.d_line_begins.g T.d_line_begins.kp T.d_line_begins.b .nil pass0 (pa_cons (pv 0) pa_nil)) pa_nil))))), ?_⟩
    walk_at "go"
    refine ⟨l, _, rfl, hl, hs, ht, fun H1 hH1 => ?_⟩
    walk_at "go"
    refine ⟨hl, fun H2 p hLe hp e => ?_⟩
    walk_at "go"
    refine ⟨p, _, rfl, .inl ⟨.inl (.inl e), fun p2 hp2 => ?_⟩⟩
    exact q _ p2 (((Le.tab ht hH1).trans hLe).trans (Le.new hp2)) upd_same
def spLineAt (tab : Addr) : Sp := fun vs H Q _ => ∃ (l : List Nat) (n : Nat), vs = [.str (tx l), .int (n : Int)] ∧ n ≤ l.length ∧ l.length ≤ 6000 ∧ l.all okSign = true ∧ GxR.TabG H tab ∧
  ∀ H' p, Le H H' → H' p = some (.tup [.int (lineOf l n : Int), .int ((n : Int) - ((begins l)[lineOf l n]'(lineOf_lt l n) : Int))]) → Q (.ref p) H'
theorem ok_line_at (T : Txt K mg a) (TB : GxR.TabB base mg a.c_is_text a.tab_is_text) : FnOk P w K mg base CX0 3 a.f_line_at a.d_line_at p_line_at (spLineAt a.tab_is_text) := by
  have G_ask_text := ok_ask_text (P := P) (w := w) T TB
  have G_is_within := ok_is_within (P := P) (w := w) (base := base) T
  have G_line_begins := ok_line_begins (P := P) (w := w) (base := base) T
  refine T.d_line_at.ok sc_line_at (fun vs H Q E h => ?_) (fun A outer s H vs Q E hr h => ?_)
  · obtain ⟨l, n, rfl, _⟩ := h; rfl
  · obtain ⟨l, n, rfl, hn, hl, hs, ht, q⟩ := h
    refine ⟨_, (pss_cons (ps_expr (pe_call G_ask_text (hr.mono (by decide)) (by rfl) T.d_ask_text.g T.d_ask_text.kp T.d_ask_text.b .nil pass0 (pa_cons (pv 0) (pa_cons pe_int pa_nil))))
    (pss_cons (ps_if (pt_not (pt_truth (pe_call G_is_within (hr.mono (by decide)) (by rfl) T.d_is_within.g T.d_is_within.kp T.d_is_within.b .nil pass0 (pa_cons (pv 1) (pa_cons pe_int (pa_cons (pe_callB call_lenZ (by rfl) T.m_len (by decide +kernel) (pa_cons (pv 0) pa_nil)) pa_nil)))) (by intro _; rfl)))
    (pss_one ps_never)
    pss_nil)
    (pss_cons (ps_set (i := 2) sc_line_at.nd rfl (.inl rfl) (pe_op op_sub (pe_callB call_lenZ (by rfl) T.m_len (by decide +kernel) (pa_cons (pe_lc (own := [("begin", 3)]) (g := gName 3) (by rfl) sc_line_at.nd (pi_seq (pe_call G_line_begins (hr.mono (by decide)) (by rfl) T.d_line_begins.g T.d_line_begins.kp T.d_line_begins.b .nil pass0 (pa_cons (pv 0) pa_nil))) (blkOk_by (own := [("begin", 3)]) (N := ["text", "number", "line", "begin"]) (sc := defScope s_line_at) (by decide +kernel)) (fun _ _ _ _ _ => (pg_name (i := 3) sc_line_at.nd rfl (.inl rfl))) (fun _ _ _ _ _ => (pts_one (pt_cmpR op_leZ (pv 3) (pv 1) (nomark _)))) (fun _ _ _ _ _ => (pv 3))) pa_nil)) pe_int))
    (pss_one (ps_ret (pe_tup (pa_cons (pv 2) (pa_cons (pe_op op_sub (pv 1) (pe_ix ix_seq (pe_call G_line_begins (hr.mono (by decide)) (by rfl) T.d_line_begins.g T.d_line_begins.kp T.d_line_begins.b .nil pass0 (pa_cons (pv 0) pa_nil)) (pv 2) (fun _ _ => rfl))) pa_nil)))))))), ?_⟩
    walk_at "go"
    refine ⟨l, _, rfl, hl, hs, ht, fun H1 hH1 => ?_⟩
    walk_at "go"
    refine ⟨_, _, rfl, ⟨sz6 hl, rfl⟩, ?_⟩
    walk_at "go"
    refine ⟨_, _, _, rfl, ?_⟩
    rw [show (decide ((0 : Int) ≤ (n : Int)) && decide ((n : Int) ≤ (((tx l).length : Nat) : Int))) = true by rw [decide_eq_true (by omega), decide_eq_true (by rw [tx_len]; omega)]; rfl]
    walk_at "go"
    refine ⟨hl, fun H2 p hLe hp e => ?_⟩
    walk_at "go"
    refine lc_sq (K := K) (xs := beginsV l) (.inl (.inl (.inl e))) (fun i acc _ => acc = (((begins l).take i).filter fun b => decide (b ≤ n)).map fun b : Nat => V.int (b : Int)) (fun D hD => rfl) ?_ ?_
    · rintro D i x acc H' hD hi hL eD rfl
      obtain ⟨b, hb, rfl⟩ := map_get hi
      have hlt := (List.getElem?_eq_some_iff.mp hb).1
      have hlen : ((((begins l).take i).filter fun b => decide (b ≤ n)).map fun b : Nat => V.int (b : Int)).length ≤ 6001 := by
        have h1 := upTo_len l l.length
        rw [upTo_all] at h1
        unfold beginsV at h1
        rw [List.length_map] at h1 ⊢
        have h2 := List.length_filter_le (fun b => decide (b ≤ n)) ((begins l).take i)
        rw [List.length_take] at h2
        omega
      have etk : (begins l).take (i + 1) = (begins l).take i ++ [b] := by
        rw [List.take_add_one, hb]; rfl
      refine ⟨rfl, ?_⟩
      walk_at "go"
      by_cases hbn : b ≤ n
      · refine ifT (decide_eq_true (by omega)) ?_
        walk_at "go"
        refine LcP.put hD hL eD (by rw [sizeLine_eq]; omega) ?_
        rw [etk, List.filter_append, List.filter_cons_of_pos (by simpa using hbn)]
        simp
      · refine ifF (decide_eq_false (by omega)) ?_
        refine ⟨_, hL, eD, ?_⟩
        show _ = _
        rw [etk, List.filter_append, List.filter_cons_of_neg (by simpa using hbn)]
        simp
    · rintro D acc H' hD hL eD rfl
      have elen : (beginsV l).length = (begins l).length := by unfold beginsV; rw [List.length_map]
      rw [elen, List.take_length] at eD
      walk_at "go"
      refine ⟨_, _, rfl, .inl ⟨_, .inl (.inl eD), rfl⟩, ?_⟩
      rw [List.length_map]
      have hp1 := lineOf_pos l n
      have hlo : ((((begins l).filter fun b => decide (b ≤ n)).length : Nat) : Int) - 1 = ((lineOf l n : Nat) : Int) := by unfold lineOf; omega
      walk_at "go"
      refine ⟨hl, fun H3 p3 hLe3 hp3 e3 => ?_⟩
      walk_at "go"
      refine .inl ⟨p3, _, _, .int ((begins l)[lineOf l n]'(lineOf_lt l n) : Int), rfl, rfl, .inl (.inl e3), ?_, ?_⟩
      · refine (congrArg (atI _) hlo).trans (atI_nat ?_)
        unfold beginsV
        rw [List.getElem?_map, List.getElem?_eq_getElem (lineOf_lt l n)]
        rfl
      walk_at "go"
      refine ⟨tup_sz (by simp), fun p4 hp4 => ?_⟩
      have z : ∀ j : Int, j = ((lineOf l n : Nat) : Int) → Q (.ref p4) (upd H3 p4 (.tup [.int j, .int ((n : Int) - ((begins l)[lineOf l n]'(lineOf_lt l n) : Int))])) := by
        rintro _ rfl
        exact q _ p4 (((((Le.tab ht hH1).trans hLe).trans hL).trans hLe3).trans (Le.new hp4)) upd_same
      exact z _ hlo
end
end K11
set_option Elab.async false
set_option linter.all false
set_option maxRecDepth 100000
set_option maxHeartbeats 4000000
namespace K11
open PySem PySem.Spec PyProof.Rows L2 Zl
local macro_rules | `(tactic| walk_at "go") => `(tactic| repeat (first | refine ⟨_, rfl, ?_⟩ | refine ⟨_, _, rfl, rfl, ?_⟩ | refine .inl ⟨_, _, rfl, rfl, ?_⟩))
local macro_rules | `(tactic| walk_at "isi") => `(tactic| first
  | refine isi_of (b := true) (.base (.int _)) (by decide +kernel) ?_ | refine isi_of (b := false) (.base (.int _)) (by decide +kernel) ?_
  | refine isi_of (b := true) (.base (.str _)) (by decide +kernel) ?_ | refine isi_of (b := false) (.base (.str _)) (by decide +kernel) ?_
  | refine isi_of (b := true) (ty_st (by assumption)) (by decide +kernel) ?_ | refine isi_of (b := false) (ty_st (by assumption)) (by decide +kernel) ?_
  | refine isi_of (b := true) (ty_sl (by assumption)) (by decide +kernel) ?_ | refine isi_of (b := false) (ty_sl (by assumption)) (by decide +kernel) ?_)
section
variable {P : Program} {w : World} {K : PySem.W.Frag} {mg : Str → Option Value} {base : Heap} {a : Ad}
def spPower : Sp := fun vs H Q _ => ∃ (b m : Nat), vs = [.int b, .int m] ∧ b ≤ 10 ∧ m ≤ 18 ∧ Q (.int ((b ^ m : Nat) : Int)) H
theorem ok__law_power (T : Txt K mg a) : FnOk P w K mg base CX0 1 a.f__law_power a.d__law_power p__law_power spPower := by
  refine T.d__law_power.ok sc__law_power (fun vs H Q E h => ?_) (fun A outer s H vs Q E hr h => ?_)
  · obtain ⟨b, m, rfl, _⟩ := h; rfl
  · obtain ⟨b, m, rfl, hb, hm, q⟩ := h
    refine ⟨_, (pss_cons (ps_set (i := 2) sc__law_power.nd rfl (.inl rfl) pe_int)
    (pss_cons (ps_for PassesOwn.never rfl (pi_range1 (by rfl) T.m_range (pa_cons (pv 1) pa_nil)) (pg_name (i := 3) sc__law_power.nd rfl (.inl rfl))
    (pss_one (ps_set (i := 2) sc__law_power.nd rfl (.inl rfl) (pe_op op_mulZ (pv 2) (pv 0)))))
    (pss_one (ps_ret (pv 2))))), ?_⟩
    walk_at "go"
    refine ⟨by omega, by omega, ?_⟩
    rw [Int.toNat_natCast]
    refine for_range (fun i σ' H' => ∃ x3, σ' = [some (.int b), some (.int m), some (.int ((b ^ i : Nat) : Int)), x3] ∧ H' = H) ⟨_, rfl, rfl⟩ ?_ ?_
    · rintro i σ' H' hi ⟨x3, rfl, rfl⟩
      walk_at "go"
      refine ⟨.inr ⟨by omega, by omega⟩, ?_⟩
      exact ⟨_, by rw [Nat.pow_succ, Int.natCast_mul]; rfl, rfl⟩
    · rintro σ' H' ⟨x3, rfl, rfl⟩
      walk_at "go"
      exact q
def cellN (ns : List Int) (j : Nat) : Int := ns.getD j 0
def spLawCell (K : PySem.W.Frag) : Sp := fun vs H Q _ => ∃ (p : Addr) (ns : List Int) (j : Nat), vs = [.ref p, .int j] ∧ SqL K H p (ns.map V.int) ∧ Q (.int (cellN ns j)) H
theorem ok__law_cell (T : Txt K mg a) : FnOk P w K mg base CX0 1 a.f__law_cell a.d__law_cell p__law_cell (spLawCell K) := by
  refine T.d__law_cell.ok sc__law_cell (fun vs H Q E h => ?_) (fun A outer s H vs Q E hr h => ?_)
  · obtain ⟨p, ns, j, rfl, _⟩ := h; rfl
  · obtain ⟨p, ns, j, rfl, hp, q⟩ := h
    refine ⟨_, (pss_cons (ps_if (pt_cmpR op_ltZ (pv 1) (pe_callB call_lenZ (by rfl) T.m_len (by decide +kernel) (pa_cons (pv 0) pa_nil)) (nomark _))
    (pss_one (ps_ret (pe_callTy call_intZ (by rfl) T.m_int (by decide +kernel) (pa_cons (pe_ix ix_seq (pv 0) (pv 1) (fun _ _ => rfl)) pa_nil))))
    pss_nil)
    (pss_one (ps_ret pe_int))), ?_⟩
    walk_at "go"
    refine ⟨_, _, rfl, .inl ⟨_, hp, rfl⟩, ?_⟩
    walk_at "go"
    by_cases hj : j < ns.length
    · refine ifT (decide_eq_true (by rw [List.length_map]; omega)) ?_
      walk_at "go"
      refine .inl ⟨p, _, _, .int (cellN ns j), rfl, rfl, hp, atI_nat ?_, ?_⟩
      · rw [List.getElem?_map, List.getElem?_eq_getElem hj]
        unfold cellN
        rw [List.getD_eq_getElem?_getD, List.getElem?_eq_getElem hj]
        rfl
      refine .inl ⟨_, rfl, q⟩
    · refine ifF (decide_eq_false (by rw [List.length_map]; omega)) ?_
      walk_at "go"
      unfold cellN at q
      rw [List.getD_eq_getElem?_getD, List.getElem?_eq_none (by omega)] at q
      exact q
def spNumbers (K : PySem.W.Frag) : Sp := fun vs H Q _ => ∃ (p : Addr) (ns : List Int) (j m : Nat), vs = [.ref p, .int j, .int m] ∧ SqL K H p (ns.map V.int) ∧ m ≤ 100 ∧
  ∀ H' q (zs : List Nat), Le H H' → H q = none → H' q = some (.lst (zs.map fun z : Nat => V.int (z : Int))) → zs.length = m → (∀ z ∈ zs, z < 1000000000) → Q (.ref q) H'
theorem ok__law_numbers (T : Txt K mg a) : FnOk P w K mg base CX0 2 a.f__law_numbers a.d__law_numbers p__law_numbers (spNumbers K) := by
  have G__law_cell := ok__law_cell (P := P) (w := w) (base := base) T
  refine T.d__law_numbers.ok sc__law_numbers (fun vs H Q E h => ?_) (fun A outer s H vs Q E hr h => ?_)
  · obtain ⟨p, ns, j, m, rfl, _⟩ := h; rfl
  · obtain ⟨p, ns, j, m, rfl, hp, hm, q⟩ := h
    refine ⟨_, (pss_cons (ps_set (i := 3) sc__law_numbers.nd rfl (.inl rfl) (pe_call G__law_cell (hr.mono (by decide)) (by rfl) T.d__law_cell.g T.d__law_cell.kp T.d__law_cell.b .nil pass0 (pa_cons (pv 0) (pa_cons (pv 1) pa_nil))))
    (pss_cons (ps_set (i := 4) sc__law_numbers.nd rfl (.inl rfl) (pe_lst pa_nil))
    (pss_cons (ps_set (i := 5) sc__law_numbers.nd rfl (.inl rfl) (pv 3))
    (pss_cons (ps_for PassesOwn.never rfl (pi_range1 (by rfl) T.m_range (pa_cons (pv 2) pa_nil)) (pg_name (i := 6) sc__law_numbers.nd rfl (.inl rfl))
    (pss_one (ps_if (pt_cmpR op_ge (pv 3) (pe_op op_pow pe_int pe_int) (nomark _))
    (pss_cons (ps_expr (pe_bm PySem.F.plainAttrs_list PySem.F.slot_list_append PySem.F.type_list_append mt_append (pv 4) (pa_cons (pe_op op_mod (pe_callTy call_intZ (by rfl) T.m_int (by decide +kernel) (pa_cons (pv 5) pa_nil)) (pe_op op_pow pe_int pe_int)) pa_nil)))
    (pss_one (ps_set (i := 5) sc__law_numbers.nd rfl (.inl rfl) (pe_op op_fdiv (pv 5) (pe_op op_pow pe_int pe_int)))))
    (pss_cons (ps_set (i := 7) sc__law_numbers.nd rfl (.inl rfl) (pe_op op_mod (pe_callTy call_intZ (by rfl) T.m_int (by decide +kernel) (pa_cons (pe_op op_addZ (pe_op op_addZ (pe_op op_mulZ (pv 3) pe_int) (pe_op op_mulZ (pe_op op_addZ (pv 6) pe_int) pe_int)) (pv 1)) pa_nil)) pe_int))
    (pss_one (ps_expr (pe_bm PySem.F.plainAttrs_list PySem.F.slot_list_append PySem.F.type_list_append mt_append (pv 4) (pa_cons (pe_op op_mod (pe_op op_mod (pe_callTy call_intZ (by rfl) T.m_int (by decide +kernel) (pa_cons (pe_op op_addZ (pe_op op_mulZ (pv 7) pe_int) (pe_op op_mulZ (pe_op op_addZ (pv 6) pe_int) pe_int)) pa_nil)) pe_int) (pe_op op_pow pe_int pe_int)) pa_nil))))))))
    (pss_one (ps_ret (pv 4))))))), ?_⟩
    walk_at "go"
    refine ⟨p, ns, j, rfl, hp, ?_⟩
    walk_at "go"
    refine ⟨tup_sz (by simp), fun w0 hw => ?_⟩
    walk_at "go"
    refine ⟨by omega, by omega, ?_⟩
    rw [Int.toNat_natCast]
    generalize cellN ns j = c
    have snoc : ∀ (zs : List Nat) (x : Int), 0 ≤ x → x < 1000000000 → ((zs.map fun z : Nat => V.int (z : Int)) ++ [.int x]) = ((zs ++ [x.toNat]).map fun z : Nat => V.int (z : Int)) := by
      intro zs x h0 h1
      rw [List.map_append, List.map_singleton, Int.toNat_of_nonneg h0]
    refine for_range (fun i σ' H' => ∃ x5 x6 x7 zs, σ' = [some (.ref p), some (.int j), some (.int m), some (.int c), some (.ref w0), some (.int x5), x6, x7] ∧ Le H H' ∧ H' w0 = some (.lst (zs.map fun z : Nat => V.int (z : Int))) ∧ zs.length = i ∧ ∀ z ∈ zs, z < 1000000000)
      ⟨_, _, _, [], rfl, Le.new hw, upd_same, rfl, by simp⟩ ?_ ?_
    · rintro i σ' H' hi ⟨x5, x6, x7, zs, rfl, hLe, e, hz, hb⟩
      have hmem : ∀ x : Int, 0 ≤ x → x < 1000000000 → ∀ z ∈ zs ++ [x.toNat], z < 1000000000 := by
        intro x h0 h1 z hz
        rcases List.mem_append.mp hz with h | h
        · exact hb z h
        · rw [List.mem_singleton] at h; omega
      have cp : ∀ k : Int, 0 ≤ k → k ≤ 100 → CPow 10 k := fun k h0 h1 => ⟨h0, by omega, by decide⟩
      have md : ∀ x : Int, 0 ≤ x % (10 ^ 9) ∧ x % (10 ^ 9) < 1000000000 := fun x => ⟨Int.emod_nonneg _ (by decide), by have := Int.emod_lt_of_pos x (show (0:Int) < 10 ^ 9 by decide); omega⟩
      walk_at "go"
      refine ⟨cp 18 (by omega) (by omega), ?_⟩
      walk_at "go"
      refine if2 (fun _ => ?_) (fun _ => ?_)
      · walk_at "go"
        refine ⟨.inl ⟨rfl, _, .inl (.inl e)⟩, ?_⟩
        walk_at "go"
        refine .inl ⟨_, rfl, ?_⟩
        walk_at "go"
        refine ⟨cp 9 (by omega) (by omega), ?_⟩
        walk_at "go"
        refine ⟨show (0 : Int) < 10 ^ Int.toNat 9 by decide, ?_⟩
        walk_at "go"
        refine ⟨w0, _, _, rfl, rfl, e, by rw [sizeLine_eq, List.length_map]; omega, ?_⟩
        walk_at "go"
        refine ⟨cp 9 (by omega) (by omega), ?_⟩
        walk_at "go"
        refine ⟨⟨by decide, by decide⟩, ?_⟩
        have m9 := md x5
        refine ⟨_, _, _, zs ++ [(x5 % (10 ^ 9)).toNat], rfl, hLe.mut hw, ?_, by rw [List.length_append, hz]; rfl, hmem _ m9.1 m9.2⟩
        rw [← snoc zs _ m9.1 m9.2]
        exact upd_same
      · walk_at "go"
        refine ⟨.inr ⟨by decide, by decide⟩, ?_⟩
        walk_at "go"
        refine ⟨.inr ⟨by decide, by decide⟩, ?_⟩
        walk_at "go"
        refine .inl ⟨_, rfl, ?_⟩
        walk_at "go"
        refine ⟨show (0 : Int) < 2147483647 by decide, ?_⟩
        walk_at "go"
        refine ⟨.inl ⟨rfl, _, .inl (.inl e)⟩, ?_⟩
        walk_at "go"
        refine ⟨.inr ⟨by decide, by decide⟩, ?_⟩
        walk_at "go"
        refine ⟨.inr ⟨by decide, by decide⟩, ?_⟩
        walk_at "go"
        refine .inl ⟨_, rfl, ?_⟩
        walk_at "go"
        refine ⟨show (0 : Int) < 2147483399 by decide, ?_⟩
        walk_at "go"
        refine ⟨cp 9 (by omega) (by omega), ?_⟩
        walk_at "go"
        refine ⟨show (0 : Int) < 10 ^ Int.toNat 9 by decide, ?_⟩
        walk_at "go"
        refine ⟨w0, _, _, rfl, rfl, e, by rw [sizeLine_eq, List.length_map]; omega, ?_⟩
        generalize (((c * 48271 + (0 + (i : Int) + 1) * 69621 + (j : Int)) % 2147483647) * 16807 + (0 + (i : Int) + 3) * 40692) % 2147483399 = x
        have m9 := md x
        refine ⟨_, _, _, zs ++ [(x % (10 ^ 9)).toNat], rfl, hLe.mut hw, ?_, by rw [List.length_append, hz]; rfl, hmem _ m9.1 m9.2⟩
        rw [← snoc zs _ m9.1 m9.2]
        exact upd_same
    · rintro σ' H' ⟨x5, x6, x7, zs, rfl, hLe, e, hz, hb⟩
      walk_at "go"
      exact q H' w0 zs hLe hw e hz hb
end
end K11
set_option Elab.async false
set_option linter.all false
set_option maxRecDepth 100000
set_option maxHeartbeats 4000000
namespace K11
open PySem PySem.Spec PyProof.Rows L2 Zl
local macro_rules | `(tactic| walk_at "go") => `(tactic| repeat (first | refine ⟨_, rfl, ?_⟩ | refine ⟨_, _, rfl, rfl, ?_⟩ | refine .inl ⟨_, _, rfl, rfl, ?_⟩))
local macro_rules | `(tactic| walk_at "isi") => `(tactic| first
  | refine isi_of (b := true) (.base (.int _)) (by decide +kernel) ?_ | refine isi_of (b := false) (.base (.int _)) (by decide +kernel) ?_
  | refine isi_of (b := true) (.base (.str _)) (by decide +kernel) ?_ | refine isi_of (b := false) (.base (.str _)) (by decide +kernel) ?_
  | refine isi_of (b := true) (ty_st (by assumption)) (by decide +kernel) ?_ | refine isi_of (b := false) (ty_st (by assumption)) (by decide +kernel) ?_
  | refine isi_of (b := true) (ty_sl (by assumption)) (by decide +kernel) ?_ | refine isi_of (b := false) (ty_sl (by assumption)) (by decide +kernel) ?_)
section
variable {P : Program} {w : World} {K : PySem.W.Frag} {mg : Str → Option Value} {base : Heap} {a : Ad}
def keysV : List V := keysL.map fun l => V.str (tx l)
def spKeys : Sp := fun vs H Q _ => vs = [] ∧ ∀ p, H p = none → Q (.ref p) (upd H p (.lst keysV))
theorem ok__law_keys (T : Txt K mg a) : FnOk P w K mg base CX0 1 a.f__law_keys a.d__law_keys p__law_keys spKeys := by
  refine T.d__law_keys.ok sc__law_keys (fun vs H Q E h => ?_) (fun A outer s H vs Q E hr h => ?_)
  · obtain ⟨rfl, _⟩ := h; rfl
  · obtain ⟨rfl, q⟩ := h
    refine ⟨_, (pss_one (ps_ret (pe_lst (pa_cons pe_str (pa_cons pe_str (pa_cons pe_str (pa_cons pe_str (pa_cons pe_str (pa_cons pe_str (pa_cons pe_str (pa_cons pe_str (pa_cons pe_str pa_nil)))))))))))), ?_⟩
    refine ⟨tup_sz (by simp), fun p hp => ?_⟩
    have z := q p hp
    rw [show keysV = [.str (Str.ofString "kind"), .str (Str.ofString "let"), .str (Str.ofString "rec"), .str (Str.ofString "in"), .str (Str.ofString "fun"), .str (Str.ofString "case"), .str (Str.ofString "of"), .str (Str.ofString "end"), .str (Str.ofString "trap")] by kernel_rfl] at z
    exact z
/-- a value that the law's comparison reads, of this depth -/
def plainD : Nat → PyData → Bool
  | _, .none => true
  | _, .bool _ => true
  | _, .int _ => true
  | _, .str _ => true
  | n + 1, .tuple ds => decide (ds.length ≤ 10000) && ds.all (plainD n)
  | _, _ => false
def spSame (K : PySem.W.Frag) (n : Nat) : Sp := fun vs H Q _ => ∃ x y d, vs = [x, y] ∧ Dp K H x d ∧ Dp K H y d ∧ plainD n d = true ∧ ∀ H', Le H H' → Q (.bl true) H'
theorem any_is {n : String} (h : kitB n "int" = some true ∨ (kitB n "int" = some false ∧ kitB n "str" = some true)) : PySem.W.kitAny K (.type n) [.type "int", .type "str"] = some true := by
  unfold PySem.W.kitAny
  rcases h with h | ⟨h, h2⟩
  · rw [kit_ty h]
  · rw [kit_ty h]
    show PySem.W.kitAny K (.type n) [.type "str"] = some true
    unfold PySem.W.kitAny
    rw [kit_ty h2]
def isCls (n : String) : Prop := ∃ b s, kitB n "tuple" = some false ∧ kitB n "bool" = some b ∧ kitB n "str" = some s ∧ (kitB n "int" = some true ∨ (kitB n "int" = some false ∧ kitB n "str" = some true))
theorem isCls_int : isCls "int" := ⟨false, false, by decide +kernel, by decide +kernel, by decide +kernel, .inl (by decide +kernel)⟩
theorem isCls_bool : isCls "bool" := ⟨true, false, by decide +kernel, by decide +kernel, by decide +kernel, .inl (by decide +kernel)⟩
theorem isCls_str : isCls "str" := ⟨false, true, by decide +kernel, by decide +kernel, by decide +kernel, .inr ⟨by decide +kernel, by decide +kernel⟩⟩
theorem dps_len {H : Hp} : ∀ {vs : List V} {ds : List PyData}, DpAll K H vs ds → vs.length = ds.length
  | _, _, .nil => rfl
  | _, _, .cons _ r => by rw [List.length_cons, List.length_cons, dps_len r]
theorem dps_at {H : Hp} : ∀ {vs : List V} {ds : List PyData}, DpAll K H vs ds → ∀ {i : Nat} {v : V}, vs[i]? = some v → ∃ d, ds[i]? = some d ∧ Dp K H v d
  | _, _, .nil, i, v, h => by simp at h
  | _, _, .cons (d := d) x r, 0, v, h => by cases h; exact ⟨d, rfl, x⟩
  | _, _, .cons x r, i + 1, v, h => dps_at r (i := i) h
theorem same_step (T : Txt K mg a) (n : Nat) (spR : Sp) (hR : ∀ m, n = m + 1 → spR = spSame K m) (G__law_same : FnOk P w K mg base CX0 n a.f__law_same a.d__law_same p__law_same spR) :
    FnOk P w K mg base CX0 (n + 1) a.f__law_same a.d__law_same p__law_same (spSame K n) := by
  refine T.d__law_same.ok sc__law_same (fun vs H Q E h => ?_) (fun A outer s H vs Q E hr h => ?_)
  · obtain ⟨x, y, d, rfl, _⟩ := h; rfl
  · obtain ⟨x, y, d, rfl, hx, hy, hd, q⟩ := h
    refine ⟨_, (pss_cons (ps_if (PW.pt (pw_or (pt_truth (pe_callB call_isinstanceZ (by rfl) T.m_isinstance (by decide +kernel) (pa_cons (pv 1) (pa_cons (pe_bltn (v := .ty "tuple") (by rfl) T.m_tuple (by decide +kernel) rfl) pa_nil))) (by intro _; rfl)) (pw_or1 (pt_truth (pe_callB call_isinstanceZ (by rfl) T.m_isinstance (by decide +kernel) (pa_cons (pv 0) (pa_cons (pe_bltn (v := .ty "tuple") (by rfl) T.m_tuple (by decide +kernel) rfl) pa_nil))) (by intro _; rfl)))))
    (pss_cons (ps_if (PW.pt (pw_or (pt_not (pt_truth (pe_callB call_isinstanceZ (by rfl) T.m_isinstance (by decide +kernel) (pa_cons (pv 0) (pa_cons (pe_bltn (v := .ty "tuple") (by rfl) T.m_tuple (by decide +kernel) rfl) pa_nil))) (by intro _; rfl))) (pw_or (pt_not (pt_truth (pe_callB call_isinstanceZ (by rfl) T.m_isinstance (by decide +kernel) (pa_cons (pv 1) (pa_cons (pe_bltn (v := .ty "tuple") (by rfl) T.m_tuple (by decide +kernel) rfl) pa_nil))) (by intro _; rfl))) (pw_or1 (pt_cmpR (op_neZ (u64 hr)) (pe_callB call_lenZ (by rfl) T.m_len (by decide +kernel) (pa_cons (pv 0) pa_nil)) (pe_callB call_lenZ (by rfl) T.m_len (by decide +kernel) (pa_cons (pv 1) pa_nil)) (nomark _))))))
    (pss_one (ps_ret pe_bl))
    pss_nil)
    (pss_cons (ps_for PassesOwn.never rfl (pi_range1 (by rfl) T.m_range (pa_cons (pe_callB call_lenZ (by rfl) T.m_len (by decide +kernel) (pa_cons (pv 1) pa_nil)) pa_nil)) (pg_name (i := 2) sc__law_same.nd rfl (.inl rfl))
    (pss_one (ps_if (pt_not (pt_truth (pe_call G__law_same (hr.mono (by first | decide | omega)) (by rfl) T.d__law_same.g T.d__law_same.kp T.d__law_same.b .nil pass0 (pa_cons (pe_ix ix_seq (pv 0) (pv 2) (fun _ _ => rfl)) (pa_cons (pe_ix ix_seq (pv 1) (pv 2) (fun _ _ => rfl)) pa_nil))) (by intro _; rfl)))
    (pss_one (ps_ret pe_bl))
    pss_nil)))
    (pss_one (ps_ret pe_bl))))
    pss_nil)
    (pss_cons (ps_if (PW.pt (pw_or (pt_cmpR op_isZ (pv 0) pe_non (nomark _)) (pw_or1 (pt_cmpR op_isZ (pv 1) pe_non (nomark _)))))
    (pss_one (ps_ret (pe_and (pe_cmpR op_isZ (pv 0) pe_non (nomark _)) (pe_one (pe_cmpR op_isZ (pv 1) pe_non (nomark _))))))
    pss_nil)
    (pss_cons (ps_if (PW.pt (pw_or (pt_cmpR (op_neZ (u64 hr)) (pe_callB call_isinstanceZ (by rfl) T.m_isinstance (by decide +kernel) (pa_cons (pv 0) (pa_cons (pe_bltn (v := .ty "bool") (by rfl) T.m_bool (by decide +kernel) rfl) pa_nil))) (pe_callB call_isinstanceZ (by rfl) T.m_isinstance (by decide +kernel) (pa_cons (pv 1) (pa_cons (pe_bltn (v := .ty "bool") (by rfl) T.m_bool (by decide +kernel) rfl) pa_nil))) (nomark _)) (pw_or1 (pt_cmpR (op_neZ (u64 hr)) (pe_callB call_isinstanceZ (by rfl) T.m_isinstance (by decide +kernel) (pa_cons (pv 0) (pa_cons (pe_bltn (v := .ty "str") (by rfl) T.m_str (by decide +kernel) rfl) pa_nil))) (pe_callB call_isinstanceZ (by rfl) T.m_isinstance (by decide +kernel) (pa_cons (pv 1) (pa_cons (pe_bltn (v := .ty "str") (by rfl) T.m_str (by decide +kernel) rfl) pa_nil))) (nomark _)))))
    (pss_one (ps_ret pe_bl))
    pss_nil)
    (pss_one (ps_ret (pe_and (pe_callB call_isinstanceZ (by rfl) T.m_isinstance (by decide +kernel) (pa_cons (pv 0) (pa_cons (pe_tup (pa_cons (pe_bltn (v := .ty "int") (by rfl) T.m_int (by decide +kernel) rfl) (pa_cons (pe_bltn (v := .ty "str") (by rfl) T.m_str (by decide +kernel) rfl) pa_nil))) pa_nil))) (pe_and (pe_callB call_isinstanceZ (by rfl) T.m_isinstance (by decide +kernel) (pa_cons (pv 1) (pa_cons (pe_tup (pa_cons (pe_bltn (v := .ty "int") (by rfl) T.m_int (by decide +kernel) rfl) (pa_cons (pe_bltn (v := .ty "str") (by rfl) T.m_str (by decide +kernel) rfl) pa_nil))) pa_nil))) (pe_one (pe_cmpR (op_eqZ (u64 hr)) (pv 0) (pv 1) (nomark _)))))))))), ?_⟩
    by_cases hs : y = x ∧ x ≠ .non ∧ (∀ H Q, Q (.bl true) H → rEqZ K x x H Q) ∧ ∃ nm, isCls nm ∧ ∀ H, TyX K H x (.type nm)
    · obtain ⟨rfl, hnn, heq, nm, ⟨b, s, k1, k2, k3, k4⟩, ty⟩ := hs
      walk_at "go"
      refine isi_of (ty _) k1 ?_
      refine ⟨_, rfl, ?_⟩
      refine ifF rfl ?_
      walk_at "go"
      refine isi_of (ty _) k1 ?_
      walk_at "go"
      refine .inl ⟨rfl, ?_⟩
      walk_at "go"
      refine ifF (decide_eq_false hnn) ?_
      walk_at "go"
      refine .inl ⟨rfl, ?_⟩
      walk_at "go"
      refine ifF (decide_eq_false hnn) ?_
      walk_at "go"
      refine isi_of (ty _) k2 ?_
      walk_at "go"
      refine isi_of (ty _) k2 ?_
      walk_at "go"
      refine .inl ⟨by cases b <;> rfl, ?_⟩
      walk_at "go"
      refine ifF (by cases b <;> rfl) ?_
      walk_at "go"
      refine isi_of (ty _) k3 ?_
      walk_at "go"
      refine isi_of (ty _) k3 ?_
      walk_at "go"
      refine .inl ⟨by cases s <;> rfl, ?_⟩
      walk_at "go"
      refine ifF (by cases s <;> rfl) ?_
      walk_at "go"
      refine ⟨tup_sz (by simp), fun p hp => ?_⟩
      walk_at "go"
      refine .inr ⟨_, p, _, _, _, true, rfl, upd_same, .cons (.ty "int") (.cons (.ty "str") .nil), ty _, any_is k4, ?_⟩
      walk_at "go"
      refine ⟨tup_sz (by simp), fun p2 hp2 => ?_⟩
      walk_at "go"
      refine .inr ⟨_, p2, _, _, _, true, rfl, upd_same, .cons (.ty "int") (.cons (.ty "str") .nil), ty _, any_is k4, ?_⟩
      walk_at "go"
      refine heq _ _ ?_
      exact q _ ((Le.new hp).trans (Le.new hp2))
    · have no : ∀ v : V, x = v → y = v → v ≠ .non → (∀ H Q, Q (.bl true) H → rEqZ K v v H Q) → (∀ nm, isCls nm → (∀ H, TyX K H v (.type nm)) → False) := fun v e1 e2 h1 h2 nm h3 h4 => by
        subst e1; subst e2; exact hs ⟨rfl, h1, h2, nm, h3, h4⟩
      cases d with
      | none =>
        cases hx; cases hy
        walk_at "go"
        refine isi_of (b := false) (.base .non) (by decide +kernel) ?_
        refine ⟨_, rfl, ?_⟩
        refine ifF rfl ?_
        walk_at "go"
        refine isi_of (b := false) (.base .non) (by decide +kernel) ?_
        walk_at "go"
        refine .inl ⟨rfl, ?_⟩
        walk_at "go"
        refine .inl ⟨rfl, ?_⟩
        walk_at "go"
        refine .inl ⟨rfl, ?_⟩
        exact q _ (Le.refl _)
      | bool b =>
        cases hx; cases hy
        exact (no (.bl b) rfl rfl (by simp) (fun H Q h => .inl ⟨rfl, by rw [decide_eq_true rfl]; exact h⟩) "bool" isCls_bool fun H => .base (.bl _)).elim
      | int b =>
        cases hx; cases hy
        exact (no (.int b) rfl rfl (by simp) (fun H Q h => .inl ⟨rfl, by rw [decide_eq_true rfl]; exact h⟩) "int" isCls_int fun H => .base (.int _)).elim
      | str b =>
        cases hx; cases hy
        exact (no (.str b) rfl rfl (by simp) (fun H Q h => .inl ⟨rfl, by rw [decide_eq_true rfl]; exact h⟩) "str" isCls_str fun H => .base (.str _)).elim
      | list ds => simp [plainD] at hd
      | dict ds => simp [plainD] at hd
      | tuple ds =>
        cases n with
        | zero => simp [plainD] at hd
        | succ m =>
          obtain rfl := hR m rfl
          simp only [plainD, Bool.and_eq_true, decide_eq_true_eq, List.all_eq_true] at hd
          obtain ⟨hlen, hd⟩ := hd
          cases hx with
          | @tup px xs _ qx rx =>
            cases hy with
            | @tup py ys _ qy ry =>
              have lx := dps_len rx
              have ly := dps_len ry
              walk_at "go"
              refine isi_of (b := true) (ty_st qy) (by decide +kernel) ?_
              refine ⟨_, rfl, ?_⟩
              refine ifT rfl ?_
              walk_at "go"
              refine isi_of (b := true) (ty_st qx) (by decide +kernel) ?_
              refine ⟨_, rfl, ?_⟩
              walk_at "go"
              refine isi_of (b := true) (ty_st qy) (by decide +kernel) ?_
              refine ⟨_, rfl, ?_⟩
              walk_at "go"
              refine ⟨_, _, rfl, .inr ⟨_, qx, rfl⟩, ?_⟩
              walk_at "go"
              refine ⟨_, _, rfl, .inr ⟨_, qy, rfl⟩, ?_⟩
              refine .inl ⟨rfl, ?_⟩
              walk_at "go"
              refine ifF (by rw [lx, ly]; simp) ?_
              walk_at "go"
              refine ⟨_, _, rfl, .inr ⟨_, qy, rfl⟩, ?_⟩
              walk_at "go"
              refine ⟨by omega, by omega, ?_⟩
              rw [Int.toNat_natCast]
              refine for_range (fun i σ' H' => ∃ x2, σ' = [some (.ref px), some (.ref py), x2] ∧ Le H H') ⟨_, rfl, Le.refl _⟩ ?_ ?_
              · rintro i σ' H' hi ⟨x2, rfl, hLe⟩
                have hi2 : i < xs.length := by omega
                obtain ⟨di, hdi, hdx⟩ := dps_at rx (List.getElem?_eq_getElem hi2)
                obtain ⟨dj, hdj, hdy⟩ := dps_at ry (List.getElem?_eq_getElem hi)
                obtain rfl : di = dj := by rw [hdi] at hdj; exact Option.some.inj hdj
                walk_at "go"
                refine .inr (.inl ⟨_, _, _, _, rfl, rfl, hLe.st qx, atI_nat (by rw [Nat.zero_add]; exact List.getElem?_eq_getElem hi2), ?_⟩)
                walk_at "go"
                refine .inr (.inl ⟨_, _, _, _, rfl, rfl, hLe.st qy, atI_nat (by rw [Nat.zero_add]; exact List.getElem?_eq_getElem hi), ?_⟩)
                refine ⟨_, _, _, rfl, hLe.dp hdx, hLe.dp hdy, hd _ (List.mem_of_getElem? hdi), fun H2 hL2 => ?_⟩
                refine ⟨_, rfl, ?_⟩
                refine ifF rfl ?_
                exact ⟨_, rfl, hLe.trans hL2⟩
              · rintro σ' H' ⟨x2, rfl, hLe⟩
                walk_at "go"
                exact q _ hLe
theorem ok__law_same (T : Txt K mg a) : ∀ n : Nat, FnOk P w K mg base CX0 (n + 1) a.f__law_same a.d__law_same p__law_same (spSame K n)
  | 0 => same_step T 0 (fun _ _ _ _ => False) (fun m h => by cases h) ⟨fun _ _ _ _ h => h.elim, fun _ _ _ _ _ _ _ _ _ _ _ _ _ h => h.elim⟩
  | n + 1 => same_step T (n + 1) (spSame K n) (fun m h => by cases h; rfl) (ok__law_same T n)
end
end K11
set_option Elab.async false
set_option linter.all false
set_option maxRecDepth 100000
set_option maxHeartbeats 4000000
namespace K11
open PySem PySem.Spec PyProof.Rows L2 Zl
local macro_rules | `(tactic| walk_at "go") => `(tactic| repeat (first | refine ⟨_, rfl, ?_⟩ | refine ⟨_, _, rfl, rfl, ?_⟩ | refine .inl ⟨_, _, rfl, rfl, ?_⟩))
local macro_rules | `(tactic| walk_at "isi") => `(tactic| first
  | refine isi_of (b := true) (.base (.int _)) (by decide +kernel) ?_ | refine isi_of (b := false) (.base (.int _)) (by decide +kernel) ?_
  | refine isi_of (b := true) (.base (.str _)) (by decide +kernel) ?_ | refine isi_of (b := false) (.base (.str _)) (by decide +kernel) ?_
  | refine isi_of (b := true) (ty_st (by assumption)) (by decide +kernel) ?_ | refine isi_of (b := false) (ty_st (by assumption)) (by decide +kernel) ?_
  | refine isi_of (b := true) (ty_sl (by assumption)) (by decide +kernel) ?_ | refine isi_of (b := false) (ty_sl (by assumption)) (by decide +kernel) ?_)
section
variable {P : Program} {w : World} {K : PySem.W.Frag} {mg : Str → Option Value} {base : Heap} {a : Ad}
def rowsD (rows : List Row) : PyData := .tuple (rows.map fun r => .tuple (rowD r))
def toldD (l : List Nat) : PyData := match rd l 0 [] with
  | .ok rows => .tuple [.str (Str.ofString "words"), rowsD rows]
  | .error n => .tuple [.str (Str.ofString "bad"), .int (n : Int)]
def spTold (K : PySem.W.Frag) (a : Ad) : Sp := fun vs H Q _ => ∃ l : List Nat, vs = [.str (tx l)] ∧ l.length ≤ 6000 ∧ l.all okSign = true ∧ GxR.TabG H a.tab_is_text ∧ ∀ H' v, Le H H' → Dp K H' v (toldD l) → Q v H'
def tbTold (a : Ad) : WX → TS := fun W => tRet (tTup (tCons (tC (.str (Str.ofString "words"))) (tCons (tCallS (spWordsOf a) (WE W) (tCons (tVar 0) tNil)) tNil)))
def tsTold (K : PySem.W.Frag) (a : Ad) : Addr → Value → Option Addr → TS := fun ea cls d => tSeq (tIfS (fun σ H Q => tCB (rIsX K a.k_BadText ea cls d) (tCons (tVar 1) (tCons (tC (.ref a.k_BadValue)) tNil)) σ H fun x H' => ∃ k, TruV K x H' k ∧ Q k H')
  (tRet (tTup (tCons (tC (.str (Str.ofString "other"))) (tCons (tC (.int 0)) tNil)))) tNext)
  (tRet (tTup (tCons (tC (.str (Str.ofString "bad"))) (tCons (tXf ea cls d a.k_BadText "at" (tVar 1)) tNil))))
theorem ok__law_told (T : Txt K mg a) (TB : GxR.TabB base mg a.c_is_text a.tab_is_text) (hBad : PySem.W.kitOne K (.ref a.k_BadText) (.ref a.k_BadValue) = some false) : FnOk prg w K mg base CX0 5 a.f__law_told a.d__law_told p__law_told (spTold K a) := by
  have G_words_of := ok_words_of (w := w) (base := base) T TB
  refine T.d__law_told.ok sc__law_told (fun vs H Q E h => ?_) (fun A outer s H vs Q E hr h => ?_)
  · obtain ⟨l, rfl, _⟩ := h; rfl
  · obtain ⟨l, rfl, hl, hs, ht, q⟩ := h
    refine ⟨_, (pss_one (ps_try_as (i := 1) (tb := tbTold a) (ts := tsTold K a) (Wout := fun _ _ _ _ => False) rfl rfl sc__law_told.nd rfl rfl ⟨rfl, by decide, Or.inl T.m_BadText⟩ takes0
    (fun W pn xe tk own => by exact ((pss_one (ps_ret (pe_tup (pa_cons pe_str (pa_cons (pe_callS G_words_of (hr.mono (by first | decide | omega)) (by rfl) T.d_words_of.g T.d_words_of.kp T.d_words_of.b (fun σ => passAt tk σ) (pa_cons (pv 0) pa_nil)) pa_nil)))))))
    (fun ea oe cls d pn hz hf => by exact ((pss_cons (ps_if (pt_truth (by exact (pe_callB (call_isX T.x_BadText hz hf) (by rfl) T.m_isinstance (by decide +kernel) (pa_cons (pv 1) (pa_cons (by exact pe_glob rfl T.m_BadValue rfl) pa_nil)))) (by intro _; rfl))
    (pss_one (ps_ret (pe_tup (pa_cons pe_str (pa_cons pe_int pa_nil)))))
    pss_nil)
    (pss_one (ps_ret (pe_tup (pa_cons pe_str (pa_cons (by exact (pe_xf T.x_BadText.xf T.x_BadText.noN hz hf (pv 1))) pa_nil)))))))))), ?_⟩
    walk_at "go"
    refine ⟨hl, hs, ht, fun rows hrd H' p xs hLe e hT => ?_, fun n hrd H' d hLe e => ?_⟩
    · have hd : toldD l = .tuple [.str (Str.ofString "words"), rowsD rows] := by unfold toldD; rw [hrd]
      walk_at "go"
      refine ⟨tup_sz (by simp), fun p2 hp2 => ?_⟩
      refine q _ _ (hLe.trans (Le.new hp2)) ?_
      rw [hd]
      refine .tup (.inl (.inl upd_same)) (.cons (.str _) (.cons ?_ .nil))
      refine Le.dp (Le.new hp2) ?_
      exact .tup (.inl (.inl e)) (Tups.dps row_dps hT)
    · have hd : toldD l = .tuple [.str (Str.ofString "bad"), .int (n : Int)] := by unfold toldD; rw [hrd]
      refine ⟨true, T.x_BadText.te, fun _ ea hea => ?_, fun z => by cases z⟩
      walk_at "go"
      refine ⟨rfl, _, _, _, false, rfl, rfl, e, hBad, ?_⟩
      walk_at "go"
      refine ⟨rfl, rfl, d, _, _, rfl, e, rfl, ?_⟩
      walk_at "go"
      refine ⟨tup_sz (by simp), fun p2 hp2 => ?_⟩
      refine q _ _ (hLe.trans (Le.new hp2)) ?_
      rw [hd]
      exact .tup (.inl (.inl upd_same)) (.cons (.str _) (.cons (.int _) .nil))
end
end K11
set_option Elab.async false
set_option linter.all false
set_option maxRecDepth 100000
set_option maxHeartbeats 4000000
namespace K11
open PySem PySem.Spec PyProof.Rows L2 Zl
local macro_rules | `(tactic| walk_at "go") => `(tactic| repeat (first | refine ⟨_, rfl, ?_⟩ | refine ⟨_, _, rfl, rfl, ?_⟩ | refine .inl ⟨_, _, rfl, rfl, ?_⟩))
local macro_rules | `(tactic| walk_at "isi") => `(tactic| first
  | refine isi_of (b := true) (.base (.int _)) (by decide +kernel) ?_ | refine isi_of (b := false) (.base (.int _)) (by decide +kernel) ?_
  | refine isi_of (b := true) (.base (.str _)) (by decide +kernel) ?_ | refine isi_of (b := false) (.base (.str _)) (by decide +kernel) ?_
  | refine isi_of (b := true) (ty_st (by assumption)) (by decide +kernel) ?_ | refine isi_of (b := false) (ty_st (by assumption)) (by decide +kernel) ?_
  | refine isi_of (b := true) (ty_sl (by assumption)) (by decide +kernel) ?_ | refine isi_of (b := false) (ty_sl (by assumption)) (by decide +kernel) ?_)
section
variable {P : Program} {w : World} {K : PySem.W.Frag} {mg : Str → Option Value} {base : Heap} {a : Ad}
def marksV : List V := marksL.map fun l => V.str (tx l)
def spTokens (K : PySem.W.Frag) : Sp := fun vs H Q _ => ∃ l : List Nat, vs = [.str (tx l)] ∧ l.length ≤ 6000 ∧ ∀ H' v, Le H H' → Dp K H' v (toldD l) → Q v H'
/-- the state of the law's reader -/
abbrev stT (l : List Nat) (w0 mk : Addr) (n : Nat) (x7 x8 x9 x10 x11 x12 x13 x14 x15 : Option V) : L2.St := [some (.str (tx l)), some (.ref w0), some (.int (n : Int)), some (.str (tx lowS)), some (.str (tx upS)), some (.str (tx figS)), some (.ref mk), x7, x8, x9, x10, x11, x12, x13, x14, x15]
structure TokI (H : Hp) (l : List Nat) (w0 mk : Addr) (n : Nat) (rows : List Row) (vs : List V) (H' : Hp) : Prop where
  le : Le H H'
  w : H' w0 = some (.lst vs)
  mks : H' mk = some (.lst marksV)
  t : Tups H' vs (rows.map rowV)
  r : rows.length ≤ n
  nl : n ≤ l.length
  rd : rd l 0 [] = rd (l.drop n) n rows
theorem TokI.grow {H H' H'' : Hp} {l : List Nat} {w0 mk : Addr} {n : Nat} {rows : List Row} {vs : List V} (I : TokI H l w0 mk n rows vs H') (x : Le H' H'') : TokI H l w0 mk n rows vs H'' :=
  ⟨I.le.trans x, x.lst I.w, x.lst I.mks, I.t.le x, I.r, I.nl, I.rd⟩
theorem one_in {A L : List Nat} {m : Nat} : ((L.drop m).take 1 ∈ A.map fun c => [c]) ↔ ∃ d, L[m]? = some d ∧ d ∈ A := by
  have e : L[m]? = (L.drop m)[0]? := by rw [List.getElem?_drop, Nat.add_zero]
  rw [e]
  cases L.drop m with
  | nil => simp
  | cons c r => simp
theorem flat_ch (z : Str) : (chV z).all flatV = true := by
  unfold chV
  rw [List.all_map, List.all_eq_true]
  intro _ _
  rfl
theorem dps_txs {H : Hp} : ∀ ls : List (List Nat), DpAll K H (ls.map fun l => V.str (tx l)) (ls.map fun l => PyData.str (tx l))
  | [] => .nil
  | l :: r => .cons (.str _) (dps_txs r)
theorem shaped_txs : ∀ (ls : List (List Nat)), (∀ l ∈ ls, PyData.strOk (tx l) = true) → SeqAt.shaped (.list (ls.map fun l => PyData.str (tx l))) = true := by
  intro ls h
  have h1 : ∀ ls : List (List Nat), (∀ l ∈ ls, PyData.strOk (tx l) = true) → PyData.canLayAll0 (ls.map fun l => PyData.str (tx l)) = true := by
    intro ls
    induction ls with
    | nil => intro _; rfl
    | cons l r ih =>
      intro h
      show (PyData.strOk (tx l) && PyData.canLayAll0 (r.map fun l => PyData.str (tx l))) = true
      rw [h l List.mem_cons_self, ih fun x hx => h x (List.mem_cons_of_mem _ hx)]
      rfl
  have h2 : ∀ ls : List (List Nat), PyData.depthAll (ls.map fun l => PyData.str (tx l)) = 0 := by
    intro ls
    induction ls with
    | nil => rfl
    | cons l r ih =>
      show max 0 (PyData.depthAll (r.map fun l => PyData.str (tx l))) = 0
      rw [ih]
      rfl
  unfold SeqAt.shaped
  rw [show PyData.canLay0 (.list (ls.map fun l => PyData.str (tx l))) = true from h1 ls h]
  show (true && decide (PyData.depthAll (ls.map fun l => PyData.str (tx l)) + 1 ≤ 64)) = true
  rw [h2]
  rfl
theorem foldl_max (l : List Nat) : ∀ a : Nat, (l.foldl max a = a ∨ l.foldl max a ∈ l) ∧ a ≤ l.foldl max a ∧ ∀ x ∈ l, x ≤ l.foldl max a := by
  induction l with
  | nil => intro a; exact ⟨.inl rfl, Nat.le_refl _, fun x h => by cases h⟩
  | cons b r ih =>
    intro a
    obtain ⟨h1, h2, h3⟩ := ih (max a b)
    refine ⟨?_, ?_, ?_⟩
    · rcases h1 with h | h
      · rcases Nat.le_total a b with h4 | h4
        · right; rw [List.foldl_cons, h, Nat.max_eq_right h4]; exact List.mem_cons_self
        · left; rw [List.foldl_cons, h, Nat.max_eq_left h4]
      · right; exact List.mem_cons_of_mem _ h
    · exact Nat.le_trans (Nat.le_max_left a b) h2
    · intro x hx
      rcases List.mem_cons.mp hx with rfl | hx
      · exact Nat.le_trans (Nat.le_max_right a _) h2
      · exact h3 x hx
theorem max_is {f0 : List Nat} {fr : List (List Nat)} {M : Int} (h1 : M ∈ (f0 :: fr).map fun l => (l.length : Int)) (h2 : ∀ y ∈ (f0 :: fr).map fun l => (l.length : Int), y ≤ M) : M = (((fr.map List.length).foldl max f0.length : Nat) : Int) := by
  obtain ⟨g1, g2, g3⟩ := foldl_max (fr.map List.length) f0.length
  generalize (fr.map List.length).foldl max f0.length = N at g1 g2 g3
  have a1 : M ≤ (N : Int) := by
    obtain ⟨l, hl, rfl⟩ := List.mem_map.mp h1
    rcases List.mem_cons.mp hl with rfl | hl
    · omega
    · have := g3 l.length (List.mem_map.mpr ⟨l, hl, rfl⟩)
      omega
  have a2 : (N : Int) ≤ M := by
    rcases g1 with h | h
    · rw [h]; exact h2 _ (List.mem_map.mpr ⟨f0, List.mem_cons_self, rfl⟩)
    · obtain ⟨l, hl, e⟩ := List.mem_map.mp h
      rw [← e]
      exact h2 _ (List.mem_map.mpr ⟨l, List.mem_cons_of_mem _ hl, rfl⟩)
  omega
theorem run_in {p : List Nat} : ∀ {l : List Nat} {e : Nat}, e < runLen p l → ∃ h : e < l.length, l[e] ∈ p
  | [], e, h => by simp [runLen] at h
  | c :: r, e, h => by
    by_cases hc : c ∈ p
    · cases e with
      | zero => exact ⟨by simp, hc⟩
      | succ e =>
        rw [runLen_yes hc] at h
        obtain ⟨h2, h3⟩ := run_in (p := p) (l := r) (e := e) (by omega)
        exact ⟨by rw [List.length_cons]; omega, h3⟩
    · rw [runLen_no hc] at h; omega
theorem lawWord_word {c : Nat} {r : List Nat} (h : c ∈ lowS ++ upS ++ figS) : lawWord c r = (if runLen (lawSigns c) r + 1 > 12 ∨ ((if (c :: r).take (runLen (lawSigns c) r + 1) ∈ keysL then sKey else lawSort c) = sNumber ∧
    ((((c :: r).take (runLen (lawSigns c) r + 1)).head? = some 48 ∧ (c :: r).take (runLen (lawSigns c) r + 1) ≠ [48]) ∨ ∃ d, (c :: r)[runLen (lawSigns c) r + 1]? = some d ∧ d ∈ alphaS)) then none
    else some (if (c :: r).take (runLen (lawSigns c) r + 1) ∈ keysL then sKey else lawSort c, runLen (lawSigns c) r + 1)) := by
  unfold lawWord
  dsimp only
  rw [if_pos h]
theorem lawWord_mark {c : Nat} {r : List Nat} (h : c ∉ lowS ++ upS ++ figS) : lawWord c r = (match marksL.filter fun m => decide ((c :: r).take m.length = m) with
    | [] => none
    | m :: ms => some (sMark, (ms.map List.length).foldl max m.length)) := by
  unfold lawWord
  dsimp only
  rw [if_neg h] <;> rfl
theorem ok__law_tokens (T : Txt K mg a) : FnOk P w K mg base CX0 2 a.f__law_tokens a.d__law_tokens p__law_tokens (spTokens K) := by
  have G__law_keys := ok__law_keys (P := P) (w := w) (base := base) T
  refine T.d__law_tokens.ok sc__law_tokens (fun vs H Q E h => ?_) (fun A outer s H vs Q E hr h => ?_)
  · obtain ⟨l, rfl, _⟩ := h; rfl
  · obtain ⟨l, rfl, hl, q⟩ := h
    refine ⟨_, (pss_cons (ps_set (i := 1) sc__law_tokens.nd rfl (.inl rfl) (pe_lst pa_nil))
    (pss_cons (ps_set (i := 2) sc__law_tokens.nd rfl (.inr rfl) pe_int)
    (pss_cons (ps_set (i := 3) sc__law_tokens.nd rfl (.inl rfl) pe_str)
    (pss_cons (ps_set (i := 4) sc__law_tokens.nd rfl (.inl rfl) pe_str)
    (pss_cons (ps_set (i := 5) sc__law_tokens.nd rfl (.inl rfl) pe_str)
    (pss_cons (ps_set (i := 6) sc__law_tokens.nd rfl (.inl rfl) (pe_lst (pa_cons pe_str (pa_cons pe_str (pa_cons pe_str (pa_cons pe_str (pa_cons pe_str (pa_cons pe_str (pa_cons pe_str (pa_cons pe_str (pa_cons pe_str (pa_cons pe_str (pa_cons pe_str (pa_cons pe_str (pa_cons pe_str (pa_cons pe_str pa_nil))))))))))))))))
    (pss_cons (ps_for PassesOwn.never rfl (pi_range1 (by rfl) T.m_range (pa_cons (pe_op op_addZ (pe_callB call_lenZ (by rfl) T.m_len bt_len (pa_cons (pv 0) pa_nil)) pe_int) pa_nil)) (pg_name (i := 7) sc__law_tokens.nd rfl (.inl rfl))
    (pss_cons (ps_if (pt_cmpR op_ge (pv 2) (pe_callB call_lenZ (by rfl) T.m_len bt_len (pa_cons (pv 0) pa_nil)) (nomark _))
    (pss_one (ps_ret (pe_tup (pa_cons pe_str (pa_cons (pe_callTy call_tupleZ (by rfl) T.m_tuple bt_tuple (pa_cons (pv 1) pa_nil)) pa_nil)))))
    pss_nil)
    (pss_cons (ps_set (i := 8) sc__law_tokens.nd rfl (.inl rfl) (pe_ix ix_seq (pv 0) (pv 2) (fun _ _ => rfl)))
    (pss_cons (ps_if (pt_cmpR op_inZ (pv 8) pe_str (by rfl))
    (pss_cons (ps_set (i := 2) sc__law_tokens.nd rfl (.inr rfl) (pe_op op_addZ (pv 2) pe_int))
    (pss_one ps_continue))
    pss_nil)
    (pss_cons (ps_set (i := 9) sc__law_tokens.nd rfl (.inl rfl) (pe_op op_addZ (pv 2) pe_int))
    (C8.pss_cut (ps_if (pt_cmpR op_inZ (pv 8) (pe_op op_addZ (pe_op op_addZ (pv 3) (pv 4)) (pv 5)) (by rfl))
    (pss_cons (ps_set (i := 10) sc__law_tokens.nd rfl (.inl rfl) (pe_op op_addZ (pe_op op_addZ (pv 3) (pv 5)) pe_str))
    (C8.pss_cut (ps_if (pt_cmpR op_inZ (pv 8) (pv 4) (by rfl))
    (pss_one (ps_set (i := 10) sc__law_tokens.nd rfl (.inl rfl) (pe_op op_addZ (pe_op op_addZ (pe_op op_addZ (pv 3) (pv 4)) (pv 5)) pe_str)))
    pss_nil)
    (C8.pss_cut (ps_if (pt_cmpR op_inZ (pv 8) (pv 5) (by rfl))
    (pss_one (ps_set (i := 10) sc__law_tokens.nd rfl (.inl rfl) (pv 5)))
    pss_nil)
    (pss_cons (ps_for PassesOwn.never rfl (pi_range1 (by rfl) T.m_range (pa_cons (pe_callB call_lenZ (by rfl) T.m_len bt_len (pa_cons (pv 0) pa_nil)) pa_nil)) (pg_name (i := 11) sc__law_tokens.nd rfl (.inl rfl))
    (pss_one (ps_if (PW.pt (pw_and (pt_cmpR op_ltZ (pv 9) (pe_callB call_lenZ (by rfl) T.m_len bt_len (pa_cons (pv 0) pa_nil)) (nomark _)) (pw_and1 (pt_cmpR op_inZ (pe_ix ix_seq (pv 0) (pv 9) (fun _ _ => rfl)) (pv 10) (by rfl)))))
    (pss_one (ps_set (i := 9) sc__law_tokens.nd rfl (.inl rfl) (pe_op op_addZ (pv 9) pe_int)))
    pss_nil)))
    (pss_cons (ps_set (i := 12) sc__law_tokens.nd rfl (.inl rfl) (pe_slice sl_Z (pv 0) (po_some (pv 2)) (po_some (pv 9))))
    (pss_cons (ps_set (i := 13) sc__law_tokens.nd rfl (.inl rfl) (pe_ix ix_seq (pe_lst (pa_cons pe_str (pa_cons pe_str (pa_cons pe_str pa_nil)))) (pe_op op_addZ (pe_callTy call_intZ (by rfl) T.m_int bt_int (pa_cons (pe_cmpR op_inZ (pv 8) (pv 4) (by rfl)) pa_nil)) (pe_op op_mulZ pe_int (pe_callTy call_intZ (by rfl) T.m_int bt_int (pa_cons (pe_cmpR op_inZ (pv 8) (pv 5) (by rfl)) pa_nil)))) (fun _ _ => rfl)))
    (C8.pss_cut (ps_if (pt_cmpR op_inZ (pv 12) (pe_call0 G__law_keys (hr.mono (by first | decide | omega)) (by rfl) T.d__law_keys.g T.d__law_keys.kp T.d__law_keys.b .nil pass0) (by rfl))
    (pss_one (ps_set (i := 13) sc__law_tokens.nd rfl (.inl rfl) pe_str))
    pss_nil)
    (pss_one (ps_if (PW.pt (pw_or (pt_cmpR op_gt (pe_callB call_lenZ (by rfl) T.m_len bt_len (pa_cons (pv 12) pa_nil)) pe_int (nomark _)) (pw_or1 (PW.pt (pw_and (pt_cmpR (op_eqZ (u64 hr)) (pv 13) pe_str (nomark _)) (pw_and1 (PW.pt (pw_or (PW.pt (pw_and (pt_cmpR (op_eqZ (u64 hr)) (pe_ix ix_seq (pv 12) pe_int (fun _ _ => rfl)) pe_str (nomark _)) (pw_and1 (pt_cmpR (op_neZ (u64 hr)) (pv 12) pe_str (nomark _))))) (pw_or1 (pt_cmpR op_inZ (pe_slice sl_Z (pv 0) (po_some (pv 9)) (po_some (pe_op op_addZ (pv 9) pe_int))) (pe_callTy call_listW (by rfl) T.m_list bt_list (pa_cons (pe_op op_addZ (pe_op op_addZ (pv 3) (pv 4)) pe_str) pa_nil)) (by rfl)))))))))))
    (pss_one (ps_ret (pe_tup (pa_cons pe_str (pa_cons (pv 2) pa_nil)))))
    pss_nil)))))))))
    (pss_cons (ps_setLc (i := 14) (own := [("mark", 15)]) (g := gName 15) (by rfl) sc__law_tokens.nd rfl rfl (sw_true rfl rfl rfl (by decide +kernel)) (pi_seq (pv 6)) (blkOk_by (own := [("mark", 15)]) (N := ["text", "rows", "here", "small", "great", "figures", "marks", "turn", "sign", "end", "some", "step", "word", "sort", "fits", "mark"]) (sc := defScope s__law_tokens) (by decide +kernel)) (fun _ _ _ _ _ => (pg_name (i := 15) sc__law_tokens.nd rfl (.inl rfl))) (fun _ _ _ _ _ => (pts_one (pt_cmpR (op_eqK (K := K) (by rfl) (u64 hr)) (pe_slice (sl_K (K := K) (by rfl)) (pv 0) (po_some (pv 2)) (po_some (pe_op (op_addK (K := K) (by rfl)) (pv 2) (pe_callB (call_lenK (K := K) (by rfl)) (by rfl) T.m_len bt_len (pa_cons (pv 15) pa_nil))))) (pv 15) (nomark _)))) (fun _ _ _ _ _ => (pv 15)))
    (pss_cons (ps_if (pt_cmpR (op_eqZ (u64 hr)) (pv 14) (pe_lst pa_nil) (nomark _))
    (pss_one (ps_ret (pe_tup (pa_cons pe_str (pa_cons (pv 2) pa_nil)))))
    pss_nil)
    (pss_cons (ps_set (i := 9) sc__law_tokens.nd rfl (.inl rfl) (pe_op op_addZ (pv 2) (pe_callB call_maxZ (by rfl) T.m_max bt_max (pa_cons (pe_lc (own := [("mark", 15)]) (g := gName 15) (by rfl) sc__law_tokens.nd (pi_seq (pv 14)) (blkOk_by (own := [("mark", 15)]) (N := ["text", "rows", "here", "small", "great", "figures", "marks", "turn", "sign", "end", "some", "step", "word", "sort", "fits", "mark"]) (sc := defScope s__law_tokens) (by decide +kernel)) (fun _ _ _ _ _ => (pg_name (i := 15) sc__law_tokens.nd rfl (.inl rfl))) (fun _ _ _ _ _ => pts_nil) (fun _ _ _ _ _ => (pe_callB (call_lenK (K := K) (by rfl)) (by rfl) T.m_len bt_len (pa_cons (pv 15) pa_nil)))) pa_nil))))
    (pss_one (ps_set (i := 13) sc__law_tokens.nd rfl (.inl rfl) pe_str))))))
    (pss_cons (ps_expr (pe_bm PySem.F.plainAttrs_list PySem.F.slot_list_append PySem.F.type_list_append mt_append (pv 1) (pa_cons (pe_tup (pa_cons (pv 13) (pa_cons (pe_slice sl_Z (pv 0) (po_some (pv 2)) (po_some (pv 9))) (pa_cons (pv 2) (pa_cons (pv 9) pa_nil))))) pa_nil)))
    (pss_one (ps_set (i := 2) sc__law_tokens.nd rfl (.inr rfl) (pv 9))))))))))
    (pss_one (ps_ret (pe_tup (pa_cons pe_str (pa_cons (pe_callTy call_tupleZ (by rfl) T.m_tuple bt_tuple (pa_cons (pv 1) pa_nil)) pa_nil)))))))))))), ?_⟩
    walk_at "go"
    refine ⟨tup_sz (by simp), fun w0 hw => ?_⟩
    walk_at "go"
    refine ⟨tup_sz (by simp), fun mk hmk => ?_⟩
    have hwm : mk ≠ w0 := fun z => by rw [z, upd_same] at hmk; cases hmk
    walk_at "go"
    refine ⟨_, _, rfl, ⟨sz6 hl, rfl⟩, ?_⟩
    refine .inl ⟨_, _, rfl, rfl, ?_⟩
    walk_at "go"
    refine ⟨by omega, by rw [tx_len]; omega, ?_⟩
    rw [show ((((tx l).length : Nat) : Int) + 1).toNat = l.length + 1 by rw [tx_len]; omega]
    rw [show Str.ofString "abcdefghijklmnopqrstuvwxyz" = tx lowS by decide +kernel, show Str.ofString "ABCDEFGHIJKLMNOPQRSTUVWXYZ" = tx upS by decide +kernel, show Str.ofString "0123456789" = tx figS by decide +kernel]
    rw [show [V.str (Str.ofString "("), .str (Str.ofString ")"), .str (Str.ofString "="), .str (Str.ofString "|"), .str (Str.ofString ";"), .str (Str.ofString ","), .str (Str.ofString "->"), .str (Str.ofString "+"), .str (Str.ofString "-"), .str (Str.ofString "*"), .str (Str.ofString "/"), .str (Str.ofString "<"), .str (Str.ofString "=="), .str (Str.ofString "_")] = marksV by kernel_rfl]
    refine for_range (fun i σ' H' => ∃ n rows vs x7 x8 x9 x10 x11 x12 x13 x14 x15, σ' = stT l w0 mk n x7 x8 x9 x10 x11 x12 x13 x14 x15 ∧ TokI H l w0 mk n rows vs H' ∧ i ≤ n)
      ⟨0, [], [], none, none, none, none, none, none, none, none, none, rfl, ⟨(Le.new hw).trans (Le.new hmk), by rw [upd_ne (Ne.symm hwm)]; exact upd_same, upd_same, .nil, Nat.le_refl _, Nat.zero_le _, rfl⟩, Nat.le_refl _⟩ ?_ ?_
    · rintro i σ' H' hi ⟨n, rows, vs, x7, x8, x9, x10, x11, x12, x13, x14, x15, rfl, I, hin⟩
      walk_at "go"
      refine ⟨_, _, rfl, ⟨sz6 hl, rfl⟩, ?_⟩
      walk_at "go"
      refine if2 (fun c => ?_) (fun c => ?_)
      · have hn : n = l.length := by have h1 := of_decide_eq_true c; have h2 := I.nl; rw [tx_len] at h1; omega
        have hd : toldD l = .tuple [.str (Str.ofString "words"), rowsD rows] := by
          unfold toldD
          rw [I.rd, hn, List.drop_length]
          rfl
        walk_at "go"
        refine ⟨w0, vs, rfl, .inl ⟨.inl (.inl I.w), fun p hp => ?_⟩⟩
        walk_at "go"
        refine ⟨tup_sz (by simp), fun p2 hp2 => ?_⟩
        refine q _ _ ((I.le.trans (Le.new hp)).trans (Le.new hp2)) ?_
        rw [hd]
        refine .tup (.inl (.inl upd_same)) (.cons (.str _) (.cons ?_ .nil))
        refine Le.dp (Le.new hp2) ?_
        exact .tup (.inl (.inl upd_same)) (Tups.dps row_dps (I.t.le (Le.new hp)))
      · have hn : n < l.length := by have h1 := of_decide_eq_false c; rw [tx_len] at h1; omega
        have hd : l.drop n = l[n] :: l.drop (n + 1) := List.drop_eq_getElem_cons hn
        walk_at "go"
        refine .inr (.inr ⟨_, _, l[n], rfl, rfl, sz6 hl, atI_nat (List.getElem?_eq_getElem hn), ?_⟩)
        walk_at "go"
        have eb : (Str.ofString " \n").cps.toList = blankS := by decide +kernel
        rw [eb]
        by_cases hb : l[n] ∈ blankS
        · refine ifT (decide_eq_true hb) ?_
          walk_at "go"
          refine ⟨n + 1, rows, vs, _, _, _, _, _, _, _, _, _, rfl, ⟨I.le, I.w, I.mks, I.t, by have := I.r; omega, hn, ?_⟩, by omega⟩
          rw [I.rd, hd, rd_blank hb]
        · refine ifF (decide_eq_false hb) ?_
          walk_at "go"
          have hlw : lawWord l[n] (l.drop (n + 1)) = wordAt (l.drop n) := by rw [hd]; exact law_word _ _
          have ebad : lawWord l[n] (l.drop (n + 1)) = none → toldD l = .tuple [.str (Str.ofString "bad"), .int (n : Int)] := fun z => by
            unfold toldD
            rw [I.rd, hd, rd_bad hb (by rw [← hd, ← hlw]; exact z)]
          have kbad : lawWord l[n] (l.drop (n + 1)) = none → ∀ (H'' : Hp), Le H H'' → ∀ p, H'' p = none → Q (.ref p) (upd H'' p (.tup [.str (Str.ofString "bad"), .int (n : Int)])) := fun z H'' hLe p hp => by
            refine q _ _ (hLe.trans (Le.new hp)) ?_
            rw [ebad z]
            exact .tup (.inl (.inl upd_same)) (.cons (.str _) (.cons (.int _) .nil))
          have e1 : (tx lowS ++ tx upS) ++ tx figS = tx (lowS ++ upS ++ figS) := by decide +kernel
          have e2 : tx lowS ++ tx figS = tx (lowS ++ figS) := by decide +kernel
          refine ⟨fun σ' H'' => ∃ s m x10 x11 x12 x14 x15, lawWord l[n] (l.drop (n + 1)) = some (s, m) ∧ σ' = stT l w0 mk n (some (.int ((0 : Int) + (i : Int)))) (some (.str ⟨#[l[n]]⟩)) (some (.int ((n + m : Nat) : Int))) x10 x11 x12 (some (.str (tx s))) x14 x15 ∧ TokI H l w0 mk n rows vs H'', ?_, ?_⟩
          · walk_at "go"
            refine .inr (.inl ⟨_, _, rfl, rfl, by decide +kernel, ?_⟩)
            walk_at "go"
            refine .inr (.inl ⟨_, _, rfl, rfl, by decide +kernel, ?_⟩)
            walk_at "go"
            rw [e1, tx_list]
            by_cases ha : l[n] ∈ lowS ++ upS ++ figS
            · refine ifT (decide_eq_true ha) ?_
              walk_at "go"
              refine .inr (.inl ⟨_, _, rfl, rfl, by decide +kernel, ?_⟩)
              walk_at "go"
              refine .inr (.inl ⟨_, _, rfl, rfl, by decide +kernel, ?_⟩)
              rw [show (tx lowS ++ tx figS) ++ Str.ofString "_" = tx (lowS ++ figS ++ [95]) by decide +kernel]
              walk_at "go"
              refine ⟨fun σ' H'' => σ' = stT l w0 mk n (some (.int ((0 : Int) + (i : Int)))) (some (.str ⟨#[l[n]]⟩)) (some (.int ((n : Int) + 1))) (some (.str (tx (if l[n] ∈ upS then lowS ++ upS ++ figS ++ [95] else lowS ++ figS ++ [95])))) x11 x12 x13 x14 x15 ∧ H'' = H', ?_, ?_⟩
              · walk_at "go"
                by_cases hu : l[n] ∈ upS
                · refine ifT (decide_eq_true hu) ?_
                  walk_at "go"
                  refine .inr (.inl ⟨_, _, rfl, rfl, by decide +kernel, ?_⟩)
                  walk_at "go"
                  refine .inr (.inl ⟨_, _, rfl, rfl, by decide +kernel, ?_⟩)
                  walk_at "go"
                  refine .inr (.inl ⟨_, _, rfl, rfl, by decide +kernel, ?_⟩)
                  rw [show ((tx lowS ++ tx upS) ++ tx figS) ++ Str.ofString "_" = tx (lowS ++ upS ++ figS ++ [95]) by decide +kernel, if_pos hu]
                  exact ⟨rfl, rfl⟩
                · refine ifF (decide_eq_false hu) ?_
                  rw [if_neg hu]
                  exact ⟨rfl, rfl⟩
              rintro σ' H'' ⟨rfl, rfl⟩
              refine ⟨fun σ' H'2 => σ' = stT l w0 mk n (some (.int ((0 : Int) + (i : Int)))) (some (.str ⟨#[l[n]]⟩)) (some (.int ((n : Int) + 1))) (some (.str (tx (lawSigns l[n])))) x11 x12 x13 x14 x15 ∧ H'2 = H'', ?_, ?_⟩
              · walk_at "go"
                unfold lawSigns
                by_cases hf : l[n] ∈ figS
                · refine ifT (decide_eq_true hf) ?_
                  walk_at "go"
                  rw [if_pos hf]
                  exact ⟨rfl, rfl⟩
                · refine ifF (decide_eq_false hf) ?_
                  rw [if_neg hf]
                  exact ⟨rfl, rfl⟩
              rintro σ' H'2 ⟨rfl, rfl⟩
              walk_at "go"
              refine ⟨_, _, rfl, ⟨sz6 hl, rfl⟩, ?_⟩
              walk_at "go"
              refine ⟨by omega, by rw [tx_len]; omega, ?_⟩
              rw [show (((tx l).length : Nat) : Int).toNat = l.length from Int.toNat_natCast _]
              have hlawW := lawWord_word (r := l.drop (n + 1)) ha
              rw [← hd] at hlawW
              generalize hsg : lawSigns l[n] = sg at hlawW ⊢
              have hle := runLen_le sg (l.drop (n + 1))
              rw [List.length_drop] at hle
              generalize hu : runLen sg (l.drop (n + 1)) = u at hlawW hle
              refine for_range (fun j σ' H'3 => ∃ x11, σ' = stT l w0 mk n (some (.int ((0 : Int) + (i : Int)))) (some (.str ⟨#[l[n]]⟩)) (some (.int (((n + 1 + min j u : Nat)) : Int))) (some (.str (tx sg))) x11 x12 x13 x14 x15 ∧ H'3 = H'2) ⟨_, rfl, rfl⟩ ?_ ?_
              · rintro j σ' H'3 hj ⟨y11, rfl, rfl⟩
                walk_at "go"
                refine ⟨_, _, rfl, ⟨sz6 hl, rfl⟩, ?_⟩
                walk_at "go"
                by_cases hju : j < u
                · have hin2 : n + 1 + j < l.length := by omega
                  refine ifT (decide_eq_true (by rw [tx_len, Nat.min_eq_left (by omega)]; omega)) ?_
                  walk_at "go"
                  refine .inr (.inr ⟨_, _, l[n + 1 + j], rfl, rfl, sz6 hl, atI_nat (by rw [Nat.min_eq_left (by omega)]; exact List.getElem?_eq_getElem hin2), ?_⟩)
                  walk_at "go"
                  have hmem : l[n + 1 + j] ∈ sg := by
                    obtain ⟨h2, h3⟩ := run_in (p := sg) (l := l.drop (n + 1)) (e := j) (by omega)
                    rw [List.getElem_drop] at h3
                    exact h3
                  refine ifT (decide_eq_true hmem) ?_
                  walk_at "go"
                  refine ⟨some (.int ((0 : Int) + (j : Int))), ?_, rfl⟩
                  rw [Nat.min_eq_left (by omega), Nat.min_eq_left (by omega)]
                  rfl
                · have e5 : min j u = u := Nat.min_eq_right (by omega)
                  have e6 : min (j + 1) u = u := Nat.min_eq_right (by omega)
                  by_cases hend : n + 1 + u < l.length
                  · refine ifT (decide_eq_true (by rw [tx_len, e5]; omega)) ?_
                    walk_at "go"
                    refine .inr (.inr ⟨_, _, l[n + 1 + u], rfl, rfl, sz6 hl, atI_nat (by rw [e5]; exact List.getElem?_eq_getElem hend), ?_⟩)
                    walk_at "go"
                    have hmem : l[n + 1 + u] ∉ sg := by
                      have h3 := run_stop (p := sg) (l.drop (n + 1)) (by rw [List.length_drop]; omega)
                      rw [List.getElem_drop] at h3
                      simp only [hu] at h3
                      exact h3
                    refine ifF (decide_eq_false hmem) ?_
                    exact ⟨_, by rw [e5, e6]; rfl, rfl⟩
                  · refine ifF (decide_eq_false (by rw [tx_len, e5]; omega)) ?_
                    refine ifF rfl ?_
                    exact ⟨_, by rw [e5, e6]; rfl, rfl⟩
              rintro σ' H'3 ⟨y11, rfl, rfl⟩
              rw [Nat.min_eq_right (show u ≤ l.length by omega), show n + 1 + u = n + (u + 1) by omega]
              generalize hm : u + 1 = m at hlawW
              walk_at "go"
              refine .inl ⟨_, rfl, sz6 hl, ?_⟩
              have ecut := cut_tx (l := l) (n := n) (m := n + m) (by omega)
              rw [show n + m - n = m by omega] at ecut
              rw [ecut]
              generalize hw2 : (l.drop n).take m = W at hlawW
              have hWl : W.length = m := by rw [← hw2, List.length_take, List.length_drop]; omega
              walk_at "go"
              refine ⟨tup_sz (by simp), fun pS hpS => ?_⟩
              walk_at "go"
              refine .inr ⟨_, rfl, ?_⟩
              walk_at "go"
              refine .inr ⟨_, rfl, ?_⟩
              walk_at "go"
              refine ⟨.inl ⟨by decide, by decide⟩, ?_⟩
              walk_at "go"
              refine .inl ⟨pS, _, _, .str (tx (lawSort l[n])), rfl, rfl, .inl (.inl upd_same), ?_, ?_⟩
              · show atI _ ((if decide (l[n] ∈ upS) = true then (1 : Int) else 0) + 2 * (if decide (l[n] ∈ figS) = true then (1 : Int) else 0)) = _
                by_cases hf : l[n] ∈ figS
                · have hnu : l[n] ∉ upS := fun z => up_not_fig _ z hf
                  rw [decide_eq_true hf, decide_eq_false hnu, show lawSort l[n] = sNumber from if_pos hf]
                  kernel_rfl
                · by_cases hu2 : l[n] ∈ upS
                  · rw [decide_eq_false hf, decide_eq_true hu2, show lawSort l[n] = sMaker from (if_neg hf).trans (if_pos hu2)]
                    kernel_rfl
                  · rw [decide_eq_false hf, decide_eq_false hu2, show lawSort l[n] = sName from (if_neg hf).trans (if_neg hu2)]
                    kernel_rfl
              walk_at "go"
              refine ⟨fun σ' H'4 => σ' = stT l w0 mk n (some (.int ((0 : Int) + (i : Int)))) (some (.str ⟨#[l[n]]⟩)) (some (.int ((n + m : Nat) : Int))) (some (.str (tx sg))) y11 (some (.str (tx W))) (some (.str (tx (if W ∈ keysL then sKey else lawSort l[n])))) x14 x15 ∧ Le H'3 H'4, ?_, ?_⟩
              · walk_at "go"
                refine ⟨rfl, fun pK hpK => ?_⟩
                refine .inr ⟨_, _, rfl, .inl (.inl (.inl upd_same)), rfl, flat_tx _, ?_⟩
                walk_at "go"
                rw [show (if false = true then !inV (.str (tx W)) keysV else inV (.str (tx W)) keysV) = decide (W ∈ keysL) from inV_tx _ _]
                have hLe2 := (Le.new (o := .lst [V.str (Str.ofString "name"), V.str (Str.ofString "maker"), V.str (Str.ofString "number")]) hpS).trans (Le.new (o := .lst keysV) hpK)
                by_cases hk : W ∈ keysL
                · refine ifT (decide_eq_true hk) ?_
                  walk_at "go"
                  rw [if_pos hk, show Str.ofString "key" = tx sKey by decide +kernel]
                  exact ⟨rfl, hLe2⟩
                · refine ifF (decide_eq_false hk) ?_
                  rw [if_neg hk]
                  exact ⟨rfl, hLe2⟩
              rintro σ' H'4 ⟨rfl, hLe4⟩
              generalize (if W ∈ keysL then sKey else lawSort l[n]) = S at hlawW ⊢
              have I4 := I.grow hLe4
              have hLe3 := I.le
              walk_at "go"
              have hmn : m ≤ l.length := by omega
              have hm0 : 0 < m := by omega
              refine ⟨_, _, rfl, ⟨by rw [tx_len, sizeLine_eq]; omega, rfl⟩, ?_⟩
              walk_at "go"
              by_cases h12 : m > 12
              · refine ifT (decide_eq_true (by rw [tx_len, hWl]; omega)) ?_
                walk_at "go"
                refine ⟨tup_sz (by simp), fun p hp => kbad ?_ _ (hLe3.trans hLe4) p hp⟩
                rw [hlawW]
                exact if_pos (.inl h12)
              refine ifF (decide_eq_false (by rw [tx_len, hWl]; omega)) ?_
              walk_at "go"
              refine .inl ⟨rfl, ?_⟩
              walk_at "go"
              rw [show Str.ofString "number" = tx sNumber by decide +kernel, dec_tx]
              by_cases hS : S = sNumber
              · refine ifT (decide_eq_true hS) ?_
                walk_at "go"
                obtain ⟨c0, W', rfl⟩ : ∃ c0 W', W = c0 :: W' := by
                  cases W with
                  | nil => simp at hWl; omega
                  | cons c0 W' => exact ⟨c0, W', rfl⟩
                refine .inr (.inr ⟨_, _, c0, rfl, rfl, by rw [tx_len, sizeLine_eq]; omega, atI_nat (j := 0) rfl, ?_⟩)
                walk_at "go"
                refine .inl ⟨rfl, ?_⟩
                walk_at "go"
                rw [show Str.ofString "0" = tx [48] by decide +kernel, show (⟨#[c0]⟩ : Str) = tx [c0] from rfl, dec_tx]
                by_cases h48 : c0 = 48
                · refine ifT (decide_eq_true (by rw [h48])) ?_
                  walk_at "go"
                  refine .inl ⟨rfl, ?_⟩
                  walk_at "go"
                  rw [dec_tx]
                  by_cases h0 : c0 :: W' = [48]
                  · refine ifF (by rw [decide_eq_true h0]; rfl) ?_
                    have hno : ¬ ((c0 :: W').head? = some 48 ∧ c0 :: W' ≠ [48]) := fun z => z.2 h0
                    walk_at "go"
                    refine .inl ⟨_, rfl, sz6 hl, ?_⟩
                    walk_at "go"
                    refine .inr (.inl ⟨_, _, rfl, rfl, by decide +kernel, ?_⟩)
                    walk_at "go"
                    refine .inr (.inl ⟨_, _, rfl, rfl, by decide +kernel, ?_⟩)
                    walk_at "go"
                    refine .inl ⟨_, rfl, by decide +kernel, fun pL hpL => ?_⟩
                    have hLL := Le.new (o := .lst (chV ((tx lowS ++ tx upS) ++ Str.ofString "_"))) hpL
                    refine .inr ⟨_, _, rfl, .inl (.inl (.inl upd_same)), rfl, flat_ch _, ?_⟩
                    walk_at "go"
                    have ecut2 : cutS (tx l) (some ((n + m : Nat) : Int)) (some (((n + m : Nat) : Int) + 1)) = tx ((l.drop (n + m)).take 1) := by
                      have z := cut_tx (l := l) (n := n + m) (m := n + m + 1) (by omega)
                      rw [show n + m + 1 - (n + m) = 1 by omega] at z
                      exact z
                    rw [ecut2, show (if false = true then !inV (.str (tx ((l.drop (n + m)).take 1))) (chV ((tx lowS ++ tx upS) ++ Str.ofString "_")) else inV (.str (tx ((l.drop (n + m)).take 1))) (chV ((tx lowS ++ tx upS) ++ Str.ofString "_"))) = decide ((l.drop (n + m)).take 1 ∈ alphaS.map fun c => [c]) by
                      rw [show chV ((tx lowS ++ tx upS) ++ Str.ofString "_") = (alphaS.map fun c => [c]).map fun l => V.str (tx l) by kernel_rfl]
                      exact inV_tx _ _]
                    by_cases hD : (l.drop (n + m)).take 1 ∈ alphaS.map fun c => [c]
                    · refine ifT (decide_eq_true hD) ?_
                      walk_at "go"
                      refine ⟨tup_sz (by simp), fun p hp => kbad ?_ _ ((hLe3.trans hLe4).trans hLL) p hp⟩
                      rw [hlawW]
                      refine if_pos (.inr ⟨hS, .inr ?_⟩)
                      have z := (one_in (L := l) (m := n + m)).mp hD
                      rw [← List.getElem?_drop] at z
                      exact z
                    · refine ifF (decide_eq_false hD) ?_
                      refine ⟨S, m, _, _, _, _, _, ?_, rfl, I4.grow hLL⟩
                      rw [hlawW]
                      refine if_neg ?_
                      rintro (z | ⟨_, z | z⟩)
                      · exact h12 z
                      · exact hno z
                      · rw [List.getElem?_drop] at z
                        exact hD ((one_in (L := l) (m := n + m)).mpr z)
                  · refine ifT (by rw [decide_eq_false h0]; rfl) ?_
                    walk_at "go"
                    refine ⟨tup_sz (by simp), fun p hp => kbad ?_ _ (hLe3.trans hLe4) p hp⟩
                    rw [hlawW]
                    exact if_pos (.inr ⟨hS, .inl ⟨by rw [h48]; rfl, h0⟩⟩)
                · refine ifF (decide_eq_false (fun z => h48 (List.cons.inj z).1)) ?_
                  have hno : ¬ ((c0 :: W').head? = some 48 ∧ c0 :: W' ≠ [48]) := fun z => h48 (Option.some.inj z.1)
                  walk_at "go"
                  refine .inl ⟨_, rfl, sz6 hl, ?_⟩
                  walk_at "go"
                  refine .inr (.inl ⟨_, _, rfl, rfl, by decide +kernel, ?_⟩)
                  walk_at "go"
                  refine .inr (.inl ⟨_, _, rfl, rfl, by decide +kernel, ?_⟩)
                  walk_at "go"
                  refine .inl ⟨_, rfl, by decide +kernel, fun pL hpL => ?_⟩
                  have hLL := Le.new (o := .lst (chV ((tx lowS ++ tx upS) ++ Str.ofString "_"))) hpL
                  refine .inr ⟨_, _, rfl, .inl (.inl (.inl upd_same)), rfl, flat_ch _, ?_⟩
                  walk_at "go"
                  have ecut2 : cutS (tx l) (some ((n + m : Nat) : Int)) (some (((n + m : Nat) : Int) + 1)) = tx ((l.drop (n + m)).take 1) := by
                    have z := cut_tx (l := l) (n := n + m) (m := n + m + 1) (by omega)
                    rw [show n + m + 1 - (n + m) = 1 by omega] at z
                    exact z
                  rw [ecut2, show (if false = true then !inV (.str (tx ((l.drop (n + m)).take 1))) (chV ((tx lowS ++ tx upS) ++ Str.ofString "_")) else inV (.str (tx ((l.drop (n + m)).take 1))) (chV ((tx lowS ++ tx upS) ++ Str.ofString "_"))) = decide ((l.drop (n + m)).take 1 ∈ alphaS.map fun c => [c]) by
                    rw [show chV ((tx lowS ++ tx upS) ++ Str.ofString "_") = (alphaS.map fun c => [c]).map fun l => V.str (tx l) by kernel_rfl]
                    exact inV_tx _ _]
                  by_cases hD : (l.drop (n + m)).take 1 ∈ alphaS.map fun c => [c]
                  · refine ifT (decide_eq_true hD) ?_
                    walk_at "go"
                    refine ⟨tup_sz (by simp), fun p hp => kbad ?_ _ ((hLe3.trans hLe4).trans hLL) p hp⟩
                    rw [hlawW]
                    refine if_pos (.inr ⟨hS, .inr ?_⟩)
                    have z := (one_in (L := l) (m := n + m)).mp hD
                    rw [← List.getElem?_drop] at z
                    exact z
                  · refine ifF (decide_eq_false hD) ?_
                    refine ⟨S, m, _, _, _, _, _, ?_, rfl, I4.grow hLL⟩
                    rw [hlawW]
                    refine if_neg ?_
                    rintro (z | ⟨_, z | z⟩)
                    · exact h12 z
                    · exact hno z
                    · rw [List.getElem?_drop] at z
                      exact hD ((one_in (L := l) (m := n + m)).mpr z)
              · refine ifF (decide_eq_false hS) ?_
                walk_at "go"
                refine ⟨S, m, _, _, _, _, _, ?_, rfl, I4⟩
                rw [hlawW]
                refine if_neg ?_
                rintro (z | ⟨z, _⟩)
                · exact h12 z
                · exact hS z
            · refine ifF (decide_eq_false ha) ?_
              walk_at "go"
              have hlawM := lawWord_mark (r := l.drop (n + 1)) ha
              rw [← hd] at hlawM
              refine lc_sq (K := K) (xs := marksV) (.inl (.inl (.inl I.mks))) (fun i acc _ => acc = ((marksL.take i).filter fun m => decide ((l.drop n).take m.length = m)).map fun l => V.str (tx l)) (fun D hD => rfl) ?_ ?_
              · rintro D k x acc H3 hD hk hL eD rfl
                obtain ⟨mk2, hmk2, rfl⟩ := map_get hk
                have len2 : ∀ m ∈ marksL, m.length ≤ 2 := by decide +kernel
                have hlen := len2 mk2 (List.mem_of_getElem? hmk2)
                have zl : (tx mk2).length ≤ sizeLine := by rw [tx_len, sizeLine_eq]; omega
                have hklt := (List.getElem?_eq_some_iff.mp hmk2).1
                have hacc : (((marksL.take k).filter fun m => decide ((l.drop n).take m.length = m)).map fun l => V.str (tx l)).length ≤ 14 := by
                  rw [List.length_map]
                  have h2 := List.length_filter_le (fun m => decide ((l.drop n).take m.length = m)) (marksL.take k)
                  rw [List.length_take] at h2
                  have h3 : marksL.length = 14 := rfl
                  omega
                have etk : marksL.take (k + 1) = marksL.take k ++ [mk2] := by
                  rw [List.take_add_one, hmk2]; rfl
                refine ⟨rfl, ?_⟩
                walk_at "go"
                refine ⟨_, _, rfl, ⟨zl, rfl⟩, ?_⟩
                walk_at "go"
                refine .inl ⟨_, rfl, sz6 hl, ?_⟩
                walk_at "go"
                refine .inl ⟨rfl, ?_⟩
                walk_at "go"
                have ecut : cutS (tx l) (some (n : Int)) (some ((n : Int) + ((tx mk2).length : Int))) = tx ((l.drop n).take mk2.length) := by
                  have z := cut_tx (l := l) (n := n) (m := n + mk2.length) (by omega)
                  rw [show n + mk2.length - n = mk2.length by omega] at z
                  exact z
                rw [ecut, dec_tx]
                by_cases hq : (l.drop n).take mk2.length = mk2
                · refine ifT (decide_eq_true hq) ?_
                  walk_at "go"
                  refine LcP.put hD hL eD (by rw [sizeLine_eq]; omega) ?_
                  show _ = _
                  rw [etk, List.filter_append, List.filter_cons_of_pos (by simpa using hq)]
                  simp
                · refine ifF (decide_eq_false hq) ?_
                  refine ⟨_, hL, eD, ?_⟩
                  show _ = _
                  rw [etk, List.filter_append, List.filter_cons_of_neg (by simpa using hq)]
                  simp
              · rintro D acc H3 hD hL eD rfl
                have elen : marksV.length = marksL.length := by unfold marksV; rw [List.length_map]
                rw [elen, List.take_length] at eD
                have hfm : ∀ m ∈ marksL.filter (fun m => decide ((l.drop n).take m.length = m)), m ∈ marksL := fun m hm => (List.mem_filter.mp hm).1
                have hfl := List.length_filter_le (fun m => decide ((l.drop n).take m.length = m)) marksL
                rw [show marksL.length = 14 from rfl] at hfl
                generalize marksL.filter (fun m => decide ((l.drop n).take m.length = m)) = fits at hlawM eD hfm hfl
                have I3 := I.grow hL
                walk_at "go"
                refine ⟨tup_sz (by simp), fun pE hpE => ?_⟩
                have hE := Le.new (o := .lst []) hpE
                have hokm : ∀ m ∈ marksL, PyData.strOk (tx m) = true := by decide +kernel
                refine .inr ⟨.list (fits.map fun l => .str (tx l)), .list [], .lst (.inl (.inl (hE.lst eD))) (dps_txs _), .lst (.inl (.inl upd_same)) .nil, shaped_txs _ (fun m hm => hokm m (hfm m hm)), by decide, ?_⟩
                walk_at "go"
                cases fits with
                | nil =>
                  refine ifT (by decide) ?_
                  walk_at "go"
                  exact ⟨tup_sz (by simp), fun p hp => kbad hlawM _ ((I.le.trans hL).trans hE) p hp⟩
                | cons f0 fr =>
                  refine ifF (by rfl) ?_
                  walk_at "go"
                  have I5 := I3.grow hE
                  refine lc_sq (K := K) (xs := (f0 :: fr).map fun l => V.str (tx l)) (.inl (.inl (.inl (hE.lst eD)))) (fun k acc _ => acc = (((f0 :: fr).take k).map fun l => (l.length : Int)).map V.int) (fun D hD => rfl) ?_ ?_
                  · rintro D2 k x acc H4 hD2 hk hL4 eD2 rfl
                    obtain ⟨mk2, hmk2, rfl⟩ := map_get hk
                    have len2 : ∀ m ∈ marksL, m.length ≤ 2 := by decide +kernel
                    have hlen := len2 mk2 (hfm mk2 (List.mem_of_getElem? hmk2))
                    have zl : (tx mk2).length ≤ sizeLine := by rw [tx_len, sizeLine_eq]; omega
                    have hklt := (List.getElem?_eq_some_iff.mp hmk2).1
                    have etk : (f0 :: fr).take (k + 1) = (f0 :: fr).take k ++ [mk2] := by
                      rw [List.take_add_one, hmk2]; rfl
                    refine ⟨rfl, ?_⟩
                    walk_at "go"
                    refine ⟨_, _, rfl, ⟨zl, rfl⟩, ?_⟩
                    refine LcP.put hD2 hL4 eD2 (by rw [sizeLine_eq, List.length_map, List.length_map, List.length_take]; omega) ?_
                    show _ = _
                    rw [etk]
                    simp [tx_len]
                  · rintro D2 acc H4 hD2 hL4 eD2 rfl
                    have I6 := I5.grow hL4
                    rw [List.length_map, List.take_length] at eD2
                    walk_at "go"
                    refine ⟨D2, _, rfl, .inl (.inl eD2), by simp, fun M hM1 hM2 => ?_⟩
                    have hM : M = (((fr.map List.length).foldl max f0.length : Nat) : Int) := max_is hM1 hM2
                    subst hM
                    walk_at "go"
                    exact ⟨sMark, _, _, _, _, _, _, hlawM, rfl, I6⟩
          · rintro σ' H'' ⟨S, m, y10, y11, y12, y14, y15, hlaw, rfl, I2⟩
            have hwd : wordAt (l.drop n) = some (S, m) := by rw [← hlw]; exact hlaw
            have hmp := wordAt_pos hwd
            rw [List.length_drop] at hmp
            walk_at "go"
            refine ⟨.inl ⟨rfl, _, .inl (.inl I2.w)⟩, ?_⟩
            walk_at "go"
            refine .inl ⟨_, rfl, sz6 hl, ?_⟩
            have ecut := cut_tx (l := l) (n := n) (m := n + m) (by omega)
            rw [show n + m - n = m by omega] at ecut
            rw [ecut]
            walk_at "go"
            refine ⟨tup_sz (by simp), fun pr hpr => ?_⟩
            walk_at "go"
            have I3 := I2.grow (Le.new (o := .tup (rowV ⟨S, (l.drop n).take m, n, n + m⟩)) hpr)
            have hlen := I2.t.length
            rw [List.length_map] at hlen
            have hr := I2.r
            have hnl := I2.nl
            refine ⟨w0, vs, _, rfl, rfl, I3.w, by rw [sizeLine_eq]; omega, ?_⟩
            have e2 : upd H'' pr (.tup (rowV ⟨S, (l.drop n).take m, n, n + m⟩)) pr = some (.tup (rowV ⟨S, (l.drop n).take m, n, n + m⟩)) := upd_same
            walk_at "go"
            refine ⟨n + m, rows ++ [⟨S, (l.drop n).take m, n, n + m⟩], vs ++ [.ref pr], _, _, _, _, _, _, _, _, _, rfl, ⟨I3.le.mut hw, upd_same, ?_, ?_, ?_, by omega, ?_⟩, by omega⟩
            · rw [upd_ne hwm]; exact I3.mks
            · rw [List.map_append]
              exact (I3.t.snoc e2).mut I3.w
            · rw [List.length_append, List.length_singleton]; omega
            · rw [I2.rd, hd, rd_word hb (by rw [← hd]; exact hwd), ← hd, List.drop_drop]
    · rintro σ' H' ⟨n, rows, vs, x7, x8, x9, x10, x11, x12, x13, x14, x15, rfl, I, hin⟩
      have := I.nl
      omega
end
end K11
set_option Elab.async false
set_option linter.all false
set_option maxRecDepth 100000
set_option maxHeartbeats 4000000
namespace K11
open PySem PySem.Spec PyProof.Rows L2 Zl
local macro_rules | `(tactic| walk_at "go") => `(tactic| repeat (first | refine ⟨_, rfl, ?_⟩ | refine ⟨_, _, rfl, rfl, ?_⟩ | refine .inl ⟨_, _, rfl, rfl, ?_⟩))
local macro_rules | `(tactic| walk_at "isi") => `(tactic| first
  | refine isi_of (b := true) (.base (.int _)) (by decide +kernel) ?_ | refine isi_of (b := false) (.base (.int _)) (by decide +kernel) ?_
  | refine isi_of (b := true) (.base (.str _)) (by decide +kernel) ?_ | refine isi_of (b := false) (.base (.str _)) (by decide +kernel) ?_
  | refine isi_of (b := true) (ty_st (by assumption)) (by decide +kernel) ?_ | refine isi_of (b := false) (ty_st (by assumption)) (by decide +kernel) ?_
  | refine isi_of (b := true) (ty_sl (by assumption)) (by decide +kernel) ?_ | refine isi_of (b := false) (ty_sl (by assumption)) (by decide +kernel) ?_)
theorem flat_one {α : Type} (n : Nat) (x : α) : (List.replicate n [x]).flatten = List.replicate n x := by
  induction n with
  | zero => rfl
  | succ n ih => rw [List.replicate_succ, List.flatten_cons, ih, List.replicate_succ]; rfl
theorem joinW_rep (w v : List Nat) : ∀ n, joinW (w :: List.replicate n v) = w ++ (List.replicate n (32 :: v)).flatten
  | 0 => by simp [joinW]
  | n + 1 => by
    rw [List.replicate_succ]
    show w ++ 32 :: joinW (v :: List.replicate n v) = _
    rw [joinW_rep v v n, List.replicate_succ, List.flatten_cons]
    simp
theorem fold_app (a : Array Nat) : ∀ (n : Nat) (acc : Array Nat), ((List.replicate n a).foldl (· ++ ·) acc).toList = acc.toList ++ (List.replicate n a.toList).flatten
  | 0, acc => by simp
  | n + 1, acc => by
    rw [List.replicate_succ, List.foldl_cons, fold_app a n, List.replicate_succ, List.flatten_cons, Array.toList_append, List.append_assoc]
theorem mul_tx (l : List Nat) (n : Nat) (h : 2 ≤ n) : Txt.mul (tx l) (n : Int) = tx (List.replicate n l).flatten := by
  unfold Txt.mul
  rw [if_neg (by omega)]
  by_cases hl : l = []
  · subst hl
    rw [if_pos (by simp [tx_len])]
    congr 1
    induction n with
    | zero => rfl
    | succ n ih => simp
  · have h1 : ((n : Int) == 1) = false := beq_eq_false_iff_ne.mpr (by omega)
    have h2 : ((tx l).length == 0) = false := by
      rw [tx_len]
      exact beq_eq_false_iff_ne.mpr (fun z => hl (List.length_eq_zero_iff.mp z))
    rw [h1, h2, if_neg (by decide), Int.toNat_natCast]
    have e := fold_app (tx l).cps n #[]
    rw [tx_list] at e
    show (⟨_⟩ : Str) = ⟨_⟩
    congr 1
    apply Array.ext'
    rw [e]
    rfl
theorem rep_len (l : List Nat) : ∀ n, (List.replicate n l).flatten.length = n * l.length
  | 0 => by simp
  | n + 1 => by rw [List.replicate_succ, List.flatten_cons, List.length_append, rep_len l n, Nat.succ_mul]; omega
theorem rep_all {P : Nat → Bool} {l : List Nat} (h : l.all P = true) : ∀ n, (List.replicate n l).flatten.all P = true
  | 0 => rfl
  | n + 1 => by rw [List.replicate_succ, List.flatten_cons, List.all_append, h, rep_all h n]; rfl
theorem rd_rep : ∀ (n a : Nat) (rows : List Row), ∃ R : List Row, R.length = n ∧ rd (List.replicate n [120, 32]).flatten a rows = .ok (rows ++ R)
  | 0, a, rows => ⟨[], rfl, by simp [rd_nil]⟩
  | n + 1, a, rows => by
    rw [List.replicate_succ, List.flatten_cons]
    show ∃ R : List Row, R.length = n + 1 ∧ rd (120 :: (32 :: (List.replicate n [120, 32]).flatten)) a rows = .ok (rows ++ R)
    have hw : wordAt (120 :: (32 :: (List.replicate n [120, 32]).flatten)) = some (sName, 1) := wordAt_append (w := [120]) (k := sName) (by decide +kernel)
    rw [rd_word (by decide) hw]
    show ∃ R : List Row, R.length = n + 1 ∧ rd (32 :: (List.replicate n [120, 32]).flatten) (a + 1) _ = .ok (rows ++ R)
    rw [rd_blank (by decide)]
    obtain ⟨R, hR, e⟩ := rd_rep n (a + 1 + 1) (rows ++ [⟨sName, (120 :: (32 :: (List.replicate n [120, 32]).flatten)).take 1, a, a + 1⟩])
    rw [e]
    exact ⟨⟨sName, (120 :: (32 :: (List.replicate n [120, 32]).flatten)).take 1, a, a + 1⟩ :: R, by rw [List.length_cons, hR], by rw [List.append_assoc]; rfl⟩
end K11
set_option Elab.async false
set_option linter.all false
set_option maxRecDepth 100000
set_option maxHeartbeats 4000000
/-! Generator expressions, any element: all(..), tuple(..). Each next of the generator runs in a context of its own (gcx). -/
namespace GX
open PySem PySem.Spec PyProof.Rows L2 Zl
open Sem (wp)

/-- the context of a generator expression's frame; sm: the state where it was made, fp: its iterator's records -/
def gcx (X : Cx) (A1 : Around) (sm : Shared) (Hm : Hp) (ev : Env) (fp : List Addr) : Cx :=
  { X with A := A1, s_0 := sm, H_0 := Hm, env := ev, outer := X.stack, stack := ev :: X.stack, ex := fp, fn := fun _ => false, xe := fun _ _ => False }

section
variable {X : Cx} {pins : List (Addr × Obj)} {σ : L2.St} {H : Hp} {s : Shared}
/-- the frame at its beginning -/
theorem gen_start {A1 : Around} {scope : Scope} {own : List (Str × Nat)} {fp : List Addr} {ev : Env} {h5 : Heap} {g5 : Array GenState} {t5 : Nat} {m0 : Str → Option Value} (I : Inv X pins σ H s) (ok : BlkOk X.N X.env.scope scope own) (hN : X.N.Nodup)
    (nocell : ∀ y ∈ scope.names, y.2 ≠ .cell) (hfp : ∀ b ∈ fp, FpOk X pins H b ∧ b < s.heap.objs.size) (hsc : ev.scope = scope) (hcl : ev.cells = cloFrom X.env.cells scope.names []) (hgl : ev.globals = X.env.globals) (hbi : ev.builtins = X.env.builtins)
    (hL : ev.locals = s.heap.objs.size) (hfrm : ev.frame = some s.heap.objs.size) (hfr : A1.frames = some (ev :: X.stack)) (hhd : X.calm = true → A1.handled = none) (kp : ∀ b o, s.heap.get? b = some o → h5.get? b = some o)
    (hns : h5.Ns s.heap.objs.size m0) (hg5 : AllBare g5) :
    Inv (gcx X A1 s H ev fp) [] (wipe σ (own.map (·.2))) H { s with heap := h5, gens := g5, toks := t5 } := by
  have capt : ∀ y ∈ scope.names, y.2 = .free → ∃ c, X.env.cells.lookup y.1 = some c := fun y hy e => by
    rcases ok.free y hy e with k | k
    · exact I.ok.has _ (.inl k)
    · exact I.ok.has _ (.inr k)
  have cm : ∀ {y c}, ev.cells.lookup y = some c → X.env.cells.lookup y = some c ∧ c < s.heap.objs.size := fun {y c} e => by
    rw [hcl] at e
    rcases cloFrom_mem (PySem.mem_of_lookup e) with hm | ⟨h1, rfl⟩
    · cases hm
    · obtain ⟨c, hc⟩ := capt _ h1 rfl
      rw [hc]
      obtain ⟨u, z⟩ := I.cell _ _ hc
      exact ⟨rfl, z.lt⟩
  have look : ∀ {y}, scope.names.lookup y = some .free → ∃ c, ev.cells.lookup y = some c ∧ X.env.cells.lookup y = some c := fun {y} hl => by
    have hy : (y, NameKind.free) ∈ scope.names := PySem.mem_of_lookup hl
    obtain ⟨c', e'⟩ := mem_lookup (cloFrom_has (cells := X.env.cells) (acc := []) hy)
    rw [← hcl] at e'
    exact ⟨c', e', (cm e').1⟩
  have kindE : ∀ y, ev.kindOf y = scope.names.lookup y := fun y => by unfold Env.kindOf; rw [hsc]
  have okG : (gcx X A1 s H ev fp).Ok := by
    refine ⟨I.ok.mod, by show ev.scope.kind = _; rw [hsc]; exact ok.kind, by show ev.globals = _; rw [hgl]; exact I.ok.glob, by show ev.builtins = _; rw [hbi]; exact I.ok.blt, by show _ ≤ ev.locals; rw [hL]; exact Nat.le_refl _,
      fun y z c e1 e2 => I.ok.inj y z c (cm e1).1 (cm e2).1, fun y hy => ?_, fun y c z => (Bool.noConfusion (show false = true from z)), hhd, hfr, .inr ⟨rfl, by show ev.frame = some ev.locals; rw [hL]; exact hfrm⟩, fun b hb => ⟨?_, fun y c e z => ?_⟩, I.bs, Nat.le_trans I.ok.bsz I.sz,
      fun b o e hb => ?_, fun b hb z => ?_, I.stack, I.stkFree⟩
    · show ∃ c, ev.cells.lookup y = some c
      have hy' : ev.kindOf y = some .cell ∨ ev.kindOf y = some .free := hy
      rw [kindE] at hy'
      rcases hy' with hy' | hy'
      · exact absurd rfl (nocell _ (PySem.mem_of_lookup hy'))
      · obtain ⟨c, h1, _⟩ := look hy'
        exact ⟨c, h1⟩
    · show b ≠ ev.locals
      rw [hL]; exact Nat.ne_of_lt (hfp b hb).2
    · exact (hfp b hb).1.2.2.2.2.1 y c (cm e).1 z
    · rcases (hfp b hb).1.2.2.2.1 with z | z
      · exact I.ok.noex b o e z
      · exact absurd (Nat.lt_of_lt_of_le (Heap.lt_size e) (Nat.le_trans I.ok.bsz z)) (Nat.lt_irrefl _)
    · rcases List.mem_cons.mp (I.stkSub b z) with z | z
      · exact (hfp b hb).1.2.1 z
      · exact (hfp b hb).1.2.2.1 z
  refine ⟨okG, rfl, hg5, Un.kept kp, ⟨m0, by show Heap.Ns _ ev.locals _; rw [hL]; exact hns, fun i y av e1 e2 e3 => ?_⟩, fun y c e => ?_, ?_, fun y c e => ?_, fun p hp => ?_, I.hok.kept kp, by rw [wipe_length]; exact I.len⟩
  · obtain ⟨e2, hne⟩ := wipe_some e2
    have e3' : scope.names.lookup y = some .local ∨ scope.names.lookup y = some .cell ∨ scope.names.lookup y = some .free := by rw [← hsc]; exact e3
    have notOwn : ∀ k, scope.names.lookup y = some k → k = .local ∨ k = .cell → False := fun k e hh => by
      rcases ok.own _ (PySem.mem_of_lookup e) hh with e' | e'
      · obtain ⟨p, hp, hpy⟩ := List.mem_map.mp e'
        have e4 := ok.ix p hp
        have : p.1 = y := hpy
        rw [this] at e4
        exact hne (List.mem_map.mpr ⟨p, hp, nodup_ix hN e4 e1⟩)
      · exact e' (List.mem_of_getElem? e1)
    have hfree : scope.names.lookup y = some .free := by
      rcases e3' with z | z | z
      · exact (notOwn _ z (.inl rfl)).elim
      · exact (notOwn _ z (.inr rfl)).elim
      · exact z
    obtain ⟨m, hn, hl⟩ := I.loc
    have hvis : Vis X.env.scope y := (ok.free _ (PySem.mem_of_lookup hfree) rfl).elim (fun k => .inr (.inl k)) (fun k => .inr (.inr k))
    obtain ⟨u, r, q⟩ := hl i y av e1 e2 hvis
    refine ⟨u, r, .inr ⟨.inr (by show ev.kindOf y = _; rw [kindE]; exact hfree), ?_⟩⟩
    obtain ⟨c, h1, h2⟩ := look hfree
    rcases q with ⟨k, _⟩ | ⟨_, c', e', z⟩
    · have k : X.env.scope.names.lookup y = some .local := k
      rcases ok.free _ (PySem.mem_of_lookup hfree) rfl with k' | k' <;> rw [show X.env.scope.names.lookup y = _ from k'] at k <;> cases k
    · rw [h2] at e'; cases e'
      exact ⟨c, h1, z.keeps kp⟩
  · obtain ⟨u, z⟩ := I.cell y c (cm e).1
    exact ⟨u, z.keeps kp⟩
  · show H ev.locals = none
    rw [hL]; exact I.hok.fresh (Nat.le_refl _)
  · exact I.freeC y c (cm e).1
  · rw [List.append_nil] at hp
    obtain ⟨p1, p2, p3, p4, p5⟩ := I.pin p (List.mem_append_left _ hp)
    refine ⟨kp _ _ p1, p2, by show p.1 ≠ ev.locals; rw [hL]; exact Nat.ne_of_lt (Heap.lt_size p1), fun z => ?_, p5⟩
    rcases List.mem_cons.mp (I.stkSub p.1 z) with z | z
    · exact p3 z
    · exact p4 z
/-- back at the caller: what the frame did there -/
theorem gen_back {A1 : Around} {fp : List Addr} {ev : Env} {gp : List (Addr × Obj)} {σ' : L2.St} {H' : Hp} {s' : Shared} (I : Inv X pins σ H s) (hfp : ∀ b ∈ fp, FpOk X pins H b) (G : Inv (gcx X A1 s H ev fp) gp σ' H' s') : Inv X pins σ H' s' :=
  I.call' G.os G.base G.hok G.bare fun b hb => ⟨(hfp b hb).2.2.2.1, (hfp b hb).2.1, (hfp b hb).2.2.2.2.1, (hfp b hb).2.2.2.2.2⟩
end

/-! ### the frame's turns -/
/-- the reading: W what holds ahead of turn i (at most N turns), Z what is wanted of the i-th thing handed out, St what is wanted at the end -/
def GRead (J : It) (N : Nat) (g : TG) (tt : TT) (te : TE) (vs : List Nat) (σ : L2.St) (W : Nat → Hp → Prop) (Z : Nat → V → Hp → Prop) (St : Hp → Prop) : Prop :=
  ∀ i H, W i H → (J.stop i H ∧ St H) ∨ (J.go i H ∧ i < N ∧ ∀ x H', J.yld i H x H' → g x (wipe σ vs) H' fun σ2 H2 => wipe σ2 vs = wipe σ vs ∧ tt σ2 H2 fun b H3 => if b = true then te σ2 H3 fun y H4 => Z i y H4 else W (i + 1) H3)
/-- at rest between two turns -/
def GAt (X : Cx) (gp : List (Addr × Obj)) (fp : List Addr) (tn : Nat → Heap → Prop) (vs : List Nat) (σ : L2.St) (i : Nat) (H : Hp) (s : Shared) : Prop :=
  Inv X gp (wipe σ vs) H s ∧ tn i s.heap ∧ ∀ b ∈ fp, H b = none
def GEndR (X : Cx) (gp : List (Addr × Obj)) (vs : List Nat) (σ : L2.St) (St : Hp → Prop) : GenEnd := fun _ _ r s1 => r = .ok .next ∧ ∃ H, Inv X gp (wipe σ vs) H s1 ∧ St H
def GYld (X : Cx) (gp : List (Addr × Obj)) (fp : List Addr) (tn : Nat → Heap → Prop) (vs : List Nat) (σ : L2.St) (W : Nat → Hp → Prop) (Z : Nat → V → Hp → Prop) (N : Nat) : Protocol := fun m _ v s1 kap =>
  ∃ i H y, GAt X gp fp tn vs σ (i + 1) H s1 ∧ RelV y v ∧ Z i y H ∧ i < N ∧ N ≤ m + (i + 1) ∧ ∀ s2 H2, GAt X gp fp tn vs σ (i + 1) H2 s2 → W (i + 1) H2 → kap (.send .none) s2
section
variable {X : Cx}
/-- an iterator's turns in the context X -/
structure ItR (X : Cx) (tg : Expr) (J : It) (fp : List Addr) (it : Addr) (tn : Nat → Heap → Prop) : Prop where
  obj : ∀ i h, tn i h → ∀ b ∈ fp, ∃ o, h.get? b = some o ∧ ∀ v, o.data ≠ .cell v
  keep : ∀ i h h', tn i h → (∀ b ∈ fp, ∀ o, h.get? b = some o → h'.get? b = some o) → tn i h'
  item : ∀ (i : Nat) (pins : List (Addr × Obj)) (s : Shared) (σ : L2.St) (H : Hp) (E : Value → Shared → Prop), Inv X pins σ H s → (∀ b ∈ fp, FpOk X pins H b) → tn i s.heap → J.go i H →
    wpAny (model X.prog X.w) X.A (pyNext (.ref it)) (fun r s1 => ∃ u, r = some u ∧
      wpAny (model X.prog X.w) X.A (letOwnedTupleGo tg (.ref it) u) (fun _ s2 => ∃ x H', Inv X pins σ H' s2 ∧ RelV x u ∧ J.yld i H x H' ∧ tn (i + 1) s2.heap ∧ ∀ b ∈ fp, H' b = none) E s1) E s
  done : ∀ (i : Nat) (pins : List (Addr × Obj)) (s : Shared) (σ : L2.St) (H : Hp) (E : Value → Shared → Prop), Inv X pins σ H s → (∀ b ∈ fp, FpOk X pins H b) → tn i s.heap → J.stop i H →
    wpAny (model X.prog X.w) X.A (pyNext (.ref it)) (fun r s1 => r = none ∧ Inv X pins σ H s1) E s
  self : ∀ (A : Around) (i : Nat) (s : Shared) (Q : Value → Shared → Prop) (E : Value → Shared → Prop), tn i s.heap → Q (.ref it) s → wpAny (model X.prog X.w) A (pyIter (.ref it)) Q E s
theorem itR_of {tg : Expr} {J : It} {fp : List Addr} {it : Addr} {tn : Nat → Heap → Prop} (T : Turn X.prog X.w X.K tg J fp it tn) (hc : X.calm = true) : ItR X tg J fp it tn :=
  ⟨T.obj, T.keep, fun i pins s σ H E I f st go => T.item X rfl rfl rfl hc i pins s σ H E I f st go, fun i pins s σ H E I f st go => T.done X rfl rfl rfl hc i pins s σ H E I f st go, T.self⟩
theorem seg_gen {A2 : Around} {tg iter elt : Expr} {ifs : List Expr} {scope : Scope} {pos : Pos} {ev : Env} {J : It} {fp : List Addr} {it : Addr} {tn : Nat → Heap → Prop} {N : Nat} {g : TG} {tt : TT} {te : TE} {vs : List Nat} {σ : L2.St} {W : Nat → Hp → Prop} {Z : Nat → V → Hp → Prop}
    {St : Hp → Prop} {gp : List (Addr × Obj)} (hev : X.env = ev) (hA : A2.over (.compLoop (.GeneratorExp elt [⟨tg, iter, ifs, 0⟩] scope pos) 0 (.ref it) .none ev) [] = X.A) (T : ItR X tg J fp it tn) (hco : ev.scope.isCoroutine = false)
    (stat : ∀ (H : Hp), (∀ b ∈ fp, H b = none) → ∀ b ∈ fp, FpOk X gp H b) (pg : PG X tg g) (pt : PTs X ifs tt) (pe : PE X elt te) (hxe : X.xe = fun _ _ => False) (hR : GRead J N g tt te vs σ W Z St) :
    ∀ (k i n : Nat) (s₀ s : Shared) (H : Hp), N - i = k → N ≤ n + i → GAt X gp fp tn vs σ i H s → W i H →
      Seg (model X.prog X.w) A2 (GEndR X gp vs σ St) (GYld X gp fp tn vs σ W Z N) n s₀ (.compLoop (.GeneratorExp elt [⟨tg, iter, ifs, 0⟩] scope pos) 0 (.ref it) .none ev)
        ((model X.prog X.w).den (.compLoop (.GeneratorExp elt [⟨tg, iter, ifs, 0⟩] scope pos) 0 (.ref it) .none ev)) [] s := by
  subst hev
  intro k
  induction k with
  | zero =>
    intro i n s₀ s H hk hn ⟨I, st, nf⟩ hW
    rcases hR i H hW with ⟨stop, hSt⟩ | ⟨_, hlt, _⟩
    · show Seg _ A2 _ _ _ s₀ _ ((compTurn (.GeneratorExp elt [⟨tg, iter, ifs, 0⟩] scope pos) 0 (.ref it) .none X.env).onRaise (leaving X.env)) [] s
      rw [compTurn_gen, Sem.onRaise_eq_wrap]
      refine seg_bind_wrap (wpAny_standAt (seg_bind_wrap ?_))
      rw [hA]
      refine thnF (T.done i gp s _ H (fun _ _ => False) I (stat H nf) st stop) fun r s1 ⟨hr, I1⟩ => ?_
      subst hr
      exact seg_end (.ok .next) ⟨rfl, H, I1, hSt⟩
    · omega
  | succ k ih =>
    intro i n s₀ s H hk hn ⟨I, st, nf⟩ hW
    rcases hR i H hW with ⟨stop, hSt⟩ | ⟨go, hlt, step⟩
    · show Seg _ A2 _ _ _ s₀ _ ((compTurn (.GeneratorExp elt [⟨tg, iter, ifs, 0⟩] scope pos) 0 (.ref it) .none X.env).onRaise (leaving X.env)) [] s
      rw [compTurn_gen, Sem.onRaise_eq_wrap]
      refine seg_bind_wrap (wpAny_standAt (seg_bind_wrap ?_))
      rw [hA]
      refine thnF (T.done i gp s _ H (fun _ _ => False) I (stat H nf) st stop) fun r s1 ⟨hr, I1⟩ => ?_
      subst hr
      exact seg_end (.ok .next) ⟨rfl, H, I1, hSt⟩
    · show Seg _ A2 _ _ _ s₀ _ ((compTurn (.GeneratorExp elt [⟨tg, iter, ifs, 0⟩] scope pos) 0 (.ref it) .none X.env).onRaise (leaving X.env)) [] s
      rw [compTurn_gen, Sem.onRaise_eq_wrap]
      refine seg_bind_wrap (wpAny_standAt (seg_bind_wrap ?_))
      rw [hA]
      refine thnF (T.item i gp s _ H (fun _ _ => False) I (stat H nf) st go) fun r s1 ⟨u, hr, h1⟩ => ?_
      subst hr
      refine seg_bind_wrap ?_
      rw [hA]
      refine thnF h1 fun _ s2 ⟨x, H2, I2, r2, y2, st2, nf2⟩ => ?_
      have I2' := I2.pinned (stat H2 nf2) (T.obj _ _ st2)
      refine seg_bind_wrap ?_
      rw [hA]
      have pg2 := pg.run _ s2 _ H2 x u _ I2' r2 (step x H2 y2)
      rw [hxe] at pg2
      refine thnF pg2 fun _ s3 ⟨σ3, H3, I3, hw3, q3⟩ => ?_
      refine seg_bind_wrap ?_
      rw [hA]
      have pt3 := pt.run _ s3 σ3 H3 _ I3 q3
      rw [hxe] at pt3
      refine thnF pt3 fun b s4 ⟨H4, I4, q4⟩ => ?_
      have rest : ∀ {s' : Shared} {H' : Hp}, Inv X (gp ++ pinsAt fp s2.heap) σ3 H' s' → GAt X gp fp tn vs σ (i + 1) H' s' := fun {s' H'} I' => by
        have pin' : ∀ b ∈ fp, ∀ o, s2.heap.get? b = some o → s'.heap.get? b = some o ∧ H' b = none := fun b hb o e =>
          let z := I'.pin (b, o) (List.mem_append_right _ (List.mem_append_right _ (mem_pinsAt hb e)))
          ⟨z.1, z.2.1⟩
        have hl : (wipe σ vs).length = σ3.length := by rw [← hw3, wipe_length]
        refine ⟨I'.unpinned.weak hl (fun j v e => ?_), T.keep _ _ _ st2 fun b hb o e => (pin' b hb o e).1, fun b hb => ?_⟩
        · rw [← hw3] at e
          exact (wipe_some e).1
        · obtain ⟨o, e, _⟩ := T.obj _ _ st2 b hb
          exact (pin' b hb o e).2
      cases b with
      | false =>
        simp only [Bool.false_eq_true, if_false] at q4 ⊢
        exact seg_again rfl (ih (i + 1) n s₀ s4 H4 (by omega) (by omega) (rest I4) q4)
      | true =>
        simp only [if_true] at q4 ⊢
        have hy : ∀ v, yieldOut X.env v = yieldValue v := fun v => by simp only [yieldOut, hco, Bool.false_eq_true, if_false]
        simp only [hy]
        rw [Sem.bind_eq_wrap', Sem.bind_eq_wrap', Sem.wrap_wrap, Sem.wrap_wrap]
        refine seg_wrap ?_
        rw [hA]
        have pe4 := pe.run _ s4 σ3 H4 _ I4 q4
        rw [hxe] at pe4
        refine thnF pe4 fun v s5 ⟨y, H5, I5, r5, q5⟩ => ?_
        obtain ⟨n', rfl⟩ : ∃ n', n = n' + 1 := ⟨n - 1, by omega⟩
        refine seg_at (seg_yield rfl rfl rfl ⟨i, H5, y, rest I5, r5, q5, hlt, by omega, fun s6 H6 G6 W6 => ?_⟩)
        exact seg_again rfl (ih (i + 1) n' s6 s6 H6 (by omega) (by omega) G6 W6)
end

/-! ### a next of the generator -/
section
variable {M : Model}
/-- a resume, the generators' table told to be no shorter behind it -/
theorem resume_sz {A : Around} {R : GenEnd} {Y : Protocol} {n gi : Nat} {E : Value → Shared → Prop} {s : Shared} {st : GenState} {rs : Resume} {lv : List Value} {β : Type} {kont : GenResult → Sem β} {Q : β → Shared → Prop} (at_ : s.gens[gi]? = some st)
    (goes : st.Goes M A R Y n rs (s.setGen gi .running))
    (onEnd : ∀ x s1, s.gens.size ≤ s1.gens.size → R n (s.setGen gi .running) x s1 → wpAny M A (kont (End.ret x).result) Q E (s1.setGen gi .finished))
    (onYld : ∀ v s1 st', s.gens.size ≤ s1.gens.size → st'.bare = true → Y (n - 1) (s.setGen gi .running) v s1 (fun r' s2 => match n with | 0 => False | m + 1 => st'.Goes M A R Y m r' s2) → wpAny M A (kont (.yielded v)) Q E (s1.setGen gi st')) :
    wpAny M A (.resume gi rs lv kont) Q E s := by
  intro Γ p inA
  rw [Sem.wp_resume]
  have woken : ∀ c, (Γ.wake c p).Woken A := fun c => inA.wake c p
  have sz0 : (s.setGen gi .running).gens.size = s.gens.size := GenW.setGen_size s gi .running
  have behind : ∀ e1 s1, s.gens.size ≤ s1.gens.size → SegEnd R Y n (Seg.next M A R Y n) (s.setGen gi .running) e1 s1 →
      wp M Γ (kont e1.result) (fun b _ s' => Q b s') (fun e _ s' => E e s') p (s1.setGen gi e1.genState) := by
    intro e1 s1 hz he
    cases e1 with
    | ret x => exact onEnd x s1 hz he Γ p inA
    | susp v g0 l0 k0 c0 p0 fs0 =>
      refine onYld v s1 _ hz (End.bare_of_quiet he.1) ?_ Γ p inA
      cases n with
      | zero => exact he.2
      | succ m => exact he.2
  have still : ∀ e1 s1, SegEnd R Y n (Seg.next M A R Y n) (s.setGen gi .running) e1 s1 → e1.quiet = true := by
    intro e1 s1 he
    cases e1 with
    | ret x => rfl
    | susp v g0 l0 k0 c0 p0 fs0 => exact he.1
  cases st with
  | fresh c =>
    obtain ⟨rfl, hs⟩ := goes
    obtain ⟨e1, s1, hr, he⟩ := seg_iff.mp hs (Γ.wake c p) p rfl (woken c)
    exact ⟨_, _, by unfold Wakes; rw [at_]; exact ⟨e1, s1, hr, still e1 s1 he, rfl, rfl⟩, behind e1 s1 (by rw [← sz0]; exact GenW.runs_gsz hr) he⟩
  | suspended k0 l0 c0 p0 fs0 cl =>
    obtain ⟨e1, s1, hr, he⟩ := seg_iff.mp goes (Γ.wake c0 p) p0 rfl (woken c0)
    exact ⟨_, _, by unfold Wakes; rw [at_]; exact ⟨e1, s1, hr, still e1 s1 he, rfl, rfl⟩, behind e1 s1 (by rw [← sz0]; exact GenW.runs_gsz hr) he⟩
  | running => exact goes.elim
  | finished => exact goes.elim
end
section
variable {prog : Program} {w : World} {A : Around} {E : Value → Shared → Prop} {s : Shared}
/-- the end of the iteration is raised and caught: nothing is handled, or an exception is that bears no context -/
theorem next_gen {a : Addr} {gi n : Nat} {st : GenState} {F : Shared → Prop} {Y : Protocol} {Q : Option Value → Shared → Prop}
    (lim : s.heap.NoLimit) (room : A.depth < recursionLimit) (isg : s.heap.IsGen a gi) (at_ : s.gens[gi]? = some st)
    (goes : st.Goes (model prog w) A.in1 (fun _ _ r s1 => r = .ok .next ∧ F s1) Y n (.send .none) (s.setGen gi .running))
    (onYld : ∀ v s1 st', s.gens.size ≤ s1.gens.size → st'.bare = true → Y (n - 1) (s.setGen gi .running) v s1 (fun r' s2 => match n with
        | 0 => False
        | m + 1 => st'.Goes (model prog w) A.in1 (fun _ _ r s1 => r = .ok .next ∧ F s1) Y m r' s2) → Q (some v) (s1.setGen gi st'))
    (hot : ∀ s1, F s1 → A.handled = none ∨ ∃ x1, HotX.HotAt A x1 s1.heap)
    (onEnd : ∀ s1, F s1 → ∀ h', (∀ b o, s1.heap.get? b = some o → h'.get? b = some o) → Q none { s1.setGen gi .finished with heap := h' }) :
    wpAny (model prog w) A (pyNext (.ref a)) Q E s := by
  unfold pyNext
  refine wpAny_bind (wpAny_attempt (wpAny_callSpecial?_slot (name := Str.ofString "__next__") isg.typeIs slot_gen_next
    (wpAny_call_entry slot_gen_next isg.typeIs entry_gen_next ?_ (args_gen_next _))))
  show wpAny _ A.in1 (Builtin.Generator.genWake (.ref a) (.send .none)) _ _ s
  unfold Builtin.Generator.genWake
  refine wpAny_bind (wpAny_holding (wpAny_genNumber isg (wpAny_bind (wpAny_genState at_ ?_))))
  cases st with
  | running => exact goes.elim
  | finished => exact goes.elim
  | _ =>
    refine wpAny_bind (wpAny_roomToWake lim room ?_)
    show wpAny _ A.in1 (.resume gi (.send .none) [] _) _ _ s
    refine resume_sz at_ goes (fun x s1 hz hx => ?_) (fun v s1 st' hz hb hv => ?_)
    · obtain ⟨rfl, hp⟩ := hx
      show wpAny _ A.in1 (newExc (.type "StopIteration") [] >>= _) _ _ _
      refine wpAny_bind ?_
      simp only [newExc, newTuple]
      refine wpAny_bind (wpAny_newObj_type ?_ (by size_fits))
      refine wpAny_bind (m := firstArgMember _ _) (wpAny_of_eq (a := Value.none) (by first | rfl | (simp only [firstArgMember]; rfl)) ?_)
      refine wpAny_newObj_type ?_ (by size_fits)
      rcases hot s1 hp with cool | ⟨x1, hh, o1, vs1, h1, d1, c1⟩
      · simp only [raiseNew]
        refine wpAny_bind (wpAny_bind (wpAny_handled ?_))
        first | rw [show A.in1.handled = none from cool] | rw [cool]
        refine wpAny_throw ?_
        refine wpAny_bind (wpAny_isInstance (T := "StopIteration") (b := true) ⟨_, Heap.get?_push_size _ rfl, rfl⟩ isSubtype_stop ?_)
        exact wpAny_pure (onEnd s1 hp _ fun b o hb => Heap.get?_push_of_some _ (Heap.get?_push_of_some _ hb))
      · refine wpAny_bind (HotX.raiseNew_hot (x1 := x1) ⟨hh, o1, vs1, Heap.get?_push_of_some _ (Heap.get?_push_of_some _ h1), d1, c1⟩ (Nat.ne_of_lt (Heap.lt_size (Heap.get?_push_of_some _ h1))) (Heap.get?_push_size _ rfl) rfl (by first | (simp; done) | (simp; omega)) ?_)
        refine wpAny_bind (wpAny_isInstance (T := "StopIteration") (b := true) ⟨_, Heap.get?_update_self _ (Heap.get?_push_size _ rfl) rfl, rfl⟩ isSubtype_stop ?_)
        refine wpAny_pure (onEnd s1 hp _ fun b o hb => ?_)
        exact (Heap.get?_update_other _ _ (Nat.ne_of_gt (Heap.lt_size (Heap.get?_push_of_some _ hb)))).trans (Heap.get?_push_of_some _ (Heap.get?_push_of_some _ hb))
    · exact wpAny_pure ⟨v, rfl, wpAny_pure (onYld v s1 st' hz hb hv)⟩
end

section
variable {X : Cx} {pins : List (Addr × Obj)} {σ : L2.St} {H : Hp} {s : Shared}
theorem inv_gens {g' : Array GenState} (I : Inv X pins σ H s) (hg : AllBare g') : Inv X pins σ H { s with gens := g' } :=
  ⟨I.ok, I.os, hg, I.base, I.loc, I.cell, I.free, I.freeC, I.pin, I.hok, I.len⟩
theorem gat_gens {gp : List (Addr × Obj)} {fp : List Addr} {tn : Nat → Heap → Prop} {vs : List Nat} {i : Nat} {g' : Array GenState} (G : GAt X gp fp tn vs σ i H s) (hg : AllBare g') : GAt X gp fp tn vs σ i H { s with gens := g' } :=
  ⟨inv_gens G.1 hg, G.2.1, G.2.2⟩
/-- the generator's own record -/
def IsRec (oa : Obj) (gi : Nat) : Prop := ∃ nm qn, oa.cls = .type "generator" ∧ oa.data = .fields #[.int gi 0, nm, qn] ∧ oa.slots = #[]
/-- the generator that stands at a rests, ahead of turn i, at most n things are still handed out -/
def Sus (X : Cx) (A2 : Around) (a : Addr) (oa : Obj) (gi : Nat) (fp : List Addr) (tn : Nat → Heap → Prop) (vs : List Nat) (σ : L2.St) (W : Nat → Hp → Prop) (Z : Nat → V → Hp → Prop) (St : Hp → Prop) (N n : Nat) (i : Nat) (H : Hp) (s : Shared) : Prop :=
  GAt X [(a, oa)] fp tn vs σ i H s ∧ ∃ st, s.gens[gi]? = some st ∧ ∀ s2 H2, GAt X [(a, oa)] fp tn vs σ i H2 s2 → W i H2 →
    st.Goes (model X.prog X.w) A2 (GEndR X [(a, oa)] vs σ St) (GYld X [(a, oa)] fp tn vs σ W Z N) n (.send .none) s2
theorem rec_at {a : Addr} {oa : Obj} {gi : Nat} {vs : List Nat} {s1 : Shared} {H1 : Hp} (rc : IsRec oa gi) (I1 : Inv X [(a, oa)] (wipe σ vs) H1 s1) : s1.heap.IsGen a gi := by
  obtain ⟨nm, qn, c1, c2, c3⟩ := rc
  exact ⟨oa, nm, qn, (I1.pin (a, oa) (List.mem_append_right _ List.mem_cons_self)).1, c1, c2, c3⟩
theorem sus_next {A A2 : Around} {a : Addr} {oa : Obj} {gi : Nat} {fp : List Addr} {tn : Nat → Heap → Prop} {vs : List Nat} {W : Nat → Hp → Prop} {Z : Nat → V → Hp → Prop} {St : Hp → Prop} {N n i : Nat} {Q : Option Value → Shared → Prop} {E : Value → Shared → Prop}
    (S : Sus X A2 a oa gi fp tn vs σ W Z St N n i H s) (hA : A2 = A.in1) (hW : W i H) (rc : IsRec oa gi) (room : A.depth < recursionLimit)
    (hot : ∀ s1 H1, Inv X [(a, oa)] (wipe σ vs) H1 s1 → A.handled = none ∨ ∃ x1, HotX.HotAt A x1 s1.heap)
    (onYld : ∀ s1 j H1 y v, GAt X [(a, oa)] fp tn vs σ (j + 1) H1 s1 → (n = 0 → W (j + 1) H1 → False) → (∀ m, n = m + 1 → Sus X A2 a oa gi fp tn vs σ W Z St N m (j + 1) H1 s1) → RelV y v → Z j y H1 → Q (some v) s1)
    (onEnd : ∀ s1 H1, Inv X [(a, oa)] (wipe σ vs) H1 s1 → St H1 → Q none s1) :
    wpAny (model X.prog X.w) A (pyNext (.ref a)) Q E s := by
  subst hA
  obtain ⟨G, st, at_, goes⟩ := S
  have lt : gi < s.gens.size := by
    rcases Nat.lt_or_ge gi s.gens.size with h | h
    · exact h
    · rw [Array.getElem?_eq_none h] at at_; cases at_
  have G0 : GAt X [(a, oa)] fp tn vs σ i H (s.setGen gi .running) := gat_gens G (allBare_setGen G.1.bare rfl)
  refine next_gen (F := fun s1 => ∃ H1, Inv X [(a, oa)] (wipe σ vs) H1 s1 ∧ St H1) (Y := GYld X [(a, oa)] fp tn vs σ W Z N) (n := n) G.1.nolimit room (rec_at rc G.1) at_ (goes _ _ G0 hW) (fun v s1 st' hz hb hy => ?_) (fun s1 ⟨H1, I1, _⟩ => hot s1 H1 I1) (fun s1 ⟨H1, I1, q1⟩ h' hk => ?_)
  · obtain ⟨j, H1, y, G1, r1, z1, hj, hn1, kap⟩ := hy
    refine onYld _ j H1 y v (gat_gens G1 (allBare_setGen G1.1.bare hb)) (fun n0 w1 => ?_) (fun m hm => ?_) r1 z1
    · subst n0
      exact kap _ H1 G1 w1
    · subst hm
      exact ⟨gat_gens G1 (allBare_setGen G1.1.bare hb), st', setGen_at (Nat.lt_of_lt_of_le lt hz), fun s2 H2 G2 W2 => kap s2 H2 G2 W2⟩
  · refine onEnd _ H1 ?_ q1
    exact (inv_gens I1 (allBare_setGen I1.bare rfl)).kept (t' := s1.toks) hk
end

/-! ### the generator made -/
theorem over_loop0 {A : Around} {elt : Expr} {cs : List Comprehension} {scope : Scope} {pos : Pos} {it acc : Value} {ev : Env} : A.over (.compLoop (.GeneratorExp elt cs scope pos) 0 it acc ev) [] = A.deeper ev := by
  first
    | rfl
    | (obtain ⟨hd, d, fr, gs, u⟩ := A
       simp [Around.over, Around.deeper, marksOver, frameCount, unitsOf, envsOf, guardsOf, pushEnvs, pushGuards, Code.envs, Code.env?, Code.isFrame, Code.guards, Code.isGuard, Code.weight, Code.frames, Code.isCreation, Code.isCaller, Code.cUnits])
theorem over_start0 {A : Around} {elt : Expr} {cs : List Comprehension} {scope : Scope} {pos : Pos} {it acc : Value} {ev : Env} : A.over (.compStart (.GeneratorExp elt cs scope pos) 0 it acc ev) [] = A.deeper ev := by
  first
    | rfl
    | (obtain ⟨hd, d, fr, gs, u⟩ := A
       simp [Around.over, Around.deeper, marksOver, frameCount, unitsOf, envsOf, guardsOf, pushEnvs, pushGuards, Code.envs, Code.env?, Code.isFrame, Code.guards, Code.isGuard, Code.weight, Code.frames, Code.isCreation, Code.isCaller, Code.cUnits])
section
variable {X : Cx}
theorem seg_start {A2 : Around} {tg iter elt : Expr} {ifs : List Expr} {scope : Scope} {pos : Pos} {ev : Env} {J : It} {fp : List Addr} {it : Addr} {tn : Nat → Heap → Prop} {N : Nat} {g : TG} {tt : TT} {te : TE} {vs : List Nat} {σ : L2.St} {W : Nat → Hp → Prop} {Z : Nat → V → Hp → Prop}
    {St : Hp → Prop} {gp : List (Addr × Obj)} (hev : X.env = ev) (hA : A2.deeper ev = X.A) (T : ItR X tg J fp it tn) (hco : ev.scope.isCoroutine = false)
    (stat : ∀ (H : Hp), (∀ b ∈ fp, H b = none) → ∀ b ∈ fp, FpOk X gp H b) (pg : PG X tg g) (pt : PTs X ifs tt) (pe : PE X elt te) (hxe : X.xe = fun _ _ => False) (hR : GRead J N g tt te vs σ W Z St) (n : Nat) (s₀ s : Shared) (H : Hp) (hn : N ≤ n)
    (G : GAt X gp fp tn vs σ 0 H s) (hW : W 0 H) :
    Seg (model X.prog X.w) A2 (GEndR X gp vs σ St) (GYld X gp fp tn vs σ W Z N) n s₀ (.compStart (.GeneratorExp elt [⟨tg, iter, ifs, 0⟩] scope pos) 0 (.ref it) .none ev)
      ((model X.prog X.w).den (.compStart (.GeneratorExp elt [⟨tg, iter, ifs, 0⟩] scope pos) 0 (.ref it) .none ev)) [] s := by
  have loop := seg_gen (A2 := A2) (iter := iter) (scope := scope) (pos := pos) hev (over_loop0.trans hA) T hco stat pg pt pe hxe hR N 0 n s₀ s H rfl (by omega) G hW
  subst hev
  show Seg _ A2 _ _ _ s₀ _ ((compStart (.GeneratorExp elt [⟨tg, iter, ifs, 0⟩] scope pos) 0 (.ref it) .none X.env).onRaise (leaving X.env)) [] s
  unfold compStart
  rw [Sem.onRaise_eq_wrap]
  show Seg _ A2 _ _ _ s₀ _ ((ask >>= _).wrap _ _ _ _) [] s
  refine seg_bind_wrap (wpAny_askSetting ?_)
  split
  · exact seg_again rfl loop
  · first
      | exact seg_bind_wrap (wpAny_rule (seg_bind_wrap (wpAny_standAt (seg_bind_wrap (T.self _ 0 s _ _ G.2.1 (seg_again rfl loop))))))
      | (refine seg_bind_wrap (wpAny_rule ?_)
         show Seg _ A2 _ _ _ s₀ _ ((standAt iter.pos >>= _).wrap _ _ _ _) [] s
         exact seg_bind_wrap (wpAny_standAt (seg_bind_wrap (T.self _ 0 s _ _ G.2.1 (seg_again rfl loop)))))
end

/-- what stands behind the making: sm the state at the frame's making, s5 the state behind it -/
structure Made (TP : It → List Addr → Addr → (Nat → Heap → Prop) → Prop) (X : Cx) (pins : List (Addr × Obj)) (σ : L2.St) (tg elt iter : Expr) (ifs : List Expr) (scope : Scope) (gpos : Pos) (own : List (Str × Nat)) (J : It) (H2 : Hp) (it : Addr) (fp : List Addr) (tn : Nat → Heap → Prop) (sm : Shared) (ev : Env) (a : Addr) (oa : Obj) (gi : Nat) (s5 : Shared) : Prop where
  inv : Inv X pins σ H2 sm
  turn : TP J fp it tn
  fpo : ∀ b ∈ fp, FpOk X pins H2 b ∧ b < sm.heap.objs.size
  evI : ∃ cd, ev = genEnv scope (cloFrom X.env.cells scope.names []) sm.heap.objs.size cd X.env.builtins X.env
  fresh : s5.gens[gi]? = some (.fresh (.compStart (.GeneratorExp elt [⟨tg, iter, ifs, 0⟩] scope gpos) 0 (.ref it) .none ev))
  rc : IsRec oa gi
  young : sm.heap.objs.size ≤ a
  rest : ∀ A1 : Around, A1.frames = some (ev :: X.stack) → (X.calm = true → A1.handled = none) → GAt (gcx X A1 sm H2 ev fp) [(a, oa)] fp tn (own.map (·.2)) σ 0 H2 s5
section
variable {X : Cx} {pins : List (Addr × Obj)} {σ : L2.St} {H : Hp} {s : Shared}
theorem mk_gen {TP : It → List Addr → Addr → (Nat → Heap → Prop) → Prop} {c P : Addr} {elt iter tg : Expr} {ifs : List Expr} {scope : Scope} {own : List (Str × Nat)} {gpos : Pos} {wi : TI} {Q' : Value → Shared → Prop} {R : It → Hp → Prop} (room : X.A.depth < recursionLimit) (TB : GxR.TabB X.base X.mg c P) (hcode : X.env.code = .ref c)
    (co : scope.isCoroutine = false) (nocell : ∀ y ∈ scope.names, y.2 ≠ .cell) (dot : scope.names.lookup (".0" : Str) = some NameKind.local) (ok : BlkOk X.N X.env.scope scope own) (hN : X.N.Nodup) (hs : ∀ v, genFold iter X.env v = pure v)
    (tob : ∀ J fp it tn, TP J fp it tn → (∀ i h, tn i h → ∀ b ∈ fp, ∃ o, h.get? b = some o ∧ ∀ v, o.data ≠ .cell v) ∧ (∀ i h h', tn i h → (∀ b ∈ fp, ∀ o, h.get? b = some o → h'.get? b = some o) → tn i h'))
    (hi : ∀ R : It → Hp → Prop, wi σ H R → wpAny (model X.prog X.w) X.A (eval iter X.env) (fun v s1 => wpAny (model X.prog X.w) X.A (pyIter v) (fun itv s2 => ∃ (it : Addr) (fp : List Addr) (tn : Nat → Heap → Prop) (J : It) (H' : Hp), itv = .ref it ∧ Inv X pins σ H' s2 ∧ TP J fp it tn ∧ tn 0 s2.heap ∧ (∀ b ∈ fp, FpOk X pins H' b) ∧ R J H') X.xe s1) X.xe s)
    (I : Inv X pins σ H s) (h : wi σ H fun J H1 => GxR.TabG H1 P ∧ R J H1)
    (hQ : ∀ J H1 H2 it fp tn sm ev a oa gi s5, R J H1 → GxR.Tabbed P H1 H2 → Made TP X pins σ tg elt iter ifs scope gpos own J H2 it fp tn sm ev a oa gi s5 → Q' (.ref a) s5) :
    wpAny (model X.prog X.w) X.A (eval (.GeneratorExp elt [⟨tg, iter, ifs, 0⟩] scope gpos) X.env) Q' X.xe s := by
  have capt : ∀ y ∈ scope.names, y.2 = .free → ∃ c, X.env.cells.lookup y.1 = some c := fun y hy e => by
    rcases ok.free y hy e with k | k
    · exact I.ok.has _ (.inl k)
    · exact I.ok.has _ (.inr k)
  refine wpAny_GeneratorExp_make co (closure_ok capt) nocell dot ok.kind room ?_ hs
  refine thn (hi _ h) fun xv s1 hx => thn hx fun itv s2 h2 => ?_
  obtain ⟨it, fp, tn, J, H1, e, I1, T, st1, f1, ⟨ps, hP, ht⟩, q1⟩ := h2
  subst e
  have hPs : s2.heap.get? P = some { cls := .none, data := .fields ps } := I1.hok P _ hP
  have hPlt : P < s2.heap.objs.size := Heap.lt_size hPs
  have cd0 : PySem.W.CodeHd s2.heap c P := TB.code.keeps fun b u e => I1.bk b u e
  have fin : ∀ (code : Value) (h3 : Heap) (tk : Nat) (ps' : Array Value), Heap.ExtBut P s2.heap h3 → s2.heap.objs.size ≤ h3.objs.size → h3.get? P = some { cls := .none, data := .fields ps' } → (∃ more, ps' = ps ++ more) → TriplesOk ps'.toList →
      wpAny (model X.prog X.w) X.A (builtinsFor X.env.globals X.env.builtins) (fun bi s4 => ∀ h', h'.Ns s4.heap.objs.size (fun y => if y = ".0" then some (.ref it) else none) → Heap.SameBut s4.heap.objs.size (s4.heap.push { cls := .type "frame", data := .dict #[] }) h' →
        Q' (.ref h'.objs.size) { s4 with
          gens := s4.gens.push (.fresh (.compStart (.GeneratorExp elt [⟨tg, iter, ifs, 0⟩] scope gpos) 0 (.ref it) .none (genEnv scope (cloFrom X.env.cells scope.names []) s4.heap.objs.size code bi X.env))),
          toks := s4.toks + 1 + 1 + 1,
          heap := h'.push { cls := .type "generator", data := .fields #[.int s4.gens.size 0, .str "<genexpr>" (s4.toks + 1), .str (X.env.qual ++ "<genexpr>") (s4.toks + 1 + 1)] } }) X.xe { s2 with heap := h3, toks := tk } := by
    intro code h3 tk ps' hx hsz hP3 hmore ht3
    obtain ⟨bm, ob, e1, e2, e3, e4, e5, e6, e7, e8⟩ := TB.bm
    have keep3 : ∀ b u, b ≠ P → s2.heap.get? b = some u → h3.get? b = some u := fun b u hb e => hx b u hb e
    refine wpAny_builtinsFor (m := X.mg) (by rw [I1.ok.glob]; exact (I1.mod.glob.keeps I1.bk).extBut hx TB.gP) e1 e2 (keep3 _ _ e4 (I1.bk _ _ e5)) e6 e7 e8 ?_
    obtain ⟨more, em⟩ := hmore
    have J3 : Inv X pins σ (upd H1 P (.tbl (ps ++ more))) { s2 with heap := h3, gens := s2.gens, drawn := s2.drawn, toks := tk } := GxR.inv_tab I1 hP (fun b u hb e => keep3 b u hb e) (by rw [← em]; exact hP3) I1.bare
    have J4 : Inv X pins σ (upd H1 P (.tbl (ps ++ more))) { s2 with heap := h3, toks := tk } := J3
    intro h' hn' hs'
    have szh : h'.objs.size = h3.objs.size + 1 := by rw [hs'.1]; exact Heap.size_push ..
    have keepP : ∀ b o, h3.get? b = some o → h'.get? b = some o := fun b o e => hs'.extBut b o (Nat.ne_of_lt (Heap.lt_size e)) (Heap.get?_push_of_some _ e)
    have nP : ∀ b, H1 b = none → upd H1 P (.tbl (ps ++ more)) b = none := fun b n => by
      rw [upd_ne (fun z => by rw [z, hP] at n; cases n)]
      exact n
    have szs : ∀ b ∈ fp, b < s2.heap.objs.size := fun b hb => by
      obtain ⟨o, e, _⟩ := (tob _ _ _ _ T).1 _ _ st1 b hb
      exact Heap.lt_size e
    have fpP : ∀ b ∈ fp, b ≠ P := fun b hb z => by
      have := (f1 b hb).1
      rw [z, hP] at this
      cases this
    have fpo : ∀ b ∈ fp, FpOk X pins (upd H1 P (.tbl (ps ++ more))) b ∧ b < h3.objs.size := fun b hb => ⟨⟨nP b (f1 b hb).1, (f1 b hb).2⟩, Nat.lt_of_lt_of_le (szs b hb) hsz⟩
    refine hQ J H1 (upd H1 P (.tbl (ps ++ more))) it fp tn { s2 with heap := h3, toks := tk } (genEnv scope (cloFrom X.env.cells scope.names []) h3.objs.size code builtinsNs X.env) h'.objs.size { cls := .type "generator", data := .fields #[.int s2.gens.size 0, .str "<genexpr>" (tk + 1), .str (X.env.qual ++ "<genexpr>") (tk + 1 + 1)] } s2.gens.size _ q1
      ⟨⟨ps ++ more, upd_same, by rw [← em]; exact ht3⟩, fun b hb => upd_ne hb⟩ ⟨J4, T, fpo, ⟨code, by rw [I1.ok.blt]⟩, Array.getElem?_push_size .., ⟨_, _, rfl, rfl, rfl⟩, (show h3.objs.size ≤ h'.objs.size by omega), fun A1 hfr hhd => ?_⟩
    have kp5 : ∀ b o, h3.get? b = some o → (h'.push { cls := .type "generator", data := .fields #[.int s2.gens.size 0, .str "<genexpr>" (tk + 1), .str (X.env.qual ++ "<genexpr>") (tk + 1 + 1)] }).get? b = some o := fun b o e => Heap.get?_push_of_some _ (keepP b o e)
    have G0 := gen_start (A1 := A1) (ev := genEnv scope (cloFrom X.env.cells scope.names []) h3.objs.size code builtinsNs X.env) (g5 := s2.gens.push (.fresh (.compStart (.GeneratorExp elt [⟨tg, iter, ifs, 0⟩] scope gpos) 0 (.ref it) .none (genEnv scope (cloFrom X.env.cells scope.names []) h3.objs.size code builtinsNs X.env)))) (t5 := tk + 1 + 1 + 1)
      J4 ok hN nocell fpo rfl rfl rfl I1.ok.blt.symm rfl rfl hfr hhd kp5 (hn'.push _) (I1.bare.push rfl)
    refine ⟨G0.pins_of fun p hp => ?_, (tob _ _ _ _ T).2 _ _ _ st1 fun b hb o e => kp5 b o (keep3 b o (fpP b hb) e), fun b hb => (fpo b hb).1.1⟩
    have ep : p = (h'.objs.size, { cls := .type "generator", data := .fields #[.int s2.gens.size 0, .str "<genexpr>" (tk + 1), .str (X.env.qual ++ "<genexpr>") (tk + 1 + 1)] }) := by simpa using hp
    subst ep
    refine ⟨Heap.get?_push_size _ rfl, J4.hok.fresh (show h3.objs.size ≤ h'.objs.size by omega), ?_, fun z => ?_, fun v z => by cases z⟩
    · show h'.objs.size ≠ h3.objs.size
      omega
    · obtain ⟨_, o, ho, _⟩ := J4.stack.mem z
      have hlt := Heap.lt_size ho
      have hlt' : h'.objs.size < h3.objs.size := hlt
      omega
  refine ⟨I1.nolimit, ?_⟩
  cases hf : codeAmong gpos ps.toList with
  | none =>
    refine wpAny_genexprCodeX hcode (cd0.code hPs ht) (cd0.tab hPs) hf fun c' h' tk hx hge hlt hco' _ htab' _ => ?_
    obtain ⟨o1, vs, f1', tf, fl, tg', inF, tx', tt', op, _, _, _, _, _, _, _, _, _, htr, _⟩ := hco'
    exact fin _ h' tk _ hx (Nat.le_trans hge (Nat.le_of_lt hlt)) htab'.2 ⟨_, rfl⟩ htr
  | some cv =>
    refine wpAny_genexprCode_hit hcode (cd0.code hPs ht) hf ?_
    exact fin cv s2.heap s2.toks ps (Heap.ExtBut.refl _ _) (Nat.le_refl _) hPs ⟨#[], by simp⟩ ht
end

/-! ### all(..) -/
section
variable {X : Cx} {σ : L2.St} {a : Addr} {oa : Obj} {gi : Nat} {fp : List Addr} {tn : Nat → Heap → Prop} {vs : List Nat} {W : Nat → Hp → Prop} {St : Hp → Prop} {N : Nat}
theorem all_loop {A : Around} {No : Hp → Prop} {R : Result → Shared → Prop} (rc : IsRec oa gi) (room : A.depth < recursionLimit) (hot : ∀ s1 H1, Inv X [(a, oa)] (wipe σ vs) H1 s1 → A.in1.handled = none ∨ ∃ x1, HotX.HotAt A.in1 x1 s1.heap)
    (yes : ∀ s1 H1, Inv X [(a, oa)] (wipe σ vs) H1 s1 → St H1 → R (.ok (.ret (.bool true))) s1) (no : ∀ s1 H1, Inv X [(a, oa)] (wipe σ vs) H1 s1 → No H1 → R (.ok (.ret (.bool false))) s1) :
    ∀ (n i : Nat) (H : Hp) (s : Shared), Sus X A.in1.in1 a oa gi fp tn vs σ W (fun j y H1 => ∃ b, y = .bl b ∧ if b = true then W (j + 1) H1 else No H1) St N n i H s → W i H → codeAny (model X.prog X.w) A (.builtin "all.loop" ⟨[.ref a], []⟩) R s := by
  intro n
  induction n with
  | zero =>
    intro i H s S hW
    refine codeAny_builtin F.entry_all_loop ?_
    rw [Around.under_plainId F.plain_all_loop _]
    show wpAny _ A.in1 (pyNext (.ref a) >>= _) _ _ s
    refine wpAny_bind (sus_next S rfl hW rc room hot (fun s1 j H1 y v G1 n0 _ r1 z1 => ?_) (fun s1 H1 I1 q1 => wpAny_bind (wpAny_rule (wpAny_pure (yes s1 H1 I1 q1)))))
    obtain ⟨b, rfl, z1⟩ := z1
    obtain rfl : v = Value.bool b := r1
    refine wpAny_bind (wpAny_holding (wpAny_truthy_bool ?_))
    refine wpAny_bind (wpAny_letGo ?_)
    cases b with
    | true => exact (n0 rfl z1).elim
    | false =>
      simp only [Bool.false_eq_true, if_false] at z1 ⊢
      exact wpAny_bind (wpAny_rule (wpAny_pure (no s1 H1 G1.1 z1)))
  | succ m ih =>
    intro i H s S hW
    refine codeAny_builtin F.entry_all_loop ?_
    rw [Around.under_plainId F.plain_all_loop _]
    show wpAny _ A.in1 (pyNext (.ref a) >>= _) _ _ s
    refine wpAny_bind (sus_next S rfl hW rc room hot (fun s1 j H1 y v G1 _ S1 r1 z1 => ?_) (fun s1 H1 I1 q1 => wpAny_bind (wpAny_rule (wpAny_pure (yes s1 H1 I1 q1)))))
    obtain ⟨b, rfl, z1⟩ := z1
    obtain rfl : v = Value.bool b := r1
    refine wpAny_bind (wpAny_holding (wpAny_truthy_bool ?_))
    refine wpAny_bind (wpAny_letGo ?_)
    cases b with
    | true =>
      simp only [if_true] at z1 ⊢
      exact wpAny_pure ⟨plainId_quiet F.plain_all_loop _, ih (j + 1) H1 s1 (S1 m rfl) z1⟩
    | false =>
      simp only [Bool.false_eq_true, if_false] at z1 ⊢
      exact wpAny_bind (wpAny_rule (wpAny_pure (no s1 H1 G1.1 z1)))
end

/-- the frame's names as they are built -/
abbrev gev (X : Cx) (scope : Scope) (C : Addr) (cd : Value) : Env := genEnv scope (cloFrom X.env.cells scope.names []) C cd X.env.builtins X.env
section
variable {X : Cx} {pins : List (Addr × Obj)} {σ : L2.St} {tg elt iter : Expr} {ifs : List Expr} {scope : Scope} {gpos : Pos} {own : List (Str × Nat)} {J : It} {H2 : Hp} {it : Addr} {fp : List Addr} {tn : Nat → Heap → Prop} {sm : Shared} {ev : Env} {a : Addr} {oa : Obj} {gi : Nat} {s5 : Shared}
/-- a generator just made rests -/
theorem made_sus {TP : It → List Addr → Addr → (Nat → Heap → Prop) → Prop} {A2 : Around} {N : Nat} {g : TG} {tt : TT} {te : TE} {W : Nat → Hp → Prop} {Z : Nat → V → Hp → Prop} {St : Hp → Prop} (M : Made TP X pins σ tg elt iter ifs scope gpos own J H2 it fp tn sm ev a oa gi s5) (co : scope.isCoroutine = false)
    (hfr : A2.frames = some X.stack) (hhd : X.calm = true → A2.handled = none) (T : ItR (gcx X (A2.deeper ev) sm H2 ev fp) tg J fp it tn)
    (pg : PG (gcx X (A2.deeper ev) sm H2 ev fp) tg g) (pt : PTs (gcx X (A2.deeper ev) sm H2 ev fp) ifs tt) (pe : PE (gcx X (A2.deeper ev) sm H2 ev fp) elt te) (hR : GRead J N g tt te (own.map (·.2)) σ W Z St) {s6 : Shared} {H6 : Hp}
    (hg6 : s6.gens[gi]? = some (.fresh (.compStart (.GeneratorExp elt [⟨tg, iter, ifs, 0⟩] scope gpos) 0 (.ref it) .none ev))) (G6 : GAt (gcx X (A2.deeper ev) sm H2 ev fp) [(a, oa)] fp tn (own.map (·.2)) σ 0 H6 s6) :
    Sus (gcx X (A2.deeper ev) sm H2 ev fp) A2 a oa gi fp tn (own.map (·.2)) σ W Z St N N 0 H6 s6 := by
  obtain ⟨cd, hev⟩ := M.evI
  refine ⟨G6, _, hg6, fun s7 H7 G7 W7 => ⟨rfl, ?_⟩⟩
  refine seg_start (X := gcx X (A2.deeper ev) sm H2 ev fp) rfl rfl T (by rw [hev]; exact co) (fun H' hn b hb => ?_) pg pt pe rfl hR N s7 s7 H7 (Nat.le_refl _) G7 W7
  have f := (M.fpo b hb).1
  refine ⟨hn b hb, (G6.1.ok.exf b hb).1, G6.1.ok.exfs b hb, .inl hb, fun x c e => (G6.1.ok.exf b hb).2 x c e, fun p hp z => ?_⟩
  rcases List.mem_append.mp hp with hp | hp
  · exact f.2.2.2.2.2 p (List.mem_append_left _ hp) z
  · have ep : p = (a, oa) := by simpa using hp
    subst ep
    have hlt := (M.fpo b hb).2
    have : a = b := z
    rw [← this] at hlt
    exact absurd (Nat.lt_of_lt_of_le hlt M.young) (Nat.lt_irrefl _)
end
/-- all(elt for tg in iter if ..) -/
def tAllG (P : Addr) (wi : TI) (g : TG) (tt : TT) (te : TE) (vs : List Nat) : TE := fun σ H Q => wi σ H fun J H1 => GxR.TabG H1 P ∧ ∃ (N : Nat) (W : Nat → Hp → Prop), (∀ H2, GxR.Tabbed P H1 H2 → W 0 H2) ∧
  GRead J N g tt te vs σ W (fun i y H' => ∃ b, y = .bl b ∧ if b = true then W (i + 1) H' else Q (.bl false) H') (fun H' => Q (.bl true) H')
section
variable {X : Cx} {k : Nat}
theorem room_gen {A : Around} {ev : Env} (hr : Room (k + 1) A) : Room k (A.in1.in1.deeper ev) := by
  have h1 := hr.dp
  have h2 := hr.un
  exact ⟨hr.hd, by show A.depth + 1 + 3 * k + 5 < _; omega, by show A.units + 1 + 1 + 3 + 16 * k + 200 < _; omega⟩
theorem pe_allG {c P : Addr} {elt iter tg : Expr} {ifs : List Expr} {scope : Scope} {own : List (Str × Nat)} {p pos gpos : Pos} {wi : TI} {g : TG} {tt : TT} {te : TE} (hr : Room (k + 1) X.A) (hc : X.calm = true) (hg : Gl X "all") (hm : X.mg "all" = none) (TB : GxR.TabB X.base X.mg c P) (hcode : X.env.code = .ref c)
    (co : scope.isCoroutine = false) (nocell : ∀ y ∈ scope.names, y.2 ≠ .cell) (dot : scope.names.lookup (".0" : Str) = some NameKind.local) (ok : BlkOk X.N X.env.scope scope own) (hN : X.N.Nodup) (hi : PI X tg iter wi)
    (pg : ∀ (A1 : Around) (sm : Shared) (Hm : Hp) (C : Addr) (cd : Value) (fp : List Addr), Room k A1 → PG (gcx X A1 sm Hm (gev X scope C cd) fp) tg g)
    (pt : ∀ (A1 : Around) (sm : Shared) (Hm : Hp) (C : Addr) (cd : Value) (fp : List Addr), Room k A1 → PTs (gcx X A1 sm Hm (gev X scope C cd) fp) ifs tt)
    (pe : ∀ (A1 : Around) (sm : Shared) (Hm : Hp) (C : Addr) (cd : Value) (fp : List Addr), Room k A1 → PE (gcx X A1 sm Hm (gev X scope C cd) fp) elt te)
    (hs : ∀ v, genFold iter X.env v = pure v)
    (he : starEach [.GeneratorExp elt [⟨tg, iter, ifs, 0⟩] scope gpos] X.env = (false, eval (.GeneratorExp elt [⟨tg, iter, ifs, 0⟩] scope gpos) X.env) :: starEach [] X.env := by rfl) :
    PE X (.Call (.Name "all" p) [.GeneratorExp elt [⟨tg, iter, ifs, 0⟩] scope gpos] [] pos) (tAllG P wi g tt te (own.map (·.2))) := by
  refine ⟨fun pins s σ H Q I h => ?_⟩
  refine wpAny_Call_Name_kw (ld_blt I hg hm bt_all ?_)
  refine PyProof.Rows.callWith_builtin1 ?_ he (by rfl)
  rw [he]
  show wpAny _ _ (spliced ((false, eval (.GeneratorExp elt [⟨tg, iter, ifs, 0⟩] scope gpos) X.env) :: backTo pos (starEach [] X.env))) _ _ s
  refine Calls.spliced_cons (mk_gen (TP := Turn X.prog X.w X.K tg) (R := fun J H1 => ∃ (N : Nat) (W : Nat → Hp → Prop), (∀ H2, GxR.Tabbed P H1 H2 → W 0 H2) ∧ GRead J N g tt te (own.map (·.2)) σ W (fun i y H' => ∃ b, y = .bl b ∧ if b = true then W (i + 1) H' else Q (.bl false) H') (fun H' => Q (.bl true) H'))
    (by have := hr.dp; omega) TB hcode co nocell dot ok hN hs (fun J fp it tn T => ⟨T.obj, T.keep⟩) (fun R hw => hi.run pins s σ H R I hw) I h fun J H1 H2 it fp tn sm ev a oa gi s5 hR hT M => ?_)
  obtain ⟨N, W, hW, hG⟩ := hR
  refine Calls.spliced_nil ?_
  obtain ⟨cd, hev⟩ := M.evI
  have hrA := room_gen (ev := ev) hr
  have hfr : X.A.in1.in1.frames = some X.stack := M.inv.ok.frames
  have G5 := M.rest (X.A.in1.in1.deeper ev) (by show X.A.frames.map _ = _; rw [M.inv.ok.frames]; rfl) (fun _ => hr.hd)
  have S5 := made_sus (A2 := X.A.in1.in1) M co hfr (fun _ => hr.hd) (itR_of M.turn hc) (by rw [hev] at hrA ⊢; exact pg _ _ _ _ _ _ hrA) (by rw [hev] at hrA ⊢; exact pt _ _ _ _ _ _ hrA) (by rw [hev] at hrA ⊢; exact pe _ _ _ _ _ _ hrA) hG M.fresh G5
  have back : ∀ s1 H1, Inv (gcx X (X.A.in1.in1.deeper ev) sm H2 ev fp) [(a, oa)] (wipe σ (own.map (·.2))) H1 s1 → Inv X pins σ H1 s1 := fun s1 H1 I1 => gen_back M.inv (fun b hb => (M.fpo b hb).1) I1
  refine call_function_tree F.kind_all F.plain_all F.entry_all (F.args_all1 _) ?_
  unfold Builtin.«all»
  refine wpAny_bind (m := oneArg "all" _) (wpAny_pure ?_)
  refine wpAny_bind (wpAny_pyIter_gen (rec_at M.rc G5.1) ?_)
  refine wpAny_pure ⟨plainId_quiet F.plain_all_loop _, all_loop (X := gcx X (X.A.in1.in1.deeper ev) sm H2 ev fp) (No := fun H' => Q (.bl false) H') (St := fun H' => Q (.bl true) H') (A := X.A) M.rc (by have := hr.dp; omega) (fun s1 H1 _ => .inl hr.hd)
    (fun s1 H1 I1 q1 => ?_) (fun s1 H1 I1 q1 => ?_) N 0 H2 s5 S5 (hW H2 hT)⟩
  · exact ⟨.bl true, H1, back s1 H1 I1, rfl, q1⟩
  · exact ⟨.bl false, H1, back s1 H1 I1, rfl, q1⟩
end
end GX
set_option Elab.async false
set_option linter.all false
set_option maxRecDepth 100000
set_option maxHeartbeats 4000000
/-! While an exception is handled: the ends of a text's and of a tuple's walk; all(..); defs. -/
namespace GX
open PySem PySem.Spec PyProof.Rows L2 Zl L2H
section
variable {prog : Program} {w : World} {A : Around} {E : Value → Shared → Prop} {s : Shared}
theorem ascii_end_hot {it x1 : Addr} {x : Str} {t : Tok} {i : Nat} {Q : Option Value → Shared → Prop} (hot : HotX.HotAt A x1 s.heap) (ne : x1 ≠ it) (hit : s.heap.IsStrIter it "str_ascii_iterator" x t i) (hx : x.cps[i]? = none)
    (fin : ∀ h', Heap.ExtBut it s.heap h' → Q none { s with heap := h' }) : wpAny (model prog w) A (pyNext (.ref it)) Q E s := by
  obtain ⟨o, ho, hc, hd⟩ := id hit
  obtain ⟨hh, o1, vs1, h1, d1, c1⟩ := hot
  unfold pyNext
  refine wpAny_bind (wpAny_attempt (wpAny_callSpecial?_slot (name := Str.ofString "__next__") hit.typeIs F.slot_str_ascii_iterator_next
    (wpAny_call_entry F.slot_str_ascii_iterator_next hit.typeIs F.entry_str_ascii_iterator_next ?_ (F.args_str_ascii_iterator_next_1 _))))
  show wpAny _ _ (field (.ref it) 0 >>= _) _ _ s
  refine wpAny_bind (wpAny_field ho hd (x := .str x t) rfl ?_)
  show wpAny _ _ (field (.ref it) 1 >>= _) _ _ s
  refine wpAny_bind (wpAny_field ho hd (x := .int i 0) rfl ?_)
  simp only [Int.toNat_natCast, hx]
  refine wpAny_bind (wpAny_rule (wpAny_bind (wpAny_setField ho hd (by simp) (wpAny_bind (wpAny_letGo ?_)))))
  show wpAny _ _ (newExc (.type "StopIteration") [] >>= _) _ _ _
  refine wpAny_bind ?_
  simp only [newExc, newTuple]
  refine wpAny_bind (wpAny_newObj_type ?_ (by size_fits))
  refine wpAny_bind (m := firstArgMember _ _) (wpAny_of_eq (a := Value.none) (by first | rfl | (simp only [firstArgMember]; rfl)) ?_)
  refine wpAny_newObj_type ?_ (by size_fits)
  have h1' : ∀ f : Obj → Obj, (s.heap.update it f).get? x1 = some o1 := fun f => (Heap.get?_update_other _ _ (Ne.symm ne)).trans h1
  refine HotX.raiseNew_hot (x1 := x1) ⟨hh, o1, vs1, Heap.get?_push_of_some _ (Heap.get?_push_of_some _ (h1' _)), d1, c1⟩ (Nat.ne_of_lt (Heap.lt_size (Heap.get?_push_of_some _ (h1' _)))) (Heap.get?_push_size _ rfl) rfl (by first | (simp; done) | (simp; omega)) ?_
  refine wpAny_bind (wpAny_isInstance (T := "StopIteration") (b := true) ⟨_, Heap.get?_update_self _ (Heap.get?_push_size _ rfl) rfl, rfl⟩ isSubtype_stop ?_)
  refine wpAny_pure (fin _ fun b ob hb e => ?_)
  have eb : ∀ f : Obj → Obj, (s.heap.update it f).get? b = some ob := fun f => (Heap.get?_update_other _ _ (Ne.symm hb)).trans e
  exact (Heap.get?_update_other _ _ (Nat.ne_of_gt (Heap.lt_size (Heap.get?_push_of_some _ (eb _))))).trans (Heap.get?_push_of_some _ (Heap.get?_push_of_some _ (eb _)))
theorem tuple_end_hot {it tu x1 : Addr} {i : Nat} {items} {Q : Option Value → Shared → Prop} (hot : HotX.HotAt A x1 s.heap) (ne : x1 ≠ it) (hit : s.heap.IsTupleIter it tu i) (ht : s.heap.IsTuple tu items) (hx : items[i]? = none)
    (fin : ∀ h', Heap.ExtBut it s.heap h' → Q none { s with heap := h' }) : wpAny (model prog w) A (pyNext (.ref it)) Q E s := by
  obtain ⟨o, ho, hc, hd⟩ := id hit
  obtain ⟨ol, hol, _, nl, hdl⟩ := ht
  obtain ⟨hh, o1, vs1, h1, d1, c1⟩ := hot
  unfold pyNext
  refine wpAny_bind (wpAny_attempt (wpAny_callSpecial?_slot (name := Str.ofString "__next__") hit.typeIs F.slot_tuple_iterator_next
    (wpAny_call_entry F.slot_tuple_iterator_next hit.typeIs F.entry_tuple_iterator_next ?_ (F.args_tuple_iterator_next_1 _))))
  show wpAny _ _ (field (.ref it) 0 >>= _) _ _ s
  refine wpAny_bind (wpAny_field ho hd (x := .ref tu) rfl ?_)
  show wpAny _ _ (if (Value.ref tu == Value.none) = true then _ else _) _ _ s
  rw [if_neg (show ¬ ((Value.ref tu == Value.none) = true) from Bool.false_ne_true)]
  show wpAny _ _ (field (.ref it) 1 >>= _) _ _ s
  refine wpAny_bind (wpAny_field ho hd (x := .int i 0) rfl ?_)
  show wpAny _ _ (seqItems? (.ref tu) >>= _) _ _ s
  refine wpAny_bind (wpAny_seqItems hol hdl ?_)
  simp only [Int.toNat_natCast, hx]
  refine wpAny_bind (wpAny_rule (wpAny_bind (wpAny_setField ho hd (by simp) ?_)))
  show wpAny _ _ (newExc (.type "StopIteration") [] >>= _) _ _ _
  refine wpAny_bind ?_
  simp only [newExc, newTuple]
  refine wpAny_bind (wpAny_newObj_type ?_ (by size_fits))
  refine wpAny_bind (m := firstArgMember _ _) (wpAny_of_eq (a := Value.none) (by first | rfl | (simp only [firstArgMember]; rfl)) ?_)
  refine wpAny_newObj_type ?_ (by size_fits)
  have h1' : ∀ f : Obj → Obj, (s.heap.update it f).get? x1 = some o1 := fun f => (Heap.get?_update_other _ _ (Ne.symm ne)).trans h1
  refine HotX.raiseNew_hot (x1 := x1) ⟨hh, o1, vs1, Heap.get?_push_of_some _ (Heap.get?_push_of_some _ (h1' _)), d1, c1⟩ (Nat.ne_of_lt (Heap.lt_size (Heap.get?_push_of_some _ (h1' _)))) (Heap.get?_push_size _ rfl) rfl (by first | (simp; done) | (simp; omega)) ?_
  refine wpAny_bind (wpAny_isInstance (T := "StopIteration") (b := true) ⟨_, Heap.get?_update_self _ (Heap.get?_push_size _ rfl) rfl, rfl⟩ isSubtype_stop ?_)
  refine wpAny_pure (fin _ fun b ob hb e => ?_)
  have eb : ∀ f : Obj → Obj, (s.heap.update it f).get? b = some ob := fun f => (Heap.get?_update_other _ _ (Ne.symm hb)).trans e
  exact (Heap.get?_update_other _ _ (Nat.ne_of_gt (Heap.lt_size (Heap.get?_push_of_some _ (eb _))))).trans (Heap.get?_push_of_some _ (Heap.get?_push_of_some _ (eb _)))
end

theorem HotC.far {X : Cx} {pins : List (Addr × Obj)} {σ : L2.St} {H : Hp} {s : Shared} {it : Addr} (c : HotC X) (I : Inv X pins σ H s) (f : ∀ p ∈ X.pn ++ pins, p.1 ≠ it) : ∃ x1, HotX.HotAt X.A x1 s.heap ∧ x1 ≠ it := by
  obtain ⟨p, ⟨hh, v1, e1, c1⟩, hp⟩ := c
  exact ⟨p.1, ⟨hh, p.2, v1, (I.pin p (List.mem_append_left _ hp)).1, e1, c1⟩, f p (List.mem_append_left _ hp)⟩
theorem turn_asciiH {P : Program} {w : World} {K : PySem.W.Frag} {tg : Expr} (it : Addr) (x : Str) (t : Tok) : TurnH P w K tg (Its x) [it] it (fun i h => h.IsStrIter it "str_ascii_iterator" x t i) where
  mem := List.mem_cons_self
  obj := fun i h st b hb => by
    obtain rfl : b = it := List.mem_singleton.mp hb
    obtain ⟨o, e, c, d⟩ := st
    exact ⟨o, e, fun v z => by rw [d] at z; cases z⟩
  keep := fun i h h' st k => let ⟨o, ho, r⟩ := st; ⟨o, k it List.mem_cons_self o ho, r⟩
  item := by
    intro X hP hw hK hc i pins s σ H E I hf st hg
    subst hP hw hK
    obtain ⟨f0, f1, f2, f3, f4, f5⟩ := hf it List.mem_cons_self
    have hx : x.cps[i]? = some x.cps[i] := Array.getElem?_eq_getElem hg
    refine wpAny_pyNext_ascii_item st hx fun h' st' sb => ?_
    have I1 : Inv X pins σ H { s with heap := h', toks := s.toks + 1 } := I.turned (fun b o hb e => (sb.2 b hb).trans e) f0 f1 f3 f4 f5
    obtain ⟨oi, e, cc, dd⟩ := id st'
    exact ⟨_, rfl, go_of (s := { s with heap := h', toks := s.toks + 1 }) e cc dd (by decide) ⟨.str ⟨#[x.cps[i]]⟩, H, I1, ⟨s.toks, rfl⟩, ⟨rfl, _, hx, rfl⟩, st', fun b hb => (hf b hb).1⟩⟩
  done := by
    intro X hP hw hK hc i pins s σ H E I hf st hg
    subst hP hw hK
    obtain ⟨f0, f1, f2, f3, f4, f5⟩ := hf it List.mem_cons_self
    obtain ⟨x1, hot, ne⟩ := HotC.far hc I f5
    exact ascii_end_hot hot ne st (Array.getElem?_eq_none hg) fun h' eb => ⟨rfl, I.turned (t' := s.toks) (fun b o hb e => eb b o hb e) f0 f1 f3 f4 f5⟩
  self := fun A i s Q E st h => wpAny_pyIter_striter_ascii st h
theorem turn_tupleH {P : Program} {w : World} {K : PySem.W.Frag} {tg : Expr} (a it : Addr) : TurnH P w K tg (Itt K a) [it] it (fun i h => h.IsTupleIter it a i) where
  mem := List.mem_cons_self
  obj := fun i h st b hb => by
    obtain rfl : b = it := List.mem_singleton.mp hb
    obtain ⟨o, e, c, d⟩ := st
    exact ⟨o, e, fun v z => by rw [d] at z; cases z⟩
  keep := fun i h h' st k => st.at fun o e => k it List.mem_cons_self o e
  item := by
    intro X hP hw hK hc i pins s σ H E I hf st hg
    subst hP hw hK
    obtain ⟨xs, x, hq, hx⟩ := hg
    obtain ⟨its, rv, p, hz⟩ := I.tuple hq
    obtain ⟨u, hu, ru⟩ := rv.get hx
    obtain ⟨f0, f1, f2, f3, f4, f5⟩ := hf it List.mem_cons_self
    refine wpAny_pyNext_tuple_item st (show s.heap.IsTuple a its.toArray from p) (x := u) (by simpa using hu) fun h' st' sb => ?_
    have I1 : Inv X pins σ H { s with heap := h' } := I.turned (t' := s.toks) (fun b o hb e => (sb.2 b hb).trans e) f0 f1 f3 f4 f5
    obtain ⟨o, e, c, d⟩ := id st'
    exact ⟨u, rfl, go_of (s := { s with heap := h' }) e c d (by decide) ⟨x, H, I1, ru, ⟨rfl, fun ys hy => by rw [I.tuple_inj hy hq]; exact hx⟩, st', fun b hb => (hf b hb).1⟩⟩
  done := by
    intro X hP hw hK hc i pins s σ H E I hf st hg
    subst hP hw hK
    obtain ⟨xs, hq, hx⟩ := hg
    obtain ⟨its, rv, p, hz⟩ := I.tuple hq
    obtain ⟨f0, f1, f2, f3, f4, f5⟩ := hf it List.mem_cons_self
    obtain ⟨x1, hot, ne⟩ := HotC.far hc I f5
    have hl := rv.length
    exact tuple_end_hot hot ne st (show s.heap.IsTuple a its.toArray from p) (by simp; omega) fun h' eb => ⟨rfl, I.turned (t' := s.toks) (fun b o hb e => eb b o hb e) f0 f1 f3 f4 f5⟩
  self := fun _ _ _ _ _ st h => wpAny_pyIter_tupleiter st h
section
variable {X : Cx} {tg : Expr}
theorem pi_oneH {pins : List (Addr × Obj)} {σ : L2.St} {H : Hp} {s : Shared} {R : It → Hp → Prop} {J : It} {tn : Nat → Heap → Prop} {tk : Nat} (I : Inv X pins σ H s) (o : Obj)
    (T : TurnH X.prog X.w X.K tg J [s.heap.objs.size] s.heap.objs.size tn) (st : tn 0 (s.heap.push o)) (q : R J H) : PIEH X pins σ tg R (.ref s.heap.objs.size) { s with heap := s.heap.push o, toks := tk } :=
  ⟨s.heap.objs.size, [s.heap.objs.size], tn, J, H, rfl, I.kept fun b ob e => Heap.get?_push_of_some _ e, T, st, fun b hb => by
    obtain rfl : b = s.heap.objs.size := List.mem_singleton.mp hb
    exact I.fpOk (Nat.le_refl _) (I.hok.fresh (Nat.le_refl _)), q⟩
/-- over an ascii text -/
def iAscii (te : TE) : TI := fun σ H R => te σ H fun v H1 => ∃ x : Str, v = .str x ∧ x.cps.all (· < 128) = true ∧ R (Its x) H1
theorem pi_asciiH {e : Expr} {te : TE} (he : PE X e te) : PIH X tg e (iAscii te) := by
  refine ⟨fun pins s σ H R I h => ?_⟩
  refine thn (he.run pins s σ H _ I h) fun v s1 ⟨y, H1, I1, r1, x, ex, ha, q⟩ => ?_
  subst ex
  obtain ⟨t, rfl⟩ := r1
  exact wpAny_pyIter_ascii ha (pi_oneH (tk := s1.toks) I1 _ (turn_asciiH _ x t) ⟨_, Heap.get?_push_size _ rfl, rfl, rfl⟩ q)
def iTupH (K : PySem.W.Frag) (te : TE) : TI := fun σ H R => te σ H fun x H1 => ∃ a, x = .ref a ∧ (∃ xs, SqT K H1 a xs) ∧ R (Itt K a) H1
theorem pi_tupH {e : Expr} {te : TE} (he : PE X e te) : PIH X tg e (iTupH X.K te) := by
  refine ⟨fun pins s σ H R I h => ?_⟩
  refine thn (he.run pins s σ H _ I h) fun v s1 ⟨y, H1, I1, r1, a, ea, ⟨xs, hq⟩, q⟩ => ?_
  subst ea
  cases r1
  obtain ⟨its, rv, p, hz⟩ := I1.tuple hq
  exact wpAny_pyIter_tuple (show s1.heap.IsTuple a its.toArray from p) (pi_oneH (tk := s1.toks) I1 _ (turn_tupleH a _) ⟨_, Heap.get?_push_size _ rfl, rfl, rfl⟩ q)
end
theorem itR_hot {X : Cx} {tg : Expr} {J : It} {fp : List Addr} {it : Addr} {tn : Nat → Heap → Prop} (T : TurnH X.prog X.w X.K tg J fp it tn) (hc : HotC X) : ItR X tg J fp it tn :=
  ⟨T.obj, T.keep, fun i pins s σ H E I f st go => T.item X rfl rfl rfl hc i pins s σ H E I f st go, fun i pins s σ H E I f st go => T.done X rfl rfl rfl hc i pins s σ H E I f st go, T.self⟩
section
variable {X : Cx} {k : Nat}
theorem room_genH {A : Around} {ev : Env} (hr : RoomH (k + 1) A) : RoomH k (A.in1.in1.deeper ev) := by
  have h1 := hr.dp
  have h2 := hr.un
  exact ⟨by show A.depth + 1 + 3 * k + 5 < _; omega, by show A.units + 1 + 1 + 3 + 16 * k + 200 < _; omega⟩
theorem hot_gcx {A1 : Around} {sm : Shared} {Hm : Hp} {ev : Env} {fp : List Addr} (hc : HotC X) (hh : A1.handled = X.A.handled) : HotC (gcx X A1 sm Hm ev fp) := by
  obtain ⟨p, ⟨h1, h2⟩, hp⟩ := hc
  exact ⟨p, ⟨hh.trans h1, h2⟩, hp⟩
theorem pe_allGH {c P : Addr} {elt iter tg : Expr} {ifs : List Expr} {scope : Scope} {own : List (Str × Nat)} {p pos gpos : Pos} {wi : TI} {g : TG} {tt : TT} {te : TE} (hr : RoomH (k + 1) X.A) (hc : X.calm = false) (hot : HotC X) (hg : Gl X "all") (hm : X.mg "all" = none) (TB : GxR.TabB X.base X.mg c P)
    (hcode : X.env.code = .ref c) (co : scope.isCoroutine = false) (nocell : ∀ y ∈ scope.names, y.2 ≠ .cell) (dot : scope.names.lookup (".0" : Str) = some NameKind.local) (ok : BlkOk X.N X.env.scope scope own) (hN : X.N.Nodup) (hi : PIH X tg iter wi)
    (pg : ∀ (A1 : Around) (sm : Shared) (Hm : Hp) (C : Addr) (cd : Value) (fp : List Addr), RoomH k A1 → HotC (gcx X A1 sm Hm (gev X scope C cd) fp) → PG (gcx X A1 sm Hm (gev X scope C cd) fp) tg g)
    (pt : ∀ (A1 : Around) (sm : Shared) (Hm : Hp) (C : Addr) (cd : Value) (fp : List Addr), RoomH k A1 → HotC (gcx X A1 sm Hm (gev X scope C cd) fp) → PTs (gcx X A1 sm Hm (gev X scope C cd) fp) ifs tt)
    (pe : ∀ (A1 : Around) (sm : Shared) (Hm : Hp) (C : Addr) (cd : Value) (fp : List Addr), RoomH k A1 → HotC (gcx X A1 sm Hm (gev X scope C cd) fp) → PE (gcx X A1 sm Hm (gev X scope C cd) fp) elt te)
    (hs : ∀ v, genFold iter X.env v = pure v)
    (he : starEach [.GeneratorExp elt [⟨tg, iter, ifs, 0⟩] scope gpos] X.env = (false, eval (.GeneratorExp elt [⟨tg, iter, ifs, 0⟩] scope gpos) X.env) :: starEach [] X.env := by rfl) :
    PE X (.Call (.Name "all" p) [.GeneratorExp elt [⟨tg, iter, ifs, 0⟩] scope gpos] [] pos) (tAllG P wi g tt te (own.map (·.2))) := by
  refine ⟨fun pins s σ H Q I h => ?_⟩
  have cold : ∀ {q : Prop}, X.calm = true → q := fun z => by rw [hc] at z; cases z
  refine wpAny_Call_Name_kw (ld_blt I hg hm bt_all ?_)
  refine PyProof.Rows.callWith_builtin1 ?_ he (by rfl)
  rw [he]
  show wpAny _ _ (spliced ((false, eval (.GeneratorExp elt [⟨tg, iter, ifs, 0⟩] scope gpos) X.env) :: backTo pos (starEach [] X.env))) _ _ s
  refine Calls.spliced_cons (mk_gen (TP := TurnH X.prog X.w X.K tg) (R := fun J H1 => ∃ (N : Nat) (W : Nat → Hp → Prop), (∀ H2, GxR.Tabbed P H1 H2 → W 0 H2) ∧ GRead J N g tt te (own.map (·.2)) σ W (fun i y H' => ∃ b, y = .bl b ∧ if b = true then W (i + 1) H' else Q (.bl false) H') (fun H' => Q (.bl true) H'))
    (by have := hr.dp; omega) TB hcode co nocell dot ok hN hs (fun J fp it tn T => ⟨T.obj, T.keep⟩) (fun R hw => hi.run pins s σ H R I hw) I h fun J H1 H2 it fp tn sm ev a oa gi s5 hR hT M => ?_)
  obtain ⟨N, W, hW, hG⟩ := hR
  refine Calls.spliced_nil ?_
  obtain ⟨cd, hev⟩ := M.evI
  have hrA := room_genH (ev := ev) hr
  have hotG : HotC (gcx X (X.A.in1.in1.deeper ev) sm H2 ev fp) := hot_gcx hot rfl
  have hfr : X.A.in1.in1.frames = some X.stack := M.inv.ok.frames
  have G5 := M.rest (X.A.in1.in1.deeper ev) (by show X.A.frames.map _ = _; rw [M.inv.ok.frames]; rfl) cold
  have S5 := made_sus (A2 := X.A.in1.in1) M co hfr cold (itR_hot M.turn hotG) (by rw [hev] at hrA hotG ⊢; exact pg _ _ _ _ _ _ hrA hotG) (by rw [hev] at hrA hotG ⊢; exact pt _ _ _ _ _ _ hrA hotG) (by rw [hev] at hrA hotG ⊢; exact pe _ _ _ _ _ _ hrA hotG) hG M.fresh G5
  have back : ∀ s1 H1, Inv (gcx X (X.A.in1.in1.deeper ev) sm H2 ev fp) [(a, oa)] (wipe σ (own.map (·.2))) H1 s1 → Inv X pins σ H1 s1 := fun s1 H1 I1 => gen_back M.inv (fun b hb => (M.fpo b hb).1) I1
  refine call_function_tree F.kind_all F.plain_all F.entry_all (F.args_all1 _) ?_
  unfold Builtin.«all»
  refine wpAny_bind (m := oneArg "all" _) (wpAny_pure ?_)
  refine wpAny_bind (wpAny_pyIter_gen (rec_at M.rc G5.1) ?_)
  refine wpAny_pure ⟨plainId_quiet F.plain_all_loop _, all_loop (X := gcx X (X.A.in1.in1.deeper ev) sm H2 ev fp) (No := fun H' => Q (.bl false) H') (St := fun H' => Q (.bl true) H') (A := X.A) M.rc (by have := hr.dp; omega) (fun s1 H1 I1 => .inr ?_)
    (fun s1 H1 I1 q1 => ?_) (fun s1 H1 I1 q1 => ?_) N 0 H2 s5 S5 (hW H2 hT)⟩
  · obtain ⟨x1, h1, h2⟩ := hotG.at I1
    exact ⟨x1, h1, h2⟩
  · exact ⟨.bl true, H1, back s1 H1 I1, rfl, q1⟩
  · exact ⟨.bl false, H1, back s1 H1 I1, rfl, q1⟩
end

theorem u64H {k : Nat} {A : Around} (r : RoomH k A) : A.units + 64 < cLine := by have := r.un; omega
section
variable {P : Program} {w : World} {K : PySem.W.Frag} {mg : Str → Option Value} {base : Heap} {x : Str} {st : Stmt} {f c : Addr} {fd : FuncData} {N ps : List Str} {k : Nat} {sp : Sp}
/-- a def, called while an exception is handled -/
theorem okH (d : D K mg x st ps f c fd) (S : FnScope N ps (defScope st)) (len : ∀ vs H Q E, sp vs H Q E → vs.length = ps.length)
    (body : ∀ (A : Around) (outer : List Env) (s : Shared) (H : Hp) (vs : List V) (Q : VK) (E : XK) (p : Addr × Obj), RoomH k (A.deeper (envOfC x (defScope st) s.heap.objs.size f (.ref c))) → HotC (cxH CX0 P w K mg base N x (defScope st) f (.ref c) A outer s H E p).nox → sp vs H Q E →
      ∃ t, PSs (cxH CX0 P w K mg base N x (defScope st) f (.ref c) A outer s H E p).nox (defBody st) t ∧ t { nx := fun _ H' => Q .non H', rt := Q } (start N vs) H) :
    FnH P w K mg base CX0 (k + 1) f fd ps sp := by
  obtain ⟨oc, kV, doc, pm, ct, od, an, osl, rfl, lk, hcd⟩ := d.ex
  exact fn_ofH lk hcd S len fun A outer s H vs Q E p hot hr hsp => (body A outer s H vs Q E p hr ⟨p, hot, List.mem_cons_self⟩ hsp).imp fun t h => ⟨h.1.nox, h.2⟩
/-- a def that may raise, the exceptions' contexts told -/
theorem okN (d : D K mg x st ps f c fd) (S : FnScope N ps (defScope st)) (len : ∀ vs H Q E, sp vs H Q E → vs.length = ps.length)
    (body : ∀ (A : Around) (outer : List Env) (s : Shared) (H : Hp) (vs : List V) (Q : VK) (E : XK), Room k (A.deeper (envOfC x (defScope st) s.heap.objs.size f (.ref c))) → sp vs H Q E →
      ∃ t, PSs (cxOf (L2N.CX P w) P w K mg base N x (defScope st) f (.ref c) A outer s H E) (defBody st) t ∧ t { nx := fun _ H' => Q .non H', rt := Q } (start N vs) H) :
    FnOk P w K mg base (L2N.CX P w) (k + 1) f fd ps sp := by
  obtain ⟨oc, kV, doc, pm, ct, od, an, osl, rfl, lk, hcd⟩ := d.ex
  exact fn_of lk hcd S len body
end
theorem pmk_ownN {X : Cx} {C : Addr} {x m : Str} {j : Nat} {p p2 pos : Pos} (T : OwnX X.K X.mg x C) (hg : Gl X x) (hdb : (x == ("__debug__" : Str)) = false := by decide) :
    L2N.PMk X (.Call (.Name x p) [.Constant (.str m) j p2] [] pos) (fun _ H Q => Q (.ref C) none H) := L2N.pmk_own PySem.F.excBase_Exception T.ex T.g T.kp (raises_own T.sub T.ty) hg hdb
theorem passH {X : Cx} {σ : L2.St} : PassesAt CX0 X σ E0 := fun _ _ _ _ _ _ h => h.elim
end GX
set_option Elab.async false
set_option linter.all false
set_option maxRecDepth 100000
set_option maxHeartbeats 4000000
namespace K11
open PySem PySem.Spec PyProof.Rows L2 Zl
local macro_rules | `(tactic| walk_at "go") => `(tactic| repeat (first | refine ⟨_, rfl, ?_⟩ | refine ⟨_, _, rfl, rfl, ?_⟩ | refine .inl ⟨_, _, rfl, rfl, ?_⟩))
local macro_rules | `(tactic| walk_at "isi") => `(tactic| first
  | refine isi_of (b := true) (.base (.int _)) (by decide +kernel) ?_ | refine isi_of (b := false) (.base (.int _)) (by decide +kernel) ?_
  | refine isi_of (b := true) (.base (.str _)) (by decide +kernel) ?_ | refine isi_of (b := false) (.base (.str _)) (by decide +kernel) ?_
  | refine isi_of (b := true) (ty_st (by assumption)) (by decide +kernel) ?_ | refine isi_of (b := false) (ty_st (by assumption)) (by decide +kernel) ?_
  | refine isi_of (b := true) (ty_sl (by assumption)) (by decide +kernel) ?_ | refine isi_of (b := false) (ty_sl (by assumption)) (by decide +kernel) ?_)
open L2H
section
variable {P : Program} {w : World} {K : PySem.W.Frag} {mg : Str → Option Value} {base : Heap} {a : Ad}
theorem okH_is_row (T : Txt K mg a) : L2H.FnH P w K mg base CX0 1 a.f_is_row a.d_is_row p_is_row (spIsRow K) := by
  refine GX.okH T.d_is_row sc_is_row (fun vs H Q E h => ?_) (fun A outer s H vs Q E pn hr HC h => ?_)
  · obtain ⟨i, xs, rfl, _⟩ := h; rfl
  · obtain ⟨p, xs, rfl, hs, q⟩ := h
    refine ⟨_, (pss_one (ps_ret (pe_or (pe_callB call_isinstanceZ (by rfl) T.m_isinstance bt_isinstance (pa_cons (pv 0) (pa_cons (pe_bltn (v := .ty "tuple") (by rfl) T.m_tuple bt_tuple rfl) pa_nil))) (pe_one (pe_callB call_isinstanceZ (by rfl) T.m_isinstance bt_isinstance (pa_cons (pv 0) (pa_cons (pe_bltn (v := .ty "list") (by rfl) T.m_list bt_list rfl) pa_nil))))))), ?_⟩
    walk_at "go"
    rcases hs with hs | hs
    · walk_at "isi"
      walk_at "go"
      exact q
    · walk_at "isi"
      walk_at "go"
      walk_at "isi"
      exact q
theorem okH_run_until (T : Txt K mg a) : L2H.FnH P w K mg base CX0 1 a.f_run_until a.d_run_until p_run_until spRun := by
  refine GX.okH T.d_run_until sc_run_until (fun vs H Q E h => ?_) (fun A outer s H vs Q E pn hr HC h => ?_)
  · obtain ⟨l, s, n, rfl, _⟩ := h; rfl
  · obtain ⟨l, z, n, rfl, hn, hl, q⟩ := h
    refine ⟨_, (pss_cons (ps_while PassesOwn.never (PW.pt (pw_and (pt_cmpR op_ltZ (pv 1) (pe_callB call_lenZ (by rfl) T.m_len bt_len (pa_cons (pv 0) pa_nil)) (nomark _)) (pw_and1 (pt_cmpR op_inZ (pe_ix ix_seq (pv 0) (pv 1) (fun _ _ => rfl)) (pv 2) (by rfl)))))
    (pss_one (ps_aug (i := 1) sc_run_until.nd rfl (.inl rfl) pe_int ip_add)))
    (pss_one (ps_ret (pv 1)))), ?_⟩
    refine ⟨fun m σ H' => ∃ k : Nat, σ = [some (.str (tx l)), some (.int (k : Int)), some (.str (tx z))] ∧ k + m = l.length ∧ H' = H ∧ k + runLen z (l.drop k) = n + runLen z (l.drop n), ⟨l.length - n, n, rfl, by omega, rfl, rfl⟩, fun m σ H' hW => ?_⟩
    obtain ⟨k, rfl, hk, rfl, e⟩ := hW
    walk_at "go"
    refine ⟨_, _, rfl, ⟨sz6 hl, rfl⟩, ?_⟩
    walk_at "go"
    by_cases hlt : k < l.length
    · refine ifT (decide_eq_true (by rw [tx_len]; omega)) ?_
      have hd : l.drop k = l[k] :: l.drop (k + 1) := List.drop_eq_getElem_cons hlt
      walk_at "go"
      refine .inr (.inr ⟨_, _, l[k], rfl, rfl, sz6 hl, atI_nat (List.getElem?_eq_getElem hlt), ?_⟩)
      walk_at "go"
      refine if2 (fun c => ?_) (fun c => ?_)
      · have c' : l[k] ∈ z := of_decide_eq_true c
        rw [hd, runLen_yes c'] at e
        refine ⟨fun σ' H2 => σ' = [some (.str (tx l)), some (.int ((k : Int) + 1)), some (.str (tx z))] ∧ H2 = H', fun σ' H2 h2 => ⟨m - 1, by omega, k + 1, ?_, by omega, h2.2, by omega⟩, ?_⟩
        · rw [h2.1]; rfl
        · walk_at "go"
          exact ⟨rfl, rfl⟩
      · have c' : l[k] ∉ z := of_decide_eq_false c
        rw [hd, runLen_no c'] at e
        walk_at "go"
        rw [← e] at q
        exact q
    · refine ifF (decide_eq_false (by rw [tx_len]; omega)) ?_
      refine ifF rfl ?_
      have hd : l.drop k = [] := List.drop_eq_nil_of_le (by omega)
      rw [hd, runLen_nil] at e
      walk_at "go"
      rw [← e] at q
      exact q
theorem fnH_no {ps : List Str} {k : Nat} {f : Addr} {fd : FuncData} : FnH P w K mg base CX0 k f fd ps (fun _ _ _ _ => False) := ⟨fun _ _ _ _ h => h.elim, fun _ _ _ _ _ _ _ _ _ _ _ _ _ _ _ _ h => h.elim⟩
def spJoinedH (K : PySem.W.Frag) : Sp := fun vs H Q _ => ∃ p, vs = [.ref p] ∧ SqT K H p [] ∧ Q (.str (tx [])) H
theorem okH_joined (T : Txt K mg a) : FnH P w K mg base CX0 1 a.f_joined a.d_joined p_joined (spJoinedH K) := by
  refine GX.okH T.d_joined sc_joined (fun vs H Q E h => ?_) (fun A outer s H vs Q E pn hr HC h => ?_)
  · obtain ⟨p, rfl, _⟩ := h; rfl
  · obtain ⟨p, rfl, hp, q⟩ := h
    refine ⟨_, (pss_cons (ps_set (i := 1) sc_joined.nd rfl (.inl rfl) (pe_bm PySem.F.plainAttrs_str PySem.F.slot_str_join PySem.F.type_str_join mt_join pe_str (pa_cons (pv 0) pa_nil)))
    (pss_cons (ps_if (pt_cmpR op_gt (pe_callB call_lenZ (by rfl) T.m_len bt_len (pa_cons (pv 1) pa_nil)) (pe_glob rfl T.m_MOST_SIGNS T.r_MOST_SIGNS) (nomark _))
    (pss_one ps_never)
    pss_nil)
    (pss_one (ps_ret (pv 1))))), ?_⟩
    walk_at "go"
    refine ⟨rfl, ?_⟩
    walk_at "go"
    refine ⟨_, p, ([] : List (List Nat)).map tx, rfl, rfl, .inr hp, by decide +kernel, ?_⟩
    rw [show Str.ofString " " = tx [32] by decide +kernel, join_tx]
    walk_at "go"
    refine ⟨_, _, rfl, ⟨by decide +kernel, rfl⟩, ?_⟩
    walk_at "go"
    exact q
def spLaidH (K : PySem.W.Frag) : Sp := fun vs H Q _ => ∃ p, vs = [.ref p] ∧ SqT K H p [] ∧ Q (.str (tx [])) H
theorem okH_laid (T : Txt K mg a) : FnH P w K mg base CX0 2 a.f_laid a.d_laid p_laid (spLaidH K) := by
  have F_is_row := okH_is_row (P := P) (w := w) (base := base) T
  have F_joined := okH_joined (P := P) (w := w) (base := base) T
  have F_sort_in : FnH P w K mg base CX0 1 a.f_sort_in a.d_sort_in p_sort_in (fun _ _ _ _ => False) := fnH_no
  refine GX.okH T.d_laid sc_laid (fun vs H Q E h => ?_) (fun A outer s H vs Q E pn hr HC h => ?_)
  · obtain ⟨p, rfl, _⟩ := h; rfl
  · obtain ⟨p, rfl, hp, q⟩ := h
    refine ⟨_, (pss_cons (ps_if (pt_not (pt_truth (pe_callH (E := fun _ => E0) F_is_row (hr.mono (by first | decide | omega)) HC (by rfl) T.d_is_row.g T.d_is_row.kp T.d_is_row.b (fun _ => GX.passH) (pa_cons (pv 0) pa_nil)) (by intro _; rfl)))
    (pss_one ps_never)
    pss_nil)
    (pss_cons (ps_forH PassesOwn.never HC (GX.pi_tupH (pv 0)) (pg_name (i := 1) sc_laid.nd rfl (.inl rfl))
    (pss_one (ps_if (pt_cmpR op_isZ (pe_callH (E := fun _ => E0) F_sort_in (hr.mono (by first | decide | omega)) HC (by rfl) T.d_sort_in.g T.d_sort_in.kp T.d_sort_in.b (fun _ => GX.passH) (pa_cons (pv 1) pa_nil)) pe_non (nomark _))
    (pss_one ps_never)
    pss_nil)))
    (pss_one (ps_ret (pe_callH (E := fun _ => E0) F_joined (hr.mono (by first | decide | omega)) HC (by rfl) T.d_joined.g T.d_joined.kp T.d_joined.b (fun _ => GX.passH) (pa_cons (pv 0) pa_nil)))))), ?_⟩
    walk_at "go"
    refine ⟨p, _, rfl, .inl hp, ?_⟩
    walk_at "go"
    refine ⟨⟨_, hp⟩, for_tup (K := K) (a := p) (xs := []) (fun i σ' H' => ∃ x1, σ' = [some (.ref p), x1] ∧ H' = H) ⟨none, rfl, rfl⟩ (fun i σ' H' _ hx => by obtain ⟨x1, rfl, rfl⟩ := hx; exact hp) (fun i x σ' H' hi => by simp at hi) (fun σ' H' hx => ?_)⟩
    obtain ⟨x1, rfl, rfl⟩ := hx
    walk_at "go"
    exact ⟨hp, q⟩
theorem sgn_nl (c : Nat) : decide (V.str ⟨#[c]⟩ = V.str (Str.ofString "\n")) = decide (c = 10) := by
  rw [show Str.ofString "\n" = (⟨#[10]⟩ : Str) by decide +kernel]
  simp
theorem sgn_lo (c : Nat) : (!decide ((⟨#[c]⟩ : Str).cps.toList < (Str.ofString " ").cps.toList)) = decide (32 ≤ c) := by
  rw [show Str.ofString " " = (⟨#[32]⟩ : Str) by decide +kernel, ← decide_not]
  refine decide_eq_decide.mpr ?_
  show ¬ ([c] < [32]) ↔ _
  rw [List.cons_lt_cons_iff]
  simp
theorem sgn_hi (c : Nat) : (!decide ((Str.ofString "~").cps.toList < (⟨#[c]⟩ : Str).cps.toList)) = decide (c ≤ 126) := by
  rw [show Str.ofString "~" = (⟨#[126]⟩ : Str) by decide +kernel, ← decide_not]
  refine decide_eq_decide.mpr ?_
  show ¬ ([126] < [c]) ↔ _
  rw [List.cons_lt_cons_iff]
  simp
theorem ok_ascii {l : List Nat} (h : l.all okSign = true) : (tx l).cps.all (· < 128) = true := by
  rw [List.all_eq_true] at h
  show (l.toArray).all _ = true
  rw [List.all_toArray, List.all_eq_true]
  intro c hc
  have := h c hc
  unfold okSign at this
  simp at this
  simp
  omega
theorem sc2_is_text : FnScope ["value", "sign"] p_is_text (defScope s_is_text) := ⟨rfl, rfl, rfl, by decide +kernel, rfl, by decide +kernel, by decide +kernel⟩
theorem okH_is_text (T : Txt K mg a) (TB : GxR.TabB base mg a.c_is_text a.tab_is_text) : FnH P w K mg base CX0 2 a.f_is_text a.d_is_text p_is_text (spIsText a.tab_is_text) := by
  refine GX.okH T.d_is_text sc2_is_text (fun vs H Q E h => ?_) (fun A outer s H vs Q E pn hr HC h => ?_)
  · obtain ⟨l, rfl, _⟩ := h; rfl
  · obtain ⟨l, rfl, hl, hs, ht, q⟩ := h
    refine ⟨_, (pss_cons (ps_if (PW.pt (pw_or (pt_not (pt_truth (pe_callB call_isinstanceZ (by rfl) T.m_isinstance bt_isinstance (pa_cons (pv 0) (pa_cons (pe_bltn (v := .ty "str") (by rfl) T.m_str bt_str rfl) pa_nil))) (by intro _; rfl))) (pw_or1 (pt_cmpR op_gt (pe_callB call_lenZ (by rfl) T.m_len bt_len (pa_cons (pv 0) pa_nil)) (pe_glob rfl T.m_MOST_SIGNS T.r_MOST_SIGNS) (nomark _)))))
    (pss_one (ps_ret pe_bl))
    pss_nil)
    (pss_one (ps_ret (GX.pe_allGH (own := [("sign", 1)]) hr rfl HC (by rfl) T.m_all TB rfl rfl (by decide +kernel) rfl (blkOk_by (by kernel_rfl)) sc2_is_text.nd (GX.pi_asciiH (pv 0))
      (fun A1 sm Hm C cd fp h1 h2 => pg_name (i := 1) sc2_is_text.nd rfl (.inl rfl)) (fun A1 sm Hm C cd fp h1 h2 => pts_nil)
      (fun A1 sm Hm C cd fp h1 h2 => pe_or (pe_cmpR (op_eqK (K := K) (by rfl) (GX.u64H h1)) (pv 1) pe_str (nomark _)) (pe_one (pe_chain op_le_str op_le_str pe_str (pv 1) pe_str))) (by intro _; rfl))))), ?_⟩
    walk_at "go"
    walk_at "isi"
    refine ⟨_, rfl, ?_⟩
    refine ifF rfl ?_
    walk_at "go"
    refine ⟨_, _, rfl, ⟨sz6 hl, rfl⟩, ?_⟩
    walk_at "go"
    refine ifF (decide_eq_false (by rw [tx_len]; omega)) ?_
    walk_at "go"
    refine ⟨ok_ascii hs, ht, l.length, fun i H' => i ≤ l.length ∧ GxR.Tabbed a.tab_is_text H H', fun H2 h2 => ⟨Nat.zero_le _, h2⟩, ?_⟩
    rintro i H' ⟨hi, hT⟩
    by_cases hlt : i < l.length
    · refine .inr ⟨by show i < (tx l).cps.size; simpa [tx] using hlt, hlt, ?_⟩
      rintro x H2 ⟨rfl, c, hc, rfl⟩
      have hc' : l[i]? = some c := by simpa [tx] using hc
      have hok : okSign c = true := List.all_eq_true.mp hs c (List.mem_of_getElem? hc')
      show L2.wipe _ _ = L2.wipe _ _ ∧ _
      refine ⟨rfl, ?_⟩
      walk_at "go"
      refine .inl ⟨rfl, ?_⟩
      refine ⟨_, rfl, ?_⟩
      rw [sgn_nl]
      by_cases h10 : c = 10
      · refine ifT (decide_eq_true h10) ⟨true, rfl, ?_⟩
        exact ifT rfl ⟨hlt, hT⟩
      · refine ifF (decide_eq_false h10) ?_
        have h2 : 32 ≤ c ∧ c ≤ 126 := by unfold okSign at hok; simp [h10] at hok; exact hok
        walk_at "go"
        refine ifT ((sgn_lo c).trans (decide_eq_true h2.1)) ?_
        walk_at "go"
        refine ifT ((sgn_hi c).trans (decide_eq_true h2.2)) ⟨hlt, hT⟩
    · refine .inl ⟨by show (tx l).cps.size ≤ i; simp [tx]; omega, q H' hT⟩
theorem okH_ask_text (T : Txt K mg a) (TB : GxR.TabB base mg a.c_is_text a.tab_is_text) : FnH P w K mg base CX0 3 a.f_ask_text a.d_ask_text p_ask_text (spAskText a.tab_is_text) := by
  have F_is_text := okH_is_text (P := P) (w := w) T TB
  refine GX.okH T.d_ask_text sc_ask_text (fun vs H Q E h => ?_) (fun A outer s H vs Q E pn hr HC h => ?_)
  · obtain ⟨l, v, rfl, _⟩ := h; rfl
  · obtain ⟨l, v, rfl, hl, hs, ht, q⟩ := h
    refine ⟨_, (pss_cons (ps_if (pt_not (pt_truth (pe_callH (E := fun _ => E0) F_is_text (hr.mono (by first | decide | omega)) HC (by rfl) T.d_is_text.g T.d_is_text.kp T.d_is_text.b (fun _ => GX.passH) (pa_cons (pv 0) pa_nil)) (by intro _; rfl)))
    (pss_one ps_never)
    pss_nil)
    (pss_one (ps_ret (pv 0)))), ?_⟩
    walk_at "go"
    refine ⟨hl, hs, ht, fun H' hH => ?_⟩
    refine ⟨_, rfl, ?_⟩
    refine ifF rfl ?_
    walk_at "go"
    exact q H' hH
def spWordsH (a : Ad) : Sp := fun vs H Q _ => vs = [.str (Str.ofString " \n ")] ∧ GxR.TabG H a.tab_is_text ∧ ∀ (H' : Hp) (p : Addr), Le H H' → H' p = some (.tup []) → Q (.ref p) H'
theorem okH_words_of (T : Txt K mg a) (TB : GxR.TabB base mg a.c_is_text a.tab_is_text) : FnH P w K mg base CX0 4 a.f_words_of a.d_words_of p_words_of (spWordsH a) := by
  have F_ask_text := okH_ask_text (P := P) (w := w) T TB
  have F_run_until := okH_run_until (P := P) (w := w) (base := base) T
  have F_word_at : FnH P w K mg base CX0 1 a.f_word_at a.d_word_at p_word_at (fun _ _ _ _ => False) := fnH_no
  refine GX.okH T.d_words_of sc_words_of (fun vs H Q E h => ?_) (fun A outer s H vs Q E pn hr HC h => ?_)
  · obtain ⟨rfl, _⟩ := h; rfl
  · obtain ⟨rfl, ht, q⟩ := h
    refine ⟨_, (pss_cons (ps_expr (pe_callH (E := fun _ => E0) F_ask_text (hr.mono (by first | decide | omega)) HC (by rfl) T.d_ask_text.g T.d_ask_text.kp T.d_ask_text.b (fun _ => GX.passH) (pa_cons (pv 0) (pa_cons pe_int pa_nil))))
    (pss_cons (ps_set (i := 1) sc_words_of.nd rfl (.inl rfl) (pe_lst pa_nil))
    (pss_cons (ps_set (i := 2) sc_words_of.nd rfl (.inl rfl) (pe_callH (E := fun _ => E0) F_run_until (hr.mono (by first | decide | omega)) HC (by rfl) T.d_run_until.g T.d_run_until.kp T.d_run_until.b (fun _ => GX.passH) (pa_cons (pv 0) (pa_cons pe_int (pa_cons pe_str pa_nil)))))
    (pss_cons (ps_while PassesOwn.never (pt_cmpR op_ltZ (pv 2) (pe_callB call_lenZ (by rfl) T.m_len bt_len (pa_cons (pv 0) pa_nil)) (nomark _))
    (pss_cons (ps_set (i := 3) sc_words_of.nd rfl (.inl rfl) (pe_callH (E := fun _ => E0) F_word_at (hr.mono (by first | decide | omega)) HC (by rfl) T.d_word_at.g T.d_word_at.kp T.d_word_at.b (fun _ => GX.passH) (pa_cons (pv 0) (pa_cons (pv 2) pa_nil))))
    (pss_cons (ps_if (pt_cmpR op_isZ (pv 3) pe_non (nomark _))
    (pss_one ps_never)
    pss_nil)
    (pss_cons (ps_expr (pe_bm PySem.F.plainAttrs_list PySem.F.slot_list_append PySem.F.type_list_append mt_append (pv 1) (pa_cons (pe_tup (pa_cons (pe_ix ix_seq (pv 3) pe_int (fun _ _ => rfl)) (pa_cons (pe_slice sl_Z (pv 0) (po_some (pv 2)) (po_some (pe_ix ix_seq (pv 3) pe_int (fun _ _ => rfl)))) (pa_cons (pv 2) (pa_cons (pe_ix ix_seq (pv 3) pe_int (fun _ _ => rfl)) pa_nil))))) pa_nil)))
    (pss_one (ps_set (i := 2) sc_words_of.nd rfl (.inl rfl) (pe_callH (E := fun _ => E0) F_run_until (hr.mono (by first | decide | omega)) HC (by rfl) T.d_run_until.g T.d_run_until.kp T.d_run_until.b (fun _ => GX.passH) (pa_cons (pv 0) (pa_cons (pe_ix ix_seq (pv 3) pe_int (fun _ _ => rfl)) (pa_cons pe_str pa_nil))))))))))
    (pss_one (ps_ret (pe_callTy call_tupleZ (by rfl) T.m_tuple bt_tuple (pa_cons (pv 1) pa_nil)))))))), ?_⟩
    have e3 : Str.ofString " \n " = tx [32, 10, 32] := by decide +kernel
    rw [e3]
    walk_at "go"
    refine ⟨[32, 10, 32], _, rfl, by decide, by decide, ht, fun H1 hH1 => ?_⟩
    walk_at "go"
    refine ⟨tup_sz (by simp), fun wA hw => ?_⟩
    walk_at "go"
    have eb : Str.ofString " \n" = tx blankS := by decide +kernel
    refine ⟨[32, 10, 32], blankS, 0, by rw [eb]; rfl, by decide, by decide, ?_⟩
    rw [show 0 + runLen blankS ([32, 10, 32].drop 0) = 3 by decide]
    refine ⟨fun m σ' H' => m = 0 ∧ σ' = [some (.str (tx [32, 10, 32])), some (.ref wA), some (.int ((3 : Nat) : Int)), none] ∧ Le H H' ∧ H' wA = some (.lst []), ⟨0, rfl, rfl, (Le.tab ht hH1).trans (Le.new hw), upd_same⟩, ?_⟩
    rintro m σ' H' ⟨rfl, rfl, hLe, hL⟩
    walk_at "go"
    refine ⟨_, _, rfl, ⟨by decide +kernel, rfl⟩, ?_⟩
    walk_at "go"
    refine ⟨wA, [], rfl, .inl ⟨.inl (.inl hL), fun p hp => ?_⟩⟩
    exact q _ p (hLe.trans (Le.new hp)) upd_same
end
end K11
set_option Elab.async false
set_option linter.all false
set_option maxRecDepth 100000
set_option maxHeartbeats 4000000
namespace K11
open PySem PySem.Spec PyProof.Rows L2 Zl
local macro_rules | `(tactic| walk_at "go") => `(tactic| repeat (first | refine ⟨_, rfl, ?_⟩ | refine ⟨_, _, rfl, rfl, ?_⟩ | refine .inl ⟨_, _, rfl, rfl, ?_⟩))
local macro_rules | `(tactic| walk_at "isi") => `(tactic| first
  | refine isi_of (b := true) (.base (.int _)) (by decide +kernel) ?_ | refine isi_of (b := false) (.base (.int _)) (by decide +kernel) ?_
  | refine isi_of (b := true) (.base (.str _)) (by decide +kernel) ?_ | refine isi_of (b := false) (.base (.str _)) (by decide +kernel) ?_
  | refine isi_of (b := true) (ty_st (by assumption)) (by decide +kernel) ?_ | refine isi_of (b := false) (ty_st (by assumption)) (by decide +kernel) ?_
  | refine isi_of (b := true) (ty_sl (by assumption)) (by decide +kernel) ?_ | refine isi_of (b := false) (ty_sl (by assumption)) (by decide +kernel) ?_)
open L2H
section
variable {P : Program} {w : World} {K : PySem.W.Frag} {mg : Str → Option Value} {base : Heap} {a : Ad}
theorem okN_joined (T : Txt K mg a) : FnOk prg w K mg base (L2N.CX prg w) 1 a.f_joined a.d_joined p_joined (spJoined K a) := by
  refine GX.okN T.d_joined sc_joined (fun vs H Q E h => ?_) (fun A outer s H vs Q E hr h => ?_)
  · obtain ⟨l, p, rfl, _⟩ := h; rfl
  · obtain ⟨ws, p, rfl, hp, hws, hlen, q, e⟩ := h
    refine ⟨_, (pss_cons (ps_set (i := 1) sc_joined.nd rfl (.inl rfl) (pe_bm PySem.F.plainAttrs_str PySem.F.slot_str_join PySem.F.type_str_join mt_join pe_str (pa_cons (pv 0) pa_nil)))
    (pss_cons (ps_if (pt_cmpR op_gt (pe_callB call_lenZ (by rfl) T.m_len bt_len (pa_cons (pv 1) pa_nil)) (pe_glob rfl T.m_MOST_SIGNS T.r_MOST_SIGNS) (nomark _))
    (pss_one (L2N.ps_raise rfl (L2N.takes_of rfl rfl rfl rfl) (GX.pmk_ownN T.x_TooMany (by rfl))))
    pss_nil)
    (pss_one (ps_ret (pv 1))))), ?_⟩
    walk_at "go"
    refine ⟨rfl, ?_⟩
    walk_at "go"
    have hsum : ∀ (vs : List (List Nat)), (∀ l ∈ vs, l.length ≤ 100) → ((vs.map tx).map (·.length)).sum ≤ vs.length * 100 := by
      intro vs
      induction vs with
      | nil => intro _; exact Nat.le_refl _
      | cons v r ih =>
        intro h
        have h1 := ih fun l hl => h l (List.mem_cons_of_mem _ hl)
        have h2 := h v List.mem_cons_self
        rw [List.map_cons, List.map_cons, List.sum_cons, List.length_cons, tx_len]
        omega
    refine ⟨_, p, ws.map tx, rfl, rfl, by rw [List.map_map]; exact hp, ?_, ?_⟩
    · have := hsum ws hlen
      have h1 : (Str.ofString " ").length = 1 := by decide +kernel
      rw [h1, List.length_map]
      omega
    · rw [show Str.ofString " " = tx [32] by decide +kernel, join_tx, ← joinW_eq]
      walk_at "go"
      have hlj : (joinW ws).length ≤ 700000 := by
        have := joinW_len ws hlen
        omega
      refine ⟨_, _, rfl, ⟨by rw [tx_len, sizeLine_eq]; omega, rfl⟩, ?_⟩
      walk_at "go"
      refine if2 (fun c => ?_) (fun c => ?_)
      · have c' := of_decide_eq_true c
        rw [tx_len] at c'
        exact e (by omega)
      · have c' := of_decide_eq_false c
        rw [tx_len] at c'
        walk_at "go"
        exact q (by omega)
theorem okN_laid (T : Txt K mg a) : FnOk prg w K mg base (L2N.CX prg w) 5 a.f_laid a.d_laid p_laid (spLaid K a) := by
  have G_is_row := ok_is_row (P := prg) (w := w) (base := base) T
  have G_sort_in := ok_sort_in (P := prg) (w := w) (base := base) T
  have G_joined := okN_joined (w := w) (base := base) T
  refine GX.okN T.d_laid sc_laid (fun vs H Q E h => ?_) (fun A outer s H vs Q E hr h => ?_)
  · obtain ⟨l, p, rfl, _⟩ := h; rfl
  · obtain ⟨ws, p, rfl, hp, hws, hlen, q, e⟩ := h
    refine ⟨_, (pss_cons (ps_if (pt_not (pt_truth (pe_call G_is_row (hr.mono (by first | decide | omega)) (by rfl) T.d_is_row.g T.d_is_row.kp T.d_is_row.b .nil pass0 (pa_cons (pv 0) pa_nil)) (by intro _; rfl)))
    (pss_one ps_never)
    pss_nil)
    (pss_cons (ps_for (passes_of rfl) rfl (pi_seq (pv 0)) (pg_name (i := 1) sc_laid.nd rfl (.inl rfl))
    (pss_one (ps_if (pt_cmpR op_isZ (pe_call G_sort_in (hr.mono (by first | decide | omega)) (by rfl) T.d_sort_in.g T.d_sort_in.kp T.d_sort_in.b .nil pass0 (pa_cons (pv 1) pa_nil)) pe_non (nomark _))
    (pss_one ps_never)
    pss_nil)))
    (pss_one (ps_ret (pe_call G_joined (hr.mono (by first | decide | omega)) (by rfl) T.d_joined.g T.d_joined.kp T.d_joined.b .nil (L2N.passes_call (L2N.takes_of rfl rfl rfl rfl) (fun _ _ _ _ h => h)) (pa_cons (pv 0) pa_nil)))))), ?_⟩
    walk_at "go"
    refine ⟨p, _, rfl, hp.symm, ?_⟩
    walk_at "go"
    refine for_seq H hp (fun i σ' H' => ∃ x1, σ' = [some (.ref p), x1] ∧ Le H H') ⟨_, rfl, Le.refl _⟩ (fun i σ' H' h => h.elim fun _ h => h.2) ?_ ?_
    · rintro i y σ' H' hi ⟨x1, rfl, hLe⟩
      obtain ⟨l, hl, rfl⟩ := map_get hi
      have hm := hlen l (List.mem_of_getElem? hl)
      walk_at "go"
      refine ⟨by omega, fun H2 hL2 => ?_⟩
      refine .inl ⟨rfl, ?_⟩
      walk_at "go"
      cases hs : sortIn l with
      | none => exact absurd hs hm.2
      | some k =>
        walk_at "go"
        exact hLe.trans hL2
    · rintro σ' H' ⟨x1, rfl, hLe⟩
      walk_at "go"
      refine ⟨ws, p, rfl, hLe.sq hp, hws, fun l hl => (hlen l hl).1, fun hj => q hj H' hLe, fun hj => e hj H' hLe⟩
end
end K11
set_option Elab.async false
set_option linter.all false
set_option maxRecDepth 100000
set_option maxHeartbeats 4000000
namespace K11
open PySem PySem.Spec PyProof.Rows L2 Zl
local macro_rules | `(tactic| walk_at "go") => `(tactic| repeat (first | refine ⟨_, rfl, ?_⟩ | refine ⟨_, _, rfl, rfl, ?_⟩ | refine .inl ⟨_, _, rfl, rfl, ?_⟩))
local macro_rules | `(tactic| walk_at "isi") => `(tactic| first
  | refine isi_of (b := true) (.base (.int _)) (by decide +kernel) ?_ | refine isi_of (b := false) (.base (.int _)) (by decide +kernel) ?_
  | refine isi_of (b := true) (.base (.str _)) (by decide +kernel) ?_ | refine isi_of (b := false) (.base (.str _)) (by decide +kernel) ?_
  | refine isi_of (b := true) (ty_st (by assumption)) (by decide +kernel) ?_ | refine isi_of (b := false) (ty_st (by assumption)) (by decide +kernel) ?_
  | refine isi_of (b := true) (ty_sl (by assumption)) (by decide +kernel) ?_ | refine isi_of (b := false) (ty_sl (by assumption)) (by decide +kernel) ?_)
section
variable {P : Program} {w : World} {K : PySem.W.Frag} {mg : Str → Option Value} {base : Heap} {a : Ad}
def spLaw (K : PySem.W.Frag) (a : Ad) : Sp := fun vs H Q _ => ∃ (p : Addr) (ns : List Int), vs = [.ref p] ∧ SqL K H p (ns.map V.int) ∧ GxR.TabG H a.tab_is_text ∧ ∀ H', Le H H' → Q (.bl true) H'
def tbLaw (K : PySem.W.Frag) (a : Ad) : WX → TS := fun W => tDrop (tCallS (spLaid K a) (WE W) (tCons (tOp (rMulZ K) (tTup (tCons (tC (.str (Str.ofString "x"))) tNil)) (tC (.int 3001))) tNil))
def tsLaw (K : PySem.W.Frag) (a : Ad) : Addr → Value → Option Addr → TS := fun _ _ _ => tRet (tAndV (tOp (rEqZ K) (tCallS (spLaidH K) (fun _ => E0) (tCons (tTup tNil) tNil)) (tC (.str (Str.ofString "")))) (tOp (rEqZ K) (tCallS (spWordsH a) (fun _ => E0) (tCons (tC (.str (Str.ofString " \n "))) tNil)) (tTup tNil)))
def sgnS : List Nat := cds "ab_C9 0(x)-><=+f\nin:|;,*/Z!#$&@" ++ cds "[]^{}~?.`"
theorem st_eq {A B : Option V} {C : L2.St} {a b : Str} (h : a = b) : (A :: B :: some (V.str a) :: C : L2.St) = A :: B :: some (V.str b) :: C := by rw [h]
theorem joinL_one : ∀ l : List Nat, TL.joinL [] (l.map fun c => [c]) = l
  | [] => rfl
  | [c] => rfl
  | c :: d :: r => by
    show [c] ++ ([] ++ TL.joinL [] ((d :: r).map fun c => [c])) = _
    rw [joinL_one (d :: r)]
    rfl
theorem mod_place {i : Int} {n : Nat} (h : 0 < n) : (i % (n : Int)).toNat < n ∧ (((i % (n : Int)).toNat : Nat) : Int) = i % (n : Int) := by
  have h1 : 0 ≤ i % (n : Int) := Int.emod_nonneg i (by omega)
  have h2 : i % (n : Int) < (n : Int) := Int.emod_lt_of_pos i (by omega)
  omega
theorem tk_len : ∀ (f : Nat) (l : List Nat) (a : Nat) (rows rows' : List Row), tk f l a rows = .ok rows' → rows'.length ≤ rows.length + l.length
  | 0, l, a, rows, rows', h => by
    simp only [tk] at h
    cases h
    omega
  | f + 1, [], a, rows, rows', h => by
    simp only [tk] at h
    cases h
    omega
  | f + 1, c :: r, a, rows, rows', h => by
    unfold tk at h
    split at h
    · have := tk_len f r _ _ _ h
      rw [List.length_cons]
      omega
    · split at h
      · cases h
      · rename_i k n e
        have hn := wordAt_pos e
        have := tk_len f _ _ _ _ h
        rw [List.length_append, List.length_singleton, List.length_drop] at this
        omega
theorem plain_told {l : List Nat} (hl : l.length ≤ 6000) : plainD 3 (toldD l) = true := by
  unfold toldD
  cases h : rd l 0 [] with
  | error n => rfl
  | ok rows =>
    have h1 := tk_len _ _ _ _ _ h
    have h2 : rows.length ≤ 10000 := by
      rw [List.length_nil] at h1
      omega
    show (decide (2 ≤ 10000) && ((true && (plainD 2 (rowsD rows) && true)))) = true
    unfold rowsD
    simp only [plainD, List.length_map, List.all_map, Bool.and_eq_true, decide_eq_true_eq, List.all_eq_true]
    refine ⟨by omega, ⟨trivial, ⟨⟨h2, fun r hr => ?_⟩, trivial⟩⟩⟩
    rfl
abbrev stA (p pn : Addr) (x3 x4 x5 x6 x7 : Option V) : L2.St := [some (.ref p), some (.ref pn), some (.str (tx sgnS)), x3, x4, x5, x6, x7, none, none, none, none, none, none, none, none]
theorem dps_nats {H : Hp} : ∀ ns : List Nat, DpAll K H (ns.map fun n : Nat => V.int (n : Int)) (ns.map fun n : Nat => PyData.int (n : Int))
  | [] => .nil
  | n :: r => .cons (.int _) (dps_nats r)
theorem plain_nats {ns : List Nat} (h : ns.length ≤ 10000) : plainD 3 (.tuple (ns.map fun n : Nat => .int (n : Int))) = true := by
  simp only [plainD, List.length_map, List.all_map, Bool.and_eq_true, decide_eq_true_eq, List.all_eq_true]
  exact ⟨h, fun r hr => rfl⟩
def poolL : List (List Nat) := keysL ++ [cds "x", cds "f_1", cds "abcdefghijkl", cds "Cons", cds "A_b9", cds "0", cds "7", cds "123456789012", cds "(", cds ")", cds "=", cds "|", cds ";", cds ",", cds "->", cds "+", cds "-", cds "*", cds "/", cds "<", cds "==", cds "_"]
theorem pool_len : ∀ w ∈ poolL, w.length ≤ 12 := by decide +kernel
theorem joinW_all {P : Nat → Bool} : ∀ {ws : List (List Nat)}, (∀ w ∈ ws, w.all P = true) → P 32 = true → (joinW ws).all P = true
  | [], _, _ => rfl
  | [w], h, _ => h w List.mem_cons_self
  | p :: q :: r, h, h2 => by
    show (p ++ 32 :: joinW (q :: r)).all P = true
    rw [List.all_append, List.all_cons, h p List.mem_cons_self, h2, joinW_all (fun w hw => h w (List.mem_cons_of_mem _ hw)) h2]
    rfl
theorem pool_ok : poolL.all (fun w => w.all okSign) = true := by decide +kernel
def kindOf (w : List Nat) : List Nat := match wordAt w with
  | some (k, _) => k
  | none => []
def goodB (w : List Nat) : Bool := decide (wordAt w = some (kindOf w, w.length)) && match w with
  | c :: _ => decide (c ∉ blankS)
  | [] => false
theorem goodB_is {w : List Nat} (h : goodB w = true) : Good w (kindOf w) := by
  unfold goodB at h
  rw [Bool.and_eq_true, decide_eq_true_eq] at h
  refine ⟨h.1, ?_⟩
  cases w with
  | nil => cases h.2
  | cons c r => exact ⟨c, r, rfl, of_decide_eq_true h.2⟩
theorem pool_good (w : List Nat) (h : w ∈ poolL) : Good w (kindOf w) := goodB_is (List.all_eq_true.mp (show poolL.all goodB = true by decide +kernel) w h)
theorem good_sort {w k : List Nat} (h : Good w k) : sortIn w = some k := by
  unfold sortIn
  rw [h.1]
  exact if_pos rfl
theorem pool_sort (w : List Nat) (h : w ∈ poolL) : sortIn w = some (kindOf w) := good_sort (pool_good w h)
theorem sum_tx : ∀ (vs : List (List Nat)), (∀ l ∈ vs, l.length ≤ 100) → ((vs.map tx).map (·.length)).sum ≤ vs.length * 100
  | [], _ => Nat.le_refl _
  | v :: r, h => by
    have h1 := sum_tx r fun l hl => h l (List.mem_cons_of_mem _ hl)
    have h2 := h v List.mem_cons_self
    rw [List.map_cons, List.map_cons, List.sum_cons, List.length_cons, tx_len]
    omega
theorem dp_tup2 {H : Hp} {v : V} {d0 d1 : PyData} (h : Dp K H v (.tuple [d0, d1])) : ∃ p v0 v1, v = .ref p ∧ SqT K H p [v0, v1] ∧ Dp K H v0 d0 ∧ Dp K H v1 d1 := by
  cases h with
  | @tup p xs _ q r =>
    cases r with
    | cons x r =>
      cases r with
      | cons y r =>
        cases r
        exact ⟨p, _, _, rfl, q, x, y⟩
theorem tups_at {H : Hp} {vs : List V} {rs : List (List V)} (h : Tups H vs rs) : ∀ {i : Nat} {v : V}, vs[i]? = some v → ∃ q r, v = .ref q ∧ rs[i]? = some r ∧ H q = some (.tup r) := by
  induction h with
  | nil => intro i v h; simp at h
  | @cons q r vs rs e _ ih =>
    intro i v h
    cases i with
    | zero => cases h; exact ⟨q, r, rfl, rfl, e⟩
    | succ i => exact ih (i := i) h
theorem plain_txs {ws : List (List Nat)} (h : ws.length ≤ 10000) : plainD 3 (.tuple (ws.map fun w => .str (tx w))) = true := by
  simp only [plainD, List.length_map, List.all_map, Bool.and_eq_true, decide_eq_true_eq, List.all_eq_true]
  exact ⟨h, fun r hr => rfl⟩
theorem plain_rows {R : List Row} (h : R.length ≤ 10000) : plainD 3 (rowsD R) = true := by
  unfold rowsD
  simp only [plainD, List.length_map, List.all_map, Bool.and_eq_true, decide_eq_true_eq, List.all_eq_true]
  exact ⟨h, fun r hr => rfl⟩
theorem dp_head {H : Hp} {v : V} {d0 : PyData} {ds : List PyData} (h : Dp K H v (.tuple (d0 :: ds))) : ∃ p v0 vs, v = .ref p ∧ SqT K H p (v0 :: vs) ∧ Dp K H v0 d0 := by
  cases h with
  | @tup p xs _ q r =>
    cases r with
    | cons x r => exact ⟨p, _, _, rfl, q, x⟩
def badL : List (List Nat) := [cds "", cds "x y", cds "abcdefghijklm", cds "01", cds "1a", cds "a-b", cds "=>", cds "A.b", cds " x", cds "-1", cds "1234567890123", cds ":"]
theorem bad_ok : badL.all (fun w => decide (w.length ≤ 6000) && decide (sortIn w = none)) = true := by decide +kernel
def errL : List (List Nat × Nat) := [(cds "x 03", 2), (cds "a:b", 1), (cds "x 12a", 2), (cds "abcdefghijklm", 0), (cds "f 1234567890123", 2), (cds "1_", 0), (cds "a\n\n?", 3)]
def isErr (l : List Nat) (n : Nat) : Bool := match rd l 0 [] with
  | .error m => m == n
  | .ok _ => false
theorem isErr_is {l : List Nat} {n : Nat} (h : isErr l n = true) : rd l 0 [] = .error n := by
  unfold isErr at h
  split at h
  · rename_i m e
    rw [e, eq_of_beq h]
  · cases h
theorem err_ok : errL.all (fun p => decide (p.1.length ≤ 6000) && (p.1.all okSign && isErr p.1 p.2)) = true := by decide +kernel
theorem rep_flat_len {α : Type} (n : Nat) (x : α) : (List.replicate n [x]).flatten.length = n := by rw [flat_one, List.length_replicate]
theorem rep_ne {α : Type} (n : Nat) (x : α) (h : 0 < n) : (List.replicate n [x]).flatten ≠ [] := by
  rw [flat_one]
  intro z
  have := congrArg List.length z
  rw [List.length_replicate] at this
  simp at this
  omega
theorem rep_words (n : Nat) (w v : List Nat) : (w :: List.replicate n v).map (fun l => V.str (tx l)) = [V.str (tx w)] ++ (List.replicate n [V.str (tx v)]).flatten := by
  rw [flat_one, List.map_cons, List.map_replicate]
  rfl
theorem rep_words1 (n : Nat) (v : List Nat) : (List.replicate n v).map (fun l => V.str (tx l)) = (List.replicate n [V.str (tx v)]).flatten := by
  rw [flat_one, List.map_replicate]
def blank3 : List Nat := [32, 10, 32]
/-- the suite of the last statement but one -/
def suiteOf (st : Stmt) : List Stmt := match (defBody st).reverse with
  | _ :: .Try _ [.ExceptHandler _ _ b _] _ _ _ :: _ => b
  | _ => []
theorem ok_law (T : Txt K mg a) (TB : GxR.TabB base mg a.c_is_text a.tab_is_text) (hBad : PySem.W.kitOne K (.ref a.k_BadText) (.ref a.k_BadValue) = some false) (hMany : PySem.W.exmOne K (.ref a.k_TooMany) (.ref a.k_TooMany) = some true) :
    FnOk prg w K mg base CX0 6 a.f_law a.d_law p_law (spLaw K a) := by
  have G__law_numbers := ok__law_numbers (P := prg) (w := w) (base := base) T
  have G__law_power := ok__law_power (P := prg) (w := w) (base := base) T
  have G__law_same := ok__law_same (P := prg) (w := w) (base := base) T 3
  have G__law_told := ok__law_told (w := w) T TB hBad
  have G__law_tokens := ok__law_tokens (P := prg) (w := w) (base := base) T
  have G__law_keys := ok__law_keys (P := prg) (w := w) (base := base) T
  have G_lines_of := ok_lines_of (P := prg) (w := w) T TB
  have G_line_at := ok_line_at (P := prg) (w := w) T TB
  have G_words_of := ok_words_of (w := w) T TB
  have G_laid := ok_laid (w := w) (base := base) T
  have G_laidN := okN_laid (w := w) (base := base) T
  have F_laid := okH_laid (P := prg) (w := w) (base := base) T
  have F_words_of := okH_words_of (P := prg) (w := w) T TB
  have G_sort_of := ok_sort_of (P := prg) (w := w) (base := base) T
  have G_is_word := ok_is_word (P := prg) (w := w) (base := base) T
  refine T.d_law.ok sc_law (fun vs H Q E h => ?_) (fun A outer s H vs Q E hr h => ?_)
  · obtain ⟨p, ns, rfl, _⟩ := h; rfl
  · obtain ⟨p, ns, rfl, hp, ht, q⟩ := h
    have SUITE : ∀ (ea : Addr) (oe : Obj) (cls : Value) (d : Option Addr) (pn : List (Addr × Obj)), L2N.Zn cls d oe → (∃ vs, oe.data = .fields vs) → L2.Takes (L2H.suiteX (cxOf CX0 prg w K mg base n_law "law" (defScope s_law) a.f_law (.ref a.c_law) A outer s H E).nox ea ((ea, oe) :: pn)) (fun _ _ _ _ => False) → L2H.HotC (L2H.suiteX (cxOf CX0 prg w K mg base n_law "law" (defScope s_law) a.f_law (.ref a.c_law) A outer s H E).nox ea ((ea, oe) :: pn)) → PSs (L2H.suiteX (cxOf CX0 prg w K mg base n_law "law" (defScope s_law) a.f_law (.ref a.c_law) A outer s H E).nox ea ((ea, oe) :: pn)) (suiteOf s_law) (tsLaw K a ea cls d) := fun ea oe cls d pn hz hf tk hot => by
      have rh : L2H.RoomH 5 ((A.deeper (envOfC "law" (defScope s_law) s.heap.objs.size a.f_law (.ref a.c_law))).mark (some (.ref ea))) := ⟨hr.dp, hr.un⟩
      have r2 : L2H.RoomH 2 _ := rh.mono (by decide)
      have r4 : L2H.RoomH 4 _ := rh.mono (by decide)
      exact pss_one (ps_ret (pe_and (pe_cmpR (op_eqK (K := K) (by rfl) (GX.u64H rh)) (L2H.pe_callH (k := 2) (E := fun _ => E0) F_laid r2 hot (by rfl) T.d_laid.g T.d_laid.kp T.d_laid.b (fun _ => GX.passH) (pa_cons (pe_tup pa_nil) pa_nil)) pe_str (nomark _)) (pe_one (pe_cmpR (op_eqK (K := K) (by rfl) (GX.u64H rh)) (L2H.pe_callH (k := 4) (E := fun _ => E0) F_words_of r4 hot (by rfl) T.d_words_of.g T.d_words_of.kp T.d_words_of.b (fun _ => GX.passH) (pa_cons pe_str pa_nil)) (pe_tup pa_nil) (nomark _)))))
    have HPA : ∀ {A' A1 : Around} {ev : Env}, PySem.PassesOwnAt (model prg w) A' A1 ev (fun _ _ => False) := fun {_ _ _} => PySem.PassesOwnAt.never
    refine ⟨_, (pss_cons (ps_set (i := 1) sc_law.nd rfl (.inr rfl) (pe_call G__law_numbers (hr.mono (by first | decide | omega)) (by rfl) T.d__law_numbers.g T.d__law_numbers.kp T.d__law_numbers.b .nil pass0 (pa_cons (pv 0) (pa_cons pe_int (pa_cons pe_int pa_nil)))))
    (pss_cons (ps_set (i := 2) sc_law.nd rfl (.inr rfl) pe_str)
    (C8.pss_cut (ps_for PassesOwn.never rfl (pi_seq (pv 1)) (pg_name (i := 3) sc_law.nd rfl (.inr rfl))
    (pss_cons (ps_set (i := 4) sc_law.nd rfl (.inr rfl) (pe_bm PySem.F.plainAttrs_str PySem.F.slot_str_join PySem.F.type_str_join mt_join pe_str (pa_cons (pe_lc (own := [("k", 14)]) (g := gName 14) (by rfl) sc_law.nd (pi_range1 (by rfl) T.m_range (pa_cons pe_int pa_nil)) (blkOk_by (own := [("k", 14)]) (N := ["script", "numbers", "signs", "number", "text", "lines", "spot", "row", "pool", "words", "told", "word", "sort", "at", "k", "line"]) (sc := defScope s_law) (by decide +kernel)) (fun _ _ _ _ _ => (pg_name (i := 14) sc_law.nd rfl (.inl rfl))) (fun _ _ _ _ _ => pts_nil) (fun _ _ _ _ _ => (pe_ix (ix_seqK (K := K) (by rfl)) (pv 2) (pe_op op_mod (pe_callTy (call_intK (K := K) (by rfl)) (by rfl) T.m_int bt_int (pa_cons (pe_op op_fdiv (pv 3) (pe_call G__law_power (hr.mono (by first | decide | omega)) (by rfl) T.d__law_power.g T.d__law_power.kp T.d__law_power.b .nil pass0 (pa_cons pe_int (pa_cons (pv 14) pa_nil)))) pa_nil)) (pe_callB (call_lenK (K := K) (by rfl)) (by rfl) T.m_len bt_len (pa_cons (pv 2) pa_nil))) (fun _ _ => rfl)))) pa_nil)))
    (C8.pss_cut (ps_if (pt_not (pt_truth (pe_call G__law_same (hr.mono (by first | decide | omega)) (by rfl) T.d__law_same.g T.d__law_same.kp T.d__law_same.b .nil pass0 (pa_cons (pe_call G__law_told (hr.mono (by first | decide | omega)) (by rfl) T.d__law_told.g T.d__law_told.kp T.d__law_told.b .nil pass0 (pa_cons (pv 4) pa_nil)) (pa_cons (pe_call G__law_tokens (hr.mono (by first | decide | omega)) (by rfl) T.d__law_tokens.g T.d__law_tokens.kp T.d__law_tokens.b .nil pass0 (pa_cons (pv 4) pa_nil)) pa_nil))) (by intro _; rfl)))
    (pss_one (ps_ret pe_bl))
    pss_nil)
    (pss_cons (ps_set (i := 5) sc_law.nd rfl (.inl rfl) (pe_op op_addZ (pe_lst (pa_cons pe_int pa_nil)) (pe_lc (own := [("k", 14)]) (g := gName 14) (by rfl) sc_law.nd (pi_range1 (by rfl) T.m_range (pa_cons (pe_callB call_lenZ (by rfl) T.m_len bt_len (pa_cons (pv 4) pa_nil)) pa_nil)) (blkOk_by (own := [("k", 14)]) (N := ["script", "numbers", "signs", "number", "text", "lines", "spot", "row", "pool", "words", "told", "word", "sort", "at", "k", "line"]) (sc := defScope s_law) (by decide +kernel)) (fun _ _ _ _ _ => (pg_name (i := 14) sc_law.nd rfl (.inl rfl))) (fun _ _ _ _ _ => (pts_one (pt_cmpR (op_eqK (K := K) (by rfl) (u64 hr)) (pe_ix (ix_seqK (K := K) (by rfl)) (pv 4) (pv 14) (fun _ _ => rfl)) pe_str (nomark _)))) (fun _ _ _ _ _ => (pe_op (op_addK (K := K) (by rfl)) (pv 14) pe_int)))))
    (C8.pss_cut (ps_if (pt_not (pt_truth (pe_call G__law_same (hr.mono (by first | decide | omega)) (by rfl) T.d__law_same.g T.d__law_same.kp T.d__law_same.b .nil pass0 (pa_cons (pe_call G_lines_of (hr.mono (by first | decide | omega)) (by rfl) T.d_lines_of.g T.d_lines_of.kp T.d_lines_of.b .nil pass0 (pa_cons (pv 4) pa_nil)) (pa_cons (pe_callTy call_tupleZ (by rfl) T.m_tuple bt_tuple (pa_cons (pv 5) pa_nil)) pa_nil))) (by intro _; rfl)))
    (pss_one (ps_ret pe_bl))
    pss_nil)
    (pss_one (ps_for PassesOwn.never rfl (pi_range1 (by rfl) T.m_range (pa_cons (pe_op op_addZ (pe_callB call_lenZ (by rfl) T.m_len bt_len (pa_cons (pv 4) pa_nil)) pe_int) pa_nil)) (pg_name (i := 6) sc_law.nd rfl (.inr rfl))
    (pss_cons (ps_set (i := 7) sc_law.nd rfl (.inl rfl) (pe_op op_sub (pe_callB call_lenZ (by rfl) T.m_len bt_len (pa_cons (pe_lc (own := [("line", 15)]) (g := gName 15) (by rfl) sc_law.nd (pi_seq (pv 5)) (blkOk_by (own := [("line", 15)]) (N := ["script", "numbers", "signs", "number", "text", "lines", "spot", "row", "pool", "words", "told", "word", "sort", "at", "k", "line"]) (sc := defScope s_law) (by decide +kernel)) (fun _ _ _ _ _ => (pg_name (i := 15) sc_law.nd rfl (.inl rfl))) (fun _ _ _ _ _ => (pts_one (pt_cmpR op_leZ (pv 15) (pv 6) (nomark _)))) (fun _ _ _ _ _ => (pv 15))) pa_nil)) pe_int))
    (pss_one (ps_if (pt_not (pt_truth (pe_call G__law_same (hr.mono (by first | decide | omega)) (by rfl) T.d__law_same.g T.d__law_same.kp T.d__law_same.b .nil pass0 (pa_cons (pe_call G_line_at (hr.mono (by first | decide | omega)) (by rfl) T.d_line_at.g T.d_line_at.kp T.d_line_at.b .nil pass0 (pa_cons (pv 4) (pa_cons (pv 6) pa_nil))) (pa_cons (pe_tup (pa_cons (pv 7) (pa_cons (pe_op op_sub (pv 6) (pe_ix ix_seq (pv 5) (pv 7) (fun _ _ => rfl))) pa_nil))) pa_nil))) (by intro _; rfl)))
    (pss_one (ps_ret pe_bl))
    pss_nil))))))))))
    (pss_cons (ps_set (i := 8) sc_law.nd rfl (.inr rfl) (pe_op op_addZ (pe_call0 G__law_keys (hr.mono (by first | decide | omega)) (by rfl) T.d__law_keys.g T.d__law_keys.kp T.d__law_keys.b .nil pass0) (pe_lst (pa_cons pe_str (pa_cons pe_str (pa_cons pe_str (pa_cons pe_str (pa_cons pe_str (pa_cons pe_str (pa_cons pe_str (pa_cons pe_str (pa_cons pe_str (pa_cons pe_str (pa_cons pe_str (pa_cons pe_str (pa_cons pe_str (pa_cons pe_str (pa_cons pe_str (pa_cons pe_str (pa_cons pe_str (pa_cons pe_str (pa_cons pe_str (pa_cons pe_str (pa_cons pe_str (pa_cons pe_str pa_nil)))))))))))))))))))))))))
    (pss_cons (ps_setLc (i := 9) (own := [("k", 14)]) (g := gName 14) (by rfl) sc_law.nd rfl rfl (sw_true rfl rfl rfl (by decide +kernel)) (pi_range1 (by rfl) T.m_range (pa_cons pe_int pa_nil)) (blkOk_by (own := [("k", 14)]) (N := ["script", "numbers", "signs", "number", "text", "lines", "spot", "row", "pool", "words", "told", "word", "sort", "at", "k", "line"]) (sc := defScope s_law) (by decide +kernel)) (fun _ _ _ _ _ => (pg_name (i := 14) sc_law.nd rfl (.inl rfl))) (fun _ _ _ _ _ => pts_nil) (fun _ _ _ _ _ => (pe_ix (ix_seqK (K := K) (by rfl)) (pv 8) (pe_op op_mod (pe_callTy (call_intK (K := K) (by rfl)) (by rfl) T.m_int bt_int (pa_cons (pe_op op_fdiv (pe_ix (ix_seqK (K := K) (by rfl)) (pv 1) (pe_op op_mod (pv 14) pe_int) (fun _ _ => rfl)) (pe_call G__law_power (hr.mono (by first | decide | omega)) (by rfl) T.d__law_power.g T.d__law_power.kp T.d__law_power.b .nil pass0 (pa_cons pe_int (pa_cons (pe_callTy (call_intK (K := K) (by rfl)) (by rfl) T.m_int bt_int (pa_cons (pe_op op_fdiv (pv 14) pe_int) pa_nil)) pa_nil)))) pa_nil)) (pe_callB (call_lenK (K := K) (by rfl)) (by rfl) T.m_len bt_len (pa_cons (pv 8) pa_nil))) (fun _ _ => rfl))))
    (pss_cons (ps_set (i := 4) sc_law.nd rfl (.inr rfl) (pe_bm PySem.F.plainAttrs_str PySem.F.slot_str_join PySem.F.type_str_join mt_join pe_str (pa_cons (pv 9) pa_nil)))
    (pss_cons (ps_set (i := 10) sc_law.nd rfl (.inl rfl) (pe_call G_words_of (hr.mono (by first | decide | omega)) (by rfl) T.d_words_of.g T.d_words_of.kp T.d_words_of.b .nil passL (pa_cons (pv 4) pa_nil)))
    (pss_cons (ps_if (PW.pt (pw_or (pt_not (pt_truth (pe_call G__law_same (hr.mono (by first | decide | omega)) (by rfl) T.d__law_same.g T.d__law_same.kp T.d__law_same.b .nil pass0 (pa_cons (pe_call G_laid (hr.mono (by first | decide | omega)) (by rfl) T.d_laid.g T.d_laid.kp T.d_laid.b .nil passL (pa_cons (pe_callTy call_tupleZ (by rfl) T.m_tuple bt_tuple (pa_cons (pv 9) pa_nil)) pa_nil)) (pa_cons (pv 4) pa_nil))) (by intro _; rfl))) (pw_or1 (pt_not (pt_truth (pe_call G__law_same (hr.mono (by first | decide | omega)) (by rfl) T.d__law_same.g T.d__law_same.kp T.d__law_same.b .nil pass0 (pa_cons (pe_call G_laid (hr.mono (by first | decide | omega)) (by rfl) T.d_laid.g T.d_laid.kp T.d_laid.b .nil passL (pa_cons (pv 9) pa_nil)) (pa_cons (pv 4) pa_nil))) (by intro _; rfl))))))
    (pss_one (ps_ret pe_bl))
    pss_nil)
    (pss_cons (ps_if (PW.pt (pw_or (pt_not (pt_truth (pe_call G__law_same (hr.mono (by first | decide | omega)) (by rfl) T.d__law_same.g T.d__law_same.kp T.d__law_same.b .nil pass0 (pa_cons (pe_callTy call_tupleZ (by rfl) T.m_tuple bt_tuple (pa_cons (pe_lc (own := [("row", 7)]) (g := gName 7) (by rfl) sc_law.nd (pi_seq (pv 10)) (blkOk_by (own := [("row", 7)]) (N := ["script", "numbers", "signs", "number", "text", "lines", "spot", "row", "pool", "words", "told", "word", "sort", "at", "k", "line"]) (sc := defScope s_law) (by decide +kernel)) (fun _ _ _ _ _ => (pg_name (i := 7) sc_law.nd rfl (.inl rfl))) (fun _ _ _ _ _ => pts_nil) (fun _ _ _ _ _ => (pe_ix (ix_seqK (K := K) (by rfl)) (pv 7) pe_int (fun _ _ => rfl)))) pa_nil)) (pa_cons (pe_callTy call_tupleZ (by rfl) T.m_tuple bt_tuple (pa_cons (pv 9) pa_nil)) pa_nil))) (by intro _; rfl))) (pw_or1 (pt_not (pt_truth (pe_call G__law_same (hr.mono (by first | decide | omega)) (by rfl) T.d__law_same.g T.d__law_same.kp T.d__law_same.b .nil pass0 (pa_cons (pv 10) (pa_cons (pe_ix ix_seq (pe_call G__law_tokens (hr.mono (by first | decide | omega)) (by rfl) T.d__law_tokens.g T.d__law_tokens.kp T.d__law_tokens.b .nil pass0 (pa_cons (pv 4) pa_nil)) pe_int (fun _ _ => rfl)) pa_nil))) (by intro _; rfl))))))
    (pss_one (ps_ret pe_bl))
    pss_nil)
    (C8.pss_cut (ps_for PassesOwn.never rfl (pi_seq (pv 8)) (pg_name (i := 11) sc_law.nd rfl (.inl rfl))
    (pss_cons (ps_set (i := 12) sc_law.nd rfl (.inl rfl) (pe_ix ix_seq (pe_ix ix_seq (pe_ix ix_seq (pe_call G__law_tokens (hr.mono (by first | decide | omega)) (by rfl) T.d__law_tokens.g T.d__law_tokens.kp T.d__law_tokens.b .nil pass0 (pa_cons (pv 11) pa_nil)) pe_int (fun _ _ => rfl)) pe_int (fun _ _ => rfl)) pe_int (fun _ _ => rfl)))
    (pss_one (ps_if (PW.pt (pw_or (pt_not (pt_truth (pe_call G__law_same (hr.mono (by first | decide | omega)) (by rfl) T.d__law_same.g T.d__law_same.kp T.d__law_same.b .nil pass0 (pa_cons (pe_call G_sort_of (hr.mono (by first | decide | omega)) (by rfl) T.d_sort_of.g T.d_sort_of.kp T.d_sort_of.b .nil pass0 (pa_cons (pv 11) pa_nil)) (pa_cons (pv 12) pa_nil))) (by intro _; rfl))) (pw_or1 (pt_cmpR op_isnotZ (pe_call G_is_word (hr.mono (by first | decide | omega)) (by rfl) T.d_is_word.g T.d_is_word.kp T.d_is_word.b .nil pass0 (pa_cons (pv 11) pa_nil)) pe_bl (nomark _)))))
    (pss_one (ps_ret pe_bl))
    pss_nil))))
    (C8.pss_cut (ps_for PassesOwn.never rfl (pi_seq (pe_lst (pa_cons pe_str (pa_cons pe_str (pa_cons pe_str (pa_cons pe_str (pa_cons pe_str (pa_cons pe_str (pa_cons pe_str (pa_cons pe_str (pa_cons pe_str (pa_cons pe_str (pa_cons pe_str (pa_cons pe_str pa_nil)))))))))))))) (pg_name (i := 11) sc_law.nd rfl (.inl rfl))
    (pss_one (ps_if (PW.pt (pw_or (pt_cmpR op_isnotZ (pe_call G_is_word (hr.mono (by first | decide | omega)) (by rfl) T.d_is_word.g T.d_is_word.kp T.d_is_word.b .nil pass0 (pa_cons (pv 11) pa_nil)) pe_bl (nomark _)) (pw_or1 (pt_cmpR op_isnotZ (pe_call G_sort_of (hr.mono (by first | decide | omega)) (by rfl) T.d_sort_of.g T.d_sort_of.kp T.d_sort_of.b .nil pass0 (pa_cons (pv 11) pa_nil)) pe_non (nomark _)))))
    (pss_one (ps_ret pe_bl))
    pss_nil)))
    (C8.pss_cut (ps_for PassesOwn.never rfl (pi_seq (pe_lst (pa_cons (pe_tup (pa_cons pe_str (pa_cons pe_int pa_nil))) (pa_cons (pe_tup (pa_cons pe_str (pa_cons pe_int pa_nil))) (pa_cons (pe_tup (pa_cons pe_str (pa_cons pe_int pa_nil))) (pa_cons (pe_tup (pa_cons pe_str (pa_cons pe_int pa_nil))) (pa_cons (pe_tup (pa_cons pe_str (pa_cons pe_int pa_nil))) (pa_cons (pe_tup (pa_cons pe_str (pa_cons pe_int pa_nil))) (pa_cons (pe_tup (pa_cons pe_str (pa_cons pe_int pa_nil))) pa_nil))))))))) (pg_tup (by rfl) (pgs_cons (pg_name (i := 4) sc_law.nd rfl (.inr rfl)) (pgs_cons (pg_name (i := 13) sc_law.nd rfl (.inl rfl)) pgs_nil)))
    (pss_one (ps_if (pt_not (pt_truth (pe_call G__law_same (hr.mono (by first | decide | omega)) (by rfl) T.d__law_same.g T.d__law_same.kp T.d__law_same.b .nil pass0 (pa_cons (pe_call G__law_told (hr.mono (by first | decide | omega)) (by rfl) T.d__law_told.g T.d__law_told.kp T.d__law_told.b .nil pass0 (pa_cons (pv 4) pa_nil)) (pa_cons (pe_tup (pa_cons pe_str (pa_cons (pv 13) pa_nil))) pa_nil))) (by intro _; rfl)))
    (pss_one (ps_ret pe_bl))
    pss_nil)))
    (pss_cons (ps_if (PW.pt (pw_or (pt_cmpR (op_neZ (u64 hr)) (pe_call G_laid (hr.mono (by first | decide | omega)) (by rfl) T.d_laid.g T.d_laid.kp T.d_laid.b .nil passL (pa_cons (pe_op op_addZ (pe_tup (pa_cons pe_str pa_nil)) (pe_op op_mulZ (pe_tup (pa_cons pe_str pa_nil)) pe_int)) pa_nil)) (pe_op op_addZ pe_str (pe_op op_mulZ pe_str pe_int)) (nomark _)) (pw_or1 (pt_cmpR op_isnotZ (pe_call G_is_word (hr.mono (by first | decide | omega)) (by rfl) T.d_is_word.g T.d_is_word.kp T.d_is_word.b .nil pass0 (pa_cons pe_str pa_nil)) pe_bl (nomark _)))))
    (pss_one (ps_ret pe_bl))
    pss_nil)
    (pss_cons (ps_if (PW.pt (pw_or (pt_cmpR (op_neZ (u64 hr)) (pe_call G_laid (hr.mono (by first | decide | omega)) (by rfl) T.d_laid.g T.d_laid.kp T.d_laid.b .nil passL (pa_cons (pe_op op_mulZ (pe_tup (pa_cons pe_str pa_nil)) pe_int) pa_nil)) (pe_op op_addZ pe_str (pe_op op_mulZ pe_str pe_int)) (nomark _)) (pw_or1 (pt_cmpR (op_neZ (u64 hr)) (pe_callB call_lenZ (by rfl) T.m_len bt_len (pa_cons (pe_call G_words_of (hr.mono (by first | decide | omega)) (by rfl) T.d_words_of.g T.d_words_of.kp T.d_words_of.b .nil passL (pa_cons (pe_op op_mulZ pe_str pe_int) pa_nil)) pa_nil)) pe_int (nomark _)))))
    (pss_one (ps_ret pe_bl))
    pss_nil)
    (pss_cons (L2H.ps_try_onlyX (tb := tbLaw K a) (ts := tsLaw K a) (Wout := fun _ _ _ _ => False) rfl rfl ⟨rfl, by decide, Or.inl T.m_TooMany⟩ (fun _ => HPA) takes0
    (fun W pn xe tk _ own => by exact ((pss_one (ps_expr (pe_callS G_laidN (hr.mono (by first | decide | omega)) (by rfl) T.d_laid.g T.d_laid.kp T.d_laid.b (fun σ => L2N.passAt tk σ) (pa_cons (pe_op op_mulZ (pe_tup (pa_cons pe_str pa_nil)) pe_int) pa_nil))))))
    SUITE)
    (pss_one (ps_ret pe_bl))))))))))))))))), ?_⟩
    walk_at "go"
    refine ⟨p, ns, 0, 8, rfl, hp, by decide, fun H1 pn zs hL1 hpn en hzl hzb => ?_⟩
    walk_at "go"
    refine ⟨fun σ' H' => ∃ x3 x4 x5 x6 x7, σ' = [some (.ref p), some (.ref pn), some (.str (tx sgnS)), x3, x4, x5, x6, x7, none, none, none, none, none, none, none, none] ∧ Le H1 H', ?_, ?_⟩
    · walk_at "go"
      refine for_seq H1 (xs := zs.map fun z : Nat => V.int (z : Int)) (.inl (.inl (.inl en))) (fun i σ' H' => ∃ x3 x4 x5 x6 x7, σ' = [some (.ref p), some (.ref pn), some (.str (tx sgnS)), x3, x4, x5, x6, x7, none, none, none, none, none, none, none, none] ∧ Le H1 H')
        ⟨none, none, none, none, none, st_eq (by decide +kernel), Le.refl _⟩ (fun i σ' H' h => by obtain ⟨_, _, _, _, _, _, h⟩ := h; exact h) ?_ ?_
      · rintro i y σ' H' hi ⟨x3, x4, x5, x6, x7, rfl, hLe⟩
        obtain ⟨z, hz, rfl⟩ := map_get hi
        have hzb1 := hzb z (List.mem_of_getElem? hz)
        walk_at "go"
        refine ⟨rfl, ?_⟩
        walk_at "go"
        refine ⟨by decide, by decide, ?_⟩
        refine lc_rng (lo := 0) (n := 12) (fun i acc _ => ∃ cs : List Nat, acc = cs.map (fun c => V.str (tx [c])) ∧ cs.length = i ∧ ∀ c ∈ cs, c ∈ sgnS) (fun D hD => ⟨[], rfl, rfl, by simp⟩) ?_ ?_
        · rintro D k acc H3 hD hk hL eD ⟨cs, rfl, hcl, hcm⟩
          rw [show (0 : Int) + (k : Int) = (k : Int) by omega]
          refine ⟨rfl, ?_⟩
          walk_at "go"
          refine ⟨5, k, rfl, by decide, by omega, ?_⟩
          walk_at "go"
          have h5 : 5 ^ k ≤ 5 ^ 11 := Nat.pow_le_pow_right (by decide) (by omega)
          have h5p : 0 < 5 ^ k := Nat.pow_pos (by decide)
          have h5q : (5 : Nat) ^ 11 < 1073741824 := by decide
          refine ⟨⟨by omega, by omega⟩, ?_⟩
          walk_at "go"
          refine .inl ⟨_, rfl, ?_⟩
          walk_at "go"
          refine ⟨_, _, rfl, ⟨by decide +kernel, rfl⟩, ?_⟩
          walk_at "go"
          refine ⟨show (0 : Int) < (((tx sgnS).length : Nat) : Int) by decide +kernel, ?_⟩
          obtain ⟨j, hj, ej⟩ : ∃ j : Nat, j < sgnS.length ∧ ((z : Int) / ((5 ^ k : Nat) : Int)) % (((tx sgnS).length : Nat) : Int) = (j : Int) := by
            have h1 := mod_place (i := (z : Int) / ((5 ^ k : Nat) : Int)) (n := (tx sgnS).length) (by decide +kernel)
            exact ⟨_, h1.1, h1.2.symm⟩
          walk_at "go"
          refine .inr (.inr ⟨_, _, sgnS[j], rfl, rfl, by decide +kernel, (congrArg (atI _) ej).trans (atI_nat (List.getElem?_eq_getElem hj)), ?_⟩)
          refine LcP.put hD hL eD (by rw [sizeLine_eq, List.length_map]; omega) ⟨cs ++ [sgnS[j]], by rw [List.map_append]; rfl, by rw [List.length_append, hcl]; rfl, ?_⟩
          intro c hc
          rcases List.mem_append.mp hc with h | h
          · exact hcm c h
          · rw [List.mem_singleton] at h; rw [h]; exact List.getElem_mem hj
        · rintro D acc H3 hD hL eD ⟨l, rfl, hl12, hlm⟩
          walk_at "go"
          refine ⟨_, D, (l.map fun c => [c]).map tx, rfl, rfl, .inl (.inl (.inl (by rw [List.map_map, List.map_map]; exact eD))), ?_, ?_⟩
          · have : ∀ cs : List Nat, (((cs.map fun c => [c]).map tx).map (·.length)).sum = cs.length := by
              intro cs
              induction cs with
              | nil => rfl
              | cons c r ih => rw [List.map_cons, List.map_cons, List.map_cons, List.sum_cons, ih, List.length_cons]; show 1 + _ = _; omega
            rw [this, List.length_map, List.length_map, show (Str.ofString "").length = 0 by decide +kernel]
            omega
          rw [show Str.ofString "" = tx [] by decide +kernel, join_tx, joinL_one]
          have hl : l.length ≤ 6000 := by omega
          have hs : l.all okSign = true := by
            rw [List.all_eq_true]
            intro c hc
            have h1 : sgnS.all okSign = true := by decide +kernel
            exact List.all_eq_true.mp h1 c (hlm c hc)
          have hL3 := hLe.trans hL
          have ht3 := (hL1.trans hL3).tabG ht
          walk_at "go"
          refine ⟨fun σ' H'' => σ' = stA p pn (some (.int (z : Int))) (some (.str (tx l))) x5 x6 x7 ∧ Le H3 H'', ?_, ?_⟩
          · walk_at "go"
            refine ⟨hl, hs, ht3, fun H4 v1 hL4 hd1 => ?_⟩
            walk_at "go"
            refine ⟨hl, fun H5 v2 hL5 hd2 => ?_⟩
            walk_at "go"
            refine ⟨v1, v2, _, rfl, hL5.dp hd1, hd2, plain_told hl, fun H6 hL6 => ?_⟩
            refine ⟨_, rfl, ?_⟩
            refine ifF rfl ?_
            exact ⟨rfl, (hL4.trans hL5).trans hL6⟩
          rintro σ' H4 ⟨rfl, hL4⟩
          walk_at "go"
          refine ⟨tup_sz (by simp), fun p0 hp0 => ?_⟩
          walk_at "go"
          refine ⟨_, _, rfl, ⟨sz6 hl, rfl⟩, ?_⟩
          walk_at "go"
          refine ⟨by omega, by rw [tx_len]; omega, ?_⟩
          rw [show (((tx l).length : Nat) : Int).toNat = l.length from Int.toNat_natCast _]
          have hL5 := hL4.trans (Le.new (o := .lst [.int 0]) hp0)
          refine lc_rng (lo := 0) (n := l.length) (fun i acc _ => V.int 0 :: acc = upTo l i) (fun D hD => rfl) ?_ ?_
          · rintro D k acc H5 hD hk hL eD ha
            rw [show (0 : Int) + (k : Int) = (k : Int) by omega]
            refine ⟨rfl, ?_⟩
            walk_at "go"
            refine .inr (.inr ⟨_, _, l[k], rfl, rfl, sz6 hl, atI_nat (List.getElem?_eq_getElem hk), ?_⟩)
            walk_at "go"
            refine .inl ⟨rfl, ?_⟩
            walk_at "go"
            have ed : decide (V.str ⟨#[l[k]]⟩ = V.str (Str.ofString "
")) = decide (l[k] = 10) := by
              rw [show Str.ofString "
" = tx [10] by decide +kernel, show (⟨#[l[k]]⟩ : Str) = tx [l[k]] from rfl, dec_tx]
              exact decide_eq_decide.mpr ⟨fun e => (List.cons.inj e).1, fun e => by rw [e]⟩
            have hlen := upTo_len l k
            rw [← ha, List.length_cons] at hlen
            by_cases h10 : l[k] = 10
            · refine ifT (ed.trans (decide_eq_true h10)) ?_
              walk_at "go"
              refine LcP.put hD hL eD (by rw [sizeLine_eq]; omega) ?_
              show _ = _
              rw [upTo_yes (by rw [List.getElem?_eq_getElem hk, h10]), ← ha]
              rfl
            · refine ifF (ed.trans (decide_eq_false h10)) ?_
              refine ⟨_, hL, eD, ?_⟩
              show _ = _
              rw [upTo_no (by rw [List.getElem?_eq_getElem hk]; exact fun z => h10 (Option.some.inj z)), ha]
          · rintro D acc H6 hD hL6 eD ha
            have hlen := upTo_len l l.length
            rw [upTo_all] at ha hlen
            rw [← ha, List.length_cons] at hlen
            walk_at "go"
            refine .inr (.inr (.inl ⟨p0, D, [.int 0], acc, rfl, rfl, hL6.lst upd_same, eD, by rw [sizeLine_eq, List.length_singleton]; omega, fun pl hpl => ?_⟩))
            rw [show [V.int 0] ++ acc = beginsV l from ha]
            have hL7 : Le H3 (upd H6 pl (.lst (beginsV l))) := (hL5.trans hL6).trans (Le.new hpl)
            have e7 : upd H6 pl (.lst (beginsV l)) pl = some (.lst (beginsV l)) := upd_same
            generalize upd H6 pl (.lst (beginsV l)) = H7 at hL7 e7 ⊢
            have lenB : (begins l).length ≤ 10000 := by
              have z := upTo_len l l.length
              rw [upTo_all] at z
              unfold beginsV at z
              rw [List.length_map] at z
              omega
            walk_at "go"
            refine ⟨fun σ' H'' => σ' = stA p pn (some (.int (z : Int))) (some (.str (tx l))) (some (.ref pl)) x6 x7 ∧ Le H7 H'', ?_, ?_⟩
            · walk_at "go"
              refine ⟨hl, hs, hL7.tabG ht3, fun H8 q8 hL8 e8 => ?_⟩
              walk_at "go"
              refine ⟨pl, _, rfl, .inl ⟨.inl (.inl (hL8.lst e7)), fun q9 hq9 => ?_⟩⟩
              have hL9 := Le.new (o := .tup (beginsV l)) hq9
              walk_at "go"
              refine ⟨_, _, .tuple ((begins l).map fun n : Nat => .int (n : Int)), rfl, hL9.dp (.tup (.inl (.inl e8)) (dps_nats _)), .tup (.inl (.inl upd_same)) (dps_nats _), plain_nats lenB, fun H10 hL10 => ?_⟩
              refine ⟨_, rfl, ?_⟩
              refine ifF rfl ?_
              exact ⟨rfl, (hL8.trans hL9).trans hL10⟩
            rintro σ' H8 ⟨rfl, hL8⟩
            walk_at "go"
            refine ⟨_, _, rfl, ⟨sz6 hl, rfl⟩, ?_⟩
            walk_at "go"
            refine ⟨by omega, by rw [tx_len]; omega, ?_⟩
            rw [show ((((tx l).length : Nat) : Int) + 1).toNat = l.length + 1 by rw [tx_len]; omega]
            refine for_range (fun i σ' H' => ∃ x6 x7, σ' = stA p pn (some (.int (z : Int))) (some (.str (tx l))) (some (.ref pl)) x6 x7 ∧ Le H7 H') ⟨_, _, rfl, hL8⟩ ?_ ?_
            · rintro i σ' H9 hi ⟨y6, y7, rfl, hL9⟩
              rw [show (0 : Int) + (i : Int) = (i : Int) by omega]
              walk_at "go"
              refine lc_sq (K := K) (xs := beginsV l) (.inl (.inl (.inl (hL9.lst e7)))) (fun k acc _ => acc = (((begins l).take k).filter fun b => decide (b ≤ i)).map fun b : Nat => V.int (b : Int)) (fun D hD => rfl) ?_ ?_
              · rintro D k x acc H' hD hk hL eD rfl
                obtain ⟨b, hb, rfl⟩ := map_get hk
                have hlen : ((((begins l).take k).filter fun b => decide (b ≤ i)).map fun b : Nat => V.int (b : Int)).length ≤ 10000 := by
                  rw [List.length_map]
                  have h2 := List.length_filter_le (fun b => decide (b ≤ i)) ((begins l).take k)
                  rw [List.length_take] at h2
                  omega
                have etk : (begins l).take (k + 1) = (begins l).take k ++ [b] := by
                  rw [List.take_add_one, hb]; rfl
                refine ⟨rfl, ?_⟩
                walk_at "go"
                by_cases hbn : b ≤ i
                · refine ifT (decide_eq_true (by omega)) ?_
                  walk_at "go"
                  refine LcP.put hD hL eD (by rw [sizeLine_eq]; omega) ?_
                  show _ = _
                  rw [etk, List.filter_append, List.filter_cons_of_pos (by simpa using hbn)]
                  simp
                · refine ifF (decide_eq_false (by omega)) ?_
                  refine ⟨_, hL, eD, ?_⟩
                  show _ = _
                  rw [etk, List.filter_append, List.filter_cons_of_neg (by simpa using hbn)]
                  simp
              · rintro D acc H10 hD hL10 eD rfl
                have elen : (beginsV l).length = (begins l).length := by unfold beginsV; rw [List.length_map]
                rw [elen, List.take_length] at eD
                walk_at "go"
                refine ⟨_, _, rfl, .inl ⟨_, .inl (.inl eD), rfl⟩, ?_⟩
                rw [List.length_map]
                have hp1 := lineOf_pos l i
                have hlo : ((((begins l).filter fun b => decide (b ≤ i)).length : Nat) : Int) - 1 = ((lineOf l i : Nat) : Int) := by unfold lineOf; omega
                walk_at "go"
                refine ⟨l, i, rfl, by omega, hl, hs, ((hL7.trans hL9).trans hL10).tabG ht3, fun H11 p11 hL11 e11 => ?_⟩
                walk_at "go"
                refine .inl ⟨pl, _, _, .int ((begins l)[lineOf l i]'(lineOf_lt l i) : Int), rfl, rfl, .inl (.inl ((hL10.trans hL11).lst (hL9.lst e7))), ?_, ?_⟩
                · refine (congrArg (atI _) hlo).trans (atI_nat ?_)
                  unfold beginsV
                  rw [List.getElem?_map, List.getElem?_eq_getElem (lineOf_lt l i)]
                  rfl
                walk_at "go"
                refine ⟨tup_sz (by simp), fun p12 hp12 => ?_⟩
                have hL12 := Le.new (o := .tup [.int ((((begins l).filter fun b => decide (b ≤ i)).length : Int) - 1), .int ((i : Int) - ((begins l)[lineOf l i]'(lineOf_lt l i) : Int))]) hp12
                have e12 : Dp K (upd H11 p12 (.tup [.int ((((begins l).filter fun b => decide (b ≤ i)).length : Int) - 1), .int ((i : Int) - ((begins l)[lineOf l i]'(lineOf_lt l i) : Int))])) (.ref p12) (.tuple [.int (lineOf l i : Int), .int ((i : Int) - ((begins l)[lineOf l i]'(lineOf_lt l i) : Int))]) := by
                  refine .tup (.inl (.inl upd_same)) (.cons ?_ (.cons (.int _) .nil))
                  rw [hlo]
                  exact .int _
                walk_at "go"
                refine ⟨_, _, _, rfl, hL12.dp (.tup (.inl (.inl e11)) (.cons (.int _) (.cons (.int _) .nil))), e12, rfl, fun H13 hL13 => ?_⟩
                refine ⟨_, rfl, ?_⟩
                refine ifF rfl ?_
                exact ⟨_, _, rfl, (((hL9.trans hL10).trans hL11).trans hL12).trans hL13⟩
            · rintro σ' H9 ⟨y6, y7, rfl, hL9⟩
              exact ⟨_, _, _, _, _, rfl, ((hLe.trans hL).trans hL7).trans hL9⟩
      · rintro σ' H' ⟨x3, x4, x5, x6, x7, rfl, hLe⟩
        exact ⟨_, _, _, _, _, rfl, hLe⟩
    · rintro σ' H' ⟨x3, x4, x5, x6, x7, rfl, hLe⟩
      have ht4 := (hL1.trans hLe).tabG ht
      have eN : H' pn = some (.lst (zs.map fun z : Nat => V.int (z : Int))) := hLe.lst en
      have hL0 := hL1.trans hLe
      walk_at "go"
      refine ⟨rfl, fun pk hpk => ?_⟩
      walk_at "go"
      refine ⟨tup_sz (by simp), fun pq hpq => ?_⟩
      have ek : upd H' pk (.lst keysV) pk = some (.lst keysV) := upd_same
      refine .inr (.inr (.inl ⟨pk, pq, keysV, _, rfl, rfl, (Le.new hpq).lst ek, upd_same, by decide +kernel, fun pp hpp => ?_⟩))
      rw [show keysV ++ [V.str (Str.ofString "x"), .str (Str.ofString "f_1"), .str (Str.ofString "abcdefghijkl"), .str (Str.ofString "Cons"), .str (Str.ofString "A_b9"), .str (Str.ofString "0"), .str (Str.ofString "7"), .str (Str.ofString "123456789012"), .str (Str.ofString "("), .str (Str.ofString ")"), .str (Str.ofString "="), .str (Str.ofString "|"), .str (Str.ofString ";"), .str (Str.ofString ","), .str (Str.ofString "->"), .str (Str.ofString "+"), .str (Str.ofString "-"), .str (Str.ofString "*"), .str (Str.ofString "/"), .str (Str.ofString "<"), .str (Str.ofString "=="), .str (Str.ofString "_")] = poolL.map fun l => V.str (tx l) by kernel_rfl]
      have ep : upd (upd (upd H' pk (.lst keysV)) pq (.lst [V.str (Str.ofString "x"), .str (Str.ofString "f_1"), .str (Str.ofString "abcdefghijkl"), .str (Str.ofString "Cons"), .str (Str.ofString "A_b9"), .str (Str.ofString "0"), .str (Str.ofString "7"), .str (Str.ofString "123456789012"), .str (Str.ofString "("), .str (Str.ofString ")"), .str (Str.ofString "="), .str (Str.ofString "|"), .str (Str.ofString ";"), .str (Str.ofString ","), .str (Str.ofString "->"), .str (Str.ofString "+"), .str (Str.ofString "-"), .str (Str.ofString "*"), .str (Str.ofString "/"), .str (Str.ofString "<"), .str (Str.ofString "=="), .str (Str.ofString "_")])) pp (.lst (poolL.map fun l => V.str (tx l))) pp = some (.lst (poolL.map fun l => V.str (tx l))) := upd_same
      have hL2 := ((Le.new (o := .lst keysV) hpk).trans (Le.new hpq)).trans (Le.new (o := .lst (poolL.map fun l => V.str (tx l))) hpp)
      generalize upd (upd (upd H' pk (.lst keysV)) pq _) pp _ = H2 at ep hL2 ⊢
      have eN2 := hL2.lst eN
      walk_at "go"
      refine ⟨by decide, by decide, ?_⟩
      refine lc_rng (lo := 0) (n := 20) (fun i acc _ => ∃ ws : List (List Nat), acc = ws.map (fun w => V.str (tx w)) ∧ ws.length = i ∧ ∀ w ∈ ws, w ∈ poolL) (fun D hD => ⟨[], rfl, rfl, by simp⟩) ?_ ?_
      · rintro D k acc H3 hD hk hL eD ⟨ws, rfl, hcl, hcm⟩
        rw [show (0 : Int) + (k : Int) = (k : Int) by omega]
        refine ⟨rfl, ?_⟩
        walk_at "go"
        refine ⟨show (0 : Int) < 8 by decide, ?_⟩
        have hk8 : k % 8 < zs.length := by omega
        refine .inl ⟨pn, _, _, .int ((zs[k % 8] : Nat) : Int), rfl, rfl, .inl (.inl (hL.lst eN2)), (congrArg (atI _) (Int.natCast_emod k 8).symm).trans (atI_nat ?_), ?_⟩
        · rw [List.getElem?_map, List.getElem?_eq_getElem hk8]; rfl
        walk_at "go"
        refine ⟨⟨by decide, by decide⟩, ?_⟩
        walk_at "go"
        refine .inl ⟨_, rfl, ?_⟩
        refine ⟨7, k / 8, by rw [show ((k : Int) / 8) = ((k / 8 : Nat) : Int) from (Int.natCast_ediv k 8).symm]; rfl, by decide, by omega, ?_⟩
        walk_at "go"
        have h5 : 7 ^ (k / 8) ≤ 7 ^ 3 := Nat.pow_le_pow_right (by decide) (by omega)
        have h5p : 0 < 7 ^ (k / 8) := Nat.pow_pos (by decide)
        have h5q : (7 : Nat) ^ 3 < 1073741824 := by decide
        refine ⟨⟨by omega, by omega⟩, ?_⟩
        walk_at "go"
        refine .inl ⟨_, rfl, ?_⟩
        walk_at "go"
        refine ⟨_, _, rfl, .inl ⟨_, .inl (.inl (hL.lst ep)), rfl⟩, ?_⟩
        walk_at "go"
        refine ⟨show (0 : Int) < (((poolL.map fun l => V.str (tx l)).length : Nat) : Int) by decide +kernel, ?_⟩
        obtain ⟨j, hj, ej⟩ : ∃ j : Nat, j < poolL.length ∧ (((zs[k % 8] : Nat) : Int) / ((7 ^ (k / 8) : Nat) : Int)) % (((poolL.map fun l => V.str (tx l)).length : Nat) : Int) = (j : Int) := by
          have h1 := mod_place (i := ((zs[k % 8] : Nat) : Int) / ((7 ^ (k / 8) : Nat) : Int)) (n := (poolL.map fun l => V.str (tx l)).length) (by decide +kernel)
          exact ⟨_, by rw [List.length_map] at h1 ⊢; exact h1.1, h1.2.symm⟩
        walk_at "go"
        refine .inl ⟨pp, _, _, .str (tx poolL[j]), rfl, rfl, .inl (.inl (hL.lst ep)), (congrArg (atI _) ej).trans (atI_nat (by rw [List.getElem?_map, List.getElem?_eq_getElem hj]; rfl)), ?_⟩
        refine LcP.put hD hL eD (by rw [sizeLine_eq, List.length_map]; omega) ⟨ws ++ [poolL[j]], by rw [List.map_append]; rfl, by rw [List.length_append, hcl]; rfl, ?_⟩
        intro c hc
        rcases List.mem_append.mp hc with h | h
        · exact hcm c h
        · rw [List.mem_singleton] at h; rw [h]; exact List.getElem_mem hj
      rintro pw acc H3 hD hL eD ⟨ws, rfl, hwl, hwm⟩
      have hw12 : ∀ w ∈ ws, w.length ≤ 12 := fun w hw => pool_len w (hwm w hw)
      have hjl := joinW_len ws fun w hw => Nat.le_trans (hw12 w hw) (by decide)
      walk_at "go"
      refine ⟨rfl, ?_⟩
      walk_at "go"
      refine ⟨_, pw, ws.map tx, rfl, rfl, .inl (.inl (.inl (by rw [List.map_map]; exact eD))), ?_, ?_⟩
      · have h1 := sum_tx ws fun w hw => Nat.le_trans (hw12 w hw) (show 12 ≤ 100 by decide)
        rw [show (Str.ofString " ").length = 1 by decide +kernel, List.length_map]
        omega
      rw [show Str.ofString " " = tx [32] by decide +kernel, join_tx, ← joinW_eq]
      have hl : (joinW ws).length ≤ 6000 := by omega
      have hs : (joinW ws).all okSign = true := joinW_all (fun w hw => List.all_eq_true.mp pool_ok w (hwm w hw)) (by decide)
      have hgood : ∀ p ∈ ws.map fun w => (w, kindOf w), Good p.1 p.2 := by
        intro p hp
        obtain ⟨w, hw, rfl⟩ := List.mem_map.mp hp
        exact pool_good w (hwm w hw)
      have hrd : rd (joinW ws) 0 [] = .ok (rowsOf (ws.map fun w => (w, kindOf w)) 0) := by
        have z := rd_join (ws.map fun w => (w, kindOf w)) 0 [] hgood
        rw [List.map_map, List.nil_append] at z
        rw [← z]
        congr 2
        exact (List.map_id ws).symm
      have hRw : (rowsOf (ws.map fun w => (w, kindOf w)) 0).map Row.w = ws := by
        rw [rowsOf_words, List.map_map]
        exact List.map_id ws
      have hRl := rowsOf_len (ws.map fun w => (w, kindOf w)) 0
      rw [List.length_map] at hRl
      generalize hl2 : joinW ws = l at hl hs hrd ⊢
      generalize rowsOf (ws.map fun w => (w, kindOf w)) 0 = R at hrd hRw hRl
      have hd : toldD l = .tuple [.str (Str.ofString "words"), rowsD R] := by unfold toldD; rw [hrd]
      have hL3 := hL2.trans hL
      have hws : ∀ w ∈ ws, w.length ≤ 100 ∧ sortIn w ≠ none := fun w hw => ⟨Nat.le_trans (hw12 w hw) (by decide), by rw [pool_sort w (hwm w hw)]; simp⟩
      walk_at "go"
      refine ⟨hl, hs, (hL3).tabG ht4, fun rows hr H4 pt xs hL4 et hT => ?_, fun n hr => by rw [hrd] at hr; cases hr⟩
      obtain rfl : R = rows := by rw [hrd] at hr; exact Except.ok.inj hr
      have ew4 := hL4.lst eD
      walk_at "go"
      refine ⟨pw, _, rfl, .inl ⟨.inl (.inl ew4), fun p5 hp5 => ?_⟩⟩
      have hL5 := Le.new (o := .tup (ws.map fun w => V.str (tx w))) hp5
      refine ⟨ws, p5, rfl, .inr (.inl (.inl upd_same)), by omega, hws, fun _ H6 hL6 => ?_, fun z => by rw [hl2] at z; omega⟩
      rw [hl2]
      walk_at "go"
      refine ⟨_, _, .str (tx l), rfl, .str _, .str _, rfl, fun H7 hL7 => ?_⟩
      refine ⟨_, rfl, ?_⟩
      refine ifF rfl ?_
      walk_at "go"
      refine ⟨ws, pw, rfl, .inl (.inl (.inl (((hL5.trans hL6).trans hL7).lst ew4))), by omega, hws, fun _ H8 hL8 => ?_, fun z => by rw [hl2] at z; omega⟩
      rw [hl2]
      walk_at "go"
      refine ⟨_, _, .str (tx l), rfl, .str _, .str _, rfl, fun H9 hL9 => ?_⟩
      refine ⟨_, rfl, ?_⟩
      refine ifF rfl ?_
      have hL9' : Le H4 H9 := (((hL5.trans hL6).trans hL7).trans hL8).trans hL9
      have hT9 := hT.le hL9'
      have hxl := hT.length
      rw [List.length_map] at hxl
      walk_at "go"
      refine lc_sq (K := K) (xs := xs) (.inr (.inl (.inl (hL9'.tup et)))) (fun k acc _ => acc = ((R.take k).map Row.w).map fun w => V.str (tx w)) (fun D hD => rfl) ?_ ?_
      · rintro D k x acc H10 hD hk hL10 eD rfl
        obtain ⟨q1, r, rfl, hr1, e1⟩ := tups_at hT9 hk
        obtain ⟨rr, hrr, rfl⟩ := map_get hr1
        have hlt := (List.getElem?_eq_some_iff.mp hrr).1
        have etk : R.take (k + 1) = R.take k ++ [rr] := by
          rw [List.take_add_one, hrr]; rfl
        refine ⟨rfl, ?_⟩
        walk_at "go"
        refine .inr (.inl ⟨q1, _, 1, .str (tx rr.w), rfl, rfl, .inl (.inl (hL10.tup e1)), rfl, ?_⟩)
        refine LcP.put hD hL10 eD (by rw [sizeLine_eq, List.length_map, List.length_map, List.length_take]; omega) ?_
        show _ = _
        rw [etk]
        simp
      rintro p10 acc H10 hD hL10 eD rfl
      rw [hxl, List.take_length, hRw] at eD
      have hL10' := hL9'.trans hL10
      walk_at "go"
      refine ⟨p10, _, rfl, .inl ⟨.inl (.inl eD), fun p11 hp11 => ?_⟩⟩
      have hL11 := Le.new (o := .tup (ws.map fun w => V.str (tx w))) hp11
      have e11 : upd H10 p11 (.tup (ws.map fun w => V.str (tx w))) p11 = some (.tup (ws.map fun w => V.str (tx w))) := upd_same
      generalize upd H10 p11 (.tup (ws.map fun w => V.str (tx w))) = H11 at hL11 e11 ⊢
      walk_at "go"
      refine ⟨pw, _, rfl, .inl ⟨.inl (.inl ((hL10'.trans hL11).lst ew4)), fun p12 hp12 => ?_⟩⟩
      have hL12 := Le.new (o := .tup (ws.map fun w => V.str (tx w))) hp12
      walk_at "go"
      refine ⟨_, _, .tuple (ws.map fun w => .str (tx w)), rfl, hL12.dp (.tup (.inl (.inl e11)) (dps_txs _)), .tup (.inl (.inl upd_same)) (dps_txs _), plain_txs (by omega), fun H13 hL13 => ?_⟩
      refine ⟨_, rfl, ?_⟩
      refine ifF rfl ?_
      have hL13' := ((hL10'.trans hL11).trans hL12).trans hL13
      walk_at "go"
      refine ⟨hl, fun H14 v14 hL14 hd14 => ?_⟩
      rw [hd] at hd14
      obtain ⟨p14, w0, w1, rfl, q14, _, hw1⟩ := dp_tup2 hd14
      walk_at "go"
      refine .inr (.inl ⟨p14, _, 1, w1, rfl, rfl, q14, rfl, ?_⟩)
      have hL14' := hL13'.trans hL14
      walk_at "go"
      refine ⟨_, _, _, rfl, .tup (.inl (.inl (hL14'.tup et))) (Tups.dps row_dps (hT.le hL14')), hw1, plain_rows (by omega), fun H15 hL15 => ?_⟩
      refine ⟨_, rfl, ?_⟩
      refine ifF rfl ?_
      have hL15' : Le H' H15 := ((hL3.trans hL4).trans hL14').trans hL15
      have e15 := ((hL.trans hL4).trans (hL14'.trans hL15)).lst ep
      clear hL14' hL14 hL13' hL13 hL12 hL11 hL10' hL10 hL9' hL9 hL8 hL7 hL6 hL5 hd14 hw1 hT9
      refine ⟨fun σ' H'' => ∃ y11 y12, σ' = [some (.ref p), some (.ref pn), some (.str (tx sgnS)), x3, some (.str (tx l)), x5, x6, x7, some (.ref pp), some (.ref pw), some (.ref pt), y11, y12, none, none, none] ∧ Le H15 H'', ?_, ?_⟩
      · walk_at "go"
        refine for_seq H15 (xs := poolL.map fun l => V.str (tx l)) (.inl (.inl (.inl e15))) (fun i σ' H'' => ∃ y11 y12, σ' = [some (.ref p), some (.ref pn), some (.str (tx sgnS)), x3, some (.str (tx l)), x5, x6, x7, some (.ref pp), some (.ref pw), some (.ref pt), y11, y12, none, none, none] ∧ Le H15 H'')
          ⟨none, none, rfl, Le.refl _⟩ (fun i σ' H' h => by obtain ⟨_, _, _, h⟩ := h; exact h) ?_ ?_
        · rintro i y σ' H16 hi ⟨y11, y12, rfl, hL16⟩
          obtain ⟨wd, hwd, rfl⟩ := map_get hi
          have hmem := List.mem_of_getElem? hwd
          have hwl12 := pool_len wd hmem
          have hg := pool_good wd hmem
          have hsw := pool_sort wd hmem
          have hdw : toldD wd = .tuple [.str (Str.ofString "words"), .tuple [.tuple [.str (tx (kindOf wd)), .str (tx wd), .int 0, .int ((0 + wd.length : Nat) : Int)]]] := by
            have z := rd_join [(wd, kindOf wd)] 0 [] (by intro p hp; rw [List.mem_singleton] at hp; rw [hp]; exact hg)
            unfold toldD
            rw [show rd wd 0 [] = _ from z]
            rfl
          walk_at "go"
          refine ⟨by omega, fun H17 v17 hL17 hd17 => ?_⟩
          rw [hdw] at hd17
          obtain ⟨p17, w0, w1, rfl, q17, _, hw1⟩ := dp_tup2 hd17
          obtain ⟨p18, u0, us0, rfl, q18, hu0⟩ := dp_head hw1
          obtain ⟨p19, r0, rs0, rfl, q19, hr0⟩ := dp_head hu0
          cases hr0
          walk_at "go"
          refine .inr (.inl ⟨p17, _, 1, _, rfl, rfl, q17, rfl, ?_⟩)
          walk_at "go"
          refine .inr (.inl ⟨p18, _, 0, _, rfl, rfl, q18, atI_nat (j := 0) rfl, ?_⟩)
          walk_at "go"
          refine .inr (.inl ⟨p19, _, 0, _, rfl, rfl, q19, atI_nat (j := 0) rfl, ?_⟩)
          walk_at "go"
          refine ⟨by omega, fun H18 hL18 => ?_⟩
          rw [hsw]
          walk_at "go"
          refine ⟨_, _, .str (tx (kindOf wd)), rfl, .str _, .str _, rfl, fun H19 hL19 => ?_⟩
          refine ⟨_, rfl, ?_⟩
          refine ifF rfl ?_
          walk_at "go"
          refine ⟨by omega, fun H20 hL20 => ?_⟩
          rw [hsw]
          walk_at "go"
          refine .inr ⟨_, _, rfl, rfl, ?_⟩
          walk_at "go"
          exact ⟨_, _, rfl, (((hL16.trans hL17).trans hL18).trans hL19).trans hL20⟩
        · rintro σ' H16 ⟨y11, y12, rfl, hL16⟩
          exact ⟨_, _, rfl, hL16⟩
      rintro σ' H16 ⟨y11, y12, rfl, hL16⟩
      refine ⟨fun σ' H'' => ∃ y11 y12, σ' = [some (.ref p), some (.ref pn), some (.str (tx sgnS)), x3, some (.str (tx l)), x5, x6, x7, some (.ref pp), some (.ref pw), some (.ref pt), y11, y12, none, none, none] ∧ Le H16 H'', ?_, ?_⟩
      · refine ⟨tup_sz (by simp), fun pb hpb => ?_⟩
        rw [show [V.str (Str.ofString ""), .str (Str.ofString "x y"), .str (Str.ofString "abcdefghijklm"), .str (Str.ofString "01"), .str (Str.ofString "1a"), .str (Str.ofString "a-b"), .str (Str.ofString "=>"), .str (Str.ofString "A.b"), .str (Str.ofString " x"), .str (Str.ofString "-1"), .str (Str.ofString "1234567890123"), .str (Str.ofString ":")] = badL.map fun l => V.str (tx l) by kernel_rfl]
        have hLb := Le.new (o := .lst (badL.map fun l => V.str (tx l))) hpb
        walk_at "go"
        refine for_seq (upd H16 pb (.lst (badL.map fun l => V.str (tx l)))) (xs := badL.map fun l => V.str (tx l)) (.inl (.inl (.inl upd_same))) (fun i σ' H'' => ∃ y11 y12, σ' = [some (.ref p), some (.ref pn), some (.str (tx sgnS)), x3, some (.str (tx l)), x5, x6, x7, some (.ref pp), some (.ref pw), some (.ref pt), y11, y12, none, none, none] ∧ Le (upd H16 pb (.lst (badL.map fun l => V.str (tx l)))) H'')
          ⟨_, _, rfl, Le.refl _⟩ (fun i σ' H' h => by obtain ⟨_, _, _, h⟩ := h; exact h) ?_ ?_
        · rintro i y σ' H17 hi ⟨y11, y12, rfl, hL17⟩
          obtain ⟨wd, hwd, rfl⟩ := map_get hi
          have hb := List.all_eq_true.mp bad_ok wd (List.mem_of_getElem? hwd)
          rw [Bool.and_eq_true, decide_eq_true_eq, decide_eq_true_eq] at hb
          obtain ⟨hb1, hb2⟩ := hb
          walk_at "go"
          refine ⟨by omega, fun H20 hL20 => ?_⟩
          rw [hb2]
          walk_at "go"
          refine .inr ⟨_, _, rfl, rfl, ?_⟩
          walk_at "go"
          refine ⟨by omega, fun H21 hL21 => ?_⟩
          rw [hb2]
          walk_at "go"
          refine .inl ⟨rfl, ?_⟩
          walk_at "go"
          exact ⟨_, _, rfl, (hL17.trans hL20).trans hL21⟩
        · rintro σ' H17 ⟨y11, y12, rfl, hL17⟩
          exact ⟨_, _, rfl, hLb.trans hL17⟩
      rintro σ' H17 ⟨z11, z12, rfl, hL17⟩
      refine ⟨fun σ' H'' => ∃ y4 y13, σ' = [some (.ref p), some (.ref pn), some (.str (tx sgnS)), x3, y4, x5, x6, x7, some (.ref pp), some (.ref pw), some (.ref pt), z11, z12, y13, none, none] ∧ Le H17 H'', ?_, ?_⟩
      · refine ⟨tup_sz (by simp), fun q1 hq1 => ?_⟩
        have T1 : Tups (upd H17 q1 (.tup [V.str (Str.ofString "x 03"), V.int 2])) ([] ++ [V.ref q1]) ([] ++ [[V.str (Str.ofString "x 03"), V.int 2]]) := Tups.snoc upd_same .nil
        have L1 := Le.new (o := .tup [V.str (Str.ofString "x 03"), V.int 2]) hq1
        generalize upd H17 q1 (.tup [V.str (Str.ofString "x 03"), V.int 2]) = G1 at T1 L1 ⊢
        walk_at "go"
        refine ⟨tup_sz (by simp), fun q2 hq2 => ?_⟩
        have T2 := Tups.snoc (q := q2) (r := [V.str (Str.ofString "a:b"), V.int 1]) (H := upd G1 q2 (.tup [V.str (Str.ofString "a:b"), V.int 1])) upd_same (T1.le (Le.new hq2))
        have L2 := Le.new (o := .tup [V.str (Str.ofString "a:b"), V.int 1]) hq2
        generalize upd G1 q2 (.tup [V.str (Str.ofString "a:b"), V.int 1]) = G2 at T2 L2 ⊢
        walk_at "go"
        refine ⟨tup_sz (by simp), fun q3 hq3 => ?_⟩
        have T3 := Tups.snoc (q := q3) (r := [V.str (Str.ofString "x 12a"), V.int 2]) (H := upd G2 q3 (.tup [V.str (Str.ofString "x 12a"), V.int 2])) upd_same (T2.le (Le.new hq3))
        have L3 := Le.new (o := .tup [V.str (Str.ofString "x 12a"), V.int 2]) hq3
        generalize upd G2 q3 (.tup [V.str (Str.ofString "x 12a"), V.int 2]) = G3 at T3 L3 ⊢
        walk_at "go"
        refine ⟨tup_sz (by simp), fun q4 hq4 => ?_⟩
        have T4 := Tups.snoc (q := q4) (r := [V.str (Str.ofString "abcdefghijklm"), V.int 0]) (H := upd G3 q4 (.tup [V.str (Str.ofString "abcdefghijklm"), V.int 0])) upd_same (T3.le (Le.new hq4))
        have L4 := Le.new (o := .tup [V.str (Str.ofString "abcdefghijklm"), V.int 0]) hq4
        generalize upd G3 q4 (.tup [V.str (Str.ofString "abcdefghijklm"), V.int 0]) = G4 at T4 L4 ⊢
        walk_at "go"
        refine ⟨tup_sz (by simp), fun q5 hq5 => ?_⟩
        have T5 := Tups.snoc (q := q5) (r := [V.str (Str.ofString "f 1234567890123"), V.int 2]) (H := upd G4 q5 (.tup [V.str (Str.ofString "f 1234567890123"), V.int 2])) upd_same (T4.le (Le.new hq5))
        have L5 := Le.new (o := .tup [V.str (Str.ofString "f 1234567890123"), V.int 2]) hq5
        generalize upd G4 q5 (.tup [V.str (Str.ofString "f 1234567890123"), V.int 2]) = G5 at T5 L5 ⊢
        walk_at "go"
        refine ⟨tup_sz (by simp), fun q6 hq6 => ?_⟩
        have T6 := Tups.snoc (q := q6) (r := [V.str (Str.ofString "1_"), V.int 0]) (H := upd G5 q6 (.tup [V.str (Str.ofString "1_"), V.int 0])) upd_same (T5.le (Le.new hq6))
        have L6 := Le.new (o := .tup [V.str (Str.ofString "1_"), V.int 0]) hq6
        generalize upd G5 q6 (.tup [V.str (Str.ofString "1_"), V.int 0]) = G6 at T6 L6 ⊢
        walk_at "go"
        refine ⟨tup_sz (by simp), fun q7 hq7 => ?_⟩
        have T7 := Tups.snoc (q := q7) (r := [V.str (Str.ofString "a\n\n?"), V.int 3]) (H := upd G6 q7 (.tup [V.str (Str.ofString "a\n\n?"), V.int 3])) upd_same (T6.le (Le.new hq7))
        have L7 := Le.new (o := .tup [V.str (Str.ofString "a\n\n?"), V.int 3]) hq7
        generalize upd G6 q7 (.tup [V.str (Str.ofString "a\n\n?"), V.int 3]) = G7 at T7 L7 ⊢
        walk_at "go"
        refine ⟨tup_sz (by simp), fun pe hpe => ?_⟩
        have Lp := Le.new (o := .lst [V.ref q1, .ref q2, .ref q3, .ref q4, .ref q5, .ref q6, .ref q7]) hpe
        have Tp := T7.le Lp
        have L17 : Le H17 (upd G7 pe (.lst [V.ref q1, .ref q2, .ref q3, .ref q4, .ref q5, .ref q6, .ref q7])) := (((((((L1.trans L2).trans L3).trans L4).trans L5).trans L6).trans L7).trans Lp)
        walk_at "go"
        refine for_seq (upd G7 pe (.lst [V.ref q1, .ref q2, .ref q3, .ref q4, .ref q5, .ref q6, .ref q7])) (xs := [V.ref q1, .ref q2, .ref q3, .ref q4, .ref q5, .ref q6, .ref q7]) (.inl (.inl (.inl upd_same))) (fun i σ' H'' => ∃ y4 y13, σ' = [some (.ref p), some (.ref pn), some (.str (tx sgnS)), x3, y4, x5, x6, x7, some (.ref pp), some (.ref pw), some (.ref pt), z11, z12, y13, none, none] ∧ Le (upd G7 pe (.lst [V.ref q1, .ref q2, .ref q3, .ref q4, .ref q5, .ref q6, .ref q7])) H'')
          ⟨_, _, rfl, Le.refl _⟩ (fun i σ' H' h => by obtain ⟨_, _, _, h⟩ := h; exact h) ?_ ?_
        · rintro i y σ' H18 hi ⟨y4, y13, rfl, hL18⟩
          obtain ⟨qi, ri, rfl, hri, ei⟩ := tups_at Tp hi
          obtain ⟨pi, hpi, rfl⟩ : ∃ pi : List Nat × Nat, pi ∈ errL ∧ ri = [V.str (tx pi.1), .int (pi.2 : Int)] := by
            rw [show ((((((([] ++ [[V.str (Str.ofString "x 03"), V.int 2]]) ++ [[V.str (Str.ofString "a:b"), V.int 1]]) ++ [[V.str (Str.ofString "x 12a"), V.int 2]]) ++ [[V.str (Str.ofString "abcdefghijklm"), V.int 0]]) ++ [[V.str (Str.ofString "f 1234567890123"), V.int 2]]) ++ [[V.str (Str.ofString "1_"), V.int 0]]) ++ [[V.str (Str.ofString "a\n\n?"), V.int 3]]) = errL.map (fun pi => [V.str (tx pi.1), .int (pi.2 : Int)]) by kernel_rfl] at hri
            obtain ⟨x, hx, e⟩ := map_get hri
            exact ⟨x, List.mem_of_getElem? hx, e⟩
          have hb := List.all_eq_true.mp err_ok pi hpi
          rw [Bool.and_eq_true, Bool.and_eq_true, decide_eq_true_eq] at hb
          obtain ⟨hb1, hb2, hb3⟩ := hb
          have hde : toldD pi.1 = .tuple [.str (Str.ofString "bad"), .int (pi.2 : Int)] := by unfold toldD; rw [isErr_is hb3]
          refine ⟨qi, _, rfl, .inl (.inl (hL18.tup ei)), rfl, ?_⟩
          refine ⟨_, _, rfl, _, _, rfl, rfl, ?_⟩
          have ht18 := (((hL15'.trans hL16).trans hL17).trans (L17.trans hL18)).tabG ht4
          walk_at "go"
          refine ⟨hb1, hb2, ht18, fun H19 v19 hL19 hd19 => ?_⟩
          rw [hde] at hd19
          walk_at "go"
          refine ⟨tup_sz (by simp), fun p20 hp20 => ?_⟩
          have hL20 := Le.new (o := .tup [V.str (Str.ofString "bad"), V.int (pi.2 : Int)]) hp20
          walk_at "go"
          refine ⟨_, _, _, rfl, hL20.dp hd19, .tup (.inl (.inl upd_same)) (.cons (.str _) (.cons (.int _) .nil)), rfl, fun H21 hL21 => ?_⟩
          refine ⟨_, rfl, ?_⟩
          refine ifF rfl ?_
          exact ⟨_, _, rfl, ((hL18.trans hL19).trans hL20).trans hL21⟩
        · rintro σ' H18 ⟨y4, y13, rfl, hL18⟩
          exact ⟨_, _, rfl, L17.trans hL18⟩
      rintro σ' H18 ⟨y4, y13, rfl, hL18⟩
      have hTop : Le H H18 := hL0.trans (((hL15'.trans hL16).trans hL17).trans hL18)
      have ht18 := hTop.tabG ht
      clear hL18 hL17 hL16 hL15'
      have okx : (sortIn [120] ≠ none) := by decide +kernel
      have okxx : (sortIn [120, 120] ≠ none) := by decide +kernel
      -- laid, of 3000 words
      refine ⟨tup_sz (by simp), fun p1 hp1 => ?_⟩
      walk_at "go"
      refine ⟨tup_sz (by simp), fun p2 hp2 => ?_⟩
      walk_at "go"
      have l2 := Le.new (o := .tup [V.str (Str.ofString "x")]) hp2
      refine .inr (.inl ⟨p2, 2999, _, rfl, rfl, .inl (.inl upd_same), by simp, by decide, by decide, fun p3 hp3 => ?_⟩)
      have l3 := Le.new (o := .tup (List.replicate (Int.toNat 2999) [V.str (Str.ofString "x")]).flatten) hp3
      refine .inr (.inr (.inr ⟨p1, p3, _, _, rfl, rfl, .inl (.inl ((l2.trans l3).tup upd_same)), .inl (.inl upd_same), by simp, by rw [rep_flat_len]; decide +kernel, fun z => absurd z (rep_ne _ _ (by decide)), fun _ p4 hp4 => ?_⟩))
      have e4 : upd (upd (upd (upd H18 p1 (.tup [V.str (Str.ofString "xx")])) p2 (.tup [V.str (Str.ofString "x")])) p3 (.tup (List.replicate (Int.toNat 2999) [V.str (Str.ofString "x")]).flatten)) p4 (.tup ([V.str (Str.ofString "xx")] ++ (List.replicate (Int.toNat 2999) [V.str (Str.ofString "x")]).flatten)) p4 = some (.tup (([120, 120] :: List.replicate 2999 [120]).map fun l => V.str (tx l))) := by
        rw [rep_words, upd_same, show Str.ofString "xx" = tx [120, 120] by decide +kernel, show Str.ofString "x" = tx [120] by decide +kernel]
        rfl
      have l4 := ((Le.new (o := .tup [V.str (Str.ofString "xx")]) hp1).trans (l2.trans l3)).trans (Le.new (o := .tup ([V.str (Str.ofString "xx")] ++ (List.replicate (Int.toNat 2999) [V.str (Str.ofString "x")]).flatten)) hp4)
      generalize upd (upd (upd (upd H18 p1 _) p2 _) p3 _) p4 _ = H20 at e4 l4 ⊢
      have j1 : joinW ([120, 120] :: List.replicate 2999 [120]) = [120, 120] ++ (List.replicate 2999 [32, 120]).flatten := joinW_rep _ _ _
      have j1l : (joinW ([120, 120] :: List.replicate 2999 [120])).length = 6000 := by
        rw [j1, List.length_append, rep_len]
        rfl
      refine ⟨[120, 120] :: List.replicate 2999 [120], p4, rfl, .inr (.inl (.inl e4)), by rw [List.length_cons, List.length_replicate]; decide, ?_, fun _ H21 hL21 => ?_, fun z => by rw [j1l] at z; omega⟩
      · intro w hw
        rcases List.mem_cons.mp hw with rfl | hw
        · exact ⟨by decide, okxx⟩
        · rw [(List.mem_replicate.mp hw).2]
          exact ⟨by decide, okx⟩
      rw [j1]
      walk_at "go"
      refine .inr (.inr ⟨_, 2999, rfl, rfl, by decide, by decide, by decide +kernel, ?_⟩)
      rw [show Str.ofString " x" = tx [32, 120] by decide +kernel, show Txt.mul (tx [32, 120]) 2999 = tx (List.replicate 2999 [32, 120]).flatten from mul_tx _ 2999 (by decide)]
      refine .inr (.inl ⟨_, _, rfl, rfl, by rw [tx_len, rep_len]; decide +kernel, ?_⟩)
      refine .inl ⟨rfl, ?_⟩
      have e6 : Str.ofString "xx" ++ tx (List.replicate 2999 [32, 120]).flatten = tx ([120, 120] ++ (List.replicate 2999 [32, 120]).flatten) := by
        rw [show Str.ofString "xx" = tx [120, 120] by decide +kernel, s_add]
        rfl
      rw [e6, decide_eq_true rfl]
      walk_at "go"
      refine ⟨by decide +kernel, fun H22 hL22 => ?_⟩
      generalize hB : decide (sortIn _ ≠ none) = B
      obtain rfl : B = false := by rw [← hB]; decide +kernel
      walk_at "go"
      refine .inr ⟨_, _, rfl, rfl, ?_⟩
      walk_at "go"
      have l22 := (l4.trans hL21).trans hL22
      -- laid and read, of 3000 words
      refine ⟨tup_sz (by simp), fun p5 hp5 => ?_⟩
      walk_at "go"
      refine .inr (.inl ⟨p5, 3000, _, rfl, rfl, .inl (.inl upd_same), by simp, by decide, by decide, fun p6 hp6 => ?_⟩)
      have e6' : upd (upd H22 p5 (.tup [V.str (Str.ofString "x")])) p6 (.tup (List.replicate (Int.toNat 3000) [V.str (Str.ofString "x")]).flatten) p6 = some (.tup ((List.replicate 3000 [120]).map fun l => V.str (tx l))) := by
        rw [upd_same, rep_words1, show Str.ofString "x" = tx [120] by decide +kernel]
        rfl
      have l6 := (Le.new (o := .tup [V.str (Str.ofString "x")]) hp5).trans (Le.new (o := .tup (List.replicate (Int.toNat 3000) [V.str (Str.ofString "x")]).flatten) hp6)
      generalize upd (upd H22 p5 _) p6 _ = H23 at e6' l6 ⊢
      have j2 : joinW (List.replicate 3000 [120]) = [120] ++ (List.replicate 2999 [32, 120]).flatten := joinW_rep [120] [120] 2999
      have j2l : (joinW (List.replicate 3000 [120])).length = 5999 := by
        rw [j2, List.length_append, rep_len]
        rfl
      walk_at "go"
      refine ⟨List.replicate 3000 [120], p6, rfl, .inr (.inl (.inl e6')), by rw [List.length_replicate]; decide, ?_, fun _ H24 hL24 => ?_, fun z => by rw [j2l] at z; omega⟩
      · intro w hw
        rw [(List.mem_replicate.mp hw).2]
        exact ⟨by decide, okx⟩
      rw [j2]
      walk_at "go"
      refine .inr (.inr ⟨_, 2999, rfl, rfl, by decide, by decide, by decide +kernel, ?_⟩)
      rw [show Txt.mul (tx [32, 120]) 2999 = tx (List.replicate 2999 [32, 120]).flatten from mul_tx _ 2999 (by decide)]
      refine .inr (.inl ⟨_, _, rfl, rfl, by rw [tx_len, rep_len]; decide +kernel, ?_⟩)
      refine .inl ⟨rfl, ?_⟩
      have e7 : Str.ofString "x" ++ tx (List.replicate 2999 [32, 120]).flatten = tx ([120] ++ (List.replicate 2999 [32, 120]).flatten) := by
        rw [show Str.ofString "x" = tx [120] by decide +kernel, s_add]
        rfl
      rw [e7, decide_eq_true rfl]
      walk_at "go"
      refine .inr (.inr ⟨_, 3000, rfl, rfl, by decide, by decide, by decide +kernel, ?_⟩)
      rw [show Str.ofString "x " = tx [120, 32] by decide +kernel, show Txt.mul (tx [120, 32]) 3000 = tx (List.replicate 3000 [120, 32]).flatten from mul_tx _ 3000 (by decide)]
      obtain ⟨R3, hR3, hrd3⟩ := rd_rep 3000 0 []
      have l24 := (l22.trans l6).trans hL24
      walk_at "go"
      refine ⟨by rw [rep_len]; decide, rep_all (by decide) _, l24.tabG ht18, fun rows hr H25 p25 xs25 hL25 e25 hT25 => ?_, fun n hr => by rw [hrd3] at hr; cases hr⟩
      rw [hrd3, List.nil_append] at hr
      obtain rfl := Except.ok.inj hr
      have hx25 := hT25.length
      rw [List.length_map, hR3] at hx25
      walk_at "go"
      refine ⟨_, _, rfl, .inr ⟨_, .inl (.inl e25), rfl⟩, ?_⟩
      refine .inl ⟨rfl, ?_⟩
      rw [hx25]
      walk_at "go"
      have l25 := l24.trans hL25
      -- too many
      refine ⟨tup_sz (by simp), fun p7 hp7 => ?_⟩
      walk_at "go"
      refine .inr (.inl ⟨p7, 3001, _, rfl, rfl, .inl (.inl upd_same), by simp, by decide, by decide, fun p8 hp8 => ?_⟩)
      have e8 : upd (upd H25 p7 (.tup [V.str (Str.ofString "x")])) p8 (.tup (List.replicate (Int.toNat 3001) [V.str (Str.ofString "x")]).flatten) p8 = some (.tup ((List.replicate 3001 [120]).map fun l => V.str (tx l))) := by
        rw [upd_same, rep_words1, show Str.ofString "x" = tx [120] by decide +kernel]
        rfl
      have l8 := (Le.new (o := .tup [V.str (Str.ofString "x")]) hp7).trans (Le.new (o := .tup (List.replicate (Int.toNat 3001) [V.str (Str.ofString "x")]).flatten) hp8)
      generalize upd (upd H25 p7 _) p8 _ = H26 at e8 l8 ⊢
      have j3 : joinW (List.replicate 3001 [120]) = [120] ++ (List.replicate 3000 [32, 120]).flatten := joinW_rep [120] [120] 3000
      have j3l : (joinW (List.replicate 3001 [120])).length = 6001 := by
        rw [j3, List.length_append, rep_len]
        rfl
      refine ⟨List.replicate 3001 [120], p8, rfl, .inr (.inl (.inl e8)), by rw [List.length_replicate]; decide, ?_, fun z => by rw [j3l] at z; omega, fun _ H27 hL27 => ?_⟩
      · intro w hw
        rw [(List.mem_replicate.mp hw).2]
        exact ⟨by decide, okx⟩
      refine ⟨true, hMany, fun _ ea hea => ?_, fun z => by cases z⟩
      have l27 := (l25.trans l8).trans hL27
      refine ⟨tup_sz (by simp), fun p9 hp9 => ?_⟩
      have l9 := Le.new (o := .tup []) hp9
      refine ⟨p9, rfl, .inl (.inl upd_same), ?_⟩
      have l28 := l27.trans l9
      walk_at "go"
      refine .inl ⟨rfl, ?_⟩
      walk_at "go"
      refine ifT (by decide +kernel) ?_
      walk_at "go"
      refine ⟨rfl, l28.tabG ht18, fun H29 p29 hL29 e29 => ?_⟩
      walk_at "go"
      refine ⟨tup_sz (by simp), fun p30 hp30 => ?_⟩
      refine .inr ⟨.tuple [], .tuple [], .tup (.inl (.inl ((Le.new hp30).tup e29))) .nil, .tup (.inl (.inl upd_same)) .nil, by decide, by decide, ?_⟩
      exact q _ ((hTop.trans l28).trans (hL29.trans (Le.new hp30)))
end
end K11
set_option Elab.async false
set_option linter.all false
set_option maxRecDepth 100000
set_option maxHeartbeats 4000000
namespace K11
open PySem PySem.Spec PyProof.Rows L2 Zl
local macro_rules | `(tactic| walk_at "go") => `(tactic| repeat (first | refine ⟨_, rfl, ?_⟩ | refine ⟨_, _, rfl, rfl, ?_⟩ | refine .inl ⟨_, _, rfl, rfl, ?_⟩))
local macro_rules | `(tactic| walk_at "isi") => `(tactic| first
  | refine isi_of (b := true) (.base (.int _)) (by decide +kernel) ?_ | refine isi_of (b := false) (.base (.int _)) (by decide +kernel) ?_
  | refine isi_of (b := true) (.base (.str _)) (by decide +kernel) ?_ | refine isi_of (b := false) (.base (.str _)) (by decide +kernel) ?_
  | refine isi_of (b := true) (ty_st (by assumption)) (by decide +kernel) ?_ | refine isi_of (b := false) (ty_st (by assumption)) (by decide +kernel) ?_
  | refine isi_of (b := true) (ty_sl (by assumption)) (by decide +kernel) ?_ | refine isi_of (b := false) (ty_sl (by assumption)) (by decide +kernel) ?_)
section
theorem no_empty {K : PySem.W.Frag} {h : Heap} {t : Addr} (free : (K.all fun e => !He.emptyTab e.2) = true) (X : K.In h) (ht : h.get? t = some { cls := .none, data := .fields #[] }) : K.lookup t = none := by
  cases e : K.lookup t with
  | none => rfl
  | some o =>
    have h1 := X _ _ e
    rw [ht] at h1
    cases h1
    have h2 := List.all_eq_true.mp free _ (He.lookup_mem e)
    cases h2
theorem sqT_in {K : PySem.W.Frag} {b : Addr} {xs : List V} {od : Option Addr} {its : Array Value} {n : Nat} {sl : Array (Option Value)} (l : K.lookup b = some ⟨.type "tuple", od, .seq its n, sl⟩) (z : its.size ≤ sizeLine) (v : Vals xs its.toList) (H : Hp) : SqT K H b xs := .inr ⟨_, _, _, l, rfl, rfl, z, v⟩
/-- a def's table, told by the head -/
theorem tab_there {p : Program} {loose : List Str} {mean : ExcName → Option Value} {K : PySem.W.Frag} {mg mb : Str → Option Value} {h : Heap} {x : Str} {st : Stmt} {ps : List Str} {f c : Addr} {fd : FuncData} (T : Top p loose mean mg mb h) (X : K.In h) (free : (K.all fun e => !He.emptyTab e.2) = true)
    (d : D K mg x st ps f c fd) (hx : ((recsOf p).any fun e => e.name == x) = true) : ∃ t, h.get? t = some { cls := .none, data := .fields #[] } ∧ K.lookup t = none ∧ PySem.W.CodeHd h c t := by
  obtain ⟨r, hr, hn⟩ := List.any_eq_true.mp hx
  obtain ⟨f', o, fd', c', t, g1, g2, g3, g4, g5, g6⟩ := T.tab r hr
  rw [beq_iff_eq.mp hn, d.g] at g1
  cases g1
  obtain ⟨oc, kV, doc, pm, ct, od, an, osl, e, lk, _⟩ := d.ex
  have g7 := X _ _ lk
  rw [g2] at g7
  cases g7
  cases g3
  rw [e] at g4
  cases g4
  exact ⟨t, g6.2, no_empty free X g6.2, .of g5 g6⟩
/-- the end, with what the head tells -/
theorem walk_told {l : PySem.W.OpenLaw} {n k : Nat} {q : Program} {loose : List Str} {XP : (Str → Option Value) → Heap → Prop} {YP : World → Heap → Prop} {d : DefRec} {K : Params → PySem.W.Frag} {x : Str}
    (hn : l.most = some n) (hm : n ≤ sizeLine) (hdf : d.params.defaults = []) (hr : Room k callerA) (hY : ∀ (w : World) (h : Heap), YP w h → (K w.params).In h)
    (F : ∀ (w : World) (s₀ : Shared) (mg mb : Str → Option Value) (fa : Addr) (h : Heap), PySem.W.Ground q loose [] XP w s₀ mg mb h → (K w.params).In h → mg d.name = some (.ref fa) → LamX.LawAtS l w (K w.params) CX0 k n x mg fa h) :
    PySem.W.WalkO q loose XP YP l.row.toRowW d [] (fun f vs => PySem.call f vs) := by
  refine Att.attach_callB hn hdf fun w s₀ s₁ mg mb fa o pm cd doc a vs ns G Y ho hd hcd hmg hobj hints hlen hbits hg => ?_
  obtain ⟨fd, cs, sp, t1, t2, t3, t4, t5, t6⟩ := F w s₀ mg mb fa _ G (hY w _ Y) hmg
  refine LamX.law_callTs (hY w _ Y) G.T.g G.T.b G.T.builtins G.T.nolimit hg t1 t2 t3 G.T.bmain hobj hints ?_ hr t6 t4 ?_ ?_
  · exact Nat.le_trans hlen hm
  · exact fun H z1 z2 => t5 H a ns hlen hbits z1 z2
  · exact fun H e s' z => z
theorem kit_no {K : PySem.W.Frag} {A B : Addr} (ne : (Value.ref A == Value.ref B) = false) (cB : PySem.W.isClsIn K B = true) (tB : PySem.W.typeIn K (.ref B) = some (.type "type")) (sB : PySem.W.subIn K (.ref A) (.ref B) = some false) : PySem.W.kitOne K (.ref A) (.ref B) = some false := by
  unfold PySem.W.kitOne
  rw [ne]
  show PySem.W.kitCls K (.ref A) (.ref B) = some false
  have cB' : (PySem.W.clsIn K B).isSome = true := cB
  unfold PySem.W.kitCls
  simp [cB', tB, sB]
theorem exm_me {K : PySem.W.Frag} {B : Addr} (xB : PySem.W.subIn K (.ref B) (.type "BaseException") = some true) (cB : PySem.W.isClsIn K B = true) (tB : PySem.W.typeIn K (.ref B) = some (.type "type")) (sB : PySem.W.subIn K (.ref B) (.ref B) = some true) : PySem.W.exmOne K (.ref B) (.ref B) = some true := by
  have cB' : (PySem.W.clsIn K B).isSome = true := cB
  unfold PySem.W.exmOne PySem.W.kitCls
  simp [cB', tB, sB, xB]
theorem mg_int {K : PySem.W.Frag} {mg : Str → Option Value} {h : Heap} {x : Str} {i : Int} {t : Tok} (X : K.In h) (G : h.Ns mainGlobals mg) (e : PySem.W.nsIn K mainGlobals x = some (some (.int i t))) : ∃ t, mg x = some (.int i t) := ⟨t, PySem.W.mg_of X G e⟩
theorem mg_str {K : PySem.W.Frag} {mg : Str → Option Value} {h : Heap} {x s s' : Str} {t : Tok} (X : K.In h) (G : h.Ns mainGlobals mg) (e : PySem.W.nsIn K mainGlobals x = some (some (.str s t))) (q : s = s') : ∃ t, mg x = some (.str s' t) := ⟨t, by rw [← q]; exact PySem.W.mg_of X G e⟩
theorem classes_mk {K : PySem.W.Frag} {mg : Str → Option Value} {h : Heap} {k1 k2 k3 k4 i e cda : Addr} (X : K.In h) (G : h.Ns mainGlobals mg)
    {nm qc N : _} {bs sn sub ab col dd c0 c1 c2 c3 c5 : _} {oc doc pm ct : Value} {od an : Option Addr} {osl : Array (Option Value)} {qual : Str} {p1 p2 q1 q2 q3 q4 q5 q6 q7 q8 q9 q10 q11 q12 q13 q14 : Pos}
    {ccl : Value} {cdd : Option Addr} {vs : Array Value} {ccs : Array (Option Value)} {file : Str} {tf : Tok} {cl : Value} {cld : Option Addr} {csl : Array (Option Value)}
    (m1 : PySem.W.nsIn K mainGlobals "MeaningError" = some (some (.ref k1))) (m2 : PySem.W.nsIn K mainGlobals "BadValue" = some (some (.ref k2))) (m3 : PySem.W.nsIn K mainGlobals "BadText" = some (some (.ref k3))) (m4 : PySem.W.nsIn K mainGlobals "TooMany" = some (some (.ref k4)))
    (n2 : PySem.W.keepIn K (.ref k4) = true) (n3 : PySem.W.excIn K k4 [.type "Exception", .type "BaseException", .type "object"] "Exception.__new__" = true) (n4 : PySem.W.subIn K (.ref k4) (.type "BaseException") = some true) (n5 : PySem.W.typeIn K (.ref k4) = some (.type "type"))
    (n6 : PySem.W.isClsIn K k4 = true) (n7 : PySem.W.subIn K (.ref k4) (.ref k4) = some true)
    (b1 : (Value.ref k3 == Value.ref k2) = false) (b2 : PySem.W.isClsIn K k2 = true) (b3 : PySem.W.typeIn K (.ref k2) = some (.type "type")) (b4 : PySem.W.subIn K (.ref k3) (.ref k2) = some false)
    (lk : K.lookup k3 = some (excClassObj nm qc k3 N bs (.ref k1 :: ESX.exTail) true sn sub ab col dd c0 c1 c2 c3 c5 "Exception.__new__"))
    (sa : PySem.W.findIn K (.ref k3) "__setattr__" = some (some (.builtin "object.__setattr__"))) (ga : PySem.W.findIn K (.ref k3) "__getattribute__" = some (some (.builtin "BaseException.__getattribute__"))) (gg : PySem.W.findIn K (.ref k3) "__getattr__" = some none)
    (noN : PySem.W.findIn K (.ref k3) "at" = some none) (iC : PySem.W.findIn K (.ref k3) "__init__" = some (some (.ref i))) (tI : PySem.W.typeIn K (.ref i) = some (.type "function")) (kC : PySem.W.keepIn K (.ref k3) = true) (exC : PySem.W.subIn K (.ref k3) (.type "BaseException") = some true)
    (exE : PySem.W.subIn K (.ref k3) (.type "Exception") = some true) (tyC : PySem.W.typeIn K (.ref k3) = some (.type "type")) (hdC : PySem.W.hasDictIn K k3 = true) (slf : PySem.W.mroIn K k3 (.ref k3) = some true) (along : PySem.W.alongIn K "__init__" (.ref k1 :: ESX.exTail) = some (some (.builtin "Exception.__init__")))
    (opq : PySem.W.nsIn K PySem.cStatics "thirdparty.any" = some none) (isC : PySem.W.isClsIn K k3 = true) (sC : PySem.W.subIn K (.ref k3) (.ref k3) = some true)
    (f1 : K.lookup i = some ⟨oc, od, .func (PySem.W.ksFn "__init__" qual (Sup.argsOf "at" p1 p2) (Sup.bodyOf "not to be read at " "at" q1 q2 q3 q4 q5 q6 q7 q8 q9 q10 q11 q12 q13 q14) (Sup.scopeOf "at") .none .none doc pm an (.ref cda) ct e), osl⟩) (f2 : PySem.W.codeIn K (.ref cda) qual = true)
    (f4 : K.lookup cda = some ⟨ccl, cdd, .fields vs, ccs⟩) (f3 : (q3.endLine == q9.line) = true) (f5 : vs[2]? = some (.str file tf)) (f6 : ((prg.main.file : Str) == file) = true) (ce : K.lookup e = some ⟨cl, cld, .cell (some (.ref k3)), csl⟩)
    (clsA : PySem.W.findIn K (.ref k3) "__class__" = some (some (.builtin "object.__class__"))) (getA : PySem.W.specialIn K (.builtin "object.__class__") "__get__" = some (some (.builtin "getset_descriptor.__get__"))) (tkA : PySem.W.takesIn K (.builtin "object.__class__") = some true) (obA : PySem.W.mroIn K k3 (.type "object") = some true)
    (top : (prg.main.scope.names.lookup ("super" : Str)).isSome = false) (su : PySem.W.nsIn K mainGlobals "super" = some none) (st : PySem.W.nsIn K mainGlobals "str" = some none) :
    ∃ k1 k2 k3 k4 i e, mg "MeaningError" = some (.ref k1) ∧ mg "BadValue" = some (.ref k2) ∧ mg "BadText" = some (.ref k3) ∧ mg "TooMany" = some (.ref k4) ∧ OwnX K mg "TooMany" k4 ∧ Sup.Txt prg K mg "BadText" "not to be read at " k3 k1 i e ∧ PySem.W.kitOne K (.ref k3) (.ref k2) = some false ∧ PySem.W.exmOne K (.ref k4) (.ref k4) = some true :=
  ⟨k1, k2, k3, k4, i, e, PySem.W.mg_of X G m1, PySem.W.mg_of X G m2, PySem.W.mg_of X G m3, PySem.W.mg_of X G m4, ⟨PySem.W.mg_of X G m4, n2, n3, n4, n5⟩,
    { gC := PySem.W.mg_of X G m3, cls := ⟨_, _, _, _, _, _, _, _, _, _, _, _, _, _, lk⟩, sa := sa, ga := ga, gg := gg, noN := noN, iC := iC, tI := tI, kC := kC, exC := exC, exE := exE, tyC := tyC, hdC := hdC, self := slf, along := along, opq := opq, te := exm_me exC isC tyC sC,
      fn := ⟨_, _, _, _, _, _, _, _, _, _, _, _, _, _, _, _, _, _, _, _, _, _, _, _, _, f1, f2, f3, _, _, _, _, _, _, f4, f5, f6⟩, cell := ⟨_, _, _, ce⟩, clsA := clsA, getA := getA, tkA := tkA, obA := obA, top := top, sup := PySem.W.mg_none_of X G su, str := PySem.W.mg_none_of X G st },
    kit_no b1 b2 b3 b4, exm_me n4 n6 n5 n7⟩
end
end K11
set_option Elab.async false
set_option linter.all false
set_option maxRecDepth 100000
set_option pp.proofs false
open PySem PySem.W PyProof.Rows
set_option maxHeartbeats 0 in
theorem PySem.Challenge.cw_runsasmeant_k11_whole_words_by_own_readi_holds : PySem.Challenge.rw_runsasmeant_k11_whole_words_by_own_readi.Holds := by
  w_on; o_law; k_head; (case hw => w_witness2)
  k_fill
  refine K11.walk_told (k := 6) (n := 63) (x := "script") rfl (by decide) rfl ⟨rfl, by decide, by decide⟩ (fun w h Y => PySem.W.kIn_of Y) ?F
  intro w s₀ mg mb fa h G KX hmg
  replace hmg : mg "law" = some (.ref fa) := hmg
  have free : (List.all (PySem.Challenge.cw_runsasmeant_k11_whole_words_by_own_readi_holds.heap_39 w.params) fun e => !He.emptyTab e.2) = true := by rfl
  obtain ⟨f_is_number, c_is_number, r_is_number, d_is_number⟩ : ∃ f c fd, Zl.D (PySem.Challenge.cw_runsasmeant_k11_whole_words_by_own_readi_holds.heap_39 w.params) mg "is_number" K11.s_is_number K11.p_is_number f c fd := by
    refine' ⟨_, _, _, Zl.d_mk KX G.T.g ?g_is_number ?l_is_number ?hc_is_number ?kp_is_number (fun us hl => match us, hl with | [_], _ => rfl)⟩
    case g_is_number => k_is
    case l_is_number => k_is
    case hc_is_number => k_is
    case kp_is_number => k_is
  obtain ⟨f_is_within, c_is_within, r_is_within, d_is_within⟩ : ∃ f c fd, Zl.D (PySem.Challenge.cw_runsasmeant_k11_whole_words_by_own_readi_holds.heap_39 w.params) mg "is_within" K11.s_is_within K11.p_is_within f c fd := by
    refine' ⟨_, _, _, Zl.d_mk KX G.T.g ?g_is_within ?l_is_within ?hc_is_within ?kp_is_within (fun us hl => match us, hl with | [_, _, _], _ => rfl)⟩
    case g_is_within => k_is
    case l_is_within => k_is
    case hc_is_within => k_is
    case kp_is_within => k_is
  obtain ⟨f_is_row, c_is_row, r_is_row, d_is_row⟩ : ∃ f c fd, Zl.D (PySem.Challenge.cw_runsasmeant_k11_whole_words_by_own_readi_holds.heap_39 w.params) mg "is_row" K11.s_is_row K11.p_is_row f c fd := by
    refine' ⟨_, _, _, Zl.d_mk KX G.T.g ?g_is_row ?l_is_row ?hc_is_row ?kp_is_row (fun us hl => match us, hl with | [_], _ => rfl)⟩
    case g_is_row => k_is
    case l_is_row => k_is
    case hc_is_row => k_is
    case kp_is_row => k_is
  obtain ⟨f_is_text, c_is_text, r_is_text, d_is_text⟩ : ∃ f c fd, Zl.D (PySem.Challenge.cw_runsasmeant_k11_whole_words_by_own_readi_holds.heap_39 w.params) mg "is_text" K11.s_is_text K11.p_is_text f c fd := by
    refine' ⟨_, _, _, Zl.d_mk KX G.T.g ?g_is_text ?l_is_text ?hc_is_text ?kp_is_text (fun us hl => match us, hl with | [_], _ => rfl)⟩
    case g_is_text => k_is
    case l_is_text => k_is
    case hc_is_text => k_is
    case kp_is_text => k_is
  obtain ⟨f_ask_text, c_ask_text, r_ask_text, d_ask_text⟩ : ∃ f c fd, Zl.D (PySem.Challenge.cw_runsasmeant_k11_whole_words_by_own_readi_holds.heap_39 w.params) mg "ask_text" K11.s_ask_text K11.p_ask_text f c fd := by
    refine' ⟨_, _, _, Zl.d_mk KX G.T.g ?g_ask_text ?l_ask_text ?hc_ask_text ?kp_ask_text (fun us hl => match us, hl with | [_, _], _ => rfl)⟩
    case g_ask_text => k_is
    case l_ask_text => k_is
    case hc_ask_text => k_is
    case kp_ask_text => k_is
  obtain ⟨f_run_until, c_run_until, r_run_until, d_run_until⟩ : ∃ f c fd, Zl.D (PySem.Challenge.cw_runsasmeant_k11_whole_words_by_own_readi_holds.heap_39 w.params) mg "run_until" K11.s_run_until K11.p_run_until f c fd := by
    refine' ⟨_, _, _, Zl.d_mk KX G.T.g ?g_run_until ?l_run_until ?hc_run_until ?kp_run_until (fun us hl => match us, hl with | [_, _, _], _ => rfl)⟩
    case g_run_until => k_is
    case l_run_until => k_is
    case hc_run_until => k_is
    case kp_run_until => k_is
  obtain ⟨f_number_until, c_number_until, r_number_until, d_number_until⟩ : ∃ f c fd, Zl.D (PySem.Challenge.cw_runsasmeant_k11_whole_words_by_own_readi_holds.heap_39 w.params) mg "number_until" K11.s_number_until K11.p_number_until f c fd := by
    refine' ⟨_, _, _, Zl.d_mk KX G.T.g ?g_number_until ?l_number_until ?hc_number_until ?kp_number_until (fun us hl => match us, hl with | [_, _], _ => rfl)⟩
    case g_number_until => k_is
    case l_number_until => k_is
    case hc_number_until => k_is
    case kp_number_until => k_is
  obtain ⟨f_word_at, c_word_at, r_word_at, d_word_at⟩ : ∃ f c fd, Zl.D (PySem.Challenge.cw_runsasmeant_k11_whole_words_by_own_readi_holds.heap_39 w.params) mg "word_at" K11.s_word_at K11.p_word_at f c fd := by
    refine' ⟨_, _, _, Zl.d_mk KX G.T.g ?g_word_at ?l_word_at ?hc_word_at ?kp_word_at (fun us hl => match us, hl with | [_, _], _ => rfl)⟩
    case g_word_at => k_is
    case l_word_at => k_is
    case hc_word_at => k_is
    case kp_word_at => k_is
  obtain ⟨f_words_of, c_words_of, r_words_of, d_words_of⟩ : ∃ f c fd, Zl.D (PySem.Challenge.cw_runsasmeant_k11_whole_words_by_own_readi_holds.heap_39 w.params) mg "words_of" K11.s_words_of K11.p_words_of f c fd := by
    refine' ⟨_, _, _, Zl.d_mk KX G.T.g ?g_words_of ?l_words_of ?hc_words_of ?kp_words_of (fun us hl => match us, hl with | [_], _ => rfl)⟩
    case g_words_of => k_is
    case l_words_of => k_is
    case hc_words_of => k_is
    case kp_words_of => k_is
  obtain ⟨f_sort_in, c_sort_in, r_sort_in, d_sort_in⟩ : ∃ f c fd, Zl.D (PySem.Challenge.cw_runsasmeant_k11_whole_words_by_own_readi_holds.heap_39 w.params) mg "sort_in" K11.s_sort_in K11.p_sort_in f c fd := by
    refine' ⟨_, _, _, Zl.d_mk KX G.T.g ?g_sort_in ?l_sort_in ?hc_sort_in ?kp_sort_in (fun us hl => match us, hl with | [_], _ => rfl)⟩
    case g_sort_in => k_is
    case l_sort_in => k_is
    case hc_sort_in => k_is
    case kp_sort_in => k_is
  obtain ⟨f_joined, c_joined, r_joined, d_joined⟩ : ∃ f c fd, Zl.D (PySem.Challenge.cw_runsasmeant_k11_whole_words_by_own_readi_holds.heap_39 w.params) mg "joined" K11.s_joined K11.p_joined f c fd := by
    refine' ⟨_, _, _, Zl.d_mk KX G.T.g ?g_joined ?l_joined ?hc_joined ?kp_joined (fun us hl => match us, hl with | [_], _ => rfl)⟩
    case g_joined => k_is
    case l_joined => k_is
    case hc_joined => k_is
    case kp_joined => k_is
  obtain ⟨f_laid, c_laid, r_laid, d_laid⟩ : ∃ f c fd, Zl.D (PySem.Challenge.cw_runsasmeant_k11_whole_words_by_own_readi_holds.heap_39 w.params) mg "laid" K11.s_laid K11.p_laid f c fd := by
    refine' ⟨_, _, _, Zl.d_mk KX G.T.g ?g_laid ?l_laid ?hc_laid ?kp_laid (fun us hl => match us, hl with | [_], _ => rfl)⟩
    case g_laid => k_is
    case l_laid => k_is
    case hc_laid => k_is
    case kp_laid => k_is
  obtain ⟨f_is_word, c_is_word, r_is_word, d_is_word⟩ : ∃ f c fd, Zl.D (PySem.Challenge.cw_runsasmeant_k11_whole_words_by_own_readi_holds.heap_39 w.params) mg "is_word" K11.s_is_word K11.p_is_word f c fd := by
    refine' ⟨_, _, _, Zl.d_mk KX G.T.g ?g_is_word ?l_is_word ?hc_is_word ?kp_is_word (fun us hl => match us, hl with | [_], _ => rfl)⟩
    case g_is_word => k_is
    case l_is_word => k_is
    case hc_is_word => k_is
    case kp_is_word => k_is
  obtain ⟨f_sort_of, c_sort_of, r_sort_of, d_sort_of⟩ : ∃ f c fd, Zl.D (PySem.Challenge.cw_runsasmeant_k11_whole_words_by_own_readi_holds.heap_39 w.params) mg "sort_of" K11.s_sort_of K11.p_sort_of f c fd := by
    refine' ⟨_, _, _, Zl.d_mk KX G.T.g ?g_sort_of ?l_sort_of ?hc_sort_of ?kp_sort_of (fun us hl => match us, hl with | [_], _ => rfl)⟩
    case g_sort_of => k_is
    case l_sort_of => k_is
    case hc_sort_of => k_is
    case kp_sort_of => k_is
  obtain ⟨f_line_begins, c_line_begins, r_line_begins, d_line_begins⟩ : ∃ f c fd, Zl.D (PySem.Challenge.cw_runsasmeant_k11_whole_words_by_own_readi_holds.heap_39 w.params) mg "line_begins" K11.s_line_begins K11.p_line_begins f c fd := by
    refine' ⟨_, _, _, Zl.d_mk KX G.T.g ?g_line_begins ?l_line_begins ?hc_line_begins ?kp_line_begins (fun us hl => match us, hl with | [_], _ => rfl)⟩
    case g_line_begins => k_is
    case l_line_begins => k_is
    case hc_line_begins => k_is
    case kp_line_begins => k_is
  obtain ⟨f_lines_of, c_lines_of, r_lines_of, d_lines_of⟩ : ∃ f c fd, Zl.D (PySem.Challenge.cw_runsasmeant_k11_whole_words_by_own_readi_holds.heap_39 w.params) mg "lines_of" K11.s_lines_of K11.p_lines_of f c fd := by
    refine' ⟨_, _, _, Zl.d_mk KX G.T.g ?g_lines_of ?l_lines_of ?hc_lines_of ?kp_lines_of (fun us hl => match us, hl with | [_], _ => rfl)⟩
    case g_lines_of => k_is
    case l_lines_of => k_is
    case hc_lines_of => k_is
    case kp_lines_of => k_is
  obtain ⟨f_line_at, c_line_at, r_line_at, d_line_at⟩ : ∃ f c fd, Zl.D (PySem.Challenge.cw_runsasmeant_k11_whole_words_by_own_readi_holds.heap_39 w.params) mg "line_at" K11.s_line_at K11.p_line_at f c fd := by
    refine' ⟨_, _, _, Zl.d_mk KX G.T.g ?g_line_at ?l_line_at ?hc_line_at ?kp_line_at (fun us hl => match us, hl with | [_, _], _ => rfl)⟩
    case g_line_at => k_is
    case l_line_at => k_is
    case hc_line_at => k_is
    case kp_line_at => k_is
  obtain ⟨f__law_power, c__law_power, r__law_power, d__law_power⟩ : ∃ f c fd, Zl.D (PySem.Challenge.cw_runsasmeant_k11_whole_words_by_own_readi_holds.heap_39 w.params) mg "_law_power" K11.s__law_power K11.p__law_power f c fd := by
    refine' ⟨_, _, _, Zl.d_mk KX G.T.g ?g__law_power ?l__law_power ?hc__law_power ?kp__law_power (fun us hl => match us, hl with | [_, _], _ => rfl)⟩
    case g__law_power => k_is
    case l__law_power => k_is
    case hc__law_power => k_is
    case kp__law_power => k_is
  obtain ⟨f__law_cell, c__law_cell, r__law_cell, d__law_cell⟩ : ∃ f c fd, Zl.D (PySem.Challenge.cw_runsasmeant_k11_whole_words_by_own_readi_holds.heap_39 w.params) mg "_law_cell" K11.s__law_cell K11.p__law_cell f c fd := by
    refine' ⟨_, _, _, Zl.d_mk KX G.T.g ?g__law_cell ?l__law_cell ?hc__law_cell ?kp__law_cell (fun us hl => match us, hl with | [_, _], _ => rfl)⟩
    case g__law_cell => k_is
    case l__law_cell => k_is
    case hc__law_cell => k_is
    case kp__law_cell => k_is
  obtain ⟨f__law_numbers, c__law_numbers, r__law_numbers, d__law_numbers⟩ : ∃ f c fd, Zl.D (PySem.Challenge.cw_runsasmeant_k11_whole_words_by_own_readi_holds.heap_39 w.params) mg "_law_numbers" K11.s__law_numbers K11.p__law_numbers f c fd := by
    refine' ⟨_, _, _, Zl.d_mk KX G.T.g ?g__law_numbers ?l__law_numbers ?hc__law_numbers ?kp__law_numbers (fun us hl => match us, hl with | [_, _, _], _ => rfl)⟩
    case g__law_numbers => k_is
    case l__law_numbers => k_is
    case hc__law_numbers => k_is
    case kp__law_numbers => k_is
  obtain ⟨f__law_same, c__law_same, r__law_same, d__law_same⟩ : ∃ f c fd, Zl.D (PySem.Challenge.cw_runsasmeant_k11_whole_words_by_own_readi_holds.heap_39 w.params) mg "_law_same" K11.s__law_same K11.p__law_same f c fd := by
    refine' ⟨_, _, _, Zl.d_mk KX G.T.g ?g__law_same ?l__law_same ?hc__law_same ?kp__law_same (fun us hl => match us, hl with | [_, _], _ => rfl)⟩
    case g__law_same => k_is
    case l__law_same => k_is
    case hc__law_same => k_is
    case kp__law_same => k_is
  obtain ⟨f__law_keys, c__law_keys, r__law_keys, d__law_keys⟩ : ∃ f c fd, Zl.D (PySem.Challenge.cw_runsasmeant_k11_whole_words_by_own_readi_holds.heap_39 w.params) mg "_law_keys" K11.s__law_keys K11.p__law_keys f c fd := by
    refine' ⟨_, _, _, Zl.d_mk KX G.T.g ?g__law_keys ?l__law_keys ?hc__law_keys ?kp__law_keys (fun us hl => match us, hl with | [], _ => rfl)⟩
    case g__law_keys => k_is
    case l__law_keys => k_is
    case hc__law_keys => k_is
    case kp__law_keys => k_is
  obtain ⟨f__law_tokens, c__law_tokens, r__law_tokens, d__law_tokens⟩ : ∃ f c fd, Zl.D (PySem.Challenge.cw_runsasmeant_k11_whole_words_by_own_readi_holds.heap_39 w.params) mg "_law_tokens" K11.s__law_tokens K11.p__law_tokens f c fd := by
    refine' ⟨_, _, _, Zl.d_mk KX G.T.g ?g__law_tokens ?l__law_tokens ?hc__law_tokens ?kp__law_tokens (fun us hl => match us, hl with | [_], _ => rfl)⟩
    case g__law_tokens => k_is
    case l__law_tokens => k_is
    case hc__law_tokens => k_is
    case kp__law_tokens => k_is
  obtain ⟨f__law_told, c__law_told, r__law_told, d__law_told⟩ : ∃ f c fd, Zl.D (PySem.Challenge.cw_runsasmeant_k11_whole_words_by_own_readi_holds.heap_39 w.params) mg "_law_told" K11.s__law_told K11.p__law_told f c fd := by
    refine' ⟨_, _, _, Zl.d_mk KX G.T.g ?g__law_told ?l__law_told ?hc__law_told ?kp__law_told (fun us hl => match us, hl with | [_], _ => rfl)⟩
    case g__law_told => k_is
    case l__law_told => k_is
    case hc__law_told => k_is
    case kp__law_told => k_is
  obtain ⟨f_law, c_law, r_law, d_law⟩ : ∃ f c fd, Zl.D (PySem.Challenge.cw_runsasmeant_k11_whole_words_by_own_readi_holds.heap_39 w.params) mg "law" K11.s_law K11.p_law f c fd := by
    refine' ⟨_, _, _, Zl.d_mk KX G.T.g ?g_law ?l_law ?hc_law ?kp_law (fun us hl => match us, hl with | [_], _ => rfl)⟩
    case g_law => k_is
    case l_law => k_is
    case hc_law => k_is
    case kp_law => k_is
  obtain ⟨t_LOWER, m_LOWER⟩ : ∃ t, mg "LOWER" = some (.str (Zl.tx K11.lowS) t) := by
    refine' K11.mg_str KX G.T.g ?h_LOWER ?e_LOWER
    case h_LOWER => k_is
    case e_LOWER => decide +kernel
  obtain ⟨t_UPPER, m_UPPER⟩ : ∃ t, mg "UPPER" = some (.str (Zl.tx K11.upS) t) := by
    refine' K11.mg_str KX G.T.g ?h_UPPER ?e_UPPER
    case h_UPPER => k_is
    case e_UPPER => decide +kernel
  obtain ⟨t_FIGURES, m_FIGURES⟩ : ∃ t, mg "FIGURES" = some (.str (Zl.tx K11.figS) t) := by
    refine' K11.mg_str KX G.T.g ?h_FIGURES ?e_FIGURES
    case h_FIGURES => k_is
    case e_FIGURES => decide +kernel
  obtain ⟨t_NAME_SIGNS, m_NAME_SIGNS⟩ : ∃ t, mg "NAME_SIGNS" = some (.str (Zl.tx K11.nameS) t) := by
    obtain ⟨v, e1, e2⟩ := G.X.2.val _ List.mem_cons_self
    cases e2
    exact ⟨_, e1⟩
  obtain ⟨t_MAKER_SIGNS, m_MAKER_SIGNS⟩ : ∃ t, mg "MAKER_SIGNS" = some (.str (Zl.tx K11.makerS) t) := by
    obtain ⟨v, e1, e2⟩ := G.X.2.val _ (List.mem_cons_of_mem _ List.mem_cons_self)
    cases e2
    exact ⟨_, e1⟩
  obtain ⟨t_MOST_SIGNS, m_MOST_SIGNS⟩ : ∃ t, mg "MOST_SIGNS" = some (.int 6000 t) := by
    refine' K11.mg_int KX G.T.g ?h_MOST_SIGNS
    case h_MOST_SIGNS => k_is
  obtain ⟨t_MOST_WORD, m_MOST_WORD⟩ : ∃ t, mg "MOST_WORD" = some (.int 12 t) := by
    refine' K11.mg_int KX G.T.g ?h_MOST_WORD
    case h_MOST_WORD => k_is
  obtain ⟨a_KEYS, m_KEYS, q_KEYS⟩ : ∃ p, mg "KEYS" = some (.ref p) ∧ ∀ H, L2.SqT (PySem.Challenge.cw_runsasmeant_k11_whole_words_by_own_readi_holds.heap_39 w.params) H p (K11.keysL.map fun l => L2.V.str (Zl.tx l)) := by
    refine' ⟨_, PySem.W.mg_of KX G.T.g ?h_KEYS, K11.sqT_in ?l_KEYS ?z_KEYS ?v_KEYS⟩
    case h_KEYS => k_is
    case l_KEYS => k_is
    case z_KEYS => decide
    case v_KEYS => repeat (first | exact .nil | refine .cons ⟨_, rfl⟩ ?_)
  obtain ⟨a_MARKS, m_MARKS, q_MARKS⟩ : ∃ p, mg "MARKS" = some (.ref p) ∧ ∀ H, L2.SqT (PySem.Challenge.cw_runsasmeant_k11_whole_words_by_own_readi_holds.heap_39 w.params) H p (K11.marksP.map fun l => L2.V.str (Zl.tx l)) := by
    refine' ⟨_, PySem.W.mg_of KX G.T.g ?h_MARKS, K11.sqT_in ?l_MARKS ?z_MARKS ?v_MARKS⟩
    case h_MARKS => k_is
    case l_MARKS => k_is
    case z_MARKS => decide
    case v_MARKS => repeat (first | exact .nil | refine .cons ⟨_, rfl⟩ ?_)
  have m_all : mg "all" = none := PySem.W.mg_none_of KX G.T.g (by k_is)
  have m_bool : mg "bool" = none := PySem.W.mg_none_of KX G.T.g (by k_is)
  have m_int : mg "int" = none := PySem.W.mg_none_of KX G.T.g (by k_is)
  have m_isinstance : mg "isinstance" = none := PySem.W.mg_none_of KX G.T.g (by k_is)
  have m_len : mg "len" = none := PySem.W.mg_none_of KX G.T.g (by k_is)
  have m_list : mg "list" = none := PySem.W.mg_none_of KX G.T.g (by k_is)
  have m_max : mg "max" = none := PySem.W.mg_none_of KX G.T.g (by k_is)
  have m_range : mg "range" = none := PySem.W.mg_none_of KX G.T.g (by k_is)
  have m_str : mg "str" = none := PySem.W.mg_none_of KX G.T.g (by k_is)
  have m_tuple : mg "tuple" = none := PySem.W.mg_none_of KX G.T.g (by k_is)
  obtain ⟨k_MeaningError, k_BadValue, k_BadText, k_TooMany, i_BadText, e_BadText, m_MeaningError, m_BadValue, m_BadText, m_TooMany, x_TooMany, x_BadText, hBad, hMany⟩ : ∃ k1 k2 k3 k4 i e, mg "MeaningError" = some (.ref k1) ∧ mg "BadValue" = some (.ref k2) ∧ mg "BadText" = some (.ref k3) ∧ mg "TooMany" = some (.ref k4) ∧ Zl.OwnX (PySem.Challenge.cw_runsasmeant_k11_whole_words_by_own_readi_holds.heap_39 w.params) mg "TooMany" k4 ∧ Sup.Txt K11.prg (PySem.Challenge.cw_runsasmeant_k11_whole_words_by_own_readi_holds.heap_39 w.params) mg "BadText" "not to be read at " k3 k1 i e ∧ PySem.W.kitOne (PySem.Challenge.cw_runsasmeant_k11_whole_words_by_own_readi_holds.heap_39 w.params) (.ref k3) (.ref k2) = some false ∧ PySem.W.exmOne (PySem.Challenge.cw_runsasmeant_k11_whole_words_by_own_readi_holds.heap_39 w.params) (.ref k4) (.ref k4) = some true := by
    refine' K11.classes_mk KX G.T.g ?K_m1 ?K_m2 ?K_m3 ?K_m4 ?K_n2 ?K_n3 ?K_n4 ?K_n5 ?K_n6 ?K_n7 ?K_b1 ?K_b2 ?K_b3 ?K_b4 ?K_lk ?K_sa ?K_ga ?K_gg ?K_noN ?K_iC ?K_tI ?K_kC ?K_exC ?K_exE ?K_tyC ?K_hdC ?K_slf ?K_along ?K_opq ?K_isC ?K_sC ?K_f1 ?K_f2 ?K_f4 ?K_f3 ?K_f5 ?K_f6 ?K_ce ?K_clsA ?K_getA ?K_tkA ?K_obA ?K_top ?K_su ?K_st
    case K_m1 => k_is
    case K_m2 => k_is
    case K_m3 => k_is
    case K_m4 => k_is
    case K_n2 => k_is
    case K_n3 => k_exc
    case K_n4 => k_is
    case K_n5 => k_is
    case K_n6 => k_is
    case K_n7 => k_is
    case K_b1 => first | rfl | decide
    case K_b2 => k_is
    case K_b3 => k_is
    case K_b4 => k_is
    case K_lk => k_is
    case K_sa => k_is
    case K_ga => k_is
    case K_gg => k_is
    case K_noN => k_is
    case K_iC => k_is
    case K_tI => k_is
    case K_kC => k_is
    case K_exC => k_is
    case K_exE => k_is
    case K_tyC => k_is
    case K_hdC => k_is
    case K_slf => k_is
    case K_along => first | rfl | k_is
    case K_opq => k_is
    case K_isC => k_is
    case K_sC => k_is
    case K_f1 => k_is
    case K_f2 => k_is
    case K_f4 => k_is
    case K_f3 => rfl
    case K_f5 => rfl
    case K_f6 => decide +kernel
    case K_ce => k_is
    case K_clsA => k_is
    case K_getA => k_is
    case K_tkA => k_is
    case K_obA => k_is
    case K_top => decide +kernel
    case K_su => k_is
    case K_st => k_is
  obtain ⟨tb, tb1, tb2, tb3⟩ := K11.tab_there G.T KX free d_is_text (by decide +kernel)
  let a : K11.Ad := {
    f_is_number := f_is_number, c_is_number := c_is_number, d_is_number := r_is_number, f_is_within := f_is_within, c_is_within := c_is_within, d_is_within := r_is_within, f_is_row := f_is_row, c_is_row := c_is_row, d_is_row := r_is_row, f_is_text := f_is_text, c_is_text := c_is_text, d_is_text := r_is_text, f_ask_text := f_ask_text, c_ask_text := c_ask_text, d_ask_text := r_ask_text, f_run_until := f_run_until, c_run_until := c_run_until, d_run_until := r_run_until, f_number_until := f_number_until, c_number_until := c_number_until, d_number_until := r_number_until, f_word_at := f_word_at, c_word_at := c_word_at, d_word_at := r_word_at, f_words_of := f_words_of, c_words_of := c_words_of, d_words_of := r_words_of, f_sort_in := f_sort_in, c_sort_in := c_sort_in, d_sort_in := r_sort_in, f_joined := f_joined, c_joined := c_joined, d_joined := r_joined, f_laid := f_laid, c_laid := c_laid, d_laid := r_laid, f_is_word := f_is_word, c_is_word := c_is_word, d_is_word := r_is_word, f_sort_of := f_sort_of, c_sort_of := c_sort_of, d_sort_of := r_sort_of, f_line_begins := f_line_begins, c_line_begins := c_line_begins, d_line_begins := r_line_begins, f_lines_of := f_lines_of, c_lines_of := c_lines_of, d_lines_of := r_lines_of, f_line_at := f_line_at, c_line_at := c_line_at, d_line_at := r_line_at, f__law_power := f__law_power, c__law_power := c__law_power, d__law_power := r__law_power, f__law_cell := f__law_cell, c__law_cell := c__law_cell, d__law_cell := r__law_cell, f__law_numbers := f__law_numbers, c__law_numbers := c__law_numbers, d__law_numbers := r__law_numbers, f__law_same := f__law_same, c__law_same := c__law_same, d__law_same := r__law_same, f__law_keys := f__law_keys, c__law_keys := c__law_keys, d__law_keys := r__law_keys, f__law_tokens := f__law_tokens, c__law_tokens := c__law_tokens, d__law_tokens := r__law_tokens, f__law_told := f__law_told, c__law_told := c__law_told, d__law_told := r__law_told, f_law := f_law, c_law := c_law, d_law := r_law, t_LOWER := t_LOWER, t_UPPER := t_UPPER, t_FIGURES := t_FIGURES, t_NAME_SIGNS := t_NAME_SIGNS, t_MAKER_SIGNS := t_MAKER_SIGNS, t_MOST_SIGNS := t_MOST_SIGNS, t_MOST_WORD := t_MOST_WORD, a_KEYS := a_KEYS, a_MARKS := a_MARKS, k_MeaningError := k_MeaningError, k_BadValue := k_BadValue, k_BadText := k_BadText, k_TooMany := k_TooMany, i_BadText := i_BadText, e_BadText := e_BadText, tab_is_text := tb }
  have T : K11.Txt (PySem.Challenge.cw_runsasmeant_k11_whole_words_by_own_readi_holds.heap_39 w.params) mg a := { d_is_number := d_is_number, d_is_within := d_is_within, d_is_row := d_is_row, d_is_text := d_is_text, d_ask_text := d_ask_text, d_run_until := d_run_until, d_number_until := d_number_until, d_word_at := d_word_at, d_words_of := d_words_of, d_sort_in := d_sort_in, d_joined := d_joined, d_laid := d_laid, d_is_word := d_is_word, d_sort_of := d_sort_of, d_line_begins := d_line_begins, d_lines_of := d_lines_of, d_line_at := d_line_at, d__law_power := d__law_power, d__law_cell := d__law_cell, d__law_numbers := d__law_numbers, d__law_same := d__law_same, d__law_keys := d__law_keys, d__law_tokens := d__law_tokens, d__law_told := d__law_told, d_law := d_law, m_KEYS := m_KEYS, q_KEYS := q_KEYS, m_LOWER := m_LOWER, m_UPPER := m_UPPER, m_FIGURES := m_FIGURES, m_MOST_SIGNS := m_MOST_SIGNS, m_MOST_WORD := m_MOST_WORD, m_NAME_SIGNS := m_NAME_SIGNS, m_MAKER_SIGNS := m_MAKER_SIGNS, m_MARKS := m_MARKS, q_MARKS := q_MARKS, m_all := m_all, m_bool := m_bool, m_int := m_int, m_isinstance := m_isinstance, m_len := m_len, m_list := m_list, m_max := m_max, m_range := m_range, m_str := m_str, m_tuple := m_tuple, m_MeaningError := m_MeaningError, m_BadValue := m_BadValue, m_BadText := m_BadText, m_TooMany := m_TooMany, x_TooMany := x_TooMany, x_BadText := x_BadText }
  have efa : f_law = fa := by
    have z := d_law.g.symm.trans hmg
    cases z
    rfl
  subst efa
  refine ⟨r_law, [(c_is_text, tb)], K11.spLaw (PySem.Challenge.cw_runsasmeant_k11_whole_words_by_own_readi_holds.heap_39 w.params) a, ?_, ?_, ?_, ?_, ?_, ?_⟩
  · exact fun p hp => by obtain rfl := List.mem_singleton.mp hp; exact tb1
  · exact fun p hp => by obtain rfl := List.mem_singleton.mp hp; exact tb2
  · exact fun p hp => by obtain rfl := List.mem_singleton.mp hp; exact tb3
  · intro s u
    obtain ⟨_, _, _, _, _, _, _, _, e, _, _⟩ := d_law.ex
    subst e
    exact .of_eq rfl
  · exact fun H p ns h1 h2 h3 h4 => ⟨p, ns, rfl, h4, ⟨#[], h3 _ (List.mem_singleton.mpr rfl), trivial⟩, fun _ _ => rfl⟩
  · exact fun base hb hn ht => K11.ok_law (a := a) T (have z := ht _ (List.mem_singleton.mpr rfl); ⟨z.code, z.bm, z.gP⟩) hBad hMany
