import PyProof.Rows.All
import Wide.All
import OpenK.AllK
import Wide.FinOn
import HandS.ForMost
import HandS.ForExc
import HandS.More
import HandS.Small
import HandS.IsInst
import HandS.Style
import HandS.Flow
import HandS.HotCalls
import HandS.SuiteRaise
import HandS.ExcIs
import HandS.TryMany
import HandS.SortInts
import HandS.SortKw
import HandS.RevRange
import HandS.Conv
import HandS.Text
import HandS.DictComp
import KE.KDictSum
import PySem.Challenge.RW_blockkeep_k05_read_through_a_batch
set_option Elab.async false
set_option linter.all false
set_option maxRecDepth 100000
set_option maxHeartbeats 4000000
namespace Bk
abbrev St := L2.St
open PySem L2 PyProof.Rows

/-! ### any of two rules -/
theorem peor {X : Cx} {e : Expr} {t u : TE} (h : PE X e t) (k : PE X e u) : PE X e (fun σ H Q => t σ H Q ∨ u σ H Q) :=
  ⟨fun pins s σ H Q I q => q.elim (fun q => h.run pins s σ H Q I q) fun q => k.run pins s σ H Q I q⟩
def tOr2 (t u : TE) : TE := fun σ H Q => t σ H Q ∨ u σ H Q
theorem pe_or2 {X : Cx} {e : Expr} {t u : TE} (h : PE X e t) (k : PE X e u) : PE X e (tOr2 t u) := peor h k
theorem call_or {X : Cx} {f : Value} {r r' : List V → Hp → VK → Prop} (h : CallR X f r) (k : CallR X f r') : CallR X f (fun xs H Q => r xs H Q ∨ r' xs H Q) :=
  fun pins s σ H xs us Q I r1 q => q.elim (fun q => h pins s σ H xs us Q I r1 q) fun q => k pins s σ H xs us Q I r1 q
theorem op_imp {X : Cx} {f : Value → Value → Sem Value} {r r' : R2} (h : OpR X f r) (i : ∀ x y H Q, r' x y H Q → r x y H Q) : OpR X f r' :=
  fun pins s σ H x y v u Q I rx ry q => h pins s σ H x y v u Q I rx ry (i _ _ _ _ q)
theorem pi_or {X : Cx} {tg l : Expr} {a b : TI} (h : PI X tg l a) (k : PI X tg l b) : PI X tg l (fun σ H R => a σ H R ∨ b σ H R) :=
  ⟨fun pins s σ H R I q => q.elim (fun q => h.run pins s σ H R I q) fun q => k.run pins s σ H R I q⟩
/-- a global name whose value stands -/
theorem pe_gl {X : Cx} {x : Str} {v : V} {pos : Pos} (hg : Gl X x) (h : ∃ u, X.mg x = some u ∧ RelV v u) (hd : (x == ("__debug__" : Str)) = false := by decide) : PE X (.Name x pos) (tC v) := by
  obtain ⟨u, hm, r⟩ := h
  exact pe_glob hg hm r hd

/-! ### the operators, of any kinds -/
def rAddP : R2 := fun x y H Q => rI0 (fun i j => .int (i + j)) x y H Q ∨ rCat x y H Q ∨ (∃ i j, x = .str i ∧ y = .str j ∧ i.length + j.length ≤ sizeLine ∧ Q (.str (i ++ j)) H)
def rSubP : R2 := rI0 fun i j => .int (i - j)
def rMulP : R2 := fun x y H Q => rI CMul (fun i j => .int (i * j)) x y H Q ∨ rRep x y H Q
def rDivP : R2 := rI CDiv fun i j => .int (i / j)
def rModP : R2 := rI (fun _ j => 0 < j) fun i j => .int (i % j)
def rPowP : R2 := rI CPow fun i j => .int (i ^ j.toNat)
def rEqP (K : PySem.W.Frag) : R2 := fun x y H Q => rEq x y H Q ∨ rEqD K x y H Q
def rNeP (K : PySem.W.Frag) : R2 := fun x y H Q => rNe x y H Q ∨ rNeD K x y H Q
def rLtP : R2 := rI0 fun i j => .bl (decide (i < j))
def rLeP : R2 := rI0 fun i j => .bl (decide (i ≤ j))
def rGtP : R2 := rI0 fun i j => .bl (decide (j < i))
def rGeP : R2 := rI0 fun i j => .bl (decide (j ≤ i))
def rIsP : R2 := fun x y H Q => (y = .non ∧ Q (.bl (decide (x = .non))) H) ∨ rIsB x y H Q
def rIsNotP : R2 := fun x y H Q => (y = .non ∧ Q (.bl (!decide (x = .non))) H) ∨ rNotB x y H Q
section
variable {X : Cx}
theorem op_addP : OpR X (binaryOp .Add) rAddP := op_add.or (op_cat.or op_add_str)
theorem op_subP : OpR X (binaryOp .Sub) rSubP := op_sub
theorem op_mulP : OpR X (binaryOp .Mult) rMulP := op_mul.or op_rep
theorem op_divP : OpR X (binaryOp .FloorDiv) rDivP := op_fdiv
theorem op_modP : OpR X (binaryOp .Mod) rModP := op_mod
theorem op_powP : OpR X (binaryOp .Pow) rPowP := op_pow
theorem op_eqP {k : Nat} (hr : Room k X.A) : OpR X (compareOp .Eq) (rEqP X.K) := op_eq.or (op_eqD hr.units)
theorem op_neP {k : Nat} (hr : Room k X.A) : OpR X (compareOp .NotEq) (rNeP X.K) := op_ne.or (op_neD hr.units)
theorem op_ltP : OpR X (compareOp .Lt) rLtP := op_lt
theorem op_leP : OpR X (compareOp .LtE) rLeP := op_le
theorem op_gtP : OpR X (compareOp .Gt) rGtP := op_gt
theorem op_geP : OpR X (compareOp .GtE) rGeP := op_ge
theorem op_isP : OpR X (compareOp .Is) rIsP := op_isN.or op_isBl
theorem op_isNotP : OpR X (compareOp .IsNot) rIsNotP := op_notN.or op_notBl
end
def rIxP (K : PySem.W.Frag) : R2 := rIx K
theorem ix_P {X : Cx} : IxR X (rIxP X.K) := ix_seq
section
variable {prog : Program} {w : World} {A : Around} {E : Value → Shared → Prop} {s : Shared}
theorem tup_whole {t sl : Addr} {items : Array Value} {vl vu : Value} {lo hi : Option Int} {Q : Value → Shared → Prop} (ht : IsTup s.heap t items) (hs : s.heap.IsSliceOf sl vl vu .none) (pl : IsPart vl lo) (pu : IsPart vu hi)
    (hw : HT.sIx items.size 0 lo = 0 ∧ HT.sIx items.size items.size hi = items.size) (h : Q (.ref t) s) : wpAny (model prog w) A (getItem (.ref t) (.ref sl)) Q E s := by
  obtain ⟨os, hos, hcs, hds⟩ := id hs
  have hTs : s.TypeIs (.ref sl) "slice" := ⟨os, hos, hcs⟩
  unfold getItem
  try with_reducible refine wpAny_holding ?_
  first | refine wpAny_bind (wpAny_pure ?_) | skip
  refine wpAny_bind (wpAny_sequenceKey ht.typeIs (by decide) ?_)
  refine wpAny_bind (wpAny_callSpecial?_slot (name := Str.ofString "__getitem__") ht.typeIs PyProof.Rows.slot_tuple_getitem (wpAny_call_entry PyProof.Rows.slot_tuple_getitem ht.typeIs entry_tuple_getitem ?_ (args_tuple_getitem _ _)))
  show wpAny _ _ (Builtin.Tuple.tupleItemsOf (.ref t) >>= _) _ _ s
  refine wpAny_bind (tupleItemsOf_ ht (wpAny_bind (wpAny_typeOf hTs ?_)))
  rw [if_pos (by decide)]
  refine wpAny_bind (HT.sliceApplied_gen hs pl pu ?_)
  have yes : ((((HT.sIx items.size 0 lo : Nat) : Int) == 0 && (1 : Int) == 1 && (HT.sIx items.size items.size hi - HT.sIx items.size 0 lo) == items.size) = true) := by
    rw [hw.1, hw.2]; simp
  show wpAny _ _ (if (((HT.sIx items.size 0 lo : Nat) : Int) == 0 && (1 : Int) == 1 && (HT.sIx items.size items.size hi - HT.sIx items.size 0 lo) == items.size) = true then _ else _) _ _ s
  rw [if_pos yes]
  refine wpAny_bind (m := Builtin.Tuple.tupleIsExact _) (wpAny_bind (wpAny_typeOf ht.typeIs (wpAny_pure ?_)))
  show wpAny _ _ (if (Value.type "tuple" == Value.type "tuple") = true then _ else _) _ _ s
  rw [if_pos (by decide)]
  first
    | exact wpAny_bind (wpAny_rule (wpAny_bind (wpAny_pure (wpAny_pure ⟨_, rfl, wpAny_pure h⟩))))
    | exact wpAny_bind (wpAny_rule (wpAny_pure ⟨_, rfl, wpAny_pure h⟩))
    | exact wpAny_bind (wpAny_rule (wpAny_bind (wpAny_pure ⟨_, rfl, wpAny_pure h⟩)))
end
def rSlW (K : PySem.W.Frag) : V → Option Int → Option Int → Hp → VK → Prop := fun x lo hi H Q => ∃ a xs, x = .ref a ∧ SqT K H a xs ∧ (HT.sIx xs.length 0 lo = 0 ∧ HT.sIx xs.length xs.length hi = xs.length) ∧ Q (.ref a) H
theorem sl_tupW {X : Cx} : SlR X (rSlW X.K) := by
  intro pins s σ H x v vl vu lo hi sl Q I rx hs pl pu h
  obtain ⟨a, xs, rfl, hx, hw, q⟩ := h
  cases rx
  obtain ⟨its, r, ht, hz⟩ := I.tuple hx
  have e : its.toArray.size = xs.length := r.length.symm
  exact ⟨"tuple", _, PyProof.Rows.slot_tuple_getitem.lookup, ht.typeIs, tup_whole ht hs pl pu (by rw [e]; exact hw) ⟨.ref a, H, I, rfl, q⟩⟩

def rSlP (K : PySem.W.Frag) : V → Option Int → Option Int → Hp → VK → Prop := fun x lo hi H Q => rSlL K x lo hi H Q ∨ rSlT K x lo hi H Q ∨ rSlS x lo hi H Q ∨ rSlW K x lo hi H Q
theorem sl_P {X : Cx} : SlR X (rSlP X.K) := sl_list.or (sl_tup.or (sl_str.or sl_tupW))
def rInP (K : PySem.W.Frag) : R2 := fun x y H Q => rIn K false x y H Q ∨ (∃ (c : Nat) (z : Str), x = .str ⟨#[c]⟩ ∧ y = .str z ∧ Q (.bl (decide (c ∈ z.cps.toList))) H)
def rNotInP (K : PySem.W.Frag) : R2 := fun x y H Q => rIn K true x y H Q ∨ (∃ (c : Nat) (z : Str), x = .str ⟨#[c]⟩ ∧ y = .str z ∧ Q (.bl (!decide (c ∈ z.cps.toList))) H)
theorem op_inP {X : Cx} : OpR X (compareOp .In) (rInP X.K) := op_in_seq.or op_in_sign
theorem op_notInP {X : Cx} : OpR X (compareOp .NotIn) (rNotInP X.K) := op_notIn_seq.or op_notIn_sign

/-! ### heaps -/
/-- a new object -/
structure New (H : Hp) (p : Addr) (o : HO) (H1 : Hp) : Prop where
  free : H p = none
  eq : H1 = upd H p o
/-- an object written -/
structure Wr (H : Hp) (a : Addr) (o : HO) (H1 : Hp) : Prop where
  was : ∃ u, H a = some u
  eq : H1 = upd H a o
section
variable {H H1 H2 : Hp} {p a b : Addr} {o u : HO}
theorem New.at (n : New H p o H1) : H1 p = some o := by rw [n.eq]; exact upd_same
theorem New.ne (n : New H p o H1) (h : H a = some u) : a ≠ p := ne_of_none h n.free
theorem New.old (n : New H p o H1) (h : H a = some u) : H1 a = some u := by rw [n.eq, upd_ne (n.ne h)]; exact h
theorem New.same (n : New H p o H1) : Same H H1 := fun _ _ h => n.old h
theorem Wr.at (n : Wr H a o H1) : H1 a = some o := by rw [n.eq]; exact upd_same
theorem Wr.old (n : Wr H a o H1) (hn : b ≠ a) (h : H b = some u) : H1 b = some u := by rw [n.eq, upd_ne hn]; exact h
theorem Same.at (s : Same H H1) (h : H a = some u) : H1 a = some u := s _ _ h
/-- what was new is written: what stood ahead stands -/
theorem Same.wr (s : Same H H1) (n : H a = none) (w : Wr H1 a o H2) : Same H H2 := fun b u h => w.old (ne_of_none h n) (s _ _ h)
theorem new_of {R : Addr → Hp → Prop} (h : ∀ p H1, New H p o H1 → R p H1) : ∀ p, H p = none → R p (upd H p o) := fun p n => h p _ ⟨n, rfl⟩
theorem wr_of {R : Hp → Prop} (hp : H a = some u) (h : ∀ H1, Wr H a o H1 → R H1) : R (upd H a o) := h _ ⟨⟨u, hp⟩, rfl⟩
end

/-! ### the steps -/
def BlK (Q : Bool → Hp → Prop) : VK := fun x H => ∃ k, x = .bl k ∧ Q k H
section
variable {σ : St} {H : Hp} {Q : VK} {QB : Bool → Hp → Prop} {QA : List V → Hp → Prop} {nx bk ct : St → Hp → Prop} {rt : VK} {ta tb tc te : TE} {t u : TS} {i j : Int} {v x y : V} {r r' : R2} {K : PySem.W.Frag} {tA tB' : TT} {l : TA}
theorem go_var {i : Nat} (h : σ[i]? = some (some v)) (q : Q v H) : tVar i σ H Q := ⟨v, h, q⟩
theorem go_c (q : Q v H) : tC v σ H Q := q
theorem go_op (q : ta σ H fun x H1 => tb σ H1 fun y H2 => r x y H2 Q) : tOp r ta tb σ H Q := q
theorem go_un {r : V → Hp → VK → Prop} (q : ta σ H fun x H1 => r x H1 Q) : tUn r ta σ H Q := q
theorem go_rU {g : Int → V} (q : Q (g i) H) : rU g (.int i) H Q := ⟨i, rfl, q⟩
theorem go_blk {k : Bool} (q : QB k H) : BlK QB (.bl k) H := ⟨k, rfl, q⟩
theorem go_blk' {k : Bool} (q : QB k H) : ∃ c, V.bl k = .bl c ∧ QB c H := ⟨k, rfl, q⟩
theorem go_test (q : te σ H (BlK QB)) : tTest te σ H QB := q
theorem go_tB (q : te σ H (BlK QB)) : tB te σ H QB := q
theorem go_and (q : tA σ H fun c H1 => if c = true then tB' σ H1 QB else QB false H1) : tAnd tA tB' σ H QB := q
theorem go_or (q : tA σ H fun c H1 => if c = true then QB true H1 else tB' σ H1 QB) : tOr tA tB' σ H QB := q
theorem go_not (q : tA σ H fun c H1 => QB (!c) H1) : tNot tA σ H QB := q
theorem go_andV (q : ta σ H (BlK fun c H1 => if c = true then tb σ H1 Q else Q (.bl false) H1)) : tAndV ta tb σ H Q := q
theorem go_orV (q : ta σ H (BlK fun c H1 => if c = true then Q (.bl true) H1 else tb σ H1 Q)) : tOrV ta tb σ H Q := q
theorem go_notV (q : ta σ H (BlK fun c H1 => Q (.bl (!c)) H1)) : tNotV ta σ H Q := q
theorem go_if (q : tA σ H fun c H1 => if c = true then ta σ H1 Q else tb σ H1 Q) : tIf tA ta tb σ H Q := q
theorem go_chain (q : ta σ H fun x H1 => tb σ H1 fun y H2 => r x y H2 (BlK fun k H3 => if k = true then tc σ H3 fun w' H4 => r' y w' H4 Q else Q (.bl false) H3)) : tChain r r' ta tb tc σ H Q := q
-- statements
theorem go_seq (q : t ⟨fun σ H => u ⟨nx, rt, bk, ct⟩ σ H, rt, bk, ct⟩ σ H) : tSeq t u ⟨nx, rt, bk, ct⟩ σ H := q
theorem go_ret (q : te σ H rt) : tRet te ⟨nx, rt, bk, ct⟩ σ H := q
theorem go_retN (q : rt .non H) : tRetN ⟨nx, rt, bk, ct⟩ σ H := q
theorem go_next (q : nx σ H) : tNext ⟨nx, rt, bk, ct⟩ σ H := q
theorem go_drop (q : te σ H fun _ H1 => nx σ H1) : tDrop te ⟨nx, rt, bk, ct⟩ σ H := q
theorem go_asg {g : TG} (q : te σ H fun x H1 => g x σ H1 nx) : tAsg te g ⟨nx, rt, bk, ct⟩ σ H := q
theorem go_name {i : Nat} {n : St → Hp → Prop} (q : n (σ.set i (some v)) H) : gName i v σ H n := q
theorem go_name2 {i : Nat} {n : St → Hp → Prop} {σ' : St} (h : σ.set i (some v) = σ') (q : n σ' H) : gName i v σ H n := by subst h; exact q
theorem go_ifS {c : TT} (q : c σ H fun b H1 => if b = true then t ⟨nx, rt, bk, ct⟩ σ H1 else u ⟨nx, rt, bk, ct⟩ σ H1) : tIfS c t u ⟨nx, rt, bk, ct⟩ σ H := q
theorem go_T {c : Bool} {A B : Prop} (h : c = true) (q : A) : if c = true then A else B := by rw [if_pos h]; exact q
theorem go_F {c : Bool} {A B : Prop} (h : c = false) (q : B) : if c = true then A else B := by rw [h, if_neg Bool.false_ne_true]; exact q
theorem go_ite {c : Bool} {A B : Prop} (h : c = true → A) (k : c = false → B) : if c = true then A else B := by
  cases c
  · exact iteF (k rfl)
  · exact iteT (h rfl)
theorem go_Td {p A B : Prop} [Decidable p] (h : p) (q : A) : if decide p = true then A else B := go_T (decide_eq_true h) q
theorem go_Fd {p A B : Prop} [Decidable p] (h : ¬ p) (q : B) : if decide p = true then A else B := go_F (decide_eq_false h) q
theorem go_Tn {p A B : Prop} [Decidable p] (h : ¬ p) (q : A) : if (!decide p) = true then A else B := go_T (by rw [decide_eq_false h]; rfl) q
theorem go_Fn {p A B : Prop} [Decidable p] (h : p) (q : B) : if (!decide p) = true then A else B := go_F (by rw [decide_eq_true h]; rfl) q
theorem go_dec {p A B : Prop} [Decidable p] (h : p → A) (k : ¬ p → B) : if decide p = true then A else B := by
  by_cases c : p
  · exact go_Td c (h c)
  · exact go_Fd c (k c)
-- operators
theorem go_addI (q : Q (.int (i + j)) H) : rAddP (.int i) (.int j) H Q := .inl ⟨i, j, rfl, rfl, q⟩
theorem go_addL {a b : Addr} {xs ys : List V} (h : H a = some (.lst xs)) (k : H b = some (.lst ys)) (hz : xs.length + ys.length ≤ sizeLine) (q : ∀ p H1, New H p (.lst (xs ++ ys)) H1 → Q (.ref p) H1) : rAddP (.ref a) (.ref b) H Q :=
  .inr (.inl ⟨a, b, xs, ys, rfl, rfl, h, k, hz, new_of q⟩)
theorem go_addS {z w : Str} (hz : z.length + w.length ≤ sizeLine) (q : Q (.str (z ++ w)) H) : rAddP (.str z) (.str w) H Q := .inr (.inr ⟨z, w, rfl, rfl, hz, q⟩)
theorem go_sub (q : Q (.int (i - j)) H) : rSubP (.int i) (.int j) H Q := ⟨i, j, rfl, rfl, q⟩
theorem go_mulI (h : CMul i j) (q : Q (.int (i * j)) H) : rMulP (.int i) (.int j) H Q := .inl ⟨i, j, rfl, rfl, h, q⟩
theorem go_mulL {a : Addr} {xs : List V} (h : H a = some (.lst xs)) (h1 : -(2 ^ 63) ≤ j ∧ j < 2 ^ 63 ∧ xs.length * j.toNat ≤ sizeLine) (q : ∀ p H1, New H p (.lst (List.replicate j.toNat xs).flatten) H1 → Q (.ref p) H1) : rMulP (.ref a) (.int j) H Q :=
  .inr ⟨a, j, xs, rfl, rfl, h, h1.1, h1.2.1, h1.2.2, new_of q⟩
theorem go_div (h : CDiv i j) (q : Q (.int (i / j)) H) : rDivP (.int i) (.int j) H Q := ⟨i, j, rfl, rfl, h, q⟩
theorem go_mod (h : 0 < j) (q : Q (.int (i % j)) H) : rModP (.int i) (.int j) H Q := ⟨i, j, rfl, rfl, h, q⟩
theorem go_pow (h : CPow i j) (q : Q (.int (i ^ j.toNat)) H) : rPowP (.int i) (.int j) H Q := ⟨i, j, rfl, rfl, h, q⟩
theorem go_lt (q : Q (.bl (decide (i < j))) H) : rLtP (.int i) (.int j) H Q := ⟨i, j, rfl, rfl, q⟩
theorem go_le (q : Q (.bl (decide (i ≤ j))) H) : rLeP (.int i) (.int j) H Q := ⟨i, j, rfl, rfl, q⟩
theorem go_gt (q : Q (.bl (decide (j < i))) H) : rGtP (.int i) (.int j) H Q := ⟨i, j, rfl, rfl, q⟩
theorem go_ge (q : Q (.bl (decide (j ≤ i))) H) : rGeP (.int i) (.int j) H Q := ⟨i, j, rfl, rfl, q⟩
theorem decI {i j : Int} : decide (V.int i = V.int j) = decide (i = j) := by by_cases h : i = j <;> simp [h]
theorem decB {i j : Bool} : decide (V.bl i = V.bl j) = decide (i = j) := by by_cases h : i = j <;> simp [h]
theorem decS {i j : Str} : decide (V.str i = V.str j) = decide (i = j) := by by_cases h : i = j <;> simp [h]
theorem go_eqI (q : Q (.bl (decide (i = j))) H) : rEqP K (.int i) (.int j) H Q := .inl ⟨rfl, by rw [decI]; exact q⟩
theorem go_eqB {i j : Bool} (q : Q (.bl (decide (i = j))) H) : rEqP K (.bl i) (.bl j) H Q := .inl ⟨rfl, by rw [decB]; exact q⟩
theorem go_eqS {i j : Str} (q : Q (.bl (decide (i = j))) H) : rEqP K (.str i) (.str j) H Q := .inl ⟨rfl, by rw [decS]; exact q⟩
theorem go_neI (q : Q (.bl (!decide (i = j))) H) : rNeP K (.int i) (.int j) H Q := .inl ⟨rfl, by rw [decI]; exact q⟩
theorem go_neB {i j : Bool} (q : Q (.bl (!decide (i = j))) H) : rNeP K (.bl i) (.bl j) H Q := .inl ⟨rfl, by rw [decB]; exact q⟩
theorem go_neS {i j : Str} (q : Q (.bl (!decide (i = j))) H) : rNeP K (.str i) (.str j) H Q := .inl ⟨rfl, by rw [decS]; exact q⟩
theorem go_eqSc (h : scal x y = true) (q : Q (.bl (decide (x = y))) H) : rEqP K x y H Q := .inl ⟨h, q⟩
theorem go_neSc (h : scal x y = true) (q : Q (.bl (!decide (x = y))) H) : rNeP K x y H Q := .inl ⟨h, q⟩
theorem go_isN (q : Q (.bl (decide (x = .non))) H) : rIsP x .non H Q := .inl ⟨rfl, q⟩
theorem go_isNotN (q : Q (.bl (!decide (x = .non))) H) : rIsNotP x .non H Q := .inl ⟨rfl, q⟩
theorem go_isB {i j : Bool} (q : Q (.bl (decide (i = j))) H) : rIsP (.bl i) (.bl j) H Q := .inr ⟨i, j, rfl, rfl, q⟩
theorem go_isNotB {i j : Bool} (q : Q (.bl (!decide (i = j))) H) : rIsNotP (.bl i) (.bl j) H Q := .inr ⟨i, j, rfl, rfl, q⟩
-- lists of arguments, displays
theorem go_nil (q : QA [] H) : tNil σ H QA := q
theorem go_cons (q : ta σ H fun x H1 => l σ H1 fun xs H2 => QA (x :: xs) H2) : tCons ta l σ H QA := q
theorem go_lst {xs : List V} (hz : xs.length ≤ sizeLine) (q : ∀ p H1, New H p (.lst xs) H1 → Q (.ref p) H1) : (fun xs H1 => xs.length ≤ sizeLine ∧ ∀ p, H1 p = none → Q (.ref p) (upd H1 p (.lst xs))) xs H := ⟨hz, new_of q⟩
def LstK (Q : VK) : List V → Hp → Prop := fun xs H1 => xs.length ≤ sizeLine ∧ ∀ p, H1 p = none → Q (.ref p) (upd H1 p (.lst xs))
def TupK (Q : VK) : List V → Hp → Prop := fun xs H1 => xs.length ≤ sizeLine ∧ ∀ p, H1 p = none → Q (.ref p) (upd H1 p (.tup xs))
theorem go_tLst (q : l σ H (LstK Q)) : tLst l σ H Q := q
theorem go_tTup (q : l σ H (TupK Q)) : tTup l σ H Q := q
theorem go_LstK {xs : List V} (hz : xs.length ≤ sizeLine) (q : ∀ p H1, New H p (.lst xs) H1 → Q (.ref p) H1) : LstK Q xs H := ⟨hz, new_of q⟩
theorem go_TupK {xs : List V} (hz : xs.length ≤ sizeLine) (q : ∀ p H1, New H p (.tup xs) H1 → Q (.ref p) H1) : TupK Q xs H := ⟨hz, new_of q⟩
-- slices, places
theorem go_sl {rs : V → Option Int → Option Int → Hp → VK → Prop} {tl th : TO} (q : te σ H fun x H1 => tl σ H1 fun l H2 => th σ H2 fun u H3 => rs x l u H3 Q) : tSl rs te tl th σ H Q := q
theorem go_noPart {QO : Option Int → Hp → Prop} (q : QO none H) : tNoPart σ H QO := q
def IntK (QO : Option Int → Hp → Prop) : VK := fun x H1 => ∃ i, x = .int i ∧ QO (some i) H1
theorem go_part {QO : Option Int → Hp → Prop} (q : te σ H (IntK QO)) : tPart te σ H QO := q
theorem go_intK {QO : Option Int → Hp → Prop} (q : QO (some i) H) : IntK QO (.int i) H := ⟨i, rfl, q⟩
theorem go_slL {a : Addr} {xs : List V} {lo hi : Option Int} (h : H a = some (.lst xs)) (q : ∀ p H1, New H p (.lst (cutV xs lo hi)) H1 → Q (.ref p) H1) : rSlP K (.ref a) lo hi H Q := .inl ⟨a, xs, rfl, SqL.of h, new_of q⟩
theorem go_slW {a : Addr} {xs : List V} (h : H a = some (.tup xs)) (q : Q (.ref a) H) : rSlP K (.ref a) none none H Q := .inr (.inr (.inr ⟨a, xs, rfl, SqT.of h, ⟨rfl, rfl⟩, q⟩))
theorem go_ixL {a : Addr} {xs : List V} (h : H a = some (.lst xs)) (hv : atI xs i = some v) (q : Q v H) : rIxP K (.ref a) (.int i) H Q := .inl ⟨a, xs, i, v, rfl, rfl, SqL.of h, hv, q⟩
theorem go_ixT {a : Addr} {xs : List V} (h : H a = some (.tup xs)) (hv : atI xs i = some v) (q : Q v H) : rIxP K (.ref a) (.int i) H Q := .inr (.inl ⟨a, xs, i, v, rfl, rfl, SqT.of h, hv, q⟩)
theorem go_ixS {z : Str} {c : Nat} (hz : z.length ≤ sizeLine) (hv : atI z.cps.toList i = some c) (q : Q (.str ⟨#[c]⟩) H) : rIxP K (.str z) (.int i) H Q := .inr (.inr ⟨z, i, c, rfl, rfl, hz, hv, q⟩)
-- calls
theorem go_cb {r : List V → Hp → VK → Prop} (q : l σ H fun vs H1 => r vs H1 Q) : tCB r l σ H Q := q
theorem go_callS {sp : Sp} {E : St → XK} (q : l σ H fun vs H1 => sp vs H1 Q (E σ)) : tCallS sp E l σ H Q := q
end
end Bk

/-! ### calls of the text's own defs, in any context; defs by their own readings -/
namespace Bk
open PySem L2 PyProof.Rows
/-- what is wanted of what is raised: at a def's body; where nothing may be -/
def WM (E : XK) : WX := fun cls d _ H => E cls d H
def W0 : WX := fun _ _ _ _ => False
def F0 : St → Hp → Prop := fun _ _ => False
theorem takesM {X : Cx} {E : XK} (hs : X.stack = X.env :: X.outer) (hf : X.env.frame = some X.env.locals) (hex : X.ex = []) {E₁ : Value → Shared → Prop}
    (hx : X.xe = fun e s' => wpAny (model X.prog X.w) X.A (leaving X.env e) (fun _ s'' => L2N.CX X.prog X.w X.outer X.H_0 X.s_0 E e s'') E₁ s') : L2N.Takes X (WM E) := L2N.takes_of hs hf hex hx
theorem takesN {X : Cx} : L2N.Takes X W0 := fun _ _ x => by
  obtain ⟨_, _, _, _, _, _, _, _, _, _, _, _, _, _, _, _, z⟩ := x
  exact z.elim
theorem okN {P : Program} {w : World} {K : PySem.W.Frag} {mg : Str → Option Value} {base : Heap} {x qual : Str} {st : Stmt} {f : Addr} {fd : FuncData} {N ps : List Str} {k : Nat} {t : XK → TS}
    (F : Fun K x qual st f fd) (S : FnScope N ps (defScope st))
    (hbody : ∀ (cdv : Value) (A : Around) (outer : List Env) (s : Shared) (H : Hp) (E : XK), Room k (A.deeper (envOfC qual (defScope st) s.heap.objs.size f cdv)) →
      PSs (cxOf (L2N.CX P w) P w K mg base N qual (defScope st) f cdv A outer s H E) (defBody st) (t E)) :
    FnOk P w K mg base (L2N.CX P w) (k + 1) f fd ps (fun vs H Q E => vs.length = ps.length ∧ t E ⟨fun _ H' => Q .non H', Q, F0, F0⟩ (start N vs) H) := by
  obtain ⟨oc, od, kV, doc, pm, an, cdv, ct, osl, rfl, lk, hcd⟩ := F.ex
  refine fn_of lk hcd S (fun _ _ _ _ h => h.1) fun A outer s H vs Q E hr h => ⟨t E, hbody cdv A outer s H E hr, h.2⟩
section
variable {X : Cx} {k j : Nat} {f C : Addr} {fd : FuncData} {ps : List Str} {sp : Sp} {W : WX} {x m : Str} {p pos apos : Pos} {e o : Expr} {es : List Expr} {ta : TE} {t : TA}
theorem callE (F : FnOk X.prog X.w X.K X.mg X.base (L2N.CX X.prog X.w) k f fd ps sp) (tk : L2N.Takes X W) (hr : Room j X.A) (hj : k ≤ j) (hg : Gl X x) (hm : X.mg x = some (.ref f)) (hk : PySem.W.keepIn X.K (.ref f) = true) (hb : Binds X.K fd ps [])
    (ha : PA X (e :: es) t) (hdb : (x == ("__debug__" : Str)) = false := by decide) (he : starEach (e :: es) X.env = (false, eval e X.env) :: starEach es X.env := by rfl) (hpl : (backTo pos (starEach es X.env)).any (·.1) = false := by rfl) :
    PE X (.Call (.Name x p) (e :: es) [] pos) (tCallS sp (WE W) t) := pe_callS F (hr.mono hj) hg hm hk hb (fun σ => L2N.passAt tk σ) ha hdb he hpl
def tCall0 (sp : Sp) (E : St → XK) : TE := fun σ H Q => sp [] H Q (E σ)
theorem callE0 (F : FnOk X.prog X.w X.K X.mg X.base (L2N.CX X.prog X.w) k f fd ps sp) (tk : L2N.Takes X W) (hr : Room j X.A) (hj : k ≤ j) (hg : Gl X x) (hm : X.mg x = some (.ref f)) (hk : PySem.W.keepIn X.K (.ref f) = true) (hb : Binds X.K fd ps [])
    (hdb : (x == ("__debug__" : Str)) = false := by decide) : PE X (.Call (.Name x p) [] [] pos) (tCall0 sp (WE W)) := by
  refine ⟨fun pins s σ H Q I h => ?_⟩
  refine wpAny_Call_Name_kw (ld_glob I hg hm ?_ hdb)
  exact PySem.W.callWith_K0 I.kIn hk (run_fnS (us := []) F (hr.mono hj) hb (L2N.passAt tk σ) I .nil h)
end
end Bk

/-! ### methods of own classes, makings -/
namespace Bk
open PySem L2 PyProof.Rows
/-- an own method that stands for the class at C -/
structure MethOk (X : Cx) (m : Str) (k : Nat) (C : Addr) (sp : Sp) : Prop where
  c : Cls X.K C
  ex : ∃ f fd ps, Meth X.K C m f ∧ FnOk X.prog X.w X.K X.mg X.base (L2N.CX X.prog X.w) k f fd ps sp ∧ Binds X.K fd ps []
inductive AltsOk (X : Cx) (m : Str) (k : Nat) : List (Addr × Sp) → Prop
  | nil : AltsOk X m k []
  | cons {C : Addr} {sp : Sp} {l : List (Addr × Sp)} (h : MethOk X m k C sp) (r : AltsOk X m k l) : AltsOk X m k ((C, sp) :: l)
theorem AltsOk.get {X : Cx} {m : Str} {k : Nat} : ∀ {l : List (Addr × Sp)}, AltsOk X m k l → ∀ {C : Addr} {sp : Sp}, (C, sp) ∈ l → MethOk X m k C sp
  | _, .nil, _, _, h => by cases h
  | _, .cons h r, _, _, q => by
    rcases List.mem_cons.mp q with e | q
    · cases e; exact h
    · exact r.get q
theorem MethOk.mk' {X : Cx} {m : Str} {k j : Nat} {C f : Addr} {sp : Sp} {fd : FuncData} {ps : List Str} (c : Cls X.K C) (hm : Meth X.K C m f) (F : FnOk X.prog X.w X.K X.mg X.base (L2N.CX X.prog X.w) j f fd ps sp) (hb : Binds X.K fd ps []) (hj : j ≤ k) : MethOk X m k C sp :=
  ⟨c, f, fd, ps, hm, F.mono hj, hb⟩
def tMethP (m : Str) (alts : List (Addr × Sp)) (E : St → XK) (ta : TE) (t : TA) : TE := fun σ H Q => ta σ H fun x H1 => ∃ a dx fs C sp, x = .ref a ∧ H1 a = some (.ins C dx fs) ∧ fs.lookup m = none ∧ (C, sp) ∈ alts ∧
  t σ H1 fun vs H2 => sp (x :: vs) H2 Q (E σ)
section
variable {X : Cx} {k j : Nat} {f C : Addr} {fd : FuncData} {ps : List Str} {sp : Sp} {W : WX} {x m : Str} {p pos apos : Pos} {e o : Expr} {es : List Expr} {ta : TE} {t : TA} {alts : List (Addr × Sp)}
theorem methE {pl : Sem Bool} (he : PE X o ta) (al : AltsOk X m k alts) (tk : L2N.Takes X W) (hr : Room j X.A) (hj : k ≤ j) (ha : PA X (e :: es) t)
    (hst : starEach (e :: es) X.env = (false, eval e X.env) :: starEach es X.env := by rfl) (hpl : (backTo pos (starEach es X.env)).any (·.1) = false := by rfl)
    (ht : eval (.Call (.Attribute o m apos) (e :: es) [] pos) X.env = (do
      let ov ← eval o X.env
      standAt apos.atName
      let (f, first) ← holding [ov] (getMethod ov m pl)
      callWith pos f first (backTo pos (starEach (e :: es) X.env)) (backToKw pos (keywordEach [] X.env))) := by rfl) :
    PE X (.Call (.Attribute o m apos) (e :: es) [] pos) (tMethP m alts (WE W) ta t) := by
  refine ⟨fun pins s σ H Q I h => ?_⟩
  refine PySem.W.methodCall_KW (pl := pl) (thn (he.run pins s σ H _ I h) fun u s1 ⟨x, H1, I1, rx, a, dx, fs, C, sp, ex, ea, l, hin, q⟩ => ?_) ht
  subst ex
  obtain rfl : u = Value.ref a := rx
  obtain ⟨c, f, fd, ps, hm, F, hb⟩ := al.get hin
  refine getmeth_ok I1 ea c hm l ?_
  refine PySem.W.callWith_K (first := [.ref a]) (h₀ := X.base) I.ok.mod.kin hm.kp (thn (ha.run pos pins s1 σ H1 _ I1 q) fun us s2 ⟨vs, H2, I2, r, q2⟩ => ⟨I2.kIn, ?_⟩) hst hpl
  exact run_fnS (us := .ref a :: us) (vs := .ref a :: vs) F (hr.mono hj) hb (L2N.passAt tk σ) I2 (.cons rfl r) q2
theorem methE0 {pl : Sem Bool} (he : PE X o ta) (al : AltsOk X m k alts) (tk : L2N.Takes X W) (hr : Room j X.A) (hj : k ≤ j)
    (ht : eval (.Call (.Attribute o m apos) [] [] pos) X.env = (do
      let ov ← eval o X.env
      standAt apos.atName
      let (f, first) ← holding [ov] (getMethod ov m pl)
      callWith pos f first (backTo pos (starEach [] X.env)) (backToKw pos (keywordEach [] X.env))) := by rfl) :
    PE X (.Call (.Attribute o m apos) [] [] pos) (tMethP m alts (WE W) ta tNil) := by
  refine ⟨fun pins s σ H Q I h => ?_⟩
  refine PySem.W.methodCall_KW (pl := pl) (thn (he.run pins s σ H _ I h) fun u s1 ⟨x, H1, I1, rx, a, dx, fs, C, sp, ex, ea, l, hin, q⟩ => ?_) ht
  subst ex
  obtain rfl : u = Value.ref a := rx
  obtain ⟨c, f, fd, ps, hm, F, hb⟩ := al.get hin
  refine getmeth_ok I1 ea c hm l ?_
  exact PySem.W.callWith_K0 (first := [.ref a]) I1.kIn hm.kp (run_fnS (us := [.ref a]) (vs := [.ref a]) F (hr.mono hj) hb (L2N.passAt tk σ) I1 (.cons rfl .nil) q)
def tMakeE (C : Addr) (sp : Sp) (E : St → XK) (t : TA) : TE := fun σ H Q => t σ H fun vs H1 => ∀ x dx, H1 x = none → H1 dx = none → dx ≠ x → sp (.ref x :: vs) (upd (upd H1 dx (.own x)) x (.ins C dx [])) (fun v H2 => v = .non ∧ Q (.ref x) H2) (E σ)
theorem run_makeS {pins : List (Addr × Obj)} {σ : St} {H : Hp} {s : Shared} {Q : VK} {us : List Value} {vs : List V} {E : St → XK} (M : Mk X.K C f) (F : FnOk X.prog X.w X.K X.mg X.base (L2N.CX X.prog X.w) k f fd ps sp) (hr : Room (k + 1) X.A) (hb : Binds X.K fd ps [])
    (hx : ∀ σ, PassesAt (L2N.CX X.prog X.w) X σ (E σ)) (I : Inv X pins σ H s) (r : Vals vs us)
    (h : ∀ x dx, H x = none → H dx = none → dx ≠ x → sp (.ref x :: vs) (upd (upd H dx (.own x)) x (.ins C dx [])) (fun v H2 => v = .non ∧ Q (.ref x) H2) (E σ)) :
    wpAny (model X.prog X.w) X.A (call (.ref C) us) (EP X pins σ Q) X.xe s := by
  have hq := h (s.heap.objs.size + 1) s.heap.objs.size (I.hok.fresh (Nat.le_succ _)) (I.hok.fresh (Nat.le_refl _)) (Nat.ne_of_lt (Nat.lt_succ_self _))
  have I2 := Inv.made (C := C) I
  have r2 : Vals (V.ref (s.heap.objs.size + 1) :: vs) (Value.ref (s.heap.objs.size + 1) :: us) := .cons rfl r
  have hl : (Value.ref (s.heap.objs.size + 1) :: us ++ []).length = ps.length := by
    have e := r2.length
    rw [F.len _ _ _ _ hq] at e
    rw [List.append_nil]
    exact e.symm
  have b := hb { s with heap := (s.heap.push { cls := .type "dict", data := .dict #[] }).push (PySem.W.instObj C s.heap.objs.size) } (Value.ref (s.heap.objs.size + 1) :: us) I2.kIn hl
  rw [List.append_nil] at b
  refine wpAny_call (make_map (f := f) I.kIn M.makes M.init (beq_iff_eq.mp M.fn) (codeAny_mono (F.run _ X.stack _ _ ⟨Value.ref (s.heap.objs.size + 1) :: us, []⟩ (Value.ref (s.heap.objs.size + 1) :: us) _ _ (E σ) (hr.make C us [])
    (I2.env0.make C us []) b r2 hq) fun r s' hq' => ?_))
  cases r with
  | error e => exact hx σ pins _ _ e s' I2 hq'
  | ok fl =>
    cases fl with
    | ret u =>
      obtain ⟨v, H', I3, rv, ev, q3⟩ := I2.after hq'
      subst ev
      exact ⟨rv, ⟨V.ref (s.heap.objs.size + 1), H', I3, rfl, q3⟩⟩
    | next => exact False.elim hq'
    | brk => exact False.elim hq'
    | cont => exact False.elim hq'
theorem makeE (M : Mk X.K C f) (F : FnOk X.prog X.w X.K X.mg X.base (L2N.CX X.prog X.w) k f fd ps sp) (tk : L2N.Takes X W) (hr : Room j X.A) (hj : k + 1 ≤ j) (hg : Gl X x) (hm : X.mg x = some (.ref C)) (hb : Binds X.K fd ps [])
    (ha : PA X (e :: es) t) (hdb : (x == ("__debug__" : Str)) = false := by decide) (he : starEach (e :: es) X.env = (false, eval e X.env) :: starEach es X.env := by rfl) (hpl : (backTo pos (starEach es X.env)).any (·.1) = false := by rfl) :
    PE X (.Call (.Name x p) (e :: es) [] pos) (tMakeE C sp (WE W) t) := by
  refine ⟨fun pins s σ H Q I h => ?_⟩
  refine wpAny_Call_Name_kw (ld_glob I hg hm ?_ hdb)
  refine PySem.W.callWith_K (h₀ := X.base) I.ok.mod.kin M.kp (thn (ha.run pos pins s σ H _ I h) fun us s1 ⟨vs, H1, I1, r, q⟩ => ⟨I1.kIn, ?_⟩) he hpl
  exact run_makeS M F (hr.mono hj) hb (fun σ => L2N.passAt tk σ) I1 r q
end
end Bk

/-! ### built-ins, of any kinds -/
namespace Bk
open PySem L2 PyProof.Rows
def rLenP (K : PySem.W.Frag) : List V → Hp → VK → Prop := fun xs H Q => (∃ x n, xs = [x] ∧ LenV K x H n ∧ Q (.int n) H) ∨ ∃ a kvs, xs = [V.ref a] ∧ H a = some (.dK kvs) ∧ Q (.int kvs.length) H
def rListP (K : PySem.W.Frag) : List V → Hp → VK → Prop := fun xs H Q => ∃ p ys, xs = [.ref p] ∧ (SqL K H p ys ∨ SqT K H p ys) ∧ ∀ l, H l = none → Q (.ref l) (upd H l (.lst ys))
def rTupleP (K : PySem.W.Frag) : List V → Hp → VK → Prop := fun xs H Q => ∃ p ys, xs = [.ref p] ∧ ((SqL K H p ys ∧ ∀ l, H l = none → Q (.ref l) (upd H l (.tup ys))) ∨ (SqT K H p ys ∧ Q (.ref p) H))
def rIntB : List V → Hp → VK → Prop := fun xs H Q => (∃ i, xs = [.int i] ∧ Q (.int i) H) ∨ ∃ k, xs = [.bl k] ∧ Q (.int (if k then 1 else 0)) H
def rIntP : List V → Hp → VK → Prop := fun xs H Q => rIntB xs H Q ∨ ∃ a n, xs = [.str a] ∧ PySem.intText? a = some n ∧ a.length ≤ 640 ∧ Q (.int n) H
def rAbsP : List V → Hp → VK → Prop := fun xs H Q => ∃ i, xs = [.int i] ∧ Q (.int (if i < 0 then -i else i)) H
def rMin2 : List V → Hp → VK → Prop := fun xs H Q => ∃ i j, xs = [.int i, .int j] ∧ Q (.int (if j < i then j else i)) H
def rMax2 : List V → Hp → VK → Prop := fun xs H Q => ∃ i j, xs = [.int i, .int j] ∧ Q (.int (if j > i then j else i)) H
section
variable {X : Cx}
theorem call_lenP : CallR X (.builtin "len") (rLenP X.K) := call_or call_len call_lenD
theorem call_listP : CallR X (.type "list") (rListP X.K) := call_list_of
theorem call_tupleP : CallR X (.type "tuple") (rTupleP X.K) := call_tuple_of
theorem call_intP : CallR X (.type "int") rIntP := call_or call_int1 call_int_str
/-- what is walked: a list, a tuple, a text; told when its value is known -/
def SeqC (K : PySem.W.Frag) (R : It → Hp → Prop) : VK := fun x H1 => (∃ a, x = .ref a ∧ ∃ xs, SqL K H1 a xs ∧ R (Itl K a) H1) ∨ (∃ a, x = .ref a ∧ ∃ xs, SqT K H1 a xs ∧ R (Itt K a) H1) ∨ ∃ z, x = .str z ∧ R (Its z) H1
def iSeqP (K : PySem.W.Frag) (tl : TE) : TI := fun σ H R => tl σ H (SeqC K R)
theorem pi_seqP {tg l : Expr} {tl : TE} (hl : PE X l tl) : PI X tg l (iSeqP X.K tl) := by
  refine ⟨fun pins s σ H R I h => thn (hl.run pins s σ H _ I h) ?_⟩
  rintro v s1 ⟨x, H1, I1, r1, ⟨a, rfl, xs, hq, q⟩ | ⟨a, rfl, xs, hq, q⟩ | ⟨z, rfl, q⟩⟩
  · cases r1
    obtain ⟨its, rv, p, hz⟩ := I1.list hq
    exact wpAny_pyIter_list p.isList (pi_one (tk := s1.toks) I1 _ (turn_list a _) ⟨_, Heap.get?_push_size _ rfl, rfl, rfl⟩ q)
  · cases r1
    obtain ⟨its, rv, p, hz⟩ := I1.tuple hq
    exact wpAny_pyIter_tuple p (pi_one (tk := s1.toks) I1 _ (turn_tuple a _) ⟨_, Heap.get?_push_size _ rfl, rfl, rfl⟩ q)
  · obtain ⟨t, rfl⟩ := r1
    cases ha : z.cps.all (· < 128)
    · exact wpAny_pyIter_wide ha (pi_one (tk := s1.toks) I1 _ (turn_str _ z t "str_iterator" (.inr rfl)) ⟨_, Heap.get?_push_size _ rfl, rfl, rfl⟩ q)
    · exact wpAny_pyIter_ascii ha (pi_one (tk := s1.toks) I1 _ (turn_str _ z t "str_ascii_iterator" (.inl rfl)) ⟨_, Heap.get?_push_size _ rfl, rfl, rfl⟩ q)
end
section
variable {H : Hp} {Q : VK} {K : PySem.W.Frag} {a : Addr} {xs : List V} {i j : Int} {z : Str}
theorem go_lenL (h : H a = some (.lst xs)) (q : Q (.int xs.length) H) : rLenP K [.ref a] H Q := .inl ⟨.ref a, xs.length, rfl, .inl ⟨xs, SqL.of h, rfl⟩, q⟩
theorem go_lenT (h : H a = some (.tup xs)) (q : Q (.int xs.length) H) : rLenP K [.ref a] H Q := .inl ⟨.ref a, xs.length, rfl, .inr ⟨xs, SqT.of h, rfl⟩, q⟩
theorem go_lenS (h : z.length ≤ sizeLine) (q : Q (.int z.length) H) : rLenP K [.str z] H Q := .inl ⟨.str z, z.length, rfl, ⟨h, rfl⟩, q⟩
theorem go_lenD {kvs : List (Key × V)} (h : H a = some (.dK kvs)) (q : Q (.int kvs.length) H) : rLenP K [.ref a] H Q := .inr ⟨a, kvs, rfl, h, q⟩
/-- the script's list, however it stands -/
theorem go_lenK (h : SqL K H a xs) (q : Q (.int xs.length) H) : rLenP K [.ref a] H Q := .inl ⟨.ref a, xs.length, rfl, .inl ⟨xs, h, rfl⟩, q⟩
theorem go_ixK {v : V} (h : SqL K H a xs) (hv : atI xs i = some v) (q : Q v H) : rIxP K (.ref a) (.int i) H Q := .inl ⟨a, xs, i, v, rfl, rfl, h, hv, q⟩
theorem go_listL (h : H a = some (.lst xs)) (q : ∀ p H1, New H p (.lst xs) H1 → Q (.ref p) H1) : rListP K [.ref a] H Q := ⟨a, xs, rfl, .inl (SqL.of h), new_of q⟩
theorem go_listT (h : H a = some (.tup xs)) (q : ∀ p H1, New H p (.lst xs) H1 → Q (.ref p) H1) : rListP K [.ref a] H Q := ⟨a, xs, rfl, .inr (SqT.of h), new_of q⟩
theorem go_tupleL (h : H a = some (.lst xs)) (q : ∀ p H1, New H p (.tup xs) H1 → Q (.ref p) H1) : rTupleP K [.ref a] H Q := ⟨a, xs, rfl, .inl ⟨SqL.of h, new_of q⟩⟩
theorem go_tupleT (h : H a = some (.tup xs)) (q : Q (.ref a) H) : rTupleP K [.ref a] H Q := ⟨a, xs, rfl, .inr ⟨SqT.of h, q⟩⟩
theorem go_intI (q : Q (.int i) H) : rIntP [.int i] H Q := .inl (.inl ⟨i, rfl, q⟩)
theorem go_intB {k : Bool} (q : Q (.int (if k then 1 else 0)) H) : rIntP [.bl k] H Q := .inl (.inr ⟨k, rfl, q⟩)
theorem go_abs (q : Q (.int (if i < 0 then -i else i)) H) : rAbsP [.int i] H Q := ⟨i, rfl, q⟩
theorem go_min2 (q : Q (.int (if j < i then j else i)) H) : rMin2 [.int i, .int j] H Q := ⟨i, j, rfl, q⟩
theorem go_max2 (q : Q (.int (if j > i then j else i)) H) : rMax2 [.int i, .int j] H Q := ⟨i, j, rfl, q⟩
theorem go_all {bs : List Bool} (h : H a = some (.lst (bs.map V.bl))) (q : Q (.bl (bs.all id)) H) : rAll K [.ref a] H Q := ⟨a, bs, rfl, SqL.of h, q⟩
theorem go_sum {ns : List Int} (h : H a = some (.lst (ns.map V.int))) (q : Q (.int ns.sum) H) : rSum K [.ref a] H Q := ⟨a, ns, rfl, SqL.of h, q⟩

/-! ### isinstance with a built-in class -/
/-- the kind of a value by its name -/
def tyN (H : Hp) : V → Option String
  | .non => some "NoneType"
  | .bl _ => some "bool"
  | .int _ => some "int"
  | .str _ => some "str"
  | .ref a => match H a with
    | some (.lst _) => some "list"
    | some (.tup _) => some "tuple"
    | some (.dK _) => some "dict"
    | _ => none
  | _ => none
theorem tyN_ok {x : V} {n : String} (h : tyN H x = some n) : TyX K H x (.type n) := by
  cases x with
  | non => cases h; exact .base .non
  | bl b => cases h; exact .base (.bl b)
  | int i => cases h; exact .base (.int i)
  | str s => cases h; exact .base (.str s)
  | byt b => cases h
  | flt b => cases h
  | ty n => cases h
  | ref a =>
    have h' : (match H a with | some (.lst _) => some "list" | some (.tup _) => some "tuple" | some (.dK _) => some "dict" | _ => none) = some n := h
    split at h'
    · rename_i e; cases h'; exact .base (.lst e)
    · rename_i e; cases h'; exact .base (.tup e)
    · rename_i e; cases h'; exact .base (.dK e)
    · cases h'
theorem tyN_L (h : H a = some (.lst xs)) : tyN H (.ref a) = some "list" := by simp [tyN, h]
theorem tyN_T (h : H a = some (.tup xs)) : tyN H (.ref a) = some "tuple" := by simp [tyN, h]
theorem tyN_D {kvs : List (Key × V)} (h : H a = some (.dK kvs)) : tyN H (.ref a) = some "dict" := by simp [tyN, h]
/-- isinstance(x, T), x of kind n -/
theorem go_isi {x : V} {n T : String} {r : Bool} (h : tyN H x = some n) (hr : kitB n T = some r) (q : Q (.bl r) H) : rIsi K [x, .ty T] H Q := ⟨x, .ty T, .type n, .type T, r, rfl, .ty T, tyN_ok h, kit_ty hr, q⟩
def isiB (n T : String) : Bool := (kitB n T).getD false
theorem kit_b' : ∀ n ∈ ["NoneType", "bool", "int", "str", "list", "tuple", "dict"], ∀ T ∈ ["bool", "int", "str", "list", "tuple", "dict"], kitB n T = some (n == T || (n == "bool" && T == "int")) := by decide +kernel
theorem kit_bb {n T : String} (h : n ∈ ["NoneType", "bool", "int", "str", "list", "tuple", "dict"]) (k : T ∈ ["bool", "int", "str", "list", "tuple", "dict"]) : kitB n T = some (n == T || (n == "bool" && T == "int")) := kit_b' n h T k
end
end Bk

/-! ### comprehensions and loops, by what each turn makes -/
namespace Bk
open PySem L2 PyProof.Rows
def LcK (g : TG) (tt : TT) (te : TE) (vs : List Nat) (σ : St) (Q : VK) : It → Hp → Prop := fun J H1 => tLc (fun _ H R => R J H) g tt te vs σ H1 Q
def ForK (g : TG) (tb : TS) (D : Ends) (σ : St) : It → Hp → Prop := fun J H1 => tFor (fun _ H R => R J H) g tb D σ H1
/-- one range's ends -/
def Rng1K (R : It → Hp → Prop) : List V → Hp → Prop := fun vs H1 => ∃ j : Int, vs = [.int j] ∧ -(2 ^ 62) ≤ j ∧ j < 2 ^ 62 ∧ R (Itr 0 j.toNat) H1
def Rng2K (R : It → Hp → Prop) : List V → Hp → Prop := fun vs H1 => ∃ i j : Int, vs = [.int i, .int j] ∧ (-(2 ^ 62) ≤ i ∧ i < 2 ^ 62 ∧ -(2 ^ 62) ≤ j ∧ j < 2 ^ 62) ∧ R (Itr i (j - i).toNat) H1
section
variable {σ : St} {H H1 : Hp} {Q : VK} {K : PySem.W.Frag} {wi : TI} {g : TG} {tt : TT} {te tl : TE} {vs : List Nat} {tb : TS} {D : Ends} {ta : TA} {R : It → Hp → Prop} {a : Addr} {xs : List V} {i j : Int} {z : Str} {nx bk ct : St → Hp → Prop} {rt : VK}
theorem go_lc (q : wi σ H (LcK g tt te vs σ Q)) : tLc wi g tt te vs σ H Q := q
theorem go_for (q : wi σ H (ForK g tb D σ)) : tFor wi g tb D σ H := q
theorem go_seqP (q : tl σ H (SeqC K R)) : iSeqP K tl σ H R := q
theorem go_seqL (h : H a = some (.lst xs)) (q : R (Itl K a) H) : SeqC K R (.ref a) H := .inl ⟨a, rfl, xs, SqL.of h, q⟩
theorem go_seqK (h : SqL K H a xs) (q : R (Itl K a) H) : SeqC K R (.ref a) H := .inl ⟨a, rfl, xs, h, q⟩
theorem go_seqT (h : H a = some (.tup xs)) (q : R (Itt K a) H) : SeqC K R (.ref a) H := .inr (.inl ⟨a, rfl, xs, SqT.of h, q⟩)
theorem go_seqS (q : R (Its z) H) : SeqC K R (.str z) H := .inr (.inr ⟨z, rfl, q⟩)
theorem go_rng1 (q : ta σ H (Rng1K R)) : iRng1 ta σ H R := q
theorem go_rng2 (q : ta σ H (Rng2K R)) : iRng2 ta σ H R := q
theorem go_rng1K (h : -(2 ^ 62) ≤ j ∧ j < 2 ^ 62) (q : R (Itr 0 j.toNat) H) : Rng1K R [.int j] H := ⟨j, rfl, h.1, h.2, q⟩
theorem go_rng2K (h : -(2 ^ 62) ≤ i ∧ i < 2 ^ 62 ∧ -(2 ^ 62) ≤ j ∧ j < 2 ^ 62) (q : R (Itr i (j - i).toNat) H) : Rng2K R [.int i, .int j] H := ⟨i, j, rfl, h, q⟩

theorem take_succ_of {α : Type} {l : List α} {i : Nat} {x : α} (h : l[i]? = some x) : l.take (i + 1) = l.take i ++ [x] := by rw [List.take_add_one, h]; rfl
/-- a list with tests and elements that leave what stands -/
theorem lc_L {m : Nat} {f : V → V} {p : V → Bool} (h : H1 a = some (.lst xs)) (hz : xs.length ≤ sizeLine)
    (test : ∀ (i : Nat) (x : V) (H' : Hp) (QB : Bool → Hp → Prop), xs[i]? = some x → Same H1 H' → (∀ H'', Same H' H'' → QB (p x) H'') → tt ((σ.set m none).set m (some x)) H' QB)
    (step : ∀ (i : Nat) (x : V) (H' : Hp) (Q' : VK), xs[i]? = some x → p x = true → Same H1 H' → (∀ H'', Same H' H'' → Q' (f x) H'') → te ((σ.set m none).set m (some x)) H' Q')
    (q : ∀ D H2, H1 D = none → Same H1 H2 → H2 D = some (.lst ((xs.filter p).map f)) → Q (.ref D) H2) : LcK (gName m) tt te [m] σ Q (Itl K a) H1 := by
  intro D hD
  refine lc_list (K := K) (a := a) (xs := xs) (fun i H => H D = some (.lst (((xs.take i).filter p).map f)) ∧ Same H1 H) ⟨upd_same, fun b o e => by rw [upd_ne (ne_of_none e hD)]; exact e⟩ (fun i H _ ⟨_, s⟩ => SqL.of (s _ _ h)) ?_ ?_
  · rintro i x H' hx ⟨hd, s⟩
    refine ⟨?_, test i x H' _ hx s ?_⟩
    · show ((σ.set m none).set m (some x)).set m none = σ.set m none
      rw [List.set_set, List.set_set]
    · rintro H'' s2
      have hd2 := s2 _ _ hd
      cases hb : p x with
      | false =>
        rw [if_neg Bool.false_ne_true]
        refine ⟨?_, s.trans s2⟩
        rw [take_succ_of hx, List.filter_append, List.filter_cons_of_neg (by rw [hb]; decide), List.filter_nil, List.append_nil]
        exact hd2
      | true =>
        rw [if_pos rfl]
        refine step i x H'' _ hx hb (s.trans s2) fun H3 s3 => ?_
        refine ⟨_, s3 _ _ hd2, ?_, ?_, fun b o e => ?_⟩
        · rw [List.length_map]
          have h1 := List.length_filter_le p (xs.take i)
          have h2 : (xs.take i).length ≤ i := by rw [List.length_take]; omega
          have h3 : i < xs.length := (List.getElem?_eq_some_iff.mp hx).1
          omega
        · rw [upd_same, take_succ_of hx, List.filter_append, List.filter_cons_of_pos hb, List.filter_nil, List.map_append]
          rfl
        · rw [upd_ne (ne_of_none e hD)]
          exact s3 _ _ (s2 _ _ (s _ _ e))
  · rintro H2 ⟨hd, s⟩
    rw [List.take_length] at hd
    exact q D H2 hD s hd
/-- no test -/
theorem yes_if {σ : St} {H : Hp} {A B : Hp → Prop} (h : A H) : tYes σ H (fun b H3 => if b = true then A H3 else B H3) := (iteT (B := B H) h : if true = true then A H else B H)
theorem monoYes : ∀ (σ : St) (H : Hp) (Q Q' : Bool → Hp → Prop), (∀ b H', Q b H' → Q' b H') → tYes σ H Q → tYes σ H Q' := fun _ _ _ _ h q => h _ _ q
theorem lc_mapL {m : Nat} {f : V → V} (h : H1 a = some (.lst xs)) (hz : xs.length ≤ sizeLine)
    (step : ∀ (i : Nat) (x : V) (H' : Hp) (Q' : VK), xs[i]? = some x → Same H1 H' → (∀ H'', Same H' H'' → Q' (f x) H'') → te ((σ.set m none).set m (some x)) H' Q')
    (q : ∀ D H2, H1 D = none → Same H1 H2 → H2 D = some (.lst (xs.map f)) → Q (.ref D) H2) : LcK (gName m) tYes te [m] σ Q (Itl K a) H1 := by
  intro D hD
  refine lc_list (K := K) (a := a) (xs := xs) (fun i H => H D = some (.lst ((xs.take i).map f)) ∧ Same H1 H) ⟨upd_same, fun b o e => by rw [upd_ne (ne_of_none e hD)]; exact e⟩ (fun i H _ ⟨_, s⟩ => SqL.of (s _ _ h)) ?_ ?_
  · rintro i x H' hx ⟨hd, s⟩
    refine ⟨?_, ?_⟩
    · show ((σ.set m none).set m (some x)).set m none = σ.set m none
      rw [List.set_set, List.set_set]
    · refine yes_if (step i x H' _ hx s fun H3 s3 => ?_)
      refine ⟨_, s3 _ _ hd, ?_, ?_, fun b o e => ?_⟩
      · rw [List.length_map]
        have h2 : (xs.take i).length ≤ i := by rw [List.length_take]; omega
        have h3 : i < xs.length := (List.getElem?_eq_some_iff.mp hx).1
        omega
      · rw [upd_same, take_succ_of hx, List.map_append]
        rfl
      · rw [upd_ne (ne_of_none e hD)]
        exact s3 _ _ (s _ _ e)
  · rintro H2 ⟨hd, s⟩
    rw [List.take_length] at hd
    exact q D H2 hD s hd
theorem lc_mapR {m n : Nat} {lo : Int} {f : Nat → V} (hz : n ≤ sizeLine)
    (step : ∀ i H' Q', i < n → Same H1 H' → (∀ H'', Same H' H'' → Q' (f i) H'') → te ((σ.set m none).set m (some (.int (lo + i)))) H' Q')
    (q : ∀ D H2, H1 D = none → Same H1 H2 → H2 D = some (.lst ((List.range n).map f)) → Q (.ref D) H2) : LcK (gName m) tYes te [m] σ Q (Itr lo n) H1 := by
  intro D hD
  refine lc_range (fun i H => H D = some (.lst ((List.range i).map f)) ∧ Same H1 H) ⟨upd_same, fun b o e => by rw [upd_ne (ne_of_none e hD)]; exact e⟩ ?_ ?_
  · rintro i H' hi ⟨hd, s⟩
    refine ⟨?_, ?_⟩
    · show ((σ.set m none).set m (some (.int (lo + i)))).set m none = σ.set m none
      rw [List.set_set, List.set_set]
    · refine yes_if (step i H' _ hi s fun H3 s3 => ?_)
      refine ⟨_, s3 _ _ hd, ?_, ?_, fun b o e => ?_⟩
      · rw [List.length_map, List.length_range]
        omega
      · rw [upd_same, List.range_succ, List.map_append]
        rfl
      · rw [upd_ne (ne_of_none e hD)]
        exact s3 _ _ (s _ _ e)
  · rintro H2 ⟨hd, s⟩
    exact q D H2 hD s hd

theorem len_cut (xs : List V) (lo hi : Option Int) : (cutV xs lo hi).length = min (HT.sIx xs.length xs.length hi - HT.sIx xs.length 0 lo) (xs.length - HT.sIx xs.length 0 lo) := by
  unfold cutV
  rw [List.length_take, List.length_drop]
/-! loops -/
theorem for_L {m : Nat} (INV : Nat → St → Hp → Prop) (h : ∀ i σ H, INV i σ H → H a = some (.lst xs)) (h0 : INV 0 σ H1)
    (hs : ∀ i x σ H, xs[i]? = some x → INV i σ H → tb ⟨INV (i + 1), rt, nx, INV (i + 1)⟩ (σ.set m (some x)) H) (hd : ∀ σ H, INV xs.length σ H → nx σ H) : ForK (gName m) tb ⟨nx, rt, bk, ct⟩ σ (Itl K a) H1 :=
  for_list (K := K) (a := a) (xs := xs) INV h0 (fun i σ H _ q => SqL.of (h i σ H q)) hs hd
theorem for_T {m : Nat} (INV : Nat → St → Hp → Prop) (h : ∀ i σ H, INV i σ H → H a = some (.tup xs)) (h0 : INV 0 σ H1)
    (hs : ∀ i x σ H, xs[i]? = some x → INV i σ H → tb ⟨INV (i + 1), rt, nx, INV (i + 1)⟩ (σ.set m (some x)) H) (hd : ∀ σ H, INV xs.length σ H → nx σ H) : ForK (gName m) tb ⟨nx, rt, bk, ct⟩ σ (Itt K a) H1 :=
  for_tup (K := K) (a := a) (xs := xs) INV h0 (fun i σ H _ q => SqT.of (h i σ H q)) hs hd
theorem for_R {m n : Nat} {lo : Int} (INV : Nat → St → Hp → Prop) (h0 : INV 0 σ H1)
    (hs : ∀ i σ H, i < n → INV i σ H → tb ⟨INV (i + 1), rt, nx, INV (i + 1)⟩ (σ.set m (some (.int (lo + i)))) H) (hd : ∀ σ H, INV n σ H → nx σ H) : ForK (gName m) tb ⟨nx, rt, bk, ct⟩ σ (Itr lo n) H1 :=
  for_range INV h0 hs hd
end
/-! what is raised -/
def tRaiseE (C : Addr) (W : WX) : TS := fun _ σ H => W (.ref C) none σ H
structure ExOk (K : PySem.W.Frag) (C : Addr) : Prop where
  q : PySem.W.excIn K C [.type "ValueError", .type "Exception", .type "BaseException", .type "object"] "ValueError.__new__" = true
  k : PySem.W.keepIn K (.ref C) = true
  s : PySem.W.subIn K (.ref C) (.type "BaseException") = some true
  t : PySem.W.typeIn K (.ref C) = some (.type "type")
theorem raiseE {X : Cx} {C : Addr} {W : WX} {x m : Str} {j : Nat} {p p2 pos pos' : Pos} (hc : X.calm = true) (tk : L2N.Takes X W) (e : ExOk X.K C) (hm : X.mg x = some (.ref C)) (hg : Gl X x := by rfl) (hdb : (x == ("__debug__" : Str)) = false := by decide) :
    PS X (.Raise (some (.Call (.Name x p) [.Constant (.str m) j p2] [] pos)) none pos') (tRaiseE C W) :=
  L2N.ps_raise hc tk (L2N.pmk_own PySem.F.excBase_ValueError e.q hm e.k (raises_own e.s e.t) hg hdb)
theorem go_raise {C : Addr} {W : WX} {D : Ends} {σ : St} {H : Hp} (q : W (.ref C) none σ H) : tRaiseE C W D σ H := q
/-! targets of several names -/
theorem pg_or {X : Cx} {tg : Expr} {g h : TG} (a : PG X tg g) (b : PG X tg h) : PG X tg (fun v σ H Q => g v σ H Q ∨ h v σ H Q) :=
  ⟨fun pins s σ H v u Q I r q => q.elim (fun q => a.run pins s σ H v u Q I r q) fun q => b.run pins s σ H v u Q I r q⟩
def gTupP (K : PySem.W.Frag) (n : Nat) (t : TGs) : TG := fun v σ H Q => gTup K n t v σ H Q ∨ gLst K n t v σ H Q
theorem pg_tupP {X : Cx} {pos : Pos} {es : List Expr} {k : Nat} {t : TGs} {n : Nat} (hc : X.calm = true) (h : PGs X es t) (hn : (assignEach es X.env).length = n := by rfl) (hst : (assignEach es X.env).findIdx? (·.1) = none := by rfl) :
    PG X (.Tuple es k pos) (gTupP X.K n t) := pg_or (pg_tup hc h hn hst) (pg_lst hc h hn hst)
section
variable {σ : St} {H : Hp} {K : PySem.W.Frag} {n : Nat} {t : TG} {u : TGs} {v : V} {a : Addr} {xs : List V} {Q : St → Hp → Prop}
theorem go_tupG (h : H a = some (.tup xs)) (hl : xs.length = n) (q : u xs σ H Q) : gTupP K n u (.ref a) σ H Q := .inl ⟨a, xs, rfl, SqT.of h, hl, q⟩
theorem go_lstG (h : H a = some (.lst xs)) (hl : xs.length = n) (q : u xs σ H Q) : gTupP K n u (.ref a) σ H Q := .inr ⟨a, xs, rfl, SqL.of h, hl, q⟩
theorem go_gNil (q : Q σ H) : gNil [] σ H Q := ⟨rfl, q⟩
theorem go_gCons {r : List V} (q : t v σ H fun σ' H' => u r σ' H' Q) : gCons t u (v :: r) σ H Q := ⟨v, r, rfl, q⟩
end
/-- the classes' places -/
structure Ac where
  (KeepError BadRow NoBlock Stopped BadDisk NoRoom TooMuch BadLog NoNode NoNodes TooLong OutOfPlace BadName BadPath NotFolder NotFile NoName NameThere NotEmpty Within BadOrder Disk Layout Batch Keeper : Addr)
end Bk

namespace Bk
open PySem L2 PyProof.Rows
/-! ### data -/
section
variable {K : PySem.W.Frag} {H H' : Hp} {Q : VK} {x y : V} {d e : PyData} {a b : Addr}
mutual
theorem Dp.same (s : Same H H') : ∀ {d : PyData} {v : V}, Dp K H v d → Dp K H' v d
  | _, _, .non => .non
  | _, _, .bl b => .bl b
  | _, _, .int i => .int i
  | _, _, .str x => .str x
  | _, _, .lst h k => .lst (s.seq h) (DpAll.same s k)
  | _, _, .tup h k => .tup (by rcases h with (h | ⟨o, h⟩) | h; exact .inl (.inl (s _ _ h)); exact .inl (.inr ⟨o, s _ _ h⟩); exact .inr h) (DpAll.same s k)
theorem DpAll.same (s : Same H H') : ∀ {ds : List PyData} {vs : List V}, DpAll K H vs ds → DpAll K H' vs ds
  | _, _, .nil => .nil
  | _, _, .cons h k => .cons (Dp.same s h) (DpAll.same s k)
end
theorem DpAll.ints : ∀ ns : List Int, DpAll K H (ns.map V.int) (ns.map PyData.int)
  | [] => .nil
  | n :: r => .cons (.int n) (DpAll.ints r)
theorem DpAll.bls : ∀ ns : List Bool, DpAll K H (ns.map V.bl) (ns.map PyData.bool)
  | [] => .nil
  | n :: r => .cons (.bl n) (DpAll.bls r)
theorem dp_ints {ns : List Int} (h : H a = some (.lst (ns.map V.int))) : Dp K H (.ref a) (.list (ns.map PyData.int)) := .lst (SqL.of h) (DpAll.ints ns)
theorem dp_bls {ns : List Bool} (h : H a = some (.lst (ns.map V.bl))) : Dp K H (.ref a) (.list (ns.map PyData.bool)) := .lst (SqL.of h) (DpAll.bls ns)
theorem eqv_ints : ∀ ns ms : List Int, PyData.eqvAll (ns.map PyData.int) (ms.map PyData.int) = decide (ns = ms)
  | [], [] => by simp [PyData.eqvAll]
  | [], _ :: _ => by simp [PyData.eqvAll]
  | _ :: _, [] => by simp [PyData.eqvAll]
  | n :: r, m :: q => by
    simp only [List.map_cons, PyData.eqvAll, PyData.eqv, eqv_ints r q, List.cons.injEq, Bool.decide_and]
    rfl
theorem eqv_bls : ∀ ns ms : List Bool, PyData.eqvAll (ns.map PyData.bool) (ms.map PyData.bool) = decide (ns = ms)
  | [], [] => by simp [PyData.eqvAll]
  | [], _ :: _ => by simp [PyData.eqvAll]
  | _ :: _, [] => by simp [PyData.eqvAll]
  | n :: r, m :: q => by
    simp only [List.map_cons, PyData.eqvAll, PyData.eqv, eqv_bls r q, List.cons.injEq, Bool.decide_and]
    cases n <;> cases m <;> rfl
theorem shaped_bls (ns : List Bool) : SeqAt.shaped (.list (ns.map PyData.bool)) = true := by
  have h1 : ∀ ns : List Bool, PyData.canLayAll0 (ns.map PyData.bool) = true := fun ns => by induction ns with
    | nil => simp [PyData.canLayAll0]
    | cons n r ih => simp [PyData.canLayAll0, PyData.canLay0, ih]
  have h2 : ∀ ns : List Bool, PyData.depthAll (ns.map PyData.bool) ≤ 1 := fun ns => by induction ns with
    | nil => simp [PyData.depthAll]
    | cons n r ih => simp only [List.map_cons, PyData.depthAll, PyData.depth]; omega
  have h3 := h2 ns
  unfold SeqAt.shaped
  rw [Bool.and_eq_true]
  exact ⟨by simp only [PyData.canLay0]; exact h1 ns, decide_eq_true (by simp only [PyData.depth]; omega)⟩
theorem go_eqD (h : Dp K H x d) (k : Dp K H y e) (hd : SeqAt.shaped d = true) (he : SeqAt.shaped e = true) (q : Q (.bl (PyData.eqv d e)) H) : rEqP K x y H Q := .inr ⟨d, e, h, k, hd, he, q⟩
theorem go_neD (h : Dp K H x d) (k : Dp K H y e) (hd : SeqAt.shaped d = true) (he : SeqAt.shaped e = true) (q : Q (.bl (!PyData.eqv d e)) H) : rNeP K x y H Q := .inr ⟨d, e, h, k, hd, he, q⟩
theorem go_eqIs {ns ms : List Int} (h : H a = some (.lst (ns.map V.int))) (k : H b = some (.lst (ms.map V.int))) (q : Q (.bl (decide (ns = ms))) H) : rEqP K (.ref a) (.ref b) H Q :=
  go_eqD (dp_ints h) (dp_ints k) (PySem.W.shaped_ints ns) (PySem.W.shaped_ints ms) (by rw [PyData.eqv, eqv_ints]; exact q)
theorem go_neIs {ns ms : List Int} (h : H a = some (.lst (ns.map V.int))) (k : H b = some (.lst (ms.map V.int))) (q : Q (.bl (!decide (ns = ms))) H) : rNeP K (.ref a) (.ref b) H Q :=
  go_neD (dp_ints h) (dp_ints k) (PySem.W.shaped_ints ns) (PySem.W.shaped_ints ms) (by rw [PyData.eqv, eqv_ints]; exact q)
theorem go_eqBs {ns ms : List Bool} (h : H a = some (.lst (ns.map V.bl))) (k : H b = some (.lst (ms.map V.bl))) (q : Q (.bl (decide (ns = ms))) H) : rEqP K (.ref a) (.ref b) H Q :=
  go_eqD (dp_bls h) (dp_bls k) (shaped_bls ns) (shaped_bls ms) (by rw [PyData.eqv, eqv_bls]; exact q)
/-- two that hold the same data -/
theorem go_neSame (h : Dp K H x d) (k : Dp K H y d) (hd : SeqAt.shaped d = true) (q : Q (.bl false) H) : rNeP K x y H Q :=
  go_neD h k hd hd (by rw [PySem.SeqAt.eqv_refl d (SeqAt.canLay_of_shaped hd)]; exact q)
theorem go_eqSame (h : Dp K H x d) (k : Dp K H y d) (hd : SeqAt.shaped d = true) (q : Q (.bl true) H) : rEqP K x y H Q :=
  go_eqD h k hd hd (by rw [PySem.SeqAt.eqv_refl d (SeqAt.canLay_of_shaped hd)]; exact q)
theorem tyN_same {n : String} (s : Same H H') (h : tyN H x = some n) : tyN H' x = some n := by
  cases x with
  | ref a =>
    have h' : (match H a with | some (.lst _) => some "list" | some (.tup _) => some "tuple" | some (.dK _) => some "dict" | _ => none) = some n := h
    split at h'
    · rename_i e; rw [← h']; exact tyN_L (s _ _ e)
    · rename_i e; rw [← h']; exact tyN_T (s _ _ e)
    · rename_i e; rw [← h']; exact tyN_D (s _ _ e)
    · cases h'
  | _ => exact h
end
end Bk

/-! ### a script's cells; items at open places; known things -/
namespace Bk
open PySem L2 PyProof.Rows
section
variable {K : PySem.W.Frag} {H H' : Hp} {Q : VK}
theorem atI_some {α : Type} {xs : List α} {j : Int} (h0 : 0 ≤ j) (h1 : j < xs.length) : ∃ v, atI xs j = some v ∧ v ∈ xs ∧ xs[j.toNat]? = some v := by
  have h2 : j.toNat < xs.length := by omega
  refine ⟨xs[j.toNat], ?_, List.getElem_mem h2, List.getElem?_eq_getElem h2⟩
  have := atI_nat (xs := xs) (j := j.toNat) (List.getElem?_eq_getElem h2)
  rwa [Int.toNat_of_nonneg h0] at this
theorem go_ixLo {a : Addr} {xs : List V} {j : Int} (h : H a = some (.lst xs)) (hj : 0 ≤ j ∧ j < xs.length) (q : ∀ v, v ∈ xs → xs[j.toNat]? = some v → Q v H) : rIxP K (.ref a) (.int j) H Q := by
  obtain ⟨v, h1, h2, h3⟩ := atI_some hj.1 hj.2
  exact go_ixL h h1 (q v h2 h3)
/-- the k-th cell of a script, nought behind its end -/
def cellI (ns : List Int) (k : Int) : Int := ns.getD k.toNat 0
theorem cell_in {ns : List Int} {k : Int} (h : 0 ≤ k) (h2 : k < ns.length) : atI (ns.map V.int) k = some (.int (cellI ns k)) := by
  obtain ⟨v, e, _, e2⟩ := atI_some (xs := ns.map V.int) h (by simpa using h2)
  rw [e]
  rw [List.getElem?_map] at e2
  unfold cellI
  cases q : ns[k.toNat]? with
  | none => rw [q] at e2; cases e2
  | some z => rw [q] at e2; cases e2; rw [List.getD_eq_getElem?_getD, q]; rfl
theorem cell_out {ns : List Int} {k : Int} (h : ¬ k < ns.length) : cellI ns k = 0 := by
  unfold cellI
  rw [List.getD_eq_getElem?_getD, List.getElem?_eq_none (by omega)]
  rfl
/-- a thing whose kind and data are known, no deeper than a list of plain things -/
def Itm (K : PySem.W.Frag) (H : Hp) (y : V) : Prop := (∃ n, tyN H y = some n) ∧ ∃ d, Dp K H y d ∧ d.canLay0 = true ∧ d.depth ≤ 2
theorem Itm.same {y : V} (s : Same H H') (h : Itm K H y) : Itm K H' y := ⟨let ⟨n, e⟩ := h.1; ⟨n, tyN_same s e⟩, let ⟨d, e, c⟩ := h.2; ⟨d, Dp.same s e, c⟩⟩
theorem Itm.int (i : Int) : Itm K H (.int i) := ⟨⟨_, rfl⟩, _, .int i, by simp [PyData.canLay0], by simp [PyData.depth]⟩
theorem Itm.str (i : Str) (h : PyData.strOk i = true) : Itm K H (.str i) := ⟨⟨_, rfl⟩, _, .str i, by simp [PyData.canLay0, h], by simp [PyData.depth]⟩
theorem Itm.bl (i : Bool) : Itm K H (.bl i) := ⟨⟨_, rfl⟩, _, .bl i, by simp [PyData.canLay0], by simp [PyData.depth]⟩
theorem Itm.non : Itm K H .non := ⟨⟨_, rfl⟩, _, .non, by simp [PyData.canLay0], by simp [PyData.depth]⟩
theorem Itm.ints {a : Addr} {ns : List Int} (h : H a = some (.lst (ns.map V.int))) : Itm K H (.ref a) := by
  have h1 := PySem.W.shaped_ints ns
  have h2 := PySem.W.depthAll_ints ns
  exact ⟨⟨_, tyN_L h⟩, _, dp_ints h, SeqAt.canLay_of_shaped h1, by simp only [PyData.depth]; omega⟩
theorem Itm.tup0 {a : Addr} (h : H a = some (.tup [])) : Itm K H (.ref a) := ⟨⟨_, tyN_T h⟩, .tuple [], .tup (SqT.of h) .nil, by simp [PyData.canLay0, PyData.canLayAll0], by simp [PyData.depth, PyData.depthAll]⟩
theorem itms {xs : List V} (h : ∀ y ∈ xs, Itm K H y) : ∃ ds, DpAll K H xs ds ∧ PyData.canLayAll0 ds = true ∧ PyData.depthAll ds ≤ 2 := by
  induction xs with
  | nil => exact ⟨[], .nil, by simp [PyData.canLayAll0], by simp [PyData.depthAll]⟩
  | cons x r ih =>
    obtain ⟨ds, h1, h2, h3⟩ := ih fun y hy => h y (List.mem_cons_of_mem _ hy)
    obtain ⟨_, d, k1, k2, k3⟩ := h x List.mem_cons_self
    exact ⟨d :: ds, .cons k1 h1, by simp [PyData.canLayAll0, k2, h2], by simp only [PyData.depthAll]; omega⟩
theorem shapedL {ds : List PyData} (h : PyData.canLayAll0 ds = true) (k : PyData.depthAll ds ≤ 2) : SeqAt.shaped (.list ds) = true := by
  unfold SeqAt.shaped
  rw [Bool.and_eq_true]
  exact ⟨by simp only [PyData.canLay0]; exact h, decide_eq_true (by simp only [PyData.depth]; omega)⟩
theorem shapedT {ds : List PyData} (h : PyData.canLayAll0 ds = true) (k : PyData.depthAll ds ≤ 2) : SeqAt.shaped (.tuple ds) = true := by
  unfold SeqAt.shaped
  rw [Bool.and_eq_true]
  exact ⟨by simp only [PyData.canLay0]; exact h, decide_eq_true (by simp only [PyData.depth]; omega)⟩
end
end Bk

namespace Bk
open PySem L2 PyProof.Rows
theorem kindR {H : Hp} {p : Addr} {n : String} (h : tyN H (.ref p) = some n) : (n = "list" ∧ ∃ xs, H p = some (.lst xs)) ∨ (n = "tuple" ∧ ∃ xs, H p = some (.tup xs)) ∨ (n = "dict" ∧ ∃ kvs, H p = some (.dK kvs)) := by
  have h' : (match H p with | some (.lst _) => some "list" | some (.tup _) => some "tuple" | some (.dK _) => some "dict" | _ => none) = some n := h
  split at h'
  · rename_i e; cases h'; exact .inl ⟨rfl, _, e⟩
  · rename_i e; cases h'; exact .inr (.inl ⟨rfl, _, e⟩)
  · rename_i e; cases h'; exact .inr (.inr ⟨rfl, _, e⟩)
  · cases h'
end Bk

/-! ### slices from and to a place -/
namespace Bk
open PySem L2 PyProof.Rows
theorem cut_take (xs : List V) {k : Int} (h : 0 ≤ k) : cutV xs none (some k) = xs.take k.toNat := by
  unfold cutV HT.sIx
  simp only [if_neg (show ¬ k < 0 by omega), Nat.sub_zero, List.drop_zero]
  by_cases c : k.toNat ≤ xs.length
  · rw [Nat.min_eq_left c]
  · rw [Nat.min_eq_right (by omega), List.take_length, List.take_of_length_le (by omega)]
theorem cut_drop (xs : List V) {k : Int} (h : 0 ≤ k) : cutV xs (some k) none = xs.drop k.toNat := by
  unfold cutV HT.sIx
  simp only [if_neg (show ¬ k < 0 by omega)]
  by_cases c : k.toNat ≤ xs.length
  · rw [Nat.min_eq_left c, List.take_of_length_le (by rw [List.length_drop]; omega)]
  · rw [Nat.min_eq_right (by omega), List.drop_length, List.drop_of_length_le (by omega)]
    simp
theorem cut_mid (xs : List V) {i k : Int} (h : 0 ≤ i) (h2 : 0 ≤ k) : cutV xs (some i) (some k) = (xs.drop i.toNat).take (k.toNat - i.toNat) := by
  unfold cutV HT.sIx
  simp only [if_neg (show ¬ k < 0 by omega), if_neg (show ¬ i < 0 by omega)]
  by_cases c : i.toNat ≤ xs.length
  · rw [Nat.min_eq_left c]
    by_cases c2 : k.toNat ≤ xs.length
    · rw [Nat.min_eq_left c2]
    · rw [Nat.min_eq_right (by omega), List.take_of_length_le (by rw [List.length_drop]; omega), List.take_of_length_le (by rw [List.length_drop]; omega)]
  · rw [Nat.min_eq_right (show xs.length ≤ i.toNat by omega), List.drop_length, List.drop_of_length_le (show xs.length ≤ i.toNat by omega)]
    simp
theorem cut_all (xs : List V) : cutV xs none none = xs := by
  unfold cutV HT.sIx
  simp
end Bk

/-! ### methods of lists; loops that only look -/
namespace Bk
open PySem L2 PyProof.Rows
def BmK (K : PySem.W.Frag) (T : String) (r : V → List V → Hp → VK → Prop) (t : TA) (σ : St) (Q : VK) : VK := fun x H1 => tyV K T x H1 ∧ t σ H1 fun xs H2 => r x xs H2 Q
section
variable {K : PySem.W.Frag} {H H1 : Hp} {Q : VK} {σ : St} {T : String} {r : V → List V → Hp → VK → Prop} {to : TE} {t : TA} {a b : Addr} {xs ys : List V} {y : V} {tb : TS} {nx bk ct : St → Hp → Prop} {rt : VK}
theorem go_bm (q : to σ H (BmK K T r t σ Q)) : tBM K T r to t σ H Q := q
theorem go_bm0 (q : to σ H (BmK K T r tNil σ Q)) : tBM0 K T r to σ H Q := q
theorem go_bmL (h : H a = some (.lst xs)) (q : t σ H fun xs H2 => r (.ref a) xs H2 Q) : BmK K "list" r t σ Q (.ref a) H := ⟨.inl ⟨rfl, _, SqL.of h⟩, q⟩
theorem go_append (h : H a = some (.lst xs)) (hz : xs.length < sizeLine) (q : ∀ H1, Wr H a (.lst (xs ++ [y])) H1 → Q .non H1) : rAppend (.ref a) [y] H Q := ⟨a, xs, y, rfl, rfl, h, hz, wr_of h q⟩
theorem go_extend (h : H a = some (.lst xs)) (k : H b = some (.lst ys)) (hz : xs.length + ys.length ≤ sizeLine) (q : ∀ H1, Wr H a (.lst (xs ++ ys)) H1 → Q .non H1) : rExtend (.ref a) [.ref b] H Q := ⟨a, b, xs, ys, rfl, rfl, h, k, hz, wr_of h q⟩
theorem go_clear (h : H a = some (.lst xs)) (q : ∀ H1, Wr H a (.lst []) H1 → Q .non H1) : rClear (.ref a) [] H Q := ⟨a, xs, rfl, rfl, h, wr_of h q⟩
theorem go_dnew (q : ∀ p H1, New H p (.dK []) H1 → Q (.ref p) H1) : tDNewK σ H Q := new_of q
theorem go_call0 {sp : Sp} {E : St → XK} (q : sp [] H Q (E σ)) : tCall0 sp E σ H Q := q
theorem seq' {K : PySem.W.Frag} {H H1 : Hp} {a : Addr} {xs : List V} (h : SqL K H a xs) (s : Same H H1) : SqL K H1 a xs := s.seq h
theorem ne_none {u : HO} (n : H b = none) (h : H a = some u) : a ≠ b := ne_of_none h n
/-- a loop whose turns let stand what stood -/
theorem for_lookL {m : Nat} (h : H1 a = some (.lst xs)) (h0 : ∃ v, σ = σ.set m v)
    (turn : ∀ (i : Nat) (x : V) (H' : Hp) (N : St → Hp → Prop), xs[i]? = some x → Same H1 H' → (∀ H'', Same H' H'' → N (σ.set m (some x)) H'') → tb ⟨N, rt, nx, N⟩ (σ.set m (some x)) H')
    (fin : ∀ v H', Same H1 H' → nx (σ.set m v) H') : ForK (gName m) tb ⟨nx, rt, bk, ct⟩ σ (Itl K a) H1 := by
  refine for_L (xs := xs) (fun i σ' H' => ∃ v, σ' = σ.set m v ∧ Same H1 H') (fun i σ' H' ⟨_, _, s⟩ => s _ _ h) (let ⟨v, e⟩ := h0; ⟨v, e, Same.refl _⟩) ?_ ?_
  · rintro i x σ' H' hx ⟨v, rfl, s⟩
    rw [List.set_set]
    exact turn i x H' _ hx s fun H'' s2 => ⟨_, rfl, s.trans s2⟩
  · rintro σ' H' ⟨v, rfl, s⟩
    exact fin v H' s
theorem for_lookT {m : Nat} (h : H1 a = some (.tup xs)) (h0 : ∃ v, σ = σ.set m v)
    (turn : ∀ (i : Nat) (x : V) (H' : Hp) (N : St → Hp → Prop), xs[i]? = some x → Same H1 H' → (∀ H'', Same H' H'' → N (σ.set m (some x)) H'') → tb ⟨N, rt, nx, N⟩ (σ.set m (some x)) H')
    (fin : ∀ v H', Same H1 H' → nx (σ.set m v) H') : ForK (gName m) tb ⟨nx, rt, bk, ct⟩ σ (Itt K a) H1 := by
  refine for_T (xs := xs) (fun i σ' H' => ∃ v, σ' = σ.set m v ∧ Same H1 H') (fun i σ' H' ⟨_, _, s⟩ => s _ _ h) (let ⟨v, e⟩ := h0; ⟨v, e, Same.refl _⟩) ?_ ?_
  · rintro i x σ' H' hx ⟨v, rfl, s⟩
    rw [List.set_set]
    exact turn i x H' _ hx s fun H'' s2 => ⟨_, rfl, s.trans s2⟩
  · rintro σ' H' ⟨v, rfl, s⟩
    exact fin v H' s
end
end Bk

/-! our own: loops, comprehensions, calls where an exception may be in hand (hot) or not (calm) -/
namespace Bk
open PySem L2 PyProof.Rows L2H HotX
/-- the exception in hand stands: pinned, or older than the entry -/
def HotY (X : Cx) : Prop := ∃ p : Addr × Obj, Hot1 X.A p ∧ (p ∈ X.pn ∨ (X.s_0.heap.get? p.1 = some p.2 ∧ X.H_0 p.1 = none ∧ p.1 ∉ X.fs ∧ p.1 ∉ X.ex))
def CoH (X : Cx) : Prop := X.calm = true ∨ HotY X
section
variable {X : Cx} {pins : List (Addr × Obj)} {σ : Bk.St} {H : Hp} {s : Shared}
theorem HotY.pin (I : Inv X pins σ H s) {p : Addr × Obj} (h : p ∈ X.pn ∨ (X.s_0.heap.get? p.1 = some p.2 ∧ X.H_0 p.1 = none ∧ p.1 ∉ X.fs ∧ p.1 ∉ X.ex)) : s.heap.get? p.1 = some p.2 ∧ H p.1 = none := by
  rcases h with h | ⟨a, b, c, d⟩
  · have z := I.pin p (List.mem_append_left _ h)
    exact ⟨z.1, z.2.1⟩
  · exact ⟨I.base.keep _ _ a b c d, I.base.free _ _ a b d⟩
theorem HotY.at (c : HotY X) (I : Inv X pins σ H s) : ∃ x1, HotAt X.A x1 s.heap := by
  obtain ⟨p, ⟨hh, v1, e1, c1⟩, hp⟩ := c
  exact ⟨p.1, hh, p.2, v1, (HotY.pin I hp).1, e1, c1⟩
theorem HotY.of (c : HotC X) : HotY X := let ⟨p, h, k⟩ := c; ⟨p, h, .inl k⟩
/-- .. so in a comprehension's block -/
theorem HotY.blk {scope : Scope} {ce : Env} {fp : List Addr} (c : HotY X) (I : Inv X pins σ H s) (hf : ∀ b ∈ fp, FpOk X pins H b) : HotY (X.blk s H scope ce fp) := by
  obtain ⟨p, h1, hp⟩ := c
  have z := HotY.pin I hp
  refine ⟨p, h1, .inr ⟨z.1, z.2, fun q => ?_, fun q => ?_⟩⟩
  · have q' : p.1 ∈ X.env.locals :: X.fs := I.stkSub p.1 q
    rcases hp with hp | ⟨a, b, c, d⟩
    · have w := I.pin p (List.mem_append_left _ hp)
      exact (List.mem_cons.mp q').elim w.2.2.1 w.2.2.2.1
    · exact (List.mem_cons.mp q').elim (fun e => Nat.ne_of_lt (Nat.lt_of_lt_of_le (Heap.lt_size a) I.ok.above) e) c
  · obtain ⟨_, _, _, f3, _, f5⟩ := hf p.1 q
    rcases hp with hp | ⟨a, b, c, d⟩
    · exact f5 p (List.mem_append_left _ hp) rfl
    · rcases f3 with f3 | f3
      · exact d f3
      · exact absurd (Nat.lt_of_lt_of_le (Heap.lt_size a) f3) (Nat.lt_irrefl _)
theorem CoH.blk {scope : Scope} {ce : Env} {fp : List Addr} (c : CoH X) (I : Inv X pins σ H s) (hf : ∀ b ∈ fp, FpOk X pins H b) : CoH (X.blk s H scope ce fp) :=
  c.elim (fun h => .inl h) fun h => .inr (h.blk I hf)
end
/-- a list's end while an exception is in hand -/
theorem list_end_hot {prog : Program} {w : World} {A : Around} {E : Value → Shared → Prop} {s : Shared} {it l x1 : Addr} {i : Nat} {items : Array Value} {Q : Option Value → Shared → Prop} (hot : HotAt A x1 s.heap)
    (hit : s.heap.IsListIter it l i) (hl : s.heap.IsList l items) (hx : items[i]? = none) (hQ : ∀ h', (∀ b o, b ≠ it → s.heap.get? b = some o → h'.get? b = some o) → Q none { s with heap := h' }) : wpAny (model prog w) A (pyNext (.ref it)) Q E s := by
  obtain ⟨o, ho, hc, hd⟩ := id hit
  obtain ⟨ol, hol, _, nl, hdl⟩ := hl
  obtain ⟨hh, o1, vs1, h1, d1, c1⟩ := hot
  have ne : x1 ≠ it := fun e => by
    rw [e, ho] at h1; cases h1
    rw [hd] at d1; cases d1
    simp at c1
  unfold pyNext
  refine wpAny_bind (wpAny_attempt (wpAny_callSpecial?_slot (name := Str.ofString "__next__") hit.typeIs slot_listiter_next (wpAny_call_entry slot_listiter_next hit.typeIs entry_listiter_next ?_ (args_listiter_next _))))
  show wpAny _ _ (field (.ref it) 0 >>= _) _ _ s
  refine wpAny_bind (wpAny_field ho hd (x := .ref l) rfl ?_)
  show wpAny _ _ (if (Value.ref l == Value.none) = true then _ else _) _ _ s
  rw [if_neg (show ¬ ((Value.ref l == Value.none) = true) from Bool.false_ne_true)]
  show wpAny _ _ (field (.ref it) 1 >>= _) _ _ s
  refine wpAny_bind (wpAny_field ho hd (x := .int i 0) rfl ?_)
  show wpAny _ _ (seqItems? (.ref l) >>= _) _ _ s
  refine wpAny_bind (wpAny_seqItems hol hdl ?_)
  simp only [Int.toNat_natCast, hx]
  refine wpAny_bind (wpAny_rule (wpAny_bind (wpAny_setField ho hd (by simp) ?_)))
  show wpAny _ _ (newExc (.type "StopIteration") [] >>= _) _ _ _
  refine wpAny_bind ?_
  simp only [newExc, newTuple]
  refine wpAny_bind (wpAny_newObj_type ?_ (by size_fits))
  refine wpAny_bind (m := firstArgMember _ _) (wpAny_of_eq (a := Value.none) (by first | rfl | (simp only [firstArgMember]; rfl)) ?_)
  refine wpAny_newObj_type ?_ (by size_fits)
  have keep : ∀ b o', b ≠ it → s.heap.get? b = some o' → ((s.heap.update it (Obj.mapFields (·.setIfInBounds 0 Value.none))).get? b) = some o' := fun b o' hb e => (Heap.get?_update_other _ _ (Ne.symm hb)).trans e
  refine raiseNew_hot ⟨hh, o1, vs1, Heap.get?_push_of_some _ (Heap.get?_push_of_some _ (keep x1 o1 ne h1)), d1, c1⟩ (Nat.ne_of_lt (Heap.lt_size (Heap.get?_push_of_some _ (keep x1 o1 ne h1)))) (Heap.get?_push_size _ rfl) rfl (by first | (simp; done) | (simp; omega) | (simp only [Array.size_append]; simp; omega)) ?_
  refine wpAny_bind (wpAny_isInstance (T := "StopIteration") (b := true) ⟨_, Heap.get?_update_self _ (Heap.get?_push_size _ rfl) rfl, rfl⟩ isSubtype_stop ?_)
  refine wpAny_pure (hQ _ fun b o' hb e => ?_)
  have e2 := keep b o' hb e
  rw [Heap.get?_update_other _ _ (Nat.ne_of_gt (Heap.lt_size (Heap.get?_push_of_some _ e2)))]
  exact Heap.get?_push_of_some _ (Heap.get?_push_of_some _ e2)

/-! ### what is walked, calm or hot -/
structure TurnY (P : Program) (w : World) (K : PySem.W.Frag) (tg : Expr) (J : It) (fp : List Addr) (it : Addr) (tn : Nat → Heap → Prop) : Prop where
  mem : it ∈ fp
  obj : ∀ i h, tn i h → ∀ b ∈ fp, ∃ o, h.get? b = some o ∧ ∀ v, o.data ≠ .cell v
  keep : ∀ i h h', tn i h → (∀ b ∈ fp, ∀ o, h.get? b = some o → h'.get? b = some o) → tn i h'
  item : ∀ (X : Cx), X.prog = P → X.w = w → X.K = K → CoH X → ∀ (i : Nat) (pins : List (Addr × Obj)) (s : Shared) (σ : Bk.St) (H : Hp) (E : Value → Shared → Prop), Inv X pins σ H s → (∀ b ∈ fp, FpOk X pins H b) → tn i s.heap → J.go i H →
    wpAny (model P w) X.A (pyNext (.ref it)) (fun r s1 => ∃ u, r = some u ∧ wpAny (model P w) X.A (letOwnedTupleGo tg (.ref it) u) (fun _ s2 => ∃ x H', Inv X pins σ H' s2 ∧ RelV x u ∧ J.yld i H x H' ∧ tn (i + 1) s2.heap ∧ ∀ b ∈ fp, H' b = none) E s1) E s
  done : ∀ (X : Cx), X.prog = P → X.w = w → X.K = K → CoH X → ∀ (i : Nat) (pins : List (Addr × Obj)) (s : Shared) (σ : Bk.St) (H : Hp) (E : Value → Shared → Prop), Inv X pins σ H s → (∀ b ∈ fp, FpOk X pins H b) → tn i s.heap → J.stop i H →
    wpAny (model P w) X.A (pyNext (.ref it)) (fun r s1 => r = none ∧ Inv X pins σ H s1) E s
  self : ∀ (A : Around) (i : Nat) (s : Shared) (Q : Value → Shared → Prop) (E : Value → Shared → Prop), tn i s.heap → Q (.ref it) s → wpAny (model P w) A (pyIter (.ref it)) Q E s
theorem turnY_list {P : Program} {w : World} {K : PySem.W.Frag} {tg : Expr} (a it : Addr) : TurnY P w K tg (Itl K a) [it] it (fun i h => h.IsListIter it a i) where
  mem := by simp
  obj := (turn_list (P := P) (w := w) (K := K) (tg := tg) a it).obj
  keep := (turn_list (P := P) (w := w) (K := K) (tg := tg) a it).keep
  self := (turn_list (P := P) (w := w) (K := K) (tg := tg) a it).self
  item := by
    rintro X rfl rfl rfl hc i pins s σ H E I hf st ⟨xs, x, hq, hx⟩
    obtain ⟨its, rv, p, hz⟩ := I.list hq
    obtain ⟨u, hu, ru⟩ := rv.get hx
    obtain ⟨f0, f1, f2, f3, f4, f5⟩ := hf it (by simp)
    refine wpAny_pyNext_list_item st p.isList (x := u) (by simpa using hu) fun h' st' sb => ⟨u, rfl, ?_⟩
    have I1 : Inv X pins σ H { s with heap := h' } := I.turned (t' := s.toks) (fun b o hb e => (sb.2 b hb).trans e) f0 f1 f3 f4 f5
    obtain ⟨o, e, c, d⟩ := id st'
    exact go_of (s := { s with heap := h' }) e c d (by decide) ⟨x, H, I1, ru, ⟨rfl, fun ys hy => by rw [I.list_inj hy hq]; exact hx⟩, st', fun b hb => (hf b hb).1⟩
  done := by
    rintro X rfl rfl rfl hc i pins s σ H E I hf st ⟨xs, hq, hx⟩
    rcases hc with hc | hc
    · exact (turn_list (tg := tg) a it).done X rfl rfl rfl hc i pins s σ H E I hf st ⟨xs, hq, hx⟩
    · obtain ⟨its, rv, p, hz⟩ := I.list hq
      obtain ⟨f0, f1, f2, f3, f4, f5⟩ := hf it (by simp)
      obtain ⟨x1, hot⟩ := hc.at I
      have hl := rv.length
      exact list_end_hot hot st p.isList (by simp; omega) fun h' eb => ⟨rfl, I.turned (t' := s.toks) eb f0 f1 f3 f4 f5⟩
theorem turnY_range {P : Program} {w : World} {K : PySem.W.Frag} {tg : Expr} (it : Addr) (lo : Int) (n : Nat) : TurnY P w K tg (Itr lo n) [it] it (fun i h => IsRangeIter h it (lo + (i : Nat) * 1) ((n : Int) - (i : Nat)) 1) where
  mem := by simp
  obj := (turn_range (P := P) (w := w) (K := K) (tg := tg) it lo n).obj
  keep := (turn_range (P := P) (w := w) (K := K) (tg := tg) it lo n).keep
  self := (turn_range (P := P) (w := w) (K := K) (tg := tg) it lo n).self
  item := by
    rintro X rfl rfl rfl hc i pins s σ H E I hf st hlt
    obtain ⟨f0, f1, f2, f3, f4, f5⟩ := hf it (by simp)
    have hlt : i < n := hlt
    refine wpAny_pyNext_range_item st (by omega) fun h' st' sb => ⟨_, rfl, ?_⟩
    have st2 : IsRangeIter h' it (lo + ((i + 1 : Nat) : Int) * 1) ((n : Int) - ((i + 1 : Nat) : Int)) 1 := by
      rw [show lo + ((i + 1 : Nat) : Int) * 1 = lo + ((i : Nat) : Int) * 1 + 1 by omega, show (n : Int) - ((i + 1 : Nat) : Int) = (n : Int) - ((i : Nat) : Int) - 1 by omega]
      exact st'
    have I1 : Inv X pins σ H { s with heap := h', toks := s.toks + 1 } := I.turned (fun b o hb e => (sb.2 b hb).trans e) f0 f1 f3 f4 f5
    exact go_of (s := { s with heap := h', toks := s.toks + 1 }) (n := "range_iterator") st2 rfl rfl (by decide) ⟨.int (lo + i), H, I1, ⟨s.toks, by rw [Int.mul_one]⟩, ⟨rfl, rfl⟩, st2, fun b hb => (hf b hb).1⟩
  done := by
    rintro X rfl rfl rfl hc i pins s σ H E I hf st hg
    rcases hc with hc | hc
    · exact (turn_range (tg := tg) it lo n).done X rfl rfl rfl hc i pins s σ H E I hf st hg
    · obtain ⟨f0, f1, f2, f3, f4, f5⟩ := hf it (by simp)
      obtain ⟨x1, hot⟩ := hc.at I
      exact pyNext_range_end_hot hot st (by have : n ≤ i := hg; omega) fun h' eb => ⟨rfl, I.turned (t' := s.toks) (fun b o _ e => eb b o e) f0 f1 f3 f4 f5⟩
/-- an iterator has come -/
def PIEY (X : Cx) (pins : List (Addr × Obj)) (σ : Bk.St) (tg : Expr) (R : It → Hp → Prop) (itv : Value) (s2 : Shared) : Prop :=
  ∃ (it : Addr) (fp : List Addr) (tn : Nat → Heap → Prop) (J : It) (H' : Hp), itv = .ref it ∧ Inv X pins σ H' s2 ∧ TurnY X.prog X.w X.K tg J fp it tn ∧ tn 0 s2.heap ∧ (∀ b ∈ fp, FpOk X pins H' b) ∧ R J H'
structure PIY (X : Cx) (tg iter : Expr) (wi : TI) : Prop where
  run : ∀ (pins : List (Addr × Obj)) (s : Shared) (σ : Bk.St) (H : Hp) (R : It → Hp → Prop), Inv X pins σ H s → wi σ H R → wpAny (model X.prog X.w) X.A (eval iter X.env) (fun v s1 => wpAny (model X.prog X.w) X.A (pyIter v) (PIEY X pins σ tg R) X.xe s1) X.xe s
section
variable {X : Cx} {tg : Expr}
theorem piy_one {pins : List (Addr × Obj)} {σ : Bk.St} {H : Hp} {s : Shared} {R : It → Hp → Prop} {J : It} {tn : Nat → Heap → Prop} {tk : Nat} (I : Inv X pins σ H s) (o : Obj) (T : TurnY X.prog X.w X.K tg J [s.heap.objs.size] s.heap.objs.size tn)
    (t0 : tn 0 (s.heap.push o)) (q : R J H) : PIEY X pins σ tg R (.ref s.heap.objs.size) { s with heap := s.heap.push o, toks := tk } := by
  refine ⟨_, _, tn, J, H, rfl, I.kept (t' := tk) fun b ob e => Heap.get?_push_of_some _ e, T, t0, fun b hb => ?_, q⟩
  rw [show b = s.heap.objs.size by simpa using hb]
  have e : (s.heap.push o).objs.size = s.heap.objs.size + 1 := Heap.size_push _ _
  exact I.fpOk (Nat.le_refl _) (I.hok.fresh (Nat.le_refl _))
def iListY (K : PySem.W.Frag) (tl : TE) : TI := fun σ H R => tl σ H fun x H1 => ∃ a, x = .ref a ∧ ∃ xs, SqL K H1 a xs ∧ R (Itl K a) H1
theorem piy_list {l : Expr} {tl : TE} (hl : PE X l tl) : PIY X tg l (iListY X.K tl) := by
  refine ⟨fun pins s σ H R I h => thn (hl.run pins s σ H _ I h) ?_⟩
  rintro v s1 ⟨x, H1, I1, r1, a, rfl, xs, hq, q⟩
  cases r1
  obtain ⟨its, rv, p, hz⟩ := I1.list hq
  exact wpAny_pyIter_list p.isList (piy_one (tk := s1.toks) I1 _ (turnY_list a _) ⟨_, Heap.get?_push_size _ rfl, rfl, rfl⟩ q)
end
end Bk

namespace Bk
open PySem L2 PyProof.Rows L2H HotX
section
variable {X : Cx} {tg : Expr}
theorem rangeY {pins : List (Addr × Obj)} {σ : Bk.St} {H : Hp} {s : Shared} {R : It → Hp → Prop} {E : Value → Shared → Prop} {lo hi : Int} {t u v : Tok} {tk : Nat} (I : Inv X pins σ H s) (hb : -(2 ^ 62) ≤ lo ∧ lo < 2 ^ 62 ∧ -(2 ^ 62) ≤ hi ∧ hi < 2 ^ 62)
    (q : R (Itr lo (hi - lo).toNat) H) : wpAny (model X.prog X.w) X.A (pyIter (.ref s.heap.objs.size)) (PIEY X pins σ tg R) E { s with heap := s.heap.push { cls := .type "range", data := .fields #[.int lo t, .int hi u, .int 1 v] }, toks := tk } := by
  refine wpAny_pyIter_range (IsRange.new ..) (small_one hb.1 hb.2.1 hb.2.2.1 hb.2.2.2) ?_
  have I1 : Inv X pins σ H { s with heap := s.heap.push { cls := .type "range", data := .fields #[.int lo t, .int hi u, .int 1 v] }, toks := tk } := I.kept fun b o e => Heap.get?_push_of_some _ e
  refine piy_one (tk := tk) I1 _ (turnY_range _ lo (hi - lo).toNat) ?_ q
  have e1 : lo + ((0 : Nat) : Int) * 1 = lo := by simp
  have e2 : (((hi - lo).toNat : Nat) : Int) - ((0 : Nat) : Int) = Builtin.Range.rangeSize lo hi 1 := by rw [rangeSize_one]; split <;> omega
  show IsRangeIter _ _ (lo + ((0 : Nat) : Int) * 1) ((((hi - lo).toNat : Nat) : Int) - ((0 : Nat) : Int)) 1
  rw [e1, e2]
  exact Heap.get?_push_size _ rfl
theorem piy_range1 {a : Expr} {ta : TA} {p pos : Pos} (hg : Gl X "range") (hm : X.mg "range" = none) (ha : PA X [a] ta) (hs : starEach [a] X.env = [(false, eval a X.env)] := by rfl) : PIY X tg (.Call (.Name "range" p) [a] [] pos) (iRng1 ta) := by
  refine ⟨fun pins s σ H R I h => Call_ (ld_blt I hg hm boot_range (callWith_type1 (thn (ha.run pos pins s σ H _ I h) ?_) hs rfl))⟩
  rintro us s1 ⟨vs, H1, I1, r1, j, rfl, q1, q2, q⟩
  obtain ⟨u, rfl, t, rfl⟩ := Vals.one r1
  exact call_range_1 (rangeY I1 ⟨by omega, by omega, q1, q2⟩ (by simpa using q))
end
theorem ps_forY {X : Cx} {tg iter : Expr} {body : List Stmt} {wi : TI} {g : TG} {tb : TS} {pos : Pos} (hp : PassesOwn (model X.prog X.w) X.A X.env X.xe) (hc : CoH X) (hi : PIY X tg iter wi) (hg : PG X tg g) (hb : PSs X body tb)
    (hs : ∀ x, foldedSetIterable iter X.env x = pure x := by intro _; rfl) : PS X (.For tg iter body [] pos) (tFor wi g tb) := by
  refine ⟨fun pins s σ H D I h => wpAny_For (thn (hi.run pins s σ H _ I h) fun v s1 h1 => thn h1 ?_) hs⟩
  rintro itv s2 ⟨it, fp, tn, J, H2, rfl, I2, T, st2, f2, W, ⟨m0, w0⟩, turn⟩
  have stat : ∀ {H' : Hp}, (∀ b ∈ fp, H' b = none) → ∀ b ∈ fp, FpOk X pins H' b := fun hn b hb => ⟨hn b hb, (f2 b hb).2⟩
  refine codeAny_forLoop_any (fun n s' => ∃ i σ' H', Inv X pins σ' H' s' ∧ tn i s'.heap ∧ (∀ b ∈ fp, H' b = none) ∧ W i n σ' H') ?_ m0 ⟨0, σ, H2, I2, st2, fun b hb => (f2 b hb).1, w0⟩
  rintro n s3 ⟨i, σ3, H3, I3, st3, fr3, w3⟩
  rcases turn i n σ3 H3 w3 with ⟨stop, qn⟩ | ⟨go, N, hN, step⟩
  · refine wpAny_passesOwn hp (thn (T.done X rfl rfl rfl hc i pins s3 σ3 H3 X.xe I3 (stat fr3) st3 stop) ?_)
    rintro r s4 ⟨rfl, I4⟩
    exact wpAny_execs_nil ⟨σ3, H3, I4, qn⟩
  · refine wpAny_passesOwn hp (thn (T.item X rfl rfl rfl hc i pins s3 σ3 H3 X.xe I3 (stat fr3) st3 go) ?_)
    rintro r s4 ⟨u, rfl, h4⟩
    refine wpAny_passesOwn hp (thn h4 ?_)
    rintro _ s5 ⟨x, H5, I5, r5, y5, st5, fr5⟩
    refine wpAny_passesOwn hp (thn (hg.run _ s5 σ3 H5 x u _ (I5.pinned (stat fr5) (T.obj _ _ st5)) r5 (step x H5 y5)) ?_)
    rintro _ s6 ⟨σ6, H6, I6, q6⟩
    refine wpAny_passesOwn hp (thn (hb.run _ s6 σ6 H6 _ I6 q6) fun f s7 q7 => ?_)
    have again : ∀ {σ7 : Bk.St} {H7 : Hp}, Inv X (pins ++ pinsAt fp s5.heap) σ7 H7 s7 → N σ7 H7 → ∃ m, m < n ∧ ∃ i σ' H', Inv X pins σ' H' s7 ∧ tn i s7.heap ∧ (∀ b ∈ fp, H' b = none) ∧ W i m σ' H' := fun {σ7 H7} I7 n7 => by
      obtain ⟨m', hm, w7⟩ := hN σ7 H7 n7
      have pin : ∀ b ∈ fp, ∀ o, s5.heap.get? b = some o → s7.heap.get? b = some o ∧ H7 b = none := fun b hb o e => let z := I7.pin (b, o) (List.mem_append_right _ (List.mem_append_right _ (mem_pinsAt hb e))); ⟨z.1, z.2.1⟩
      refine ⟨m', hm, i + 1, σ7, H7, I7.unpinned, T.keep _ _ _ st5 fun b hb o e => (pin b hb o e).1, fun b hb => ?_, w7⟩
      obtain ⟨o, e, d⟩ := T.obj _ _ st5 b hb
      exact (pin b hb o e).2
    cases f with
    | next => exact let ⟨σ7, H7, I7, n7⟩ := q7; again I7 n7
    | cont => exact let ⟨σ7, H7, I7, n7⟩ := q7; again I7 n7
    | brk => exact let ⟨σ7, H7, I7, q⟩ := q7; ⟨σ7, H7, I7.unpinned, q⟩
    | ret v => exact let ⟨x7, σ7, H7, I7, r7, q⟩ := q7; ⟨x7, σ7, H7, I7.unpinned, r7, q⟩
/-- a comprehension, calm or hot -/
theorem lcY {X : Cx} {pins : List (Addr × Obj)} {s : Shared} {σ : Bk.St} {H : Hp} {Q : VK} {elt tg iter : Expr} {ifs : List Expr} {scope : Scope} {own : List (Str × Nat)} {pos pos' : Pos} {wi : TI} {g : TG} {tt : TT} {te : TE} {use : Option (Value → Sem Unit)} {Qf : Value → Shared → Prop}
    (hc : CoH X) (hN : X.N.Nodup) (I : Inv X pins σ H s) (hi : PIY X tg iter wi) (ok : BlkOk X.N X.env.scope scope own)
    (hg : ∀ (s : Shared) (H : Hp) (C : Addr) (cl : List (Str × Addr)) (fp : List Addr), PG (X.blk s H scope (compEnvC scope cl C X.env) fp) tg g) (ht : ∀ (s : Shared) (H : Hp) (C : Addr) (cl : List (Str × Addr)) (fp : List Addr), PTs (X.blk s H scope (compEnvC scope cl C X.env) fp) ifs tt)
    (he : ∀ (s : Shared) (H : Hp) (C : Addr) (cl : List (Str × Addr)) (fp : List Addr), PE (X.blk s H scope (compEnvC scope cl C X.env) fp) elt te) (hs : ∀ x, foldedSetIterable iter X.env x = pure x) (h : tLc wi g tt te (own.map (·.2)) σ H Q)
    (hRR : ∀ D C s' m H', Inv X pins σ H' s' → Q (.ref D) H' → s'.heap.Ns C m → FpOk X pins H' C → compPost (model X.prog X.w) X.A X.xe use Qf (.ref D) C (.ok .next) s') :
    wpAny (model X.prog X.w) X.A (comprehension (.ListComp elt [⟨tg, iter, ifs, 0⟩] scope pos) scope X.env pos' (newList []) false (eval iter X.env) use) Qf X.xe s := by
  have hfree : ∀ y ∈ scope.names, y.2 = .free → ∃ c, X.env.cells.lookup y.1 = some c := fun y hy e => I.ok.has _ (ok.free y hy e)
  refine wpAny_comprehension_free (use := use) rfl hs (closure_ok hfree) ok.kind (fun y hy e => by rw [ok.uniq y hy, e]) (thn (hi.run pins s σ H _ I h) fun xv s1 hx => thn hx ?_)
  rintro itv s2 ⟨it, fp, tn, J, H2, rfl, I2, T, st2, f2, q⟩
  refine wpAny_newObj_type (newEnv_comp ?_) (by show 0 ≤ sizeLine; decide)
  generalize hD : s2.heap.objs.size = D
  have hDn : H2 D = none := I2.hok.fresh (Nat.le_of_eq hD)
  obtain ⟨W, ⟨m0, w0⟩, turn⟩ := q D hDn
  generalize hs3 : ({ s2 with heap := s2.heap.push { cls := .type "list", data := .seq ([] : List Value).toArray } } : Shared) = s3
  have h3 : s3.heap = s2.heap.push { cls := .type "list", data := .seq ([] : List Value).toArray } := by rw [← hs3]
  have I3 : Inv X pins σ (upd H2 D (.lst [])) s3 := by
    subst hs3 hD
    exact I2.laid (t' := s2.toks) (fun b o e => Heap.get?_push_of_some _ e) (Nat.le_refl _) ⟨Nat.zero_le _, [], 0, .nil, Heap.get?_push_size _ rfl⟩
  have f3 : ∀ b ∈ fp, FpOk X pins (upd H2 D (.lst [])) b ∧ b < s3.heap.objs.size := fun b hb => by
    obtain ⟨o, e, _⟩ := T.obj _ _ st2 b hb
    have hlt := Heap.lt_size e
    refine ⟨⟨?_, (f2 b hb).2⟩, by rw [h3, Heap.size_push]; exact Nat.lt_succ_of_lt hlt⟩
    rw [upd_ne (by rw [← hD]; exact Nat.ne_of_lt hlt)]
    exact (f2 b hb).1
  have st3 : tn 0 s3.heap := T.keep _ _ _ st2 fun b _ o e => by rw [h3]; exact Heap.get?_push_of_some _ e
  have I4 := block_start I3 ok hN f3
  have cl := fun {ce : Env} => hc.blk (scope := scope) (ce := ce) I3 fun b hb => (f3 b hb).1
  have pg := hg s3 (upd H2 D (.lst [])) s3.heap.objs.size (cellsFrom (s3.heap.objs.size + 1) scope.names (cloFrom X.env.cells scope.names [])) fp
  have pt := ht s3 (upd H2 D (.lst [])) s3.heap.objs.size (cellsFrom (s3.heap.objs.size + 1) scope.names (cloFrom X.env.cells scope.names [])) fp
  have pe := he s3 (upd H2 D (.lst [])) s3.heap.objs.size (cellsFrom (s3.heap.objs.size + 1) scope.names (cloFrom X.env.cells scope.names [])) fp
  show codeAny _ _ (.compStart (.ListComp elt [⟨tg, iter, ifs, 0⟩] scope pos) 0 (.ref it) (.ref D) (compEnvC scope (cellsFrom (s3.heap.objs.size + 1) scope.names (cloFrom X.env.cells scope.names [])) s3.heap.objs.size X.env)) (compPost (model X.prog X.w) X.A X.xe use Qf (.ref D) s3.heap.objs.size) { s3 with heap := pushCells (s3.heap.push { cls := .type "dict", data := .dict #[] }) scope.names }
  have nfp : ∀ b ∈ fp, (upd H2 D (.lst [])) b = none := fun b hb => (f3 b hb).1.1
  generalize hce : compEnvC scope (cellsFrom (s3.heap.objs.size + 1) scope.names (cloFrom X.env.cells scope.names [])) s3.heap.objs.size X.env = ce at I4 pg pt pe ⊢
  have cL : ce.locals = s3.heap.objs.size := by subst hce; rfl
  have cl := cl (ce := ce)
  generalize hH3 : upd H2 D (.lst []) = H3 at I3 I4 pg pt pe w0 nfp f3 cl
  generalize hs4 : ({ s3 with heap := pushCells (s3.heap.push { cls := .type "dict", data := .dict #[] }) scope.names } : Shared) = s4 at I4 ⊢
  have st4 : tn 0 s4.heap := T.keep _ _ _ st3 fun b _ o e => by rw [← hs4]; exact pushCells_keeps _ _ _ _ (Heap.get?_push_of_some _ e)
  have stat : ∀ {σ' : Bk.St} {H' : Hp} {s' : Shared}, Inv (X.blk s3 H3 scope ce fp) [] σ' H' s' → (∀ b ∈ fp, H' b = none) → ∀ b ∈ fp, FpOk (X.blk s3 H3 scope ce fp) [] H' b := fun {σ' H' s'} I' hn b hb =>
    ⟨hn b hb, (I'.ok.exf b hb).1, I'.ok.exfs b hb, .inl hb, fun x c e => (I'.ok.exf b hb).2 x c e, fun p hp => by cases (show p ∈ ([] : List (Addr × Obj)) from hp)⟩
  refine (fun loop => codeAny_compStart_list loop (T.self X.A 0 _ _ _ st4 loop)) ?_
  refine compLoop_any (fun n s' => ∃ i H', Inv (X.blk s3 H3 scope ce fp) [] (wipe σ (own.map (·.2))) H' s' ∧ tn i s'.heap ∧ (∀ b ∈ fp, H' b = none) ∧ W i n H') ?_ m0 ⟨0, H3, I4, st4, nfp, w0⟩
  rintro n s5 ⟨i, H5, I5, st5, n5, w5⟩
  rcases turn i n H5 w5 with ⟨stop, qq⟩ | ⟨go, Nx, hNx, step⟩
  · refine thnF (T.done (X.blk s3 H3 scope ce fp) rfl rfl rfl cl i [] s5 _ H5 (fun _ _ => False) I5 (stat I5 n5) st5 stop) ?_
    rintro r s6 ⟨rfl, I6⟩
    have I7 : Inv X pins σ H5 s6 := I3.call' (ch := fp) I6.os I6.base I6.hok I6.bare fun b hb => let z := (f3 b hb).1; ⟨z.2.2.2.1, z.2.1, z.2.2.2.2.1, z.2.2.2.2.2⟩
    have nC : H5 s3.heap.objs.size = none := by rw [← cL]; exact I6.free
    obtain ⟨m, hn, _⟩ := I6.loc
    exact hRR D s3.heap.objs.size s6 m H5 I7 qq (by rw [← cL]; exact hn) (I3.fpOk (Nat.le_refl _) nC)
  · refine thnF (T.item (X.blk s3 H3 scope ce fp) rfl rfl rfl cl i [] s5 _ H5 (fun _ _ => False) I5 (stat I5 n5) st5 go) ?_
    rintro r s6 ⟨u, rfl, h6⟩
    refine thnF h6 ?_
    rintro _ s7 ⟨x, H7, I7, r7, y7, st7, n7⟩
    refine thnF (pg.run _ s7 _ H7 x u _ (I7.pinned (stat I7 n7) (T.obj _ _ st7)) r7 (step x H7 y7)) ?_
    rintro _ s8 ⟨σ8, H8, I8, hw8, q8⟩
    refine thnF (pt.run _ s8 σ8 H8 _ I8 q8) ?_
    rintro b s9 ⟨H9, I9, q9⟩
    have fin : ∀ {s' : Shared} {H' : Hp}, Inv (X.blk s3 H3 scope ce fp) ([] ++ pinsAt fp s7.heap) σ8 H' s' → Nx H' → ∃ m, m < n ∧ ∃ i H', Inv (X.blk s3 H3 scope ce fp) [] (wipe σ (own.map (·.2))) H' s' ∧ tn i s'.heap ∧ (∀ b ∈ fp, H' b = none) ∧ W i m H' := fun {s' H'} I' nx => by
      obtain ⟨m', hm, w'⟩ := hNx H' nx
      have pin : ∀ b ∈ fp, ∀ o, s7.heap.get? b = some o → s'.heap.get? b = some o ∧ H' b = none := fun b hb o e => let z := I'.pin (b, o) (List.mem_append_right _ (List.mem_append_right _ (mem_pinsAt hb e))); ⟨z.1, z.2.1⟩
      have hl : (wipe σ (own.map (·.2))).length = σ8.length := by rw [← hw8, wipe_length]
      refine ⟨m', hm, i + 1, H', (I'.unpinned (pins := [])).weak hl (fun j v e => ?_), T.keep _ _ _ st7 fun b hb o e => (pin b hb o e).1, fun b hb => ?_, w'⟩
      · rw [← hw8] at e
        exact (wipe_some e).1
      · obtain ⟨o, e, _⟩ := T.obj _ _ st7 b hb
        exact (pin b hb o e).2
    cases b with
    | false =>
      simp only [Bool.false_eq_true, if_false] at q9 ⊢
      exact fin I9 q9
    | true =>
      simp only [if_true] at q9 ⊢
      refine thnF (pe.run _ s9 σ8 H9 _ I9 q9) ?_
      rintro z s10 ⟨yv, H10, I10, r10, acc, hD10, hz10, nx⟩
      exact app_ok (X := X.blk s3 H3 scope ce fp) I10 hD10 hz10 r10 fun s11 I11 => fin I11 nx
theorem pe_lcY {X : Cx} {elt tg iter : Expr} {ifs : List Expr} {scope : Scope} {own : List (Str × Nat)} {pos : Pos} {wi : TI} {g : TG} {tt : TT} {te : TE} (hc : CoH X) (hN : X.N.Nodup) (hi : PIY X tg iter wi) (ok : BlkOk X.N X.env.scope scope own)
    (hg : ∀ (s : Shared) (H : Hp) (C : Addr) (cl : List (Str × Addr)) (fp : List Addr), PG (X.blk s H scope (compEnvC scope cl C X.env) fp) tg g) (ht : ∀ (s : Shared) (H : Hp) (C : Addr) (cl : List (Str × Addr)) (fp : List Addr), PTs (X.blk s H scope (compEnvC scope cl C X.env) fp) ifs tt)
    (he : ∀ (s : Shared) (H : Hp) (C : Addr) (cl : List (Str × Addr)) (fp : List Addr), PE (X.blk s H scope (compEnvC scope cl C X.env) fp) elt te) (hs : ∀ x, foldedSetIterable iter X.env x = pure x := by intro _; rfl) :
    PE X (.ListComp elt [⟨tg, iter, ifs, 0⟩] scope pos) (tLc wi g tt te (own.map (·.2))) := by
  refine ⟨fun pins s σ H Q I h => ?_⟩
  rw [eval_ListComp]
  refine lcY hc hN I hi ok hg ht he hs h fun D C s' m H' I' q hn f => ⟨m, hn, fun h'' sb => ?_⟩
  obtain ⟨f0, f1, f2, f3, f4, f5⟩ := f
  exact ⟨.ref D, H', I'.turned (t' := s'.toks) (fun b o hb e => (sb.2 b hb).trans e) f0 f1 f3 f4 f5, rfl, q⟩
end Bk

/-! our own: defs called while a known exception is in hand; try suites; facts of classes by instances -/
namespace Bk
open PySem L2 PyProof.Rows L2H HotX

/-! ### facts of the text, by instances -/
class ClsF (K : PySem.W.Frag) (C : Addr) : Prop where h : Cls K C
class NoAF (K : PySem.W.Frag) (C : Addr) (f : Str) : Prop where h : NoAttr K C f
class ExcF (K : PySem.W.Frag) (D : Addr) : Prop where h : ExcC K D
class KitF (K : PySem.W.Frag) (D c : Value) (b : outParam Bool) : Prop where h : PySem.W.kitOne K D c = some b
class ExmF (K : PySem.W.Frag) (D c : Value) (b : outParam Bool) : Prop where h : PySem.W.exmOne K D c = some b

section
variable {K : PySem.W.Frag} {C D : Addr} {b : Bool}
theorem kitCls_of (h2 : PySem.W.isClsIn K C = true) (h3 : PySem.W.typeIn K (.ref C) = some (.type "type")) (h4 : PySem.W.subIn K (.ref D) (.ref C) = some b) : PySem.W.kitCls K (.ref D) (.ref C) = some b := by
  have e2 : ((PySem.W.clsIn K C).isSome && PySem.W.typeIn K (.ref C) == some (.type "type")) = true := by
    have z : (PySem.W.clsIn K C).isSome = true := h2
    rw [z, h3] <;> rfl
  unfold PySem.W.kitCls
  dsimp only
  rw [if_pos e2]
  exact h4
theorem kit_of_own (h2 : PySem.W.isClsIn K C = true) (h3 : PySem.W.typeIn K (.ref C) = some (.type "type")) (h4 : PySem.W.subIn K (.ref D) (.ref C) = some b) (h5 : PySem.W.subIn K (.ref C) (.ref C) = some true) : PySem.W.kitOne K (.ref D) (.ref C) = some b := by
  unfold PySem.W.kitOne
  by_cases e : (Value.ref D == Value.ref C) = true
  · have e1 : D = C := Value.ref.inj (beq_iff_eq.mp e)
    subst e1
    rw [if_pos e, ← h5, h4]
  · rw [if_neg e]
    exact kitCls_of h2 h3 h4
theorem kit_of_VE (h : PySem.W.subIn K (.ref D) (.type "ValueError") = some b) : PySem.W.kitOne K (.ref D) (.type "ValueError") = some b := by
  unfold PySem.W.kitOne
  rw [if_neg (by intro z; exact absurd (beq_iff_eq.mp z) (fun e => nomatch e))]
  unfold PySem.W.kitCls
  dsimp only
  rw [if_pos (by decide +kernel)]
  exact h
theorem exm_of_own (h1 : PySem.W.subIn K (.ref C) (.type "BaseException") = some true) (h2 : PySem.W.isClsIn K C = true) (h3 : PySem.W.typeIn K (.ref C) = some (.type "type")) (h4 : PySem.W.subIn K (.ref D) (.ref C) = some b) : PySem.W.exmOne K (.ref D) (.ref C) = some b := by
  have e1 : (PySem.W.subIn K (.ref C) (.type "BaseException") == some true) = true := by rw [h1] <;> rfl
  unfold PySem.W.exmOne
  rw [if_pos e1]
  exact kitCls_of h2 h3 h4
end

/-! ### a known exception in hand -/
structure HotP (X : Cx) (e D : Addr) : Prop where
  ex : ∃ oe : Obj, Hot1 X.A (e, oe) ∧ (e, oe) ∈ X.pn ∧ Zc (.ref D) none oe
  c : ExcC X.K D
theorem HotP.hot {X : Cx} {e D : Addr} (h : HotP X e D) : HotC X := let ⟨oe, a, b, _⟩ := h.ex; ⟨(e, oe), a, b⟩
theorem HotP.co {X : Cx} {e D : Addr} (h : HotP X e D) : CoH X := .inr (HotY.of h.hot)
theorem HotP.suite {X : Cx} {a D : Addr} {oe : Obj} {pn : List (Addr × Obj)} (hz : L2N.Zn (.ref D) none oe) (hf : ∃ vs, oe.data = .fields vs) (c : ExcC X.K D) : HotP (X.suite a ((a, oe) :: pn)) a D := by
  obtain ⟨vs, hv⟩ := hf
  exact ⟨⟨oe, ⟨rfl, vs, hv, hz.2.2 vs hv⟩, List.mem_cons_self, hz.zc⟩, c⟩
theorem roomS {k : Nat} {A : Around} {x : Option Value} (r : Room k A) : RoomH k (A.mark x) := ⟨r.dp, r.un⟩
theorem huH {A : Around} {k : Nat} (hr : RoomH k A) : A.units + 1 < cLine := by have := hr.un; omega
theorem op_eqH {X : Cx} {k : Nat} (hr : RoomH k X.A) : OpR X (compareOp .Eq) (rEqP X.K) := op_eq.or (op_eqD (by have := hr.un; omega))
theorem op_neH {X : Cx} {k : Nat} (hr : RoomH k X.A) : OpR X (compareOp .NotEq) (rNeP X.K) := op_ne.or (op_neD (by have := hr.un; omega))
/-- isinstance, also of the exception in hand -/
def rIsET (K : PySem.W.Frag) (D e : Addr) : List V → Hp → VK → Prop := fun xs H Q => ∃ (tp : Addr) (cs : List V) (us : List Value) (b : Bool), xs = [.ref e, .ref tp] ∧ H tp = some (.tup cs) ∧ Paired ClsV cs us ∧ PySem.W.kitAny K (.ref D) us = some b ∧ Q (.bl b) H
def rIsiH (K : PySem.W.Frag) (D e : Addr) : List V → Hp → VK → Prop := fun xs H Q => rIsE K D e xs H Q ∨ rIsET K D e xs H Q
theorem call_isX {X : Cx} {e D : Addr} (h : HotP X e D) : CallR X (.builtin "isinstance") (rIsiH X.K D e) := by
  obtain ⟨⟨oe, ⟨_, vs, hv, _⟩, hp, hz⟩, C⟩ := h
  dsimp only at hv
  have J : ∀ {pins : List (Addr × Obj)} {σ : Bk.St} {H : Hp} {s : Shared}, Inv X pins σ H s → PySem.W.InstAt s.heap e oe D none := fun I => by
    have hget := (I.pin (e, oe) (List.mem_append_left _ hp)).1
    obtain ⟨oc, od, oda, osl⟩ := oe
    obtain ⟨h1, h2⟩ := hz
    dsimp only at h1 h2 hv
    subst h1 h2 hv
    exact ⟨hget, rfl, rfl, trivial⟩
  refine call_or ?_ ?_
  · rintro pins s σ H xs us Q I r ⟨c, cv, b, rfl, hcv, e1, q⟩
    obtain ⟨u1, u2, rfl, r1, r2⟩ := vals2 r
    cases r1
    have ec := hcv _ r2
    subst ec
    exact PySem.W.kia_one (PySem.W.handS_kitx_exc C.hg C.hk C.hs C.hd C.ha C.hn C.ht C.hm) I.kIn (J I) e1 (fun z => nomatch z) fun tk => ⟨.bl b, H, I.tok tk, rfl, q⟩
  · rintro pins s σ H xs us Q I r ⟨tp, cs, ws, b, rfl, hT, k, e1, q⟩
    obtain ⟨u1, u2, rfl, r1, r2⟩ := vals2 r
    cases r1
    cases (show u2 = Value.ref tp from r2)
    obtain ⟨_, its, rv, o, h1, h2, n, h3⟩ := (show ObjOk X.prog X.w H s.heap tp (.tup cs) from I.hok tp _ hT)
    have e3 := ClsV.all k rv
    subst e3
    obtain ⟨oc, od, dt, sl⟩ := o
    simp only at h2 h3
    subst h2 h3
    exact PySem.W.kia_tup (PySem.W.handS_kitx_exc C.hg C.hk C.hs C.hd C.ha C.hn C.ht C.hm) I.kIn (J I) h1 e1 (fun z => nomatch z) fun tk => ⟨.bl b, H, I.tok tk, rfl, q⟩
section
variable {K : PySem.W.Frag} {D e C : Addr} {H : Hp} {Q : VK} {b : Bool}
theorem go_isX [k : KitF K (.ref D) (.ref C) b] (q : Q (.bl b) H) : rIsiH K D e [.ref e, .ref C] H Q := .inl ⟨.ref C, .ref C, b, rfl, fun u r => r, k.h, q⟩
theorem go_isXt {T : String} [k : KitF K (.ref D) (.type T) b] (q : Q (.bl b) H) : rIsiH K D e [.ref e, .ty T] H Q := .inl ⟨.ty T, .type T, b, rfl, fun u r => r, k.h, q⟩
end

/-! ### defs called so -/
structure FnP (P : Program) (w : World) (K : PySem.W.Frag) (mg : Str → Option Value) (base : Heap) (k : Nat) (f : Addr) (fd : FuncData) (ps : List Str) (sp : Addr → Addr → Sp) : Prop where
  len : ∀ e D vs H Q E, sp e D vs H Q E → vs.length = ps.length
  run : ∀ (A : Around) (outer : List Env) (s : Shared) (H : Hp) (args : Args) (us : List Value) (vs : List V) (Q : VK) (E : XK) (p : Addr × Obj) (D : Addr), ExcC K D → Zc (.ref D) none p.2 → RoomH k A → Hot1 A p → PinOk outer H s p → Env0 P w K mg base A outer s H →
    BindsTo s fd args (ps.zip us) → Vals vs us → sp p.1 D vs H Q E → codeAny (model P w) A (.call (.ref f) args) (CR (L2N.CX P w) outer P w H s Q E) s
theorem okP {P : Program} {w : World} {K : PySem.W.Frag} {mg : Str → Option Value} {base : Heap} {x qual : Str} {st : Stmt} {f : Addr} {fd : FuncData} {N ps : List Str} {k : Nat} {t : Addr → Addr → XK → TS}
    (F : Fun K x qual st f fd) (S : FnScope N ps (defScope st))
    (hbody : ∀ (cdv : Value) (A : Around) (outer : List Env) (s : Shared) (H : Hp) (E : XK) (p : Addr × Obj) (D : Addr), HotP (cxH (L2N.CX P w) P w K mg base N qual (defScope st) f cdv A outer s H E p) p.1 D → RoomH k (A.deeper (envOfC qual (defScope st) s.heap.objs.size f cdv)) →
      PSs (cxH (L2N.CX P w) P w K mg base N qual (defScope st) f cdv A outer s H E p) (defBody st) (t p.1 D E)) :
    FnP P w K mg base (k + 1) f fd ps (fun e D vs H Q E => vs.length = ps.length ∧ t e D E ⟨fun _ H' => Q .non H', Q, F0, F0⟩ (start N vs) H) := by
  obtain ⟨oc, od, kV, doc, pm, an, cdv, ct, osl, rfl, lk, hcd⟩ := F.ex
  refine ⟨fun _ _ _ _ _ _ h => h.1, fun A outer s H args us vs Q E p D hC hz hr hot hpin en hbd rv hsp => ?_⟩
  have kx : K.In s.heap := en.mod.kin.keeps fun b o e => (en.bs b o e).1
  have nl : s.heap.NoLimit := en.mod.nolimit.keeps fun b o e => (en.bs b o e).1
  have pk : ∀ y ∈ ps.zip us, (defScope st).names.lookup y.1 = some .local ∨ ((defScope st).names.lookup y.1 = some .cell ∧ ((cellsFrom (s.heap.objs.size + 1) (defScope st).names []).lookup y.1).isSome = true) := fun y hy =>
    (S.par y.1 (List.of_mem_zip (a := y.1) (b := y.2) hy).1).elim .inl fun q => .inr ⟨q, PySem.W.cellsFrom_some _ _ _ (.inl q)⟩
  refine codeAny_call_function hr.depth (kx _ _ lk) rfl S.co S.gen rfl (PySem.W.codeRec_of kx hcd) (hbd _ _ _ _ ?_)
  refine wpAny_newFunctionEnv_cells S.kind pk fun env ee s1 x => ?_
  subst ee
  refine ⟨nl.keeps x.toInCall.keep, codeAny_func ?_⟩
  have J : Inv (cxH (L2N.CX P w) P w K mg base N qual (defScope st) f cdv A outer s H E p) [] (L2.start N vs) H s1 := inv_startH S hpin en hsp.1 rv x
  have hp : HotP (cxH (L2N.CX P w) P w K mg base N qual (defScope st) f cdv A outer s H E p) p.1 D := ⟨⟨p.2, hot, List.mem_cons_self, hz⟩, hC⟩
  have fin : ∀ {σ' : Bk.St} {H' : Hp} {v : V} {u : Value} {s' : Shared}, Inv (cxH (L2N.CX P w) P w K mg base N qual (defScope st) f cdv A outer s H E p) [] σ' H' s' → RelV v u → Q v H' → CE outer P w H s Q u s' :=
    fun {_ H' v _ _} I2 r2 q => ⟨v, H', I2.os, I2.bare, I2.base, I2.hok, r2, q⟩
  refine wpAny_mono ((hbody cdv A outer s H E p D hp (hr.deeper _)).run [] s1 _ H _ J hsp.2) (fun fl s' hs => ?_) fun e s' hs => hs
  match fl, hs with
  | .ret u, hs => obtain ⟨v, σ', H', I2, r2, q⟩ := hs; exact fin I2 r2 q
  | .next, hs => obtain ⟨σ', H', I2, q⟩ := hs; exact fin (v := V.non) (u := Value.none) I2 rfl q
  | .brk, hs => obtain ⟨_, _, _, q⟩ := hs; exact q.elim
  | .cont, hs => obtain ⟨_, _, _, q⟩ := hs; exact q.elim
section
variable {X : Cx} {k j : Nat} {f C ex D : Addr} {fd : FuncData} {ps : List Str} {sp : Addr → Addr → Sp} {W : WX} {x m : Str} {q pos apos : Pos} {e o : Expr} {es : List Expr} {ta : TE} {t : TA}
theorem run_fnP {pins : List (Addr × Obj)} {σ : Bk.St} {H : Hp} {s : Shared} {Q : VK} {us : List Value} {vs : List V} {E : Bk.St → XK} (F : FnP X.prog X.w X.K X.mg X.base k f fd ps sp) (hr : RoomH k X.A) (hc : HotP X ex D) (hb : Binds X.K fd ps []) (hx : PassesAt (L2N.CX X.prog X.w) X σ (E σ))
    (I : Inv X pins σ H s) (r : Vals vs us) (h : sp ex D vs H Q (E σ)) : wpAny (model X.prog X.w) X.A (call (.ref f) us) (EP X pins σ Q) X.xe s := by
  obtain ⟨⟨oe, hot, hp, hz⟩, hC⟩ := hc
  have hl : us.length = ps.length := by rw [← r.length]; exact F.len _ _ _ _ _ _ h
  have b := hb s us I.kIn (by rw [List.append_nil]; exact hl)
  rw [List.append_nil] at b
  obtain ⟨p1, p2, p3, p4, p5⟩ := I.pin (ex, oe) (List.mem_append_left _ hp)
  have pk : PinOk X.stack H s (ex, oe) := ⟨p1, p2, fun hm => (List.mem_cons.mp (I.stkSub _ hm)).elim p3 p4, p5⟩
  refine wpAny_call (codeAny_mono (F.run X.A X.stack s H ⟨us, []⟩ us vs Q (E σ) (ex, oe) D hC hz hr hot pk I.env0 b r h) fun r s' hq => ?_)
  match r, hq with
  | .error e, hq => exact hx pins H s e s' I hq
  | .ok (.ret u), hq => exact I.after hq
  | .ok .next, hq => exact hq.elim
  | .ok .brk, hq => exact hq.elim
  | .ok .cont, hq => exact hq.elim
def tCallX (sp : Addr → Addr → Sp) (ex D : Addr) (E : Bk.St → XK) (t : TA) : TE := fun σ H Q => t σ H fun vs H1 => sp ex D vs H1 Q (E σ)
theorem callX (F : FnP X.prog X.w X.K X.mg X.base k f fd ps sp) (hc : HotP X ex D) (tk : L2N.Takes X W) (hr : RoomH j X.A) (hj : k ≤ j) (hg : Gl X x) (hm : X.mg x = some (.ref f)) (hk : PySem.W.keepIn X.K (.ref f) = true) (hb : Binds X.K fd ps [])
    (ha : PA X (e :: es) t) (hdb : (x == ("__debug__" : Str)) = false := by decide) (he : starEach (e :: es) X.env = (false, eval e X.env) :: starEach es X.env := by rfl) (hpl : (backTo pos (starEach es X.env)).any (·.1) = false := by rfl) :
    PE X (.Call (.Name x q) (e :: es) [] pos) (tCallX sp ex D (WE W) t) := by
  refine ⟨fun pins s σ H Q I h => wpAny_Call_Name_kw (ld_glob I hg hm ?_ hdb)⟩
  refine PySem.W.callWith_K (h₀ := X.base) I.ok.mod.kin hk (thn (ha.run pos pins s σ H _ I h) fun us s1 ⟨vs, H1, I1, r, q⟩ => ⟨I1.kIn, ?_⟩) he hpl
  exact run_fnP F (hr.mono hj) hc hb (L2N.passAt tk σ) I1 r q
/-- an own method that stands for the class at C -/
structure MethOkX (X : Cx) (m : Str) (k : Nat) (C : Addr) (sp : Addr → Addr → Sp) : Prop where
  c : Cls X.K C
  ex : ∃ f fd ps, Meth X.K C m f ∧ FnP X.prog X.w X.K X.mg X.base k f fd ps sp ∧ Binds X.K fd ps []
def tMethX (m : Str) (C : Addr) (sp : Addr → Addr → Sp) (ex D : Addr) (E : Bk.St → XK) (ta : TE) (t : TA) : TE := fun σ H Q => ta σ H fun x H1 => ∃ a dx fs, x = .ref a ∧ H1 a = some (.ins C dx fs) ∧ fs.lookup m = none ∧ t σ H1 fun vs H2 => sp ex D (x :: vs) H2 Q (E σ)
theorem methX0 {pl : Sem Bool} (he : PE X o ta) (M : MethOkX X m k C sp) (hc : HotP X ex D) (tk : L2N.Takes X W) (hr : RoomH j X.A) (hj : k ≤ j)
    (ht : eval (.Call (.Attribute o m apos) [] [] pos) X.env = (do
      let ov ← eval o X.env
      standAt apos.atName
      let (f, first) ← holding [ov] (getMethod ov m pl)
      callWith pos f first (backTo pos (starEach [] X.env)) (backToKw pos (keywordEach [] X.env))) := by rfl) :
    PE X (.Call (.Attribute o m apos) [] [] pos) (tMethX m C sp ex D (WE W) ta tNil) := by
  refine ⟨fun pins s σ H Q I h => PySem.W.methodCall_KW (pl := pl) (thn (he.run pins s σ H _ I h) ?_) ht⟩
  rintro u s1 ⟨x, H1, I1, rx, a, dx, fs, rfl, ea, l, q⟩
  obtain rfl : u = Value.ref a := rx
  obtain ⟨c, f, fd, ps, hm, F, hb⟩ := M
  refine getmeth_ok I1 ea c hm l ?_
  exact PySem.W.callWith_K0 (first := [.ref a]) I1.kIn hm.kp (run_fnP (us := [.ref a]) (vs := [.ref a]) F (hr.mono hj) hc hb (L2N.passAt tk σ) I1 (.cons rfl .nil) q)
end

/-! ### try -/
/-- a suite that knows what it has: e the exception, C its class -/
def tSu (K : PySem.W.Frag) (t : Addr → Addr → TS) : Addr → Value → Option Addr → TS := fun e cls d D σ H => ∃ C, cls = .ref C ∧ d = none ∧ ExcC K C ∧ t e C D σ H
theorem suX {X : Cx} {ss : List Stmt} {t : Addr → Addr → TS} (h : ∀ (a C : Addr) (oe : Obj) (pn : List (Addr × Obj)), HotP (X.suite a ((a, oe) :: pn)) a C → PSs (X.suite a ((a, oe) :: pn)) ss (t a C)) :
    ∀ (a : Addr) (oe : Obj) (cls : Value) (d : Option Addr) (pn : List (Addr × Obj)), L2N.Zn cls d oe → (∃ vs, oe.data = .fields vs) → PSs (X.suite a ((a, oe) :: pn)) ss (tSu X.K t a cls d) := by
  refine fun a oe cls d pn hz hf => ⟨fun pins s σ H D I q => ?_⟩
  obtain ⟨C, rfl, rfl, hC, q⟩ := q
  exact (h a C oe pn (.suite hz hf hC)).run pins s σ H D I q
def tTryAs (K : PySem.W.Frag) (c : Value) (i : Nat) (tb : WX → TS) (ts : Addr → Addr → TS) (Wout : WX) : TS := fun D σ H => tb (wAs K c i (tSu K ts) Wout D) D σ H
theorem tryAs {X : Cx} {x n : Str} {c : Value} {i : Nat} {body suite : List Stmt} {b0 : Stmt} {np pos pos' : Pos} {tb : WX → TS} {ts : Addr → Addr → TS} {Wout : WX} (hN : X.N.Nodup) (hi : X.N[i]? = some n) (hln : X.env.kindOf n = some .local) (hc : Names X x c) (tk : L2N.Takes X Wout)
    (hb : ∀ (W : WX) (pn : List (Addr × Obj)) (xe : Value → Shared → Prop), L2N.Takes (X.tr pn xe) W → PassesOwn (model X.prog X.w) X.A X.env xe → PSs (X.tr pn xe) body (tb W))
    (hsu : ∀ (a C : Addr) (oe : Obj) (pn : List (Addr × Obj)), HotP (X.suite a ((a, oe) :: pn)) a C → PSs (X.suite a ((a, oe) :: pn)) (b0 :: suite) (ts a C)) (hs : X.stack = X.env :: X.outer := by rfl) (hf : X.env.frame = some X.env.locals := by rfl) :
    PS X (.Try body [.ExceptHandler (some (.Name x np)) (some n) (b0 :: suite) pos'] [] [] pos) (tTryAs X.K c i tb ts Wout) := L2N.ps_try_as hs hf hN hi hln hc tk hb (suX hsu)
def tTryMany (K : PySem.W.Frag) (tb : WX → TS) (l : List (Value × (Addr → Addr → TS))) (Wout : WX) : TS := fun D σ H => tb (wMany K Wout D (l.map fun p => (p.1, tSu K p.2))) D σ H
inductive HdsX (X : Cx) : List ExceptHandler → List (Value × (Addr → Addr → TS)) → Prop
  | nil : HdsX X [] []
  | cons {x : Str} {c : Value} {ts : Addr → Addr → TS} {b0 : Stmt} {suite : List Stmt} {np pos' : Pos} {hds : List ExceptHandler} {l : List (Value × (Addr → Addr → TS))} (hc : Names X x c)
      (hsu : ∀ (a C : Addr) (oe : Obj) (pn : List (Addr × Obj)), HotP (X.suite a ((a, oe) :: pn)) a C → PSs (X.suite a ((a, oe) :: pn)) (b0 :: suite) (ts a C)) (r : HdsX X hds l) :
      HdsX X (.ExceptHandler (some (.Name x np)) none (b0 :: suite) pos' :: hds) ((c, ts) :: l)
theorem HdsX.ok {X : Cx} {hds : List ExceptHandler} {l : List (Value × (Addr → Addr → TS))} (h : HdsX X hds l) : L2N.HdsOk X hds (l.map fun p => (p.1, tSu X.K p.2)) := by
  induction h with
  | nil => exact .nil
  | cons hc hsu r ih => exact .cons hc (suX hsu) ih
theorem tryMany {X : Cx} {body : List Stmt} {h0 : ExceptHandler} {hds : List ExceptHandler} {l : List (Value × (Addr → Addr → TS))} {pos : Pos} {tb : WX → TS} {Wout : WX} (tk : L2N.Takes X Wout)
    (hb : ∀ (W : WX) (pn : List (Addr × Obj)) (xe : Value → Shared → Prop), L2N.Takes (X.tr pn xe) W → PassesOwn (model X.prog X.w) X.A X.env xe → PSs (X.tr pn xe) body (tb W))
    (hh : HdsX X (h0 :: hds) l) (hs : X.stack = X.env :: X.outer := by rfl) (hf : X.env.frame = some X.env.locals := by rfl) : PS X (.Try body (h0 :: hds) [] [] pos) (tTryMany X.K tb l Wout) := L2N.ps_try_many hs hf tk hb hh.ok
section
variable {K : PySem.W.Frag} {σ : Bk.St} {H : Hp} {Q : VK} {D : Ends} {nx bk ct : Bk.St → Hp → Prop} {rt : VK} {c cls : Value} {C e : Addr} {i : Nat} {ts : Addr → Value → Option Addr → TS} {t : Addr → Addr → TS} {tb : WX → TS} {Wout : WX} {E : XK} {d : Option Addr} {l : List (Value × (Addr → Addr → TS))} {l' : List (Value × (Addr → Value → Option Addr → TS))}
theorem go_tryAs (q : tb (wAs K c i (tSu K t) Wout D) D σ H) : tTryAs K c i tb t Wout D σ H := q
theorem go_tryMany (q : tb (wMany K Wout D (l.map fun p => (p.1, tSu K p.2))) D σ H) : tTryMany K tb l Wout D σ H := q
theorem go_WM (q : E cls d H) : WM E cls d σ H := q
theorem go_asT [k : ExmF K (.ref C) c true] [x : ExcF K C] (q : ∀ e, H e = none → t e C ⟨fun σ' H' => nx (σ'.set i none) H', rt, fun σ' H' => bk (σ'.set i none) H', fun σ' H' => ct (σ'.set i none) H'⟩ (σ.set i (some (.ref e))) H) : wAs K c i (tSu K t) Wout ⟨nx, rt, bk, ct⟩ (.ref C) none σ H :=
  ⟨true, k.h, fun _ e he => ⟨C, rfl, rfl, x.h, q e he⟩, fun z => Bool.noConfusion z⟩
theorem go_asF [k : ExmF K cls c false] (q : Wout cls d σ H) : wAs K c i ts Wout D cls d σ H := ⟨false, k.h, fun z => Bool.noConfusion z, fun _ => q⟩
theorem go_manyT [k : ExmF K (.ref C) c true] [x : ExcF K C] (q : ∀ e, H e = none → t e C D σ H) : wMany K Wout D ((c, tSu K t) :: l') (.ref C) none σ H := ⟨true, k.h, fun _ e he => ⟨C, rfl, rfl, x.h, q e he⟩, fun z => Bool.noConfusion z⟩
theorem go_manyF [k : ExmF K cls c false] (q : wMany K Wout D l' cls d σ H) : wMany K Wout D ((c, ts) :: l') cls d σ H := ⟨false, k.h, fun z => Bool.noConfusion z, fun _ => q⟩
theorem go_manyN (q : Wout cls d σ H) : wMany K Wout D [] cls d σ H := q
end

/-! ### steps: objects, calls, loops in hot code -/
/-- a list walked, calm or hot -/
def ListYK (K : PySem.W.Frag) (R : It → Hp → Prop) : VK := fun x H1 => ∃ a, x = .ref a ∧ ∃ xs, SqL K H1 a xs ∧ R (Itl K a) H1
section
variable {K : PySem.W.Frag} {σ : Bk.St} {H H1 : Hp} {Q : VK} {tl ta tv : TE} {R : It → Hp → Prop} {a C dx : Addr} {xs : List V} {fs : List (Str × V)} {f m : Str} {v y : V} {nx bk ct : Bk.St → Hp → Prop} {rt : VK} {E : Bk.St → XK} {t : TA} {sp : Sp} {alts : List (Addr × Sp)}
theorem go_listY (q : tl σ H (ListYK K R)) : iListY K tl σ H R := q
theorem go_listYL (h : H a = some (.lst xs)) (q : R (Itl K a) H) : ListYK K R (.ref a) H := ⟨a, rfl, xs, SqL.of h, q⟩
def FldK (K : PySem.W.Frag) (f : Str) (Q : VK) : VK := fun x H1 => ∃ a C dx fs v, x = .ref a ∧ H1 a = some (.ins C dx fs) ∧ Cls K C ∧ NoAttr K C f ∧ fs.lookup f = some v ∧ Q v H1
theorem go_fld (q : ta σ H (FldK K f Q)) : tFld K ta f σ H Q := q
theorem go_FldK (h : H a = some (.ins C dx fs)) (c : ClsF K C) (n : NoAF K C f) (l : fs.lookup f = some v) (q : Q v H) : FldK K f Q (.ref a) H := ⟨a, C, dx, fs, v, rfl, h, c.h, n.h, l, q⟩
def SFldK (K : PySem.W.Frag) (f : Str) (y : V) (σ : Bk.St) (nx : Bk.St → Hp → Prop) : VK := fun x H2 => ∃ a C dx fs, x = .ref a ∧ H2 a = some (.ins C dx fs) ∧ Cls K C ∧ NoAttr K C f ∧ fs.length < 1000 ∧ nx σ (upd H2 a (.ins C dx (putF f y fs)))
theorem go_sfld (q : tv σ H fun y H1 => ta σ H1 (SFldK K f y σ nx)) : sFld K ta tv f ⟨nx, rt, bk, ct⟩ σ H := q
theorem go_SFldK (h : H a = some (.ins C dx fs)) (c : ClsF K C) (n : NoAF K C f) (hl : fs.length < 1000) {fs' : List (Str × V)} (e : putF f y fs = fs') (q : ∀ H1, Wr H a (.ins C dx fs') H1 → nx σ H1) : SFldK K f y σ nx (.ref a) H := by
  subst e
  exact ⟨a, C, dx, fs, rfl, h, c.h, n.h, hl, wr_of h q⟩
def MethK (m : Str) (alts : List (Addr × Sp)) (E : Bk.St → XK) (t : TA) (σ : Bk.St) (Q : VK) : VK := fun x H1 => ∃ a dx fs C sp, x = .ref a ∧ H1 a = some (.ins C dx fs) ∧ fs.lookup m = none ∧ (C, sp) ∈ alts ∧ t σ H1 fun vs H2 => sp (x :: vs) H2 Q (E σ)
theorem go_meth (q : ta σ H (MethK m alts E t σ Q)) : tMethP m alts E ta t σ H Q := q
/-- the class at hand: the n-th of those that have the method -/
theorem go_MethK (n : Nat) (h : H a = some (.ins C dx fs)) (l : fs.lookup m = none) (hn : alts[n]? = some (C, sp)) (q : t σ H fun vs H2 => sp (.ref a :: vs) H2 Q (E σ)) : MethK m alts E t σ Q (.ref a) H := ⟨a, dx, fs, C, sp, rfl, h, l, List.mem_of_getElem? hn, q⟩
def MakeK (C : Addr) (sp : Sp) (E : XK) (Q : VK) : List V → Hp → Prop := fun vs H1 => ∀ x dx, H1 x = none → H1 dx = none → dx ≠ x → sp (.ref x :: vs) (upd (upd H1 dx (.own x)) x (.ins C dx [])) (fun v H2 => v = .non ∧ Q (.ref x) H2) E
theorem go_make (q : t σ H (MakeK C sp (E σ) Q)) : tMakeE C sp E t σ H Q := q
theorem go_MakeK {vs : List V} {E : XK} (q : ∀ dx H1 x H2, New H dx (.own x) H1 → New H1 x (.ins C dx []) H2 → sp (.ref x :: vs) H2 (fun v H3 => v = .non ∧ Q (.ref x) H3) E) : MakeK C sp E Q vs H :=
  fun x dx hx hd ne => q dx _ x _ ⟨hd, rfl⟩ ⟨by rw [upd_ne (Ne.symm ne)]; exact hx, rfl⟩
theorem go_non {R : Prop} (q : R) : V.non = V.non ∧ R := ⟨rfl, q⟩
theorem go_callX {sp : Addr → Addr → Sp} {ex D : Addr} (q : t σ H fun vs H1 => sp ex D vs H1 Q (E σ)) : tCallX sp ex D E t σ H Q := q
def MethXK (m : Str) (C : Addr) (sp : Addr → Addr → Sp) (ex D : Addr) (E : XK) (t : TA) (σ : Bk.St) (Q : VK) : VK := fun x H1 => ∃ a dx fs, x = .ref a ∧ H1 a = some (.ins C dx fs) ∧ fs.lookup m = none ∧ t σ H1 fun vs H2 => sp ex D (x :: vs) H2 Q E
theorem go_methX {sp : Addr → Addr → Sp} {ex D : Addr} (q : ta σ H (MethXK m C sp ex D (E σ) t σ Q)) : tMethX m C sp ex D E ta t σ H Q := q
theorem go_MethXK {sp : Addr → Addr → Sp} {ex D : Addr} {E : XK} (h : H a = some (.ins C dx fs)) (l : fs.lookup m = none) (q : t σ H fun vs H2 => sp ex D (.ref a :: vs) H2 Q E) : MethXK m C sp ex D E t σ Q (.ref a) H := ⟨a, dx, fs, rfl, h, l, q⟩
-- dicts
def DGetK (Q : VK) (x : V) : VK := fun y H2 => ∃ a v, x = .ref a ∧ DGet H2 a y (some v) ∧ Q v H2
theorem go_dget {ty : TE} (q : ta σ H fun x H1 => ty σ H1 (DGetK Q x)) : tDGet ta ty σ H Q := q
theorem go_DGetS {kvs : List (Key × V)} {k : Str} (h : H a = some (.dK kvs)) (l : valV kvs (.inr k) = some v) (q : Q v H) : DGetK Q (.ref a) (.str k) H := ⟨a, v, rfl, l ▸ DGet.k (k := .inr k) h, q⟩
theorem go_DGetI {kvs : List (Key × V)} {k : Int} (h : H a = some (.dK kvs)) (l : valV kvs (.inl k) = some v) (q : Q v H) : DGetK Q (.ref a) (.int k) H := ⟨a, v, rfl, l ▸ DGet.k (k := .inl k) h, q⟩
def DPutK (v x : V) (σ : Bk.St) (nx : Bk.St → Hp → Prop) : VK := fun y H3 => ∃ a H4, x = .ref a ∧ DPut H3 a y v H4 ∧ nx σ H4
theorem go_dput {td ty : TE} (q : tv σ H fun v H1 => td σ H1 fun x H2 => ty σ H2 (DPutK v x σ nx)) : sDPut td ty tv ⟨nx, rt, bk, ct⟩ σ H := q
theorem go_DPutS {kvs kvs' : List (Key × V)} {k : Str} (h : H a = some (.dK kvs)) (hl : kvs.length < 1000) (e : putK kvs (.inr k) v = kvs') (q : ∀ H1, Wr H a (.dK kvs') H1 → nx σ H1) : DPutK v (.ref a) σ nx (.str k) H := by
  subst e
  exact ⟨a, _, rfl, DPut.k (k := .inr k) h (by rw [sizeLine_eq]; omega), wr_of h q⟩
theorem go_DPutI {kvs kvs' : List (Key × V)} {k : Int} (h : H a = some (.dK kvs)) (hl : kvs.length < 1000) (e : putK kvs (.inl k) v = kvs') (q : ∀ H1, Wr H a (.dK kvs') H1 → nx σ H1) : DPutK v (.ref a) σ nx (.int k) H := by
  subst e
  exact ⟨a, _, rfl, DPut.k (k := .inl k) h (by rw [sizeLine_eq]; omega), wr_of h q⟩
def DispK (p : Addr) (Q : VK) : List (V × V) → Hp → Prop := fun ps H2 => H2 p = some (.dK []) ∧ ∃ kvs : List (Key × V), ps = kvs.map (fun kv => (kV kv.1, kv.2)) ∧ kvs.length ≤ 15 ∧ Q (.ref p) (upd H2 p (.dK (mergeK [] kvs)))
theorem go_disp {trs : List (TE × TE)} (q : ∀ p H1, New H p (.dK []) H1 → tPairs trs σ H1 (DispK p Q)) : tDisp trs σ H Q := fun p hp => q p _ ⟨hp, rfl⟩
theorem go_pairs {tk tv : TE} {r : List (TE × TE)} {QP : List (V × V) → Hp → Prop} (q : tk σ H fun x H1 => tv σ H1 fun y H2 => tPairs r σ H2 fun ps H3 => QP ((x, y) :: ps) H3) : tPairs ((tk, tv) :: r) σ H QP := q
theorem go_pairs0 {QP : List (V × V) → Hp → Prop} (q : QP [] H) : tPairs [] σ H QP := q
theorem go_DispK (kvs : List (Key × V)) {kvs' : List (Key × V)} {p : Addr} {ps : List (V × V)} (h : H p = some (.dK [])) (e : ps = kvs.map (fun kv => (kV kv.1, kv.2))) (hl : kvs.length ≤ 15) (m : mergeK [] kvs = kvs') (q : ∀ H1, Wr H p (.dK kvs') H1 → Q (.ref p) H1) : DispK p Q ps H := by
  subst m
  exact ⟨h, kvs, e, hl, wr_of h q⟩
-- a pair of names
def ParK (i j : Nat) (σ : Bk.St) (nx : Bk.St → Hp → Prop) : List V → Hp → Prop := fun vs H1 => ∃ v w, vs = [v, w] ∧ nx ((σ.set i (some v)).set j (some w)) H1
theorem go_par {i j : Nat} (q : t σ H (ParK i j σ nx)) : tPar i j t ⟨nx, rt, bk, ct⟩ σ H := q
theorem go_ParK {i j : Nat} {σ' : Bk.St} (h : (σ.set i (some v)).set j (some y) = σ') (q : nx σ' H) : ParK i j σ nx [v, y] H := by subst h; exact ⟨v, y, rfl, q⟩
-- a place of a list written
def SubK (r : TSet) (v : V) (o : V) (σ : Bk.St) (nx : Bk.St → Hp → Prop) : VK := fun i H2 => r o i v H2 fun H3 => nx σ H3
theorem go_sub_ {to ti : TE} {r : TSet} (q : to σ H fun o H1 => ti σ H1 (SubK r v o σ nx)) : gSub to ti r v σ H nx := q
theorem go_setL {i : Int} {j : Nat} (h : H a = some (.lst xs)) (hi : ixN xs.length i = some j) (q : ∀ H1, Wr H a (.lst (xs.set j v)) H1 → nx σ H1) : SubK rSetL v (.ref a) σ nx (.int i) H := ⟨a, xs, i, j, rfl, rfl, h, hi, wr_of h q⟩
end
end Bk

/-! our own: comprehensions that make objects, changes of a few places, places of lists -/
namespace Bk
open PySem L2 PyProof.Rows
/-- all stands but at the places of S -/
def Chg (S : List Addr) (H H' : Hp) : Prop := ∀ b o, H b = some o → b ∉ S → H' b = some o
section
variable {S S' : List Addr} {H H1 H2 H3 : Hp} {a b p : Addr} {o u : HO}
theorem Chg.at (c : Chg S H H1) (hn : b ∉ S) (h : H b = some u) : H1 b = some u := c _ _ h hn
theorem Chg.of (s : Same H H1) : Chg S H H1 := fun b o h _ => s _ _ h
theorem Chg.refl : Chg S H H := fun b o h _ => h
theorem Chg.trans (c : Chg S H H1) (d : Chg S H1 H2) : Chg S H H2 := fun b o h n => d _ _ (c _ _ h n) n
theorem Chg.mono (c : Chg S H H1) (h : ∀ x ∈ S, x ∈ S') : Chg S' H H1 := fun b o e n => c _ _ e fun z => n (h _ z)
theorem Chg.same (c : Chg [] H H1) : Same H H1 := fun b o h => c _ _ h (by simp)
theorem Chg.wr (w : Wr H a o H1) (h : a ∈ S) : Chg S H H1 := fun b u e n => w.old (fun z => n (z ▸ h)) e
theorem Chg.new (n : New H p o H1) : Chg S H H1 := .of n.same
/-- a place that was free may be written -/
theorem Chg.fresh (c : Chg S H H1) (n : H p = none) (d : Chg (p :: S) H1 H2) : Chg S H H2 := fun b u h hn => d _ _ (c _ _ h hn) fun z => (List.mem_cons.mp z).elim (fun e => by rw [e, n] at h; cases h) hn
theorem Chg.drop (c : Chg (p :: S) H H1) (n : H p = none) : Chg S H H1 := Chg.fresh .refl n c
theorem ni_nil : b ∉ ([] : List Addr) := by simp
theorem ni_cons {x : Addr} {l : List Addr} (h : b ≠ x) (k : b ∉ l) : b ∉ x :: l := fun z => (List.mem_cons.mp z).elim h k
/-- unlike contents, unlike places -/
theorem ne_obj (h : H a = some o) (k : H b = some u) (n : o ≠ u) : a ≠ b := fun e => n (by rw [e, k] at h; exact (Option.some.inj h).symm)
end
/-- places of ints in range -/
theorem ixN_in {n : Nat} {i : Int} (h : 0 ≤ i ∧ i < n) : ixN n i = some i.toNat := by
  unfold ixN
  rw [if_pos h.1, if_pos h.2]
theorem atI_in {α : Type} {xs : List α} {i : Int} (h : 0 ≤ i) : atI xs i = xs[i.toNat]? := by
  unfold atI
  by_cases c : i < xs.length
  · rw [ixN_in ⟨h, c⟩]; rfl
  · have e : ixN xs.length i = none := by unfold ixN; rw [if_pos h, if_neg c]
    rw [e, List.getElem?_eq_none (by omega)]; rfl
section
variable {K : PySem.W.Frag} {σ : Bk.St} {H H1 : Hp} {Q : VK} {a : Addr} {xs : List V} {te : TE} {tt : TT} {m n : Nat} {lo : Int} {v x : V} {nx : Bk.St → Hp → Prop}
theorem go_setLi {i : Int} (h : H a = some (.lst xs)) (hi : 0 ≤ i ∧ i < xs.length) (q : ∀ H1, Wr H a (.lst (xs.set i.toNat v)) H1 → nx σ H1) : SubK rSetL v (.ref a) σ nx (.int i) H := go_setL h (ixN_in hi) q
theorem go_decN {p A B : Prop} [Decidable p] (h : ¬ p → A) (k : p → B) : if (!decide p) = true then A else B := by
  by_cases c : p
  · exact go_Fn c (k c)
  · exact go_Tn c (h c)
/-- a place told by the list's own word of it -/
theorem go_ixAt {i : Int} (h : H a = some (.lst xs)) (h0 : 0 ≤ i) (e : xs[i.toNat]? = some v) (q : Q v H) : rIxP K (.ref a) (.int i) H Q := go_ixL h (by rw [atI_in h0]; exact e) q
theorem go_ixAtT {i : Int} (h : H a = some (.tup xs)) (h0 : 0 ≤ i) (e : xs[i.toNat]? = some v) (q : Q v H) : rIxP K (.ref a) (.int i) H Q := go_ixT h (by rw [atI_in h0]; exact e) q
/-- a comprehension over a list: INV of what was made so far, stable under changes of the list that is made -/
theorem lc_genL (INV : Addr → List V → Hp → Prop) (h : H1 a = some (.lst xs)) (hz : xs.length ≤ sizeLine)
    (stab : ∀ D acc H' H'', INV D acc H' → Chg [D] H' H'' → INV D acc H'') (h0 : ∀ D H', H1 D = none → New H1 D (.lst []) H' → INV D [] H')
    (step : ∀ D acc i x H' Q', H1 D = none → xs[i]? = some x → acc.length = i → Same H1 H' → H' D = some (.lst acc) → INV D acc H' → (∀ v H'', Same H' H'' → INV D (acc ++ [v]) H'' → Q' v H'') → te ((σ.set m none).set m (some x)) H' Q')
    (q : ∀ D vs H2, H1 D = none → Same H1 H2 → vs.length = xs.length → INV D vs H2 → H2 D = some (.lst vs) → Q (.ref D) H2) : LcK (gName m) tYes te [m] σ Q (Itl K a) H1 := by
  intro D hD
  refine lc_list (K := K) (a := a) (xs := xs) (fun i H => ∃ acc : List V, acc.length = i ∧ H D = some (.lst acc) ∧ INV D acc H ∧ Same H1 H) ⟨[], rfl, upd_same, h0 D _ hD ⟨hD, rfl⟩, fun b o e => by rw [upd_ne (ne_of_none e hD)]; exact e⟩ (fun i H _ ⟨_, _, _, _, s⟩ => SqL.of (s _ _ h)) ?_ ?_
  · rintro i x H' hx ⟨acc, hl, hd, iv, s⟩
    refine ⟨?_, yes_if (step D acc i x H' _ hD hx hl s hd iv fun v H3 s3 iv3 => ?_)⟩
    · show ((σ.set m none).set m (some x)).set m none = σ.set m none
      rw [List.set_set, List.set_set]
    · have h3 : i < xs.length := (List.getElem?_eq_some_iff.mp hx).1
      refine ⟨acc, s3 _ _ hd, by omega, acc ++ [v], by simp [hl], upd_same, stab D _ _ _ iv3 fun b o e hb => ?_, fun b o e => ?_⟩
      · rw [upd_ne (by simpa using hb)]; exact e
      · rw [upd_ne (ne_of_none e hD)]; exact s3 _ _ (s _ _ e)
  · rintro H2 ⟨acc, hl, hd, iv, s⟩
    exact q D acc H2 hD s hl iv hd
theorem lc_genR (INV : Addr → List V → Hp → Prop) (hz : n ≤ sizeLine)
    (stab : ∀ D acc H' H'', INV D acc H' → Chg [D] H' H'' → INV D acc H'') (h0 : ∀ D H', H1 D = none → New H1 D (.lst []) H' → INV D [] H')
    (step : ∀ D acc i H' Q', H1 D = none → i < n → acc.length = i → Same H1 H' → H' D = some (.lst acc) → INV D acc H' → (∀ v H'', Same H' H'' → INV D (acc ++ [v]) H'' → Q' v H'') → te ((σ.set m none).set m (some (.int (lo + i)))) H' Q')
    (q : ∀ D vs H2, H1 D = none → Same H1 H2 → vs.length = n → INV D vs H2 → H2 D = some (.lst vs) → Q (.ref D) H2) : LcK (gName m) tYes te [m] σ Q (Itr lo n) H1 := by
  intro D hD
  refine lc_range (fun i H => ∃ acc : List V, acc.length = i ∧ H D = some (.lst acc) ∧ INV D acc H ∧ Same H1 H) ⟨[], rfl, upd_same, h0 D _ hD ⟨hD, rfl⟩, fun b o e => by rw [upd_ne (ne_of_none e hD)]; exact e⟩ ?_ ?_
  · rintro i H' hi ⟨acc, hl, hd, iv, s⟩
    refine ⟨?_, yes_if (step D acc i H' _ hD hi hl s hd iv fun v H3 s3 iv3 => ?_)⟩
    · show ((σ.set m none).set m (some (.int (lo + i)))).set m none = σ.set m none
      rw [List.set_set, List.set_set]
    · refine ⟨acc, s3 _ _ hd, by omega, acc ++ [v], by simp [hl], upd_same, stab D _ _ _ iv3 fun b o e hb => ?_, fun b o e => ?_⟩
      · rw [upd_ne (by simpa using hb)]; exact e
      · rw [upd_ne (ne_of_none e hD)]; exact s3 _ _ (s _ _ e)
  · rintro H2 ⟨acc, hl, hd, iv, s⟩
    exact q D acc H2 hD s hl iv hd
/-- new objects, one by one: their places, unlike one another -/
structure News (H1 : Hp) (o : Nat → HO) (D : Addr) (ps : List Addr) (H2 : Hp) : Prop where
  free : ∀ p ∈ ps, H1 p = none
  ne : ∀ p ∈ ps, p ≠ D
  at_ : ∀ (i : Nat) (p : Addr), ps[i]? = some p → H2 p = some (o i)
  nd : ps.Nodup
theorem News.chg {o : Nat → HO} {D : Addr} {ps : List Addr} {H2 H3 : Hp} (w : News H1 o D ps H2) (c : Chg [D] H2 H3) : News H1 o D ps H3 :=
  ⟨w.free, w.ne, fun i p e => c.at (by simpa using w.ne p (List.mem_of_getElem? e)) (w.at_ i p e), w.nd⟩
theorem News.nil {o : Nat → HO} {D : Addr} {H2 : Hp} : News H1 o D [] H2 := ⟨by simp, by simp, by simp, by simp⟩
theorem News.snoc {o : Nat → HO} {D p : Addr} {ps : List Addr} {H2 H3 : Hp} {u : HO} (w : News H1 o D ps H2) (hD : H2 D = some u) (s : Same H2 H3) (s0 : Same H1 H2) (hp : H2 p = none) (h : H3 p = some (o ps.length)) : News H1 o D (ps ++ [p]) H3 := by
  have old : ∀ q ∈ ps, ∃ u, H2 q = some u := fun q hq => by
    obtain ⟨i, hi⟩ := List.mem_iff_getElem?.mp hq
    exact ⟨_, w.at_ i q hi⟩
  refine ⟨fun q hq => ?_, fun q hq => ?_, fun i q e => ?_, ?_⟩
  · rcases List.mem_append.mp hq with hq | hq
    · exact w.free q hq
    · rw [List.mem_singleton.mp hq]; exact s0.free hp
  · rcases List.mem_append.mp hq with hq | hq
    · exact w.ne q hq
    · rw [List.mem_singleton.mp hq]; exact Ne.symm (ne_none hp hD)
  · by_cases c : i < ps.length
    · rw [List.getElem?_append_left c] at e
      exact s _ _ (w.at_ i q e)
    · rw [List.getElem?_append_right (by omega)] at e
      have e1 : i - ps.length = 0 := by
        have := (List.getElem?_eq_some_iff.mp e).1
        simp at this; omega
      rw [e1] at e
      cases e
      rw [show i = ps.length by omega]
      exact h
  · rw [List.nodup_append]
    refine ⟨w.nd, by simp, fun q hq r hr => ?_⟩
    rw [List.mem_singleton.mp hr]
    obtain ⟨u, e⟩ := old q hq
    exact ne_none hp e
theorem map_snoc {ps : List Addr} {p : Addr} : ps.map V.ref ++ [V.ref p] = (ps ++ [p]).map V.ref := by simp
theorem lc_newL {o : Nat → HO} (h : H1 a = some (.lst xs)) (hz : xs.length ≤ sizeLine)
    (step : ∀ i x H' Q', xs[i]? = some x → Same H1 H' → (∀ p H'', Same H' H'' → H' p = none → H'' p = some (o i) → Q' (.ref p) H'') → te ((σ.set m none).set m (some x)) H' Q')
    (q : ∀ D ps H2, H1 D = none → Same H1 H2 → ps.length = xs.length → News H1 o D ps H2 → H2 D = some (.lst (ps.map V.ref)) → Q (.ref D) H2) : LcK (gName m) tYes te [m] σ Q (Itl K a) H1 := by
  refine lc_genL (fun D acc H' => ∃ ps : List Addr, acc = ps.map V.ref ∧ News H1 o D ps H') h hz (fun D acc H' H'' ⟨ps, e, w⟩ c => ⟨ps, e, w.chg c⟩) (fun D H' _ _ => ⟨[], rfl, .nil⟩) ?_ ?_
  · rintro D acc i x H' Q' hD hx hl s hd ⟨ps, rfl, w⟩ k
    refine step i x H' Q' hx s fun p H'' s2 hp hp2 => k _ _ s2 ⟨ps ++ [p], map_snoc, w.snoc hd s2 s hp ?_⟩
    rw [show ps.length = i by simpa using hl]; exact hp2
  · rintro D vs H2 hD s hl ⟨ps, rfl, w⟩ hd
    exact q D ps H2 hD s (by simpa using hl) w hd
theorem lc_newR {o : Nat → HO} (hz : n ≤ sizeLine)
    (step : ∀ i H' Q', i < n → Same H1 H' → (∀ p H'', Same H' H'' → H' p = none → H'' p = some (o i) → Q' (.ref p) H'') → te ((σ.set m none).set m (some (.int (lo + i)))) H' Q')
    (q : ∀ D ps H2, H1 D = none → Same H1 H2 → ps.length = n → News H1 o D ps H2 → H2 D = some (.lst (ps.map V.ref)) → Q (.ref D) H2) : LcK (gName m) tYes te [m] σ Q (Itr lo n) H1 := by
  refine lc_genR (fun D acc H' => ∃ ps : List Addr, acc = ps.map V.ref ∧ News H1 o D ps H') hz (fun D acc H' H'' ⟨ps, e, w⟩ c => ⟨ps, e, w.chg c⟩) (fun D H' _ _ => ⟨[], rfl, .nil⟩) ?_ ?_
  · rintro D acc i H' Q' hD hi hl s hd ⟨ps, rfl, w⟩ k
    refine step i H' Q' hi s fun p H'' s2 hp hp2 => k _ _ s2 ⟨ps ++ [p], map_snoc, w.snoc hd s2 s hp ?_⟩
    rw [show ps.length = i by simpa using hl]; exact hp2
  · rintro D vs H2 hD s hl ⟨ps, rfl, w⟩ hd
    exact q D ps H2 hD s (by simpa using hl) w hd
end
/-! attributes and keys by their names -/
section
variable {f g : Str} {v x : V} {r r' : List (Str × V)}
theorem putF_nil : putF f v [] = [(f, v)] := rfl
theorem putF_hit : putF f v ((f, x) :: r) = (f, v) :: r := by rw [putF, if_pos rfl]
theorem putF_miss (h : g ≠ f) (k : putF f v r = r') : putF f v ((g, x) :: r) = (g, x) :: r' := by rw [putF, if_neg h, k]
end
section
variable {k g : Key} {v x : V} {r r' : List (Key × V)}
theorem putK_nil : putK ([] : List (Key × V)) k v = [(k, v)] := rfl
theorem putK_hit (h : (r.map (·.1)).all (fun y => decide (y ≠ k)) = true) : putK ((k, x) :: r) k v = (k, v) :: r := by
  unfold putK
  rw [if_pos (by simp)]
  simp only [List.map_cons, if_true]
  refine congrArg _ ?_
  refine (List.map_congr_left fun y hy => ?_).trans (List.map_id _)
  have := List.all_eq_true.mp h y.1 (List.mem_map_of_mem hy)
  rw [if_neg (of_decide_eq_true this)]
  rfl
theorem putK_miss (h : g ≠ k) (e : putK r k v = r') : putK ((g, x) :: r) k v = (g, x) :: r' := by
  subst e
  unfold putK
  by_cases c : (r.any fun kv => decide (kv.1 = k)) = true
  · rw [if_pos c, if_pos (by rw [List.any_cons, c, Bool.or_true]), List.map_cons, if_neg h]
  · have c' : (r.any fun kv => decide (kv.1 = k)) = false := Bool.eq_false_iff.mpr c
    rw [if_neg c, if_neg (by rw [List.any_cons, c', decide_eq_false h]; decide)]
    rfl
theorem mergeK_go : ∀ (kvs acc : List (Key × V)), ((acc ++ kvs).map (·.1)).Nodup → mergeK acc kvs = acc ++ kvs
  | [], acc, _ => by simp [mergeK]
  | (k, v) :: r, acc, h => by
    have e : putK acc k v = acc ++ [(k, v)] := by
      unfold putK
      rw [if_neg]
      rw [List.any_eq_true]
      rintro ⟨y, hy, e⟩
      have e := of_decide_eq_true e
      rw [List.map_append, List.nodup_append] at h
      exact h.2.2 y.1 (List.mem_map_of_mem hy) k (by simp) e
    have := mergeK_go r (acc ++ [(k, v)]) (by simpa using h)
    unfold mergeK at this ⊢
    rw [List.foldl_cons, e, this]
    simp
theorem mergeK_nd {kvs : List (Key × V)} (h : (kvs.map (·.1)).Nodup) : mergeK [] kvs = kvs := mergeK_go kvs [] h
end
/-- string keys of a display -/
def unS : List (V × V) → List (Key × V)
  | (.str k, v) :: r => (.inr k, v) :: unS r
  | _ => []
theorem go_DispS {H : Hp} {Q : VK} {kvs' : List (Key × V)} {p : Addr} {ps : List (V × V)} (h : H p = some (.dK [])) (e : ps = (unS ps).map (fun kv => (kV kv.1, kv.2))) (hl : (unS ps).length ≤ 15) (k : unS ps = kvs') {ks : List Key} (km : kvs'.map (·.1) = ks) (m : ks.Nodup) (q : ∀ H1, Wr H p (.dK kvs') H1 → Q (.ref p) H1) : DispK p Q ps H :=
  go_DispK (unS ps) h e hl (by subst k; exact mergeK_nd (km ▸ m)) q
end Bk

/-! our own: more steps -/
namespace Bk
open PySem L2 PyProof.Rows
theorem Same.chg {H0 H H' : Hp} {S : List Addr} (s : Same H0 H) (c : Chg S H H') (n : ∀ b ∈ S, H0 b = none) : Same H0 H' := fun b o e => c _ _ (s _ _ e) fun z => by rw [n b z] at e; cases e
section
variable {K : PySem.W.Frag} {σ : Bk.St} {H H1 : Hp} {Q : VK} {a : Addr} {xs : List V} {te : TE} {tt : TT} {m n : Nat} {lo : Int} {v x : V} {nx : Bk.St → Hp → Prop}
/-- a slice of the script -/
theorem go_slK {lo hi : Option Int} (h : SqL K H a xs) (q : ∀ p H1, New H p (.lst (cutV xs lo hi)) H1 → Q (.ref p) H1) : rSlP K (.ref a) lo hi H Q := .inl ⟨a, xs, rfl, h, new_of q⟩
theorem go_indexB {bs : List Bool} {j : Nat} (h : H a = some (.lst (bs.map V.bl))) (hj : bs[j]? = some true) (hl : ∀ m, m < j → bs[m]? = some false) (q : Q (.int j) H) : rIndex K (.ref a) [.bl true] H Q := by
  refine ⟨a, bs.map V.bl, .bl true, j, .bl true, rfl, rfl, SqL.of h, rfl, List.all_eq_true.mpr fun y hy => ?_, by rw [List.getElem?_map, hj]; rfl, rfl, fun m z' hm e => ?_, q⟩
  · obtain ⟨b, _, rfl⟩ := List.mem_map.mp hy
    rfl
  · rw [List.getElem?_map, hl m hm] at e
    cases e; rfl
theorem lc_bools {bs : List Bool} (h : H1 a = some (.lst (bs.map V.bl))) (hz : bs.length ≤ 1000) (hm : m < σ.length) (q : ∀ D H2, H1 D = none → Same H1 H2 → H2 D = some (.lst ((bs.filter id).map V.bl)) → Q (.ref D) H2) : LcK (gName m) (tB (tVar m)) (tVar m) [m] σ Q (Itl K a) H1 := by
  have at_ : ∀ x, ((σ.set m none).set m (some x))[m]? = some (some x) := fun x => List.getElem?_set_self (by simpa using hm)
  refine lc_L (f := id) (p := fun x => decide (x = .bl true)) h (by rw [sizeLine_eq, List.length_map]; omega) (fun i x H' QB hx s k => ?_) (fun i x H' Q' hx hp s k => ?_) (fun D H2 hD s hd => ?_)
  · obtain ⟨b, _, rfl⟩ := List.mem_map.mp (List.mem_of_getElem? hx)
    refine ⟨.bl b, at_ _, b, rfl, ?_⟩
    have := k H' (Same.refl _)
    cases b <;> exact this
  · exact ⟨x, at_ _, k H' (Same.refl _)⟩
  · refine q D H2 hD s ?_
    rw [hd, List.map_id, List.filter_map]
    congr 2
    congr 1
    refine List.filter_congr fun b _ => ?_
    cases b <;> rfl
end
/-- a heap without some places -/
def mask (H : Hp) (S : List Addr) : Hp := fun b => if b ∈ S then none else H b
theorem mask_same {H : Hp} {S : List Addr} : Same (mask H S) H := fun b o e => by
  unfold mask at e
  by_cases c : b ∈ S
  · rw [if_pos c] at e; cases e
  · rw [if_neg c] at e; exact e
theorem mask_in {H : Hp} {S : List Addr} {b : Addr} (h : b ∈ S) : mask H S b = none := by unfold mask; rw [if_pos h]
theorem mask_out {H : Hp} {S : List Addr} {b : Addr} (h : b ∉ S) : mask H S b = H b := by unfold mask; rw [if_neg h]
/-- lists of rows, as data -/
def rowsD (R : List (List Int)) : List PyData := R.map fun row => PyData.list (row.map PyData.int)
theorem dp_rows {K : PySem.W.Frag} {H : Hp} : ∀ {ks : List Addr} {R : List (List Int)}, ks.length = R.length → (∀ (i : Nat) (p : Addr), ks[i]? = some p → ∃ row, R[i]? = some row ∧ H p = some (.lst (row.map V.int))) → DpAll K H (ks.map V.ref) (rowsD R)
  | [], [], _, _ => .nil
  | p :: ks, row :: R, hl, h => by
    obtain ⟨row', e1, e2⟩ := h 0 p rfl
    cases e1
    exact .cons (dp_ints e2) (dp_rows (by simpa using hl) fun i q e => h (i + 1) q e)
theorem shaped_rows (R : List (List Int)) : SeqAt.shaped (.list (rowsD R)) = true := by
  have : PyData.canLayAll0 (rowsD R) = true ∧ PyData.depthAll (rowsD R) ≤ 2 := by
    induction R with
    | nil => exact ⟨by simp [rowsD, PyData.canLayAll0], by simp [rowsD, PyData.depthAll]⟩
    | cons row R ih =>
      have h1 := PySem.W.shaped_ints row
      have h2 := PySem.W.depthAll_ints row
      refine ⟨?_, ?_⟩
      · show PyData.canLayAll0 (PyData.list (row.map PyData.int) :: rowsD R) = true
        simp [PyData.canLayAll0, SeqAt.canLay_of_shaped h1, ih.1]
      · show PyData.depthAll (PyData.list (row.map PyData.int) :: rowsD R) ≤ 2
        simp only [PyData.depthAll, PyData.depth]
        have := ih.2
        omega
  exact shapedL this.1 this.2
/-! loops with targets of any kind; numbered lists -/
section
variable {K : PySem.W.Frag} {σ : Bk.St} {H H1 : Hp} {Q : VK} {a : Addr} {xs : List V} {g : TG} {tb : TS} {nx bk ct : Bk.St → Hp → Prop} {rt : VK} {te : TE} {tt : TT} {m n : Nat} {lo : Int}
theorem for_Lg (INV : Nat → Bk.St → Hp → Prop) (h : ∀ i σ H, INV i σ H → H a = some (.lst xs)) (h0 : INV 0 σ H1)
    (hs : ∀ i x σ H, xs[i]? = some x → INV i σ H → g x σ H fun σ2 H2 => tb ⟨INV (i + 1), rt, nx, INV (i + 1)⟩ σ2 H2) (hd : ∀ σ H, INV xs.length σ H → nx σ H) : ForK g tb ⟨nx, rt, bk, ct⟩ σ (Itl K a) H1 :=
  for_list (K := K) (a := a) (xs := xs) INV h0 (fun i σ H _ q => SqL.of (h i σ H q)) hs hd
theorem for_E (INV : Nat → Bk.St → Hp → Prop) (h : ∀ i σ H, INV i σ H → H a = some (.lst xs)) (h0 : INV 0 σ H1)
    (hs : ∀ i x σ H T H', xs[i]? = some x → INV i σ H → New H T (.tup [.int (i : Nat), x]) H' → g (.ref T) σ H' fun σ2 H2 => tb ⟨INV (i + 1), rt, nx, INV (i + 1)⟩ σ2 H2) (hd : ∀ σ H, INV xs.length σ H → nx σ H) : ForK g tb ⟨nx, rt, bk, ct⟩ σ (Ite K a) H1 := by
  refine ⟨fun i m σ H => m = xs.length - i ∧ i ≤ xs.length ∧ INV i σ H, ⟨xs.length, by simp, Nat.zero_le _, h0⟩, ?_⟩
  rintro i m σ H ⟨rfl, hi, p⟩
  have q := SqL.of (K := K) (h i σ H p)
  by_cases hlt : i < xs.length
  · refine .inr ⟨⟨xs, xs[i], q, by simp [hlt]⟩, INV (i + 1), fun σ' H' p' => ⟨xs.length - (i + 1), by omega, rfl, hlt, p'⟩, fun x H' y => ?_⟩
    obtain ⟨T, x, rfl, hT, rfl, y⟩ := y
    exact hs i x σ H T _ (y xs q) p ⟨hT, rfl⟩
  · have e : i = xs.length := by omega
    subst e
    exact .inl ⟨⟨xs, q, Nat.le_refl _⟩, hd σ H p⟩
def EnumK (K : PySem.W.Frag) (R : It → Hp → Prop) : List V → Hp → Prop := fun vs H1 => ∃ a xs, vs = [.ref a] ∧ SqL K H1 a xs ∧ R (Ite K a) H1
theorem go_enum {ta : TA} {R : It → Hp → Prop} (q : ta σ H (EnumK K R)) : iEnum K ta σ H R := q
theorem go_EnumL {R : It → Hp → Prop} (h : H a = some (.lst xs)) (q : R (Ite K a) H) : EnumK K R [.ref a] H := ⟨a, xs, rfl, SqL.of h, q⟩
/-- elements told by their numbers -/
theorem lc_idxL (f : Nat → V) (h : H1 a = some (.lst xs)) (hz : xs.length ≤ sizeLine)
    (step : ∀ i x H' Q', xs[i]? = some x → Same H1 H' → (∀ H'', Same H' H'' → Q' (f i) H'') → te ((σ.set m none).set m (some x)) H' Q')
    (q : ∀ D H2, H1 D = none → Same H1 H2 → H2 D = some (.lst ((List.range xs.length).map f)) → Q (.ref D) H2) : LcK (gName m) tYes te [m] σ Q (Itl K a) H1 := by
  refine lc_genL (fun D acc H' => acc = (List.range acc.length).map f) h hz (fun D acc H' H'' e _ => e) (fun D H' _ _ => rfl) ?_ ?_
  · rintro D acc i x H' Q' hD hx hl s hd iv k
    refine step i x H' Q' hx s fun H'' s2 => k _ _ s2 ?_
    rw [List.length_append, List.length_singleton, List.range_succ, List.map_append, ← iv, hl]
    rfl
  · rintro D vs H2 hD s hl iv hd
    exact q D H2 hD s (by rw [hd, iv, hl])
/-! ### lists of pairs of a number and a row -/
structure PrsAt (H : Hp) (P : Addr) (ts qs : List Addr) (prs : List (Int × List Int)) : Prop where
  rr : H P = some (.lst (ts.map V.ref))
  lt : ts.length = prs.length
  lq : qs.length = prs.length
  at_ : ∀ (i : Nat) (b : Int) (row : List Int), prs[i]? = some (b, row) → ∃ t q, ts[i]? = some t ∧ qs[i]? = some q ∧ H t = some (.tup [.int b, .ref q]) ∧ H q = some (.lst (row.map V.int))
theorem PrsAt.same {H H' : Hp} {P : Addr} {ts qs : List Addr} {prs : List (Int × List Int)} (h : PrsAt H P ts qs prs) (s : Same H H') : PrsAt H' P ts qs prs :=
  ⟨s _ _ h.rr, h.lt, h.lq, fun i b row e => let ⟨t, q, e1, e2, e3, e4⟩ := h.at_ i b row e; ⟨t, q, e1, e2, s _ _ e3, s _ _ e4⟩⟩
theorem PrsAt.chg {H H' : Hp} {S : List Addr} {P : Addr} {ts qs : List Addr} {prs : List (Int × List Int)} (h : PrsAt H P ts qs prs) (c : Chg S H H') (hP : P ∉ S) (ht : ∀ t ∈ ts, t ∉ S) (hq : ∀ q ∈ qs, q ∉ S) : PrsAt H' P ts qs prs :=
  ⟨c.at hP h.rr, h.lt, h.lq, fun i b row e => let ⟨t, q, e1, e2, e3, e4⟩ := h.at_ i b row e; ⟨t, q, e1, e2, c.at (ht t (List.mem_of_getElem? e1)) e3, c.at (hq q (List.mem_of_getElem? e2)) e4⟩⟩
/-- such pairs, made one by one -/
structure PrsNew (H1 : Hp) (D : Addr) (ts qs : List Addr) (prs : List (Int × List Int)) (H : Hp) : Prop where
  lt : ts.length = qs.length
  at_ : ∀ (i : Nat) (t q : Addr), ts[i]? = some t → qs[i]? = some q → ∃ b row, prs[i]? = some (b, row) ∧ H t = some (.tup [.int b, .ref q]) ∧ H q = some (.lst (row.map V.int))
  nt : ∀ t ∈ ts, t ≠ D ∧ H1 t = none
  nq : ∀ q ∈ qs, q ≠ D
theorem PrsNew.chg {H1 : Hp} {D : Addr} {ts qs : List Addr} {prs : List (Int × List Int)} {H H' : Hp} (w : PrsNew H1 D ts qs prs H) (c : Chg [D] H H') : PrsNew H1 D ts qs prs H' :=
  ⟨w.lt, fun i t q e1 e2 => let ⟨b, row, e3, e4, e5⟩ := w.at_ i t q e1 e2; ⟨b, row, e3, c.at (by simpa using (w.nt t (List.mem_of_getElem? e1)).1) e4, c.at (by simpa using w.nq q (List.mem_of_getElem? e2)) e5⟩, w.nt, w.nq⟩
theorem PrsNew.nil {H1 : Hp} {D : Addr} {prs : List (Int × List Int)} {H : Hp} : PrsNew H1 D [] [] prs H := ⟨rfl, by simp, by simp, by simp⟩
theorem get_snoc {α : Type} {l : List α} {x y : α} {i : Nat} (h : (l ++ [x])[i]? = some y) : l[i]? = some y ∨ (i = l.length ∧ y = x) := by
  by_cases c : i < l.length
  · rw [List.getElem?_append_left c] at h; exact .inl h
  · rw [List.getElem?_append_right (by omega)] at h
    have e1 : i - l.length = 0 := by
      have := (List.getElem?_eq_some_iff.mp h).1
      simp at this; omega
    rw [e1] at h
    cases h
    exact .inr ⟨by omega, rfl⟩
theorem PrsNew.snoc {H1 : Hp} {D t q : Addr} {ts qs : List Addr} {prs : List (Int × List Int)} {H H' : Hp} {u : HO} {b : Int} {row : List Int} (w : PrsNew H1 D ts qs prs H) (hD : H D = some u) (s : Same H H') (s0 : Same H1 H) (h1D : H1 D = none) (e : prs[ts.length]? = some (b, row))
    (ht : H t = none) (h : H' t = some (.tup [.int b, .ref q])) (hq : (∃ u, H1 q = some u) ∨ H q = none) (k : H' q = some (.lst (row.map V.int))) : PrsNew H1 D (ts ++ [t]) (qs ++ [q]) prs H' := by
  refine ⟨by simp [w.lt], fun i t' q' e1 e2 => ?_, fun t' ht' => ?_, fun q' hq' => ?_⟩
  · rcases get_snoc e1 with e1 | ⟨e1', rfl⟩
    · rcases get_snoc e2 with e2 | ⟨e2', rfl⟩
      · obtain ⟨b', row', e3, e4, e5⟩ := w.at_ i t' q' e1 e2
        exact ⟨b', row', e3, s _ _ e4, s _ _ e5⟩
      · have := (List.getElem?_eq_some_iff.mp e1).1
        rw [w.lt] at this; omega
    · rcases get_snoc e2 with e2 | ⟨e2', rfl⟩
      · have := (List.getElem?_eq_some_iff.mp e2).1
        rw [← w.lt] at this; omega
      · exact ⟨b, row, by rw [e1']; exact e, h, k⟩
  · rcases List.mem_append.mp ht' with z | z
    · exact w.nt t' z
    · rw [List.mem_singleton.mp z]; exact ⟨Ne.symm (ne_none ht hD), s0.free ht⟩
  · rcases List.mem_append.mp hq' with z | z
    · exact w.nq q' z
    · rw [List.mem_singleton.mp z]
      rcases hq with ⟨u, e⟩ | e
      · intro z; rw [z, h1D] at e; cases e
      · exact Ne.symm (ne_none e hD)
theorem PrsNew.prs {H1 : Hp} {D : Addr} {ts qs : List Addr} {prs : List (Int × List Int)} {H : Hp} (w : PrsNew H1 D ts qs prs H) (hl : ts.length = prs.length) (hd : H D = some (.lst (ts.map V.ref))) : PrsAt H D ts qs prs :=
  ⟨hd, hl, w.lt ▸ hl, fun i b row e => by
    have hi : i < prs.length := (List.getElem?_eq_some_iff.mp e).1
    have e1 : ts[i]? = some (ts[i]'(by omega)) := List.getElem?_eq_getElem _
    have e2 : qs[i]? = some (qs[i]'(by have := w.lt; omega)) := List.getElem?_eq_getElem _
    obtain ⟨b', row', e3, e4, e5⟩ := w.at_ i _ _ e1 e2
    rw [e] at e3; cases e3
    exact ⟨_, _, e1, e2, e4, e5⟩⟩
theorem lc_prsL {prs : List (Int × List Int)} (h : H1 a = some (.lst xs)) (hl : xs.length = prs.length) (hz : xs.length ≤ 1000)
    (step : ∀ (i : Nat) (x : V) (b : Int) (row : List Int) (H' : Hp) (Q' : VK), xs[i]? = some x → prs[i]? = some (b, row) → Same H1 H' → (∀ t q H'', Same H' H'' → H' t = none → H'' t = some (.tup [.int b, .ref q]) → ((∃ u, H1 q = some u) ∨ H' q = none) → H'' q = some (.lst (row.map V.int)) → Q' (.ref t) H'') → te ((σ.set m none).set m (some x)) H' Q')
    (q : ∀ D ts qs H2, H1 D = none → Same H1 H2 → PrsAt H2 D ts qs prs → (∀ t ∈ ts, H1 t = none) → Q (.ref D) H2) : LcK (gName m) tYes te [m] σ Q (Itl K a) H1 := by
  refine lc_genL (fun D acc H' => ∃ ts qs : List Addr, acc = ts.map V.ref ∧ PrsNew H1 D ts qs prs H') h (by rw [sizeLine_eq]; omega) (fun D acc H' H'' ⟨ts, qs, e, w⟩ c => ⟨ts, qs, e, w.chg c⟩) (fun D H' _ _ => ⟨[], [], rfl, .nil⟩) ?_ ?_
  · rintro D acc i x H' Q' hD hx hl2 s hd ⟨ts, qs, rfl, w⟩ k
    have hi : i < prs.length := by have := (List.getElem?_eq_some_iff.mp hx).1; omega
    have e : prs[i]? = some (prs[i].1, prs[i].2) := List.getElem?_eq_getElem hi
    refine step i x _ _ H' Q' hx e s fun t q H'' s2 ht ht2 hq hq2 => k _ _ s2 ⟨ts ++ [t], qs ++ [q], map_snoc, w.snoc hd s2 s hD (b := prs[i].1) (row := prs[i].2) ?_ ht ht2 hq hq2⟩
    rw [show ts.length = i by simpa using hl2]; exact e
  · rintro D vs H2 hD s hl2 ⟨ts, qs, rfl, w⟩ hd
    exact q D ts qs H2 hD s (w.prs (by simp at hl2; omega) hd) fun t ht => (w.nt t ht).2
theorem lc_prsR {prs : List (Int × List Int)} (hl : n = prs.length) (hz : n ≤ 1000)
    (step : ∀ (i : Nat) (b : Int) (row : List Int) (H' : Hp) (Q' : VK), i < n → prs[i]? = some (b, row) → Same H1 H' → (∀ t q H'', Same H' H'' → H' t = none → H'' t = some (.tup [.int b, .ref q]) → ((∃ u, H1 q = some u) ∨ H' q = none) → H'' q = some (.lst (row.map V.int)) → Q' (.ref t) H'') → te ((σ.set m none).set m (some (.int (lo + i)))) H' Q')
    (q : ∀ D ts qs H2, H1 D = none → Same H1 H2 → PrsAt H2 D ts qs prs → (∀ t ∈ ts, H1 t = none) → Q (.ref D) H2) : LcK (gName m) tYes te [m] σ Q (Itr lo n) H1 := by
  refine lc_genR (fun D acc H' => ∃ ts qs : List Addr, acc = ts.map V.ref ∧ PrsNew H1 D ts qs prs H') (by rw [sizeLine_eq]; omega) (fun D acc H' H'' ⟨ts, qs, e, w⟩ c => ⟨ts, qs, e, w.chg c⟩) (fun D H' _ _ => ⟨[], [], rfl, .nil⟩) ?_ ?_
  · rintro D acc i H' Q' hD hx hl2 s hd ⟨ts, qs, rfl, w⟩ k
    have hi : i < prs.length := by omega
    have e : prs[i]? = some (prs[i].1, prs[i].2) := List.getElem?_eq_getElem hi
    refine step i _ _ H' Q' hx e s fun t q H'' s2 ht ht2 hq hq2 => k _ _ s2 ⟨ts ++ [t], qs ++ [q], map_snoc, w.snoc hd s2 s hD (b := prs[i].1) (row := prs[i].2) ?_ ht ht2 hq hq2⟩
    rw [show ts.length = i by simpa using hl2]; exact e
  · rintro D vs H2 hD s hl2 ⟨ts, qs, rfl, w⟩ hd
    exact q D ts qs H2 hD s (w.prs (by simp at hl2; omega) hd) fun t ht => (w.nt t ht).2
end
def prsD (prs : List (Int × List Int)) : List PyData := prs.map fun p => PyData.tuple [.int p.1, .list (p.2.map PyData.int)]
theorem dp_prs {K : PySem.W.Frag} {H : Hp} : ∀ {ts qs : List Addr} {prs : List (Int × List Int)}, ts.length = prs.length → (∀ (i : Nat) (b : Int) (row : List Int), prs[i]? = some (b, row) → ∃ t q, ts[i]? = some t ∧ qs[i]? = some q ∧ H t = some (.tup [.int b, .ref q]) ∧ H q = some (.lst (row.map V.int))) → DpAll K H (ts.map V.ref) (prsD prs)
  | [], _, [], _, _ => .nil
  | t :: ts, qs, (b, row) :: prs, hl, h => by
    obtain ⟨t', q, e1, e2, e3, e4⟩ := h 0 b row rfl
    cases e1
    refine .cons (.tup (SqT.of e3) (.cons (.int b) (.cons (dp_ints e4) .nil))) (dp_prs (qs := qs.tail) (by simpa using hl) fun i b' row' e => ?_)
    obtain ⟨t', q', f1, f2, f3, f4⟩ := h (i + 1) b' row' e
    exact ⟨t', q', f1, by simpa [List.getElem?_tail] using f2, f3, f4⟩
theorem PrsAt.dp {K : PySem.W.Frag} {H : Hp} {P : Addr} {ts qs : List Addr} {prs : List (Int × List Int)} (h : PrsAt H P ts qs prs) : Dp K H (.ref P) (.list (prsD prs)) := .lst (SqL.of h.rr) (dp_prs h.lt h.at_)
theorem shaped_prs (prs : List (Int × List Int)) : SeqAt.shaped (.list (prsD prs)) = true := by
  have : PyData.canLayAll0 (prsD prs) = true ∧ PyData.depthAll (prsD prs) ≤ 3 := by
    induction prs with
    | nil => exact ⟨by simp [prsD, PyData.canLayAll0], by simp [prsD, PyData.depthAll]⟩
    | cons p prs ih =>
      have h1 := PySem.W.shaped_ints p.2
      have h2 := PySem.W.depthAll_ints p.2
      refine ⟨?_, ?_⟩
      · show PyData.canLayAll0 (PyData.tuple [.int p.1, .list (p.2.map PyData.int)] :: prsD prs) = true
        simp [PyData.canLayAll0, PyData.canLay0, SeqAt.canLay_of_shaped h1, ih.1]
        have := SeqAt.canLay_of_shaped h1
        simpa [PyData.canLay0] using this
      · show PyData.depthAll (PyData.tuple [.int p.1, .list (p.2.map PyData.int)] :: prsD prs) ≤ 3
        simp only [PyData.depthAll, PyData.depth]
        have := ih.2
        omega
  unfold SeqAt.shaped
  rw [Bool.and_eq_true]
  exact ⟨by simp only [PyData.canLay0]; exact this.1, decide_eq_true (by simp only [PyData.depth]; omega)⟩
end Bk

/-! our own: sorted, dicts with whole numbers for keys -/
namespace Bk
open PySem L2 PyProof.Rows
def rSortDI : List V → Hp → VK → Prop := fun xs H Q => ∃ (a : Addr) (kvs : List (Key × V)) (ks : List Int), xs = [.ref a] ∧ Rd H a (.dK kvs) ∧ kvs.map (·.1) = ks.map Sum.inl ∧ ks.length < 64 ∧
    ∀ (ys : List Int) (p : Addr), ys.Perm ks → ys.Pairwise (· ≤ ·) → H p = none → Q (.ref p) (upd H p (.lst (ys.map V.int)))
def rSortedP (K : PySem.W.Frag) : List V → Hp → VK → Prop := fun xs H Q => rSortDI xs H Q
theorem call_sortedP {X : Cx} (hc : X.calm = true) : CallR X (.builtin "sorted") (rSortedP X.K) := call_sortedDI hc
section
variable {K : PySem.W.Frag} {H : Hp} {Q : VK} {a : Addr}
theorem go_sortDI {kvs : List (Key × V)} {ks : List Int} (h : H a = some (.dK kvs)) (hk : kvs.map (·.1) = ks.map Sum.inl) (hl : ks.length < 64)
    (q : ∀ (ys : List Int) (p : Addr) (H1 : Hp), ys.Perm ks → ys.Pairwise (· ≤ ·) → New H p (.lst (ys.map V.int)) H1 → Q (.ref p) H1) : rSortedP K [.ref a] H Q :=
  ⟨a, kvs, ks, rfl, .inl h, hk, hl, fun ys p h1 h2 h3 => q ys p _ h1 h2 ⟨h3, rfl⟩⟩
end
/-! ### dicts whose keys are whole numbers, told as lists -/
/-- the dict d of pairs -/
def dI (ps : List (Int × V)) : List (Key × V) := ps.map fun p => (.inl p.1, p.2)
/-- put: in its place, or at the end -/
def putI (ps : List (Int × V)) (k : Int) (v : V) : List (Int × V) := if (ps.any fun p => decide (p.1 = k)) = true then ps.map (fun p => if p.1 = k then (p.1, v) else p) else ps ++ [(k, v)]
theorem putK_dI (ps : List (Int × V)) (k : Int) (v : V) : putK (dI ps) (.inl k) v = dI (putI ps k v) := by
  unfold putK putI dI
  have e : ((ps.map fun p => ((Sum.inl p.1 : Key), p.2)).any fun kv => decide (kv.1 = Sum.inl k)) = ps.any fun p => decide (p.1 = k) := by
    rw [List.any_map]
    congr 1
    funext p
    by_cases c : p.1 = k <;> simp [c]
  rw [e]
  by_cases c : (ps.any fun p => decide (p.1 = k)) = true
  · rw [if_pos c, if_pos c, List.map_map, List.map_map]
    refine List.map_congr_left fun p _ => ?_
    by_cases z : p.1 = k <;> simp [z]
  · rw [if_neg c, if_neg c]
    simp
theorem putI_len (ps : List (Int × V)) (k : Int) (v : V) : (putI ps k v).length ≤ ps.length + 1 := by
  unfold putI
  split
  · simp
  · simp
theorem mem_putI {ps : List (Int × V)} {k : Int} {v : V} {p : Int × V} (h : p ∈ putI ps k v) : p = (k, v) ∨ (p ∈ ps ∧ p.1 ≠ k) := by
  unfold putI at h
  split at h
  · obtain ⟨q, hq, e⟩ := List.mem_map.mp h
    by_cases z : q.1 = k
    · rw [if_pos z] at e; subst e; exact .inl (by rw [z])
    · rw [if_neg z] at e; subst e; exact .inr ⟨hq, z⟩
  · rename_i c
    rcases List.mem_append.mp h with h | h
    · refine .inr ⟨h, fun z => c ?_⟩
      exact List.any_eq_true.mpr ⟨p, h, decide_eq_true z⟩
    · exact .inl (List.mem_singleton.mp h)
theorem keys_putI {ps : List (Int × V)} {k : Int} {v : V} (h : (ps.map (·.1)).Nodup) : ((putI ps k v).map (·.1)).Nodup := by
  unfold putI
  split
  · rw [List.map_map]
    have : (ps.map ((fun p => p.1) ∘ fun p => if p.1 = k then (p.1, v) else p)) = ps.map (·.1) := List.map_congr_left fun p _ => by
      show (if p.1 = k then (p.1, v) else p).1 = p.1
      split <;> rfl
    rw [this]; exact h
  · rename_i c
    rw [List.map_append, List.nodup_append]
    refine ⟨h, by simp, fun x hx y hy e => c ?_⟩
    obtain ⟨p, hp, e1⟩ := List.mem_map.mp hx
    have e2 : y = k := by simpa using hy
    exact List.any_eq_true.mpr ⟨p, hp, decide_eq_true (by rw [e1, e, e2])⟩
theorem valV_dI {ps : List (Int × V)} {k : Int} {v : V} (hn : (ps.map (·.1)).Nodup) (h : (k, v) ∈ ps) : valV (dI ps) (.inl k) = some v := by
  induction ps with
  | nil => cases h
  | cons p ps ih =>
    rw [List.map_cons, List.nodup_cons] at hn
    rcases List.mem_cons.mp h with e | h
    · subst e
      exact valV_pos rfl
    · have ne : ¬ p.1 = k := fun e => hn.1 (by rw [e]; exact List.mem_map_of_mem (f := (·.1)) h)
      show valV ((Sum.inl p.1, p.2) :: dI ps) (Sum.inl k) = _
      rw [valV_neg (by simpa using ne)]
      exact ih hn.2 h
theorem keys_dI (ps : List (Int × V)) : (dI ps).map (·.1) = (ps.map (·.1)).map Sum.inl := by simp [dI]
/-- sorted, and each once: rising -/
theorem rising {ys : List Int} (h : ys.Pairwise (· ≤ ·)) (n : ys.Nodup) : ys.Pairwise (· < ·) := by
  refine (h.and n).imp fun ⟨a, b⟩ => ?_
  rcases Int.lt_or_eq_of_le a with h | h
  · exact h
  · exact absurd h b
section
variable {H : Hp} {Q : VK}
theorem go_p109 (q : Q (.int 1000000000) H) : rPowP (.int 10) (.int 9) H Q := go_pow (by unfold CPow; omega) q
theorem go_p1020 (q : Q (.int 100000000000000000000) H) : rPowP (.int 10) (.int 20) H Q := go_pow (by unfold CPow; omega) q
end
theorem skol {α : Type} {ys : List Int} {P : Int → α → Prop} (x0 : α) (h : ∀ y ∈ ys, ∃ x, P y x) : ∃ f : Int → α, ∀ y ∈ ys, P y (f y) := by
  classical
  exact ⟨fun y => if c : y ∈ ys then Classical.choose (h y c) else x0, fun y hy => by dsimp only; rw [dif_pos hy]; exact Classical.choose_spec (h y hy)⟩
/-- entries: pairs of a number and a row, without the list that holds them -/
structure Ent (H : Hp) (ts qs : List Addr) (prs : List (Int × List Int)) : Prop where
  lt : ts.length = prs.length
  lq : qs.length = prs.length
  at_ : ∀ (i : Nat) (b : Int) (row : List Int), prs[i]? = some (b, row) → ∃ t q, ts[i]? = some t ∧ qs[i]? = some q ∧ H t = some (.tup [.int b, .ref q]) ∧ H q = some (.lst (row.map V.int))
theorem PrsAt.ent {H : Hp} {P : Addr} {ts qs : List Addr} {prs : List (Int × List Int)} (h : PrsAt H P ts qs prs) : Ent H ts qs prs := ⟨h.lt, h.lq, h.at_⟩
theorem Ent.prs {H : Hp} {P : Addr} {ts qs : List Addr} {prs : List (Int × List Int)} (h : Ent H ts qs prs) (e : H P = some (.lst (ts.map V.ref))) : PrsAt H P ts qs prs := ⟨e, h.lt, h.lq, h.at_⟩
theorem Ent.same {H H' : Hp} {ts qs : List Addr} {prs : List (Int × List Int)} (h : Ent H ts qs prs) (s : Same H H') : Ent H' ts qs prs :=
  ⟨h.lt, h.lq, fun i b row e => let ⟨t, q, e1, e2, e3, e4⟩ := h.at_ i b row e; ⟨t, q, e1, e2, s _ _ e3, s _ _ e4⟩⟩
theorem Ent.one {H : Hp} {t q : Addr} {b : Int} {row : List Int} (h : H t = some (.tup [.int b, .ref q])) (k : H q = some (.lst (row.map V.int))) : Ent H [t] [q] [(b, row)] :=
  ⟨rfl, rfl, fun i b' row' e => by
    rcases i with _ | i
    · cases e; exact ⟨t, q, rfl, rfl, h, k⟩
    · simp at e⟩
theorem Ent.app {H : Hp} {ts qs ts' qs' : List Addr} {prs prs' : List (Int × List Int)} (h : Ent H ts qs prs) (k : Ent H ts' qs' prs') : Ent H (ts ++ ts') (qs ++ qs') (prs ++ prs') := by
  refine ⟨by simp [h.lt, k.lt], by simp [h.lq, k.lq], fun i b row e => ?_⟩
  by_cases c : i < prs.length
  · rw [List.getElem?_append_left c] at e
    obtain ⟨t, q, e1, e2, e3, e4⟩ := h.at_ i b row e
    exact ⟨t, q, by rw [List.getElem?_append_left (by rw [h.lt]; exact c)]; exact e1, by rw [List.getElem?_append_left (by rw [h.lq]; exact c)]; exact e2, e3, e4⟩
  · rw [List.getElem?_append_right (by omega)] at e
    obtain ⟨t, q, e1, e2, e3, e4⟩ := k.at_ _ b row e
    exact ⟨t, q, by rw [List.getElem?_append_right (by rw [h.lt]; omega), h.lt]; exact e1, by rw [List.getElem?_append_right (by rw [h.lq]; omega), h.lq]; exact e2, e3, e4⟩
section
variable {K : PySem.W.Frag} {σ : Bk.St} {H H1 : Hp} {Q : VK} {a : Addr} {xs : List V} {te : TE} {m : Nat}
/-- pairs made with new rows -/
theorem lc_prsN {prs : List (Int × List Int)} (h : H1 a = some (.lst xs)) (hl : xs.length = prs.length) (hz : xs.length ≤ 1000)
    (step : ∀ (i : Nat) (x : V) (b : Int) (row : List Int) (H' : Hp) (Q' : VK), xs[i]? = some x → prs[i]? = some (b, row) → Same H1 H' → (∀ t q H'', Same H' H'' → H' t = none → H'' t = some (.tup [.int b, .ref q]) → H' q = none → H'' q = some (.lst (row.map V.int)) → Q' (.ref t) H'') → te ((σ.set m none).set m (some x)) H' Q')
    (q : ∀ D ts qs H2, H1 D = none → Same H1 H2 → PrsAt H2 D ts qs prs → (∀ t ∈ ts, H1 t = none) → (∀ t ∈ qs, H1 t = none) → Q (.ref D) H2) : LcK (gName m) tYes te [m] σ Q (Itl K a) H1 := by
  refine lc_genL (fun D acc H' => ∃ ts qs : List Addr, acc = ts.map V.ref ∧ PrsNew H1 D ts qs prs H' ∧ ∀ q ∈ qs, H1 q = none) h (by rw [sizeLine_eq]; omega) (fun D acc H' H'' ⟨ts, qs, e, w, f⟩ c => ⟨ts, qs, e, w.chg c, f⟩) (fun D H' _ _ => ⟨[], [], rfl, .nil, by simp⟩) ?_ ?_
  · rintro D acc i x H' Q' hD hx hl2 s hd ⟨ts, qs, rfl, w, f⟩ k
    have hi : i < prs.length := by have := (List.getElem?_eq_some_iff.mp hx).1; omega
    have e : prs[i]? = some (prs[i].1, prs[i].2) := List.getElem?_eq_getElem hi
    refine step i x _ _ H' Q' hx e s fun t q H'' s2 ht ht2 hq hq2 => k _ _ s2 ⟨ts ++ [t], qs ++ [q], map_snoc, w.snoc hd s2 s hD (b := prs[i].1) (row := prs[i].2) ?_ ht ht2 (.inr hq) hq2, fun q' hq' => ?_⟩
    · rw [show ts.length = i by simpa using hl2]; exact e
    · rcases List.mem_append.mp hq' with z | z
      · exact f q' z
      · rw [List.mem_singleton.mp z]; exact s.free hq
  · rintro D vs H2 hD s hl2 ⟨ts, qs, rfl, w, f⟩ hd
    exact q D ts qs H2 hD s (w.prs (by simp at hl2; omega) hd) (fun t ht => (w.nt t ht).2) f
end
end Bk

/-! our own: max of ints with a default -/
namespace Bk
open PySem L2 PyProof PyProof.Rows
theorem maxD_args (a d : Value) : argsOk "max" ⟨[a], [(Str.ofString "default", d)]⟩ := by unfold argsOk; kernel_rfl
section
variable {prog : Program} {w : World} {A : Around} {I : Addr} {fp wr : List Addr} {n : Nat} {P : Nat → Value → Prop} {St : Nat → Heap → Prop} {d : Value}
theorem maxD_name : (toString "max" ++ toString ".loop" : String) = "max.loop" := by decide
/-- the loop, from its second turn on -/
theorem maxD_turn (W : Walks prog w A.in1 I fp wr n P St) (bt : Nat → Nat → Bool) (hc : CmpOf prog w A.in1 .Gt P bt) (S : Addr) (hSf : S ∉ fp) {R : Result → Shared → Prop} : ∀ (k j : Nat) (s : Shared) (vb : Value) (c : Nat), n = k + (j + 1) → St (j + 1) s.heap → P (argBest bt j) vb →
    s.heap.get? S = some ⟨.type "list", none, .seq #[vb, vb] c, #[]⟩ →
    (∀ v h' tk, P (argBest bt (n - 1)) v → (∀ b o, b ∉ wr → b ≠ S → s.heap.get? b = some o → h'.get? b = some o) → R (.ok (.ret v)) { s with heap := h', toks := tk }) →
    codeAny (model prog w) A (.builtin "max.loop" ⟨[.ref I, .none, .ref S], [(Str.ofString "default", d)]⟩) R s := by
  have nw : S ∉ wr := fun h => hSf (W.sub _ h)
  intro k
  induction k with
  | zero =>
    intro j s vb c hn st pb gS hR
    refine codeAny_builtin F.entry_max_loop ?_
    rw [Around.under_plainId F.plain_max_loop _]
    show wpAny _ A.in1 (seqItems? (.ref S) >>= _) _ _ s
    refine wpAny_bind (wpAny_seqItems gS rfl ?_)
    show wpAny _ A.in1 (tryCatch (pyNext (.ref I)) _ >>= _) _ _ s
    refine wpAny_bind (wpAny_tryCatch (W.done s _ _ (by rw [show n = j + 1 by omega]; exact st) fun h1 tk k1 => ?_))
    show wpAny _ A.in1 (updateSeq S (fun _ => #[]) >>= _) _ _ _
    refine wpAny_bind (wpAny_updateSeq (k1 S _ nw gS) rfl (wpAny_bind (wpAny_letGo (wpAny_pure ?_))))
    exact hR vb _ tk (by rw [show n - 1 = j by omega]; exact pb) fun b o hb ne e => (Heap.get?_update_other _ _ (Ne.symm ne)).trans (k1 b o hb e)
  | succ k ih =>
    intro j s vb c hn st pb gS hR
    refine codeAny_builtin F.entry_max_loop ?_
    rw [Around.under_plainId F.plain_max_loop _]
    show wpAny _ A.in1 (seqItems? (.ref S) >>= _) _ _ s
    refine wpAny_bind (wpAny_seqItems gS rfl ?_)
    show wpAny _ A.in1 (tryCatch (pyNext (.ref I)) _ >>= _) _ _ s
    refine wpAny_bind (wpAny_tryCatch (W.item (j + 1) s _ _ (by omega) st fun v h1 tk pv st1 k1 => ?_))
    have gS1 := k1 S _ nw gS
    show wpAny _ A.in1 (tryCatch (holding [v, v] (richCompare .Gt v vb >>= _)) _ >>= _) _ _ _
    refine wpAny_bind (wpAny_tryCatch (wpAny_holding (wpAny_bind (hc (j + 1) (argBest bt j) v vb _ _ _ pv pb ?_))))
    refine wpAny_bind (wpAny_holding (wpAny_truthy_bool ?_))
    refine wpAny_bind (wpAny_letGo (wpAny_pure ?_))
    cases e : bt (j + 1) (argBest bt j) with
    | true =>
      simp only [if_true]
      refine wpAny_bind (wpAny_updateSeq gS1 rfl (wpAny_bind (wpAny_letGo ?_)))
      rw [maxD_name]
      refine wpAny_pure ⟨plainId_quiet F.plain_max_loop _, ih (j + 1) _ v _ (by omega) (W.frame _ _ _ st1 fun b hb o eb => ?_) (by simp only [argBest, e, if_true]; exact pv) (Heap.get?_update_self _ gS1 rfl) fun v2 h2 tk2 pv2 k2 => ?_⟩
      · exact (Heap.get?_update_other _ _ (fun z : S = b => hSf (z ▸ hb))).trans eb
      · exact hR v2 h2 tk2 pv2 fun b o hb ne eb => k2 b o hb ne ((Heap.get?_update_other _ _ (Ne.symm ne)).trans (k1 b o hb eb))
    | false =>
      simp only [Bool.false_eq_true, if_false]
      refine wpAny_bind (wpAny_letGo ?_)
      rw [maxD_name]
      refine wpAny_pure ⟨plainId_quiet F.plain_max_loop _, ih (j + 1) _ vb c (by omega) st1 (by simp only [argBest, e, Bool.false_eq_true, if_false]; exact pb) gS1 fun v2 h2 tk2 pv2 k2 => ?_⟩
      exact hR v2 h2 tk2 pv2 fun b o hb ne eb => k2 b o hb ne (k1 b o hb eb)
theorem maxD_first (W : Walks prog w A.in1 I fp wr n P St) (bt : Nat → Nat → Bool) (hc : CmpOf prog w A.in1 .Gt P bt) (S : Addr) (hSf : S ∉ fp) {R : Result → Shared → Prop} {s : Shared} {c : Nat} (st : St 0 s.heap) (gS : s.heap.get? S = some ⟨.type "list", none, .seq #[] c, #[]⟩)
    (h0 : n = 0 → ∀ h' tk, (∀ b o, b ∉ wr → s.heap.get? b = some o → h'.get? b = some o) → R (.ok (.ret d)) { s with heap := h', toks := tk })
    (hR : 0 < n → ∀ v h' tk, P (argBest bt (n - 1)) v → (∀ b o, b ∉ wr → b ≠ S → s.heap.get? b = some o → h'.get? b = some o) → R (.ok (.ret v)) { s with heap := h', toks := tk }) :
    codeAny (model prog w) A (.builtin "max.loop" ⟨[.ref I, .none, .ref S], [(Str.ofString "default", d)]⟩) R s := by
  have nw : S ∉ wr := fun h => hSf (W.sub _ h)
  refine codeAny_builtin F.entry_max_loop ?_
  rw [Around.under_plainId F.plain_max_loop _]
  show wpAny _ A.in1 (seqItems? (.ref S) >>= _) _ _ s
  refine wpAny_bind (wpAny_seqItems gS rfl ?_)
  show wpAny _ A.in1 (tryCatch (pyNext (.ref I)) _ >>= _) _ _ s
  by_cases z : n = 0
  · subst z
    refine wpAny_bind (wpAny_tryCatch (W.done s _ _ st fun h1 tk k1 => ?_))
    show wpAny _ A.in1 (rule _ >>= _) _ _ _
    exact wpAny_bind (wpAny_rule (wpAny_pure (h0 rfl h1 tk k1)))
  · refine wpAny_bind (wpAny_tryCatch (W.item 0 s _ _ (by omega) st fun v h1 tk pv st1 k1 => ?_))
    have gS1 := k1 S _ nw gS
    show wpAny _ A.in1 (updateSeq S (fun _ => #[v, v]) >>= _) _ _ _
    refine wpAny_bind (wpAny_updateSeq gS1 rfl ?_)
    rw [maxD_name]
    refine wpAny_pure ⟨plainId_quiet F.plain_max_loop _, maxD_turn W bt hc S hSf (n - 1) 0 _ v _ (by omega) (W.frame _ _ _ st1 fun b hb o eb => ?_) pv (Heap.get?_update_self _ gS1 rfl) fun v2 h2 tk2 pv2 k2 => ?_⟩
    · exact (Heap.get?_update_other _ _ (fun z : S = b => hSf (z ▸ hb))).trans eb
    · exact hR (by omega) v2 h2 tk2 pv2 fun b o hb ne eb => k2 b o hb ne ((Heap.get?_update_other _ _ (Ne.symm ne)).trans (k1 b o hb eb))
end
section
variable {prog : Program} {w : World} {A : Around} {E : Value → Shared → Prop} {s : Shared} {l : Addr} {d : Value}
theorem call_fn_kw {id : String} {bi : Builtin} {args : List Value} {kw : List (Str × Value)} {Q : Value → Shared → Prop} (hk : builtinKind id = none) (hp : plainId id = true) (hb : entryFor table id = some bi) (ha : argsOk id ⟨args, kw⟩)
    (hc : wpAny (model prog w) A.in1 (bi ⟨args, kw⟩) (fun fin s' => match fin with
      | .done f => (match (Except.ok f : Result) with | .ok (.ret v) => Q v s' | .ok _ => False | .error e => E e s')
      | .again c' => c'.quiet = true ∧ codeAny (model prog w) A c' (fun r s' => match r with | .ok (.ret v) => Q v s' | .ok _ => False | .error e => E e s') s') E s) : wpAny (model prog w) A (call (.builtin id) args kw) Q E s := by
  refine wpAny_call (codeAny_call_builtin hp hb ?_)
  simp only [checkBuiltinCall, hk]
  cases hg : Manifest.signature? id with
  | none => exact wpAny_pure hc
  | some sg =>
    simp only [argsOk, hg] at ha
    show wpAny _ A.in1 (Bind.checkArgs id sg ⟨args, kw⟩) _ _ s
    rw [show Bind.checkArgs id sg ⟨args, kw⟩ = pure () from ha]
    exact wpAny_pure hc
theorem maxD_list {xs : Array (Int × Tok)} {Q : Value → Shared → Prop} (hh : A.handled = none) (hl : s.heap.IsList l (intItems xs))
    (h0 : xs.size = 0 → ∀ h' tk, (∀ b o, s.heap.get? b = some o → h'.get? b = some o) → Q d { s with heap := h', toks := tk })
    (h : 0 < xs.size → ∀ v h' tk, (intItems xs)[argBest (fun i j => decide (numAt xs i > numAt xs j)) (xs.size - 1)]? = some v → (∀ b o, s.heap.get? b = some o → h'.get? b = some o) → Q v { s with heap := h', toks := tk }) :
    wpAny (model prog w) A (call (.builtin "max") [.ref l] [(Str.ofString "default", d)]) Q E s := by
  refine call_fn_kw F.kind_max F.plain_max F.entry_max (maxD_args _ _) ?_
  show wpAny _ A.in1 (Builtin.Builtins.bindParams "max" ["key", "default"] 0 ⟨[], [(Str.ofString "default", d)]⟩ >>= _) _ _ s
  refine wpAny_bind (wpAny_of_eq (show Builtin.Builtins.bindParams "max" ["key", "default"] 0 ⟨[], [(Str.ofString "default", d)]⟩ = pure [none, some d] from rfl) ?_)
  refine wpAny_bind (wpAny_pure ?_)
  refine wpAny_bind (iter_intList (A := A.in1) hl fun s2 e st hfp hlI => ?_)
  subst e
  have hn : (intItems xs).size = xs.size := by simp [intItems]
  refine wpAny_bind (wpAny_newObj_type ?_)
  rw [maxD_name]
  have W := Walks.list (prog := prog) (w := w) (A := A.in1) hh s.heap.objs.size l hlI (intItems xs)
  have fr : ∀ {I : Addr} (fp : List Addr) (h : Heap), (∀ b ∈ fp, b < h.objs.size) → h.objs.size ∉ fp := fun fp h hf hm => Nat.lt_irrefl _ (hf _ hm)
  refine wpAny_pure ⟨plainId_quiet F.plain_max_loop _, maxD_first W (fun i j => decide (numAt xs i > numAt xs j)) (CmpOf.ints_gt (numAt xs) (fun _ _ => intItems_at)) _ (fun hm => Nat.lt_irrefl _ (hfp _ hm)) (W.frame _ _ _ st fun b _ o e => Heap.get?_push_of_some _ e) (Heap.get?_push_size _ rfl) (fun hz h' tk k => ?_) (fun hz v h' tk pv k => ?_)⟩
  · exact h0 (by rw [← hn]; exact hz) h' tk fun b o e => k b o (by simpa using Nat.ne_of_lt (Heap.lt_size e)) (Heap.get?_push_of_some _ (Heap.get?_push_of_some _ e))
  · rw [hn] at pv hz
    refine h hz v h' tk pv fun b o e => k b o (by simpa using Nat.ne_of_lt (Heap.lt_size e)) ?_ (Heap.get?_push_of_some _ (Heap.get?_push_of_some _ e))
    exact Nat.ne_of_lt (Heap.lt_size (Heap.get?_push_of_some { cls := .type "list_iterator", data := .fields #[.ref l, .int 0 0] } e))
end
def rMaxD (K : PySem.W.Frag) : List V → List V → Hp → VK → Prop := fun vs zs H Q => ∃ (a : Addr) (ns : List Int) (d : Int), vs = [V.ref a] ∧ zs = [.int d] ∧ SqL K H a (ns.map V.int) ∧ ∀ m, (ns = [] → m = d) → (ns ≠ [] → m ∈ ns ∧ ∀ x ∈ ns, x ≤ m) → Q (.int m) H
theorem cr_maxD {X : Cx} (hc : X.calm = true) : CallRK X (.builtin "max") [Str.ofString "default"] (rMaxD X.K) := by
  intro pins s σ H vs zs us ws Q I r rz h
  obtain ⟨a, ns, d, rfl, rfl, hs, q⟩ := h
  obtain ⟨its, rv, hl, _⟩ := I.list hs
  rw [Vals.ref1 r]
  obtain ⟨w1, rfl, t1, e1⟩ := vals1 rz
  subst e1
  obtain ⟨xs, e⟩ := rv.ints.allInts.items
  have hn : numsOf (intItems xs).toList = ns := by rw [← e]; exact rv.ints.numsOf
  rw [nums_intItems] at hn
  have hl := hl.isList
  rw [e] at hl
  refine maxD_list (I.ok.hd hc) hl (fun hz h' tk hk => ⟨.int d, H, I.kept hk, ⟨_, rfl⟩, q d (fun _ => rfl) (fun hne => ?_)⟩) (fun hz v h' tk hv hk => ?_)
  · refine absurd ?_ hne
    rw [← hn, List.map_eq_nil_iff]
    exact Array.toList_eq_nil_iff.mpr (Array.eq_empty_of_size_eq_zero hz)
  · obtain ⟨t, rfl⟩ := intItems_at hv
    obtain ⟨h1, h2⟩ := argBest_gt (numAt xs) (xs.size - 1)
    refine ⟨.int _, H, I.kept hk, ⟨_, rfl⟩, q _ (fun hne => ?_) (fun _ => ⟨?_, fun a ha => ?_⟩)⟩
    · rw [← hn, List.map_eq_nil_iff] at hne
      have : xs.size = 0 := by rw [← Array.length_toList, hne]; rfl
      omega
    · rw [← hn, numAt_eq]; exact PySem.getD_mem (by rw [List.length_map, Array.length_toList]; omega)
    · rw [← hn] at ha
      obtain ⟨j, hj, rfl⟩ := mem_getD ha
      rw [List.length_map, Array.length_toList] at hj
      rw [← numAt_eq]; exact h2 j (by omega)
end Bk
namespace Bk
open PySem L2 PyProof PyProof.Rows
/-- list(range(..)) -/
def tListR (tr : Bk.St → Hp → (Int → Int → Hp → Prop) → Prop) : TE := fun σ H Q => tr σ H fun a b H1 => -(2 ^ 62) ≤ a ∧ a < 2 ^ 62 ∧ -(2 ^ 62) ≤ b ∧ b < 2 ^ 62 ∧ (b - a).toNat ≤ 1000 ∧ ∀ p, H1 p = none → Q (.ref p) (upd H1 p (.lst ((List.range (b - a).toNat).map fun i : Nat => V.int (a + i))))
theorem pe_listR {X : Cx} {e : Expr} {tr : Bk.St → Hp → (Int → Int → Hp → Prop) → Prop} {p pos : Pos} (hc : X.calm = true) (hg : Gl X "list") (hm : X.mg "list" = none) (he : PRg X e tr) (hs : starEach [e] X.env = (false, eval e X.env) :: starEach [] X.env := by rfl) :
    PE X (.Call (.Name "list" p) [e] [] pos) (tListR tr) := by
  refine ⟨fun pins s σ H Q I h => ?_⟩
  have hb : bootBuiltins "list" = some (.type "list") := by decide +kernel
  refine Call_ (ld_blt I hg hm hb (PyProof.Rows.callWith_type1 (args_cons (thn (he pins s σ H _ I h) fun u s1 hx => args_nil ?_) hs) hs rfl))
  obtain ⟨r, a, b, t, w1, v, H1, eu, hr, I1, b1, b2, b3, b4, hz, q⟩ := hx
  subst eu
  have hn : Builtin.Range.rangeSize a b 1 = (((b - a).toNat : Nat) : Int) := rangeSize_nat a b
  refine call_list_range (I1.ok.hd hc) hr (small_one b1 b2 b3 b4) hn (by omega) fun h' tk acc c' hk hS hacc => ?_
  have hv : Vals ((List.range (b - a).toNat).map fun i : Nat => V.int (a + i)) acc.toList := by
    have hl : acc.toList.length = (b - a).toNat := by rw [Array.length_toList, hacc.1]
    have : ∀ (n : Nat) (l : List Value) (c : Int), l.length = n → (∀ (j : Nat) (v : Value), l[j]? = some v → ∃ t, v = .int (c + j) t) → Vals ((List.range n).map fun i : Nat => V.int (c + i)) l := by
      intro n
      induction n with
      | zero => intro l c h _; rw [List.length_eq_zero_iff.mp h]; exact .nil
      | succ n ih =>
        intro l c h k
        cases l with
        | nil => cases h
        | cons x l =>
          rw [List.range_succ_eq_map, List.map_cons, List.map_map]
          obtain ⟨t, e⟩ := k 0 x rfl
          refine .cons ⟨t, by rw [e]⟩ ?_
          have := ih l (c + 1) (by simpa using h) fun j v e => by
            obtain ⟨t, e2⟩ := k (j + 1) v (by simpa using e)
            exact ⟨t, by rw [e2]; congr 1; omega⟩
          have e3 : ((fun i : Nat => V.int (c + i)) ∘ Nat.succ) = fun i : Nat => V.int (c + 1 + i) := by
            funext i; show V.int (c + ((i + 1 : Nat) : Int)) = _; congr 1; omega
          rw [e3]; exact this
    refine this _ _ a hl fun j v e => ?_
    obtain ⟨t, e2⟩ := hacc.2 j v (by rw [← Array.getElem?_toList]; exact e)
    exact ⟨t, by rw [e2]; congr 1; omega⟩
  exact ⟨.ref _, _, I1.laid (t' := tk) hk (Nat.le_refl _) (show ObjOk X.prog X.w _ h' _ (.lst _) from ⟨by rw [sizeLine_eq, List.length_map, List.length_range]; omega, acc.toList, c', hv, by simpa using hS⟩), rfl, q _ (I1.hok.fresh (Nat.le_refl _))⟩
section
variable {K : PySem.W.Frag} {σ : Bk.St} {H : Hp} {Q : VK} {t tk : TA} {a : Addr}
theorem go_ckw {r : List V → List V → Hp → VK → Prop} (q : t σ H fun vs H1 => tk σ H1 fun zs H2 => r vs zs H2 Q) : tCKw r t tk σ H Q := q
theorem go_maxD {ns : List Int} {d : Int} (h : H a = some (.lst (ns.map V.int))) (q : ∀ m, (ns = [] → m = d) → (ns ≠ [] → m ∈ ns ∧ ∀ x ∈ ns, x ≤ m) → Q (.int m) H) : rMaxD K [.ref a] [.int d] H Q := ⟨a, ns, d, rfl, rfl, SqL.of h, q⟩
def ListRK (Q : VK) : Int → Int → Hp → Prop := fun a b H1 => -(2 ^ 62) ≤ a ∧ a < 2 ^ 62 ∧ -(2 ^ 62) ≤ b ∧ b < 2 ^ 62 ∧ (b - a).toNat ≤ 1000 ∧ ∀ p, H1 p = none → Q (.ref p) (upd H1 p (.lst ((List.range (b - a).toNat).map fun i : Nat => V.int (a + i))))
theorem go_listR {tr : Bk.St → Hp → (Int → Int → Hp → Prop) → Prop} (q : tr σ H (ListRK Q)) : tListR tr σ H Q := q
theorem go_ListRK {a b : Int} (h : -(2 ^ 62) ≤ a ∧ a < 2 ^ 62 ∧ -(2 ^ 62) ≤ b ∧ b < 2 ^ 62 ∧ (b - a).toNat ≤ 1000) (q : ∀ p H1, New H p (.lst ((List.range (b - a).toNat).map fun i : Nat => V.int (a + i))) H1 → Q (.ref p) H1) : ListRK Q a b H := ⟨h.1, h.2.1, h.2.2.1, h.2.2.2.1, h.2.2.2.2, new_of q⟩
def Rg2K (x : V) (Q : Int → Int → Hp → Prop) : VK := fun y H2 => ∃ i j, x = .int i ∧ y = .int j ∧ Q i j H2
theorem go_rg2 {ta tb : TE} {QI : Int → Int → Hp → Prop} (q : ta σ H fun x H1 => tb σ H1 (Rg2K x QI)) : tRg2 ta tb σ H QI := q
theorem go_Rg2K {i j : Int} {QI : Int → Int → Hp → Prop} (q : QI i j H) : Rg2K (.int i) QI (.int j) H := ⟨i, j, rfl, rfl, q⟩
def Rg1K (Q : Int → Int → Hp → Prop) : VK := fun x H1 => ∃ n, x = .int n ∧ Q 0 n H1
theorem go_rg1 {ta : TE} {QI : Int → Int → Hp → Prop} (q : ta σ H (Rg1K QI)) : tRg1 ta σ H QI := q
theorem go_Rg1K {j : Int} {QI : Int → Int → Hp → Prop} (q : QI 0 j H) : Rg1K QI (.int j) H := ⟨j, rfl, q⟩
theorem go_tryMany1 {D : Ends} {tb : WX → TS} {c : Value} {ts : Addr → Addr → TS} {Wout : WX} (q : tb (wMany K Wout D [(c, tSu K ts)]) D σ H) : tTryMany K tb [(c, ts)] Wout D σ H := q
theorem go_tryMany2 {D : Ends} {tb : WX → TS} {c c' : Value} {ts ts' : Addr → Addr → TS} {Wout : WX} (q : tb (wMany K Wout D [(c, tSu K ts), (c', tSu K ts')]) D σ H) : tTryMany K tb [(c, ts), (c', ts')] Wout D σ H := q
end
end Bk

/-! our own: texts joined; filtered ranges -/
namespace Bk
open PySem L2 PyProof PyProof.Rows
def rJoinP (K : PySem.W.Frag) : V → List V → Hp → VK → Prop := fun x xs H Q => ∃ a p, ∃ ys : List Str, x = .str a ∧ xs = [.ref p] ∧ (SqL K H p (ys.map V.str) ∨ SqT K H p (ys.map V.str)) ∧ (ys.map (·.length)).sum + ys.length * a.length ≤ 16777216 ∧ Q (.str (Txt.join a ys)) H
theorem mt_joinP {X : Cx} : MtR X "str.join" (rJoinP X.K) := mt_join
section
variable {K : PySem.W.Frag} {σ : Bk.St} {H H1 : Hp} {Q : VK} {p : Addr} {z w : Str} {t : TA} {te : TE} {tt : TT} {m n : Nat} {lo : Int}
theorem go_bmS {r : V → List V → Hp → VK → Prop} (q : t σ H fun xs H2 => r (.str z) xs H2 Q) : BmK K "str" r t σ Q (.str z) H := ⟨rfl, q⟩
theorem go_join1 (h : H p = some (.lst [.str w])) (hw : w.length ≤ 1000) (hz : z.length ≤ 1000) (q : Q (.str w) H) : rJoinP K (.str z) [.ref p] H Q := by
  refine ⟨z, p, [w], rfl, rfl, .inl (SqL.of h), by simp; omega, ?_⟩
  have e : Txt.join z [w] = w := by first | rfl | simp [Txt.join]
  rw [e]; exact q
/-- numbers of a range that meet a test -/
theorem lc_filtR {f : Nat → V} {pp : Nat → Bool} (hz : n ≤ sizeLine)
    (test : ∀ i (H' : Hp) (QB : Bool → Hp → Prop), i < n → Same H1 H' → (∀ H'', Same H' H'' → QB (pp i) H'') → tt ((σ.set m none).set m (some (.int (lo + i)))) H' QB)
    (step : ∀ i (H' : Hp) (Q' : VK), i < n → pp i = true → Same H1 H' → (∀ H'', Same H' H'' → Q' (f i) H'') → te ((σ.set m none).set m (some (.int (lo + i)))) H' Q')
    (q : ∀ D H2, H1 D = none → Same H1 H2 → H2 D = some (.lst (((List.range n).filter pp).map f)) → Q (.ref D) H2) : LcK (gName m) tt te [m] σ Q (Itr lo n) H1 := by
  intro D hD
  refine lc_range (fun i H => H D = some (.lst (((List.range i).filter pp).map f)) ∧ Same H1 H) ⟨upd_same, fun b o e => by rw [upd_ne (ne_of_none e hD)]; exact e⟩ ?_ ?_
  · rintro i H' hi ⟨hd, s⟩
    refine ⟨?_, test i H' _ hi s ?_⟩
    · show ((σ.set m none).set m (some (.int (lo + i)))).set m none = σ.set m none
      rw [List.set_set, List.set_set]
    · rintro H'' s2
      have hd2 := s2 _ _ hd
      cases hb : pp i with
      | false =>
        rw [if_neg Bool.false_ne_true]
        refine ⟨?_, s.trans s2⟩
        rw [List.range_succ, List.filter_append, List.filter_cons_of_neg (by rw [hb]; decide), List.filter_nil, List.append_nil]
        exact hd2
      | true =>
        rw [if_pos rfl]
        refine step i H'' _ hi hb (s.trans s2) fun H3 s3 => ?_
        refine ⟨_, s3 _ _ hd2, ?_, ?_, fun b o e => ?_⟩
        · rw [List.length_map]
          have h1 := List.length_filter_le pp (List.range i)
          rw [List.length_range] at h1
          omega
        · rw [upd_same, List.range_succ, List.filter_append, List.filter_cons_of_pos hb, List.filter_nil, List.map_append]
          rfl
        · rw [upd_ne (ne_of_none e hD)]
          exact s3 _ _ (s2 _ _ (s _ _ e))
  · rintro H2 ⟨hd, s⟩
    exact q D H2 hD s hd
end
end Bk

/-! our own: more of dicts and lists: in, get, pop, count, against the empty dict; a batch's rows -/
namespace Bk
open PySem L2 PyProof PyProof.Rows
def rCountP (K : PySem.W.Frag) : V → List V → Hp → VK → Prop := fun x xs H Q => ∃ (a : Addr) (ys : List V) (y : V), x = .ref a ∧ xs = [y] ∧ SqL K H a ys ∧ flatV y = true ∧ ys.all flatV = true ∧ Q (.int (ys.countP (fun z => eqV z y) : Nat)) H
theorem count_rel {y : V} {uy : Value} (ry : RelV y uy) : ∀ {ys : List V} {us : List Value}, Vals ys us → ys.all flatV = true → us.countP (eqU y) = ys.countP fun z => eqV z y
  | _, _, .nil, _ => rfl
  | z :: ys, u :: us, .cons r t, f => by
    rw [List.all_cons, Bool.and_eq_true] at f
    rw [List.countP_cons, List.countP_cons, count_rel ry t f.2, eqU_of r f.1]
theorem mt_countP {X : Cx} : MtR X "list.count" (rCountP X.K) := by
  intro pins s σ H x xs v us Q I rx rxs h
  obtain ⟨a, ys, y, rfl, rfl, hs, fy, fys, q⟩ := h
  cases rx
  obtain ⟨uy, rfl, ry⟩ := rxs.one
  obtain ⟨its, rv, ⟨⟨cls, dd, data, sl⟩, n, ho, hc, hdn, hd⟩, hlen⟩ := I.list hs
  simp only at hc hd
  subst hc hd
  refine call_meets PySem.F.slot_list_count ⟨_, ho, rfl⟩ PySem.F.entry_list_count (PySem.F.args_list_count_2 _ _) (SeqAt.list_countAt a its.toArray n dd sl uy (eqU y)) ⟨ho, fun u' hu' => mem_eqAt ry fy rv fys u' (by simpa using hu'), ?_⟩
  refine ⟨.int (ys.countP (fun z => eqV z y) : Nat), H, I.tok _, ⟨s.toks, ?_⟩, q⟩
  have : its.toArray.toList.countP (eqU y) = ys.countP fun z => eqV z y := by rw [List.toList_toArray]; exact count_rel ry rv fys
  rw [this]
/-- against the empty dict -/
def rEqDE : R2 := fun x y H Q => ∃ a b ks, x = .ref a ∧ y = .ref b ∧ H a = some (.dK ks) ∧ H b = some (.dK []) ∧ Q (.bl (decide (ks = []))) H
def rNeDE : R2 := fun x y H Q => ∃ a b ks, x = .ref a ∧ y = .ref b ∧ H a = some (.dK ks) ∧ H b = some (.dK []) ∧ Q (.bl (!decide (ks = []))) H
theorem op_eqDE {X : Cx} {k : Nat} (hr : Room k X.A) : OpR X (compareOp .Eq) rEqDE := by
  intro pins s σ H x y v u Q I rx ry h
  obtain ⟨a, b, ks, rfl, rfl, ea, eb, q⟩ := h
  cases rx
  cases ry
  have hu := hr.units
  obtain ⟨_, ya, va, ra, da⟩ := (show ObjOk X.prog X.w H s.heap a (.dK ks) from I.hok a _ ea)
  obtain ⟨_, yb, vb, rb, db⟩ := (show ObjOk X.prog X.w H s.heap b (.dK []) from I.hok b _ eb)
  cases rb
  have la := ra.length
  refine PySem.W.keq_eq (knd := mixKind X.prog X.w) (r := true) ya yb da db (by omega) (fun hl => ?_) (fin_bl I q ?_)
  · have : va = [] := List.eq_nil_of_length_eq_zero hl
    subst this
    cases ra
    exact hits_all (κ := Key) .nil .nil (fun p hp => nomatch hp)
  · cases ra with
    | nil => rfl
    | cons _ _ => simp
theorem op_neDE {X : Cx} {k : Nat} (hr : Room k X.A) : OpR X (compareOp .NotEq) rNeDE := by
  intro pins s σ H x y v u Q I rx ry h
  obtain ⟨a, b, ks, rfl, rfl, ea, eb, q⟩ := h
  cases rx
  cases ry
  have hu := hr.units
  obtain ⟨_, ya, va, ra, da⟩ := (show ObjOk X.prog X.w H s.heap a (.dK ks) from I.hok a _ ea)
  obtain ⟨_, yb, vb, rb, db⟩ := (show ObjOk X.prog X.w H s.heap b (.dK []) from I.hok b _ eb)
  cases rb
  have la := ra.length
  refine PySem.W.keq_ne (knd := mixKind X.prog X.w) (r := true) ya yb da db (by omega) (fun hl => ?_) (fin_bl I q ?_)
  · have : va = [] := List.eq_nil_of_length_eq_zero hl
    subst this
    cases ra
    exact hits_all (κ := Key) .nil .nil (fun p hp => nomatch hp)
  · cases ra with
    | nil => rfl
    | cons _ _ => simp
def rSortedQ (K : PySem.W.Frag) : List V → Hp → VK → Prop := fun xs H Q => rSortDI xs H Q ∨ rSortedI K xs H Q
theorem call_sortedQ {X : Cx} (hc : X.calm = true) : CallR X (.builtin "sorted") (rSortedQ X.K) := call_or (call_sortedDI hc) cr_sortedI
section
variable {K : PySem.W.Frag} {σ : Bk.St} {H H1 : Hp} {Q : VK} {a b : Addr} {kvs : List (Key × V)} {ta td ty tx : TE} {z y : V}
theorem go_sortQ {ks : List Int} (h : H a = some (.dK kvs)) (hk : kvs.map (·.1) = ks.map Sum.inl) (hl : ks.length < 64)
    (q : ∀ (ys : List Int) (p : Addr) (H1 : Hp), ys.Perm ks → ys.Pairwise (· ≤ ·) → New H p (.lst (ys.map V.int)) H1 → Q (.ref p) H1) : rSortedQ K [.ref a] H Q :=
  .inl ⟨a, kvs, ks, rfl, .inl h, hk, hl, fun ys p h1 h2 h3 => q ys p _ h1 h2 ⟨h3, rfl⟩⟩
theorem go_countB {bs : List Bool} (h : H a = some (.lst (bs.map V.bl))) (q : Q (.int (bs.countP id : Nat)) H) : rCountP K (.ref a) [.bl true] H Q := by
  refine ⟨a, bs.map V.bl, .bl true, rfl, rfl, SqL.of h, rfl, List.all_eq_true.mpr fun y hy => ?_, ?_⟩
  · obtain ⟨b, _, rfl⟩ := List.mem_map.mp hy
    rfl
  · have : (bs.map V.bl).countP (fun z => eqV z (.bl true)) = bs.countP id := by
      rw [List.countP_map]
      congr 1
      funext b
      cases b <;> rfl
    rw [this]; exact q
def DInK (Q : VK) (y : V) : VK := fun x H2 => ∃ a o, x = .ref a ∧ DGet H2 a y o ∧ Q (.bl o.isSome) H2
def DNotInK (Q : VK) (y : V) : VK := fun x H2 => ∃ a o, x = .ref a ∧ DGet H2 a y o ∧ Q (.bl (!o.isSome)) H2
theorem go_din (q : ty σ H fun y H1 => td σ H1 (DInK Q y)) : tDIn ty td σ H Q := q
theorem go_dnotin (q : ty σ H fun y H1 => td σ H1 (DNotInK Q y)) : tDNotIn ty td σ H Q := q
theorem go_DInI {k : Int} (h : H a = some (.dK kvs)) (q : Q (.bl (valV kvs (.inl k)).isSome) H) : DInK Q (.int k) (.ref a) H := ⟨a, _, rfl, DGet.k (k := .inl k) h, q⟩
theorem go_DNotInI {k : Int} (h : H a = some (.dK kvs)) (q : Q (.bl (!(valV kvs (.inl k)).isSome)) H) : DNotInK Q (.int k) (.ref a) H := ⟨a, _, rfl, DGet.k (k := .inl k) h, q⟩
def DGet2E (a : Addr) (Q : VK) (y z : V) (H3 : Hp) : Prop := ∃ o, DGet H3 a y o ∧ Q (o.getD z) H3
def DGet2K (ty tx : TE) (σ : Bk.St) (Q : VK) : VK := fun x H1 => ∃ a, x = .ref a ∧ IsD H1 a ∧ ty σ H1 fun y H2 => tx σ H2 fun z H3 => DGet2E a Q y z H3
theorem go_dget2 (q : td σ H (DGet2K ty tx σ Q)) : tDGet2 td ty tx σ H Q := q
theorem go_DGet2K (h : H a = some (.dK kvs)) (q : ty σ H fun y H2 => tx σ H2 fun z H3 => DGet2E a Q y z H3) : DGet2K ty tx σ Q (.ref a) H := ⟨a, rfl, .inl ⟨_, .inl h⟩, q⟩
theorem go_DGet2E {k : Int} (h : H a = some (.dK kvs)) (q : Q ((valV kvs (.inl k)).getD z) H) : DGet2E a Q (.int k) z H := ⟨_, DGet.k (k := .inl k) h, q⟩
def DPop1K (ty : TE) (σ : Bk.St) (Q : VK) : VK := fun x H1 => ∃ a, x = .ref a ∧ IsD H1 a ∧ ty σ H1 fun y H2 => ∃ kvs k v, H2 a = some (.dK kvs) ∧ y = kV k ∧ valV kvs k = some v ∧ Q v (upd H2 a (.dK (dropK kvs k)))
theorem go_dpop1 (q : td σ H (DPop1K ty σ Q)) : tDPop1 td ty σ H Q := q
theorem go_eqDE (h : H a = some (.dK kvs)) (k : H b = some (.dK [])) (q : Q (.bl (decide (kvs = []))) H) : rEqDE (.ref a) (.ref b) H Q := ⟨a, b, kvs, rfl, rfl, h, k, q⟩
theorem go_neDE (h : H a = some (.dK kvs)) (k : H b = some (.dK [])) (q : Q (.bl (!decide (kvs = []))) H) : rNeDE (.ref a) (.ref b) H Q := ⟨a, b, kvs, rfl, rfl, h, k, q⟩
end
/-! ### what a batch shows -/
theorem valV_none {ps : List (Int × V)} {k : Int} (h : ∀ p ∈ ps, p.1 ≠ k) : valV (dI ps) (.inl k) = none := by
  induction ps with
  | nil => rfl
  | cons p ps ih =>
    show valV ((Sum.inl p.1, p.2) :: dI ps) (Sum.inl k) = _
    rw [valV_neg (by simpa using h p List.mem_cons_self)]
    exact ih fun q hq => h q (List.mem_cons_of_mem _ hq)
theorem valV_at {ps : List (Int × V)} {k : Int} {v : V} (h : valV (dI ps) (.inl k) = some v) : (k, v) ∈ ps := by
  induction ps with
  | nil => cases h
  | cons p ps ih =>
    have h : valV ((Sum.inl p.1, p.2) :: dI ps) (Sum.inl k) = some v := h
    by_cases c : p.1 = k
    · rw [valV_pos (by simpa using c)] at h
      cases h; subst c
      exact List.mem_cons_self
    · rw [valV_neg (by simpa using c)] at h
      exact List.mem_cons_of_mem _ (ih h)
theorem mem_putI_of {ps : List (Int × V)} {k : Int} {v : V} {p : Int × V} (h : p ∈ ps) (n : p.1 ≠ k) : p ∈ putI ps k v := by
  unfold putI
  split
  · exact List.mem_map.mpr ⟨p, h, if_neg n⟩
  · exact List.mem_append_left _ h
theorem mem_putI_self {ps : List (Int × V)} {k : Int} {v : V} : (k, v) ∈ putI ps k v := by
  unfold putI
  split
  · rename_i c
    obtain ⟨p, hp, e⟩ := List.any_eq_true.mp c
    have e := of_decide_eq_true e
    exact List.mem_map.mpr ⟨p, hp, by rw [if_pos e, e]⟩
  · exact List.mem_append_right _ (List.mem_singleton.mpr rfl)
/-- the keys behind a put -/
def putKs (ks : List Int) (k : Int) : List Int := if k ∈ ks then ks else ks ++ [k]
theorem putI_keys {ps : List (Int × V)} {k : Int} {v : V} : (putI ps k v).map (·.1) = putKs (ps.map (·.1)) k := by
  unfold putI putKs
  by_cases c : (ps.any fun p => decide (p.1 = k)) = true
  · rw [if_pos c, if_pos (by
      obtain ⟨p, hp, e⟩ := List.any_eq_true.mp c
      exact List.mem_map.mpr ⟨p, hp, of_decide_eq_true e⟩), List.map_map]
    refine List.map_congr_left fun p _ => ?_
    by_cases z : p.1 = k
    · simp [z]
    · simp [z]
  · rw [if_neg c, if_neg (fun z => by
      obtain ⟨p, hp, e⟩ := List.mem_map.mp z
      exact c (List.any_eq_true.mpr ⟨p, hp, decide_eq_true e⟩)), List.map_append]
    rfl
theorem nodup_le {lo : Int} : ∀ {n : Nat} {ks : List Int}, ks.Nodup → (∀ k ∈ ks, lo ≤ k ∧ k < lo + n) → ks.length ≤ n
  | 0, ks, h, b => by
    cases ks with
    | nil => exact Nat.le_refl _
    | cons k r => have := b k List.mem_cons_self; omega
  | n + 1, ks, h, b => by
    by_cases c : lo + n ∈ ks
    · have := nodup_le (lo := lo) (n := n) (h.erase (lo + n)) fun k hk => by
        have := (h.mem_erase_iff).mp hk
        have := b k this.2
        omega
      rw [List.length_erase_of_mem c] at this
      omega
    · have := nodup_le (lo := lo) (n := n) h fun k hk => by
        have := b k hk
        have : k ≠ lo + n := fun z => c (z ▸ hk)
        omega
      omega
/-- a dict of rows, by their blocks -/
structure DRows (H : Hp) (D : Addr) (psl : List (Int × V)) (R Z : List (List Int)) : Prop where
  dd : H D = some (.dK (dI psl))
  nd : (psl.map (·.1)).Nodup
  len : Z.length = R.length
  hit : ∀ p ∈ psl, ∃ q row, p.2 = .ref q ∧ H q = some (.lst (row.map V.int)) ∧ row.length = 16 ∧ (∀ z ∈ row, 0 ≤ z ∧ z ≤ 999999999) ∧ 17 ≤ p.1 ∧ p.1 < R.length ∧ Z[p.1.toNat]? = some row
  miss : ∀ i : Nat, (∀ p ∈ psl, p.1 ≠ i) → Z[i]? = R[i]?
theorem DRows.same {H H' : Hp} {D : Addr} {psl : List (Int × V)} {R Z : List (List Int)} (h : DRows H D psl R Z) (s : Same H H') : DRows H' D psl R Z :=
  ⟨s _ _ h.dd, h.nd, h.len, fun p hp => let ⟨q, row, e, f, g⟩ := h.hit p hp; ⟨q, row, e, s _ _ f, g⟩, h.miss⟩
theorem DRows.put {H H' : Hp} {D q : Addr} {psl : List (Int × V)} {R Z : List (List Int)} {b : Int} {row : List Int} (h : DRows H D psl R Z) (w : Wr H D (.dK (dI (putI psl b (.ref q)))) H') (b1 : 17 ≤ b) (b2 : b < R.length) (hq : H q = some (.lst (row.map V.int))) (g : row.length = 16) (g2 : ∀ z ∈ row, 0 ≤ z ∧ z ≤ 999999999) :
    DRows H' D (putI psl b (.ref q)) R (Z.set b.toNat row) := by
  have ne : ∀ {x : Addr} {row : List Int}, H x = some (.lst (row.map V.int)) → x ≠ D := fun e => ne_obj e h.dd (by simp)
  have hl := h.len
  refine ⟨w.at, keys_putI h.nd, by simp [h.len], fun p hp => ?_, fun i hi => ?_⟩
  · rcases mem_putI hp with rfl | ⟨hp, n⟩
    · exact ⟨q, row, rfl, w.old (ne hq) hq, g, g2, b1, b2, List.getElem?_set_self (by omega)⟩
    · obtain ⟨q', row', e1, e2, e3, e4, e5, e6, e7⟩ := h.hit p hp
      exact ⟨q', row', e1, w.old (ne e2) e2, e3, e4, e5, e6, by rw [List.getElem?_set_ne (by omega)]; exact e7⟩
  · have hb := hi _ mem_putI_self
    rw [List.getElem?_set_ne (by omega)]
    refine h.miss i fun p hp z => ?_
    by_cases c : p.1 = b
    · exact hb (c ▸ z)
    · exact hi p (mem_putI_of hp c) z
theorem DRows.ints {H : Hp} {D : Addr} {psl : List (Int × V)} {R Z : List (List Int)} (h : DRows H D psl R Z) : ∀ {b : Addr} {row : List Int}, H b = some (.lst (row.map V.int)) → b ≠ D := fun e => ne_obj e h.dd (by simp)
end Bk

namespace Bk
open PySem L2 PyProof.Rows
/-! ### three comparisons; a slice stored -/
/-- a op1 b op2 c op3 d -/
def tChain3 (r r' r'' : R2) (ta tb tc td : TE) : TE := fun σ H Q => ta σ H fun x H1 => tb σ H1 fun y H2 => r x y H2 fun z H3 => ∃ k, z = .bl k ∧
  (if k = true then tc σ H3 fun w' H4 => r' y w' H4 fun z' H5 => ∃ k', z' = .bl k' ∧ (if k' = true then td σ H5 fun v' H6 => r'' w' v' H6 Q else Q (.bl false) H5) else Q (.bl false) H3)
section
variable {X : Cx} {a b c d : Expr} {ta tb tc td : TE} {pos : Pos} {op op' op'' : CmpOp} {r r' r'' : R2}
theorem pe_chain3 (ho : OpR X (compareOp op) r) (ho' : OpR X (compareOp op') r') (ho'' : OpR X (compareOp op'') r'') (ha : PE X a ta) (hb : PE X b tb) (hc : PE X c tc) (hd : PE X d td)
    (hm : lastMarks [op, op', op''] [b, c, d] = false := by with_unfolding_all rfl) : PE X (.Compare a [op, op', op''] [b, c, d] pos) (tChain3 r r' r'' ta tb tc td) := by
  refine ⟨fun pins s σ H Q I h => ?_⟩
  refine Compare_chain (thn (ha.run pins s σ H _ I h) fun v s1 ⟨x, H1, I1, r1, q1⟩ => chain_link (thn (hb.run pins s1 σ H1 _ I1 q1) fun u s2 ⟨y, H2, I2, r2, q2⟩ =>
    thn (ho pins s2 σ H2 x y v u _ I2 r1 r2 q2) fun d s3 ⟨z, H3, I3, r3, k, e, q3⟩ => ?_)) hm
  subst e
  cases r3
  refine wpAny_truthy_bool ?_
  cases k with
  | false => exact ite_ff ⟨.bl false, H3, I3, rfl, q3⟩
  | true =>
    refine ite_tt (chain_link (thn (hc.run pins s3 σ H3 _ I3 q3) fun w' s4 ⟨z', H4, I4, r4, q4⟩ => thn (ho' pins s4 σ H4 y z' u w' _ I4 r2 r4 q4) fun d' s5 ⟨z2, H5, I5, r5, k2, e2, q5⟩ => ?_))
    subst e2
    cases r5
    refine wpAny_truthy_bool ?_
    cases k2 with
    | false => exact ite_ff ⟨.bl false, H5, I5, rfl, q5⟩
    | true => exact ite_tt (chain_last (thn (hd.run pins s5 σ H5 _ I5 q5) fun w2 s6 ⟨z3, H6, I6, r6, q6⟩ => ho'' pins s6 σ H6 z' z3 w' w2 Q I6 r4 r6 q6))
theorem pt_chain3 (ho : OpR X (compareOp op) r) (ho' : OpR X (compareOp op') r') (ho'' : OpR X (compareOp op'') r'') (ha : PE X a ta) (hb : PE X b tb) (hc : PE X c tc) (hd : PE X d td)
    (hm : lastMarks [op, op', op''] [b, c, d] = false := by with_unfolding_all rfl) : PT X (.Compare a [op, op', op''] [b, c, d] pos) (tTest (tChain3 r r' r'' ta tb tc td)) := by
  refine ⟨fun pins s σ H Q I h => ?_⟩
  refine isTrue_chain (thn (ha.run pins s σ H _ I h) fun v s1 ⟨x, H1, I1, r1, q1⟩ => test_link (thn (hb.run pins s1 σ H1 _ I1 q1) fun u s2 ⟨y, H2, I2, r2, q2⟩ =>
    thn (ho pins s2 σ H2 x y v u _ I2 r1 r2 q2) fun d s3 ⟨z, H3, I3, r3, k, e, q3⟩ => ?_)) hm
  subst e
  cases r3
  refine wpAny_truthy_bool ?_
  cases k with
  | false =>
    obtain ⟨k', e', q'⟩ := q3
    cases e'
    exact ite_ff ⟨H3, I3, q'⟩
  | true =>
    refine ite_tt (test_link (thn (hc.run pins s3 σ H3 _ I3 q3) fun w' s4 ⟨z', H4, I4, r4, q4⟩ => thn (ho' pins s4 σ H4 y z' u w' _ I4 r2 r4 q4) fun d' s5 ⟨z2, H5, I5, r5, k2, e2, q5⟩ => ?_))
    subst e2
    cases r5
    refine wpAny_truthy_bool ?_
    cases k2 with
    | false =>
      obtain ⟨k', e', q'⟩ := q5
      cases e'
      exact ite_ff ⟨H5, I5, q'⟩
    | true =>
      refine ite_tt (test_last (thn (hd.run pins s5 σ H5 _ I5 q5) fun w2 s6 ⟨z3, H6, I6, r6, q6⟩ => thn (ho'' pins s6 σ H6 z' z3 w' w2 _ I6 r4 r6 q6) fun d2 s7 ⟨z4, H7, I7, r7, k3, e3, q7⟩ => ?_))
      subst e3
      cases r7
      exact wpAny_truthy_bool ⟨H7, I7, q7⟩
end
/-- xs[lo:hi] = ys, the places at hand -/
def SetSlK (σ : Bk.St) (Q : Bk.St → Hp → Prop) (v o x y : V) (H3 : Hp) : Prop := ∃ a b xs ys i j, o = .ref a ∧ v = .ref b ∧ x = .int i ∧ y = .int j ∧ H3 a = some (.lst xs) ∧ H3 b = some (.lst ys) ∧ a ≠ b ∧ 0 ≤ i ∧ i ≤ j ∧ j ≤ xs.length ∧ xs.length + ys.length ≤ sizeLine ∧ Q σ (upd H3 a (.lst (xs.take i.toNat ++ ys ++ xs.drop j.toNat)))
def gSl (to tl th : TE) : TG := fun v σ H Q => to σ H fun o H1 => tl σ H1 fun x H2 => th σ H2 fun y H3 => SetSlK σ Q v o x y H3
section
variable {X : Cx} {o lo hi : Expr} {to tl th : TE} {pos p2 : Pos}
theorem pg_sl (ho : PE X o to) (hl : PE X lo tl) (hu : PE X hi th)
    (ha : ∀ v, assign (.Subscript o (.Slice (some lo) (some hi) none p2) pos) X.env v = (do
      let ov ← holding [v] (eval o X.env)
      let iv ← holding [v, ov] (eval (.Slice (some lo) (some hi) none p2) X.env)
      standAt pos
      holding [v, ov, iv] (setItem ov iv v)
      release [iv, v, ov] []) := by intro _; rfl) : PG X (.Subscript o (.Slice (some lo) (some hi) none p2) pos) (gSl to tl th) := by
  refine ⟨fun pins s σ H v u Q I r h => ?_⟩
  rw [ha]
  refine wpAny_bind (wpAny_holding (thn (ho.run pins s σ H _ I h) fun ov s1 ⟨x, H1, I1, r1, q1⟩ => ?_))
  refine wpAny_bind (wpAny_holding (wpAny_Slice ?_))
  rw [evalPart_some]
  refine thn (hl.run pins s1 σ H1 _ I1 q1) fun vl s2 ⟨x2, H2, I2, r2, q2⟩ => ?_
  rw [evalPart_some]
  refine thn (hu.run pins s2 σ H2 _ I2 q2) fun vu s3 ⟨x3, H3, I3, r3, q3⟩ => ?_
  rw [evalPart_none]
  refine wpAny_pure ?_
  obtain ⟨aa, bb, xs, ys, i, j, rfl, rfl, rfl, rfl, hxs, hys, hne, h0, hij, hj, hz, q⟩ := q3
  obtain rfl : ov = .ref aa := r1
  obtain rfl : u = .ref bb := r
  have I4 : Inv X pins σ H3 { s3 with heap := s3.heap.push { cls := .type "slice", data := .fields #[vl, vu, .none] } } := I3.kept (t' := s3.toks) fun b ob q => Heap.get?_push_of_some _ q
  refine wpAny_bind (wpAny_standAt (wpAny_bind (wpAny_holding (set_slice I4 hxs hys hne (Heap.IsSliceOf.new ..) r2 r3 h0 hij hj hz fun s' I' => ?_))))
  exact wpAny_release ⟨σ, _, I', q⟩
end
section
variable {σ : Bk.St} {H : Hp} {Q : VK} {ta tb tc td : TE} {r r' r'' : R2} {a b : Addr} {xs ys : List V} {i j : Int} {QS : Bk.St → Hp → Prop} {v : V}
def Link (r : R2) (td : TE) (σ : Bk.St) (y : V) (Q : VK) : VK := fun z H3 => ∃ k, z = .bl k ∧ (if k = true then td σ H3 fun w' H4 => r y w' H4 Q else Q (.bl false) H3)
def Link2 (r' r'' : R2) (tc td : TE) (σ : Bk.St) (y : V) (Q : VK) : VK := fun z H3 => ∃ k, z = .bl k ∧ (if k = true then tc σ H3 fun w' H4 => r' y w' H4 (Link r'' td σ w' Q) else Q (.bl false) H3)
theorem go_chain3 (q : ta σ H fun x H1 => tb σ H1 fun y H2 => r x y H2 (Link2 r' r'' tc td σ y Q)) : tChain3 r r' r'' ta tb tc td σ H Q := q
theorem go_LinkT {y : V} (q : td σ H fun w' H4 => r y w' H4 Q) : Link r td σ y Q (.bl true) H := ⟨true, rfl, by rw [if_pos rfl]; exact q⟩
theorem go_LinkF {y : V} (q : Q (.bl false) H) : Link r td σ y Q (.bl false) H := ⟨false, rfl, by rw [if_neg Bool.false_ne_true]; exact q⟩
theorem go_Link2T {y : V} (q : tc σ H fun w' H4 => r' y w' H4 (Link r'' td σ w' Q)) : Link2 r' r'' tc td σ y Q (.bl true) H := ⟨true, rfl, by rw [if_pos rfl]; exact q⟩
theorem go_Link2F {y : V} (q : Q (.bl false) H) : Link2 r' r'' tc td σ y Q (.bl false) H := ⟨false, rfl, by rw [if_neg Bool.false_ne_true]; exact q⟩
theorem go_gSl {to tl th : TE} (q : to σ H fun o H1 => tl σ H1 fun x H2 => th σ H2 fun y H3 => SetSlK σ QS v o x y H3) : gSl to tl th v σ H QS := q
theorem go_SetSl (h : H a = some (.lst xs)) (k : H b = some (.lst ys)) (n : a ≠ b) (h0 : 0 ≤ i) (hij : i ≤ j) (hj : j ≤ xs.length) (hz : xs.length + ys.length ≤ sizeLine) (q : ∀ H1, Wr H a (.lst (xs.take i.toNat ++ ys ++ xs.drop j.toNat)) H1 → QS σ H1) : SetSlK σ QS (.ref b) (.ref a) (.int i) (.int j) H :=
  ⟨a, b, xs, ys, i, j, rfl, rfl, rfl, rfl, h, k, n, h0, hij, hj, hz, wr_of h q⟩
end
/-! ### insert -/
def rInsert : V → List V → Hp → VK → Prop := fun x vs H Q => ∃ (l : Addr) (xs : List V) (i : Int) (y : V), x = .ref l ∧ vs = [.int i, y] ∧ H l = some (.lst xs) ∧ xs.length < sizeLine ∧ 0 ≤ i ∧ i < 2 ^ 63 ∧ Q .non (upd H l (.lst (xs.take i.toNat ++ [y] ++ xs.drop i.toNat)))
theorem mt_insertP {X : Cx} : MtR X "list.insert" rInsert := mt_insert
theorem go_insert {H : Hp} {Q : VK} {l : Addr} {xs : List V} {i : Int} {y : V} (h : H l = some (.lst xs)) (hz : xs.length < sizeLine) (h0 : 0 ≤ i) (h1 : i < 2 ^ 63) (q : ∀ H1, Wr H l (.lst (xs.take i.toNat ++ [y] ++ xs.drop i.toNat)) H1 → Q .non H1) : rInsert (.ref l) [.int i, y] H Q := ⟨l, xs, i, y, rfl, rfl, h, hz, h0, h1, wr_of h q⟩
/-! ### sorted, of pairs too -/
def rSortedR (K : PySem.W.Frag) : List V → Hp → VK → Prop := fun xs H Q => rSortedQ K xs H Q ∨ L2.rSortedP K xs H Q
theorem call_sortedR {X : Cx} (hc : X.calm = true) : CallR X (.builtin "sorted") (rSortedR X.K) := call_or (call_sortedQ hc) L2.cr_sortedP
theorem go_sortPairs {K : PySem.W.Frag} {H : Hp} {Q : VK} {a : Addr} {xs : List V} (h : H a = some (.lst xs)) (hx : ∀ x ∈ xs, ∃ t i j, x = V.ref t ∧ H t = some (.tup [.int i, .int j])) (q : ∀ ys p H1, ys.Perm xs → New H p (.lst ys) H1 → Q (.ref p) H1) : rSortedR K [.ref a] H Q :=
  .inr ⟨a, xs, rfl, SqL.of h, hx, fun ys p hp hn => q ys p _ hp ⟨hn, rfl⟩⟩
end Bk

/-! our own: a dict's keys walked, sorted, while an exception is in hand -/
namespace Bk
open PySem L2 PyProof.Rows L2H HotX
section
variable {prog : Program} {w : World} {K : Type} [DecidableEq K] {kn : KeyKind prog w K} {A : Around} {E : Value → Shared → Prop} {s : Shared}
theorem keys_end_hot {it d x1 : Addr} {i ep : Nat} {kvs : List (K × Value)} {Q : Option Value → Shared → Prop} (hot : HotAt A x1 s.heap) (hit : s.heap.IsKeyIter it d i kvs.length ep) (hm : s.heap.DictAt kn d kvs ep) (hx : kvs[i]? = none)
    (hQ : ∀ h', (∀ b o, b ≠ it → s.heap.get? b = some o → h'.get? b = some o) → Q none { s with heap := h' }) : wpAny (model prog w) A (pyNext (.ref it)) Q E s := by
  obtain ⟨oi, hoi, ci, di⟩ := id hit
  obtain ⟨om, es, hom, cm, dm, hk, hp, hn⟩ := id hm
  obtain ⟨hh, o1, vs1, h1, d1, c1⟩ := hot
  have ne : x1 ≠ it := fun e => by
    rw [e, hoi] at h1; cases h1
    rw [di] at d1; cases d1
    simp at c1
  unfold pyNext
  refine wpAny_bind (wpAny_attempt (wpAny_callSpecial?_slot (name := Str.ofString "__next__") hit.typeIs F.slot_dict_keyiterator_next (wpAny_call_entry F.slot_dict_keyiterator_next hit.typeIs F.entry_dict_keyiterator_next ?_ (F.args_dict_keyiterator_next_1 _))))
  refine wpAny_bind (wpAny_pure (wpAny_bind (wpAny_bind ?_)))
  first | refine wpAny_bind (wpAny_typeNameOfWhole_keyiter hit.typeIs (wpAny_pure (wpAny_bind (wpAny_fieldsOf hoi di ?_)))) | refine wpAny_bind (wpAny_typeNameOf_keyiter hit.typeIs (wpAny_pure (wpAny_bind (wpAny_fieldsOf hoi di ?_))))
  have own0 : Builtin.Dict_items.ownsTuple "dict_keyiterator" = false := by decide
  simp only [own0, Bool.false_eq_true, if_false]
  show wpAny _ _ (if (Value.ref d == Value.none) = true then _ else _) _ _ s
  rw [if_neg (show ¬ ((Value.ref d == Value.none) = true) from Bool.false_ne_true)]
  refine wpAny_bind (wpAny_pure (wpAny_bind (wpAny_dictEntries hom dm ?_)))
  have sz : es.size = kvs.length := by rw [← hp.length]; simp
  rw [if_neg (by rw [sz]; simp)]
  refine wpAny_bind (wpAny_pure (wpAny_bind (wpAny_dictEpoch hom dm ?_)))
  rw [if_neg (by simp)]
  refine wpAny_pure ?_
  have ge : es.size ≤ i := by rw [sz]; simpa using hx
  simp only [show ¬ ((i : Int) < 0) from by omega, if_false, Int.toNat_natCast, Array.getElem?_eq_none ge]
  refine wpAny_bind ?_
  first | refine wpAny_bind (wpAny_typeNameOfWhole_keyiter hit.typeIs (wpAny_pure ?_)) | refine wpAny_bind (wpAny_typeNameOf_keyiter hit.typeIs (wpAny_pure ?_))
  show wpAny _ _ (setField (.ref it) 0 .none >>= _) _ _ s
  refine wpAny_bind (wpAny_setField hoi di (by simp) ?_)
  show wpAny _ _ (newExc (.type "StopIteration") [] >>= _) _ _ _
  refine wpAny_bind ?_
  simp only [newExc, newTuple]
  refine wpAny_bind (wpAny_newObj_type ?_ (by size_fits))
  refine wpAny_bind (m := firstArgMember _ _) (wpAny_of_eq (a := Value.none) (by first | rfl | (simp only [firstArgMember]; rfl)) ?_)
  refine wpAny_newObj_type ?_ (by size_fits)
  have keep : ∀ b o', b ≠ it → s.heap.get? b = some o' → ((s.heap.update it (Obj.mapFields (·.setIfInBounds 0 Value.none))).get? b) = some o' := fun b o' hb e => (Heap.get?_update_other _ _ (Ne.symm hb)).trans e
  refine raiseNew_hot ⟨hh, o1, vs1, Heap.get?_push_of_some _ (Heap.get?_push_of_some _ (keep x1 o1 ne h1)), d1, c1⟩ (Nat.ne_of_lt (Heap.lt_size (Heap.get?_push_of_some _ (keep x1 o1 ne h1)))) (Heap.get?_push_size _ rfl) rfl (by first | (simp; done) | (simp; omega) | (simp only [Array.size_append]; simp; omega)) ?_
  refine wpAny_bind (wpAny_isInstance (T := "StopIteration") (b := true) ⟨_, Heap.get?_update_self _ (Heap.get?_push_size _ rfl) rfl, rfl⟩ isSubtype_stop ?_)
  refine wpAny_pure (hQ _ fun b o' hb e => ?_)
  have e2 := keep b o' hb e
  rw [Heap.get?_update_other _ _ (Nat.ne_of_gt (Heap.lt_size (Heap.get?_push_of_some _ e2)))]
  exact Heap.get?_push_of_some _ (Heap.get?_push_of_some _ e2)
theorem walksKeysHot {I d x1 : Addr} (hne : d ≠ I) (hx1 : x1 ≠ I) (kvs : List (K × Value)) (ep : Nat) :
    Walks prog w A I [I, d, x1] [I] kvs.length (fun i v => ∃ k x, kvs[i]? = some (k, x) ∧ kn.is k v = true) (fun i h => (h.IsKeyIter I d i kvs.length ep ∧ h.DictAt kn d kvs ep) ∧ HotAt A x1 h) where
  sub := fun b hb => by simp at hb; simp [hb]
  frame := fun _ _ _ st hk => ⟨⟨st.1.1.at fun o e => hk I (by simp) o e, st.1.2.at' fun o e => hk d (by simp) o e⟩, let ⟨a, o, vs, b, c, e⟩ := st.2; ⟨a, o, vs, hk x1 (by simp) o b, c, e⟩⟩
  item := fun i s Q E hi st hQ => by
    obtain ⟨⟨k, x⟩, hx⟩ : ∃ p, kvs[i]? = some p := ⟨kvs[i], by simp [hi]⟩
    refine wpAny_pyNext_dict_item st.1.1 st.1.2 hx fun key h' hkey hit' hs' => ?_
    exact hQ key h' s.toks ⟨k, x, hx, hkey⟩ ⟨⟨hit', st.1.2.extBut hs'.extBut hne⟩, let ⟨a, o, vs, b, c, e⟩ := st.2; ⟨a, o, vs, hs'.extBut x1 o hx1 b, c, e⟩⟩ fun b o hb e => hs'.extBut b o (fun h => hb (by simp [h])) e
  done := fun s Q E st hQ => keys_end_hot st.2 st.1.1 st.1.2 (by simp) fun h' he' => hQ h' s.toks fun b o hb e => he' b o (fun h => hb (by simp [h])) e
  self := fun _ _ _ _ st hQ => wpAny_pyIter_keyiter st.1.1 hQ
theorem extendHot {R : Result → Shared → Prop} {d x1 S : Addr} {kvs : List (K × Value)} {ep : Nat} (lo : (d == sysModules) = false) (hot : HotAt A x1 s.heap) (hm : s.heap.DictAt kn d kvs ep) (hSd : S ≠ d) (hSx : S ≠ x1) (res : Value) (c0 : Nat) (hS : s.heap.get? S = some { cls := .type "list", data := .seq #[] c0 })
    (hR : ∀ h' tk acc' c', (∀ b o, b ≠ S → s.heap.get? b = some o → h'.get? b = some o) → h'.get? S = some { cls := .type "list", dict := none, data := .seq acc' c', slots := #[] } → ItemsOf (fun i v => ∃ k x, kvs[i]? = some (k, x) ∧ kn.is k v = true) acc' kvs.length → R (.ok (.ret res)) { s with heap := h', toks := tk }) (hn : kvs.length ≤ sizeLine) :
    wpAny (model prog w) A.in1 (Builtin.List.listExtendWith (.ref S) (.ref d) res)
      (fun fin s' => match fin with | .done f => R (.ok f) s' | .again c' => c'.quiet = true ∧ codeAny (model prog w) A c' R s') (fun e s' => R (.error e) s') s := by
  have hxlt : x1 < s.heap.objs.size := let ⟨_, o, vs, b, c, e⟩ := hot; Heap.lt_size b
  have Wk := walksKeysHot (prog := prog) (w := w) (kn := kn) (A := A.in1) (I := s.heap.objs.size) (d := d) (x1 := x1) (Nat.ne_of_lt hm.lt_size) (Nat.ne_of_lt hxlt) kvs ep
  have hSI : S ≠ s.heap.objs.size := Nat.ne_of_lt (Heap.lt_size hS)
  have hSf : S ∉ [s.heap.objs.size, d, x1] := by simp only [List.mem_cons, List.not_mem_nil, or_false, not_or]; exact ⟨hSI, hSd, hSx⟩
  have go : ∀ (h : Heap) (c₁ tk : Nat), ((h.IsKeyIter s.heap.objs.size d 0 kvs.length ep ∧ h.DictAt kn d kvs ep) ∧ HotAt A.in1 x1 h) → (∀ b o, b ≠ S → s.heap.get? b = some o → h.get? b = some o) →
      h.get? S = some { cls := .type "list", data := .seq #[] c₁ } → codeAny (model prog w) A (.builtin "list.extend.loop" ⟨[.ref S, .ref s.heap.objs.size, res], []⟩) R { s with heap := h, toks := tk } := fun h c₁ tk hst hk hS₁ => by
    refine codeAny_extend_loopS Wk.toS hn S hSf res kvs.length 0 _ #[] c₁ rfl (Nat.zero_le _) hst hS₁ (ItemsOf.nil _) fun s' acc' c' mv hS' hacc => ?_
    rw [Moved.eq_with mv]
    refine hR s'.heap s'.toks acc' c' (fun b o hb e => mv.heap b o (fun hmem => ?_) (hk b o hb e)) hS' hacc
    rcases List.mem_cons.mp hmem with e' | hmem
    · exact hb e'
    · exact absurd (Heap.lt_size e) (by rw [List.mem_singleton.mp hmem]; exact Nat.lt_irrefl _)
  unfold Builtin.List.listExtendWith
  refine wpAny_bind (wpAny_typeOf (T := "dict") hm.dictOf.typeIs ?_)
  have r0 : Builtin.List.listSameRef (.ref S) (.ref d) = false := by simp [Builtin.List.listSameRef, hSd]
  have nl : (Value.type "dict" == Value.type "list") = false := by decide
  have nt : (Value.type "dict" == Value.type "tuple") = false := by decide
  simp only [r0, nl, nt, Bool.or_false, Bool.false_eq_true, if_false]
  refine wpAny_bind (wpAny_pyIter_dict lo hm ?_)
  generalize hoI : Obj.mk (Value.type "dict_keyiterator") none _ #[] = oI
  have hS₁ := Heap.get?_push_of_some oI hS
  have st0 : ((s.heap.push oI).IsKeyIter s.heap.objs.size d 0 kvs.length ep ∧ (s.heap.push oI).DictAt kn d kvs ep) ∧ HotAt A.in1 x1 (s.heap.push oI) :=
    ⟨⟨⟨_, Heap.get?_push_size _ (by rw [← hoI]; rfl), by rw [← hoI], by rw [← hoI]; rfl⟩, hm.push _⟩, let ⟨a, o, vs, b, c, e⟩ := hot; ⟨a, o, vs, Heap.get?_push_of_some _ b, c, e⟩⟩
  refine wpAny_bind (wpAny_holding (PySem.W.kdl_hint_dict st0.1.2.dictOf.typeIs ?_))
  refine wpAny_ite_split (fun _ => ?_) (fun _ => wpAny_pure ⟨plainId_quiet PySem.F.plain_extend_loop _, go _ c0 _ st0 (fun b o _ e => Heap.get?_push_of_some _ e) hS₁⟩)
  refine wpAny_bind (wpAny_rule (wpAny_bind ?_))
  show wpAny _ _ (updateSeq S (·.push .none) >>= fun _ => updateSeq S (·.pop)) _ _ _
  refine wpAny_bind (wpAny_updateSeq hS₁ rfl ?_)
  have hS₂ := Heap.get?_update_self (Obj.mapSeq (·.push Value.none)) hS₁ rfl
  refine wpAny_updateSeq (hz := by seq_fits) hS₂ rfl ?_
  have hS₃ := Heap.get?_update_self (Obj.mapSeq (·.pop)) hS₂ rfl
  have ot : ∀ b o, b ≠ S → (s.heap.push oI).get? b = some o → (((s.heap.push oI).update S (Obj.mapSeq (·.push Value.none))).update S (Obj.mapSeq (·.pop))).get? b = some o := fun b o hb e =>
    (Heap.get?_update_other _ _ (Ne.symm hb)).trans ((Heap.get?_update_other _ _ (Ne.symm hb)).trans e)
  exact wpAny_pure ⟨plainId_quiet PySem.F.plain_extend_loop _, go _ _ _ (Wk.frame 0 _ _ st0 fun b hb o e => ot b o (fun h => hSf (h ▸ hb)) e) (fun b o hb e => ot b o hb (Heap.get?_push_of_some _ e)) hS₃⟩
theorem collectHot {R : List Value → Shared → Prop} {d x1 : Addr} {kvs : List (K × Value)} {ep : Nat} (lo : (d == sysModules) = false) (hot : HotAt A x1 s.heap) (hm : s.heap.DictAt kn d kvs ep) (hn : kvs.length ≤ sizeLine)
    (h : ∀ (h' : Heap) (tk : Nat) (acc : Array Value), (∀ b o, s.heap.get? b = some o → h'.get? b = some o) → ItemsOf (fun i v => ∃ k x, kvs[i]? = some (k, x) ∧ kn.is k v = true) acc kvs.length → R acc.toList { s with heap := h', toks := tk }) :
    wpAny (model prog w) A (collect (.ref d)) R E s := by
  have hxlt : x1 < s.heap.objs.size := let ⟨_, o, vs, b, c, e⟩ := hot; Heap.lt_size b
  unfold collect
  refine wpAny_bind (wpAny_runValue (codeAny_builtin PyProof.Rows.entry_proto_collect' ?_))
  rw [Around.under_plainId PySem.F.plain_proto_collect _]
  show wpAny _ A.in1 (newList [] >>= fun l => again (.builtin "list.__iadd__" ⟨[l, .ref d], []⟩)) _ _ s
  refine wpAny_bind (wpAny_newObj_type (wpAny_pure ⟨plainId_quiet PySem.F.plain_list_iadd _, codeAny_builtin PyProof.Rows.entry_list_iadd' ?_⟩))
  rw [Around.under_plainId PySem.F.plain_list_iadd _]
  have hS₁ : (s.heap.push { cls := .type "list", data := .seq ([] : List Value).toArray }).get? s.heap.objs.size = some { cls := .type "list", data := .seq #[] } := Heap.get?_push_size _ rfl
  show wpAny _ A.in1 (Builtin.List.listExtendWith (.ref s.heap.objs.size) (.ref d) (.ref s.heap.objs.size)) _ _ _
  have main := extendHot (A := A) (kn := kn) (s := { s with heap := s.heap.push { cls := .type "list", data := .seq ([] : List Value).toArray } }) (x1 := x1) (kvs := kvs) (ep := ep)
    (R := fun (q : Result) (s' : Shared) => ∃ (h' : Heap) (tk : Nat) (acc' : Array Value) (c' : Nat), q = .ok (.ret (.ref s.heap.objs.size)) ∧ s' = { s with heap := h', toks := tk } ∧
      (∀ b o, s.heap.get? b = some o → h'.get? b = some o) ∧ h'.get? s.heap.objs.size = some { cls := .type "list", dict := none, data := .seq acc' c', slots := #[] } ∧ ItemsOf (fun i v => ∃ k x, kvs[i]? = some (k, x) ∧ kn.is k v = true) acc' kvs.length)
    lo (let ⟨a, o, vs, b, c, e⟩ := hot; ⟨a, o, vs, Heap.get?_push_of_some _ b, c, e⟩) (hm.push _) (Nat.ne_of_gt hm.lt_size) (Nat.ne_of_gt hxlt) (.ref s.heap.objs.size) 0 hS₁
    (fun h' tk acc' c' hk hS' hacc => ⟨h', tk, acc', c', rfl, rfl, fun b o e => hk b o (Nat.ne_of_lt (Heap.lt_size e)) (Heap.get?_push_of_some _ e), hS', hacc⟩) hn
  refine wpAny_mono main (fun fin s' x => ?_) fun e s' x => ?_
  · rcases fin with f | c₁
    · obtain ⟨h', tk, acc', c', e, rfl, hk, hS', hacc⟩ := x
      cases e
      show wpAny _ A (load s.heap.objs.size >>= _) _ _ _
      exact wpAny_bind (wpAny_load hS' (wpAny_pure (h h' tk acc' hk hacc)))
    · refine ⟨x.1, codeAny_mono x.2 fun q s₂ ⟨h', tk, acc', c', e1, e2, hk, hS', hacc⟩ => ?_⟩
      subst e1 e2
      show wpAny _ A (load s.heap.objs.size >>= _) _ _ _
      exact wpAny_bind (wpAny_load hS' (wpAny_pure (h h' tk acc' hk hacc)))
  · obtain ⟨_, _, _, _, e', _⟩ := x
    cases e'
end
/-- sorted(d), d's keys whole numbers, calm or hot -/
theorem call_sortedDH {X : Cx} (hc : HotY X) : CallR X (.builtin "sorted") rSortDI := by
  intro pins s σ H xs us Q I r q
  obtain ⟨a, kvs, ks, rfl, hd, hks, h64, q⟩ := q
  obtain ⟨u, rfl, rx⟩ := vals1 r
  cases rx
  obtain ⟨z, lo, vs, rel, dd⟩ := dk_rd I.hok hd
  obtain ⟨ep, hat⟩ := dd.dictAt
  have hkeys : vs.map (·.1) = ks.map Sum.inl := rel.keys.symm.trans hks
  have hl : vs.length = ks.length := by
    have e := congrArg List.length hkeys
    simpa only [List.length_map] using e
  have h16 : vs.length ≤ sizeLine := by rw [hl, sizeLine_eq]; omega
  obtain ⟨x1, hot⟩ := hc.at I
  refine Calls.call_function_entry PyProof.Rows.kind_sorted PyProof.Rows.plain_sorted PyProof.Rows.entry_sorted (PyProof.Rows.args_sorted1 _) ?_
  unfold Builtin.«sorted»
  refine wpAny_bind (m := checkCount "sorted" 1 1 _) (wpAny_pure (wpAny_bind (collectHot (A := X.A.in1) lo hot hat h16 fun h' tk acc hk hacc => ?_)))
  have hal : acc.toList.length = ks.length := by rw [Array.length_toList, hacc.1, hl]
  have hS : IntsAre acc.toList ks := ints_each hal fun j v e => by
    obtain ⟨k, x, e1, e2⟩ := hacc.2 j v (by rw [← Array.getElem?_toList]; exact e)
    have e3 : (vs.map (·.1))[j]? = some k := by rw [List.getElem?_map, e1]; rfl
    rw [hkeys, List.getElem?_map] at e3
    rcases e4 : ks[j]? with _ | y
    · rw [e4] at e3; cases e3
    · rw [e4] at e3
      obtain rfl : Sum.inl y = k := Option.some.inj e3
      rcases keyIs_shape (show keyIs (Sum.inl y) v = true from e2) with ⟨i, t, ek, ev⟩ | ⟨z, t, ek, ev⟩
      · cases ek
        exact ⟨y, t, rfl, ev⟩
      · cases ek
  have I1 : Inv X pins σ H { s with heap := h', toks := tk } := I.kept hk
  refine wpAny_bind (wpAny_newList ?_ (by rw [hal, sizeLine_eq]; omega))
  have hoL : (h'.push (seqObj "list" acc.toList.toArray 0)).get? h'.objs.size = some (seqObj "list" acc.toList.toArray 0) := Heap.get?_push_size _ rfl
  show wpAny _ _ _ _ _ { s with heap := h'.push (seqObj "list" acc.toList.toArray 0), toks := tk }
  refine wpAny_bind (wpAny_holding (wpAny_call_entry PyProof.Rows.slot_list_sort ⟨_, hoL, rfl⟩ PyProof.Rows.entry_list_sort
    (PyProof.Rows.list_sort_tree (s := { s with heap := h'.push (seqObj "list" acc.toList.toArray 0), toks := tk }) hoL hS (by rw [hal]; exact h64) fun out ys g1 g2 g3 => ⟨_, rfl, ?_⟩) (PyProof.Rows.args_list_sort _)))
  obtain ⟨e', he'⟩ := PyProof.Rows.sortedHeap_at (vs := acc.toList) (out := out) hoL
  have hlen : (ys.map V.int).length ≤ sizeLine := by
    rw [List.length_map, g2.length_eq]
    exact Nat.le_trans (Nat.le_of_lt h64) (by decide)
  refine wpAny_pure ⟨_, rfl, .ref h'.objs.size, upd H h'.objs.size (.lst (ys.map V.int)), I1.laid (t' := tk) (fun b u e => ?_) (Nat.le_refl _)
    (show ObjOk X.prog X.w _ _ _ (.lst (ys.map V.int)) from ⟨hlen, out.toList, e', vals_of_ints g1, by rw [Array.toArray_toList]; exact he'⟩), rfl, q ys _ g2 g3 (I1.hok.fresh (Nat.le_refl _))⟩
  have hb : b < h'.objs.size := Heap.lt_size e
  rw [PyProof.Rows.sortedHeap_old (Nat.ne_of_lt hb) (by rw [size_push']; exact Nat.lt_succ_of_lt hb)]
  exact Heap.get?_push_of_some _ e
/-- the same, a step -/
theorem go_sortH {H : Hp} {Q : VK} {a : Addr} {kvs : List (Key × V)} {ks : List Int} (h : H a = some (.dK kvs)) (hk : kvs.map (·.1) = ks.map Sum.inl) (hl : ks.length < 64)
    (q : ∀ (ys : List Int) (p : Addr) (H1 : Hp), ys.Perm ks → ys.Pairwise (· ≤ ·) → New H p (.lst (ys.map V.int)) H1 → Q (.ref p) H1) : rSortDI [.ref a] H Q :=
  ⟨a, kvs, ks, rfl, .inl h, hk, hl, fun ys p h1 h2 h3 => q ys p _ h1 h2 ⟨h3, rfl⟩⟩
end Bk

namespace Bk
open PySem L2 PyProof.Rows
def t__wall (K : PySem.W.Frag) (a : Ac) (E : XK) : TS :=
  tWhile (tB (tC (.bl true))) (tNext)
def N__wall : List Str := ["k"]
def sp__wall (K : PySem.W.Frag) (a : Ac) : Sp := fun vs H Q E => vs.length = (["k"] : List Str).length ∧ t__wall K a E ⟨fun _ H' => Q .non H', Q, F0, F0⟩ (start ["k"] vs) H
theorem in__wall {K : PySem.W.Frag} {a : Ac} {x0 : V} {H : Hp} {Q : VK} {E : XK} (q : t__wall K a E ⟨fun _ H' => Q .non H', Q, F0, F0⟩ [some x0] H) : sp__wall K a [x0] H Q E := ⟨rfl, q⟩
def t_is_word (K : PySem.W.Frag) (a : Ac) (E : XK) : TS :=
  tRet (tAndV (tCB ((rIsi K)) (tCons (tVar 0) (tCons (tC (.ty "int")) (tNil)))) (tAndV (tNotV (tCB ((rIsi K)) (tCons (tVar 0) (tCons (tC (.ty "bool")) (tNil))))) (tChain rLeP rLeP (tC (.int 0)) (tVar 0) (tC (.int 999999999)))))
def N_is_word : List Str := ["thing"]
def sp_is_word (K : PySem.W.Frag) (a : Ac) : Sp := fun vs H Q E => vs.length = (["thing"] : List Str).length ∧ t_is_word K a E ⟨fun _ H' => Q .non H', Q, F0, F0⟩ (start ["thing"] vs) H
theorem in_is_word {K : PySem.W.Frag} {a : Ac} {x0 : V} {H : Hp} {Q : VK} {E : XK} (q : t_is_word K a E ⟨fun _ H' => Q .non H', Q, F0, F0⟩ [some x0] H) : sp_is_word K a [x0] H Q E := ⟨rfl, q⟩
def t_empty_row (K : PySem.W.Frag) (a : Ac) (E : XK) : TS :=
  tRet (tOp rMulP (tLst (tCons (tC (.int 0)) (tNil))) (tC (.int 16)))
def N_empty_row : List Str := []
def sp_empty_row (K : PySem.W.Frag) (a : Ac) : Sp := fun vs H Q E => vs.length = ([] : List Str).length ∧ t_empty_row K a E ⟨fun _ H' => Q .non H', Q, F0, F0⟩ (start [] vs) H
theorem in_empty_row {K : PySem.W.Frag} {a : Ac} {H : Hp} {Q : VK} {E : XK} (q : t_empty_row K a E ⟨fun _ H' => Q .non H', Q, F0, F0⟩ [] H) : sp_empty_row K a [] H Q E := ⟨rfl, q⟩
def t_changed (K : PySem.W.Frag) (a : Ac) (E : XK) : TS :=
  tRet (tOp rAddP (tOp rAddP (tSl (rSlP K) (tVar 0) (tNoPart) (tPart (tVar 1))) (tVar 2)) (tSl (rSlP K) (tVar 0) (tPart (tOp rAddP (tVar 1) (tCB (rLenP K) (tCons (tVar 2) (tNil))))) (tNoPart)))
def N_changed : List Str := ["row", "at", "words"]
def sp_changed (K : PySem.W.Frag) (a : Ac) : Sp := fun vs H Q E => vs.length = (["row", "at", "words"] : List Str).length ∧ t_changed K a E ⟨fun _ H' => Q .non H', Q, F0, F0⟩ (start ["row", "at", "words"] vs) H
theorem in_changed {K : PySem.W.Frag} {a : Ac} {x0 x1 x2 : V} {H : Hp} {Q : VK} {E : XK} (q : t_changed K a E ⟨fun _ H' => Q .non H', Q, F0, F0⟩ [some x0, some x1, some x2] H) : sp_changed K a [x0, x1, x2] H Q E := ⟨rfl, q⟩
def t_is_many (K : PySem.W.Frag) (a : Ac) (E : XK) : TS :=
  tRet (tAndV (tCB ((rIsi K)) (tCons (tVar 0) (tCons (tC (.ty "int")) (tNil)))) (tAndV (tNotV (tCB ((rIsi K)) (tCons (tVar 0) (tCons (tC (.ty "bool")) (tNil))))) (tChain rLeP rLeP (tC (.int 24)) (tVar 0) (tC (.int 96)))))
def N_is_many : List Str := ["thing"]
def sp_is_many (K : PySem.W.Frag) (a : Ac) : Sp := fun vs H Q E => vs.length = (["thing"] : List Str).length ∧ t_is_many K a E ⟨fun _ H' => Q .non H', Q, F0, F0⟩ (start ["thing"] vs) H
theorem in_is_many {K : PySem.W.Frag} {a : Ac} {x0 : V} {H : Hp} {Q : VK} {E : XK} (q : t_is_many K a E ⟨fun _ H' => Q .non H', Q, F0, F0⟩ [some x0] H) : sp_is_many K a [x0] H Q E := ⟨rfl, q⟩
def t_Disk_blocks (K : PySem.W.Frag) (a : Ac) (E : XK) : TS :=
  tRet (tCB (rLenP K) (tCons (tFld K (tVar 0) "rows") (tNil)))
def N_Disk_blocks : List Str := ["self"]
def sp_Disk_blocks (K : PySem.W.Frag) (a : Ac) : Sp := fun vs H Q E => vs.length = (["self"] : List Str).length ∧ t_Disk_blocks K a E ⟨fun _ H' => Q .non H', Q, F0, F0⟩ (start ["self"] vs) H
theorem in_Disk_blocks {K : PySem.W.Frag} {a : Ac} {x0 : V} {H : Hp} {Q : VK} {E : XK} (q : t_Disk_blocks K a E ⟨fun _ H' => Q .non H', Q, F0, F0⟩ [some x0] H) : sp_Disk_blocks K a [x0] H Q E := ⟨rfl, q⟩
def t_Disk_need (K : PySem.W.Frag) (a : Ac) (E : XK) : TS :=
  tIfS (tOr (tNot (tB (tCB ((rIsi K)) (tCons (tVar 1) (tCons (tC (.ty "int")) (tNil)))))) (tOr (tB (tCB ((rIsi K)) (tCons (tVar 1) (tCons (tC (.ty "bool")) (tNil))))) (tNot (tTest (tChain rLeP rLtP (tC (.int 0)) (tVar 1) (tCB (rLenP K) (tCons (tFld K (tVar 0) "rows") (tNil)))))))) (tRaiseE a.NoBlock (WM E)) (tNext)
def N_Disk_need : List Str := ["self", "block"]
def sp_Disk_need (K : PySem.W.Frag) (a : Ac) : Sp := fun vs H Q E => vs.length = (["self", "block"] : List Str).length ∧ t_Disk_need K a E ⟨fun _ H' => Q .non H', Q, F0, F0⟩ (start ["self", "block"] vs) H
theorem in_Disk_need {K : PySem.W.Frag} {a : Ac} {x0 x1 : V} {H : Hp} {Q : VK} {E : XK} (q : t_Disk_need K a E ⟨fun _ H' => Q .non H', Q, F0, F0⟩ [some x0, some x1] H) : sp_Disk_need K a [x0, x1] H Q E := ⟨rfl, q⟩
def t_Disk_writes (K : PySem.W.Frag) (a : Ac) (E : XK) : TS :=
  tRet (tFld K (tVar 0) "done")
def N_Disk_writes : List Str := ["self"]
def sp_Disk_writes (K : PySem.W.Frag) (a : Ac) : Sp := fun vs H Q E => vs.length = (["self"] : List Str).length ∧ t_Disk_writes K a E ⟨fun _ H' => Q .non H', Q, F0, F0⟩ (start ["self"] vs) H
theorem in_Disk_writes {K : PySem.W.Frag} {a : Ac} {x0 : V} {H : Hp} {Q : VK} {E : XK} (q : t_Disk_writes K a E ⟨fun _ H' => Q .non H', Q, F0, F0⟩ [some x0] H) : sp_Disk_writes K a [x0] H Q E := ⟨rfl, q⟩
def th_Disk_writes (K : PySem.W.Frag) (a : Ac) (e D : Addr) (E : XK) : TS :=
  tRet (tFld K (tVar 0) "done")
def Nh_Disk_writes : List Str := ["self"]
def sph_Disk_writes (K : PySem.W.Frag) (a : Ac) (e D : Addr) : Sp := fun vs H Q E => vs.length = (["self"] : List Str).length ∧ th_Disk_writes K a e D E ⟨fun _ H' => Q .non H', Q, F0, F0⟩ (start ["self"] vs) H
theorem inh_Disk_writes {K : PySem.W.Frag} {a : Ac} {x0 : V} {e D : Addr} {H : Hp} {Q : VK} {E : XK} (q : th_Disk_writes K a e D E ⟨fun _ H' => Q .non H', Q, F0, F0⟩ [some x0] H) : sph_Disk_writes K a e D [x0] H Q E := ⟨rfl, q⟩
def t_Batch_init (K : PySem.W.Frag) (a : Ac) (E : XK) : TS :=
  tSeq (sFld K (tVar 0) (tVar 1) "disk") (sFld K (tVar 0) (tDNewK) "rows")
def N_Batch_init : List Str := ["self", "disk"]
def sp_Batch_init (K : PySem.W.Frag) (a : Ac) : Sp := fun vs H Q E => vs.length = (["self", "disk"] : List Str).length ∧ t_Batch_init K a E ⟨fun _ H' => Q .non H', Q, F0, F0⟩ (start ["self", "disk"] vs) H
theorem in_Batch_init {K : PySem.W.Frag} {a : Ac} {x0 x1 : V} {H : Hp} {Q : VK} {E : XK} (q : t_Batch_init K a E ⟨fun _ H' => Q .non H', Q, F0, F0⟩ [some x0, some x1] H) : sp_Batch_init K a [x0, x1] H Q E := ⟨rfl, q⟩
def t_Batch_pairs (K : PySem.W.Frag) (a : Ac) (E : XK) : TS :=
  tRet (tLc (iSeqP K (tCB (rSortedQ K) (tCons (tFld K (tVar 0) "rows") (tNil)))) (gName 1) (tYes) (tTup (tCons (tVar 1) (tCons (tCB ((rListP K)) (tCons (tDGet (tFld K (tVar 0) "rows") (tVar 1)) (tNil))) (tNil)))) [1])
def N_Batch_pairs : List Str := ["self", "block"]
def sp_Batch_pairs (K : PySem.W.Frag) (a : Ac) : Sp := fun vs H Q E => vs.length = (["self"] : List Str).length ∧ t_Batch_pairs K a E ⟨fun _ H' => Q .non H', Q, F0, F0⟩ (start ["self", "block"] vs) H
theorem in_Batch_pairs {K : PySem.W.Frag} {a : Ac} {x0 : V} {H : Hp} {Q : VK} {E : XK} (q : t_Batch_pairs K a E ⟨fun _ H' => Q .non H', Q, F0, F0⟩ [some x0, none] H) : sp_Batch_pairs K a [x0] H Q E := ⟨rfl, q⟩
def th_Batch_pairs (K : PySem.W.Frag) (a : Ac) (e D : Addr) (E : XK) : TS :=
  tRet (tLc (iListY K (tCB rSortDI (tCons (tFld K (tVar 0) "rows") (tNil)))) (gName 1) (tYes) (tTup (tCons (tVar 1) (tCons (tCB ((rListP K)) (tCons (tDGet (tFld K (tVar 0) "rows") (tVar 1)) (tNil))) (tNil)))) [1])
def Nh_Batch_pairs : List Str := ["self", "block"]
def sph_Batch_pairs (K : PySem.W.Frag) (a : Ac) (e D : Addr) : Sp := fun vs H Q E => vs.length = (["self"] : List Str).length ∧ th_Batch_pairs K a e D E ⟨fun _ H' => Q .non H', Q, F0, F0⟩ (start ["self", "block"] vs) H
theorem inh_Batch_pairs {K : PySem.W.Frag} {a : Ac} {x0 : V} {e D : Addr} {H : Hp} {Q : VK} {E : XK} (q : th_Batch_pairs K a e D E ⟨fun _ H' => Q .non H', Q, F0, F0⟩ [some x0, none] H) : sph_Batch_pairs K a e D [x0] H Q E := ⟨rfl, q⟩
def t_L_cell_at (K : PySem.W.Frag) (a : Ac) (E : XK) : TS :=
  tSeq (tIfS (tTest (tOp rLtP (tVar 1) (tCB (rLenP K) (tCons (tVar 0) (tNil))))) (tRet (tOp (rIxP K) (tVar 0) (tVar 1))) (tNext)) (tRet (tC (.int 0)))
def N_L_cell_at : List Str := ["_law_script", "_law_k"]
def sp_L_cell_at (K : PySem.W.Frag) (a : Ac) : Sp := fun vs H Q E => vs.length = (["_law_script", "_law_k"] : List Str).length ∧ t_L_cell_at K a E ⟨fun _ H' => Q .non H', Q, F0, F0⟩ (start ["_law_script", "_law_k"] vs) H
theorem in_L_cell_at {K : PySem.W.Frag} {a : Ac} {x0 x1 : V} {H : Hp} {Q : VK} {E : XK} (q : t_L_cell_at K a E ⟨fun _ H' => Q .non H', Q, F0, F0⟩ [some x0, some x1] H) : sp_L_cell_at K a [x0, x1] H Q E := ⟨rfl, q⟩
def t_L_row (K : PySem.W.Frag) (a : Ac) (E : XK) : TS :=
  tSeq (tIfS (tTest (tOp (rEqP K) (tOp rModP (tVar 0) (tC (.int 5))) (tC (.int 0)))) (tRet (tOp rMulP (tLst (tCons (tOp rMulP (tOp rModP (tOp rDivP (tVar 0) (tC (.int 5))) (tC (.int 2))) (tC (.int 999999999))) (tNil))) (tC (.int 16)))) (tNext)) (tSeq (tAsg (tOp rModP (tOp rDivP (tVar 0) (tC (.int 5))) (tOp rPowP (tC (.int 10)) (tC (.int 9)))) (gName 1)) (tRet (tLc (iRng1 (tCons (tC (.int 16)) (tNil))) (gName 2) (tYes) (tOp rModP (tOp rAddP (tOp rAddP (tVar 1) (tOp rMulP (tOp rModP (tOp rDivP (tVar 0) (tC (.int 35))) (tC (.int 1009))) (tVar 2))) (tOp rMulP (tOp rMulP (tC (.int 7919)) (tVar 2)) (tVar 2))) (tOp rPowP (tC (.int 10)) (tC (.int 9)))) [2])))
def N_L_row : List Str := ["_law_cell", "_law_first", "_law_k"]
def sp_L_row (K : PySem.W.Frag) (a : Ac) : Sp := fun vs H Q E => vs.length = (["_law_cell"] : List Str).length ∧ t_L_row K a E ⟨fun _ H' => Q .non H', Q, F0, F0⟩ (start ["_law_cell", "_law_first", "_law_k"] vs) H
theorem in_L_row {K : PySem.W.Frag} {a : Ac} {x0 : V} {H : Hp} {Q : VK} {E : XK} (q : t_L_row K a E ⟨fun _ H' => Q .non H', Q, F0, F0⟩ [some x0, none, none] H) : sp_L_row K a [x0] H Q E := ⟨rfl, q⟩
def t_L_odd_block (K : PySem.W.Frag) (a : Ac) (E : XK) : TS :=
  tSeq (tAsg (tOp rModP (tOp rDivP (tVar 0) (tC (.int 9))) (tOp rPowP (tC (.int 10)) (tC (.int 20)))) (gName 2)) (tRet (tOp (rIxP K) (tLst (tCons (tUn (rU fun i => .int (-i)) (tC (.int 1))) (tCons (tC (.int 0)) (tCons (tC (.int 16)) (tCons (tVar 1) (tCons (tOp rAddP (tVar 1) (tVar 2)) (tCons (tOp rSubP (tUn (rU fun i => .int (-i)) (tC (.int 1))) (tVar 2)) (tCons (tC (.bl true)) (tCons (tC .non) (tCons (tLst (tCons (tC (.int 17)) (tNil))) (tNil))))))))))) (tOp rModP (tVar 0) (tC (.int 9)))))
def N_L_odd_block : List Str := ["_law_cell", "_law_many", "_law_far"]
def sp_L_odd_block (K : PySem.W.Frag) (a : Ac) : Sp := fun vs H Q E => vs.length = (["_law_cell", "_law_many"] : List Str).length ∧ t_L_odd_block K a E ⟨fun _ H' => Q .non H', Q, F0, F0⟩ (start ["_law_cell", "_law_many", "_law_far"] vs) H
theorem in_L_odd_block {K : PySem.W.Frag} {a : Ac} {x0 x1 : V} {H : Hp} {Q : VK} {E : XK} (q : t_L_odd_block K a E ⟨fun _ H' => Q .non H', Q, F0, F0⟩ [some x0, some x1, none] H) : sp_L_odd_block K a [x0, x1] H Q E := ⟨rfl, q⟩
def th_L_kinds (K : PySem.W.Frag) (a : Ac) (e D : Addr) (E : XK) : TS :=
  tSeq (tAsg (tLst (tCons (tCB (rIsiH K D e) (tCons (tVar 0) (tCons (tC (.ref a.NoBlock)) (tNil)))) (tCons (tCB (rIsiH K D e) (tCons (tVar 0) (tCons (tC (.ref a.BadRow)) (tNil)))) (tCons (tCB (rIsiH K D e) (tCons (tVar 0) (tCons (tC (.ref a.TooMuch)) (tNil)))) (tCons (tCB (rIsiH K D e) (tCons (tVar 0) (tCons (tC (.ref a.Stopped)) (tNil)))) (tNil)))))) (gName 1)) (tSeq (tIfS (tOr (tNot (tB (tCB (rIsiH K D e) (tCons (tVar 0) (tCons (tC (.ty "ValueError")) (tNil)))))) (tB (tCB (rIsiH K D e) (tCons (tVar 0) (tCons (tC (.ref a.BadLog)) (tNil)))))) (tRet (tC (.str "else"))) (tNext)) (tRet (tBM K "str" (rJoinP K) (tC (.str " ")) (tCons (tLc (iRng1 (tCons (tC (.int 4)) (tNil))) (gName 2) (tB (tOp (rIxP K) (tVar 1) (tVar 2))) (tOp (rIxP K) (tLst (tCons (tC (.str "block")) (tCons (tC (.str "row")) (tCons (tC (.str "much")) (tCons (tC (.str "stopped")) (tNil)))))) (tVar 2)) [2]) (tNil)))))
def Nh_L_kinds : List Str := ["_law_e", "_law_some", "_law_k"]
def sph_L_kinds (K : PySem.W.Frag) (a : Ac) (e D : Addr) : Sp := fun vs H Q E => vs.length = (["_law_e"] : List Str).length ∧ th_L_kinds K a e D E ⟨fun _ H' => Q .non H', Q, F0, F0⟩ (start ["_law_e", "_law_some", "_law_k"] vs) H
theorem inh_L_kinds {K : PySem.W.Frag} {a : Ac} {x0 : V} {e D : Addr} {H : Hp} {Q : VK} {E : XK} (q : th_L_kinds K a e D E ⟨fun _ H' => Q .non H', Q, F0, F0⟩ [some x0, none, none] H) : sph_L_kinds K a e D [x0] H Q E := ⟨rfl, q⟩
def t_is_row (K : PySem.W.Frag) (a : Ac) (E : XK) : TS :=
  tRet (tAndV (tCB ((rIsi K)) (tCons (tVar 0) (tCons (tC (.ty "list")) (tNil)))) (tAndV (tOp (rEqP K) (tCB (rLenP K) (tCons (tVar 0) (tNil))) (tC (.int 16))) (tCB ((rAll K)) (tCons (tLc (iSeqP K (tVar 0)) (gName 1) (tYes) (tCallS (sp_is_word K a) (WE W0) (tCons (tVar 1) (tNil))) [1]) (tNil)))))
def N_is_row : List Str := ["thing", "word"]
def sp_is_row (K : PySem.W.Frag) (a : Ac) : Sp := fun vs H Q E => vs.length = (["thing"] : List Str).length ∧ t_is_row K a E ⟨fun _ H' => Q .non H', Q, F0, F0⟩ (start ["thing", "word"] vs) H
theorem in_is_row {K : PySem.W.Frag} {a : Ac} {x0 : V} {H : Hp} {Q : VK} {E : XK} (q : t_is_row K a E ⟨fun _ H' => Q .non H', Q, F0, F0⟩ [some x0, none] H) : sp_is_row K a [x0] H Q E := ⟨rfl, q⟩
def t_Disk_init (K : PySem.W.Frag) (a : Ac) (E : XK) : TS :=
  tSeq (tIfS (tNot (tB (tCallS (sp_is_many K a) (WE (WM E)) (tCons (tVar 1) (tNil))))) (tRaiseE a.BadDisk (WM E)) (tNext)) (tSeq (sFld K (tVar 0) (tLc (iRng1 (tCons (tVar 1) (tNil))) (gName 2) (tYes) (tCall0 (sp_empty_row K a) (WE W0)) [2]) "rows") (tSeq (sFld K (tVar 0) (tC (.int 0)) "done") (sFld K (tVar 0) (tC .non) "left")))
def N_Disk_init : List Str := ["self", "many", "k"]
def sp_Disk_init (K : PySem.W.Frag) (a : Ac) : Sp := fun vs H Q E => vs.length = (["self", "many"] : List Str).length ∧ t_Disk_init K a E ⟨fun _ H' => Q .non H', Q, F0, F0⟩ (start ["self", "many", "k"] vs) H
theorem in_Disk_init {K : PySem.W.Frag} {a : Ac} {x0 x1 : V} {H : Hp} {Q : VK} {E : XK} (q : t_Disk_init K a E ⟨fun _ H' => Q .non H', Q, F0, F0⟩ [some x0, some x1, none] H) : sp_Disk_init K a [x0, x1] H Q E := ⟨rfl, q⟩
def t_Disk_read (K : PySem.W.Frag) (a : Ac) (E : XK) : TS :=
  tSeq (tDrop (tMethP "need" [(a.Disk, sp_Disk_need K a)] (WE (WM E)) (tVar 0) (tCons (tVar 1) (tNil)))) (tRet (tCB ((rListP K)) (tCons (tOp (rIxP K) (tFld K (tVar 0) "rows") (tVar 1)) (tNil))))
def N_Disk_read : List Str := ["self", "block"]
def sp_Disk_read (K : PySem.W.Frag) (a : Ac) : Sp := fun vs H Q E => vs.length = (["self", "block"] : List Str).length ∧ t_Disk_read K a E ⟨fun _ H' => Q .non H', Q, F0, F0⟩ (start ["self", "block"] vs) H
theorem in_Disk_read {K : PySem.W.Frag} {a : Ac} {x0 x1 : V} {H : Hp} {Q : VK} {E : XK} (q : t_Disk_read K a E ⟨fun _ H' => Q .non H', Q, F0, F0⟩ [some x0, some x1] H) : sp_Disk_read K a [x0, x1] H Q E := ⟨rfl, q⟩
def t_Disk_stop_after (K : PySem.W.Frag) (a : Ac) (E : XK) : TS :=
  tDrop (tCallS (sp__wall K a) (WE (WM E)) (tCons (tC (.int 0)) (tNil)))
def N_Disk_stop_after : List Str := ["self", "count"]
def sp_Disk_stop_after (K : PySem.W.Frag) (a : Ac) : Sp := fun vs H Q E => vs.length = (["self", "count"] : List Str).length ∧ t_Disk_stop_after K a E ⟨fun _ H' => Q .non H', Q, F0, F0⟩ (start ["self", "count"] vs) H
theorem in_Disk_stop_after {K : PySem.W.Frag} {a : Ac} {x0 x1 : V} {H : Hp} {Q : VK} {E : XK} (q : t_Disk_stop_after K a E ⟨fun _ H' => Q .non H', Q, F0, F0⟩ [some x0, some x1] H) : sp_Disk_stop_after K a [x0, x1] H Q E := ⟨rfl, q⟩
def t_Disk_go_on (K : PySem.W.Frag) (a : Ac) (E : XK) : TS :=
  tDrop (tCallS (sp__wall K a) (WE (WM E)) (tCons (tC (.int 1)) (tNil)))
def N_Disk_go_on : List Str := ["self"]
def sp_Disk_go_on (K : PySem.W.Frag) (a : Ac) : Sp := fun vs H Q E => vs.length = (["self"] : List Str).length ∧ t_Disk_go_on K a E ⟨fun _ H' => Q .non H', Q, F0, F0⟩ (start ["self"] vs) H
theorem in_Disk_go_on {K : PySem.W.Frag} {a : Ac} {x0 : V} {H : Hp} {Q : VK} {E : XK} (q : t_Disk_go_on K a E ⟨fun _ H' => Q .non H', Q, F0, F0⟩ [some x0] H) : sp_Disk_go_on K a [x0] H Q E := ⟨rfl, q⟩
def t_Disk_twin (K : PySem.W.Frag) (a : Ac) (E : XK) : TS :=
  tDrop (tCallS (sp__wall K a) (WE (WM E)) (tCons (tC (.int 2)) (tNil)))
def N_Disk_twin : List Str := ["self"]
def sp_Disk_twin (K : PySem.W.Frag) (a : Ac) : Sp := fun vs H Q E => vs.length = (["self"] : List Str).length ∧ t_Disk_twin K a E ⟨fun _ H' => Q .non H', Q, F0, F0⟩ (start ["self"] vs) H
theorem in_Disk_twin {K : PySem.W.Frag} {a : Ac} {x0 : V} {H : Hp} {Q : VK} {E : XK} (q : t_Disk_twin K a E ⟨fun _ H' => Q .non H', Q, F0, F0⟩ [some x0] H) : sp_Disk_twin K a [x0] H Q E := ⟨rfl, q⟩
def t_is_home (K : PySem.W.Frag) (a : Ac) (E : XK) : TS :=
  tRet (tAndV (tCB ((rIsi K)) (tCons (tVar 1) (tCons (tC (.ty "int")) (tNil)))) (tAndV (tNotV (tCB ((rIsi K)) (tCons (tVar 1) (tCons (tC (.ty "bool")) (tNil))))) (tChain rLeP rLtP (tC (.int 17)) (tVar 1) (tMethP "blocks" [(a.Disk, sp_Disk_blocks K a)] (WE (WM E)) (tVar 0) tNil))))
def N_is_home : List Str := ["disk", "block"]
def sp_is_home (K : PySem.W.Frag) (a : Ac) : Sp := fun vs H Q E => vs.length = (["disk", "block"] : List Str).length ∧ t_is_home K a E ⟨fun _ H' => Q .non H', Q, F0, F0⟩ (start ["disk", "block"] vs) H
theorem in_is_home {K : PySem.W.Frag} {a : Ac} {x0 x1 : V} {H : Hp} {Q : VK} {E : XK} (q : t_is_home K a E ⟨fun _ H' => Q .non H', Q, F0, F0⟩ [some x0, some x1] H) : sp_is_home K a [x0, x1] H Q E := ⟨rfl, q⟩
def t_L_odd_row (K : PySem.W.Frag) (a : Ac) (E : XK) : TS :=
  tSeq (tAsg (tCallS (sp_L_row K a) (WE (WM E)) (tCons (tOp rDivP (tVar 0) (tC (.int 9))) (tNil))) (gName 1)) (tSeq (tAsg (tOp rModP (tOp rDivP (tVar 0) (tC (.int 9))) (tC (.int 16))) (gName 2)) (tSeq (tAsg (tOp (rIxP K) (tLst (tCons (tUn (rU fun i => .int (-i)) (tC (.int 1))) (tCons (tOp rPowP (tC (.int 10)) (tC (.int 9))) (tCons (tOp rAddP (tOp rPowP (tC (.int 10)) (tC (.int 9))) (tOp rModP (tOp rDivP (tVar 0) (tC (.int 144))) (tOp rPowP (tC (.int 10)) (tC (.int 20))))) (tCons (tC (.bl true)) (tCons (tC .non) (tCons (tC (.str "1")) (tNil)))))))) (tOp rModP (tOp rModP (tVar 0) (tC (.int 9))) (tC (.int 6)))) (gName 3)) (tSeq (tAsg (tLst (tCons (tSl (rSlP K) (tVar 1) (tNoPart) (tPart (tC (.int 15)))) (tCons (tOp rAddP (tVar 1) (tLst (tCons (tC (.int 0)) (tNil)))) (tCons (tCB ((rTupleP K)) (tCons (tVar 1) (tNil))) (tCons (tC .non) (tCons (tC (.int 5)) (tCons (tLst (tNil)) (tCons (tC (.str "row")) (tNil))))))))) (gName 4)) (tSeq (tIfS (tTest (tOp rLtP (tOp rModP (tVar 0) (tC (.int 9))) (tC (.int 6)))) (tRet (tOp rAddP (tOp rAddP (tSl (rSlP K) (tVar 1) (tNoPart) (tPart (tVar 2))) (tLst (tCons (tVar 3) (tNil)))) (tSl (rSlP K) (tVar 1) (tPart (tOp rAddP (tVar 2) (tC (.int 1)))) (tNoPart)))) (tNext)) (tRet (tOp (rIxP K) (tVar 4) (tOp rModP (tOp rDivP (tVar 0) (tC (.int 9))) (tC (.int 7)))))))))
def N_L_odd_row : List Str := ["_law_cell", "_law_row_here", "_law_at", "_law_word", "_law_some"]
def sp_L_odd_row (K : PySem.W.Frag) (a : Ac) : Sp := fun vs H Q E => vs.length = (["_law_cell"] : List Str).length ∧ t_L_odd_row K a E ⟨fun _ H' => Q .non H', Q, F0, F0⟩ (start ["_law_cell", "_law_row_here", "_law_at", "_law_word", "_law_some"] vs) H
theorem in_L_odd_row {K : PySem.W.Frag} {a : Ac} {x0 : V} {H : Hp} {Q : VK} {E : XK} (q : t_L_odd_row K a E ⟨fun _ H' => Q .non H', Q, F0, F0⟩ [some x0, none, none, none, none] H) : sp_L_odd_row K a [x0] H Q E := ⟨rfl, q⟩
def t_need_row (K : PySem.W.Frag) (a : Ac) (E : XK) : TS :=
  tSeq (tIfS (tNot (tB (tCallS (sp_is_row K a) (WE (WM E)) (tCons (tVar 0) (tNil))))) (tRaiseE a.BadRow (WM E)) (tNext)) (tRet (tCB ((rListP K)) (tCons (tVar 0) (tNil))))
def N_need_row : List Str := ["thing"]
def sp_need_row (K : PySem.W.Frag) (a : Ac) : Sp := fun vs H Q E => vs.length = (["thing"] : List Str).length ∧ t_need_row K a E ⟨fun _ H' => Q .non H', Q, F0, F0⟩ (start ["thing"] vs) H
theorem in_need_row {K : PySem.W.Frag} {a : Ac} {x0 : V} {H : Hp} {Q : VK} {E : XK} (q : t_need_row K a E ⟨fun _ H' => Q .non H', Q, F0, F0⟩ [some x0] H) : sp_need_row K a [x0] H Q E := ⟨rfl, q⟩
def t_Batch_read (K : PySem.W.Frag) (a : Ac) (E : XK) : TS :=
  tSeq (tAsg (tMethP "read" [(a.Disk, sp_Disk_read K a)] (WE (WM E)) (tFld K (tVar 0) "disk") (tCons (tVar 1) (tNil))) (gName 2)) (tSeq (tIfS (tB (tDIn (tVar 1) (tFld K (tVar 0) "rows"))) (tAsg (tCB ((rListP K)) (tCons (tDGet (tFld K (tVar 0) "rows") (tVar 1)) (tNil))) (gName 2)) (tNext)) (tRet (tVar 2)))
def N_Batch_read : List Str := ["self", "block", "row"]
def sp_Batch_read (K : PySem.W.Frag) (a : Ac) : Sp := fun vs H Q E => vs.length = (["self", "block"] : List Str).length ∧ t_Batch_read K a E ⟨fun _ H' => Q .non H', Q, F0, F0⟩ (start ["self", "block", "row"] vs) H
theorem in_Batch_read {K : PySem.W.Frag} {a : Ac} {x0 x1 : V} {H : Hp} {Q : VK} {E : XK} (q : t_Batch_read K a E ⟨fun _ H' => Q .non H', Q, F0, F0⟩ [some x0, some x1, none] H) : sp_Batch_read K a [x0, x1] H Q E := ⟨rfl, q⟩
def t_L_rows (K : PySem.W.Frag) (a : Ac) (E : XK) : TS :=
  tRet (tLc (iRng1 (tCons (tMethP "blocks" [(a.Disk, sp_Disk_blocks K a)] (WE (WM E)) (tVar 0) tNil) (tNil))) (gName 1) (tYes) (tCB ((rListP K)) (tCons (tMethP "read" [(a.Disk, sp_Disk_read K a)] (WE W0) (tVar 0) (tCons (tVar 1) (tNil))) (tNil))) [1])
def N_L_rows : List Str := ["_law_disk", "_law_block"]
def sp_L_rows (K : PySem.W.Frag) (a : Ac) : Sp := fun vs H Q E => vs.length = (["_law_disk"] : List Str).length ∧ t_L_rows K a E ⟨fun _ H' => Q .non H', Q, F0, F0⟩ (start ["_law_disk", "_law_block"] vs) H
theorem in_L_rows {K : PySem.W.Frag} {a : Ac} {x0 : V} {H : Hp} {Q : VK} {E : XK} (q : t_L_rows K a E ⟨fun _ H' => Q .non H', Q, F0, F0⟩ [some x0, none] H) : sp_L_rows K a [x0] H Q E := ⟨rfl, q⟩
def t_Disk_write (K : PySem.W.Frag) (a : Ac) (E : XK) : TS :=
  tSeq (tDrop (tMethP "need" [(a.Disk, sp_Disk_need K a)] (WE (WM E)) (tVar 0) (tCons (tVar 1) (tNil)))) (tSeq (tAsg (tCallS (sp_need_row K a) (WE (WM E)) (tCons (tVar 2) (tNil))) (gName 3)) (tSeq (tIfS (tTest (tOp (rEqP K) (tFld K (tVar 0) "left") (tC (.int 0)))) (tRaiseE a.Stopped (WM E)) (tNext)) (tSeq (tIfS (tTest (tOp rIsNotP (tFld K (tVar 0) "left") (tC .non))) (sFld K (tVar 0) (tOp rSubP (tFld K (tVar 0) "left") (tC (.int 1))) "left") (tNext)) (tSeq (tAsg (tVar 3) (gSub (tFld K (tVar 0) "rows") (tVar 1) rSetL)) (sFld K (tVar 0) (tOp rAddP (tFld K (tVar 0) "done") (tC (.int 1))) "done")))))
def N_Disk_write : List Str := ["self", "block", "row", "kept"]
def sp_Disk_write (K : PySem.W.Frag) (a : Ac) : Sp := fun vs H Q E => vs.length = (["self", "block", "row"] : List Str).length ∧ t_Disk_write K a E ⟨fun _ H' => Q .non H', Q, F0, F0⟩ (start ["self", "block", "row", "kept"] vs) H
theorem in_Disk_write {K : PySem.W.Frag} {a : Ac} {x0 x1 x2 : V} {H : Hp} {Q : VK} {E : XK} (q : t_Disk_write K a E ⟨fun _ H' => Q .non H', Q, F0, F0⟩ [some x0, some x1, some x2, none] H) : sp_Disk_write K a [x0, x1, x2] H Q E := ⟨rfl, q⟩
def t_need_pairs (K : PySem.W.Frag) (a : Ac) (E : XK) : TS :=
  tSeq (tIfS (tTest (tOp rGtP (tCB (rLenP K) (tCons (tVar 1) (tNil))) (tC (.int 15)))) (tRaiseE a.TooMuch (WM E)) (tNext)) (tSeq (tAsg (tLst (tNil)) (gName 2)) (tSeq (tAsg (tC (.int 0)) (gName 3)) (tSeq (tFor (iSeqP K (tVar 1)) (gTupP K 2 (gCons (gName 4) (gCons (gName 5) (gNil)))) (tSeq (tIfS (tOr (tNot (tB (tCallS (sp_is_home K a) (WE (WM E)) (tCons (tVar 0) (tCons (tVar 4) (tNil)))))) (tTest (tOp rLeP (tVar 4) (tVar 3)))) (tRaiseE a.NoBlock (WM E)) (tNext)) (tSeq (tDrop (tBM K "list" rAppend (tVar 2) (tCons (tTup (tCons (tVar 4) (tCons (tCallS (sp_need_row K a) (WE (WM E)) (tCons (tVar 5) (tNil))) (tNil)))) (tNil)))) (tAsg (tVar 4) (gName 3))))) (tRet (tVar 2)))))
def N_need_pairs : List Str := ["disk", "pairs", "found", "last", "block", "row"]
def sp_need_pairs (K : PySem.W.Frag) (a : Ac) : Sp := fun vs H Q E => vs.length = (["disk", "pairs"] : List Str).length ∧ t_need_pairs K a E ⟨fun _ H' => Q .non H', Q, F0, F0⟩ (start ["disk", "pairs", "found", "last", "block", "row"] vs) H
theorem in_need_pairs {K : PySem.W.Frag} {a : Ac} {x0 x1 : V} {H : Hp} {Q : VK} {E : XK} (q : t_need_pairs K a E ⟨fun _ H' => Q .non H', Q, F0, F0⟩ [some x0, some x1, none, none, none, none] H) : sp_need_pairs K a [x0, x1] H Q E := ⟨rfl, q⟩
def t_Batch_write (K : PySem.W.Frag) (a : Ac) (E : XK) : TS :=
  tSeq (tIfS (tNot (tB (tCallS (sp_is_home K a) (WE (WM E)) (tCons (tFld K (tVar 0) "disk") (tCons (tVar 1) (tNil)))))) (tRaiseE a.NoBlock (WM E)) (tNext)) (sDPut (tFld K (tVar 0) "rows") (tVar 1) (tCallS (sp_need_row K a) (WE (WM E)) (tCons (tVar 2) (tNil))))
def N_Batch_write : List Str := ["self", "block", "row"]
def sp_Batch_write (K : PySem.W.Frag) (a : Ac) : Sp := fun vs H Q E => vs.length = (["self", "block", "row"] : List Str).length ∧ t_Batch_write K a E ⟨fun _ H' => Q .non H', Q, F0, F0⟩ (start ["self", "block", "row"] vs) H
theorem in_Batch_write {K : PySem.W.Frag} {a : Ac} {x0 x1 x2 : V} {H : Hp} {Q : VK} {E : XK} (q : t_Batch_write K a E ⟨fun _ H' => Q .non H', Q, F0, F0⟩ [some x0, some x1, some x2] H) : sp_Batch_write K a [x0, x1, x2] H Q E := ⟨rfl, q⟩
def t_L_like (K : PySem.W.Frag) (a : Ac) (E : XK) : TS :=
  tSeq (tAsg (tLc (iSeqP K (tCB (rSortedQ K) (tCons (tVar 2) (tNil)))) (gName 9) (tYes) (tTup (tCons (tVar 9) (tCons (tDGet (tVar 2) (tVar 9)) (tNil)))) [9]) (gName 4)) (tSeq (tAsg (tMethP "pairs" [(a.Batch, sp_Batch_pairs K a)] (WE (WM E)) (tVar 0) tNil) (gName 5)) (tSeq (tIfS (tOr (tNot (tB (tCB ((rIsi K)) (tCons (tVar 5) (tCons (tC (.ty "list")) (tNil)))))) (tTest (tOp (rNeP K) (tVar 5) (tVar 4)))) (tRet (tC (.bl false))) (tNext)) (tSeq (tIfS (tTest (tOp (rNeP K) (tLc (iSeqP K (tVar 5)) (gName 8) (tNot (tB (tCB ((rIsi K)) (tCons (tVar 8) (tCons (tC (.ty "tuple")) (tNil)))))) (tVar 8) [8]) (tLst (tNil)))) (tRet (tC (.bl false))) (tNext)) (tSeq (tAsg (tMethP "read" [(a.Batch, sp_Batch_read K a)] (WE (WM E)) (tVar 0) (tCons (tVar 3) (tNil))) (gName 6)) (tSeq (tIfS (tOr (tNot (tB (tCB ((rIsi K)) (tCons (tVar 6) (tCons (tC (.ty "list")) (tNil)))))) (tTest (tOp (rNeP K) (tVar 6) (tDGet2 (tVar 2) (tVar 3) (tMethP "read" [(a.Disk, sp_Disk_read K a)] (WE (WM E)) (tVar 1) (tCons (tVar 3) (tNil))))))) (tRet (tC (.bl false))) (tNext)) (tSeq (tAsg (tMethP "read" [(a.Batch, sp_Batch_read K a)] (WE (WM E)) (tVar 0) (tCons (tC (.int 17)) (tNil))) (gName 7)) (tSeq (tIfS (tOr (tTest (tOp (rNeP K) (tVar 7) (tDGet2 (tVar 2) (tC (.int 17)) (tMethP "read" [(a.Disk, sp_Disk_read K a)] (WE (WM E)) (tVar 1) (tCons (tC (.int 17)) (tNil)))))) (tTest (tOp (rNeP K) (tVar 6) (tDGet2 (tVar 2) (tVar 3) (tMethP "read" [(a.Disk, sp_Disk_read K a)] (WE (WM E)) (tVar 1) (tCons (tVar 3) (tNil))))))) (tRet (tC (.bl false))) (tNext)) (tSeq (tDrop (tBM0 K "list" rClear (tVar 6))) (tSeq (tFor (iSeqP K (tVar 5)) (gName 8) (tDrop (tBM0 K "list" rClear (tOp (rIxP K) (tVar 8) (tC (.int 1)))))) (tSeq (tDrop (tBM0 K "list" rClear (tVar 5))) (tRet (tAndV (tOp (rEqP K) (tMethP "pairs" [(a.Batch, sp_Batch_pairs K a)] (WE (WM E)) (tVar 0) tNil) (tVar 4)) (tOp (rEqP K) (tMethP "read" [(a.Batch, sp_Batch_read K a)] (WE (WM E)) (tVar 0) (tCons (tVar 3) (tNil))) (tDGet2 (tVar 2) (tVar 3) (tMethP "read" [(a.Disk, sp_Disk_read K a)] (WE (WM E)) (tVar 1) (tCons (tVar 3) (tNil)))))))))))))))))
def N_L_like : List Str := ["_law_batch", "_law_disk", "_law_own", "_law_block", "_law_kept", "_law_found", "_law_row_here", "_law_other", "_law_pair", "_law_one"]
def sp_L_like (K : PySem.W.Frag) (a : Ac) : Sp := fun vs H Q E => vs.length = (["_law_batch", "_law_disk", "_law_own", "_law_block"] : List Str).length ∧ t_L_like K a E ⟨fun _ H' => Q .non H', Q, F0, F0⟩ (start ["_law_batch", "_law_disk", "_law_own", "_law_block", "_law_kept", "_law_found", "_law_row_here", "_law_other", "_law_pair", "_law_one"] vs) H
theorem in_L_like {K : PySem.W.Frag} {a : Ac} {x0 x1 x2 x3 : V} {H : Hp} {Q : VK} {E : XK} (q : t_L_like K a E ⟨fun _ H' => Q .non H', Q, F0, F0⟩ [some x0, some x1, some x2, some x3, none, none, none, none, none, none] H) : sp_L_like K a [x0, x1, x2, x3] H Q E := ⟨rfl, q⟩
def t_L_reads (K : PySem.W.Frag) (a : Ac) (E : XK) : TS :=
  tSeq (tAsg (tOp rModP (tVar 2) (tC (.int 17))) (gName 3)) (tSeq (tIfS (tTest (tOp (rNeP K) (tMethP "read" [(a.Batch, sp_Batch_read K a)] (WE (WM E)) (tVar 0) (tCons (tVar 3) (tNil))) (tMethP "read" [(a.Disk, sp_Disk_read K a)] (WE (WM E)) (tVar 1) (tCons (tVar 3) (tNil))))) (tRet (tC (.bl false))) (tNext)) (tSeq (tAsg (tOp rModP (tOp rDivP (tVar 2) (tC (.int 17))) (tOp rPowP (tC (.int 10)) (tC (.int 20)))) (gName 4)) (tSeq (tAsg (tOp (rIxP K) (tLst (tCons (tUn (rU fun i => .int (-i)) (tC (.int 1))) (tCons (tMethP "blocks" [(a.Disk, sp_Disk_blocks K a)] (WE (WM E)) (tVar 1) tNil) (tCons (tOp rAddP (tMethP "blocks" [(a.Disk, sp_Disk_blocks K a)] (WE (WM E)) (tVar 1) tNil) (tVar 4)) (tCons (tOp rSubP (tUn (rU fun i => .int (-i)) (tC (.int 1))) (tVar 4)) (tCons (tC (.bl true)) (tCons (tC .non) (tCons (tLst (tCons (tC (.int 17)) (tNil))) (tCons (tC (.str "17")) (tNil)))))))))) (tOp rModP (tOp rDivP (tVar 2) (tC (.int 17))) (tC (.int 8)))) (gName 5)) (tSeq (tTryAs K (.ref a.KeepError) 6 (fun W => tDrop (tMethP "read" [(a.Batch, sp_Batch_read K a)] (WE W) (tVar 0) (tCons (tVar 5) (tNil)))) (fun e D => tRet (tOp (rEqP K) (tCallX (sph_L_kinds K a) e D (WE W0) (tCons (tVar 6) (tNil))) (tC (.str "block")))) (WM E)) (tRet (tC (.bl false)))))))
def N_L_reads : List Str := ["_law_batch", "_law_disk", "_law_cell", "_law_block", "_law_far", "_law_odd", "_law_e"]
def sp_L_reads (K : PySem.W.Frag) (a : Ac) : Sp := fun vs H Q E => vs.length = (["_law_batch", "_law_disk", "_law_cell"] : List Str).length ∧ t_L_reads K a E ⟨fun _ H' => Q .non H', Q, F0, F0⟩ (start ["_law_batch", "_law_disk", "_law_cell", "_law_block", "_law_far", "_law_odd", "_law_e"] vs) H
theorem in_L_reads {K : PySem.W.Frag} {a : Ac} {x0 x1 x2 : V} {H : Hp} {Q : VK} {E : XK} (q : t_L_reads K a E ⟨fun _ H' => Q .non H', Q, F0, F0⟩ [some x0, some x1, some x2, none, none, none, none] H) : sp_L_reads K a [x0, x1, x2] H Q E := ⟨rfl, q⟩
def t_carry_home (K : PySem.W.Frag) (a : Ac) (E : XK) : TS :=
  tSeq (tFor (iEnum K (tCons (tVar 1) (tNil))) (gTupP K 2 (gCons (gName 2) (gCons (gName 3) (gNil)))) (tDrop (tMethP "write" [(a.Disk, sp_Disk_write K a)] (WE (WM E)) (tVar 0) (tCons (tVar 3) (tCons (tMethP "read" [(a.Disk, sp_Disk_read K a)] (WE (WM E)) (tVar 0) (tCons (tOp rAddP (tOp rAddP (tC (.int 1)) (tC (.int 1))) (tVar 2)) (tNil))) (tNil)))))) (tDrop (tMethP "write" [(a.Disk, sp_Disk_write K a)] (WE (WM E)) (tVar 0) (tCons (tC (.int 1)) (tCons (tCall0 (sp_empty_row K a) (WE (WM E))) (tNil)))))
def N_carry_home : List Str := ["disk", "homes", "place", "home"]
def sp_carry_home (K : PySem.W.Frag) (a : Ac) : Sp := fun vs H Q E => vs.length = (["disk", "homes"] : List Str).length ∧ t_carry_home K a E ⟨fun _ H' => Q .non H', Q, F0, F0⟩ (start ["disk", "homes", "place", "home"] vs) H
theorem in_carry_home {K : PySem.W.Frag} {a : Ac} {x0 x1 : V} {H : Hp} {Q : VK} {E : XK} (q : t_carry_home K a E ⟨fun _ H' => Q .non H', Q, F0, F0⟩ [some x0, some x1, none, none] H) : sp_carry_home K a [x0, x1] H Q E := ⟨rfl, q⟩
def t_L_written (K : PySem.W.Frag) (a : Ac) (E : XK) : TS :=
  tSeq (tTryAs K (.ref a.KeepError) 3 (fun W => tDrop (tMethP "write" [(a.Batch, sp_Batch_write K a)] (WE W) (tVar 0) (tCons (tVar 1) (tCons (tVar 2) (tNil))))) (fun e D => tRet (tCallX (sph_L_kinds K a) e D (WE W0) (tCons (tVar 3) (tNil)))) (WM E)) (tRet (tC (.str "")))
def N_L_written : List Str := ["_law_batch", "_law_block", "_law_row_here", "_law_e"]
def sp_L_written (K : PySem.W.Frag) (a : Ac) : Sp := fun vs H Q E => vs.length = (["_law_batch", "_law_block", "_law_row_here"] : List Str).length ∧ t_L_written K a E ⟨fun _ H' => Q .non H', Q, F0, F0⟩ (start ["_law_batch", "_law_block", "_law_row_here", "_law_e"] vs) H
theorem in_L_written {K : PySem.W.Frag} {a : Ac} {x0 x1 x2 : V} {H : Hp} {Q : VK} {E : XK} (q : t_L_written K a E ⟨fun _ H' => Q .non H', Q, F0, F0⟩ [some x0, some x1, some x2, none] H) : sp_L_written K a [x0, x1, x2] H Q E := ⟨rfl, q⟩
def t_L_beside (K : PySem.W.Frag) (a : Ac) (E : XK) : TS :=
  tSeq (tAsg (tOp rAddP (tC (.int 17)) (tOp rModP (tOp rDivP (tVar 3) (tC (.int 7))) (tOp rSubP (tMethP "blocks" [(a.Disk, sp_Disk_blocks K a)] (WE (WM E)) (tVar 1) tNil) (tC (.int 17))))) (gName 4)) (tSeq (tIfS (tTest (tOp (rNeP K) (tMethP "read" [(a.Batch, sp_Batch_read K a)] (WE (WM E)) (tVar 0) (tCons (tVar 4) (tNil))) (tDGet2 (tVar 2) (tVar 4) (tMethP "read" [(a.Disk, sp_Disk_read K a)] (WE (WM E)) (tVar 1) (tCons (tVar 4) (tNil)))))) (tRet (tC (.bl false))) (tNext)) (tSeq (tDrop (tMethP "write" [(a.Disk, sp_Disk_write K a)] (WE (WM E)) (tVar 1) (tCons (tVar 4) (tCons (tCallS (sp_L_row K a) (WE (WM E)) (tCons (tOp rDivP (tVar 3) (tC (.int 3))) (tNil))) (tNil))))) (tRet (tOp (rEqP K) (tMethP "read" [(a.Batch, sp_Batch_read K a)] (WE (WM E)) (tVar 0) (tCons (tVar 4) (tNil))) (tDGet2 (tVar 2) (tVar 4) (tCallS (sp_L_row K a) (WE (WM E)) (tCons (tOp rDivP (tVar 3) (tC (.int 3))) (tNil))))))))
def N_L_beside : List Str := ["_law_batch", "_law_disk", "_law_own", "_law_cell", "_law_block"]
def sp_L_beside (K : PySem.W.Frag) (a : Ac) : Sp := fun vs H Q E => vs.length = (["_law_batch", "_law_disk", "_law_own", "_law_cell"] : List Str).length ∧ t_L_beside K a E ⟨fun _ H' => Q .non H', Q, F0, F0⟩ (start ["_law_batch", "_law_disk", "_law_own", "_law_cell", "_law_block"] vs) H
theorem in_L_beside {K : PySem.W.Frag} {a : Ac} {x0 x1 x2 x3 : V} {H : Hp} {Q : VK} {E : XK} (q : t_L_beside K a E ⟨fun _ H' => Q .non H', Q, F0, F0⟩ [some x0, some x1, some x2, some x3, none] H) : sp_L_beside K a [x0, x1, x2, x3] H Q E := ⟨rfl, q⟩
def t_commit (K : PySem.W.Frag) (a : Ac) (E : XK) : TS :=
  tSeq (tAsg (tCallS (sp_need_pairs K a) (WE (WM E)) (tCons (tVar 0) (tCons (tVar 1) (tNil)))) (gName 2)) (tSeq (tIfS (tTest (tOp (rEqP K) (tVar 2) (tLst (tNil)))) (tRetN) (tNext)) (tSeq (tFor (iEnum K (tCons (tVar 2) (tNil))) (gTupP K 2 (gCons (gName 3) (gCons (gName 4) (gNil)))) (tDrop (tMethP "write" [(a.Disk, sp_Disk_write K a)] (WE (WM E)) (tVar 0) (tCons (tOp rAddP (tOp rAddP (tC (.int 1)) (tC (.int 1))) (tVar 3)) (tCons (tOp (rIxP K) (tVar 4) (tC (.int 1))) (tNil)))))) (tSeq (tAsg (tLc (iSeqP K (tVar 2)) (gName 4) (tYes) (tOp (rIxP K) (tVar 4) (tC (.int 0))) [4]) (gName 5)) (tSeq (tDrop (tMethP "write" [(a.Disk, sp_Disk_write K a)] (WE (WM E)) (tVar 0) (tCons (tC (.int 1)) (tCons (tCallS (sp_changed K a) (WE (WM E)) (tCons (tCall0 (sp_empty_row K a) (WE (WM E))) (tCons (tC (.int 0)) (tCons (tOp rAddP (tLst (tCons (tCB (rLenP K) (tCons (tVar 5) (tNil))) (tNil))) (tVar 5)) (tNil))))) (tNil))))) (tDrop (tCallS (sp_carry_home K a) (WE (WM E)) (tCons (tVar 0) (tCons (tVar 5) (tNil)))))))))
def N_commit : List Str := ["disk", "pairs", "kept", "place", "pair", "homes"]
def sp_commit (K : PySem.W.Frag) (a : Ac) : Sp := fun vs H Q E => vs.length = (["disk", "pairs"] : List Str).length ∧ t_commit K a E ⟨fun _ H' => Q .non H', Q, F0, F0⟩ (start ["disk", "pairs", "kept", "place", "pair", "homes"] vs) H
theorem in_commit {K : PySem.W.Frag} {a : Ac} {x0 x1 : V} {H : Hp} {Q : VK} {E : XK} (q : t_commit K a E ⟨fun _ H' => Q .non H', Q, F0, F0⟩ [some x0, some x1, none, none, none, none] H) : sp_commit K a [x0, x1] H Q E := ⟨rfl, q⟩
def t_L_deed_13 (K : PySem.W.Frag) (a : Ac) (E : XK) : TS :=
  tSeq (tIfS (tTest (tOp (rNeP K) (tCallS (sp_L_written K a) (WE (WM E)) (tCons (tVar 0) (tCons (tVar 6) (tCons (tVar 12) (tNil))))) (tVar 8))) (tRet (tC (.bl false))) (tNext)) (tSeq (tIfS (tTest (tOp (rEqP K) (tVar 8) (tC (.str "")))) (tSeq (tDrop (tBM0 K "list" rClear (tVar 12))) (sDPut (tVar 2) (tVar 6) (tVar 7))) (tNext)) (tRet (tAndV (tCallS (sp_L_like K a) (WE (WM E)) (tCons (tVar 0) (tCons (tVar 1) (tCons (tVar 2) (tCons (tVar 9) (tNil)))))) (tOp (rEqP K) (tVar 10) (tVar 11)))))
def t_L_deed_8 (K : PySem.W.Frag) (a : Ac) (E : XK) : TS :=
  tSeq (tIfS (tNot (tB (tCallS (sp_L_like K a) (WE (WM E)) (tCons (tVar 0) (tCons (tVar 1) (tCons (tVar 2) (tCons (tVar 9) (tNil)))))))) (tRet (tC (.bl false))) (tNext)) (tSeq (tAsg (tMethP "read" [(a.Batch, sp_Batch_read K a)] (WE (WM E)) (tVar 0) (tCons (tVar 9) (tNil))) (gName 10)) (tSeq (tAsg (tCB ((rListP K)) (tCons (tVar 10) (tNil))) (gName 11)) (tSeq (tAsg (tVar 7) (gName 12)) (tSeq (tIfS (tB (tCB ((rIsi K)) (tCons (tVar 7) (tCons (tC (.ty "list")) (tNil))))) (tAsg (tCB ((rListP K)) (tCons (tVar 7) (tNil))) (gName 12)) (tNext)) (t_L_deed_13 K a E)))))
def t_L_deed_6 (K : PySem.W.Frag) (a : Ac) (E : XK) : TS :=
  tSeq (tAsg (tVar 6) (gName 9)) (tSeq (tIfS (tOr (tTest (tOp (rEqP K) (tOp rModP (tVar 3) (tC (.int 16))) (tC (.int 7)))) (tTest (tOp (rEqP K) (tOp rModP (tVar 3) (tC (.int 8))) (tC (.int 5))))) (tSeq (tAsg (tCallS (sp_L_odd_block K a) (WE (WM E)) (tCons (tVar 4) (tCons (tVar 5) (tNil)))) (gName 6)) (tAsg (tC (.str "block")) (gName 8))) (tNext)) (t_L_deed_8 K a E))
def t_L_deed_3 (K : PySem.W.Frag) (a : Ac) (E : XK) : TS :=
  tSeq (tAsg (tCallS (sp_L_row K a) (WE (WM E)) (tCons (tVar 4) (tNil))) (gName 7)) (tSeq (tAsg (tC (.str "")) (gName 8)) (tSeq (tIfS (tOr (tTest (tOp (rEqP K) (tOp rModP (tVar 3) (tC (.int 8))) (tC (.int 6)))) (tTest (tOp (rEqP K) (tOp rModP (tVar 3) (tC (.int 16))) (tC (.int 7))))) (tSeq (tAsg (tCallS (sp_L_odd_row K a) (WE (WM E)) (tCons (tVar 4) (tNil))) (gName 7)) (tAsg (tC (.str "row")) (gName 8))) (tNext)) (t_L_deed_6 K a E)))
def t_L_deed (K : PySem.W.Frag) (a : Ac) (E : XK) : TS :=
  tSeq (tAsg (tMethP "blocks" [(a.Disk, sp_Disk_blocks K a)] (WE (WM E)) (tVar 1) tNil) (gName 5)) (tSeq (tAsg (tOp rAddP (tC (.int 17)) (tOp rModP (tOp rModP (tOp rMulP (tOp rModP (tOp rDivP (tVar 3) (tC (.int 8))) (tC (.int 23))) (tC (.int 48271))) (tC (.int 7919))) (tOp rSubP (tVar 5) (tC (.int 17))))) (gName 6)) (tSeq (tIfS (tTest (tOp (rEqP K) (tOp rModP (tVar 3) (tC (.int 4))) (tC (.int 1)))) (tAsg (tOp (rIxP K) (tLst (tCons (tC (.int 17)) (tCons (tOp rSubP (tVar 5) (tC (.int 1))) (tCons (tC (.int 18)) (tCons (tOp rSubP (tVar 5) (tC (.int 2))) (tNil)))))) (tOp rModP (tOp rDivP (tVar 3) (tC (.int 8))) (tC (.int 4)))) (gName 6)) (tNext)) (t_L_deed_3 K a E)))
def N_L_deed : List Str := ["_law_batch", "_law_disk", "_law_own", "_law_cell", "_law_more", "_law_many", "_law_block", "_law_row_here", "_law_due", "_law_near", "_law_read", "_law_kept", "_law_handed"]
def sp_L_deed (K : PySem.W.Frag) (a : Ac) : Sp := fun vs H Q E => vs.length = (["_law_batch", "_law_disk", "_law_own", "_law_cell", "_law_more"] : List Str).length ∧ t_L_deed K a E ⟨fun _ H' => Q .non H', Q, F0, F0⟩ (start ["_law_batch", "_law_disk", "_law_own", "_law_cell", "_law_more", "_law_many", "_law_block", "_law_row_here", "_law_due", "_law_near", "_law_read", "_law_kept", "_law_handed"] vs) H
theorem in_L_deed {K : PySem.W.Frag} {a : Ac} {x0 x1 x2 x3 x4 : V} {H : Hp} {Q : VK} {E : XK} (q : t_L_deed K a E ⟨fun _ H' => Q .non H', Q, F0, F0⟩ [some x0, some x1, some x2, some x3, some x4, none, none, none, none, none, none, none, none] H) : sp_L_deed K a [x0, x1, x2, x3, x4] H Q E := ⟨rfl, q⟩
def t_Batch_finish (K : PySem.W.Frag) (a : Ac) (E : XK) : TS :=
  tSeq (tDrop (tCallS (sp_commit K a) (WE (WM E)) (tCons (tFld K (tVar 0) "disk") (tCons (tMethP "pairs" [(a.Batch, sp_Batch_pairs K a)] (WE (WM E)) (tVar 0) tNil) (tNil))))) (sFld K (tVar 0) (tDNewK) "rows")
def N_Batch_finish : List Str := ["self"]
def sp_Batch_finish (K : PySem.W.Frag) (a : Ac) : Sp := fun vs H Q E => vs.length = (["self"] : List Str).length ∧ t_Batch_finish K a E ⟨fun _ H' => Q .non H', Q, F0, F0⟩ (start ["self"] vs) H
theorem in_Batch_finish {K : PySem.W.Frag} {a : Ac} {x0 : V} {H : Hp} {Q : VK} {E : XK} (q : t_Batch_finish K a E ⟨fun _ H' => Q .non H', Q, F0, F0⟩ [some x0] H) : sp_Batch_finish K a [x0] H Q E := ⟨rfl, q⟩
def t_L_finished_3 (K : PySem.W.Frag) (a : Ac) (E : XK) : TS :=
  tSeq (tAsg (tLc (iRng1 (tCons (tMethP "blocks" [(a.Disk, sp_Disk_blocks K a)] (WE (WM E)) (tVar 1) tNil) (tNil))) (gName 9) (tYes) (tDGet2 (tVar 2) (tVar 9) (tOp (rIxP K) (tVar 3) (tVar 9))) [9]) (gName 8)) (tSeq (tIfS (tOr (tTest (tOp rGtP (tCB (rLenP K) (tCons (tVar 2) (tNil))) (tC (.int 15)))) (tTest (tOp (rNeP K) (tLc (iRng2 (tCons (tC (.int 17)) (tCons (tMethP "blocks" [(a.Disk, sp_Disk_blocks K a)] (WE (WM E)) (tVar 1) tNil) (tNil)))) (gName 9) (tYes) (tMethP "read" [(a.Disk, sp_Disk_read K a)] (WE W0) (tVar 1) (tCons (tVar 9) (tNil))) [9]) (tSl (rSlP K) (tVar 8) (tPart (tC (.int 17))) (tNoPart))))) (tRet (tC (.bl false))) (tNext)) (tSeq (tIfS (tOr (tTest (tOp (rNeP K) (tMethP "writes" [(a.Disk, sp_Disk_writes K a)] (WE (WM E)) (tVar 1) tNil) (tOp rAddP (tVar 4) (tOp rMulP (tOp rAddP (tOp rMulP (tC (.int 2)) (tCB (rLenP K) (tCons (tVar 2) (tNil)))) (tC (.int 2))) (tCB (rIntP) (tCons (tOp rNeDE (tVar 2) (tDNewK)) (tNil))))))) (tTest (tOp (rNeP K) (tMethP "pairs" [(a.Batch, sp_Batch_pairs K a)] (WE (WM E)) (tVar 0) tNil) (tLst (tNil))))) (tRet (tC (.bl false))) (tNext)) (tSeq (tIfS (tOr (tTest (tOp (rNeP K) (tMethP "read" [(a.Disk, sp_Disk_read K a)] (WE (WM E)) (tVar 1) (tCons (tC (.int 0)) (tNil))) (tOp (rIxP K) (tVar 3) (tC (.int 0))))) (tTest (tOp (rNeP K) (tMethP "read" [(a.Disk, sp_Disk_read K a)] (WE (WM E)) (tVar 1) (tCons (tC (.int 1)) (tNil))) (tOp rMulP (tLst (tCons (tC (.int 0)) (tNil))) (tC (.int 16)))))) (tRet (tC (.bl false))) (tNext)) (tRet (tOp (rEqP K) (tVar 5) (tLc (iSeqP K (tCB (rSortedQ K) (tCons (tVar 2) (tNil)))) (gName 10) (tYes) (tTup (tCons (tVar 10) (tCons (tDGet (tVar 2) (tVar 10)) (tNil)))) [10]))))))
def t_L_finished (K : PySem.W.Frag) (a : Ac) (E : XK) : TS :=
  tSeq (tAsg (tMethP "writes" [(a.Disk, sp_Disk_writes K a)] (WE (WM E)) (tVar 1) tNil) (gName 4)) (tSeq (tAsg (tMethP "pairs" [(a.Batch, sp_Batch_pairs K a)] (WE (WM E)) (tVar 0) tNil) (gName 5)) (tSeq (tTryAs K (.ref a.KeepError) 6 (fun W => tDrop (tMethP "finish" [(a.Batch, sp_Batch_finish K a)] (WE W) (tVar 0) tNil)) (fun e D => tSeq (tAsg (tAndV (tOp (rEqP K) (tMethX "writes" a.Disk (sph_Disk_writes K a) e D (WE W0) (tVar 1) tNil) (tVar 4)) (tOp (rEqP K) (tMethX "pairs" a.Batch (sph_Batch_pairs K a) e D (WE W0) (tVar 0) tNil) (tVar 5))) (gName 7)) (tRet (tAndV (tOp rGtP (tCB (rLenP K) (tCons (tVar 2) (tNil))) (tC (.int 15))) (tAndV (tOp (rEqP K) (tCallX (sph_L_kinds K a) e D (WE W0) (tCons (tVar 6) (tNil))) (tC (.str "much"))) (tVar 7))))) (WM E)) (t_L_finished_3 K a E)))
def N_L_finished : List Str := ["_law_batch", "_law_disk", "_law_own", "_law_base", "_law_before", "_law_held", "_law_e", "_law_stays", "_law_due", "_law_block", "_law_one"]
def sp_L_finished (K : PySem.W.Frag) (a : Ac) : Sp := fun vs H Q E => vs.length = (["_law_batch", "_law_disk", "_law_own", "_law_base"] : List Str).length ∧ t_L_finished K a E ⟨fun _ H' => Q .non H', Q, F0, F0⟩ (start ["_law_batch", "_law_disk", "_law_own", "_law_base", "_law_before", "_law_held", "_law_e", "_law_stays", "_law_due", "_law_block", "_law_one"] vs) H
theorem in_L_finished {K : PySem.W.Frag} {a : Ac} {x0 x1 x2 x3 : V} {H : Hp} {Q : VK} {E : XK} (q : t_L_finished K a E ⟨fun _ H' => Q .non H', Q, F0, F0⟩ [some x0, some x1, some x2, some x3, none, none, none, none, none, none, none] H) : sp_L_finished K a [x0, x1, x2, x3] H Q E := ⟨rfl, q⟩
def tb_law_1 (K : PySem.W.Frag) (a : Ac) (E : XK) : TS :=
  tSeq (tAsg (tOp rAddP (tC (.int 17)) (tOp rModP (tOp rModP (tOp rMulP (tCallS (sp_L_cell_at K a) (WE (WM E)) (tCons (tVar 0) (tCons (tOp rAddP (tC (.int 2)) (tVar 2)) (tNil)))) (tC (.int 48271))) (tC (.int 7919))) (tOp rSubP (tMethP "blocks" [(a.Disk, sp_Disk_blocks K a)] (WE (WM E)) (tVar 1) tNil) (tC (.int 17))))) (gName 3)) (tDrop (tMethP "write" [(a.Disk, sp_Disk_write K a)] (WE (WM E)) (tVar 1) (tCons (tVar 3) (tCons (tCallS (sp_L_row K a) (WE (WM E)) (tCons (tCallS (sp_L_cell_at K a) (WE (WM E)) (tCons (tVar 0) (tCons (tOp rAddP (tC (.int 2)) (tVar 2)) (tNil)))) (tNil))) (tNil)))))
def tb_law_2_3 (K : PySem.W.Frag) (a : Ac) (E : XK) : TS :=
  tIfS (tAnd (tTest (tOp (rEqP K) (tOp rModP (tOp (rIxP K) (tVar 0) (tVar 2)) (tC (.int 5))) (tC (.int 3)))) (tTest (tOp rLtP (tCB (rLenP K) (tCons (tVar 7) (tNil))) (tC (.int 16))))) (tSeq (tIfS (tNot (tB (tCallS (sp_L_finished K a) (WE (WM E)) (tCons (tVar 6) (tCons (tVar 1) (tCons (tVar 7) (tCons (tVar 4) (tNil)))))))) (tRet (tC (.bl false))) (tNext)) (tSeq (tAsg (tDNewK) (gName 7)) (tSeq (tIfS (tTest (tOp (rEqP K) (tOp rModP (tOp (rIxP K) (tVar 0) (tVar 2)) (tC (.int 15))) (tC (.int 3)))) (tSeq (tAsg (tMakeE a.Batch (sp_Batch_init K a) (WE (WM E)) (tCons (tVar 1) (tNil))) (gName 6)) (tDrop (tMethP "write" [(a.Disk, sp_Disk_write K a)] (WE (WM E)) (tVar 1) (tCons (tOp rAddP (tC (.int 17)) (tOp rModP (tOp rDivP (tOp (rIxP K) (tVar 0) (tVar 2)) (tC (.int 15))) (tOp rSubP (tMethP "blocks" [(a.Disk, sp_Disk_blocks K a)] (WE (WM E)) (tVar 1) tNil) (tC (.int 17))))) (tCons (tCallS (sp_L_row K a) (WE (WM E)) (tCons (tOp (rIxP K) (tVar 0) (tOp rAddP (tVar 2) (tC (.int 1)))) (tNil))) (tNil)))))) (tNext)) (tSeq (tAsg (tCallS (sp_L_rows K a) (WE (WM E)) (tCons (tVar 1) (tNil))) (gName 4)) (tAsg (tMethP "writes" [(a.Disk, sp_Disk_writes K a)] (WE (WM E)) (tVar 1) tNil) (gName 5)))))) (tNext)
def tb_law_2_2 (K : PySem.W.Frag) (a : Ac) (E : XK) : TS :=
  tSeq (tIfS (tTest (tOp (rEqP K) (tOp rModP (tOp (rIxP K) (tVar 0) (tOp rAddP (tVar 2) (tC (.int 1)))) (tC (.int 7))) (tC (.int 5)))) (tSeq (tIfS (tNot (tB (tCallS (sp_L_beside K a) (WE (WM E)) (tCons (tVar 6) (tCons (tVar 1) (tCons (tVar 7) (tCons (tOp (rIxP K) (tVar 0) (tOp rAddP (tVar 2) (tC (.int 1)))) (tNil)))))))) (tRet (tC (.bl false))) (tNext)) (tSeq (tAsg (tCallS (sp_L_rows K a) (WE (WM E)) (tCons (tVar 1) (tNil))) (gName 4)) (tAsg (tMethP "writes" [(a.Disk, sp_Disk_writes K a)] (WE (WM E)) (tVar 1) tNil) (gName 5)))) (tNext)) (tb_law_2_3 K a E)
def tb_law_2 (K : PySem.W.Frag) (a : Ac) (E : XK) : TS :=
  tSeq (tIfS (tOr (tNot (tB (tCallS (sp_L_deed K a) (WE (WM E)) (tCons (tVar 6) (tCons (tVar 1) (tCons (tVar 7) (tCons (tOp (rIxP K) (tVar 0) (tVar 2)) (tCons (tOp (rIxP K) (tVar 0) (tOp rAddP (tVar 2) (tC (.int 1)))) (tNil))))))))) (tTest (tOp (rNeP K) (tMethP "writes" [(a.Disk, sp_Disk_writes K a)] (WE (WM E)) (tVar 1) tNil) (tVar 5)))) (tRet (tC (.bl false))) (tNext)) (tSeq (tIfS (tOr (tNot (tB (tCallS (sp_L_reads K a) (WE (WM E)) (tCons (tVar 6) (tCons (tVar 1) (tCons (tOp (rIxP K) (tVar 0) (tOp rAddP (tVar 2) (tC (.int 1)))) (tNil))))))) (tTest (tOp (rNeP K) (tCallS (sp_L_rows K a) (WE (WM E)) (tCons (tVar 1) (tNil))) (tVar 4)))) (tRet (tC (.bl false))) (tNext)) (tb_law_2_2 K a E))
def t_law_6 (K : PySem.W.Frag) (a : Ac) (E : XK) : TS :=
  tSeq (tFor (iRng3 (tCons (tC (.int 8)) (tCons (tCB rMin2 (tCons (tOp rSubP (tCB (rLenP K) (tCons (tVar 0) (tNil))) (tC (.int 1))) (tCons (tC (.int 56)) (tNil)))) (tCons (tC (.int 2)) (tNil))))) (gName 2) (tb_law_2 K a E)) (tRet (tCallS (sp_L_finished K a) (WE (WM E)) (tCons (tVar 6) (tCons (tVar 1) (tCons (tVar 7) (tCons (tVar 4) (tNil)))))))
def t_law_2 (K : PySem.W.Frag) (a : Ac) (E : XK) : TS :=
  tSeq (tAsg (tCallS (sp_L_rows K a) (WE (WM E)) (tCons (tVar 1) (tNil))) (gName 4)) (tSeq (tAsg (tMethP "writes" [(a.Disk, sp_Disk_writes K a)] (WE (WM E)) (tVar 1) tNil) (gName 5)) (tSeq (tAsg (tMakeE a.Batch (sp_Batch_init K a) (WE (WM E)) (tCons (tVar 1) (tNil))) (gName 6)) (tSeq (tAsg (tDNewK) (gName 7)) (t_law_6 K a E))))
def t_law (K : PySem.W.Frag) (a : Ac) (E : XK) : TS :=
  tSeq (tAsg (tMakeE a.Disk (sp_Disk_init K a) (WE (WM E)) (tCons (tOp rAddP (tC (.int 24)) (tOp rModP (tCallS (sp_L_cell_at K a) (WE (WM E)) (tCons (tVar 0) (tCons (tC (.int 0)) (tNil)))) (tC (.int 73)))) (tNil))) (gName 1)) (tSeq (tFor (iRng1 (tCons (tOp rModP (tCallS (sp_L_cell_at K a) (WE (WM E)) (tCons (tVar 0) (tCons (tC (.int 1)) (tNil)))) (tC (.int 7))) (tNil))) (gName 2) (tb_law_1 K a E)) (t_law_2 K a E))
def N_law : List Str := ["_law_script", "_law_disk", "_law_k", "_law_place", "_law_base", "_law_writes", "_law_batch", "_law_own"]
def sp_law (K : PySem.W.Frag) (a : Ac) : Sp := fun vs H Q E => vs.length = (["_law_script"] : List Str).length ∧ t_law K a E ⟨fun _ H' => Q .non H', Q, F0, F0⟩ (start ["_law_script", "_law_disk", "_law_k", "_law_place", "_law_base", "_law_writes", "_law_batch", "_law_own"] vs) H
theorem in_law {K : PySem.W.Frag} {a : Ac} {x0 : V} {H : Hp} {Q : VK} {E : XK} (q : t_law K a E ⟨fun _ H' => Q .non H', Q, F0, F0⟩ [some x0, none, none, none, none, none, none, none] H) : sp_law K a [x0] H Q E := ⟨rfl, q⟩
class Fc (K : PySem.W.Frag) (a : Ac) : Prop where
  c_Disk : Cls K a.Disk
  na_Disk_done : NoAttr K a.Disk "done"
  na_Disk_left : NoAttr K a.Disk "left"
  na_Disk_rows : NoAttr K a.Disk "rows"
  c_Batch : Cls K a.Batch
  na_Batch_disk : NoAttr K a.Batch "disk"
  na_Batch_rows : NoAttr K a.Batch "rows"
  xc_BadDisk : ExcC K a.BadDisk
  xc_BadRow : ExcC K a.BadRow
  xc_NoBlock : ExcC K a.NoBlock
  xc_Stopped : ExcC K a.Stopped
  xc_TooMuch : ExcC K a.TooMuch
  ki_BadDisk_BadLog : PySem.W.kitOne K (.ref a.BadDisk) (.ref a.BadLog) = some false
  ki_BadDisk_BadRow : PySem.W.kitOne K (.ref a.BadDisk) (.ref a.BadRow) = some false
  ki_BadDisk_NoBlock : PySem.W.kitOne K (.ref a.BadDisk) (.ref a.NoBlock) = some false
  ki_BadDisk_Stopped : PySem.W.kitOne K (.ref a.BadDisk) (.ref a.Stopped) = some false
  ki_BadDisk_TooMuch : PySem.W.kitOne K (.ref a.BadDisk) (.ref a.TooMuch) = some false
  ki_BadDisk_ValueError : PySem.W.kitOne K (.ref a.BadDisk) (.type "ValueError") = some true
  ki_BadRow_BadLog : PySem.W.kitOne K (.ref a.BadRow) (.ref a.BadLog) = some false
  ki_BadRow_BadRow : PySem.W.kitOne K (.ref a.BadRow) (.ref a.BadRow) = some true
  ki_BadRow_NoBlock : PySem.W.kitOne K (.ref a.BadRow) (.ref a.NoBlock) = some false
  ki_BadRow_Stopped : PySem.W.kitOne K (.ref a.BadRow) (.ref a.Stopped) = some false
  ki_BadRow_TooMuch : PySem.W.kitOne K (.ref a.BadRow) (.ref a.TooMuch) = some false
  ki_BadRow_ValueError : PySem.W.kitOne K (.ref a.BadRow) (.type "ValueError") = some true
  ki_NoBlock_BadLog : PySem.W.kitOne K (.ref a.NoBlock) (.ref a.BadLog) = some false
  ki_NoBlock_BadRow : PySem.W.kitOne K (.ref a.NoBlock) (.ref a.BadRow) = some false
  ki_NoBlock_NoBlock : PySem.W.kitOne K (.ref a.NoBlock) (.ref a.NoBlock) = some true
  ki_NoBlock_Stopped : PySem.W.kitOne K (.ref a.NoBlock) (.ref a.Stopped) = some false
  ki_NoBlock_TooMuch : PySem.W.kitOne K (.ref a.NoBlock) (.ref a.TooMuch) = some false
  ki_NoBlock_ValueError : PySem.W.kitOne K (.ref a.NoBlock) (.type "ValueError") = some true
  ki_Stopped_BadLog : PySem.W.kitOne K (.ref a.Stopped) (.ref a.BadLog) = some false
  ki_Stopped_BadRow : PySem.W.kitOne K (.ref a.Stopped) (.ref a.BadRow) = some false
  ki_Stopped_NoBlock : PySem.W.kitOne K (.ref a.Stopped) (.ref a.NoBlock) = some false
  ki_Stopped_Stopped : PySem.W.kitOne K (.ref a.Stopped) (.ref a.Stopped) = some true
  ki_Stopped_TooMuch : PySem.W.kitOne K (.ref a.Stopped) (.ref a.TooMuch) = some false
  ki_Stopped_ValueError : PySem.W.kitOne K (.ref a.Stopped) (.type "ValueError") = some true
  ki_TooMuch_BadLog : PySem.W.kitOne K (.ref a.TooMuch) (.ref a.BadLog) = some false
  ki_TooMuch_BadRow : PySem.W.kitOne K (.ref a.TooMuch) (.ref a.BadRow) = some false
  ki_TooMuch_NoBlock : PySem.W.kitOne K (.ref a.TooMuch) (.ref a.NoBlock) = some false
  ki_TooMuch_Stopped : PySem.W.kitOne K (.ref a.TooMuch) (.ref a.Stopped) = some false
  ki_TooMuch_TooMuch : PySem.W.kitOne K (.ref a.TooMuch) (.ref a.TooMuch) = some true
  ki_TooMuch_ValueError : PySem.W.kitOne K (.ref a.TooMuch) (.type "ValueError") = some true
  em_BadDisk_KeepError : PySem.W.exmOne K (.ref a.BadDisk) (.ref a.KeepError) = some true
  em_BadRow_KeepError : PySem.W.exmOne K (.ref a.BadRow) (.ref a.KeepError) = some true
  em_NoBlock_KeepError : PySem.W.exmOne K (.ref a.NoBlock) (.ref a.KeepError) = some true
  em_Stopped_KeepError : PySem.W.exmOne K (.ref a.Stopped) (.ref a.KeepError) = some true
  em_TooMuch_KeepError : PySem.W.exmOne K (.ref a.TooMuch) (.ref a.KeepError) = some true
section
variable {K : PySem.W.Frag} {a : Ac} [F : Fc K a]
instance : ClsF K a.Disk := ⟨F.c_Disk⟩
instance : NoAF K a.Disk "done" := ⟨F.na_Disk_done⟩
instance : NoAF K a.Disk "left" := ⟨F.na_Disk_left⟩
instance : NoAF K a.Disk "rows" := ⟨F.na_Disk_rows⟩
instance : ClsF K a.Batch := ⟨F.c_Batch⟩
instance : NoAF K a.Batch "disk" := ⟨F.na_Batch_disk⟩
instance : NoAF K a.Batch "rows" := ⟨F.na_Batch_rows⟩
instance : ExcF K a.BadDisk := ⟨F.xc_BadDisk⟩
instance : ExcF K a.BadRow := ⟨F.xc_BadRow⟩
instance : ExcF K a.NoBlock := ⟨F.xc_NoBlock⟩
instance : ExcF K a.Stopped := ⟨F.xc_Stopped⟩
instance : ExcF K a.TooMuch := ⟨F.xc_TooMuch⟩
instance : KitF K (.ref a.BadDisk) (.ref a.BadLog) false := ⟨F.ki_BadDisk_BadLog⟩
instance : KitF K (.ref a.BadDisk) (.ref a.BadRow) false := ⟨F.ki_BadDisk_BadRow⟩
instance : KitF K (.ref a.BadDisk) (.ref a.NoBlock) false := ⟨F.ki_BadDisk_NoBlock⟩
instance : KitF K (.ref a.BadDisk) (.ref a.Stopped) false := ⟨F.ki_BadDisk_Stopped⟩
instance : KitF K (.ref a.BadDisk) (.ref a.TooMuch) false := ⟨F.ki_BadDisk_TooMuch⟩
instance : KitF K (.ref a.BadDisk) (.type "ValueError") true := ⟨F.ki_BadDisk_ValueError⟩
instance : KitF K (.ref a.BadRow) (.ref a.BadLog) false := ⟨F.ki_BadRow_BadLog⟩
instance : KitF K (.ref a.BadRow) (.ref a.BadRow) true := ⟨F.ki_BadRow_BadRow⟩
instance : KitF K (.ref a.BadRow) (.ref a.NoBlock) false := ⟨F.ki_BadRow_NoBlock⟩
instance : KitF K (.ref a.BadRow) (.ref a.Stopped) false := ⟨F.ki_BadRow_Stopped⟩
instance : KitF K (.ref a.BadRow) (.ref a.TooMuch) false := ⟨F.ki_BadRow_TooMuch⟩
instance : KitF K (.ref a.BadRow) (.type "ValueError") true := ⟨F.ki_BadRow_ValueError⟩
instance : KitF K (.ref a.NoBlock) (.ref a.BadLog) false := ⟨F.ki_NoBlock_BadLog⟩
instance : KitF K (.ref a.NoBlock) (.ref a.BadRow) false := ⟨F.ki_NoBlock_BadRow⟩
instance : KitF K (.ref a.NoBlock) (.ref a.NoBlock) true := ⟨F.ki_NoBlock_NoBlock⟩
instance : KitF K (.ref a.NoBlock) (.ref a.Stopped) false := ⟨F.ki_NoBlock_Stopped⟩
instance : KitF K (.ref a.NoBlock) (.ref a.TooMuch) false := ⟨F.ki_NoBlock_TooMuch⟩
instance : KitF K (.ref a.NoBlock) (.type "ValueError") true := ⟨F.ki_NoBlock_ValueError⟩
instance : KitF K (.ref a.Stopped) (.ref a.BadLog) false := ⟨F.ki_Stopped_BadLog⟩
instance : KitF K (.ref a.Stopped) (.ref a.BadRow) false := ⟨F.ki_Stopped_BadRow⟩
instance : KitF K (.ref a.Stopped) (.ref a.NoBlock) false := ⟨F.ki_Stopped_NoBlock⟩
instance : KitF K (.ref a.Stopped) (.ref a.Stopped) true := ⟨F.ki_Stopped_Stopped⟩
instance : KitF K (.ref a.Stopped) (.ref a.TooMuch) false := ⟨F.ki_Stopped_TooMuch⟩
instance : KitF K (.ref a.Stopped) (.type "ValueError") true := ⟨F.ki_Stopped_ValueError⟩
instance : KitF K (.ref a.TooMuch) (.ref a.BadLog) false := ⟨F.ki_TooMuch_BadLog⟩
instance : KitF K (.ref a.TooMuch) (.ref a.BadRow) false := ⟨F.ki_TooMuch_BadRow⟩
instance : KitF K (.ref a.TooMuch) (.ref a.NoBlock) false := ⟨F.ki_TooMuch_NoBlock⟩
instance : KitF K (.ref a.TooMuch) (.ref a.Stopped) false := ⟨F.ki_TooMuch_Stopped⟩
instance : KitF K (.ref a.TooMuch) (.ref a.TooMuch) true := ⟨F.ki_TooMuch_TooMuch⟩
instance : KitF K (.ref a.TooMuch) (.type "ValueError") true := ⟨F.ki_TooMuch_ValueError⟩
instance : ExmF K (.ref a.BadDisk) (.ref a.KeepError) true := ⟨F.em_BadDisk_KeepError⟩
instance : ExmF K (.ref a.BadRow) (.ref a.KeepError) true := ⟨F.em_BadRow_KeepError⟩
instance : ExmF K (.ref a.NoBlock) (.ref a.KeepError) true := ⟨F.em_NoBlock_KeepError⟩
instance : ExmF K (.ref a.Stopped) (.ref a.KeepError) true := ⟨F.em_Stopped_KeepError⟩
instance : ExmF K (.ref a.TooMuch) (.ref a.KeepError) true := ⟨F.em_TooMuch_KeepError⟩
end
end Bk

namespace Bk
open PySem L2 PyProof.Rows
/-! our own short tactics: h: what stands at a place; ne: two places; sm: what stood stands; z: a size; s: a step; go: steps -/
local macro_rules | `(tactic| walk_at "h") => `(tactic| first
  | assumption
  | exact New.at (by assumption)
  | exact Wr.at (by assumption)
  | (refine' New.old (by assumption) ?_; walk_at "h")
  | (refine' Same.at (by assumption) ?_; walk_at "h")
  | (refine' Wr.old (by assumption) ?_ ?_; walk_at "ne"; walk_at "h")
  | (refine' Chg.at (by assumption) ?_ ?_; walk_at "ni"; walk_at "h"))
local macro_rules | `(tactic| walk_at "ni") => `(tactic| first
  | exact ni_nil
  | assumption
  | (refine' ni_cons ?_ ?_; walk_at "ne"; walk_at "ni"))
local macro_rules | `(tactic| walk_at "ne") => `(tactic| first
  | assumption
  | exact Ne.symm (by assumption)
  | exact New.ne (by assumption) (by walk_at "h")
  | exact ne_none (by assumption) (by walk_at "h")
  | exact Ne.symm (ne_none (by assumption) (by walk_at "h"))
  | exact Ne.symm (New.ne (by assumption) (by walk_at "h")))
local macro_rules | `(tactic| walk_at "sm") => `(tactic| first
  | exact Same.refl _
  | assumption
  | (refine' Same.trans ?_ (New.same (by assumption)); walk_at "sm")
  | (refine' Same.trans ?_ (by assumption : Same _ _); walk_at "sm"))
local macro_rules | `(tactic| walk_at "z") => `(tactic| first
  | assumption
  | (rw [PySem.sizeLine_eq]; omega)
  | (rw [PySem.sizeLine_eq]; simp only [List.length_cons, List.length_nil, List.length_append, List.length_map, List.length_range, List.length_replicate, len_cut]; omega)
  | (rw [PySem.sizeLine_eq]; simp only [List.length_cons, List.length_nil, List.length_append, List.length_map, List.length_range, List.length_replicate, len_cut] at *; omega))
local macro_rules | `(tactic| walk_at "s") => `(tactic| first
  | ((with_reducible refine' go_var ?h ?_); (case h => exact rfl))
  | (with_reducible refine' go_c ?_)
  | (with_reducible refine' go_op ?_)
  | (with_reducible refine' go_un ?_)
  | (with_reducible refine' go_rU ?_)
  | (with_reducible refine' go_seq ?_)
  | (with_reducible refine' go_ret ?_)
  | (with_reducible refine' go_retN ?_)
  | (with_reducible refine' go_next ?_)
  | (with_reducible refine' go_drop ?_)
  | (with_reducible refine' go_asg ?_)
  | ((with_reducible refine' go_name2 ?h ?_); (case h => (simp only [List.set_cons_zero, List.set_cons_succ]; exact rfl)))
  | ((with_reducible refine' go_name2 ?h ?_); (case h => exact rfl))
  | (with_reducible refine' go_ifS ?_)
  | (with_reducible refine' go_blk ?_)
  | (with_reducible refine' go_test ?_)
  | (with_reducible refine' go_tB ?_)
  | (with_reducible refine' go_and ?_)
  | (with_reducible refine' go_or ?_)
  | (with_reducible refine' go_not ?_)
  | (with_reducible refine' go_andV ?_)
  | (with_reducible refine' go_orV ?_)
  | (with_reducible refine' go_notV ?_)
  | (with_reducible refine' go_if ?_)
  | (with_reducible refine' go_chain ?_)
  | (with_reducible refine' iteT ?_)
  | (with_reducible refine' iteF ?_)
  | ((with_reducible refine' go_Td ?h ?_); (case h => walk_at "pr"))
  | ((with_reducible refine' go_Fd ?h ?_); (case h => walk_at "pr"))
  | ((with_reducible refine' go_Tn ?h ?_); (case h => walk_at "pr"))
  | ((with_reducible refine' go_Fn ?h ?_); (case h => walk_at "pr"))
  | ((with_reducible refine' go_T ?h ?_); (case h => (first | decide | assumption | exact rfl)))
  | ((with_reducible refine' go_F ?h ?_); (case h => (first | decide | assumption | exact rfl)))
  | (with_reducible refine' go_nil ?_)
  | (with_reducible refine' go_cons ?_)
  | (with_reducible refine' go_tLst ?_)
  | (with_reducible refine' go_tTup ?_)
  | ((with_reducible refine' go_LstK ?h ?_); (case h => walk_at "z"); intro p H1 n1)
  | ((with_reducible refine' go_TupK ?h ?_); (case h => walk_at "z"); intro p H1 n1)
  | (with_reducible refine' go_addI ?_)
  | ((with_reducible refine' go_addL ?h ?k ?z ?_); (case h => walk_at "h"); (case k => walk_at "h"); (case z => walk_at "z"); intro p H1 n1)
  | (with_reducible refine' go_sub ?_)
  | ((with_reducible refine' go_mulI ?h ?_); (case h => (unfold CMul; omega)))
  | ((with_reducible refine' go_mulL ?h ?k ?_); (case h => walk_at "h"); (case k => (refine ⟨by omega, by omega, ?_⟩; walk_at "z")); intro p H1 n1)
  | ((with_reducible refine' go_div ?h ?_); (case h => (unfold CDiv; omega)))
  | ((with_reducible refine' go_mod ?h ?_); (case h => omega))
  | (with_reducible refine' go_p109 ?_)
  | (with_reducible refine' go_p1020 ?_)
  | ((with_reducible refine' go_pow ?h ?_); (case h => (unfold CPow; omega)))
  | (with_reducible refine' go_lt ?_)
  | (with_reducible refine' go_le ?_)
  | (with_reducible refine' go_gt ?_)
  | (with_reducible refine' go_ge ?_)
  | (with_reducible refine' go_eqI ?_)
  | (with_reducible refine' go_eqB ?_)
  | (with_reducible refine' go_eqS ?_)
  | (with_reducible refine' go_neI ?_)
  | (with_reducible refine' go_neB ?_)
  | (with_reducible refine' go_neS ?_)
  | (with_reducible refine' go_isN ?_)
  | (with_reducible refine' go_isNotN ?_)
  | (with_reducible refine' go_isB ?_)
  | (with_reducible refine' go_isNotB ?_)
  | (with_reducible refine' go_sl ?_)
  | (with_reducible refine' go_noPart ?_)
  | (with_reducible refine' go_part ?_)
  | (with_reducible refine' go_intK ?_)
  | ((with_reducible refine' go_slL ?h ?_); (case h => walk_at "h"); intro p H1 n1)
  | ((with_reducible refine' go_ixL ?h ?k ?_); (case h => walk_at "h"); (case k => exact rfl))
  | ((with_reducible refine' go_ixT ?h ?k ?_); (case h => walk_at "h"); (case k => exact rfl))
  | ((with_reducible refine' go_slW ?h ?_); (case h => walk_at "h"))
  | (with_reducible refine' go_bm ?_)
  | (with_reducible refine' go_bm0 ?_)
  | ((with_reducible refine' go_bmL ?h ?_); (case h => walk_at "h"))
  | ((with_reducible refine' go_append ?h ?k ?_); (case h => walk_at "h"); (case k => walk_at "z"); intro H1 n1)
  | ((with_reducible refine' go_extend ?h ?k ?z ?_); (case h => walk_at "h"); (case k => walk_at "h"); (case z => walk_at "z"); intro H1 n1)
  | ((with_reducible refine' go_clear ?h ?_); (case h => walk_at "h"); intro H1 n1)
  | ((with_reducible refine' go_dnew ?_); intro p H1 n1)
  | (with_reducible refine' go_cb ?_)
  | (with_reducible refine' go_callS ?_)
  | (with_reducible refine' go_call0 ?_)
  | ((with_reducible refine' go_lenL ?h ?_); (case h => walk_at "h"))
  | ((with_reducible refine' go_lenT ?h ?_); (case h => walk_at "h"))
  | ((with_reducible refine' go_lenK ?h ?_); (case h => walk_at "hk"))
  | ((with_reducible refine' go_listL ?h ?_); (case h => walk_at "h"); intro p H1 n1)
  | ((with_reducible refine' go_listT ?h ?_); (case h => walk_at "h"); intro p H1 n1)
  | ((with_reducible refine' go_tupleL ?h ?_); (case h => walk_at "h"); intro p H1 n1)
  | (with_reducible refine' go_intI ?_)
  | (with_reducible refine' go_intB ?_)
  | (with_reducible refine' go_abs ?_)
  | (with_reducible refine' go_min2 ?_)
  | (with_reducible refine' go_max2 ?_)
  | ((with_reducible refine' go_isi ?h ?k ?_); (case h => walk_at "ty"); (case k => exact kit_bb (by decide) (by decide)))
  | (with_reducible refine' go_lc ?_)
  | (with_reducible refine' go_for ?_)
  | (with_reducible refine' go_seqP ?_)
  | ((with_reducible refine' go_seqL ?h ?_); (case h => walk_at "h"))
  | ((with_reducible refine' go_seqT ?h ?_); (case h => walk_at "h"))
  | (with_reducible refine' go_seqS ?_)
  | (with_reducible refine' go_rng1 ?_)
  | (with_reducible refine' go_rng2 ?_)
  | ((with_reducible refine' go_rng1K ?h ?_); (case h => omega))
  | ((with_reducible refine' go_rng2K ?h ?_); (case h => omega))
  | (with_reducible refine' go_raise ?_)
  | ((with_reducible refine' go_tupG ?h ?k ?_); (case h => walk_at "h"); (case k => exact rfl))
  | ((with_reducible refine' go_lstG ?h ?k ?_); (case h => walk_at "h"); (case k => exact rfl))
  | (with_reducible refine' go_gNil ?_)
  | (with_reducible refine' go_tryAs ?_)
  | (with_reducible refine' go_tryMany1 ?_)
  | (with_reducible refine' go_tryMany2 ?_)
  | (with_reducible refine' go_WM ?_)
  | ((with_reducible refine' go_asT ?_); intro e he)
  | (with_reducible refine' go_asF ?_)
  | ((with_reducible refine' go_manyT ?_); intro e he)
  | (with_reducible refine' go_manyF ?_)
  | (with_reducible refine' go_manyN ?_)
  | (with_reducible refine' go_fld ?_)
  | ((with_reducible refine' go_FldK ?h ?c ?n ?l ?_); (case h => walk_at "h"); (case c => infer_instance); (case n => infer_instance); (case l => exact rfl))
  | (with_reducible refine' go_sfld ?_)
  | ((with_reducible refine' go_SFldK ?h ?c ?n ?l ?e ?_); (case h => walk_at "h"); (case c => infer_instance); (case n => infer_instance); (case l => exact Nat.le_of_ble_eq_true rfl); (case e => walk_at "pf"); intro H1 n1)
  | (with_reducible refine' go_meth ?_)
  | ((with_reducible refine' go_MethK 0 ?h ?l ?e ?_); (case h => walk_at "h"); (case l => exact rfl); (case e => exact rfl))
  | ((with_reducible refine' go_MethK 1 ?h ?l ?e ?_); (case h => walk_at "h"); (case l => exact rfl); (case e => exact rfl))
  | ((with_reducible refine' go_MethK 2 ?h ?l ?e ?_); (case h => walk_at "h"); (case l => exact rfl); (case e => exact rfl))
  | (with_reducible refine' go_make ?_)
  | (with_reducible refine' go_callX ?_)
  | (with_reducible refine' go_methX ?_)
  | ((with_reducible refine' go_MethXK ?h ?l ?_); (case h => walk_at "h"); (case l => exact rfl))
  | (with_reducible refine' go_dget ?_)
  | ((with_reducible refine' go_DGetS ?h ?l ?_); (case h => walk_at "h"); (case l => exact rfl))
  | (with_reducible refine' go_dput ?_)
  | ((with_reducible refine' go_DPutS ?h ?l ?e ?_); (case h => walk_at "h"); (case l => exact Nat.le_of_ble_eq_true rfl); (case e => walk_at "pk"); intro H1 n1)
  | ((with_reducible refine' go_disp ?_); intro p H1 n1)
  | (with_reducible refine' go_pairs ?_)
  | (with_reducible refine' go_pairs0 ?_)
  | ((with_reducible refine' go_DispS ?h ?e ?l ?k ?j ?m ?_); (case h => walk_at "h"); (case e => exact rfl); (case l => exact Nat.le_of_ble_eq_true rfl); (case k => (simp only [unS]; exact rfl)); (case j => (simp only [List.map_cons, List.map_nil]; exact rfl)); (case m => decide +kernel); intro H1 n1)
  | (with_reducible refine' go_par ?_)
  | ((with_reducible refine' go_ParK ?h ?_); (case h => (simp only [List.set_cons_zero, List.set_cons_succ]; exact rfl)))
  | (with_reducible refine' go_sub_ ?_)
  | ((with_reducible refine' go_setLi ?h ?k ?_); (case h => walk_at "h"); (case k => walk_at "ix"); intro H1 n1)
  | (with_reducible refine' go_listY ?_)
  | ((with_reducible refine' go_listYL ?h ?_); (case h => walk_at "h"))
  | (with_reducible refine' go_bmS ?_)
  | (with_reducible refine' go_ckw ?_)
  | ((with_reducible refine' go_maxD ?h ?_); (case h => walk_at "h"))
  | (with_reducible refine' go_listR ?_)
  | (with_reducible refine' go_rg2 ?_)
  | (with_reducible refine' go_Rg2K ?_)
  | (with_reducible refine' go_rg1 ?_)
  | (with_reducible refine' go_Rg1K ?_)
  | ((with_reducible refine' go_ListRK ?h ?_); (case h => omega); intro p H1 n1)
  | (with_reducible refine' go_enum ?_)
  | ((with_reducible refine' go_EnumL ?h ?_); (case h => walk_at "h"))
  | (with_reducible refine' go_isX ?_)
  | (with_reducible refine' go_isXt ?_)
  | (with_reducible refine' go_din ?_)
  | (with_reducible refine' go_dnotin ?_)
  | ((with_reducible refine' go_DInI ?h ?_); (case h => walk_at "h"))
  | ((with_reducible refine' go_DNotInI ?h ?_); (case h => walk_at "h"))
  | (with_reducible refine' go_dget2 ?_)
  | ((with_reducible refine' go_DGet2K ?h ?_); (case h => walk_at "h"))
  | (with_reducible refine' go_dpop1 ?_)
  | ((with_reducible refine' go_eqDE ?h ?k ?_); (case h => walk_at "h"); (case k => walk_at "h"))
  | ((with_reducible refine' go_neDE ?h ?k ?_); (case h => walk_at "h"); (case k => walk_at "h"))
  | (with_reducible refine' go_chain3 ?_)
  | (with_reducible refine' go_LinkT ?_)
  | (with_reducible refine' go_LinkF ?_)
  | (with_reducible refine' go_Link2T ?_)
  | (with_reducible refine' go_Link2F ?_)
  | (with_reducible refine' go_gSl ?_)
  | ((with_reducible refine' go_insert ?h ?k ?l ?m ?_); (case h => walk_at "h"); (case k => walk_at "z"); (case l => omega); (case m => omega); intro H1 n1)
  | (with_reducible refine' go_gCons ?_))
local macro_rules | `(tactic| walk_at "pf") => `(tactic| first
  | exact putF_nil
  | exact putF_hit
  | (refine' putF_miss ?h ?k; (case h => decide +kernel); (case k => walk_at "pf")))
local macro_rules | `(tactic| walk_at "pk") => `(tactic| first
  | exact putK_nil
  | exact putK_hit (by (simp only [List.map_cons, List.map_nil]; decide +kernel))
  | (refine' putK_miss ?h ?k; (case h => decide +kernel); (case k => walk_at "pk")))
local macro_rules | `(tactic| walk_at "ix") => `(tactic| first
  | assumption
  | omega
  | (simp only [List.length_cons, List.length_nil, List.length_append, List.length_map, List.length_range, List.length_replicate, List.length_set] at *; omega))
local macro_rules | `(tactic| walk_at "pr") => `(tactic| first
  | assumption
  | decide
  | omega
  | exact rfl
  | (intro z; cases z; done))
local macro_rules | `(tactic| walk_at "hk") => `(tactic| first
  | assumption
  | exact seq' (by assumption) (by walk_at "sm"))
local macro_rules | `(tactic| walk_at "ty") => `(tactic| first
  | exact rfl
  | assumption
  | exact tyN_L (by walk_at "h")
  | exact tyN_T (by walk_at "h")
  | exact tyN_D (by walk_at "h"))
local macro_rules | `(tactic| walk_at "go") => `(tactic| repeat (walk_at "s"))
/-! ### words, rows, disks: what the program's own defs do -/
def isW : V → Bool
  | .int i => decide (0 ≤ i) && decide (i ≤ 999999999)
  | _ => false
def isR (xs : List V) : Bool := decide ((xs.length : Int) = 16) && xs.all isW
/-- a row of sixteen words -/
def GoodRow (row : List Int) : Prop := row.length = 16 ∧ ∀ z ∈ row, 0 ≤ z ∧ z ≤ 999999999
theorem GoodRow.isR {row : List Int} (h : GoodRow row) : isR (row.map V.int) = true := by
  unfold Bk.isR
  rw [Bool.and_eq_true]
  refine ⟨decide_eq_true (by rw [List.length_map, h.1]; rfl), List.all_eq_true.mpr fun y hy => ?_⟩
  obtain ⟨z, hz, rfl⟩ := List.mem_map.mp hy
  have := h.2 z hz
  simp [isW, this.1, this.2]
theorem good_zero : GoodRow (List.replicate 16 0) := ⟨by simp, fun z hz => by rw [List.eq_of_mem_replicate hz]; omega⟩
section
variable {K : PySem.W.Frag} {a : Ac} {H : Hp} {Q : VK} {E : XK} [F : Fc K a]
omit F
theorem p_is_word {x : V} {n : String} (h : tyN H x = some n) (q : Q (.bl (isW x)) H) : sp_is_word K a [x] H Q E := by
  refine in_is_word ?_
  unfold t_is_word
  cases x with
  | int i =>
    walk_at "go"
    refine go_dec (fun c => ?_) (fun c => ?_)
    all_goals walk_at "go"
    all_goals (simpa [isW, c] using q)
  | bl b => walk_at "go"; exact q
  | non => walk_at "go"; exact q
  | str s => walk_at "go"; exact q
  | ref p =>
    rcases kindR h with ⟨rfl, xs, e⟩ | ⟨rfl, xs, e⟩ | ⟨rfl, kvs, e⟩
    all_goals (walk_at "go"; exact q)
  | _ => cases h
theorem all_bls (xs : List V) : (xs.map isW).all id = xs.all isW := by rw [List.all_map]; rfl
theorem p_is_rowL {p : Addr} {xs : List V} (h : H p = some (.lst xs)) (hk : ∀ y ∈ xs, ∃ n, tyN H y = some n) (hz : xs.length ≤ 1000) (q : ∀ H', Same H H' → Q (.bl (isR xs)) H') : sp_is_row K a [.ref p] H Q E := by
  refine in_is_row ?_
  unfold t_is_row
  walk_at "go"
  refine go_dec (fun c => ?_) (fun c => ?_)
  all_goals walk_at "go"
  · refine lc_mapL (f := fun y => .bl (isW y)) h (by rw [sizeLine_eq]; omega) (fun i x H' Q' hx s q' => ?_) (fun D H2 hD s hd => ?_)
    · obtain ⟨n, e⟩ := hk x (List.mem_of_getElem? hx)
      walk_at "go"
      exact p_is_word (tyN_same s e) (q' _ (Same.refl _))
    · refine go_all (bs := xs.map isW) (by rw [hd, List.map_map]; rfl) ?_
      rw [all_bls]
      have := q _ s
      rwa [isR, decide_eq_true c, Bool.true_and] at this
  · have := q _ (Same.refl _)
    rwa [isR, decide_eq_false c, Bool.false_and] at this
/-- what is no list is no row -/
theorem p_is_rowN {x : V} {n : String} (h : tyN H x = some n) (hn : n ≠ "list") (q : Q (.bl false) H) : sp_is_row K a [x] H Q E := by
  refine in_is_row ?_
  unfold t_is_row
  cases x with
  | int i => walk_at "go"; exact q
  | bl b => walk_at "go"; exact q
  | non => walk_at "go"; exact q
  | str s => walk_at "go"; exact q
  | ref p =>
    rcases kindR h with ⟨rfl, xs, e⟩ | ⟨rfl, xs, e⟩ | ⟨rfl, kvs, e⟩
    · exact absurd rfl hn
    all_goals (walk_at "go"; exact q)
  | _ => cases h
/-- what a thing says as a row -/
def RowIs (H : Hp) (x : V) (ok : Option (List Int)) : Prop := (∃ p xs, x = .ref p ∧ H p = some (.lst xs) ∧ (∀ y ∈ xs, ∃ n, tyN H y = some n) ∧ xs.length ≤ 1000 ∧ ((∃ row, GoodRow row ∧ xs = row.map V.int ∧ ok = some row) ∨ (isR xs = false ∧ ok = none))) ∨ (∃ n, tyN H x = some n ∧ n ≠ "list" ∧ ok = none)
theorem RowIs.same {H' : Hp} {x : V} {ok : Option (List Int)} (h : RowIs H x ok) (s : Same H H') : RowIs H' x ok := by
  rcases h with ⟨p, xs, rfl, h, k, z, e⟩ | ⟨n, h, k, e⟩
  · exact .inl ⟨p, xs, rfl, s _ _ h, fun y hy => let ⟨n, e⟩ := k y hy; ⟨n, tyN_same s e⟩, z, e⟩
  · exact .inr ⟨n, tyN_same s h, k, e⟩
theorem RowIs.good {p : Addr} {row : List Int} (h : H p = some (.lst (row.map V.int))) (g : GoodRow row) : RowIs H (.ref p) (some row) :=
  .inl ⟨p, _, rfl, h, fun y hy => by obtain ⟨z, _, rfl⟩ := List.mem_map.mp hy; exact ⟨_, rfl⟩, by rw [List.length_map, g.1]; omega, .inl ⟨row, g, rfl, rfl⟩⟩
/-- a list of ints that is no row -/
theorem RowIs.bad {p : Addr} {row : List Int} (h : H p = some (.lst (row.map V.int))) (hz : row.length ≤ 1000) (g : isR (row.map V.int) = false) : RowIs H (.ref p) none :=
  .inl ⟨p, _, rfl, h, fun y hy => by obtain ⟨z, _, rfl⟩ := List.mem_map.mp hy; exact ⟨_, rfl⟩, by rw [List.length_map]; exact hz, .inr ⟨g, rfl⟩⟩
theorem p_need_row {x : V} {ok : Option (List Int)} (h : RowIs H x ok) (q : ∀ row, ok = some row → GoodRow row → ∀ p H', Same H H' → H p = none → H' p = some (.lst (row.map V.int)) → Q (.ref p) H') (b : ok = none → ∀ H', Same H H' → E (.ref a.BadRow) none H') : sp_need_row K a [x] H Q E := by
  refine in_need_row ?_
  unfold t_need_row
  rcases h with ⟨p, xs, rfl, h, k, z, ⟨row, g, rfl, rfl⟩ | ⟨g, rfl⟩⟩ | ⟨n, h, k, rfl⟩
  · walk_at "go"
    refine p_is_rowL h k z fun H' s => ?_
    rw [g.isR]
    walk_at "go"
    rename_i p2 H2 n2
    exact q row rfl g p2 H2 (s.trans n2.same) (s.free n2.free) n2.at
  · walk_at "go"
    refine p_is_rowL h k z fun H' s => ?_
    rw [g]
    walk_at "go"
    exact b rfl H' s
  · walk_at "go"
    refine p_is_rowN h k ?_
    walk_at "go"
    exact b rfl H (Same.refl _)
theorem p_empty_row (q : ∀ p H1, Same H H1 → H p = none → H1 p = some (.lst ((List.replicate 16 (0 : Int)).map V.int)) → Q (.ref p) H1) : sp_empty_row K a [] H Q E := by
  refine in_empty_row ?_
  unfold t_empty_row
  walk_at "go"
  rename_i p H1 n1 p2 H2 n2
  exact q p2 H2 (n1.same.trans n2.same) (n1.same.free n2.free) n2.at
/-- a count of blocks, a block of n -/
def isMany : V → Bool
  | .int i => decide (24 ≤ i) && decide (i ≤ 96)
  | _ => false
def isBlk (n : Nat) : V → Bool
  | .int i => decide (0 ≤ i) && decide (i < n)
  | _ => false
theorem p_is_many {x : V} {n : String} (h : tyN H x = some n) (q : Q (.bl (isMany x)) H) : sp_is_many K a [x] H Q E := by
  refine in_is_many ?_
  unfold t_is_many
  cases x with
  | int i =>
    walk_at "go"
    refine go_dec (fun c => ?_) (fun c => ?_)
    all_goals walk_at "go"
    all_goals (simpa [isMany, c] using q)
  | bl b => walk_at "go"; exact q
  | non => walk_at "go"; exact q
  | str s => walk_at "go"; exact q
  | ref p =>
    rcases kindR h with ⟨rfl, xs, e⟩ | ⟨rfl, xs, e⟩ | ⟨rfl, kvs, e⟩
    all_goals (walk_at "go"; exact q)
  | _ => cases h
/-- a disk as it stands -/
structure DiskAt (a : Ac) (H : Hp) (d r : Addr) (ps : List Addr) (R : List (List Int)) (done : Int) (left : V) : Prop where
  dd : ∃ dx, H d = some (.ins a.Disk dx [("rows", .ref r), ("done", .int done), ("left", left)])
  rr : H r = some (.lst (ps.map V.ref))
  len : ps.length = R.length
  row : ∀ (i : Nat) (p : Addr), ps[i]? = some p → ∃ row, R[i]? = some row ∧ H p = some (.lst (row.map V.int))
  many : 24 ≤ R.length ∧ R.length ≤ 96
  good : ∀ row ∈ R, GoodRow row
  left : left = .non ∨ ∃ k : Int, left = .int k
variable {d r : Addr} {ps : List Addr} {R : List (List Int)} {done : Int} {left : V}
theorem DiskAt.chg {H' : Hp} {S : List Addr} (h : DiskAt a H d r ps R done left) (c : Chg S H H') (hd : d ∉ S) (hr : r ∉ S) (hp : ∀ p ∈ ps, p ∉ S) : DiskAt a H' d r ps R done left :=
  ⟨let ⟨dx, e⟩ := h.dd; ⟨dx, c.at hd e⟩, c.at hr h.rr, h.len, fun i p e => let ⟨row, e1, e2⟩ := h.row i p e; ⟨row, e1, c.at (hp p (List.mem_of_getElem? e)) e2⟩, h.many, h.good, h.left⟩
theorem DiskAt.same {H' : Hp} (h : DiskAt a H d r ps R done left) (s : Same H H') : DiskAt a H' d r ps R done left := h.chg (S := []) (.of s) ni_nil ni_nil fun _ _ => ni_nil
/-- the row of a block -/
theorem DiskAt.at {i : Nat} (h : DiskAt a H d r ps R done left) (hi : i < R.length) : ∃ p row, ps[i]? = some p ∧ R[i]? = some row ∧ H p = some (.lst (row.map V.int)) ∧ GoodRow row := by
  have e : ps[i]? = some (ps[i]'(by rw [h.len]; exact hi)) := List.getElem?_eq_getElem _
  obtain ⟨row, e1, e2⟩ := h.row i _ e
  exact ⟨_, row, e, e1, e2, h.good row (List.mem_of_getElem? e1)⟩
/-- no place of the disk's rows is one of its own two -/
theorem DiskAt.apart (h : DiskAt a H d r ps R done left) : d ≠ r ∧ ∀ p ∈ ps, p ≠ d ∧ p ≠ r := by
  obtain ⟨dx, e⟩ := h.dd
  have hm := h.many
  refine ⟨ne_obj e h.rr (by simp), fun p hp => ?_⟩
  obtain ⟨i, hi⟩ := List.mem_iff_getElem?.mp hp
  obtain ⟨row, e1, e2⟩ := h.row i p hi
  have g := h.good row (List.mem_of_getElem? e1)
  refine ⟨ne_obj e2 e (by simp), ne_obj e2 h.rr fun z => ?_⟩
  have z1 : row.map V.int = ps.map V.ref := by injection z
  cases row with
  | nil => have := g.1; simp at this
  | cons x t =>
    cases ps with
    | nil => simp at z1
    | cons y u => simp at z1
/-- a list of ints is none of a disk's two places; an object that is no list of a row's kind is none of its rows -/
theorem DiskAt.neRow {p : Addr} {ns : List Int} (h : DiskAt a H d r ps R done left) (e : H p = some (.lst (ns.map V.int))) : p ≠ d ∧ p ≠ r := by
  obtain ⟨dx, e1⟩ := h.dd
  have hm := h.many
  refine ⟨ne_obj e e1 (by simp), ne_obj e h.rr fun z => ?_⟩
  have z1 : ns.map V.int = ps.map V.ref := by injection z
  have hl := h.len
  cases ps with
  | nil => simp at hl; omega
  | cons y u => cases ns <;> simp at z1
def NotInts (H : Hp) (b : Addr) : Prop := ∀ ns : List Int, ns ≠ [] → H b ≠ some (.lst (ns.map V.int))
theorem DiskAt.chg2 {H' : Hp} {S : List Addr} (h : DiskAt a H d r ps R done left) (c : Chg S H H') (hd : d ∉ S) (hr : r ∉ S) (hS : ∀ b ∈ S, NotInts H b) : DiskAt a H' d r ps R done left :=
  h.chg c hd hr fun p hp z => by
    obtain ⟨i, hi⟩ := List.mem_iff_getElem?.mp hp
    obtain ⟨row, e1, e2⟩ := h.row i p hi
    have g := (h.good row (List.mem_of_getElem? e1)).1
    exact hS p z row (by intro z; rw [z] at g; simp at g) e2
theorem NotInts.ins {b C dx : Addr} {fs : List (Str × V)} (h : H b = some (.ins C dx fs)) : NotInts H b := fun ns _ e => by rw [h] at e; simp at e
theorem NotInts.refs {b : Addr} {ps : List Addr} (h : H b = some (.lst (ps.map V.ref))) : NotInts H b := fun ns hn e => by
  rw [h] at e
  have z : ps.map V.ref = ns.map V.int := by injection e with e; injection e
  cases ns with
  | nil => exact hn rfl
  | cons x t => cases ps <;> simp at z
theorem NotInts.dict {b : Addr} {kvs : List (Key × V)} (h : H b = some (.dK kvs)) : NotInts H b := fun ns _ e => by rw [h] at e; simp at e
def NotTup (H : Hp) (b : Addr) : Prop := ∀ xs, H b ≠ some (.tup xs)
theorem NotTup.ins {b C dx : Addr} {fs : List (Str × V)} (h : H b = some (.ins C dx fs)) : NotTup H b := fun xs e => by rw [h] at e; simp at e
theorem NotTup.lst {b : Addr} {ys : List V} (h : H b = some (.lst ys)) : NotTup H b := fun xs e => by rw [h] at e; simp at e
theorem NotTup.dict {b : Addr} {kvs : List (Key × V)} (h : H b = some (.dK kvs)) : NotTup H b := fun xs e => by rw [h] at e; simp at e
theorem DiskAt.ownT (h : DiskAt a H d r ps R done left) : ∀ b ∈ [d, r], NotTup H b := fun b hb => by
  obtain ⟨dx, e⟩ := h.dd
  rcases List.mem_cons.mp hb with rfl | hb
  · exact .ins e
  · rw [List.mem_singleton.mp hb]; exact .lst h.rr
theorem DiskAt.own (h : DiskAt a H d r ps R done left) : ∀ b ∈ [d, r], NotInts H b := fun b hb => by
  obtain ⟨dx, e⟩ := h.dd
  rcases List.mem_cons.mp hb with rfl | hb
  · exact .ins e
  · rw [List.mem_singleton.mp hb]; exact .refs h.rr
end
section
variable {K : PySem.W.Frag} {a : Ac} {H : Hp} {Q : VK} {E : XK} [F : Fc K a] {d r : Addr} {ps : List Addr} {R : List (List Int)} {done : Int} {left : V}
theorem mk_Disk {n : Int} (hn : 24 ≤ n ∧ n ≤ 96) (q : ∀ d r ps H', Same H H' → H d = none → H r = none → (∀ p ∈ ps, H p = none) → DiskAt a H' d r ps (List.replicate n.toNat (List.replicate 16 0)) 0 .non → Q (.ref d) H') : MakeK a.Disk (sp_Disk_init K a) E Q [.int n] H := by
  refine go_MakeK fun dx H1 x H2 n1 n2 => ?_
  refine in_Disk_init ?_
  unfold t_Disk_init
  walk_at "go"
  refine p_is_many rfl ?_
  rw [show isMany (.int n) = true by simp [isMany, hn.1, hn.2]]
  walk_at "go"
  refine lc_newR (o := fun _ => .lst ((List.replicate 16 (0 : Int)).map V.int)) (by rw [sizeLine_eq]; omega) (fun i H' Q' hi s q' => ?_) (fun D ps H3 hD s hl w hd => ?_)
  · walk_at "go"
    exact p_empty_row fun p H1 s2 hp hp2 => q' p H1 s2 hp hp2
  · walk_at "go"
    rename_i H4 w4 H5 w5 H6 w6
    have sx : Same H H3 := n1.same.trans (n2.same.trans s)
    have xf : H x = none := n1.same.free n2.free
    have c6 : Chg [x] H3 H6 := ((Chg.wr w4 (by simp)).trans (Chg.wr w5 (by simp))).trans (Chg.wr w6 (by simp))
    have Df : H D = none := (n1.same.trans n2.same).free hD
    have xD : x ≠ D := ne_none hD n2.at
    have pf : ∀ p ∈ ps, H p = none := fun p hp => (n1.same.trans n2.same).free (w.free p hp)
    have px : ∀ p ∈ ps, p ≠ x := fun p hp e => by have := w.free p hp; rw [e, n2.at] at this; cases this
    refine ⟨rfl, q x D ps H6 (Chg.same (Chg.drop ((Chg.of sx).trans c6) xf)) xf Df pf ⟨⟨dx, w6.at⟩, c6.at (by simpa using Ne.symm xD) hd, by rw [hl]; simp, fun i p e => ?_, by simp; omega, fun row hr => ?_, .inl rfl⟩⟩
    · have hi : i < n.toNat := by have := (List.getElem?_eq_some_iff.mp e).1; omega
      exact ⟨_, by rw [List.getElem?_replicate, if_pos hi], c6.at (by simpa using px p (List.mem_of_getElem? e)) (w.at_ i p e)⟩
    · rw [List.eq_of_mem_replicate hr]; exact good_zero
theorem mk_DiskBad {x : V} {n : String} (h : tyN H x = some n) (hx : isMany x = false) (b : ∀ H', Same H H' → E (.ref a.BadDisk) none H') : MakeK a.Disk (sp_Disk_init K a) E Q [x] H := by
  refine go_MakeK fun dx H1 y H2 n1 n2 => ?_
  refine in_Disk_init ?_
  unfold t_Disk_init
  walk_at "go"
  refine p_is_many (tyN_same (n1.same.trans n2.same) h) ?_
  rw [hx]
  walk_at "go"
  exact b _ (n1.same.trans n2.same)
theorem p_blocks (h : DiskAt a H d r ps R done left) (q : Q (.int R.length) H) : sp_Disk_blocks K a [.ref d] H Q E := by
  refine in_Disk_blocks ?_
  unfold t_Disk_blocks
  obtain ⟨dx, e⟩ := h.dd
  have e2 := h.rr
  walk_at "go"
  rw [List.length_map, h.len]
  exact q
theorem p_writes (h : DiskAt a H d r ps R done left) (q : Q (.int done) H) : sp_Disk_writes K a [.ref d] H Q E := by
  refine in_Disk_writes ?_
  unfold t_Disk_writes
  obtain ⟨dx, e⟩ := h.dd
  walk_at "go"
  exact q
theorem p_need {x : V} {n : String} (h : DiskAt a H d r ps R done left) (hx : tyN H x = some n) (q : isBlk R.length x = true → Q .non H) (b : isBlk R.length x = false → E (.ref a.NoBlock) none H) : sp_Disk_need K a [.ref d, x] H Q E := by
  refine in_Disk_need ?_
  unfold t_Disk_need
  obtain ⟨dx, e⟩ := h.dd
  have e2 := h.rr
  have hl := h.len
  cases x with
  | int i =>
    walk_at "go"
    refine go_dec (fun c => ?_) (fun c => ?_)
    all_goals walk_at "go"
    · rw [List.length_map, hl]
      refine go_decN (fun c2 => ?_) (fun c2 => ?_)
      all_goals walk_at "go"
      · exact b (by simp [isBlk, c, c2])
      · exact q (by simp [isBlk, c, c2])
    · exact b (by simp [isBlk, c])
  | bl v => walk_at "go"; exact b rfl
  | non => walk_at "go"; exact b rfl
  | str s => walk_at "go"; exact b rfl
  | ref p =>
    rcases kindR hx with ⟨rfl, xs, e⟩ | ⟨rfl, xs, e⟩ | ⟨rfl, kvs, e⟩
    all_goals (walk_at "go"; exact b rfl)
  | _ => cases hx
theorem isBlk_of {n : Nat} {i : Int} (h : 0 ≤ i) (k : i < n) : isBlk n (.int i) = true := by simp [isBlk, h, k]
theorem isBlk_int {n : Nat} {x : V} (h : isBlk n x = true) : ∃ i : Int, x = .int i ∧ 0 ≤ i ∧ i < n := by
  cases x with
  | int i => exact ⟨i, rfl, by simpa [isBlk] using h⟩
  | _ => cases h
theorem p_read {i : Int} {row : List Int} (h : DiskAt a H d r ps R done left) (hi : 0 ≤ i) (hr : R[i.toNat]? = some row) (q : ∀ p H', Same H H' → H p = none → H' p = some (.lst (row.map V.int)) → Q (.ref p) H') : sp_Disk_read K a [.ref d, .int i] H Q E := by
  refine in_Disk_read ?_
  unfold t_Disk_read
  obtain ⟨dx, e⟩ := h.dd
  have e2 := h.rr
  have hlt : i.toNat < R.length := (List.getElem?_eq_some_iff.mp hr).1
  obtain ⟨p, row', f1, f2, f3, f4⟩ := h.at hlt
  rw [hr] at f2; cases f2
  walk_at "go"
  refine p_need h rfl (fun _ => ?_) (fun c => ?_)
  · walk_at "go"
    refine go_ixAt e2 hi (v := .ref p) (by rw [List.getElem?_map, f1]; rfl) ?_
    walk_at "go"
    rename_i p2 H2 n2
    exact q p2 H2 n2.same n2.free n2.at
  · have : isBlk R.length (.int i) = true := by simp [isBlk, hi]; omega
    rw [this] at c; cases c
theorem p_readBad {x : V} {n : String} (h : DiskAt a H d r ps R done left) (hx : tyN H x = some n) (hb : isBlk R.length x = false) (b : E (.ref a.NoBlock) none H) : sp_Disk_read K a [.ref d, x] H Q E := by
  refine in_Disk_read ?_
  unfold t_Disk_read
  obtain ⟨dx, e⟩ := h.dd
  walk_at "go"
  refine p_need h hx (fun c => ?_) (fun c => b)
  rw [hb] at c; cases c
/-- what is left behind a write -/
def lessV : V → V
  | .int k => .int (k - 1)
  | x => x
theorem p_write {x y : V} {n : String} {ok : Option (List Int)} (h : DiskAt a H d r ps R done left) (hx : tyN H x = some n) (hy : RowIs H y ok)
    (q : ∀ i row, x = .int i → 0 ≤ i → i < R.length → ok = some row → left ≠ .int 0 → ∀ p H', Chg [d, r] H H' → H p = none → DiskAt a H' d r (ps.set i.toNat p) (R.set i.toNat row) (done + 1) (lessV left) → Q .non H')
    (b1 : isBlk R.length x = false → E (.ref a.NoBlock) none H) (b2 : isBlk R.length x = true → ok = none → ∀ H', Same H H' → E (.ref a.BadRow) none H')
    (b3 : isBlk R.length x = true → ok ≠ none → left = .int 0 → ∀ H', Same H H' → E (.ref a.Stopped) none H') : sp_Disk_write K a [.ref d, x, y] H Q E := by
  refine in_Disk_write ?_
  unfold t_Disk_write
  have hap := h.apart
  obtain ⟨dx, e⟩ := h.dd
  have e2 := h.rr
  have hl := h.len
  walk_at "go"
  refine p_need h hx (fun c => ?_) b1
  obtain ⟨i, rfl, i0, i1⟩ := isBlk_int c
  have ndr := hap.1
  have hix : 0 ≤ i ∧ i < ((ps.map V.ref).length : Nat) := ⟨i0, by rw [List.length_map]; omega⟩
  walk_at "go"
  refine p_need_row hy (fun row eo g p H1 s1 hp hp1 => ?_) (fun eo H1 s1 => b2 c eo H1 s1)
  have h1 := h.same s1
  have fin : ∀ {H2 : Hp} (left2 : V), left2 = lessV left → H2 d = some (.ins a.Disk dx [("rows", .ref r), ("done", .int done), ("left", left2)]) → Chg [d, r] H1 H2 → H2 r = some (.lst (ps.map V.ref)) → left ≠ .int 0 →
      (∀ H3, Wr H2 r (.lst ((ps.map V.ref).set i.toNat (.ref p))) H3 → ∀ H4, Wr H3 d (.ins a.Disk dx [("rows", .ref r), ("done", .int (done + 1)), ("left", left2)]) H4 → Q .non H4) := by
    intro H2 left2 el hd2 c2 hr2 nl H3 w3 H4 w4
    subst el
    have c4 : Chg [d, r] H1 H4 := (c2.trans (Chg.wr w3 (by simp))).trans (Chg.wr w4 (by simp))
    have pd : p ≠ d := fun z => by rw [z, e] at hp; cases hp
    have pr : p ≠ r := fun z => by rw [z, e2] at hp; cases hp
    refine q i row rfl i0 i1 eo nl p H4 ((Chg.of s1).trans c4) hp ⟨⟨dx, w4.at⟩, w4.old (Ne.symm hap.1) (by rw [w3.at, List.map_set]), by simp [hl], fun j p' ej => ?_, by simpa using h.many, fun row' hr' => ?_, ?_⟩
    · by_cases hj : i.toNat = j
      · subst hj
        rw [List.getElem?_set_self (by omega)] at ej
        cases ej
        exact ⟨row, by rw [List.getElem?_set_self (by omega)], c4.at (by simp [pd, pr]) hp1⟩
      · rw [List.getElem?_set_ne hj] at ej
        obtain ⟨row', f1, f2⟩ := h1.row j p' ej
        have z := hap.2 p' (List.mem_of_getElem? ej)
        exact ⟨row', by rw [List.getElem?_set_ne hj]; exact f1, c4.at (by simp [z.1, z.2]) f2⟩
    · rcases List.mem_or_eq_of_mem_set hr' with z | z
      · exact h.good _ z
      · rw [z]; exact g
    · rcases h.left with z | ⟨k, z⟩
      · rw [z]; exact .inl rfl
      · rw [z]; exact .inr ⟨_, rfl⟩
  rcases h.left with z | ⟨k, z⟩
  · subst z
    walk_at "go"
    refine go_eqSc rfl ?_
    walk_at "go"
    rename_i H2 w2 H3 w3
    exact fin .non rfl (s1 _ _ e) Chg.refl (s1 _ _ e2) (by simp) H2 w2 H3 w3
  · subst z
    walk_at "go"
    refine go_dec (fun c0 => ?_) (fun c0 => ?_)
    · walk_at "go"
      exact b3 c (by rw [eo]; simp) (by rw [c0]) H1 s1
    · walk_at "go"
      rename_i H2 w2 H3 w3 H4 w4
      exact fin (.int (k - 1)) rfl w2.at (Chg.wr w2 (by simp)) (w2.old (Ne.symm hap.1) (s1 _ _ e2)) (by simpa using c0) H3 w3 H4 w4
end
theorem tyN_chg {H H' : Hp} {S : List Addr} {x : V} {n : String} (h : tyN H x = some n) (c : Chg S H H') (k : ∀ p, x = .ref p → p ∉ S) : tyN H' x = some n := by
  cases x with
  | ref p =>
    rcases kindR h with ⟨rfl, xs, e⟩ | ⟨rfl, xs, e⟩ | ⟨rfl, kvs, e⟩
    · exact tyN_L (c.at (k p rfl) e)
    · exact tyN_T (c.at (k p rfl) e)
    · exact tyN_D (c.at (k p rfl) e)
  | _ => exact h
/-! ### the law's own rows -/
structure RowsAt (H : Hp) (L : Addr) (ls : List Addr) (R : List (List Int)) : Prop where
  rr : H L = some (.lst (ls.map V.ref))
  len : ls.length = R.length
  row : ∀ (i : Nat) (p : Addr), ls[i]? = some p → ∃ row, R[i]? = some row ∧ row ≠ [] ∧ H p = some (.lst (row.map V.int))
section
variable {H H' : Hp} {L : Addr} {ls : List Addr} {R : List (List Int)}
theorem RowsAt.chg {S : List Addr} (h : RowsAt H L ls R) (c : Chg S H H') (hd : L ∉ S) (hS : ∀ b ∈ S, NotInts H b) : RowsAt H' L ls R :=
  ⟨c.at hd h.rr, h.len, fun i p e => let ⟨row, e1, e2, e3⟩ := h.row i p e; ⟨row, e1, e2, c.at (fun z => hS p z row e2 e3) e3⟩⟩
theorem RowsAt.same (h : RowsAt H L ls R) (s : Same H H') : RowsAt H' L ls R := h.chg (S := []) (.of s) ni_nil fun _ z => absurd z ni_nil
theorem RowsAt.at {i : Nat} (h : RowsAt H L ls R) (hi : i < R.length) : ∃ p row, ls[i]? = some p ∧ R[i]? = some row ∧ row ≠ [] ∧ H p = some (.lst (row.map V.int)) := by
  have e : ls[i]? = some (ls[i]'(by rw [h.len]; exact hi)) := List.getElem?_eq_getElem _
  obtain ⟨row, e1, e2, e3⟩ := h.row i _ e
  exact ⟨_, row, e, e1, e2, e3⟩
/-- a row of it replaced by another list -/
theorem RowsAt.put {i : Nat} {p : Addr} {row : List Int} (h : RowsAt H L ls R) (w : Wr H L (.lst ((ls.map V.ref).set i (.ref p))) H') (hp : H p = some (.lst (row.map V.int))) (hr : row ≠ []) : RowsAt H' L (ls.set i p) (R.set i row) := by
  have no : ∀ {q : Addr} {ns : List Int}, ns ≠ [] → H q = some (.lst (ns.map V.int)) → q ≠ L := fun hn e z => by rw [z] at e; exact NotInts.refs h.rr _ hn e
  refine ⟨by rw [w.at, List.map_set], by simp [h.len], fun j q ej => ?_⟩
  by_cases hj : i = j
  · subst hj
    have hlt : i < ls.length := by have := (List.getElem?_eq_some_iff.mp ej).1; simpa using this
    rw [List.getElem?_set_self hlt] at ej
    cases ej
    exact ⟨row, by rw [List.getElem?_set_self (by rw [← h.len]; exact hlt)], hr, w.old (no hr hp) hp⟩
  · rw [List.getElem?_set_ne hj] at ej
    obtain ⟨row', f1, f2, f3⟩ := h.row j q ej
    exact ⟨row', by rw [List.getElem?_set_ne hj]; exact f1, f2, w.old (no f2 f3) f3⟩
end

end Bk

namespace Bk
open PySem L2 PyProof.Rows
/-! our own short tactics: h: what stands at a place; ne: two places; sm: what stood stands; z: a size; s: a step; go: steps -/
local macro_rules | `(tactic| walk_at "h") => `(tactic| first
  | assumption
  | exact New.at (by assumption)
  | exact Wr.at (by assumption)
  | (refine' New.old (by assumption) ?_; walk_at "h")
  | (refine' Same.at (by assumption) ?_; walk_at "h")
  | (refine' Wr.old (by assumption) ?_ ?_; walk_at "ne"; walk_at "h")
  | (refine' Chg.at (by assumption) ?_ ?_; walk_at "ni"; walk_at "h"))
local macro_rules | `(tactic| walk_at "ni") => `(tactic| first
  | exact ni_nil
  | assumption
  | (refine' ni_cons ?_ ?_; walk_at "ne"; walk_at "ni"))
local macro_rules | `(tactic| walk_at "ne") => `(tactic| first
  | assumption
  | exact Ne.symm (by assumption)
  | exact New.ne (by assumption) (by walk_at "h")
  | exact ne_none (by assumption) (by walk_at "h")
  | exact Ne.symm (ne_none (by assumption) (by walk_at "h"))
  | exact Ne.symm (New.ne (by assumption) (by walk_at "h")))
local macro_rules | `(tactic| walk_at "sm") => `(tactic| first
  | exact Same.refl _
  | assumption
  | (refine' Same.trans ?_ (New.same (by assumption)); walk_at "sm")
  | (refine' Same.trans ?_ (by assumption : Same _ _); walk_at "sm"))
local macro_rules | `(tactic| walk_at "z") => `(tactic| first
  | assumption
  | (rw [PySem.sizeLine_eq]; omega)
  | (rw [PySem.sizeLine_eq]; simp only [List.length_cons, List.length_nil, List.length_append, List.length_map, List.length_range, List.length_replicate, len_cut]; omega)
  | (rw [PySem.sizeLine_eq]; simp only [List.length_cons, List.length_nil, List.length_append, List.length_map, List.length_range, List.length_replicate, len_cut] at *; omega))
local macro_rules | `(tactic| walk_at "s") => `(tactic| first
  | ((with_reducible refine' go_var ?h ?_); (case h => exact rfl))
  | (with_reducible refine' go_c ?_)
  | (with_reducible refine' go_op ?_)
  | (with_reducible refine' go_un ?_)
  | (with_reducible refine' go_rU ?_)
  | (with_reducible refine' go_seq ?_)
  | (with_reducible refine' go_ret ?_)
  | (with_reducible refine' go_retN ?_)
  | (with_reducible refine' go_next ?_)
  | (with_reducible refine' go_drop ?_)
  | (with_reducible refine' go_asg ?_)
  | ((with_reducible refine' go_name2 ?h ?_); (case h => (simp only [List.set_cons_zero, List.set_cons_succ]; exact rfl)))
  | ((with_reducible refine' go_name2 ?h ?_); (case h => exact rfl))
  | (with_reducible refine' go_ifS ?_)
  | (with_reducible refine' go_blk ?_)
  | (with_reducible refine' go_test ?_)
  | (with_reducible refine' go_tB ?_)
  | (with_reducible refine' go_and ?_)
  | (with_reducible refine' go_or ?_)
  | (with_reducible refine' go_not ?_)
  | (with_reducible refine' go_andV ?_)
  | (with_reducible refine' go_orV ?_)
  | (with_reducible refine' go_notV ?_)
  | (with_reducible refine' go_if ?_)
  | (with_reducible refine' go_chain ?_)
  | (with_reducible refine' iteT ?_)
  | (with_reducible refine' iteF ?_)
  | ((with_reducible refine' go_Td ?h ?_); (case h => walk_at "pr"))
  | ((with_reducible refine' go_Fd ?h ?_); (case h => walk_at "pr"))
  | ((with_reducible refine' go_Tn ?h ?_); (case h => walk_at "pr"))
  | ((with_reducible refine' go_Fn ?h ?_); (case h => walk_at "pr"))
  | ((with_reducible refine' go_T ?h ?_); (case h => (first | decide | assumption | exact rfl)))
  | ((with_reducible refine' go_F ?h ?_); (case h => (first | decide | assumption | exact rfl)))
  | (with_reducible refine' go_nil ?_)
  | (with_reducible refine' go_cons ?_)
  | (with_reducible refine' go_tLst ?_)
  | (with_reducible refine' go_tTup ?_)
  | ((with_reducible refine' go_LstK ?h ?_); (case h => walk_at "z"); intro p H1 n1)
  | ((with_reducible refine' go_TupK ?h ?_); (case h => walk_at "z"); intro p H1 n1)
  | (with_reducible refine' go_addI ?_)
  | ((with_reducible refine' go_addL ?h ?k ?z ?_); (case h => walk_at "h"); (case k => walk_at "h"); (case z => walk_at "z"); intro p H1 n1)
  | (with_reducible refine' go_sub ?_)
  | ((with_reducible refine' go_mulI ?h ?_); (case h => (unfold CMul; omega)))
  | ((with_reducible refine' go_mulL ?h ?k ?_); (case h => walk_at "h"); (case k => (refine ⟨by omega, by omega, ?_⟩; walk_at "z")); intro p H1 n1)
  | ((with_reducible refine' go_div ?h ?_); (case h => (unfold CDiv; omega)))
  | ((with_reducible refine' go_mod ?h ?_); (case h => omega))
  | (with_reducible refine' go_p109 ?_)
  | (with_reducible refine' go_p1020 ?_)
  | ((with_reducible refine' go_pow ?h ?_); (case h => (unfold CPow; omega)))
  | (with_reducible refine' go_lt ?_)
  | (with_reducible refine' go_le ?_)
  | (with_reducible refine' go_gt ?_)
  | (with_reducible refine' go_ge ?_)
  | (with_reducible refine' go_eqI ?_)
  | (with_reducible refine' go_eqB ?_)
  | (with_reducible refine' go_eqS ?_)
  | (with_reducible refine' go_neI ?_)
  | (with_reducible refine' go_neB ?_)
  | (with_reducible refine' go_neS ?_)
  | (with_reducible refine' go_isN ?_)
  | (with_reducible refine' go_isNotN ?_)
  | (with_reducible refine' go_isB ?_)
  | (with_reducible refine' go_isNotB ?_)
  | (with_reducible refine' go_sl ?_)
  | (with_reducible refine' go_noPart ?_)
  | (with_reducible refine' go_part ?_)
  | (with_reducible refine' go_intK ?_)
  | ((with_reducible refine' go_slL ?h ?_); (case h => walk_at "h"); intro p H1 n1)
  | ((with_reducible refine' go_ixL ?h ?k ?_); (case h => walk_at "h"); (case k => exact rfl))
  | ((with_reducible refine' go_ixT ?h ?k ?_); (case h => walk_at "h"); (case k => exact rfl))
  | ((with_reducible refine' go_slW ?h ?_); (case h => walk_at "h"))
  | (with_reducible refine' go_bm ?_)
  | (with_reducible refine' go_bm0 ?_)
  | ((with_reducible refine' go_bmL ?h ?_); (case h => walk_at "h"))
  | ((with_reducible refine' go_append ?h ?k ?_); (case h => walk_at "h"); (case k => walk_at "z"); intro H1 n1)
  | ((with_reducible refine' go_extend ?h ?k ?z ?_); (case h => walk_at "h"); (case k => walk_at "h"); (case z => walk_at "z"); intro H1 n1)
  | ((with_reducible refine' go_clear ?h ?_); (case h => walk_at "h"); intro H1 n1)
  | ((with_reducible refine' go_dnew ?_); intro p H1 n1)
  | (with_reducible refine' go_cb ?_)
  | (with_reducible refine' go_callS ?_)
  | (with_reducible refine' go_call0 ?_)
  | ((with_reducible refine' go_lenL ?h ?_); (case h => walk_at "h"))
  | ((with_reducible refine' go_lenT ?h ?_); (case h => walk_at "h"))
  | ((with_reducible refine' go_lenK ?h ?_); (case h => walk_at "hk"))
  | ((with_reducible refine' go_listL ?h ?_); (case h => walk_at "h"); intro p H1 n1)
  | ((with_reducible refine' go_listT ?h ?_); (case h => walk_at "h"); intro p H1 n1)
  | ((with_reducible refine' go_tupleL ?h ?_); (case h => walk_at "h"); intro p H1 n1)
  | (with_reducible refine' go_intI ?_)
  | (with_reducible refine' go_intB ?_)
  | (with_reducible refine' go_abs ?_)
  | (with_reducible refine' go_min2 ?_)
  | (with_reducible refine' go_max2 ?_)
  | ((with_reducible refine' go_isi ?h ?k ?_); (case h => walk_at "ty"); (case k => exact kit_bb (by decide) (by decide)))
  | (with_reducible refine' go_lc ?_)
  | (with_reducible refine' go_for ?_)
  | (with_reducible refine' go_seqP ?_)
  | ((with_reducible refine' go_seqL ?h ?_); (case h => walk_at "h"))
  | ((with_reducible refine' go_seqT ?h ?_); (case h => walk_at "h"))
  | (with_reducible refine' go_seqS ?_)
  | (with_reducible refine' go_rng1 ?_)
  | (with_reducible refine' go_rng2 ?_)
  | ((with_reducible refine' go_rng1K ?h ?_); (case h => omega))
  | ((with_reducible refine' go_rng2K ?h ?_); (case h => omega))
  | (with_reducible refine' go_raise ?_)
  | ((with_reducible refine' go_tupG ?h ?k ?_); (case h => walk_at "h"); (case k => exact rfl))
  | ((with_reducible refine' go_lstG ?h ?k ?_); (case h => walk_at "h"); (case k => exact rfl))
  | (with_reducible refine' go_gNil ?_)
  | (with_reducible refine' go_tryAs ?_)
  | (with_reducible refine' go_tryMany1 ?_)
  | (with_reducible refine' go_tryMany2 ?_)
  | (with_reducible refine' go_WM ?_)
  | ((with_reducible refine' go_asT ?_); intro e he)
  | (with_reducible refine' go_asF ?_)
  | ((with_reducible refine' go_manyT ?_); intro e he)
  | (with_reducible refine' go_manyF ?_)
  | (with_reducible refine' go_manyN ?_)
  | (with_reducible refine' go_fld ?_)
  | ((with_reducible refine' go_FldK ?h ?c ?n ?l ?_); (case h => walk_at "h"); (case c => infer_instance); (case n => infer_instance); (case l => exact rfl))
  | (with_reducible refine' go_sfld ?_)
  | ((with_reducible refine' go_SFldK ?h ?c ?n ?l ?e ?_); (case h => walk_at "h"); (case c => infer_instance); (case n => infer_instance); (case l => exact Nat.le_of_ble_eq_true rfl); (case e => walk_at "pf"); intro H1 n1)
  | (with_reducible refine' go_meth ?_)
  | ((with_reducible refine' go_MethK 0 ?h ?l ?e ?_); (case h => walk_at "h"); (case l => exact rfl); (case e => exact rfl))
  | ((with_reducible refine' go_MethK 1 ?h ?l ?e ?_); (case h => walk_at "h"); (case l => exact rfl); (case e => exact rfl))
  | ((with_reducible refine' go_MethK 2 ?h ?l ?e ?_); (case h => walk_at "h"); (case l => exact rfl); (case e => exact rfl))
  | (with_reducible refine' go_make ?_)
  | (with_reducible refine' go_callX ?_)
  | (with_reducible refine' go_methX ?_)
  | ((with_reducible refine' go_MethXK ?h ?l ?_); (case h => walk_at "h"); (case l => exact rfl))
  | (with_reducible refine' go_dget ?_)
  | ((with_reducible refine' go_DGetS ?h ?l ?_); (case h => walk_at "h"); (case l => exact rfl))
  | (with_reducible refine' go_dput ?_)
  | ((with_reducible refine' go_DPutS ?h ?l ?e ?_); (case h => walk_at "h"); (case l => exact Nat.le_of_ble_eq_true rfl); (case e => walk_at "pk"); intro H1 n1)
  | ((with_reducible refine' go_disp ?_); intro p H1 n1)
  | (with_reducible refine' go_pairs ?_)
  | (with_reducible refine' go_pairs0 ?_)
  | ((with_reducible refine' go_DispS ?h ?e ?l ?k ?j ?m ?_); (case h => walk_at "h"); (case e => exact rfl); (case l => exact Nat.le_of_ble_eq_true rfl); (case k => (simp only [unS]; exact rfl)); (case j => (simp only [List.map_cons, List.map_nil]; exact rfl)); (case m => decide +kernel); intro H1 n1)
  | (with_reducible refine' go_par ?_)
  | ((with_reducible refine' go_ParK ?h ?_); (case h => (simp only [List.set_cons_zero, List.set_cons_succ]; exact rfl)))
  | (with_reducible refine' go_sub_ ?_)
  | ((with_reducible refine' go_setLi ?h ?k ?_); (case h => walk_at "h"); (case k => walk_at "ix"); intro H1 n1)
  | (with_reducible refine' go_listY ?_)
  | ((with_reducible refine' go_listYL ?h ?_); (case h => walk_at "h"))
  | (with_reducible refine' go_bmS ?_)
  | (with_reducible refine' go_ckw ?_)
  | ((with_reducible refine' go_maxD ?h ?_); (case h => walk_at "h"))
  | (with_reducible refine' go_listR ?_)
  | (with_reducible refine' go_rg2 ?_)
  | (with_reducible refine' go_Rg2K ?_)
  | (with_reducible refine' go_rg1 ?_)
  | (with_reducible refine' go_Rg1K ?_)
  | ((with_reducible refine' go_ListRK ?h ?_); (case h => omega); intro p H1 n1)
  | (with_reducible refine' go_enum ?_)
  | ((with_reducible refine' go_EnumL ?h ?_); (case h => walk_at "h"))
  | (with_reducible refine' go_isX ?_)
  | (with_reducible refine' go_isXt ?_)
  | (with_reducible refine' go_din ?_)
  | (with_reducible refine' go_dnotin ?_)
  | ((with_reducible refine' go_DInI ?h ?_); (case h => walk_at "h"))
  | ((with_reducible refine' go_DNotInI ?h ?_); (case h => walk_at "h"))
  | (with_reducible refine' go_dget2 ?_)
  | ((with_reducible refine' go_DGet2K ?h ?_); (case h => walk_at "h"))
  | (with_reducible refine' go_dpop1 ?_)
  | ((with_reducible refine' go_eqDE ?h ?k ?_); (case h => walk_at "h"); (case k => walk_at "h"))
  | ((with_reducible refine' go_neDE ?h ?k ?_); (case h => walk_at "h"); (case k => walk_at "h"))
  | (with_reducible refine' go_chain3 ?_)
  | (with_reducible refine' go_LinkT ?_)
  | (with_reducible refine' go_LinkF ?_)
  | (with_reducible refine' go_Link2T ?_)
  | (with_reducible refine' go_Link2F ?_)
  | (with_reducible refine' go_gSl ?_)
  | ((with_reducible refine' go_insert ?h ?k ?l ?m ?_); (case h => walk_at "h"); (case k => walk_at "z"); (case l => omega); (case m => omega); intro H1 n1)
  | (with_reducible refine' go_gCons ?_))
local macro_rules | `(tactic| walk_at "pf") => `(tactic| first
  | exact putF_nil
  | exact putF_hit
  | (refine' putF_miss ?h ?k; (case h => decide +kernel); (case k => walk_at "pf")))
local macro_rules | `(tactic| walk_at "pk") => `(tactic| first
  | exact putK_nil
  | exact putK_hit (by (simp only [List.map_cons, List.map_nil]; decide +kernel))
  | (refine' putK_miss ?h ?k; (case h => decide +kernel); (case k => walk_at "pk")))
local macro_rules | `(tactic| walk_at "ix") => `(tactic| first
  | assumption
  | omega
  | (simp only [List.length_cons, List.length_nil, List.length_append, List.length_map, List.length_range, List.length_replicate, List.length_set] at *; omega))
local macro_rules | `(tactic| walk_at "pr") => `(tactic| first
  | assumption
  | decide
  | omega
  | exact rfl
  | (intro z; cases z; done))
local macro_rules | `(tactic| walk_at "hk") => `(tactic| first
  | assumption
  | exact seq' (by assumption) (by walk_at "sm"))
local macro_rules | `(tactic| walk_at "ty") => `(tactic| first
  | exact rfl
  | assumption
  | exact tyN_L (by walk_at "h")
  | exact tyN_T (by walk_at "h")
  | exact tyN_D (by walk_at "h"))
local macro_rules | `(tactic| walk_at "go") => `(tactic| repeat (walk_at "s"))
theorem Ent.chg {H H' : Hp} {S : List Addr} {ts qs : List Addr} {prs : List (Int × List Int)} (h : Ent H ts qs prs) (c : Chg S H H') (hS : ∀ b ∈ S, NotInts H b ∧ NotTup H b) (hr : ∀ p ∈ prs, p.2 ≠ []) : Ent H' ts qs prs :=
  ⟨h.lt, h.lq, fun i b row e => let ⟨t, q, e1, e2, e3, e4⟩ := h.at_ i b row e; ⟨t, q, e1, e2, c.at (fun z => (hS t z).2 _ e3) e3, c.at (fun z => (hS q z).1 row (hr _ (List.mem_of_getElem? e)) e4) e4⟩⟩
/-! ### writes, one behind the other -/
def lv : Option Nat → V
  | none => .non
  | some k => .int k
def less (k : Option Nat) (n : Nat) : Option Nat := k.map (· - n)
def applyW (ws : List (Nat × List Int)) (R : List (List Int)) : List (List Int) := ws.foldl (fun R w => R.set w.1 w.2) R
theorem applyW_len (ws : List (Nat × List Int)) : ∀ R, (applyW ws R).length = R.length := by
  induction ws with
  | nil => intro R; rfl
  | cons w ws ih => intro R; show (applyW ws _).length = _; rw [ih, List.length_set]
theorem applyW_app (ws vs : List (Nat × List Int)) (R : List (List Int)) : applyW (ws ++ vs) R = applyW vs (applyW ws R) := List.foldl_append ..
theorem applyW_ne {n : Nat} (ws : List (Nat × List Int)) : ∀ (R : List (List Int)), (∀ w ∈ ws, w.1 ≠ n) → (applyW ws R)[n]? = R[n]? := by
  induction ws with
  | nil => intro R _; rfl
  | cons w ws ih =>
    intro R h
    show (applyW ws _)[n]? = _
    rw [ih _ fun v hv => h v (List.mem_cons_of_mem _ hv), List.getElem?_set_ne (h w List.mem_cons_self)]
/-- a disk, none of whose rows stands at a place of T -/
structure DkT (a : Ac) (T : List Addr) (H : Hp) (d r : Addr) (ps : List Addr) (R : List (List Int)) (done : Int) (k : Option Nat) : Prop extends DiskAt a H d r ps R done (lv k) where
  out : ∀ p ∈ ps, p ∉ T
  ex : ∀ t ∈ T, t ∉ [d, r] ∧ ∃ u, H t = some u
def DkEx (a : Ac) (T : List Addr) (H : Hp) (d r : Addr) (R : List (List Int)) (done : Int) (k : Option Nat) : Prop := ∃ ps, DkT a T H d r ps R done k
theorem DkT.chg' {a : Ac} {T : List Addr} {H H' : Hp} {d r : Addr} {ps ps' : List Addr} {R R' : List (List Int)} {done done' : Int} {k k' : Option Nat} (h : DkT a T H d r ps R done k) (c : Chg [d, r] H H') (e : DiskAt a H' d r ps' R' done' (lv k')) (o : ∀ p ∈ ps', p ∉ T) : DkT a T H' d r ps' R' done' k' :=
  ⟨e, o, fun t ht => let ⟨n, u, e⟩ := h.ex t ht; ⟨n, u, c.at n e⟩⟩
structure DoesW (a : Ac) (T : List Addr) (d r : Addr) (ws : List (Nat × List Int)) (k : Option Nat) (R : List (List Int)) (done : Int) (H : Hp) (ok stop : Hp → Prop) : Prop where
  ok : (∀ n, k = some n → ws.length ≤ n) → ∀ H', Chg [d, r] H H' → DkEx a T H' d r (applyW ws R) (done + ws.length) (less k ws.length) → ok H'
  stop : ∀ n, k = some n → n < ws.length → ∀ H', Chg [d, r] H H' → DkEx a T H' d r (applyW (ws.take n) R) (done + n) (some 0) → stop H'
section
variable {a : Ac} {T : List Addr} {d r : Addr} {ws vs : List (Nat × List Int)} {k : Option Nat} {R : List (List Int)} {done : Int} {H H' : Hp} {ok stop : Hp → Prop}
theorem DoesW.chg (h : DoesW a T d r ws k R done H ok stop) (c : Chg [d, r] H H') : DoesW a T d r ws k R done H' ok stop := ⟨fun q H2 c2 => h.ok q H2 (c.trans c2), fun n e hn H2 c2 => h.stop n e hn H2 (c.trans c2)⟩
theorem DoesW.same (h : DoesW a T d r ws k R done H ok stop) (s : Same H H') : DoesW a T d r ws k R done H' ok stop := h.chg (.of s)
theorem DoesW.imp {ok' stop' : Hp → Prop} (h : DoesW a T d r ws k R done H ok stop) (f : ∀ H, ok H → ok' H) (g : ∀ H, stop H → stop' H) : DoesW a T d r ws k R done H ok' stop' := ⟨fun q H2 c2 e => f _ (h.ok q H2 c2 e), fun n e hn H2 c2 e2 => g _ (h.stop n e hn H2 c2 e2)⟩
theorem DoesW.nil (h : DoesW a T d r [] k R done H ok stop) (e : DkEx a T H d r R done k) : ok H := by
  refine h.ok (fun n _ => Nat.zero_le _) H .refl ?_
  have e1 : less k 0 = k := by cases k <;> rfl
  simpa [applyW, e1] using e
theorem DoesW.cons {b : Nat} {row : List Int} (h : DoesW a T d r ((b, row) :: ws) k R done H ok stop) (nk : k ≠ some 0) (c : Chg [d, r] H H') : DoesW a T d r ws (less k 1) (R.set b row) (done + 1) H' ok stop := by
  refine ⟨fun q H2 c2 e => h.ok (fun n en => ?_) H2 (c.trans c2) ?_, fun n en hn H2 c2 e => ?_⟩
  · subst en
    have := q (n - 1) rfl
    have n0 : n ≠ 0 := fun z => nk (by rw [z])
    simp; omega
  · have e1 : less (less k 1) ws.length = less k ((b, row) :: ws).length := by
      cases k with
      | none => rfl
      | some n => show some (n - 1 - ws.length) = some (n - (ws.length + 1)); congr 1; omega
    have e2 : done + 1 + (ws.length : Int) = done + (((b, row) :: ws).length : Nat) := by simp; omega
    rw [← e1, ← e2]
    exact e
  · cases k with
    | none => cases en
    | some m =>
      have em : m - 1 = n := Option.some.inj en
      have m0 : m ≠ 0 := fun z => nk (by rw [z])
      refine h.stop m rfl (by simp; omega) H2 (c.trans c2) ?_
      rw [show m = n + 1 by omega]
      show DkEx a T H2 d r (applyW (ws.take n) (R.set b row)) (done + ((n + 1 : Nat) : Int)) (some 0)
      rw [show done + ((n + 1 : Nat) : Int) = done + 1 + (n : Int) by omega]
      exact e
theorem DoesW.now (h : DoesW a T d r ws k R done H ok stop) (hk : k = some 0) (hw : ws ≠ []) (e : DkEx a T H d r R done k) : stop H := by
  subst hk
  refine h.stop 0 rfl ?_ H .refl ?_
  · cases ws with
    | nil => exact absurd rfl hw
    | cons _ _ => simp
  · simpa [applyW] using e
/-- a first part, then a second -/
theorem DoesW.split (h : DoesW a T d r (ws ++ vs) k R done H ok stop) : DoesW a T d r ws k R done H (fun H1 => DoesW a T d r vs (less k ws.length) (applyW ws R) (done + ws.length) H1 ok stop ∧ DkEx a T H1 d r (applyW ws R) (done + ws.length) (less k ws.length)) stop := by
  refine ⟨fun q H1 c1 e1 => ⟨⟨fun q2 H2 c2 e2 => h.ok (fun n en => ?_) H2 (c1.trans c2) ?_, fun n en hn H2 c2 e2 => ?_⟩, e1⟩, fun n en hn H1 c1 e1 => h.stop n en (by simp; omega) H1 c1 ?_⟩
  · have := q n en
    subst en
    have := q2 (n - ws.length) rfl
    simp; omega
  · have e3 : less (less k ws.length) vs.length = less k (ws ++ vs).length := by
      cases k with
      | none => rfl
      | some n => show some (n - ws.length - vs.length) = some (n - (ws ++ vs).length); congr 1; simp; omega
    rw [← e3, applyW_app, show done + (((ws ++ vs).length : Nat) : Int) = done + ws.length + vs.length by simp; omega]
    exact e2
  · cases k with
    | none => cases en
    | some m =>
      have em : m - ws.length = n := Option.some.inj en
      have := q m rfl
      refine h.stop m rfl (by simp; omega) H2 (c1.trans c2) ?_
      rw [show m = ws.length + n by omega, List.take_length_add_append, applyW_app, show done + ((ws.length + n : Nat) : Int) = done + ws.length + n by omega]
      exact e2
  · rw [List.take_append_of_le_length (by omega)]
    exact e1
end
section
variable {K : PySem.W.Frag} {a : Ac} {T : List Addr} {H : Hp} {Q : VK} {E : XK} [F : Fc K a] {d r : Addr} {ps : List Addr} {R : List (List Int)} {done : Int} {k : Option Nat} {ws : List (Nat × List Int)} {ok stop : Hp → Prop}
omit F in
theorem lv_less {k : Option Nat} (h : k ≠ some 0) : lessV (lv k) = lv (less k 1) := by
  cases k with
  | none => rfl
  | some n =>
    have n0 : n ≠ 0 := fun z => h (by rw [z])
    show V.int ((n : Int) - 1) = V.int ((n - 1 : Nat) : Int)
    congr 1; omega
omit F in
theorem DkEx.dd (h : DkEx a T H d r R done k) : ∃ dx fs, H d = some (.ins a.Disk dx fs) := by obtain ⟨ps, h⟩ := h; obtain ⟨dx, e⟩ := h.dd; exact ⟨dx, _, e⟩
omit F in
theorem DkEx.same {H' : Hp} (h : DkEx a T H d r R done k) (s : Same H H') : DkEx a T H' d r R done k := by obtain ⟨ps, h⟩ := h; exact ⟨ps, h.chg' (.of s) (h.toDiskAt.same s) h.out⟩
theorem p_blocksE (h : DkEx a T H d r R done k) (q : Q (.int R.length) H) : sp_Disk_blocks K a [.ref d] H Q E := by obtain ⟨ps, h⟩ := h; exact p_blocks h.toDiskAt q
theorem p_readE {i : Int} {row : List Int} (h : DkEx a T H d r R done k) (hi : 0 ≤ i) (hr : R[i.toNat]? = some row) (q : ∀ p H', Same H H' → H p = none → H' p = some (.lst (row.map V.int)) → Q (.ref p) H') : sp_Disk_read K a [.ref d, .int i] H Q E := by obtain ⟨ps, h⟩ := h; exact p_read h.toDiskAt hi hr q
omit F in
theorem out_set {ps : List Addr} {p : Addr} {i : Nat} (ex : ∀ t ∈ T, t ∉ [d, r] ∧ ∃ u, H t = some u) (out : ∀ q ∈ ps, q ∉ T) (pn : H p = none) : ∀ q ∈ ps.set i p, q ∉ T := fun q hq z => by
  rcases List.mem_or_eq_of_mem_set hq with y | y
  · exact out q y z
  · obtain ⟨_, u, e⟩ := ex q z
    rw [y, pn] at e; cases e
/-- one write of a run -/
theorem p_writeE {i : Int} {p : Addr} {row : List Int} (h : DkEx a T H d r R done k) (i0 : 0 ≤ i) (i1 : i < R.length) (hp : H p = some (.lst (row.map V.int))) (g : GoodRow row) (D : DoesW a T d r ((i.toNat, row) :: ws) k R done H ok stop)
    (q : ∀ H', Chg [d, r] H H' → k ≠ some 0 → DkEx a T H' d r (R.set i.toNat row) (done + 1) (less k 1) → DoesW a T d r ws (less k 1) (R.set i.toNat row) (done + 1) H' ok stop → Q .non H') (b : ∀ H', stop H' → E (.ref a.Stopped) none H') : sp_Disk_write K a [.ref d, .int i, .ref p] H Q E := by
  obtain ⟨ps, h⟩ := h
  refine p_write h.toDiskAt (n := "int") rfl (.good hp g) (fun i' row' ei _ _ er nl p' H' c pn h' => ?_) (fun z => ?_) (fun _ z => by cases z) (fun _ _ el H' s => ?_)
  · cases ei; cases er
    have nk : k ≠ some 0 := fun z => nl (by rw [z]; rfl)
    rw [lv_less nk] at h'
    exact q H' c nk ⟨_, h.chg' c h' (out_set h.ex h.out pn)⟩ (D.cons nk c)
  · rw [isBlk_of i0 i1] at z; cases z
  · have hk : k = some 0 := by
      cases k with
      | none => cases el
      | some n =>
        have : (n : Int) = 0 := V.int.inj el
        congr 1; omega
    exact b H' ((D.same s).now hk (by simp) ⟨ps, h.chg' (.of s) (h.toDiskAt.same s) h.out⟩)
/-- homes: whole numbers of blocks behind the log -/
def isHome (n : Nat) : V → Bool
  | .int i => decide (17 ≤ i) && decide (i < n)
  | _ => false
theorem p_is_home {x : V} {n : String} (h : DkEx a T H d r R done k) (hx : tyN H x = some n) (q : Q (.bl (isHome R.length x)) H) : sp_is_home K a [.ref d, x] H Q E := by
  refine in_is_home ?_
  unfold t_is_home
  obtain ⟨ps, h⟩ := h
  obtain ⟨dx, e⟩ := h.dd
  cases x with
  | int i =>
    walk_at "go"
    refine go_dec (fun c => ?_) (fun c => ?_)
    · walk_at "go"
      refine p_blocks h.toDiskAt ?_
      walk_at "go"
      simpa [isHome, c] using q
    · walk_at "go"
      simpa [isHome, c] using q
  | bl b => walk_at "go"; exact q
  | non => walk_at "go"; exact q
  | str s => walk_at "go"; exact q
  | ref p =>
    rcases kindR hx with ⟨rfl, xs, e⟩ | ⟨rfl, xs, e⟩ | ⟨rfl, kvs, e⟩
    all_goals (walk_at "go"; exact q)
  | _ => cases hx
omit F in
theorem isHome_of {n : Nat} {i : Int} (h : 17 ≤ i) (k : i < n) : isHome n (.int i) = true := by simp [isHome, h, k]
/-- pairs that a commit may take -/
structure GoodPrs (n : Nat) (prs : List (Int × List Int)) : Prop where
  few : prs.length ≤ 15
  row : ∀ p ∈ prs, 17 ≤ p.1 ∧ p.1 < n ∧ GoodRow p.2
  up : prs.Pairwise fun p q => p.1 < q.1
theorem p_need_pairs {P : Addr} {ts qs : List Addr} {prs : List (Int × List Int)} (h : DkEx a T H d r R done k) (hP : PrsAt H P ts qs prs) (g : GoodPrs R.length prs)
    (q : ∀ P2 ts2 qs2 H', Same H H' → H P2 = none → PrsAt H' P2 ts2 qs2 prs → Q (.ref P2) H') : sp_need_pairs K a [.ref d, .ref P] H Q E := by
  refine in_need_pairs ?_
  unfold t_need_pairs
  have hr := hP.rr
  have lt := hP.lt
  have few := g.few
  walk_at "go"
  rw [List.length_map, lt]
  refine go_Fd (by omega) ?_
  walk_at "go"
  rename_i P2 H1 n1
  refine for_Lg (xs := ts.map V.ref) (fun i σ' H' => ∃ (last : Int) (v4 v5 : Option V) (ts2 qs2 : List Addr), σ' = [some (.ref d), some (.ref P), some (.ref P2), some (.int last), v4, v5] ∧ Same H H' ∧ H' P2 = some (.lst (ts2.map V.ref)) ∧ PrsNew H P2 ts2 qs2 prs H' ∧ ts2.length = i ∧ (∀ b row, prs[i]? = some (b, row) → last < b)) (fun i σ' H' ⟨_, _, _, _, _, _, s, _⟩ => s _ _ hr)
    ⟨0, none, none, [], [], rfl, n1.same, n1.at, .nil, rfl, fun b row e => by have := (g.row _ (List.mem_of_getElem? e)).1; omega⟩ ?_ ?_
  · rintro i x σ' H2 hx ⟨last, v4, v5, ts2, qs2, rfl, s2, hP2, w, hl, up⟩
    rw [List.getElem?_map] at hx
    have hi : i < prs.length := by
      cases e : ts[i]? with
      | none => rw [e] at hx; cases hx
      | some t => have := (List.getElem?_eq_some_iff.mp e).1; omega
    have e : prs[i]? = some (prs[i].1, prs[i].2) := List.getElem?_eq_getElem hi
    obtain ⟨t, q0, e1, e2, e3, e4⟩ := hP.at_ i _ _ e
    rw [e1] at hx; cases hx
    obtain ⟨b1, b2, gr⟩ := g.row _ (List.getElem_mem hi)
    have up1 := up _ _ e
    have e3' := s2 _ _ e3
    walk_at "go"
    refine p_is_home (h.same s2) (n := "int") rfl ?_
    rw [isHome_of b1 b2]
    walk_at "go"
    refine p_need_row (.good (s2 _ _ e4) gr) (fun row er _ p H3 s3 pn hp => ?_) (fun z => by cases z)
    cases er
    have hP3 := s3 _ _ hP2
    have hz : ts2.length < 1000 := by omega
    walk_at "go"
    rename_i T H4 n4 H5 w5
    have hP4 := n4.old hP3
    have c5 : Chg [P2] H4 H5 := .wr w5 (by simp)
    refine ⟨_, _, _, ts2 ++ [T], qs2 ++ [p], rfl, ?_, by rw [w5.at]; simp, (w.snoc hP2 (s3.trans n4.same) s2 n1.free (by rw [hl]; exact e) (s3.free n4.free) n4.at (.inr pn) (n4.old hp)).chg c5, by simp [hl], fun b row e' => ?_⟩
    · exact Same.chg ((s2.trans s3).trans n4.same) c5 (by simpa using n1.free)
    · have hj := List.pairwise_iff_getElem.mp g.up i (i + 1) hi (List.getElem?_eq_some_iff.mp e').1 (by omega)
      have e6 := List.getElem?_eq_some_iff.mp e'
      rw [e6.2] at hj
      exact hj
  · rintro σ' H2 ⟨last, v4, v5, ts2, qs2, rfl, s2, hP2, w, hl, up⟩
    walk_at "go"
    rw [List.length_map] at hl
    exact q P2 ts2 qs2 H2 s2 n1.free (w.prs (by omega) hP2)
/-- the rows that are brought home -/
def homeW (homes : List Int) (R : List (List Int)) : List (Nat × List Int) := (List.range homes.length).map fun j => ((homes.getD j 0).toNat, R.getD (2 + j) [])
def carryW (homes : List Int) (R : List (List Int)) : List (Nat × List Int) := homeW homes R ++ [(1, List.replicate 16 0)]
theorem p_carry_home {P : Addr} {homes : List Int} (h : DkEx a T H d r R done k) (hP : H P = some (.lst (homes.map V.int))) (few : homes.length ≤ 15) (hm : ∀ b ∈ homes, 17 ≤ b ∧ b < R.length)
    (D : DoesW a T d r (carryW homes R) k R done H (fun H' => Q .non H') (fun H' => E (.ref a.Stopped) none H')) : sp_carry_home K a [.ref d, .ref P] H Q E := by
  refine in_carry_home ?_
  unfold t_carry_home
  have Pd : P ≠ d ∧ P ≠ r := by obtain ⟨ps, h⟩ := id h; exact h.neRow hP
  have many : 24 ≤ R.length := by obtain ⟨ps, h⟩ := id h; exact h.many.1
  have gR : ∀ row ∈ R, GoodRow row := by obtain ⟨ps, h⟩ := id h; exact h.good
  walk_at "go"
  refine for_E (xs := homes.map V.int) (fun i σ' H' => ∃ (v2 v3 : Option V) (R' : List (List Int)) (done' : Int) (k' : Option Nat), σ' = [some (.ref d), some (.ref P), v2, v3] ∧ H' P = some (.lst (homes.map V.int)) ∧ DkEx a T H' d r R' done' k' ∧ R'.length = R.length ∧ (∀ j, j < 15 → R'[2 + j]? = R[2 + j]?) ∧
      DoesW a T d r ((carryW homes R).drop i) k' R' done' H' (fun H' => Q .non H') (fun H' => E (.ref a.Stopped) none H')) (fun i σ' H' ⟨_, _, _, _, _, _, e, _⟩ => e)
    ⟨none, none, R, done, k, rfl, hP, h, rfl, fun _ _ => rfl, D⟩ ?_ ?_
  · rintro i x σ' H1 T H2 hx ⟨v2, v3, R', done', k', rfl, hP1, h1, hl, h2j, D1⟩ n2
    rw [List.getElem?_map] at hx
    cases e : homes[i]? with
    | none => rw [e] at hx; cases hx
    | some b =>
      rw [e] at hx; cases hx
      have hi : i < homes.length := (List.getElem?_eq_some_iff.mp e).1
      obtain ⟨b1, b2⟩ := hm b (List.mem_of_getElem? e)
      have hrow : R[2 + i]? = some (R.getD (2 + i) []) := by rw [List.getD_eq_getElem?_getD, List.getElem?_eq_getElem (by omega)]; rfl
      have gr := gR _ (List.mem_of_getElem? hrow)
      have e0 : (carryW homes R).drop i = (b.toNat, R.getD (2 + i) []) :: (carryW homes R).drop (i + 1) := by
        have hlen : i < (carryW homes R).length := by simp [carryW, homeW]; omega
        rw [List.drop_eq_getElem_cons hlen]
        congr 1
        simp only [carryW]
        rw [List.getElem_append_left (by simp [homeW]; exact hi)]
        simp [homeW, List.getD_eq_getElem?_getD, e]
      rw [e0] at D1
      have h1' := h1.same n2.same
      obtain ⟨dx, fs, hd⟩ := h1'.dd
      walk_at "go"
      refine go_MethK 0 hd (by obtain ⟨ps, z⟩ := h1'; obtain ⟨dx', z⟩ := z.dd; rw [hd] at z; cases z; rfl) rfl ?_
      walk_at "go"
      refine go_MethK 0 hd (by obtain ⟨ps, z⟩ := h1'; obtain ⟨dx', z⟩ := z.dd; rw [hd] at z; cases z; rfl) rfl ?_
      walk_at "go"
      have ei : ((1 : Int) + 1 + (i : Int)).toNat = 2 + i := by omega
      refine p_readE h1' (by omega) (row := R.getD (2 + i) []) (by rw [ei, h2j i (by omega)]; exact hrow) fun p H3 s3 pn hp => ?_
      walk_at "go"
      refine p_writeE (h1'.same s3) (by omega) (by omega) hp gr ((D1.same n2.same).same s3) (fun H4 c4 nk h4 D4 => ?_) (fun H4 z => z)
      walk_at "go"
      exact ⟨_, _, _, _, _, rfl, c4.at (by simp [Pd.1, Pd.2]) (s3 _ _ (n2.old hP1)), h4, by simp [hl], fun j hj => by rw [List.getElem?_set_ne (by omega)]; exact h2j j hj, D4⟩
  · rintro σ' H1 ⟨v2, v3, R', done', k', rfl, hP1, h1, hl, h2j, D1⟩
    have e0 : (carryW homes R).drop (homes.map V.int).length = [(1, List.replicate 16 0)] := by
      rw [carryW, List.length_map]
      exact List.drop_left' (by simp [homeW])
    rw [e0] at D1
    obtain ⟨dx, fs, hd⟩ := h1.dd
    walk_at "go"
    refine go_MethK 0 hd (by obtain ⟨ps, z⟩ := h1; obtain ⟨dx', z⟩ := z.dd; rw [hd] at z; cases z; rfl) rfl ?_
    walk_at "go"
    refine p_empty_row fun p H2 s2 pn hp => ?_
    walk_at "go"
    refine p_writeE (h1.same s2) (i := 1) (by omega) (by omega) hp good_zero (D1.same s2) (fun H4 c4 nk h4 D4 => ?_) (fun H4 z => z)
    walk_at "go"
    exact D4.nil h4
end

/-! ### commit -/
def logW (prs : List (Int × List Int)) : List (Nat × List Int) := (List.range prs.length).map fun j => (2 + j, (prs.getD j (0, [])).2)
def headRow (prs : List (Int × List Int)) : List Int := (prs.length : Int) :: prs.map (·.1) ++ List.replicate (15 - prs.length) 0
def homesW (prs : List (Int × List Int)) : List (Nat × List Int) := prs.map fun p => (p.1.toNat, p.2)
def commitW (prs : List (Int × List Int)) : List (Nat × List Int) := if prs = [] then [] else (logW prs ++ [(1, headRow prs)]) ++ (homesW prs ++ [(1, List.replicate 16 0)])
theorem applyW_range {f : Nat → Nat × List Int} (hf : ∀ j, (f j).1 = 2 + j) {R : List (List Int)} : ∀ m j, j < m → 2 + j < R.length → (applyW ((List.range m).map f) R)[2 + j]? = some (f j).2
  | 0, j, h, _ => by omega
  | m + 1, j, h, hR => by
    rw [List.range_succ, List.map_append, applyW_app]
    show ((applyW ((List.range m).map f) R).set (f m).1 (f m).2)[2 + j]? = _
    rw [hf m]
    by_cases e : j = m
    · subst e
      rw [List.getElem?_set_self (by rw [applyW_len]; exact hR)]
    · rw [List.getElem?_set_ne (by omega)]
      exact applyW_range hf m j (by omega) hR
theorem GoodPrs.head {n : Nat} {prs : List (Int × List Int)} (g : GoodPrs n prs) (hn : n ≤ 1000) : GoodRow (headRow prs) := by
  have := g.few
  refine ⟨by simp [headRow]; omega, fun z hz => ?_⟩
  simp only [headRow, List.cons_append, List.mem_cons, List.mem_append] at hz
  rcases hz with rfl | hz | hz
  · omega
  · obtain ⟨p, hp, rfl⟩ := List.mem_map.mp hz
    have := g.row p hp
    omega
  · rw [List.eq_of_mem_replicate hz]; omega
section
variable {K : PySem.W.Frag} {a : Ac} {T : List Addr} {H : Hp} {Q : VK} {E : XK} [F : Fc K a] {d r : Addr} {ps : List Addr} {R : List (List Int)} {done : Int} {k : Option Nat} {ws : List (Nat × List Int)} {ok stop : Hp → Prop}
omit F in
theorem p_changed {r w : Addr} {xs ys : List V} {k : Int} (h : H r = some (.lst xs)) (hw : H w = some (.lst ys)) (hk : 0 ≤ k) (hx : xs.length ≤ 1000) (hy : ys.length ≤ 1000)
    (q : ∀ p H1, Same H H1 → H p = none → H1 p = some (.lst (xs.take k.toNat ++ ys ++ xs.drop (k.toNat + ys.length))) → Q (.ref p) H1) : sp_changed K a [.ref r, .int k, .ref w] H Q E := by
  refine in_changed ?_
  unfold t_changed
  walk_at "go"
  rename_i p1 H1 n1 p2 H2 n2 p3 H3 n3 p4 H4 n4
  refine q p4 H4 (by walk_at "sm") ?_ ?_
  · exact (((n1.same.trans n2.same).trans n3.same)).free n4.free
  · rw [n4.at, cut_take xs hk, cut_drop xs (by omega)]
    have e : (k + (ys.length : Int)).toNat = k.toNat + ys.length := by omega
    rw [e]
omit F in
/-- a pair's places are none of the disk's own -/
theorem PrsAt.out {P : Addr} {ts qs : List Addr} {prs : List (Int × List Int)} (h : DkEx a T H d r R done k) (hP : PrsAt H P ts qs prs) : (∀ t ∈ ts, t ∉ [d, r]) ∧ ∀ q ∈ qs, q ∉ [d, r] := by
  obtain ⟨ps, h⟩ := h
  obtain ⟨dx, e⟩ := h.dd
  refine ⟨fun t ht => ?_, fun q hq => ?_⟩
  · obtain ⟨i, hi⟩ := List.mem_iff_getElem?.mp ht
    have hl : i < prs.length := by have := (List.getElem?_eq_some_iff.mp hi).1; have := hP.lt; omega
    obtain ⟨t', q', e1, e2, e3, e4⟩ := hP.at_ i _ _ (List.getElem?_eq_getElem hl : prs[i]? = some (prs[i].1, prs[i].2))
    rw [hi] at e1; cases e1
    have n1 := ne_obj e3 e (by simp)
    have n2 := ne_obj e3 h.rr (by simp)
    simp [n1, n2]
  · obtain ⟨i, hi⟩ := List.mem_iff_getElem?.mp hq
    have hl : i < prs.length := by have := (List.getElem?_eq_some_iff.mp hi).1; have := hP.lq; omega
    obtain ⟨t', q', e1, e2, e3, e4⟩ := hP.at_ i _ _ (List.getElem?_eq_getElem hl : prs[i]? = some (prs[i].1, prs[i].2))
    rw [hi] at e2; cases e2
    have := h.neRow e4
    simp [this.1, this.2]
theorem go_methD {m : Str} {sp : Sp} {E : Bk.St → XK} {t : TA} {σ : Bk.St} (h : DkEx a T H d r R done k) (hm : ∀ r done left, ([("rows", r), ("done", done), ("left", left)] : List (Str × V)).lookup m = none) (q : t σ H fun vs H2 => sp (.ref d :: vs) H2 Q (E σ)) : MethK m [(a.Disk, sp)] E t σ Q (.ref d) H := by
  obtain ⟨ps, h⟩ := h
  obtain ⟨dx, e⟩ := h.dd
  exact go_MethK 0 e (hm _ _ _) rfl q
theorem p_commit {P : Addr} {ts qs : List Addr} {prs : List (Int × List Int)} (h : DkEx a T H d r R done k) (hP : PrsAt H P ts qs prs) (g : GoodPrs R.length prs)
    (D : DoesW a T d r (commitW prs) k R done H (fun H' => Q .non H') (fun H' => E (.ref a.Stopped) none H')) : sp_commit K a [.ref d, .ref P] H Q E := by
  refine in_commit ?_
  unfold t_commit
  have many : 24 ≤ R.length ∧ R.length ≤ 96 := by obtain ⟨ps, h⟩ := id h; exact h.many
  have few := g.few
  walk_at "go"
  refine p_need_pairs h hP g fun P2 ts2 qs2 H1 s1 pn hP2 => ?_
  have h1 := h.same s1
  have D1 := D.same s1
  walk_at "go"
  rename_i p0 H2 n2
  refine go_eqD (d := .list (prsD prs)) (e := .list []) (hP2.same n2.same).dp (.lst (SqL.of n2.at) .nil) (shaped_prs prs) (by decide) ?_
  by_cases hne : prs = []
  · subst hne
    refine go_blk ?_
    refine go_T rfl ?_
    walk_at "go"
    exact (D1.same n2.same).nil (h1.same n2.same)
  have ef : PyData.eqv (.list (prsD prs)) (.list []) = false := by
    cases prs with
    | nil => exact absurd rfl hne
    | cons p prs => simp [prsD, PyData.eqv, PyData.eqvAll]
  rw [ef]
  walk_at "go"
  have hP3 := hP2.same n2.same
  have h2 := h1.same n2.same
  have D2 := D1.same n2.same
  have pr2 : P2 ≠ r := fun z => by
    obtain ⟨ps, h⟩ := id h
    rw [z, h.rr] at pn; cases pn
  have pd2 : P2 ≠ d := fun z => by
    obtain ⟨ps, h⟩ := id h
    obtain ⟨dx, e⟩ := h.dd
    rw [z, e] at pn; cases pn
  have out := hP3.out h2
  have rr3 := hP3.rr
  have e1 : commitW prs = (logW prs ++ [(1, headRow prs)]) ++ (homesW prs ++ [(1, List.replicate 16 0)]) := by rw [commitW, if_neg hne]
  rw [e1] at D2
  walk_at "go"
  have D3 := D2.split
  have lt2 := hP2.lt
  refine for_E (xs := ts2.map V.ref) (fun i σ' H' => ∃ (v3 v4 : Option V) (R' : List (List Int)) (done' : Int) (k' : Option Nat), σ' = [some (.ref d), some (.ref P), some (.ref P2), v3, v4, none] ∧ PrsAt H' P2 ts2 qs2 prs ∧ DkEx a T H' d r R' done' k' ∧ R'.length = R.length ∧
      DoesW a T d r ((logW prs ++ [(1, headRow prs)]).drop i) k' R' done' H' (fun H1 => DoesW a T d r (homesW prs ++ [(1, List.replicate 16 0)]) (less k (logW prs ++ [(1, headRow prs)]).length) (applyW (logW prs ++ [(1, headRow prs)]) R) (done + (logW prs ++ [(1, headRow prs)]).length) H1 (fun H' => Q .non H') (fun H' => E (.ref a.Stopped) none H') ∧
        DkEx a T H1 d r (applyW (logW prs ++ [(1, headRow prs)]) R) (done + (logW prs ++ [(1, headRow prs)]).length) (less k (logW prs ++ [(1, headRow prs)]).length)) (fun H' => E (.ref a.Stopped) none H')) (fun i σ' H' ⟨_, _, _, _, _, _, e, _⟩ => e.rr)
    ⟨none, none, R, done, k, rfl, hP3, h2, rfl, D3⟩ ?_ ?_
  · rintro i x σ' H3 T H4 hx ⟨v3, v4, R', done', k', rfl, hP4, h4, hl, D4⟩ n4
    rw [List.getElem?_map] at hx
    have hi : i < prs.length := by
      cases e : ts2[i]? with
      | none => rw [e] at hx; cases hx
      | some t => have := (List.getElem?_eq_some_iff.mp e).1; omega
    have e : prs[i]? = some (prs[i].1, prs[i].2) := List.getElem?_eq_getElem hi
    obtain ⟨t, q0, f1, f2, f3, f4⟩ := hP4.at_ i _ _ e
    rw [f1] at hx; cases hx
    obtain ⟨b1, b2, gr⟩ := g.row _ (List.getElem_mem hi)
    have e0 : (logW prs ++ [(1, headRow prs)]).drop i = (2 + i, prs[i].2) :: (logW prs ++ [(1, headRow prs)]).drop (i + 1) := by
      have hlen : i < (logW prs ++ [(1, headRow prs)]).length := by simp [logW]; omega
      rw [List.drop_eq_getElem_cons hlen]
      congr 1
      rw [List.getElem_append_left (by simp [logW]; exact hi)]
      simp [logW, List.getD_eq_getElem?_getD, e]
    rw [e0] at D4
    have h5 := h4.same n4.same
    have f3' := n4.old f3
    walk_at "go"
    refine go_methD h5 (fun _ _ _ => rfl) ?_
    walk_at "go"
    have ei : ((1 : Int) + 1 + (i : Int)).toNat = 2 + i := by omega
    refine p_writeE h5 (by omega) (by omega) (n4.old f4) gr (ws := (logW prs ++ [(1, headRow prs)]).drop (i + 1)) (by rw [ei]; exact D4.same n4.same) (fun H6 c6 nk h6 D6 => ?_) (fun H6 z => z)
    walk_at "go"
    exact ⟨_, _, _, _, _, rfl, (hP4.same n4.same).chg c6 (by simp [pr2, pd2]) out.1 out.2, h6, by simp [hl], D6⟩
  · rintro σ' H3 ⟨v3, v4, R', done', k', rfl, hP4, h4, hl, D4⟩
    have e0 : (logW prs ++ [(1, headRow prs)]).drop (ts2.map V.ref).length = [(1, headRow prs)] := by
      rw [List.length_map]
      exact List.drop_left' (by simp [logW]; omega)
    rw [e0] at D4
    have rr4 := hP4.rr
    walk_at "go"
    refine lc_idxL (fun j => .int (prs.getD j (0, [])).1) rr4 (by rw [sizeLine_eq, List.length_map]; omega) (fun i x H' Q' hx s q' => ?_) (fun hm H5 hmn s5 h5m => ?_)
    · rw [List.getElem?_map] at hx
      have hi : i < prs.length := by
        cases e : ts2[i]? with
        | none => rw [e] at hx; cases hx
        | some t => have := (List.getElem?_eq_some_iff.mp e).1; omega
      have e : prs[i]? = some (prs[i].1, prs[i].2) := List.getElem?_eq_getElem hi
      obtain ⟨t, q0, f1, f2, f3, f4⟩ := hP4.at_ i _ _ e
      rw [f1] at hx; cases hx
      have f3' := s _ _ f3
      walk_at "go"
      have := q' _ (Same.refl _)
      simpa [List.getD_eq_getElem?_getD, e] using this
    have h5m' : H5 hm = some (.lst ((prs.map (·.1)).map V.int)) := by
      rw [h5m, List.length_map, lt2, List.map_map]
      congr 2
      refine List.ext_getElem (by simp) fun i h1 h2 => ?_
      have hi : i < prs.length := by simpa using h1
      simp [List.getD_eq_getElem?_getD, List.getElem?_eq_getElem hi]
    have h6 := h4.same s5
    have D5 := D4.same s5
    walk_at "go"
    refine go_methD h6 (fun _ _ _ => rfl) ?_
    walk_at "go"
    refine p_empty_row fun er H6 s6 ern er6 => ?_
    have hm6 := s6 _ _ h5m'
    have hml : (prs.map (·.1)).length ≤ 15 := by simpa using few
    walk_at "go"
    rename_i p7 H7 n7 p8 H8 n8
    refine p_changed (n8.old (n7.old er6)) n8.at (by omega) (by simp) (by simp; omega) fun hr H9 s9 hrn hr9 => ?_
    have hr9' : H9 hr = some (.lst ((headRow prs).map V.int)) := by
      rw [hr9]
      congr 2
      simp [headRow]
      exact (List.drop_replicate : (List.replicate 15 (V.int 0)).drop prs.length = List.replicate (15 - prs.length) (V.int 0))
    have s59 : Same H5 H9 := ((s6.trans n7.same).trans n8.same).trans s9
    walk_at "go"
    refine p_writeE (h6.same s59) (i := 1) (by omega) (by omega) hr9' (g.head (by omega)) (D5.same s59) (fun H10 c10 nk h10 D10 => ?_) (fun H10 z => z)
    obtain ⟨D11, h11⟩ := D10.nil h10
    have hmd : hm ≠ d ∧ hm ≠ r := by obtain ⟨ps, z⟩ := id h6; exact z.neRow h5m'
    have hm10 : H10 hm = some (.lst ((prs.map (·.1)).map V.int)) := c10.at (by simp [hmd.1, hmd.2]) (s59 _ _ h5m')
    walk_at "go"
    refine p_carry_home h11 hm10 hml (fun b hb => ?_) ?_
    · obtain ⟨p, hp, rfl⟩ := List.mem_map.mp hb
      have := g.row p hp
      rw [applyW_len]; exact ⟨this.1, this.2.1⟩
    · have ec : carryW (prs.map (·.1)) (applyW (logW prs ++ [(1, headRow prs)]) R) = homesW prs ++ [(1, List.replicate 16 0)] := by
        rw [carryW]
        congr 1
        refine List.ext_getElem (by simp [homeW, homesW]) fun i h1 h2 => ?_
        have hi : i < prs.length := by simpa [homesW] using h2
        have : (applyW (logW prs ++ [(1, headRow prs)]) R)[2 + i]? = some prs[i].2 := by
          rw [applyW_app]
          show ((applyW (logW prs) R).set 1 _)[2 + i]? = _
          rw [List.getElem?_set_ne (by omega), logW, applyW_range (fun j => rfl) prs.length i hi (by omega)]
          simp [List.getD_eq_getElem?_getD, List.getElem?_eq_getElem hi]
        simp [homeW, homesW, List.getD_eq_getElem?_getD, List.getElem?_eq_getElem hi, this]
      rw [ec]
      refine D11.imp (fun H' z => ?_) fun H' z => z
      walk_at "go"
      exact z
end

end Bk

namespace Bk
open PySem L2 PyProof.Rows
/-! our own short tactics: h: what stands at a place; ne: two places; sm: what stood stands; z: a size; s: a step; go: steps -/
local macro_rules | `(tactic| walk_at "h") => `(tactic| first
  | assumption
  | exact New.at (by assumption)
  | exact Wr.at (by assumption)
  | (refine' New.old (by assumption) ?_; walk_at "h")
  | (refine' Same.at (by assumption) ?_; walk_at "h")
  | (refine' Wr.old (by assumption) ?_ ?_; walk_at "ne"; walk_at "h")
  | (refine' Chg.at (by assumption) ?_ ?_; walk_at "ni"; walk_at "h"))
local macro_rules | `(tactic| walk_at "ni") => `(tactic| first
  | exact ni_nil
  | assumption
  | (refine' ni_cons ?_ ?_; walk_at "ne"; walk_at "ni"))
local macro_rules | `(tactic| walk_at "ne") => `(tactic| first
  | assumption
  | exact Ne.symm (by assumption)
  | exact New.ne (by assumption) (by walk_at "h")
  | exact ne_none (by assumption) (by walk_at "h")
  | exact Ne.symm (ne_none (by assumption) (by walk_at "h"))
  | exact Ne.symm (New.ne (by assumption) (by walk_at "h")))
local macro_rules | `(tactic| walk_at "sm") => `(tactic| first
  | exact Same.refl _
  | assumption
  | (refine' Same.trans ?_ (New.same (by assumption)); walk_at "sm")
  | (refine' Same.trans ?_ (by assumption : Same _ _); walk_at "sm"))
local macro_rules | `(tactic| walk_at "z") => `(tactic| first
  | assumption
  | (rw [PySem.sizeLine_eq]; omega)
  | (rw [PySem.sizeLine_eq]; simp only [List.length_cons, List.length_nil, List.length_append, List.length_map, List.length_range, List.length_replicate, len_cut]; omega)
  | (rw [PySem.sizeLine_eq]; simp only [List.length_cons, List.length_nil, List.length_append, List.length_map, List.length_range, List.length_replicate, len_cut] at *; omega))
local macro_rules | `(tactic| walk_at "s") => `(tactic| first
  | ((with_reducible refine' go_var ?h ?_); (case h => exact rfl))
  | (with_reducible refine' go_c ?_)
  | (with_reducible refine' go_op ?_)
  | (with_reducible refine' go_un ?_)
  | (with_reducible refine' go_rU ?_)
  | (with_reducible refine' go_seq ?_)
  | (with_reducible refine' go_ret ?_)
  | (with_reducible refine' go_retN ?_)
  | (with_reducible refine' go_next ?_)
  | (with_reducible refine' go_drop ?_)
  | (with_reducible refine' go_asg ?_)
  | ((with_reducible refine' go_name2 ?h ?_); (case h => (simp only [List.set_cons_zero, List.set_cons_succ]; exact rfl)))
  | ((with_reducible refine' go_name2 ?h ?_); (case h => exact rfl))
  | (with_reducible refine' go_ifS ?_)
  | (with_reducible refine' go_blk ?_)
  | (with_reducible refine' go_test ?_)
  | (with_reducible refine' go_tB ?_)
  | (with_reducible refine' go_and ?_)
  | (with_reducible refine' go_or ?_)
  | (with_reducible refine' go_not ?_)
  | (with_reducible refine' go_andV ?_)
  | (with_reducible refine' go_orV ?_)
  | (with_reducible refine' go_notV ?_)
  | (with_reducible refine' go_if ?_)
  | (with_reducible refine' go_chain ?_)
  | (with_reducible refine' iteT ?_)
  | (with_reducible refine' iteF ?_)
  | ((with_reducible refine' go_Td ?h ?_); (case h => walk_at "pr"))
  | ((with_reducible refine' go_Fd ?h ?_); (case h => walk_at "pr"))
  | ((with_reducible refine' go_Tn ?h ?_); (case h => walk_at "pr"))
  | ((with_reducible refine' go_Fn ?h ?_); (case h => walk_at "pr"))
  | ((with_reducible refine' go_T ?h ?_); (case h => (first | decide | assumption | exact rfl)))
  | ((with_reducible refine' go_F ?h ?_); (case h => (first | decide | assumption | exact rfl)))
  | (with_reducible refine' go_nil ?_)
  | (with_reducible refine' go_cons ?_)
  | (with_reducible refine' go_tLst ?_)
  | (with_reducible refine' go_tTup ?_)
  | ((with_reducible refine' go_LstK ?h ?_); (case h => walk_at "z"); intro p H1 n1)
  | ((with_reducible refine' go_TupK ?h ?_); (case h => walk_at "z"); intro p H1 n1)
  | (with_reducible refine' go_addI ?_)
  | ((with_reducible refine' go_addL ?h ?k ?z ?_); (case h => walk_at "h"); (case k => walk_at "h"); (case z => walk_at "z"); intro p H1 n1)
  | (with_reducible refine' go_sub ?_)
  | ((with_reducible refine' go_mulI ?h ?_); (case h => (unfold CMul; omega)))
  | ((with_reducible refine' go_mulL ?h ?k ?_); (case h => walk_at "h"); (case k => (refine ⟨by omega, by omega, ?_⟩; walk_at "z")); intro p H1 n1)
  | ((with_reducible refine' go_div ?h ?_); (case h => (unfold CDiv; omega)))
  | ((with_reducible refine' go_mod ?h ?_); (case h => omega))
  | (with_reducible refine' go_p109 ?_)
  | (with_reducible refine' go_p1020 ?_)
  | ((with_reducible refine' go_pow ?h ?_); (case h => (unfold CPow; omega)))
  | (with_reducible refine' go_lt ?_)
  | (with_reducible refine' go_le ?_)
  | (with_reducible refine' go_gt ?_)
  | (with_reducible refine' go_ge ?_)
  | (with_reducible refine' go_eqI ?_)
  | (with_reducible refine' go_eqB ?_)
  | (with_reducible refine' go_eqS ?_)
  | (with_reducible refine' go_neI ?_)
  | (with_reducible refine' go_neB ?_)
  | (with_reducible refine' go_neS ?_)
  | (with_reducible refine' go_isN ?_)
  | (with_reducible refine' go_isNotN ?_)
  | (with_reducible refine' go_isB ?_)
  | (with_reducible refine' go_isNotB ?_)
  | (with_reducible refine' go_sl ?_)
  | (with_reducible refine' go_noPart ?_)
  | (with_reducible refine' go_part ?_)
  | (with_reducible refine' go_intK ?_)
  | ((with_reducible refine' go_slL ?h ?_); (case h => walk_at "h"); intro p H1 n1)
  | ((with_reducible refine' go_ixL ?h ?k ?_); (case h => walk_at "h"); (case k => exact rfl))
  | ((with_reducible refine' go_ixT ?h ?k ?_); (case h => walk_at "h"); (case k => exact rfl))
  | ((with_reducible refine' go_slW ?h ?_); (case h => walk_at "h"))
  | (with_reducible refine' go_bm ?_)
  | (with_reducible refine' go_bm0 ?_)
  | ((with_reducible refine' go_bmL ?h ?_); (case h => walk_at "h"))
  | ((with_reducible refine' go_append ?h ?k ?_); (case h => walk_at "h"); (case k => walk_at "z"); intro H1 n1)
  | ((with_reducible refine' go_extend ?h ?k ?z ?_); (case h => walk_at "h"); (case k => walk_at "h"); (case z => walk_at "z"); intro H1 n1)
  | ((with_reducible refine' go_clear ?h ?_); (case h => walk_at "h"); intro H1 n1)
  | ((with_reducible refine' go_dnew ?_); intro p H1 n1)
  | (with_reducible refine' go_cb ?_)
  | (with_reducible refine' go_callS ?_)
  | (with_reducible refine' go_call0 ?_)
  | ((with_reducible refine' go_lenL ?h ?_); (case h => walk_at "h"))
  | ((with_reducible refine' go_lenT ?h ?_); (case h => walk_at "h"))
  | ((with_reducible refine' go_lenK ?h ?_); (case h => walk_at "hk"))
  | ((with_reducible refine' go_listL ?h ?_); (case h => walk_at "h"); intro p H1 n1)
  | ((with_reducible refine' go_listT ?h ?_); (case h => walk_at "h"); intro p H1 n1)
  | ((with_reducible refine' go_tupleL ?h ?_); (case h => walk_at "h"); intro p H1 n1)
  | (with_reducible refine' go_intI ?_)
  | (with_reducible refine' go_intB ?_)
  | (with_reducible refine' go_abs ?_)
  | (with_reducible refine' go_min2 ?_)
  | (with_reducible refine' go_max2 ?_)
  | ((with_reducible refine' go_isi ?h ?k ?_); (case h => walk_at "ty"); (case k => exact kit_bb (by decide) (by decide)))
  | (with_reducible refine' go_lc ?_)
  | (with_reducible refine' go_for ?_)
  | (with_reducible refine' go_seqP ?_)
  | ((with_reducible refine' go_seqL ?h ?_); (case h => walk_at "h"))
  | ((with_reducible refine' go_seqT ?h ?_); (case h => walk_at "h"))
  | (with_reducible refine' go_seqS ?_)
  | (with_reducible refine' go_rng1 ?_)
  | (with_reducible refine' go_rng2 ?_)
  | ((with_reducible refine' go_rng1K ?h ?_); (case h => omega))
  | ((with_reducible refine' go_rng2K ?h ?_); (case h => omega))
  | (with_reducible refine' go_raise ?_)
  | ((with_reducible refine' go_tupG ?h ?k ?_); (case h => walk_at "h"); (case k => exact rfl))
  | ((with_reducible refine' go_lstG ?h ?k ?_); (case h => walk_at "h"); (case k => exact rfl))
  | (with_reducible refine' go_gNil ?_)
  | (with_reducible refine' go_tryAs ?_)
  | (with_reducible refine' go_tryMany1 ?_)
  | (with_reducible refine' go_tryMany2 ?_)
  | (with_reducible refine' go_WM ?_)
  | ((with_reducible refine' go_asT ?_); intro e he)
  | (with_reducible refine' go_asF ?_)
  | ((with_reducible refine' go_manyT ?_); intro e he)
  | (with_reducible refine' go_manyF ?_)
  | (with_reducible refine' go_manyN ?_)
  | (with_reducible refine' go_fld ?_)
  | ((with_reducible refine' go_FldK ?h ?c ?n ?l ?_); (case h => walk_at "h"); (case c => infer_instance); (case n => infer_instance); (case l => exact rfl))
  | (with_reducible refine' go_sfld ?_)
  | ((with_reducible refine' go_SFldK ?h ?c ?n ?l ?e ?_); (case h => walk_at "h"); (case c => infer_instance); (case n => infer_instance); (case l => exact Nat.le_of_ble_eq_true rfl); (case e => walk_at "pf"); intro H1 n1)
  | (with_reducible refine' go_meth ?_)
  | ((with_reducible refine' go_MethK 0 ?h ?l ?e ?_); (case h => walk_at "h"); (case l => exact rfl); (case e => exact rfl))
  | ((with_reducible refine' go_MethK 1 ?h ?l ?e ?_); (case h => walk_at "h"); (case l => exact rfl); (case e => exact rfl))
  | ((with_reducible refine' go_MethK 2 ?h ?l ?e ?_); (case h => walk_at "h"); (case l => exact rfl); (case e => exact rfl))
  | (with_reducible refine' go_make ?_)
  | (with_reducible refine' go_callX ?_)
  | (with_reducible refine' go_methX ?_)
  | ((with_reducible refine' go_MethXK ?h ?l ?_); (case h => walk_at "h"); (case l => exact rfl))
  | (with_reducible refine' go_dget ?_)
  | ((with_reducible refine' go_DGetS ?h ?l ?_); (case h => walk_at "h"); (case l => exact rfl))
  | (with_reducible refine' go_dput ?_)
  | ((with_reducible refine' go_DPutS ?h ?l ?e ?_); (case h => walk_at "h"); (case l => exact Nat.le_of_ble_eq_true rfl); (case e => walk_at "pk"); intro H1 n1)
  | ((with_reducible refine' go_disp ?_); intro p H1 n1)
  | (with_reducible refine' go_pairs ?_)
  | (with_reducible refine' go_pairs0 ?_)
  | ((with_reducible refine' go_DispS ?h ?e ?l ?k ?j ?m ?_); (case h => walk_at "h"); (case e => exact rfl); (case l => exact Nat.le_of_ble_eq_true rfl); (case k => (simp only [unS]; exact rfl)); (case j => (simp only [List.map_cons, List.map_nil]; exact rfl)); (case m => decide +kernel); intro H1 n1)
  | (with_reducible refine' go_par ?_)
  | ((with_reducible refine' go_ParK ?h ?_); (case h => (simp only [List.set_cons_zero, List.set_cons_succ]; exact rfl)))
  | (with_reducible refine' go_sub_ ?_)
  | ((with_reducible refine' go_setLi ?h ?k ?_); (case h => walk_at "h"); (case k => walk_at "ix"); intro H1 n1)
  | (with_reducible refine' go_listY ?_)
  | ((with_reducible refine' go_listYL ?h ?_); (case h => walk_at "h"))
  | (with_reducible refine' go_bmS ?_)
  | (with_reducible refine' go_ckw ?_)
  | ((with_reducible refine' go_maxD ?h ?_); (case h => walk_at "h"))
  | (with_reducible refine' go_listR ?_)
  | (with_reducible refine' go_rg2 ?_)
  | (with_reducible refine' go_Rg2K ?_)
  | (with_reducible refine' go_rg1 ?_)
  | (with_reducible refine' go_Rg1K ?_)
  | ((with_reducible refine' go_ListRK ?h ?_); (case h => omega); intro p H1 n1)
  | (with_reducible refine' go_enum ?_)
  | ((with_reducible refine' go_EnumL ?h ?_); (case h => walk_at "h"))
  | (with_reducible refine' go_isX ?_)
  | (with_reducible refine' go_isXt ?_)
  | (with_reducible refine' go_din ?_)
  | (with_reducible refine' go_dnotin ?_)
  | ((with_reducible refine' go_DInI ?h ?_); (case h => walk_at "h"))
  | ((with_reducible refine' go_DNotInI ?h ?_); (case h => walk_at "h"))
  | (with_reducible refine' go_dget2 ?_)
  | ((with_reducible refine' go_DGet2K ?h ?_); (case h => walk_at "h"))
  | (with_reducible refine' go_dpop1 ?_)
  | ((with_reducible refine' go_eqDE ?h ?k ?_); (case h => walk_at "h"); (case k => walk_at "h"))
  | ((with_reducible refine' go_neDE ?h ?k ?_); (case h => walk_at "h"); (case k => walk_at "h"))
  | (with_reducible refine' go_chain3 ?_)
  | (with_reducible refine' go_LinkT ?_)
  | (with_reducible refine' go_LinkF ?_)
  | (with_reducible refine' go_Link2T ?_)
  | (with_reducible refine' go_Link2F ?_)
  | (with_reducible refine' go_gSl ?_)
  | ((with_reducible refine' go_insert ?h ?k ?l ?m ?_); (case h => walk_at "h"); (case k => walk_at "z"); (case l => omega); (case m => omega); intro H1 n1)
  | (with_reducible refine' go_gCons ?_))
local macro_rules | `(tactic| walk_at "pf") => `(tactic| first
  | exact putF_nil
  | exact putF_hit
  | (refine' putF_miss ?h ?k; (case h => decide +kernel); (case k => walk_at "pf")))
local macro_rules | `(tactic| walk_at "pk") => `(tactic| first
  | exact putK_nil
  | exact putK_hit (by (simp only [List.map_cons, List.map_nil]; decide +kernel))
  | (refine' putK_miss ?h ?k; (case h => decide +kernel); (case k => walk_at "pk")))
local macro_rules | `(tactic| walk_at "ix") => `(tactic| first
  | assumption
  | omega
  | (simp only [List.length_cons, List.length_nil, List.length_append, List.length_map, List.length_range, List.length_replicate, List.length_set] at *; omega))
local macro_rules | `(tactic| walk_at "pr") => `(tactic| first
  | assumption
  | decide
  | omega
  | exact rfl
  | (intro z; cases z; done))
local macro_rules | `(tactic| walk_at "hk") => `(tactic| first
  | assumption
  | exact seq' (by assumption) (by walk_at "sm"))
local macro_rules | `(tactic| walk_at "ty") => `(tactic| first
  | exact rfl
  | assumption
  | exact tyN_L (by walk_at "h")
  | exact tyN_T (by walk_at "h")
  | exact tyN_D (by walk_at "h"))
local macro_rules | `(tactic| walk_at "go") => `(tactic| repeat (walk_at "s"))
section
variable {K : PySem.W.Frag} {a : Ac} {H : Hp} {Q : VK} {E : XK} [F : Fc K a] {d r : Addr} {R : List (List Int)} {done : Int} {k : Option Nat}
theorem p_writesE (h : DkEx a [] H d r R done k) (q : Q (.int done) H) : sp_Disk_writes K a [.ref d] H Q E := by obtain ⟨ps, h⟩ := h; exact p_writes h.toDiskAt q
theorem p_writeF {i : Int} {p : Addr} {row : List Int} (h : DkEx a [] H d r R done none) (i0 : 0 ≤ i) (i1 : i < R.length) (hp : H p = some (.lst (row.map V.int))) (g : GoodRow row)
    (q : ∀ H', Chg [d, r] H H' → DkEx a [] H' d r (R.set i.toNat row) (done + 1) none → Q .non H') : sp_Disk_write K a [.ref d, .int i, .ref p] H Q E := by
  obtain ⟨ps, h⟩ := h
  refine p_write h.toDiskAt (n := "int") rfl (.good hp g) (fun i' row' ei _ _ er nl p' H' c pn h' => ?_) (fun z => ?_) (fun _ z => by cases z) (fun _ _ el H' s => by cases el)
  · cases ei; cases er
    exact q H' c ⟨_, h.chg' c h' (out_set h.ex h.out pn)⟩
  · rw [isBlk_of i0 i1] at z; cases z
omit F in
theorem DkEx.own (h : DkEx a [] H d r R done k) : ∀ b ∈ [d, r], NotInts H b ∧ NotTup H b := by obtain ⟨ps, h⟩ := h; exact fun b hb => ⟨h.toDiskAt.own b hb, h.toDiskAt.ownT b hb⟩
omit F in
theorem DkEx.ne {x : Addr} {xs : List V} (h : DkEx a [] H d r R done k) (e : H x = some (.lst xs)) : x ≠ d := by obtain ⟨ps, h⟩ := h; obtain ⟨dx, e2⟩ := h.dd; exact ne_obj e e2 (by simp)
omit F in
theorem DkEx.fresh {x : Addr} (h : DkEx a [] H d r R done k) (e : H x = none) : x ≠ d ∧ x ≠ r := ⟨fun z => (by obtain ⟨ps, h⟩ := h; obtain ⟨dx, e2⟩ := h.dd; rw [z, e2] at e; cases e), fun z => (by obtain ⟨ps, h⟩ := h; rw [z, h.rr] at e; cases e)⟩
omit F in
theorem DkEx.many (h : DkEx a [] H d r R done k) : 24 ≤ R.length ∧ R.length ≤ 96 := by obtain ⟨ps, h⟩ := h; exact h.toDiskAt.many
omit F in
theorem DkEx.good (h : DkEx a [] H d r R done k) : ∀ row ∈ R, GoodRow row := by obtain ⟨ps, h⟩ := h; exact h.toDiskAt.good
omit F in
theorem DkEx.neRow {p : Addr} {ns : List Int} (h : DkEx a [] H d r R done k) (e : H p = some (.lst (ns.map V.int))) : p ≠ d ∧ p ≠ r := by obtain ⟨ps, h⟩ := h; exact h.toDiskAt.neRow e
omit F in
theorem DkEx.chg {S : List Addr} {H' : Hp} (h : DkEx a [] H d r R done k) (c : Chg S H H') (hd : d ∉ S) (hr : r ∉ S) (hS : ∀ b ∈ S, NotInts H b) : DkEx a [] H' d r R done k := by
  obtain ⟨ps, h⟩ := h
  exact ⟨ps, h.toDiskAt.chg2 c hd hr hS, fun _ _ => by simp, fun t ht => by cases ht⟩
omit F in
theorem DkEx.ndr (h : DkEx a [] H d r R done k) : d ≠ r := by
  obtain ⟨ps, h⟩ := h
  obtain ⟨dx, e⟩ := h.dd
  exact ne_obj e h.rr (by simp)
/-- all rows of the disk, told anew -/
theorem lc_rows {σ : Bk.St} {m j : Nat} {n : Int} (h : DkEx a [] H d r R done k) (hn : n = R.length) (hσ : σ[j]? = some (some (.ref d))) (hm : m < σ.length) (hj : m ≠ j) (q : ∀ L ls H', Same H H' → H L = none → RowsAt H' L ls R → Q (.ref L) H') :
    LcK (gName m) tYes (tCB (rListP K) (tCons (tMethP "read" [(a.Disk, sp_Disk_read K a)] (WE W0) (tVar j) (tCons (tVar m) tNil)) tNil)) [m] σ Q (Itr 0 n.toNat) H := by
  have many := h.many
  have gR := h.good
  refine lc_newR (o := fun i => .lst ((R.getD i []).map V.int)) (by rw [sizeLine_eq]; omega) (fun i H' Q' hi s q' => ?_) (fun D qs H2 hD s2 hq w2 hd2 => ?_)
  · have h2 := h.same s
    have hi2 : i < R.length := by omega
    have sj : ((σ.set m none).set m (some (.int (0 + (i : Int)))))[j]? = some (some (.ref d)) := by rw [List.getElem?_set_ne hj, List.getElem?_set_ne hj]; exact hσ
    have sm : ((σ.set m none).set m (some (.int (0 + (i : Int)))))[m]? = some (some (.int (0 + (i : Int)))) := List.getElem?_set_self (by simpa using hm)
    refine go_cb (go_cons (go_meth (go_var sj ?_)))
    refine go_methD h2 (fun _ _ _ => rfl) ?_
    refine go_cons (go_var sm (go_nil ?_))
    refine p_readE h2 (by omega) (row := R[i]) (by simp [hi2]) fun p3 H3 s3 p3n p33 => ?_
    walk_at "go"
    rename_i p4 H4 n4
    refine q' p4 H4 (s3.trans n4.same) (s3.free n4.free) ?_
    rw [n4.at, List.getD_eq_getElem?_getD, List.getElem?_eq_getElem hi2]; rfl
  · refine q D qs H2 s2 hD ⟨hd2, by omega, fun i p e => ?_⟩
    have hi : i < R.length := by have := (List.getElem?_eq_some_iff.mp e).1; omega
    refine ⟨R[i], List.getElem?_eq_getElem hi, fun z => ?_, ?_⟩
    · have := (gR R[i] (List.getElem_mem hi)).1
      rw [z] at this; cases this
    · rw [w2.at_ i p e, List.getD_eq_getElem?_getD, List.getElem?_eq_getElem hi]; rfl
omit F in
theorem rows_eq {L L2 : Addr} {ls ls2 : List Addr} {Z : List (List Int)} (h : RowsAt H L ls Z) (h2 : RowsAt H L2 ls2 Z) (q : Q (.bl true) H) : rEqP K (.ref L) (.ref L2) H Q :=
  go_eqSame (d := .list (rowsD Z)) (.lst (SqL.of h.rr) (dp_rows h.len fun i p e => let ⟨row, a, _, b⟩ := h.row i p e; ⟨row, a, b⟩)) (.lst (SqL.of h2.rr) (dp_rows h2.len fun i p e => let ⟨row, a, _, b⟩ := h2.row i p e; ⟨row, a, b⟩)) (shaped_rows Z) q
end

/-! ### a batch -/
theorem homes_at : ∀ {prs : List (Int × List Int)} {R : List (List Int)}, (∀ p ∈ prs, 17 ≤ p.1 ∧ p.1 < R.length) → prs.Pairwise (fun p q => p.1 < q.1) → ∀ p ∈ prs, (applyW (homesW prs) R)[p.1.toNat]? = some p.2
  | [], _, _, _, p, h => nomatch h
  | q :: prs, R, b, u, p, h => by
    have u := List.pairwise_cons.mp u
    show (applyW (homesW prs) (R.set q.1.toNat q.2))[p.1.toNat]? = some p.2
    have bq := b q List.mem_cons_self
    rcases List.mem_cons.mp h with rfl | h
    · rw [applyW_ne _ _ (fun w hw => by
        obtain ⟨p', hp', rfl⟩ := List.mem_map.mp hw
        have := u.1 p' hp'
        show p'.1.toNat ≠ p.1.toNat
        omega)]
      exact List.getElem?_set_self (by omega)
    · exact homes_at (fun p hp => by rw [List.length_set]; exact b p (List.mem_cons_of_mem _ hp)) u.2 p h
theorem homes_ne {prs : List (Int × List Int)} {R : List (List Int)} {i : Nat} (h : ∀ p ∈ prs, p.1.toNat ≠ i) : (applyW (homesW prs) R)[i]? = R[i]? := applyW_ne _ _ fun w hw => by
  obtain ⟨p, hp, rfl⟩ := List.mem_map.mp hw
  exact h p hp
theorem logW_ne {prs : List (Int × List Int)} {R : List (List Int)} {i : Nat} (few : prs.length ≤ 15) (h : 17 ≤ i ∨ i = 0) : (applyW (logW prs) R)[i]? = R[i]? := applyW_ne _ _ fun w hw => by
  obtain ⟨j, hj, rfl⟩ := List.mem_map.mp hw
  have := List.mem_range.mp hj
  show 2 + j ≠ i
  omega
theorem commit_at {prs : List (Int × List Int)} {R : List (List Int)} (g : GoodPrs R.length prs) {i : Nat} (h : 17 ≤ i ∨ i = 0) : (applyW (commitW prs) R)[i]? = (applyW (homesW prs) R)[i]? := by
  unfold commitW
  split
  · rename_i e; subst e; rfl
  · rw [applyW_app, applyW_app, applyW_app]
    show (((applyW (homesW prs) (((applyW (logW prs) R)).set 1 (headRow prs)))).set 1 (List.replicate 16 0))[i]? = _
    rw [List.getElem?_set_ne (by omega)]
    by_cases c : ∃ p ∈ prs, p.1.toNat = i
    · obtain ⟨p, hp, e⟩ := c
      rw [← e, homes_at (fun p hp => ⟨(g.row p hp).1, by rw [List.length_set, applyW_len]; exact (g.row p hp).2.1⟩) g.up p hp, homes_at (fun p hp => ⟨(g.row p hp).1, (g.row p hp).2.1⟩) g.up p hp]
    · have c' : ∀ p ∈ prs, p.1.toNat ≠ i := fun p hp z => c ⟨p, hp, z⟩
      rw [homes_ne c', homes_ne c', List.getElem?_set_ne (by omega), logW_ne g.few h]
theorem commitW_len {prs : List (Int × List Int)} : ((commitW prs).length : Int) = if prs = [] then (0 : Int) else 2 * (prs.length : Int) + 2 := by
  unfold commitW
  split
  · rfl
  · simp [logW, homesW]; omega
/-- a batch, its dict, on a disk with its rows: what it shows, the blocks of its own rows, the writes that were done -/
structure BtAt (a : Ac) (H : Hp) (bt D d r : Addr) (Z : List (List Int)) (ks : List Int) (done : Int) : Prop where
  ex : ∃ R psl, DkEx a [] H d r R done none ∧ DRows H D psl R Z ∧ psl.map (·.1) = ks
  ob : ∃ dx, H bt = some (.ins a.Batch dx [("disk", .ref d), ("rows", .ref D)])
section
variable {K : PySem.W.Frag} {a : Ac} {H : Hp} {Q : VK} {E : XK} [F : Fc K a] {bt D d r : Addr} {Z R : List (List Int)} {ks : List Int} {done : Int}
omit F
theorem BtAt.same {H' : Hp} (h : BtAt a H bt D d r Z ks done) (s : Same H H') : BtAt a H' bt D d r Z ks done := ⟨let ⟨R, psl, a, b, c⟩ := h.ex; ⟨R, psl, a.same s, b.same s, c⟩, let ⟨dx, e⟩ := h.ob; ⟨dx, s _ _ e⟩⟩
theorem BtAt.many (h : BtAt a H bt D d r Z ks done) : 24 ≤ Z.length ∧ Z.length ≤ 96 := by obtain ⟨R, psl, h1, h2, _⟩ := h.ex; rw [h2.len]; exact h1.many
theorem BtAt.good (h : BtAt a H bt D d r Z ks done) : ∀ row ∈ Z, GoodRow row := by
  obtain ⟨R, psl, h1, h2, _⟩ := h.ex
  intro row hr
  obtain ⟨i, hi⟩ := List.mem_iff_getElem?.mp hr
  by_cases c : ∃ p ∈ psl, p.1 = (i : Int)
  · obtain ⟨p, hp, e⟩ := c
    obtain ⟨q, row', _, _, g1, g2, _, _, e2⟩ := h2.hit p hp
    rw [e, Int.toNat_natCast, hi] at e2
    cases e2
    exact ⟨g1, g2⟩
  · rw [h2.miss i fun p hp z => c ⟨p, hp, z⟩] at hi
    exact h1.good row (List.mem_of_getElem? hi)
theorem BtAt.keys (h : BtAt a H bt D d r Z ks done) : ks.Nodup ∧ ∀ k ∈ ks, 17 ≤ k ∧ k < Z.length := by
  obtain ⟨R, psl, h1, h2, rfl⟩ := h.ex
  refine ⟨h2.nd, fun k hk => ?_⟩
  obtain ⟨p, hp, rfl⟩ := List.mem_map.mp hk
  obtain ⟨q, row', _, _, _, _, a1, a2, _⟩ := h2.hit p hp
  rw [h2.len]; exact ⟨a1, a2⟩
theorem BtAt.own (h : BtAt a H bt D d r Z ks done) : ∀ b ∈ [bt, D, d, r], NotInts H b ∧ NotTup H b := by
  obtain ⟨R, psl, h1, h2, _⟩ := h.ex
  obtain ⟨dx, e⟩ := h.ob
  intro b hb
  rcases List.mem_cons.mp hb with rfl | hb
  · exact ⟨.ins e, .ins e⟩
  rcases List.mem_cons.mp hb with rfl | hb
  · exact ⟨.dict h2.dd, .dict h2.dd⟩
  exact h1.own b hb
theorem BtAt.some (h : BtAt a H bt D d r Z ks done) : ∀ b ∈ [bt, D, d, r], ∃ u, H b = Option.some u := by
  obtain ⟨R, psl, h1, h2, _⟩ := h.ex
  obtain ⟨dx, e⟩ := h.ob
  intro b hb
  rcases List.mem_cons.mp hb with rfl | hb
  · exact ⟨_, e⟩
  rcases List.mem_cons.mp hb with rfl | hb
  · exact ⟨_, h2.dd⟩
  obtain ⟨ps, h1⟩ := h1
  obtain ⟨dx, e⟩ := h1.dd
  rcases List.mem_cons.mp hb with rfl | hb
  · exact ⟨_, e⟩
  rw [List.mem_singleton.mp hb]
  exact ⟨_, h1.rr⟩
theorem BtAt.fresh {x : Addr} (h : BtAt a H bt D d r Z ks done) (e : H x = none) : x ∉ [bt, D, d, r] := fun hx => by
  obtain ⟨u, z⟩ := h.some x hx
  rw [e] at z; cases z
theorem BtAt.nes (h : BtAt a H bt D d r Z ks done) : bt ≠ D ∧ bt ≠ r ∧ D ≠ d ∧ D ≠ r ∧ d ≠ r ∧ bt ≠ d := by
  obtain ⟨R, psl, h1, h2, _⟩ := h.ex
  obtain ⟨dx, e⟩ := h.ob
  obtain ⟨ps, h1⟩ := h1
  obtain ⟨dx2, e2⟩ := h1.dd
  exact ⟨ne_obj e h2.dd (by simp), ne_obj e h1.rr (by simp), ne_obj h2.dd e2 (by simp), ne_obj h2.dd h1.rr (by simp), ne_obj e2 h1.rr (by simp), fun z => by rw [z, e2] at e; simp at e⟩
theorem BtAt.chg {H' : Hp} {S : List Addr} (h : BtAt a H bt D d r Z ks done) (c : Chg S H H') (n : ∀ b ∈ [bt, D, d, r], b ∉ S) (o : ∀ b ∈ S, NotInts H b) : BtAt a H' bt D d r Z ks done := by
  obtain ⟨R, psl, h1, h2, h3⟩ := h.ex
  obtain ⟨dx, e⟩ := h.ob
  refine ⟨⟨R, psl, h1.chg c (n d (by simp)) (n r (by simp)) o, ⟨c.at (n D (by simp)) h2.dd, h2.nd, h2.len, fun p hp => ?_, h2.miss⟩, h3⟩, dx, c.at (n bt (by simp)) e⟩
  obtain ⟨q, row, e1, e2, e3, e4⟩ := h2.hit p hp
  exact ⟨q, row, e1, c.at (fun z => o q z row (by intro y; rw [y] at e3; cases e3) e2) e2, e3, e4⟩
/-- no row of the batch, none of the disk, stands at x -/
def RowFree (H : Hp) (D r x : Addr) : Prop := (∀ kvs, H D = Option.some (.dK kvs) → ∀ p ∈ kvs, p.2 ≠ .ref x) ∧ ∀ xs, H r = Option.some (.lst xs) → V.ref x ∉ xs
theorem BtAt.free {x : Addr} (h : BtAt a H bt D d r Z ks done) (e : H x = none) : RowFree H D r x := by
  obtain ⟨R, psl, ⟨ps, h1⟩, h2, _⟩ := h.ex
  refine ⟨fun kvs ek p hp z => ?_, fun xs ex hx => ?_⟩
  · rw [h2.dd] at ek
    cases ek
    obtain ⟨p', hp', rfl⟩ := List.mem_map.mp hp
    obtain ⟨q, row, e1, e2, _⟩ := h2.hit p' hp'
    have z : p'.2 = .ref x := z
    rw [e1] at z
    cases z
    rw [e] at e2; cases e2
  · rw [h1.rr] at ex
    cases ex
    obtain ⟨q, hq, z⟩ := List.mem_map.mp hx
    cases z
    obtain ⟨i, hi⟩ := List.mem_iff_getElem?.mp hq
    obtain ⟨row, _, e2⟩ := h1.row i x hi
    rw [e] at e2; cases e2
theorem RowFree.at {H' : Hp} {x : Addr} (h : RowFree H D r x) (e1 : H' D = H D) (e2 : H' r = H r) : RowFree H' D r x := ⟨fun kvs e => h.1 kvs (e1 ▸ e), fun xs e => h.2 xs (e2 ▸ e)⟩
theorem BtAt.free_same {H' : Hp} {x : Addr} (h : BtAt a H bt D d r Z ks done) (f : RowFree H D r x) (s : Same H H') : RowFree H' D r x := by
  obtain ⟨u, e1⟩ := h.some D (by simp)
  obtain ⟨w, e2⟩ := h.some r (by simp)
  exact f.at (by rw [e1, s _ _ e1]) (by rw [e2, s _ _ e2])
theorem BtAt.chgF {H' : Hp} {S : List Addr} (h : BtAt a H bt D d r Z ks done) (c : Chg S H H') (n : ∀ b ∈ [bt, D, d, r], b ∉ S) (o : ∀ b ∈ S, NotInts H b ∨ RowFree H D r b) : BtAt a H' bt D d r Z ks done := by
  obtain ⟨R, psl, ⟨ps, h1⟩, h2, h3⟩ := h.ex
  obtain ⟨dx, e⟩ := h.ob
  have hps : ∀ p ∈ ps, p ∉ S := fun p hp z => by
    rcases o p z with o | o
    · obtain ⟨i, hi⟩ := List.mem_iff_getElem?.mp hp
      obtain ⟨row, f1, f2⟩ := h1.row i p hi
      exact o row (by intro y; have := (h1.good row (List.mem_of_getElem? f1)).1; rw [y] at this; cases this) f2
    · exact o.2 _ h1.rr (List.mem_map_of_mem hp)
  refine ⟨⟨R, psl, ⟨ps, h1.toDiskAt.chg c (n d (by simp)) (n r (by simp)) hps, fun _ _ => by simp, fun t ht => by cases ht⟩, ⟨c.at (n D (by simp)) h2.dd, h2.nd, h2.len, fun p hp => ?_, h2.miss⟩, h3⟩, dx, c.at (n bt (by simp)) e⟩
  obtain ⟨q, row, e1, e2, e3, e4⟩ := h2.hit p hp
  refine ⟨q, row, e1, c.at (fun z => ?_) e2, e3, e4⟩
  rcases o q z with o | o
  · exact o row (by intro y; rw [y] at e3; cases e3) e2
  · exact o.1 _ h2.dd (.inl p.1, p.2) (List.mem_map_of_mem (f := fun p : Int × V => ((Sum.inl p.1 : Key), p.2)) hp) e1
include F
theorem mk_Batch (h : DkEx a [] H d r R done none) (q : ∀ bt D H', Same H H' → H bt = none → H D = none → BtAt a H' bt D d r R [] done → Q (.ref bt) H') : MakeK a.Batch (sp_Batch_init K a) E Q [.ref d] H := by
  refine go_MakeK fun dx H1 x H2 n1 n2 => ?_
  refine in_Batch_init ?_
  unfold t_Batch_init
  walk_at "go"
  rename_i H3 w3 D H4 n4 H5 w5
  have s2 := n1.same.trans n2.same
  have xf : H x = none := n1.same.free n2.free
  have c3 : Chg [x] H2 H3 := .wr w3 (by simp)
  have c5 : Chg [x] H2 H5 := (c3.trans (.of n4.same)).trans (.wr w5 (by simp))
  have s5 : Same H H5 := Chg.same (Chg.drop ((Chg.of s2).trans c5) xf)
  have Dn : H2 D = none := by
    have : H3 D = none := n4.free
    cases e : H2 D with
    | none => rfl
    | some u =>
      by_cases z : D = x
      · rw [z, w3.at] at this; cases this
      · rw [c3.at (by simpa using z) e] at this; cases this
  have xD : x ≠ D := Ne.symm (fun z => by rw [z, n2.at] at Dn; cases Dn)
  refine ⟨rfl, q x D H5 s5 xf (s2.free Dn) ⟨⟨R, [], h.same s5, ⟨?_, by simp, rfl, by simp, fun _ _ => rfl⟩, rfl⟩, dx, w5.at⟩⟩
  exact (Chg.wr w5 (by simp) : Chg [x] _ _).at (by simpa using Ne.symm xD) n4.at
theorem p_bread {i : Int} {row : List Int} (h : BtAt a H bt D d r Z ks done) (hi : 0 ≤ i) (hr : Z[i.toNat]? = some row) (q : ∀ p H', Same H H' → H p = none → H' p = some (.lst (row.map V.int)) → Q (.ref p) H') : sp_Batch_read K a [.ref bt, .int i] H Q E := by
  refine in_Batch_read ?_
  unfold t_Batch_read
  obtain ⟨R, psl, h1, h2, h3⟩ := h.ex
  obtain ⟨dx, e⟩ := h.ob
  have hl : i.toNat < R.length := by rw [← h2.len]; exact (List.getElem?_eq_some_iff.mp hr).1
  walk_at "go"
  refine go_methD h1 (fun _ _ _ => rfl) ?_
  walk_at "go"
  refine p_readE h1 hi (row := R[i.toNat]) (List.getElem?_eq_getElem hl) fun p3 H3 s3 p3n p33 => ?_
  have e3 := s3 _ _ e
  have d3 := s3 _ _ h2.dd
  walk_at "go"
  by_cases c : ∃ p ∈ psl, p.1 = i
  · obtain ⟨p, hp, rfl⟩ := c
    obtain ⟨q0, row', g1, g2, _, _, _, _, g3⟩ := h2.hit p hp
    rw [hr] at g3; cases g3
    have ev : valV (dI psl) (.inl p.1) = some (.ref q0) := valV_dI h2.nd (by rw [← g1]; exact hp)
    rw [ev]
    have g33 := s3 _ _ g2
    walk_at "go"
    refine go_DGetI d3 ev ?_
    walk_at "go"
    rename_i p4 H4 n4
    exact q p4 H4 (s3.trans n4.same) (s3.free n4.free) n4.at
  · have c' : ∀ p ∈ psl, p.1 ≠ i := fun p hp z => c ⟨p, hp, z⟩
    rw [valV_none c']
    have em := h2.miss i.toNat fun p hp z => c' p hp (by omega)
    rw [hr, List.getElem?_eq_getElem hl] at em
    have em := Option.some.inj em
    walk_at "go"
    exact q p3 H3 s3 p3n (by rw [em]; exact p33)
theorem p_bwrite {i : Int} {p : Addr} {row : List Int} (h : BtAt a H bt D d r Z ks done) (i0 : 17 ≤ i) (i1 : i < Z.length) (hp : H p = some (.lst (row.map V.int))) (g : GoodRow row)
    (q : ∀ H', Chg [D] H H' → BtAt a H' bt D d r (Z.set i.toNat row) (putKs ks i) done → (∀ x, H x ≠ none → RowFree H D r x → RowFree H' D r x) → Q .non H') : sp_Batch_write K a [.ref bt, .int i, .ref p] H Q E := by
  refine in_Batch_write ?_
  unfold t_Batch_write
  have hk := h.keys
  have hm := h.many
  have nn := h.nes
  have hbt := h
  obtain ⟨R, psl, h1, h2, rfl⟩ := h.ex
  obtain ⟨dx, e⟩ := h.ob
  have hl := h2.len
  walk_at "go"
  refine p_is_home h1 (n := "int") rfl ?_
  rw [isHome_of i0 (by omega)]
  walk_at "go"
  refine p_need_row (.good hp g) (fun row' er _ p3 H3 s3 p3n p33 => ?_) (fun z => by cases z)
  cases er
  have e3 := s3 _ _ e
  have h23 := h2.same s3
  have d3 := h23.dd
  walk_at "go"
  have hfew : (dI psl).length < 1000 := by
    have := nodup_le (lo := 17) (n := 79) hk.1 fun k hk' => by have := hk.2 k hk'; omega
    simp only [List.length_map, dI] at this ⊢
    omega
  refine go_DPutI d3 hfew (putK_dI psl i (.ref p3)) fun H4 w4 => ?_
  have c4 : Chg [D] H3 H4 := .wr w4 (by simp)
  refine q H4 ((Chg.of s3).trans c4) ⟨⟨R, putI psl i (.ref p3), (h1.same s3).chg c4 (by simpa using Ne.symm nn.2.2.1) (by simpa using Ne.symm nn.2.2.2.1) (fun b hb => by rw [List.mem_singleton.mp hb]; exact .dict d3), h23.put w4 i0 (by omega) p33 g.1 g.2, putI_keys⟩, dx, c4.at (by simpa using nn.1) e3⟩ fun x hx f => ?_
  have f3 : RowFree H3 D r x := hbt.free_same f s3
  refine ⟨fun kvs ek p hp z => ?_, fun xs ex => ?_⟩
  · rw [w4.at] at ek
    cases ek
    obtain ⟨p', hp', rfl⟩ := List.mem_map.mp hp
    have z : p'.2 = .ref x := z
    rcases mem_putI hp' with rfl | ⟨hp', _⟩
    · cases z
      exact hx p3n
    · exact f3.1 _ d3 (.inl p'.1, p'.2) (List.mem_map_of_mem (f := fun p : Int × V => ((Sum.inl p.1 : Key), p.2)) hp') z
  · obtain ⟨w, e2⟩ := (hbt.same s3).some r (by simp)
    have e4 := c4.at (by simpa using Ne.symm nn.2.2.2.1) e2
    rw [e4] at ex
    exact f3.2 xs (by rw [e2, ← ex])
theorem p_bpairs (h : BtAt a H bt D d r Z ks done) (few : ks.length < 64) (q : ∀ P ts qs prs H', Same H H' → H P = none → PrsAt H' P ts qs prs → (prs.map (·.1)).Perm ks → prs.Pairwise (fun p q => p.1 < q.1) → (∀ p ∈ prs, 17 ≤ p.1 ∧ p.1 < Z.length ∧ GoodRow p.2 ∧ Z[p.1.toNat]? = some p.2) → (∀ t ∈ ts, H t = none) → (∀ t ∈ qs, H t = none) → Q (.ref P) H') : sp_Batch_pairs K a [.ref bt] H Q E := by
  refine in_Batch_pairs ?_
  unfold t_Batch_pairs
  obtain ⟨R, psl, h1, h2, rfl⟩ := h.ex
  obtain ⟨dx, e⟩ := h.ob
  walk_at "go"
  refine go_sortQ (ks := psl.map (·.1)) h2.dd (keys_dI _) few fun ys sl H1 hp hs n1 => ?_
  have ex : ∀ y ∈ ys, ∃ x : Addr × List Int, (y, V.ref x.1) ∈ psl ∧ H x.1 = some (.lst (x.2.map V.int)) ∧ GoodRow x.2 ∧ 17 ≤ y ∧ y < R.length ∧ Z[y.toNat]? = some x.2 := fun y hy => by
    obtain ⟨p, hp2, rfl⟩ := List.mem_map.mp (hp.subset hy)
    obtain ⟨q', row', e1, e2, e3, e4, e5, e6, e7⟩ := h2.hit p hp2
    refine ⟨(q', row'), ?_, e2, ⟨e3, e4⟩, e5, e6, e7⟩
    show (p.1, V.ref q') ∈ psl
    rw [← e1]; exact hp2
  obtain ⟨f, hf⟩ := skol (0, []) ex
  have up := rising hs ((hp.nodup_iff).mpr h2.nd)
  have hl : ys.length < 64 := by rw [hp.length_eq]; exact few
  have e1 := n1.old e
  have d1 := n1.old h2.dd
  walk_at "go"
  refine lc_prsN (prs := ys.map fun y => (y, (f y).2)) n1.at (by simp) (by simp; omega) (fun i x b row H' Q' hx hpr s q' => ?_) (fun P ts qs H2 hP s2 hA hts hqs => ?_)
  · rw [List.getElem?_map] at hpr hx
    cases e9 : ys[i]? with
    | none => rw [e9] at hx; cases hx
    | some y =>
      rw [e9] at hx hpr
      obtain rfl : V.int y = x := Option.some.inj hx
      obtain ⟨rfl, rfl⟩ : y = b ∧ (f y).2 = row := by simpa using hpr
      obtain ⟨g1, g2, g3, g4, g5, g6⟩ := hf y (List.mem_of_getElem? e9)
      have es := s _ _ e1
      have ds := s _ _ d1
      have gs := s _ _ (n1.old g2)
      simp only [List.set_cons_zero, List.set_cons_succ]
      walk_at "go"
      refine go_DGetI ds (valV_dI h2.nd g1) ?_
      walk_at "go"
      rename_i p3 H3 n3 p4 H4 n4
      exact q' p4 p3 H4 (n3.same.trans n4.same) (n3.same.free n4.free) n4.at n3.free (n4.old n3.at)
  · refine q P ts qs _ H2 (n1.same.trans s2) (n1.same.free hP) hA ?_ ?_ (fun p hp' => ?_) (fun t ht => n1.same.free (hts t ht)) (fun t ht => n1.same.free (hqs t ht))
    · rw [List.map_map]
      have : ys.map ((fun p => p.1) ∘ fun y => (y, (f y).2)) = ys := by
        rw [show ((fun p : Int × List Int => p.1) ∘ fun y => (y, (f y).2)) = id from rfl, List.map_id]
      rw [this]; exact hp
    · rw [List.pairwise_map]; exact up
    · obtain ⟨y, hy, rfl⟩ := List.mem_map.mp hp'
      obtain ⟨g1, g2, g3, g4, g5, g6⟩ := hf y hy
      exact ⟨g4, by rw [h2.len]; exact g5, g3, g6⟩
end

end Bk

namespace Bk
open PySem L2 PyProof.Rows
/-! our own short tactics: h: what stands at a place; ne: two places; sm: what stood stands; z: a size; s: a step; go: steps -/
local macro_rules | `(tactic| walk_at "h") => `(tactic| first
  | assumption
  | exact New.at (by assumption)
  | exact Wr.at (by assumption)
  | (refine' New.old (by assumption) ?_; walk_at "h")
  | (refine' Same.at (by assumption) ?_; walk_at "h")
  | (refine' Wr.old (by assumption) ?_ ?_; walk_at "ne"; walk_at "h")
  | (refine' Chg.at (by assumption) ?_ ?_; walk_at "ni"; walk_at "h"))
local macro_rules | `(tactic| walk_at "ni") => `(tactic| first
  | exact ni_nil
  | assumption
  | (refine' ni_cons ?_ ?_; walk_at "ne"; walk_at "ni"))
local macro_rules | `(tactic| walk_at "ne") => `(tactic| first
  | assumption
  | exact Ne.symm (by assumption)
  | exact New.ne (by assumption) (by walk_at "h")
  | exact ne_none (by assumption) (by walk_at "h")
  | exact Ne.symm (ne_none (by assumption) (by walk_at "h"))
  | exact Ne.symm (New.ne (by assumption) (by walk_at "h")))
local macro_rules | `(tactic| walk_at "sm") => `(tactic| first
  | exact Same.refl _
  | assumption
  | (refine' Same.trans ?_ (New.same (by assumption)); walk_at "sm")
  | (refine' Same.trans ?_ (by assumption : Same _ _); walk_at "sm"))
local macro_rules | `(tactic| walk_at "z") => `(tactic| first
  | assumption
  | (rw [PySem.sizeLine_eq]; omega)
  | (rw [PySem.sizeLine_eq]; simp only [List.length_cons, List.length_nil, List.length_append, List.length_map, List.length_range, List.length_replicate, len_cut]; omega)
  | (rw [PySem.sizeLine_eq]; simp only [List.length_cons, List.length_nil, List.length_append, List.length_map, List.length_range, List.length_replicate, len_cut] at *; omega))
local macro_rules | `(tactic| walk_at "s") => `(tactic| first
  | ((with_reducible refine' go_var ?h ?_); (case h => exact rfl))
  | (with_reducible refine' go_c ?_)
  | (with_reducible refine' go_op ?_)
  | (with_reducible refine' go_un ?_)
  | (with_reducible refine' go_rU ?_)
  | (with_reducible refine' go_seq ?_)
  | (with_reducible refine' go_ret ?_)
  | (with_reducible refine' go_retN ?_)
  | (with_reducible refine' go_next ?_)
  | (with_reducible refine' go_drop ?_)
  | (with_reducible refine' go_asg ?_)
  | ((with_reducible refine' go_name2 ?h ?_); (case h => (simp only [List.set_cons_zero, List.set_cons_succ]; exact rfl)))
  | ((with_reducible refine' go_name2 ?h ?_); (case h => exact rfl))
  | (with_reducible refine' go_ifS ?_)
  | (with_reducible refine' go_blk ?_)
  | (with_reducible refine' go_test ?_)
  | (with_reducible refine' go_tB ?_)
  | (with_reducible refine' go_and ?_)
  | (with_reducible refine' go_or ?_)
  | (with_reducible refine' go_not ?_)
  | (with_reducible refine' go_andV ?_)
  | (with_reducible refine' go_orV ?_)
  | (with_reducible refine' go_notV ?_)
  | (with_reducible refine' go_if ?_)
  | (with_reducible refine' go_chain ?_)
  | (with_reducible refine' iteT ?_)
  | (with_reducible refine' iteF ?_)
  | ((with_reducible refine' go_Td ?h ?_); (case h => walk_at "pr"))
  | ((with_reducible refine' go_Fd ?h ?_); (case h => walk_at "pr"))
  | ((with_reducible refine' go_Tn ?h ?_); (case h => walk_at "pr"))
  | ((with_reducible refine' go_Fn ?h ?_); (case h => walk_at "pr"))
  | ((with_reducible refine' go_T ?h ?_); (case h => (first | decide | assumption | exact rfl)))
  | ((with_reducible refine' go_F ?h ?_); (case h => (first | decide | assumption | exact rfl)))
  | (with_reducible refine' go_nil ?_)
  | (with_reducible refine' go_cons ?_)
  | (with_reducible refine' go_tLst ?_)
  | (with_reducible refine' go_tTup ?_)
  | ((with_reducible refine' go_LstK ?h ?_); (case h => walk_at "z"); intro p H1 n1)
  | ((with_reducible refine' go_TupK ?h ?_); (case h => walk_at "z"); intro p H1 n1)
  | (with_reducible refine' go_addI ?_)
  | ((with_reducible refine' go_addL ?h ?k ?z ?_); (case h => walk_at "h"); (case k => walk_at "h"); (case z => walk_at "z"); intro p H1 n1)
  | (with_reducible refine' go_sub ?_)
  | ((with_reducible refine' go_mulI ?h ?_); (case h => (unfold CMul; omega)))
  | ((with_reducible refine' go_mulL ?h ?k ?_); (case h => walk_at "h"); (case k => (refine ⟨by omega, by omega, ?_⟩; walk_at "z")); intro p H1 n1)
  | ((with_reducible refine' go_div ?h ?_); (case h => (unfold CDiv; omega)))
  | ((with_reducible refine' go_mod ?h ?_); (case h => omega))
  | (with_reducible refine' go_p109 ?_)
  | (with_reducible refine' go_p1020 ?_)
  | ((with_reducible refine' go_pow ?h ?_); (case h => (unfold CPow; omega)))
  | (with_reducible refine' go_lt ?_)
  | (with_reducible refine' go_le ?_)
  | (with_reducible refine' go_gt ?_)
  | (with_reducible refine' go_ge ?_)
  | (with_reducible refine' go_eqI ?_)
  | (with_reducible refine' go_eqB ?_)
  | (with_reducible refine' go_eqS ?_)
  | (with_reducible refine' go_neI ?_)
  | (with_reducible refine' go_neB ?_)
  | (with_reducible refine' go_neS ?_)
  | (with_reducible refine' go_isN ?_)
  | (with_reducible refine' go_isNotN ?_)
  | (with_reducible refine' go_isB ?_)
  | (with_reducible refine' go_isNotB ?_)
  | (with_reducible refine' go_sl ?_)
  | (with_reducible refine' go_noPart ?_)
  | (with_reducible refine' go_part ?_)
  | (with_reducible refine' go_intK ?_)
  | ((with_reducible refine' go_slL ?h ?_); (case h => walk_at "h"); intro p H1 n1)
  | ((with_reducible refine' go_ixL ?h ?k ?_); (case h => walk_at "h"); (case k => exact rfl))
  | ((with_reducible refine' go_ixT ?h ?k ?_); (case h => walk_at "h"); (case k => exact rfl))
  | ((with_reducible refine' go_slW ?h ?_); (case h => walk_at "h"))
  | (with_reducible refine' go_bm ?_)
  | (with_reducible refine' go_bm0 ?_)
  | ((with_reducible refine' go_bmL ?h ?_); (case h => walk_at "h"))
  | ((with_reducible refine' go_append ?h ?k ?_); (case h => walk_at "h"); (case k => walk_at "z"); intro H1 n1)
  | ((with_reducible refine' go_extend ?h ?k ?z ?_); (case h => walk_at "h"); (case k => walk_at "h"); (case z => walk_at "z"); intro H1 n1)
  | ((with_reducible refine' go_clear ?h ?_); (case h => walk_at "h"); intro H1 n1)
  | ((with_reducible refine' go_dnew ?_); intro p H1 n1)
  | (with_reducible refine' go_cb ?_)
  | (with_reducible refine' go_callS ?_)
  | (with_reducible refine' go_call0 ?_)
  | ((with_reducible refine' go_lenL ?h ?_); (case h => walk_at "h"))
  | ((with_reducible refine' go_lenT ?h ?_); (case h => walk_at "h"))
  | ((with_reducible refine' go_lenK ?h ?_); (case h => walk_at "hk"))
  | ((with_reducible refine' go_listL ?h ?_); (case h => walk_at "h"); intro p H1 n1)
  | ((with_reducible refine' go_listT ?h ?_); (case h => walk_at "h"); intro p H1 n1)
  | ((with_reducible refine' go_tupleL ?h ?_); (case h => walk_at "h"); intro p H1 n1)
  | (with_reducible refine' go_intI ?_)
  | (with_reducible refine' go_intB ?_)
  | (with_reducible refine' go_abs ?_)
  | (with_reducible refine' go_min2 ?_)
  | (with_reducible refine' go_max2 ?_)
  | ((with_reducible refine' go_isi ?h ?k ?_); (case h => walk_at "ty"); (case k => exact kit_bb (by decide) (by decide)))
  | (with_reducible refine' go_lc ?_)
  | (with_reducible refine' go_for ?_)
  | (with_reducible refine' go_seqP ?_)
  | ((with_reducible refine' go_seqL ?h ?_); (case h => walk_at "h"))
  | ((with_reducible refine' go_seqT ?h ?_); (case h => walk_at "h"))
  | (with_reducible refine' go_seqS ?_)
  | (with_reducible refine' go_rng1 ?_)
  | (with_reducible refine' go_rng2 ?_)
  | ((with_reducible refine' go_rng1K ?h ?_); (case h => omega))
  | ((with_reducible refine' go_rng2K ?h ?_); (case h => omega))
  | (with_reducible refine' go_raise ?_)
  | ((with_reducible refine' go_tupG ?h ?k ?_); (case h => walk_at "h"); (case k => exact rfl))
  | ((with_reducible refine' go_lstG ?h ?k ?_); (case h => walk_at "h"); (case k => exact rfl))
  | (with_reducible refine' go_gNil ?_)
  | (with_reducible refine' go_tryAs ?_)
  | (with_reducible refine' go_tryMany1 ?_)
  | (with_reducible refine' go_tryMany2 ?_)
  | (with_reducible refine' go_WM ?_)
  | ((with_reducible refine' go_asT ?_); intro e he)
  | (with_reducible refine' go_asF ?_)
  | ((with_reducible refine' go_manyT ?_); intro e he)
  | (with_reducible refine' go_manyF ?_)
  | (with_reducible refine' go_manyN ?_)
  | (with_reducible refine' go_fld ?_)
  | ((with_reducible refine' go_FldK ?h ?c ?n ?l ?_); (case h => walk_at "h"); (case c => infer_instance); (case n => infer_instance); (case l => exact rfl))
  | (with_reducible refine' go_sfld ?_)
  | ((with_reducible refine' go_SFldK ?h ?c ?n ?l ?e ?_); (case h => walk_at "h"); (case c => infer_instance); (case n => infer_instance); (case l => exact Nat.le_of_ble_eq_true rfl); (case e => walk_at "pf"); intro H1 n1)
  | (with_reducible refine' go_meth ?_)
  | ((with_reducible refine' go_MethK 0 ?h ?l ?e ?_); (case h => walk_at "h"); (case l => exact rfl); (case e => exact rfl))
  | ((with_reducible refine' go_MethK 1 ?h ?l ?e ?_); (case h => walk_at "h"); (case l => exact rfl); (case e => exact rfl))
  | ((with_reducible refine' go_MethK 2 ?h ?l ?e ?_); (case h => walk_at "h"); (case l => exact rfl); (case e => exact rfl))
  | (with_reducible refine' go_make ?_)
  | (with_reducible refine' go_callX ?_)
  | (with_reducible refine' go_methX ?_)
  | ((with_reducible refine' go_MethXK ?h ?l ?_); (case h => walk_at "h"); (case l => exact rfl))
  | (with_reducible refine' go_dget ?_)
  | ((with_reducible refine' go_DGetS ?h ?l ?_); (case h => walk_at "h"); (case l => exact rfl))
  | (with_reducible refine' go_dput ?_)
  | ((with_reducible refine' go_DPutS ?h ?l ?e ?_); (case h => walk_at "h"); (case l => exact Nat.le_of_ble_eq_true rfl); (case e => walk_at "pk"); intro H1 n1)
  | ((with_reducible refine' go_disp ?_); intro p H1 n1)
  | (with_reducible refine' go_pairs ?_)
  | (with_reducible refine' go_pairs0 ?_)
  | ((with_reducible refine' go_DispS ?h ?e ?l ?k ?j ?m ?_); (case h => walk_at "h"); (case e => exact rfl); (case l => exact Nat.le_of_ble_eq_true rfl); (case k => (simp only [unS]; exact rfl)); (case j => (simp only [List.map_cons, List.map_nil]; exact rfl)); (case m => decide +kernel); intro H1 n1)
  | (with_reducible refine' go_par ?_)
  | ((with_reducible refine' go_ParK ?h ?_); (case h => (simp only [List.set_cons_zero, List.set_cons_succ]; exact rfl)))
  | (with_reducible refine' go_sub_ ?_)
  | ((with_reducible refine' go_setLi ?h ?k ?_); (case h => walk_at "h"); (case k => walk_at "ix"); intro H1 n1)
  | (with_reducible refine' go_listY ?_)
  | ((with_reducible refine' go_listYL ?h ?_); (case h => walk_at "h"))
  | (with_reducible refine' go_bmS ?_)
  | (with_reducible refine' go_ckw ?_)
  | ((with_reducible refine' go_maxD ?h ?_); (case h => walk_at "h"))
  | (with_reducible refine' go_listR ?_)
  | (with_reducible refine' go_rg2 ?_)
  | (with_reducible refine' go_Rg2K ?_)
  | (with_reducible refine' go_rg1 ?_)
  | (with_reducible refine' go_Rg1K ?_)
  | ((with_reducible refine' go_ListRK ?h ?_); (case h => omega); intro p H1 n1)
  | (with_reducible refine' go_enum ?_)
  | ((with_reducible refine' go_EnumL ?h ?_); (case h => walk_at "h"))
  | (with_reducible refine' go_isX ?_)
  | (with_reducible refine' go_isXt ?_)
  | (with_reducible refine' go_din ?_)
  | (with_reducible refine' go_dnotin ?_)
  | ((with_reducible refine' go_DInI ?h ?_); (case h => walk_at "h"))
  | ((with_reducible refine' go_DNotInI ?h ?_); (case h => walk_at "h"))
  | (with_reducible refine' go_dget2 ?_)
  | ((with_reducible refine' go_DGet2K ?h ?_); (case h => walk_at "h"))
  | (with_reducible refine' go_dpop1 ?_)
  | ((with_reducible refine' go_eqDE ?h ?k ?_); (case h => walk_at "h"); (case k => walk_at "h"))
  | ((with_reducible refine' go_neDE ?h ?k ?_); (case h => walk_at "h"); (case k => walk_at "h"))
  | (with_reducible refine' go_chain3 ?_)
  | (with_reducible refine' go_LinkT ?_)
  | (with_reducible refine' go_LinkF ?_)
  | (with_reducible refine' go_Link2T ?_)
  | (with_reducible refine' go_Link2F ?_)
  | (with_reducible refine' go_gSl ?_)
  | ((with_reducible refine' go_insert ?h ?k ?l ?m ?_); (case h => walk_at "h"); (case k => walk_at "z"); (case l => omega); (case m => omega); intro H1 n1)
  | (with_reducible refine' go_gCons ?_))
local macro_rules | `(tactic| walk_at "pf") => `(tactic| first
  | exact putF_nil
  | exact putF_hit
  | (refine' putF_miss ?h ?k; (case h => decide +kernel); (case k => walk_at "pf")))
local macro_rules | `(tactic| walk_at "pk") => `(tactic| first
  | exact putK_nil
  | exact putK_hit (by (simp only [List.map_cons, List.map_nil]; decide +kernel))
  | (refine' putK_miss ?h ?k; (case h => decide +kernel); (case k => walk_at "pk")))
local macro_rules | `(tactic| walk_at "ix") => `(tactic| first
  | assumption
  | omega
  | (simp only [List.length_cons, List.length_nil, List.length_append, List.length_map, List.length_range, List.length_replicate, List.length_set] at *; omega))
local macro_rules | `(tactic| walk_at "pr") => `(tactic| first
  | assumption
  | decide
  | omega
  | exact rfl
  | (intro z; cases z; done))
local macro_rules | `(tactic| walk_at "hk") => `(tactic| first
  | assumption
  | exact seq' (by assumption) (by walk_at "sm"))
local macro_rules | `(tactic| walk_at "ty") => `(tactic| first
  | exact rfl
  | assumption
  | exact tyN_L (by walk_at "h")
  | exact tyN_T (by walk_at "h")
  | exact tyN_D (by walk_at "h"))
local macro_rules | `(tactic| walk_at "go") => `(tactic| repeat (walk_at "s"))
section
variable {K : PySem.W.Frag} {a : Ac} {H : Hp} {Q : VK} {E : XK} [F : Fc K a] {bt D d r : Addr} {Z R : List (List Int)} {ks : List Int} {done : Int}
theorem p_bfinish (h : BtAt a H bt D d r Z ks done) (few : ks.length ≤ 15) (q : ∀ D' Z' done' H', H D' = none → Chg [bt, d, r] H H' → BtAt a H' bt D' d r Z' [] done' → Z'.length = Z.length → (∀ i, 17 ≤ i ∨ i = 0 → Z'[i]? = Z[i]?) → done' = done + (if ks = [] then (0 : Int) else 2 * (ks.length : Int) + 2) → Q .non H') : sp_Batch_finish K a [.ref bt] H Q E := by
  refine in_Batch_finish ?_
  unfold t_Batch_finish
  obtain ⟨dx, e⟩ := h.ob
  have nn := h.nes
  walk_at "go"
  refine p_bpairs h (by omega) fun P ts qs prs H1 s1 Pn hA hperm up hrow hts hqs => ?_
  have hb := h
  obtain ⟨R, psl, h1, h2, hks⟩ := h.ex
  have len := h2.len
  have lp : prs.length = ks.length := by rw [← hperm.length_eq, List.length_map]
  have g : GoodPrs R.length prs := ⟨by omega, fun p hp => by have := hrow p hp; exact ⟨this.1, by omega, this.2.2.1⟩, up⟩
  walk_at "go"
  refine p_commit (h1.same s1) hA g ⟨fun _ H2 c2 hd2 => ?_, fun n e => nomatch e⟩
  have e2 := c2.at (by simp [nn.2.1, nn.2.2.2.2.2]) (s1 _ _ e)
  walk_at "go"
  rename_i D2 H3 n3 H4 w4
  have e3 := n3.old e2
  have cbt : Chg [bt] H3 H4 := .wr w4 (by simp)
  have D2bt : D2 ≠ bt := Ne.symm (ne_none n3.free e2)
  have h4 : DkEx a [] H4 d r (applyW (commitW prs) R) (done + (commitW prs).length) none := (hd2.same n3.same).chg cbt (by simpa using Ne.symm nn.2.2.2.2.2) (by simpa using Ne.symm nn.2.1) (fun b hb => by rw [List.mem_singleton.mp hb]; exact .ins e3)
  have c24 : Chg [bt, d, r] H H4 := (((Chg.of s1).trans (c2.mono (by simp))).trans (.of n3.same)).trans (cbt.mono (by simp))
  have D2n : H D2 = none := by
    cases z : H D2 with
    | none => rfl
    | some u =>
      have n2 := n3.free
      by_cases zd : D2 = d ∨ D2 = r
      · have hf := (DkEx.fresh hd2 n2)
        rcases zd with zd | zd
        · exact absurd zd hf.1
        · exact absurd zd hf.2
      · rw [c2.at (by simpa using zd) (s1 _ _ z)] at n2; cases n2
  refine q D2 (applyW (commitW prs) R) _ H4 D2n c24 ⟨⟨_, [], h4, ⟨cbt.at (by simpa using D2bt) n3.at, by simp, rfl, by simp, fun _ _ => rfl⟩, rfl⟩, dx, w4.at⟩ (by rw [applyW_len, len]) (fun i hi => ?_) ?_
  · rw [commit_at g hi]
    by_cases c : ∃ p ∈ prs, p.1.toNat = i
    · obtain ⟨p, hp, rfl⟩ := c
      rw [homes_at (fun p hp => ⟨(g.row p hp).1, (g.row p hp).2.1⟩) g.up p hp, (hrow p hp).2.2.2]
    · rw [homes_ne fun p hp z => c ⟨p, hp, z⟩]
      refine (h2.miss i fun p hp z => c ?_).symm
      have : p.1 ∈ prs.map (·.1) := hperm.symm.subset (by rw [← hks]; exact List.mem_map_of_mem (f := (·.1)) hp)
      obtain ⟨p', hp', e'⟩ := List.mem_map.mp this
      exact ⟨p', hp', by rw [e', z]; simp⟩
  · rw [commitW_len]
    have : prs = [] ↔ ks = [] := by rw [← List.length_eq_zero_iff, ← List.length_eq_zero_iff, lp]
    by_cases c : ks = []
    · rw [if_pos c, if_pos (this.mpr c)]
    · rw [if_neg c, if_neg (fun z => c (this.mp z)), lp]
end
section
variable {K : PySem.W.Frag} {a : Ac} {H : Hp} {Q : VK} {E : XK} [F : Fc K a] {l bt D d r : Addr} {m done : Int} {t na : Nat} {Z KK : List (List Int)} {ks : List Int}
omit F in
theorem go_methB {m' : Str} {sp : Sp} {E : Bk.St → XK} {ta : TA} {σ : Bk.St} (h : BtAt a H bt D d r Z ks done) (hm : ∀ x1 x2, ([("disk", x1), ("rows", x2)] : List (Str × V)).lookup m' = none) (q : ta σ H fun vs H2 => sp (.ref bt :: vs) H2 Q (E σ)) : MethK m' [(a.Batch, sp)] E ta σ Q (.ref bt) H := by
  obtain ⟨dx, e⟩ := h.ob
  exact go_MethK 0 e (hm ..) rfl q
end

/-! ### a layout -/
/-- a layout of m blocks, t of which have nodes -/
def LayAt (a : Ac) (H : Hp) (l : Addr) (m t : Int) : Prop := ∃ dx, H l = some (.ins a.Layout dx [("many", .int m), ("tables", .int t), ("maps_at", .int 17), ("nodes_at", .int (17 + (m + 16 - 1) / 16)), ("data_at", .int (17 + (m + 16 - 1) / 16 + t))])
def isTables : V → Bool
  | .int i => decide (1 ≤ i) && decide (i ≤ 8)
  | _ => false
section
variable {K : PySem.W.Frag} {a : Ac} {H : Hp} {Q : VK} {E : XK} [F : Fc K a] {l : Addr} {m t : Int}
omit F
theorem LayAt.same {H' : Hp} (h : LayAt a H l m t) (s : Same H H') : LayAt a H' l m t := let ⟨dx, e⟩ := h; ⟨dx, s _ _ e⟩
theorem LayAt.chg {H' : Hp} {S : List Addr} (h : LayAt a H l m t) (c : Chg S H H') (n : l ∉ S) : LayAt a H' l m t := let ⟨dx, e⟩ := h; ⟨dx, c.at n e⟩
include F
omit F in
theorem go_methL {m' : Str} {sp : Sp} {E : Bk.St → XK} {ta : TA} {σ : Bk.St} (h : LayAt a H l m t) (hm : ∀ x1 x2 x3 x4 x5, ([("many", x1), ("tables", x2), ("maps_at", x3), ("nodes_at", x4), ("data_at", x5)] : List (Str × V)).lookup m' = none) (q : ta σ H fun vs H2 => sp (.ref l :: vs) H2 Q (E σ)) : MethK m' [(a.Layout, sp)] E ta σ Q (.ref l) H := by
  obtain ⟨dx, e⟩ := h
  exact go_MethK 0 e (hm ..) rfl q
end

section
variable {K : PySem.W.Frag} {a : Ac} {H : Hp} {Q : VK} {E : XK} [F : Fc K a] {l : Addr} {m t : Int}
end

/-! ### the law's own defs -/
def spLaw (K : PySem.W.Frag) : Sp := fun vs H Q _ => ∃ (a : Addr) (ns : List Int), vs = [.ref a] ∧ SqL K H a (ns.map V.int) ∧ ns.length ≤ 63 ∧ ∀ H', Q (.bl true) H'
section
variable {K : PySem.W.Frag} {a : Ac} {H : Hp} {Q : VK} {E : XK}
theorem p_cell_at {p : Addr} {ns : List Int} {k : Int} (h : SqL K H p (ns.map V.int)) (hk : 0 ≤ k) (q : Q (.int (cellI ns k)) H) : sp_L_cell_at K a [.ref p, .int k] H Q E := by
  refine in_L_cell_at ?_
  unfold t_L_cell_at
  walk_at "go"
  rw [List.length_map]
  refine go_dec (fun c => ?_) (fun c => ?_)
  all_goals walk_at "go"
  · exact go_ixK h (cell_in hk c) q
  · rwa [cell_out c] at q
end

/-! ### more steps: ranges with a test, ranges by sixteen, index and in of whole numbers, more kinds at once -/
section
variable {K : PySem.W.Frag} {σ : Bk.St} {H H1 : Hp} {Q : VK} {E : XK} {a b : Addr} {ns : List Int} {k : Int} {ta : TA} {R : It → Hp → Prop} {nx bk ct : Bk.St → Hp → Prop} {rt : VK} {tb : TS}
theorem lc_fR {m n : Nat} {lo : Int} {f : Nat → V} {p : Nat → Bool} {tt : TT} {te : TE} (hz : n ≤ sizeLine)
    (test : ∀ i H' QB, i < n → Same H1 H' → (∀ H'', Same H' H'' → QB (p i) H'') → tt ((σ.set m none).set m (some (.int (lo + i)))) H' QB)
    (step : ∀ i H' Q', i < n → p i = true → Same H1 H' → (∀ H'', Same H' H'' → Q' (f i) H'') → te ((σ.set m none).set m (some (.int (lo + i)))) H' Q')
    (q : ∀ D H2, H1 D = none → Same H1 H2 → H2 D = some (.lst (((List.range n).filter p).map f)) → Q (.ref D) H2) : LcK (gName m) tt te [m] σ Q (Itr lo n) H1 := by
  intro D hD
  refine lc_range (fun i H => H D = some (.lst (((List.range i).filter p).map f)) ∧ Same H1 H) ⟨upd_same, fun b o e => by rw [upd_ne (ne_of_none e hD)]; exact e⟩ ?_ ?_
  · rintro i H' hi ⟨hd, s⟩
    refine ⟨?_, test i H' _ hi s ?_⟩
    · show ((σ.set m none).set m (some (.int (lo + i)))).set m none = σ.set m none
      rw [List.set_set, List.set_set]
    · rintro H'' s2
      have hd2 := s2 _ _ hd
      cases hb : p i with
      | false =>
        rw [if_neg Bool.false_ne_true]
        refine ⟨?_, s.trans s2⟩
        rw [List.range_succ, List.filter_append, List.filter_cons_of_neg (by rw [hb]; decide), List.filter_nil, List.append_nil]
        exact hd2
      | true =>
        rw [if_pos rfl]
        refine step i H'' _ hi hb (s.trans s2) fun H3 s3 => ?_
        refine ⟨_, s3 _ _ hd2, ?_, ?_, fun b o e => ?_⟩
        · rw [List.length_map]
          have h1 := List.length_filter_le p (List.range i)
          rw [List.length_range] at h1
          omega
        · rw [upd_same, List.range_succ, List.filter_append, List.filter_cons_of_pos hb, List.filter_nil, List.map_append]
          rfl
        · rw [upd_ne (ne_of_none e hD)]
          exact s3 _ _ (s2 _ _ (s _ _ e))
  · rintro H2 ⟨hd, s⟩
    exact q D H2 hD s hd
theorem inV_ints : inV (.int k) (ns.map V.int) = decide (k ∈ ns) := by
  unfold inV
  induction ns with
  | nil => rfl
  | cons n ns ih =>
    rw [List.map_cons, List.any_cons, ih]
    show ((n == k) || _) = _
    by_cases c : n = k
    · subst c; simp
    · have : ¬ k = n := fun z => c z.symm
      simp [c, this]
theorem flat_ints : (ns.map V.int).all flatV = true := List.all_eq_true.mpr fun y hy => by
  obtain ⟨b, _, rfl⟩ := List.mem_map.mp hy
  rfl
theorem go_inI (h : H b = some (.lst (ns.map V.int))) (q : Q (.bl (decide (k ∈ ns))) H) : rInP K (.int k) (.ref b) H Q :=
  .inl ⟨b, _, rfl, .inl (SqL.of h), rfl, flat_ints, by rw [inV_ints]; exact q⟩
theorem go_indexI {j : Nat} (h : H a = some (.lst (ns.map V.int))) (hj : ns[j]? = some k) (hl : ∀ m, m < j → ns[m]? ≠ some k) (q : Q (.int j) H) : rIndex K (.ref a) [.int k] H Q := by
  refine ⟨a, ns.map V.int, .int k, j, .int k, rfl, rfl, SqL.of h, rfl, flat_ints, by rw [List.getElem?_map, hj]; rfl, by show (k == k) = true; simp, fun m z' hm e => ?_, q⟩
  rw [List.getElem?_map] at e
  cases hn : ns[m]? with
  | none => rw [hn] at e; cases e
  | some n =>
    rw [hn] at e; cases e
    show (n == k) = false
    have : n ≠ k := fun z => hl m hm (z ▸ hn)
    simp [this]
theorem go_minI (h : H a = some (.lst (ns.map V.int))) (hn : 0 < ns.length) (q : ∀ m, m ∈ ns → (∀ y ∈ ns, m ≤ y) → Q (.int m) H) : rMin K [.ref a] H Q := ⟨a, ns, rfl, SqL.of h, hn, q⟩
theorem go_sortI (h : H a = some (.lst (ns.map V.int))) (q : ∀ (ys : List Int) (p : Addr) (H1 : Hp), ys.Perm ns → ys.Pairwise (· ≤ ·) → New H p (.lst (ys.map V.int)) H1 → Q (.ref p) H1) : rSortedQ K [.ref a] H Q :=
  .inr ⟨a, ns, rfl, SqL.of h, fun ys p h1 h2 h3 => q ys p _ h1 h2 ⟨h3, rfl⟩⟩
theorem go_listD {ps : List (Int × V)} (h : H a = some (.dK (dI ps))) (q : ∀ p H1, New H p (.lst ((ps.map (·.1)).map V.int)) H1 → Q (.ref p) H1) : rListD [.ref a] H Q := by
  refine ⟨a, _, rfl, h, fun p hp => q p _ ⟨hp, ?_⟩⟩
  unfold dI
  rw [List.map_map, List.map_map]
  rfl
theorem go_isXT2 {D e t C1 C2 : Addr} {b1 b2 : Bool} [k1 : KitF K (.ref D) (.ref C1) b1] [k2 : KitF K (.ref D) (.ref C2) b2] (h : H t = some (.tup [.ref C1, .ref C2])) (q : Q (.bl (b1 || b2)) H) : rIsiH K D e [.ref e, .ref t] H Q := by
  refine .inr ⟨t, _, [.ref C1, .ref C2], b1 || b2, rfl, h, ?_, ?_, q⟩
  · exact .cons (ClsV.own _) (.cons (ClsV.own _) .nil)
  · show (match PySem.W.kitOne K (.ref D) (.ref C1) with | some true => _ | some false => _ | none => _) = _
    rw [k1.h]
    cases b1 with
    | true => rfl
    | false =>
      show (match PySem.W.kitOne K (.ref D) (.ref C2) with | some true => _ | some false => _ | none => _) = _
      rw [k2.h]
      cases b2 <;> rfl
def Rng3K (R : It → Hp → Prop) : List V → Hp → Prop := fun vs H1 => ∃ (i j c : Int) (n : Nat), vs = [.int i, .int j, .int c] ∧ RgC i j c n ∧ R (Itc i c n) H1
theorem go_rng3 (q : ta σ H (Rng3K R)) : iRng3 ta σ H R := q
theorem go_rng3K {m : Int} (h : 0 ≤ m ∧ m ≤ 1000) (q : R (Itc 0 16 ((m + 15) / 16).toNat) H) : Rng3K R [.int 0, .int m, .int 16] H := by
  have e : PySem.Builtin.Range.rangeSize 0 m 16 = (((m + 15) / 16).toNat : Nat) := by
    unfold PySem.Builtin.Range.rangeSize
    simp only [show (16 : Int) > 0 by decide, if_true]
    split <;> omega
  refine ⟨0, m, 16, _, rfl, ⟨by decide, by decide, ?_, e⟩, q⟩
  unfold PySem.Builtin.Range.small
  rw [e]
  simp only [PySem.Builtin.Range.rangeFitsLong, Bool.and_eq_true, Bool.or_eq_true, decide_eq_true_eq, beq_iff_eq, show (16 : Int) > 0 by decide, if_true]
  omega
theorem for_C {m n : Nat} {lo c : Int} (INV : Nat → Bk.St → Hp → Prop) (h0 : INV 0 σ H1)
    (hs : ∀ i σ H, i < n → INV i σ H → tb ⟨INV (i + 1), rt, nx, INV (i + 1)⟩ (σ.set m (some (.int (lo + i * c)))) H) (hd : ∀ σ H, INV n σ H → nx σ H) : ForK (gName m) tb ⟨nx, rt, bk, ct⟩ σ (Itc lo c n) H1 :=
  for_rangeC INV h0 hs hd
end

end Bk

namespace Bk
open PySem L2 PyProof.Rows
/-! our own short tactics: h: what stands at a place; ne: two places; sm: what stood stands; z: a size; s: a step; go: steps -/
local macro_rules | `(tactic| walk_at "h") => `(tactic| first
  | assumption
  | exact New.at (by assumption)
  | exact Wr.at (by assumption)
  | (refine' New.old (by assumption) ?_; walk_at "h")
  | (refine' Same.at (by assumption) ?_; walk_at "h")
  | (refine' Wr.old (by assumption) ?_ ?_; walk_at "ne"; walk_at "h")
  | (refine' Chg.at (by assumption) ?_ ?_; walk_at "ni"; walk_at "h"))
local macro_rules | `(tactic| walk_at "ni") => `(tactic| first
  | exact ni_nil
  | assumption
  | (refine' ni_cons ?_ ?_; walk_at "ne"; walk_at "ni"))
local macro_rules | `(tactic| walk_at "ne") => `(tactic| first
  | assumption
  | exact Ne.symm (by assumption)
  | exact New.ne (by assumption) (by walk_at "h")
  | exact ne_none (by assumption) (by walk_at "h")
  | exact Ne.symm (ne_none (by assumption) (by walk_at "h"))
  | exact Ne.symm (New.ne (by assumption) (by walk_at "h")))
local macro_rules | `(tactic| walk_at "sm") => `(tactic| first
  | exact Same.refl _
  | assumption
  | (refine' Same.trans ?_ (New.same (by assumption)); walk_at "sm")
  | (refine' Same.trans ?_ (by assumption : Same _ _); walk_at "sm"))
local macro_rules | `(tactic| walk_at "z") => `(tactic| first
  | assumption
  | (rw [PySem.sizeLine_eq]; omega)
  | (rw [PySem.sizeLine_eq]; simp only [List.length_cons, List.length_nil, List.length_append, List.length_map, List.length_range, List.length_replicate, len_cut]; omega)
  | (rw [PySem.sizeLine_eq]; simp only [List.length_cons, List.length_nil, List.length_append, List.length_map, List.length_range, List.length_replicate, len_cut] at *; omega))
local macro_rules | `(tactic| walk_at "s") => `(tactic| first
  | ((with_reducible refine' go_var ?h ?_); (case h => exact rfl))
  | (with_reducible refine' go_c ?_)
  | (with_reducible refine' go_op ?_)
  | (with_reducible refine' go_un ?_)
  | (with_reducible refine' go_rU ?_)
  | (with_reducible refine' go_seq ?_)
  | (with_reducible refine' go_ret ?_)
  | (with_reducible refine' go_retN ?_)
  | (with_reducible refine' go_next ?_)
  | (with_reducible refine' go_drop ?_)
  | (with_reducible refine' go_asg ?_)
  | ((with_reducible refine' go_name2 ?h ?_); (case h => (simp only [List.set_cons_zero, List.set_cons_succ]; exact rfl)))
  | ((with_reducible refine' go_name2 ?h ?_); (case h => exact rfl))
  | (with_reducible refine' go_ifS ?_)
  | (with_reducible refine' go_blk ?_)
  | (with_reducible refine' go_test ?_)
  | (with_reducible refine' go_tB ?_)
  | (with_reducible refine' go_and ?_)
  | (with_reducible refine' go_or ?_)
  | (with_reducible refine' go_not ?_)
  | (with_reducible refine' go_andV ?_)
  | (with_reducible refine' go_orV ?_)
  | (with_reducible refine' go_notV ?_)
  | (with_reducible refine' go_if ?_)
  | (with_reducible refine' go_chain ?_)
  | (with_reducible refine' iteT ?_)
  | (with_reducible refine' iteF ?_)
  | ((with_reducible refine' go_Td ?h ?_); (case h => walk_at "pr"))
  | ((with_reducible refine' go_Fd ?h ?_); (case h => walk_at "pr"))
  | ((with_reducible refine' go_Tn ?h ?_); (case h => walk_at "pr"))
  | ((with_reducible refine' go_Fn ?h ?_); (case h => walk_at "pr"))
  | ((with_reducible refine' go_T ?h ?_); (case h => (first | decide | assumption | exact rfl)))
  | ((with_reducible refine' go_F ?h ?_); (case h => (first | decide | assumption | exact rfl)))
  | (with_reducible refine' go_nil ?_)
  | (with_reducible refine' go_cons ?_)
  | (with_reducible refine' go_tLst ?_)
  | (with_reducible refine' go_tTup ?_)
  | ((with_reducible refine' go_LstK ?h ?_); (case h => walk_at "z"); intro p H1 n1)
  | ((with_reducible refine' go_TupK ?h ?_); (case h => walk_at "z"); intro p H1 n1)
  | (with_reducible refine' go_addI ?_)
  | ((with_reducible refine' go_addL ?h ?k ?z ?_); (case h => walk_at "h"); (case k => walk_at "h"); (case z => walk_at "z"); intro p H1 n1)
  | (with_reducible refine' go_sub ?_)
  | ((with_reducible refine' go_mulI ?h ?_); (case h => (unfold CMul; omega)))
  | ((with_reducible refine' go_mulL ?h ?k ?_); (case h => walk_at "h"); (case k => (refine ⟨by omega, by omega, ?_⟩; walk_at "z")); intro p H1 n1)
  | ((with_reducible refine' go_div ?h ?_); (case h => (unfold CDiv; omega)))
  | ((with_reducible refine' go_mod ?h ?_); (case h => omega))
  | (with_reducible refine' go_p109 ?_)
  | (with_reducible refine' go_p1020 ?_)
  | ((with_reducible refine' go_pow ?h ?_); (case h => (unfold CPow; omega)))
  | (with_reducible refine' go_lt ?_)
  | (with_reducible refine' go_le ?_)
  | (with_reducible refine' go_gt ?_)
  | (with_reducible refine' go_ge ?_)
  | (with_reducible refine' go_eqI ?_)
  | (with_reducible refine' go_eqB ?_)
  | (with_reducible refine' go_eqS ?_)
  | (with_reducible refine' go_neI ?_)
  | (with_reducible refine' go_neB ?_)
  | (with_reducible refine' go_neS ?_)
  | (with_reducible refine' go_isN ?_)
  | (with_reducible refine' go_isNotN ?_)
  | (with_reducible refine' go_isB ?_)
  | (with_reducible refine' go_isNotB ?_)
  | (with_reducible refine' go_sl ?_)
  | (with_reducible refine' go_noPart ?_)
  | (with_reducible refine' go_part ?_)
  | (with_reducible refine' go_intK ?_)
  | ((with_reducible refine' go_slL ?h ?_); (case h => walk_at "h"); intro p H1 n1)
  | ((with_reducible refine' go_ixL ?h ?k ?_); (case h => walk_at "h"); (case k => exact rfl))
  | ((with_reducible refine' go_ixT ?h ?k ?_); (case h => walk_at "h"); (case k => exact rfl))
  | ((with_reducible refine' go_slW ?h ?_); (case h => walk_at "h"))
  | (with_reducible refine' go_bm ?_)
  | (with_reducible refine' go_bm0 ?_)
  | ((with_reducible refine' go_bmL ?h ?_); (case h => walk_at "h"))
  | ((with_reducible refine' go_append ?h ?k ?_); (case h => walk_at "h"); (case k => walk_at "z"); intro H1 n1)
  | ((with_reducible refine' go_extend ?h ?k ?z ?_); (case h => walk_at "h"); (case k => walk_at "h"); (case z => walk_at "z"); intro H1 n1)
  | ((with_reducible refine' go_clear ?h ?_); (case h => walk_at "h"); intro H1 n1)
  | ((with_reducible refine' go_dnew ?_); intro p H1 n1)
  | (with_reducible refine' go_cb ?_)
  | (with_reducible refine' go_callS ?_)
  | (with_reducible refine' go_call0 ?_)
  | ((with_reducible refine' go_lenL ?h ?_); (case h => walk_at "h"))
  | ((with_reducible refine' go_lenT ?h ?_); (case h => walk_at "h"))
  | ((with_reducible refine' go_lenK ?h ?_); (case h => walk_at "hk"))
  | ((with_reducible refine' go_listL ?h ?_); (case h => walk_at "h"); intro p H1 n1)
  | ((with_reducible refine' go_listT ?h ?_); (case h => walk_at "h"); intro p H1 n1)
  | ((with_reducible refine' go_tupleL ?h ?_); (case h => walk_at "h"); intro p H1 n1)
  | (with_reducible refine' go_intI ?_)
  | (with_reducible refine' go_intB ?_)
  | (with_reducible refine' go_abs ?_)
  | (with_reducible refine' go_min2 ?_)
  | (with_reducible refine' go_max2 ?_)
  | ((with_reducible refine' go_isi ?h ?k ?_); (case h => walk_at "ty"); (case k => exact kit_bb (by decide) (by decide)))
  | (with_reducible refine' go_lc ?_)
  | (with_reducible refine' go_for ?_)
  | (with_reducible refine' go_seqP ?_)
  | ((with_reducible refine' go_seqL ?h ?_); (case h => walk_at "h"))
  | ((with_reducible refine' go_seqT ?h ?_); (case h => walk_at "h"))
  | (with_reducible refine' go_seqS ?_)
  | (with_reducible refine' go_rng1 ?_)
  | (with_reducible refine' go_rng2 ?_)
  | ((with_reducible refine' go_rng1K ?h ?_); (case h => omega))
  | ((with_reducible refine' go_rng2K ?h ?_); (case h => omega))
  | (with_reducible refine' go_raise ?_)
  | ((with_reducible refine' go_tupG ?h ?k ?_); (case h => walk_at "h"); (case k => exact rfl))
  | ((with_reducible refine' go_lstG ?h ?k ?_); (case h => walk_at "h"); (case k => exact rfl))
  | (with_reducible refine' go_gNil ?_)
  | (with_reducible refine' go_tryAs ?_)
  | (with_reducible refine' go_tryMany1 ?_)
  | (with_reducible refine' go_tryMany2 ?_)
  | (with_reducible refine' go_WM ?_)
  | ((with_reducible refine' go_asT ?_); intro e he)
  | (with_reducible refine' go_asF ?_)
  | ((with_reducible refine' go_manyT ?_); intro e he)
  | (with_reducible refine' go_manyF ?_)
  | (with_reducible refine' go_manyN ?_)
  | (with_reducible refine' go_fld ?_)
  | ((with_reducible refine' go_FldK ?h ?c ?n ?l ?_); (case h => walk_at "h"); (case c => infer_instance); (case n => infer_instance); (case l => exact rfl))
  | (with_reducible refine' go_sfld ?_)
  | ((with_reducible refine' go_SFldK ?h ?c ?n ?l ?e ?_); (case h => walk_at "h"); (case c => infer_instance); (case n => infer_instance); (case l => exact Nat.le_of_ble_eq_true rfl); (case e => walk_at "pf"); intro H1 n1)
  | (with_reducible refine' go_meth ?_)
  | ((with_reducible refine' go_MethK 0 ?h ?l ?e ?_); (case h => walk_at "h"); (case l => exact rfl); (case e => exact rfl))
  | ((with_reducible refine' go_MethK 1 ?h ?l ?e ?_); (case h => walk_at "h"); (case l => exact rfl); (case e => exact rfl))
  | ((with_reducible refine' go_MethK 2 ?h ?l ?e ?_); (case h => walk_at "h"); (case l => exact rfl); (case e => exact rfl))
  | (with_reducible refine' go_make ?_)
  | (with_reducible refine' go_callX ?_)
  | (with_reducible refine' go_methX ?_)
  | ((with_reducible refine' go_MethXK ?h ?l ?_); (case h => walk_at "h"); (case l => exact rfl))
  | (with_reducible refine' go_dget ?_)
  | ((with_reducible refine' go_DGetS ?h ?l ?_); (case h => walk_at "h"); (case l => exact rfl))
  | (with_reducible refine' go_dput ?_)
  | ((with_reducible refine' go_DPutS ?h ?l ?e ?_); (case h => walk_at "h"); (case l => exact Nat.le_of_ble_eq_true rfl); (case e => walk_at "pk"); intro H1 n1)
  | ((with_reducible refine' go_disp ?_); intro p H1 n1)
  | (with_reducible refine' go_pairs ?_)
  | (with_reducible refine' go_pairs0 ?_)
  | ((with_reducible refine' go_DispS ?h ?e ?l ?k ?j ?m ?_); (case h => walk_at "h"); (case e => exact rfl); (case l => exact Nat.le_of_ble_eq_true rfl); (case k => (simp only [unS]; exact rfl)); (case j => (simp only [List.map_cons, List.map_nil]; exact rfl)); (case m => decide +kernel); intro H1 n1)
  | (with_reducible refine' go_par ?_)
  | ((with_reducible refine' go_ParK ?h ?_); (case h => (simp only [List.set_cons_zero, List.set_cons_succ]; exact rfl)))
  | (with_reducible refine' go_sub_ ?_)
  | ((with_reducible refine' go_setLi ?h ?k ?_); (case h => walk_at "h"); (case k => walk_at "ix"); intro H1 n1)
  | (with_reducible refine' go_listY ?_)
  | ((with_reducible refine' go_listYL ?h ?_); (case h => walk_at "h"))
  | (with_reducible refine' go_bmS ?_)
  | (with_reducible refine' go_ckw ?_)
  | ((with_reducible refine' go_maxD ?h ?_); (case h => walk_at "h"))
  | (with_reducible refine' go_listR ?_)
  | (with_reducible refine' go_rg2 ?_)
  | (with_reducible refine' go_Rg2K ?_)
  | (with_reducible refine' go_rg1 ?_)
  | (with_reducible refine' go_Rg1K ?_)
  | ((with_reducible refine' go_ListRK ?h ?_); (case h => omega); intro p H1 n1)
  | (with_reducible refine' go_enum ?_)
  | ((with_reducible refine' go_EnumL ?h ?_); (case h => walk_at "h"))
  | (with_reducible refine' go_isX ?_)
  | (with_reducible refine' go_isXt ?_)
  | (with_reducible refine' go_din ?_)
  | (with_reducible refine' go_dnotin ?_)
  | ((with_reducible refine' go_DInI ?h ?_); (case h => walk_at "h"))
  | ((with_reducible refine' go_DNotInI ?h ?_); (case h => walk_at "h"))
  | (with_reducible refine' go_dget2 ?_)
  | ((with_reducible refine' go_DGet2K ?h ?_); (case h => walk_at "h"))
  | (with_reducible refine' go_dpop1 ?_)
  | ((with_reducible refine' go_eqDE ?h ?k ?_); (case h => walk_at "h"); (case k => walk_at "h"))
  | ((with_reducible refine' go_neDE ?h ?k ?_); (case h => walk_at "h"); (case k => walk_at "h"))
  | (with_reducible refine' go_chain3 ?_)
  | (with_reducible refine' go_LinkT ?_)
  | (with_reducible refine' go_LinkF ?_)
  | (with_reducible refine' go_Link2T ?_)
  | (with_reducible refine' go_Link2F ?_)
  | (with_reducible refine' go_gSl ?_)
  | ((with_reducible refine' go_insert ?h ?k ?l ?m ?_); (case h => walk_at "h"); (case k => walk_at "z"); (case l => omega); (case m => omega); intro H1 n1)
  | (with_reducible refine' go_gCons ?_))
local macro_rules | `(tactic| walk_at "pf") => `(tactic| first
  | exact putF_nil
  | exact putF_hit
  | (refine' putF_miss ?h ?k; (case h => decide +kernel); (case k => walk_at "pf")))
local macro_rules | `(tactic| walk_at "pk") => `(tactic| first
  | exact putK_nil
  | exact putK_hit (by (simp only [List.map_cons, List.map_nil]; decide +kernel))
  | (refine' putK_miss ?h ?k; (case h => decide +kernel); (case k => walk_at "pk")))
local macro_rules | `(tactic| walk_at "ix") => `(tactic| first
  | assumption
  | omega
  | (simp only [List.length_cons, List.length_nil, List.length_append, List.length_map, List.length_range, List.length_replicate, List.length_set] at *; omega))
local macro_rules | `(tactic| walk_at "pr") => `(tactic| first
  | assumption
  | decide
  | omega
  | exact rfl
  | (intro z; cases z; done))
local macro_rules | `(tactic| walk_at "hk") => `(tactic| first
  | assumption
  | exact seq' (by assumption) (by walk_at "sm"))
local macro_rules | `(tactic| walk_at "ty") => `(tactic| first
  | exact rfl
  | assumption
  | exact tyN_L (by walk_at "h")
  | exact tyN_T (by walk_at "h")
  | exact tyN_D (by walk_at "h"))
local macro_rules | `(tactic| walk_at "go") => `(tactic| repeat (walk_at "s"))
/-! ### nodes -/
def isNode (t : Nat) : V → Bool
  | .int i => decide (1 ≤ i) && decide (i ≤ 2 * (t : Int) - 1)
  | _ => false
theorem isNode_int {t : Nat} {x : V} (h : isNode t x = true) : ∃ i : Nat, x = .int i ∧ 1 ≤ i ∧ i < 2 * t := by
  cases x with
  | int i => simp [isNode] at h; exact ⟨i.toNat, by congr 1; omega, by omega, by omega⟩
  | _ => cases h
structure Nodes (Z : List (List Int)) (na t : Nat) (KK : List (List Int)) : Prop where
  len : KK.length = 2 * t
  each : ∀ w ∈ KK, w.length = 8
  top : na + t ≤ Z.length
  at_ : ∀ j, j < t → Z[na + j]? = some (KK.getD (2 * j) [] ++ KK.getD (2 * j + 1) [])
theorem Nodes.eight {Z : List (List Int)} {na t : Nat} {KK : List (List Int)} (N : Nodes Z na t KK) {i : Nat} (hi : i < 2 * t) : (KK.getD i []).length = 8 := by
  have := N.len
  rw [List.getD_eq_getElem?_getD, List.getElem?_eq_getElem (by omega)]
  exact N.each _ (List.getElem_mem _)
theorem Nodes.read {Z : List (List Int)} {na t : Nat} {KK : List (List Int)} (N : Nodes Z na t KK) {i : Nat} (hi : i < 2 * t) : ∃ row, Z[na + i / 2]? = some row ∧ (row.drop (8 * (i % 2))).take 8 = KK.getD i [] := by
  refine ⟨_, N.at_ (i / 2) (by omega), ?_⟩
  have h1 := N.eight (i := 2 * (i / 2)) (by omega)
  have h2 := N.eight (i := 2 * (i / 2) + 1) (by omega)
  rcases Nat.mod_two_eq_zero_or_one i with c | c
  · rw [c, Nat.mul_zero, List.drop_zero, List.take_append_of_le_length (by omega), List.take_of_length_le (by omega)]
    congr 1; omega
  · rw [c, Nat.mul_one, List.drop_append_of_le_length (by omega), List.drop_of_length_le (by omega), List.nil_append, List.take_of_length_le (by omega)]
    congr 1; omega
theorem getD_set_self {KK : List (List Int)} {i : Nat} {w : List Int} (h : i < KK.length) : (KK.set i w).getD i [] = w := by
  rw [List.getD_eq_getElem?_getD, List.getElem?_set_self h]; rfl
theorem getD_set_ne {KK : List (List Int)} {i j : Nat} {w : List Int} (h : i ≠ j) : (KK.set i w).getD j [] = KK.getD j [] := by
  rw [List.getD_eq_getElem?_getD, List.getElem?_set_ne h, List.getD_eq_getElem?_getD]
theorem Nodes.put {Z : List (List Int)} {na t : Nat} {KK : List (List Int)} (N : Nodes Z na t KK) {i : Nat} {w row : List Int} (hi : i < 2 * t) (hw : w.length = 8) (hr : Z[na + i / 2]? = some row) :
    Nodes (Z.set (na + i / 2) (row.take (8 * (i % 2)) ++ w ++ row.drop (8 * (i % 2) + 8))) na t (KK.set i w) := by
  have hl := N.len
  refine ⟨by simp [N.len], fun v hv => ?_, by simp [N.top], fun j hj => ?_⟩
  · rcases List.mem_or_eq_of_mem_set hv with h | h
    · exact N.each v h
    · rw [h]; exact hw
  · have top := N.top
    by_cases c : i / 2 = j
    · subst c
      rw [List.getElem?_set_self (by omega)]
      have e := N.at_ (i / 2) hj
      rw [hr] at e
      have e := Option.some.inj e
      have h1 := N.eight (i := 2 * (i / 2)) (by omega)
      have h2 := N.eight (i := 2 * (i / 2) + 1) (by omega)
      congr 1
      rcases Nat.mod_two_eq_zero_or_one i with c | c
      · have e1 : 2 * (i / 2) = i := by omega
        rw [c, e, e1, getD_set_self (by omega), getD_set_ne (by omega)]
        rw [e1] at h1
        rw [Nat.mul_zero, List.take_zero, List.nil_append, Nat.zero_add, List.drop_left' h1]
      · have e1 : 2 * (i / 2) + 1 = i := by omega
        have e2 : 2 * (i / 2) ≠ i := by omega
        rw [c, e, e1, getD_set_self (by omega), getD_set_ne (Ne.symm e2)]
        rw [e1] at h2
        rw [Nat.mul_one, List.take_left' h1, List.drop_of_length_le (by rw [List.length_append]; omega), List.append_nil]
    · rw [List.getElem?_set_ne (by omega), N.at_ j hj, getD_set_ne (by omega), getD_set_ne (by omega)]
/-- eight words, or what is none -/
def NwBad (H : Hp) (y : V) : Prop := (∃ p xs, y = .ref p ∧ H p = some (.lst xs) ∧ (∀ z ∈ xs, ∃ n, tyN H z = some n) ∧ xs.length ≤ 1000 ∧ (decide ((xs.length : Int) = 8) && xs.all isW) = false) ∨ ∃ n, tyN H y = some n ∧ n ≠ "list"
theorem NwBad.same {H H' : Hp} {y : V} (h : NwBad H y) (s : Same H H') : NwBad H' y := by
  rcases h with ⟨p, xs, rfl, h, k, z, e⟩ | ⟨n, h, k⟩
  · exact .inl ⟨p, xs, rfl, s _ _ h, fun y hy => let ⟨n, e⟩ := k y hy; ⟨n, tyN_same s e⟩, z, e⟩
  · exact .inr ⟨n, tyN_same s h, k⟩
def GoodW (w : List Int) : Prop := w.length = 8 ∧ ∀ z ∈ w, 0 ≤ z ∧ z ≤ 999999999
theorem GoodW.ok {w : List Int} (g : GoodW w) : (decide (((w.map V.int).length : Int) = 8) && (w.map V.int).all isW) = true := by
  rw [Bool.and_eq_true]
  refine ⟨decide_eq_true (by rw [List.length_map, g.1]; rfl), List.all_eq_true.mpr fun x hx => ?_⟩
  obtain ⟨z, hz, rfl⟩ := List.mem_map.mp hx
  have := g.2 z hz
  simp [isW, this.1, this.2]
section
variable {K : PySem.W.Frag} {a : Ac} {H : Hp} {Q : VK} {E : XK} [F : Fc K a] {l bt D d r : Addr} {m done : Int} {t na : Nat} {Z KK : List (List Int)} {ks : List Int}
omit F
include F
end

end Bk

namespace Bk
open PySem L2 PyProof.Rows
/-! our own short tactics: h: what stands at a place; ne: two places; sm: what stood stands; z: a size; s: a step; go: steps -/
local macro_rules | `(tactic| walk_at "h") => `(tactic| first
  | assumption
  | exact New.at (by assumption)
  | exact Wr.at (by assumption)
  | (refine' New.old (by assumption) ?_; walk_at "h")
  | (refine' Same.at (by assumption) ?_; walk_at "h")
  | (refine' Wr.old (by assumption) ?_ ?_; walk_at "ne"; walk_at "h")
  | (refine' Chg.at (by assumption) ?_ ?_; walk_at "ni"; walk_at "h"))
local macro_rules | `(tactic| walk_at "ni") => `(tactic| first
  | exact ni_nil
  | assumption
  | (refine' ni_cons ?_ ?_; walk_at "ne"; walk_at "ni"))
local macro_rules | `(tactic| walk_at "ne") => `(tactic| first
  | assumption
  | exact Ne.symm (by assumption)
  | exact New.ne (by assumption) (by walk_at "h")
  | exact ne_none (by assumption) (by walk_at "h")
  | exact Ne.symm (ne_none (by assumption) (by walk_at "h"))
  | exact Ne.symm (New.ne (by assumption) (by walk_at "h")))
local macro_rules | `(tactic| walk_at "sm") => `(tactic| first
  | exact Same.refl _
  | assumption
  | (refine' Same.trans ?_ (New.same (by assumption)); walk_at "sm")
  | (refine' Same.trans ?_ (by assumption : Same _ _); walk_at "sm"))
local macro_rules | `(tactic| walk_at "z") => `(tactic| first
  | assumption
  | (rw [PySem.sizeLine_eq]; omega)
  | (rw [PySem.sizeLine_eq]; simp only [List.length_cons, List.length_nil, List.length_append, List.length_map, List.length_range, List.length_replicate, len_cut]; omega)
  | (rw [PySem.sizeLine_eq]; simp only [List.length_cons, List.length_nil, List.length_append, List.length_map, List.length_range, List.length_replicate, len_cut] at *; omega))
local macro_rules | `(tactic| walk_at "s") => `(tactic| first
  | ((with_reducible refine' go_var ?h ?_); (case h => exact rfl))
  | (with_reducible refine' go_c ?_)
  | (with_reducible refine' go_op ?_)
  | (with_reducible refine' go_un ?_)
  | (with_reducible refine' go_rU ?_)
  | (with_reducible refine' go_seq ?_)
  | (with_reducible refine' go_ret ?_)
  | (with_reducible refine' go_retN ?_)
  | (with_reducible refine' go_next ?_)
  | (with_reducible refine' go_drop ?_)
  | (with_reducible refine' go_asg ?_)
  | ((with_reducible refine' go_name2 ?h ?_); (case h => (simp only [List.set_cons_zero, List.set_cons_succ]; exact rfl)))
  | ((with_reducible refine' go_name2 ?h ?_); (case h => exact rfl))
  | (with_reducible refine' go_ifS ?_)
  | (with_reducible refine' go_blk ?_)
  | (with_reducible refine' go_test ?_)
  | (with_reducible refine' go_tB ?_)
  | (with_reducible refine' go_and ?_)
  | (with_reducible refine' go_or ?_)
  | (with_reducible refine' go_not ?_)
  | (with_reducible refine' go_andV ?_)
  | (with_reducible refine' go_orV ?_)
  | (with_reducible refine' go_notV ?_)
  | (with_reducible refine' go_if ?_)
  | (with_reducible refine' go_chain ?_)
  | (with_reducible refine' iteT ?_)
  | (with_reducible refine' iteF ?_)
  | ((with_reducible refine' go_Td ?h ?_); (case h => walk_at "pr"))
  | ((with_reducible refine' go_Fd ?h ?_); (case h => walk_at "pr"))
  | ((with_reducible refine' go_Tn ?h ?_); (case h => walk_at "pr"))
  | ((with_reducible refine' go_Fn ?h ?_); (case h => walk_at "pr"))
  | ((with_reducible refine' go_T ?h ?_); (case h => (first | decide | assumption | exact rfl)))
  | ((with_reducible refine' go_F ?h ?_); (case h => (first | decide | assumption | exact rfl)))
  | (with_reducible refine' go_nil ?_)
  | (with_reducible refine' go_cons ?_)
  | (with_reducible refine' go_tLst ?_)
  | (with_reducible refine' go_tTup ?_)
  | ((with_reducible refine' go_LstK ?h ?_); (case h => walk_at "z"); intro p H1 n1)
  | ((with_reducible refine' go_TupK ?h ?_); (case h => walk_at "z"); intro p H1 n1)
  | (with_reducible refine' go_addI ?_)
  | ((with_reducible refine' go_addL ?h ?k ?z ?_); (case h => walk_at "h"); (case k => walk_at "h"); (case z => walk_at "z"); intro p H1 n1)
  | (with_reducible refine' go_sub ?_)
  | ((with_reducible refine' go_mulI ?h ?_); (case h => (unfold CMul; omega)))
  | ((with_reducible refine' go_mulL ?h ?k ?_); (case h => walk_at "h"); (case k => (refine ⟨by omega, by omega, ?_⟩; walk_at "z")); intro p H1 n1)
  | ((with_reducible refine' go_div ?h ?_); (case h => (unfold CDiv; omega)))
  | ((with_reducible refine' go_mod ?h ?_); (case h => omega))
  | (with_reducible refine' go_p109 ?_)
  | (with_reducible refine' go_p1020 ?_)
  | ((with_reducible refine' go_pow ?h ?_); (case h => (unfold CPow; omega)))
  | (with_reducible refine' go_lt ?_)
  | (with_reducible refine' go_le ?_)
  | (with_reducible refine' go_gt ?_)
  | (with_reducible refine' go_ge ?_)
  | (with_reducible refine' go_eqI ?_)
  | (with_reducible refine' go_eqB ?_)
  | (with_reducible refine' go_eqS ?_)
  | (with_reducible refine' go_neI ?_)
  | (with_reducible refine' go_neB ?_)
  | (with_reducible refine' go_neS ?_)
  | (with_reducible refine' go_isN ?_)
  | (with_reducible refine' go_isNotN ?_)
  | (with_reducible refine' go_isB ?_)
  | (with_reducible refine' go_isNotB ?_)
  | (with_reducible refine' go_sl ?_)
  | (with_reducible refine' go_noPart ?_)
  | (with_reducible refine' go_part ?_)
  | (with_reducible refine' go_intK ?_)
  | ((with_reducible refine' go_slL ?h ?_); (case h => walk_at "h"); intro p H1 n1)
  | ((with_reducible refine' go_ixL ?h ?k ?_); (case h => walk_at "h"); (case k => exact rfl))
  | ((with_reducible refine' go_ixT ?h ?k ?_); (case h => walk_at "h"); (case k => exact rfl))
  | ((with_reducible refine' go_slW ?h ?_); (case h => walk_at "h"))
  | (with_reducible refine' go_bm ?_)
  | (with_reducible refine' go_bm0 ?_)
  | ((with_reducible refine' go_bmL ?h ?_); (case h => walk_at "h"))
  | ((with_reducible refine' go_append ?h ?k ?_); (case h => walk_at "h"); (case k => walk_at "z"); intro H1 n1)
  | ((with_reducible refine' go_extend ?h ?k ?z ?_); (case h => walk_at "h"); (case k => walk_at "h"); (case z => walk_at "z"); intro H1 n1)
  | ((with_reducible refine' go_clear ?h ?_); (case h => walk_at "h"); intro H1 n1)
  | ((with_reducible refine' go_dnew ?_); intro p H1 n1)
  | (with_reducible refine' go_cb ?_)
  | (with_reducible refine' go_callS ?_)
  | (with_reducible refine' go_call0 ?_)
  | ((with_reducible refine' go_lenL ?h ?_); (case h => walk_at "h"))
  | ((with_reducible refine' go_lenT ?h ?_); (case h => walk_at "h"))
  | ((with_reducible refine' go_lenK ?h ?_); (case h => walk_at "hk"))
  | ((with_reducible refine' go_listL ?h ?_); (case h => walk_at "h"); intro p H1 n1)
  | ((with_reducible refine' go_listT ?h ?_); (case h => walk_at "h"); intro p H1 n1)
  | ((with_reducible refine' go_tupleL ?h ?_); (case h => walk_at "h"); intro p H1 n1)
  | (with_reducible refine' go_intI ?_)
  | (with_reducible refine' go_intB ?_)
  | (with_reducible refine' go_abs ?_)
  | (with_reducible refine' go_min2 ?_)
  | (with_reducible refine' go_max2 ?_)
  | ((with_reducible refine' go_isi ?h ?k ?_); (case h => walk_at "ty"); (case k => exact kit_bb (by decide) (by decide)))
  | (with_reducible refine' go_lc ?_)
  | (with_reducible refine' go_for ?_)
  | (with_reducible refine' go_seqP ?_)
  | ((with_reducible refine' go_seqL ?h ?_); (case h => walk_at "h"))
  | ((with_reducible refine' go_seqT ?h ?_); (case h => walk_at "h"))
  | (with_reducible refine' go_seqS ?_)
  | (with_reducible refine' go_rng1 ?_)
  | (with_reducible refine' go_rng2 ?_)
  | ((with_reducible refine' go_rng1K ?h ?_); (case h => omega))
  | ((with_reducible refine' go_rng2K ?h ?_); (case h => omega))
  | (with_reducible refine' go_raise ?_)
  | ((with_reducible refine' go_tupG ?h ?k ?_); (case h => walk_at "h"); (case k => exact rfl))
  | ((with_reducible refine' go_lstG ?h ?k ?_); (case h => walk_at "h"); (case k => exact rfl))
  | (with_reducible refine' go_gNil ?_)
  | (with_reducible refine' go_tryAs ?_)
  | (with_reducible refine' go_tryMany1 ?_)
  | (with_reducible refine' go_tryMany2 ?_)
  | (with_reducible refine' go_WM ?_)
  | ((with_reducible refine' go_asT ?_); intro e he)
  | (with_reducible refine' go_asF ?_)
  | ((with_reducible refine' go_manyT ?_); intro e he)
  | (with_reducible refine' go_manyF ?_)
  | (with_reducible refine' go_manyN ?_)
  | (with_reducible refine' go_fld ?_)
  | ((with_reducible refine' go_FldK ?h ?c ?n ?l ?_); (case h => walk_at "h"); (case c => infer_instance); (case n => infer_instance); (case l => exact rfl))
  | (with_reducible refine' go_sfld ?_)
  | ((with_reducible refine' go_SFldK ?h ?c ?n ?l ?e ?_); (case h => walk_at "h"); (case c => infer_instance); (case n => infer_instance); (case l => exact Nat.le_of_ble_eq_true rfl); (case e => walk_at "pf"); intro H1 n1)
  | (with_reducible refine' go_meth ?_)
  | ((with_reducible refine' go_MethK 0 ?h ?l ?e ?_); (case h => walk_at "h"); (case l => exact rfl); (case e => exact rfl))
  | ((with_reducible refine' go_MethK 1 ?h ?l ?e ?_); (case h => walk_at "h"); (case l => exact rfl); (case e => exact rfl))
  | ((with_reducible refine' go_MethK 2 ?h ?l ?e ?_); (case h => walk_at "h"); (case l => exact rfl); (case e => exact rfl))
  | (with_reducible refine' go_make ?_)
  | (with_reducible refine' go_callX ?_)
  | (with_reducible refine' go_methX ?_)
  | ((with_reducible refine' go_MethXK ?h ?l ?_); (case h => walk_at "h"); (case l => exact rfl))
  | (with_reducible refine' go_dget ?_)
  | ((with_reducible refine' go_DGetS ?h ?l ?_); (case h => walk_at "h"); (case l => exact rfl))
  | (with_reducible refine' go_dput ?_)
  | ((with_reducible refine' go_DPutS ?h ?l ?e ?_); (case h => walk_at "h"); (case l => exact Nat.le_of_ble_eq_true rfl); (case e => walk_at "pk"); intro H1 n1)
  | ((with_reducible refine' go_disp ?_); intro p H1 n1)
  | (with_reducible refine' go_pairs ?_)
  | (with_reducible refine' go_pairs0 ?_)
  | ((with_reducible refine' go_DispS ?h ?e ?l ?k ?j ?m ?_); (case h => walk_at "h"); (case e => exact rfl); (case l => exact Nat.le_of_ble_eq_true rfl); (case k => (simp only [unS]; exact rfl)); (case j => (simp only [List.map_cons, List.map_nil]; exact rfl)); (case m => decide +kernel); intro H1 n1)
  | (with_reducible refine' go_par ?_)
  | ((with_reducible refine' go_ParK ?h ?_); (case h => (simp only [List.set_cons_zero, List.set_cons_succ]; exact rfl)))
  | (with_reducible refine' go_sub_ ?_)
  | ((with_reducible refine' go_setLi ?h ?k ?_); (case h => walk_at "h"); (case k => walk_at "ix"); intro H1 n1)
  | (with_reducible refine' go_listY ?_)
  | ((with_reducible refine' go_listYL ?h ?_); (case h => walk_at "h"))
  | (with_reducible refine' go_bmS ?_)
  | (with_reducible refine' go_ckw ?_)
  | ((with_reducible refine' go_maxD ?h ?_); (case h => walk_at "h"))
  | (with_reducible refine' go_listR ?_)
  | (with_reducible refine' go_rg2 ?_)
  | (with_reducible refine' go_Rg2K ?_)
  | (with_reducible refine' go_rg1 ?_)
  | (with_reducible refine' go_Rg1K ?_)
  | ((with_reducible refine' go_ListRK ?h ?_); (case h => omega); intro p H1 n1)
  | (with_reducible refine' go_enum ?_)
  | ((with_reducible refine' go_EnumL ?h ?_); (case h => walk_at "h"))
  | (with_reducible refine' go_isX ?_)
  | (with_reducible refine' go_isXt ?_)
  | (with_reducible refine' go_din ?_)
  | (with_reducible refine' go_dnotin ?_)
  | ((with_reducible refine' go_DInI ?h ?_); (case h => walk_at "h"))
  | ((with_reducible refine' go_DNotInI ?h ?_); (case h => walk_at "h"))
  | (with_reducible refine' go_dget2 ?_)
  | ((with_reducible refine' go_DGet2K ?h ?_); (case h => walk_at "h"))
  | (with_reducible refine' go_dpop1 ?_)
  | ((with_reducible refine' go_eqDE ?h ?k ?_); (case h => walk_at "h"); (case k => walk_at "h"))
  | ((with_reducible refine' go_neDE ?h ?k ?_); (case h => walk_at "h"); (case k => walk_at "h"))
  | (with_reducible refine' go_chain3 ?_)
  | (with_reducible refine' go_LinkT ?_)
  | (with_reducible refine' go_LinkF ?_)
  | (with_reducible refine' go_Link2T ?_)
  | (with_reducible refine' go_Link2F ?_)
  | (with_reducible refine' go_gSl ?_)
  | ((with_reducible refine' go_insert ?h ?k ?l ?m ?_); (case h => walk_at "h"); (case k => walk_at "z"); (case l => omega); (case m => omega); intro H1 n1)
  | (with_reducible refine' go_gCons ?_))
local macro_rules | `(tactic| walk_at "pf") => `(tactic| first
  | exact putF_nil
  | exact putF_hit
  | (refine' putF_miss ?h ?k; (case h => decide +kernel); (case k => walk_at "pf")))
local macro_rules | `(tactic| walk_at "pk") => `(tactic| first
  | exact putK_nil
  | exact putK_hit (by (simp only [List.map_cons, List.map_nil]; decide +kernel))
  | (refine' putK_miss ?h ?k; (case h => decide +kernel); (case k => walk_at "pk")))
local macro_rules | `(tactic| walk_at "ix") => `(tactic| first
  | assumption
  | omega
  | (simp only [List.length_cons, List.length_nil, List.length_append, List.length_map, List.length_range, List.length_replicate, List.length_set] at *; omega))
local macro_rules | `(tactic| walk_at "pr") => `(tactic| first
  | assumption
  | decide
  | omega
  | exact rfl
  | (intro z; cases z; done))
local macro_rules | `(tactic| walk_at "hk") => `(tactic| first
  | assumption
  | exact seq' (by assumption) (by walk_at "sm"))
local macro_rules | `(tactic| walk_at "ty") => `(tactic| first
  | exact rfl
  | assumption
  | exact tyN_L (by walk_at "h")
  | exact tyN_T (by walk_at "h")
  | exact tyN_D (by walk_at "h"))
local macro_rules | `(tactic| walk_at "go") => `(tactic| repeat (walk_at "s"))
section
variable {K : PySem.W.Frag} {a : Ac} {H : Hp} {Q : VK} {E : XK} [F : Fc K a] {l bt D d r : Addr} {m done : Int} {t na : Nat} {Z KK : List (List Int)} {ks : List Int}
/-- the least unused node -/
def least (KK : List (List Int)) : Nat → Nat → Option Nat
  | 0, _ => none
  | n + 1, i => if (KK.getD i []).getD 0 0 = 0 then some i else least KK n (i + 1)
end

section
variable {H H' : Hp} {L : Addr} {ls : List Addr} {R : List (List Int)}
theorem RowsAt.snoc {p : Addr} {row : List Int} (h : RowsAt H L ls R) (w : Wr H L (.lst (ls.map V.ref ++ [.ref p])) H') (hp : H p = some (.lst (row.map V.int))) (hr : row ≠ []) : RowsAt H' L (ls ++ [p]) (R ++ [row]) := by
  have no : ∀ {q : Addr} {ns : List Int}, ns ≠ [] → H q = some (.lst (ns.map V.int)) → q ≠ L := fun hn e z => by rw [z] at e; exact NotInts.refs h.rr _ hn e
  have hl := h.len
  refine ⟨by rw [w.at, List.map_append]; rfl, by simp [h.len], fun j q ej => ?_⟩
  by_cases hj : j < ls.length
  · rw [List.getElem?_append_left hj] at ej
    obtain ⟨row', e1, e2, e3⟩ := h.row j q ej
    exact ⟨row', by rw [List.getElem?_append_left (by omega)]; exact e1, e2, w.old (no e2 e3) e3⟩
  · rw [List.getElem?_append_right (by omega)] at ej
    have e0 : j - ls.length = 0 := by
      have := (List.getElem?_eq_some_iff.mp ej).1
      simp at this; omega
    rw [e0] at ej; cases ej
    exact ⟨row, by rw [List.getElem?_append_right (by omega), ← hl, e0]; rfl, hr, w.old (no hr hp) hp⟩
theorem atI_last {α : Type} {xs : List α} {y : α} : atI (xs ++ [y]) (-1) = some y := by
  unfold atI ixN
  simp
  rw [show (-1 + ((xs.length : Int) + 1)).toNat = xs.length by omega, if_pos (by omega)]
  show (xs ++ [y])[xs.length]? = some y
  rw [List.getElem?_append_right (Nat.le_refl _), Nat.sub_self]
  rfl
end

def whole : V → Bool
  | .int _ => true
  | _ => false
section
variable {K : PySem.W.Frag} {a : Ac} {H : Hp} {Q : VK} {E : XK} [F : Fc K a]
end

/-! ### lists of lists that were told -/
structure TellAt (H : Hp) (L : Addr) (ls : List Addr) (R : List (List Int)) : Prop where
  rr : H L = some (.lst (ls.map V.ref))
  len : ls.length = R.length
  row : ∀ (i : Nat) (p : Addr), ls[i]? = some p → ∃ row, R[i]? = some row ∧ H p = some (.lst (row.map V.int))
section
variable {K : PySem.W.Frag} {H H' : Hp} {Q : VK} {L L2 : Addr} {ls ls2 : List Addr} {R : List (List Int)}
theorem TellAt.chg {S : List Addr} (h : TellAt H L ls R) (c : Chg S H H') (n : L ∉ S) (o : ∀ p ∈ ls, p ∉ S) : TellAt H' L ls R :=
  ⟨c.at n h.rr, h.len, fun i p e => let ⟨row, e1, e3⟩ := h.row i p e; ⟨row, e1, c.at (o p (List.mem_of_getElem? e)) e3⟩⟩
theorem TellAt.same (h : TellAt H L ls R) (s : Same H H') : TellAt H' L ls R := h.chg (S := []) (.of s) ni_nil fun _ _ => ni_nil
theorem TellAt.snoc {p : Addr} {row : List Int} (h : TellAt H L ls R) (w : Wr H L (.lst (ls.map V.ref ++ [.ref p])) H') (hp : H p = some (.lst (row.map V.int))) (o : ∀ q ∈ ls ++ [p], q ≠ L) : TellAt H' L (ls ++ [p]) (R ++ [row]) := by
  have hl := h.len
  refine ⟨by rw [w.at, List.map_append]; rfl, by simp [h.len], fun j q ej => ?_⟩
  by_cases hj : j < ls.length
  · rw [List.getElem?_append_left hj] at ej
    obtain ⟨row', e1, e3⟩ := h.row j q ej
    exact ⟨row', by rw [List.getElem?_append_left (by omega)]; exact e1, w.old (o q (List.mem_append_left _ (List.mem_of_getElem? ej))) e3⟩
  · rw [List.getElem?_append_right (by omega)] at ej
    have e0 : j - ls.length = 0 := by
      have := (List.getElem?_eq_some_iff.mp ej).1
      simp at this; omega
    rw [e0] at ej; cases ej
    exact ⟨row, by rw [List.getElem?_append_right (by omega), ← hl, e0]; rfl, w.old (o p (by simp)) hp⟩
theorem TellAt.dp (h : TellAt H L ls R) : Dp K H (.ref L) (.list (rowsD R)) := .lst (SqL.of h.rr) (dp_rows h.len h.row)
theorem tell_eq (h : TellAt H L ls R) (h2 : TellAt H L2 ls2 R) (q : Q (.bl true) H) : rEqP K (.ref L) (.ref L2) H Q := go_eqSame h.dp h2.dp (shaped_rows R) q
theorem tell_ne (h : TellAt H L ls R) (h2 : TellAt H L2 ls2 R) (q : Q (.bl false) H) : rNeP K (.ref L) (.ref L2) H Q := go_neSame h.dp h2.dp (shaped_rows R) q
theorem RowsAt.tell (h : RowsAt H L ls R) : TellAt H L ls R := ⟨h.rr, h.len, fun i p e => let ⟨row, e1, _, e3⟩ := h.row i p e; ⟨row, e1, e3⟩⟩
end

end Bk

namespace Bk
open PySem L2 PyProof.Rows
/-! our own short tactics: h: what stands at a place; ne: two places; sm: what stood stands; z: a size; s: a step; go: steps -/
local macro_rules | `(tactic| walk_at "h") => `(tactic| first
  | assumption
  | exact New.at (by assumption)
  | exact Wr.at (by assumption)
  | (refine' New.old (by assumption) ?_; walk_at "h")
  | (refine' Same.at (by assumption) ?_; walk_at "h")
  | (refine' Wr.old (by assumption) ?_ ?_; walk_at "ne"; walk_at "h")
  | (refine' Chg.at (by assumption) ?_ ?_; walk_at "ni"; walk_at "h"))
local macro_rules | `(tactic| walk_at "ni") => `(tactic| first
  | exact ni_nil
  | assumption
  | (refine' ni_cons ?_ ?_; walk_at "ne"; walk_at "ni"))
local macro_rules | `(tactic| walk_at "ne") => `(tactic| first
  | assumption
  | exact Ne.symm (by assumption)
  | exact New.ne (by assumption) (by walk_at "h")
  | exact ne_none (by assumption) (by walk_at "h")
  | exact Ne.symm (ne_none (by assumption) (by walk_at "h"))
  | exact Ne.symm (New.ne (by assumption) (by walk_at "h")))
local macro_rules | `(tactic| walk_at "sm") => `(tactic| first
  | exact Same.refl _
  | assumption
  | (refine' Same.trans ?_ (New.same (by assumption)); walk_at "sm")
  | (refine' Same.trans ?_ (by assumption : Same _ _); walk_at "sm"))
local macro_rules | `(tactic| walk_at "z") => `(tactic| first
  | assumption
  | (rw [PySem.sizeLine_eq]; omega)
  | (rw [PySem.sizeLine_eq]; simp only [List.length_cons, List.length_nil, List.length_append, List.length_map, List.length_range, List.length_replicate, len_cut]; omega)
  | (rw [PySem.sizeLine_eq]; simp only [List.length_cons, List.length_nil, List.length_append, List.length_map, List.length_range, List.length_replicate, len_cut] at *; omega))
local macro_rules | `(tactic| walk_at "s") => `(tactic| first
  | ((with_reducible refine' go_var ?h ?_); (case h => exact rfl))
  | (with_reducible refine' go_c ?_)
  | (with_reducible refine' go_op ?_)
  | (with_reducible refine' go_un ?_)
  | (with_reducible refine' go_rU ?_)
  | (with_reducible refine' go_seq ?_)
  | (with_reducible refine' go_ret ?_)
  | (with_reducible refine' go_retN ?_)
  | (with_reducible refine' go_next ?_)
  | (with_reducible refine' go_drop ?_)
  | (with_reducible refine' go_asg ?_)
  | ((with_reducible refine' go_name2 ?h ?_); (case h => (simp only [List.set_cons_zero, List.set_cons_succ]; exact rfl)))
  | ((with_reducible refine' go_name2 ?h ?_); (case h => exact rfl))
  | (with_reducible refine' go_ifS ?_)
  | (with_reducible refine' go_blk ?_)
  | (with_reducible refine' go_test ?_)
  | (with_reducible refine' go_tB ?_)
  | (with_reducible refine' go_and ?_)
  | (with_reducible refine' go_or ?_)
  | (with_reducible refine' go_not ?_)
  | (with_reducible refine' go_andV ?_)
  | (with_reducible refine' go_orV ?_)
  | (with_reducible refine' go_notV ?_)
  | (with_reducible refine' go_if ?_)
  | (with_reducible refine' go_chain ?_)
  | (with_reducible refine' iteT ?_)
  | (with_reducible refine' iteF ?_)
  | ((with_reducible refine' go_Td ?h ?_); (case h => walk_at "pr"))
  | ((with_reducible refine' go_Fd ?h ?_); (case h => walk_at "pr"))
  | ((with_reducible refine' go_Tn ?h ?_); (case h => walk_at "pr"))
  | ((with_reducible refine' go_Fn ?h ?_); (case h => walk_at "pr"))
  | ((with_reducible refine' go_T ?h ?_); (case h => (first | decide | assumption | exact rfl)))
  | ((with_reducible refine' go_F ?h ?_); (case h => (first | decide | assumption | exact rfl)))
  | (with_reducible refine' go_nil ?_)
  | (with_reducible refine' go_cons ?_)
  | (with_reducible refine' go_tLst ?_)
  | (with_reducible refine' go_tTup ?_)
  | ((with_reducible refine' go_LstK ?h ?_); (case h => walk_at "z"); intro p H1 n1)
  | ((with_reducible refine' go_TupK ?h ?_); (case h => walk_at "z"); intro p H1 n1)
  | (with_reducible refine' go_addI ?_)
  | ((with_reducible refine' go_addL ?h ?k ?z ?_); (case h => walk_at "h"); (case k => walk_at "h"); (case z => walk_at "z"); intro p H1 n1)
  | (with_reducible refine' go_sub ?_)
  | ((with_reducible refine' go_mulI ?h ?_); (case h => (unfold CMul; omega)))
  | ((with_reducible refine' go_mulL ?h ?k ?_); (case h => walk_at "h"); (case k => (refine ⟨by omega, by omega, ?_⟩; walk_at "z")); intro p H1 n1)
  | ((with_reducible refine' go_div ?h ?_); (case h => (unfold CDiv; omega)))
  | ((with_reducible refine' go_mod ?h ?_); (case h => omega))
  | (with_reducible refine' go_p109 ?_)
  | (with_reducible refine' go_p1020 ?_)
  | ((with_reducible refine' go_pow ?h ?_); (case h => (unfold CPow; omega)))
  | (with_reducible refine' go_lt ?_)
  | (with_reducible refine' go_le ?_)
  | (with_reducible refine' go_gt ?_)
  | (with_reducible refine' go_ge ?_)
  | (with_reducible refine' go_eqI ?_)
  | (with_reducible refine' go_eqB ?_)
  | (with_reducible refine' go_eqS ?_)
  | (with_reducible refine' go_neI ?_)
  | (with_reducible refine' go_neB ?_)
  | (with_reducible refine' go_neS ?_)
  | (with_reducible refine' go_isN ?_)
  | (with_reducible refine' go_isNotN ?_)
  | (with_reducible refine' go_isB ?_)
  | (with_reducible refine' go_isNotB ?_)
  | (with_reducible refine' go_sl ?_)
  | (with_reducible refine' go_noPart ?_)
  | (with_reducible refine' go_part ?_)
  | (with_reducible refine' go_intK ?_)
  | ((with_reducible refine' go_slL ?h ?_); (case h => walk_at "h"); intro p H1 n1)
  | ((with_reducible refine' go_ixL ?h ?k ?_); (case h => walk_at "h"); (case k => exact rfl))
  | ((with_reducible refine' go_ixT ?h ?k ?_); (case h => walk_at "h"); (case k => exact rfl))
  | ((with_reducible refine' go_slW ?h ?_); (case h => walk_at "h"))
  | (with_reducible refine' go_bm ?_)
  | (with_reducible refine' go_bm0 ?_)
  | ((with_reducible refine' go_bmL ?h ?_); (case h => walk_at "h"))
  | ((with_reducible refine' go_append ?h ?k ?_); (case h => walk_at "h"); (case k => walk_at "z"); intro H1 n1)
  | ((with_reducible refine' go_extend ?h ?k ?z ?_); (case h => walk_at "h"); (case k => walk_at "h"); (case z => walk_at "z"); intro H1 n1)
  | ((with_reducible refine' go_clear ?h ?_); (case h => walk_at "h"); intro H1 n1)
  | ((with_reducible refine' go_dnew ?_); intro p H1 n1)
  | (with_reducible refine' go_cb ?_)
  | (with_reducible refine' go_callS ?_)
  | (with_reducible refine' go_call0 ?_)
  | ((with_reducible refine' go_lenL ?h ?_); (case h => walk_at "h"))
  | ((with_reducible refine' go_lenT ?h ?_); (case h => walk_at "h"))
  | ((with_reducible refine' go_lenK ?h ?_); (case h => walk_at "hk"))
  | ((with_reducible refine' go_listL ?h ?_); (case h => walk_at "h"); intro p H1 n1)
  | ((with_reducible refine' go_listT ?h ?_); (case h => walk_at "h"); intro p H1 n1)
  | ((with_reducible refine' go_tupleL ?h ?_); (case h => walk_at "h"); intro p H1 n1)
  | (with_reducible refine' go_intI ?_)
  | (with_reducible refine' go_intB ?_)
  | (with_reducible refine' go_abs ?_)
  | (with_reducible refine' go_min2 ?_)
  | (with_reducible refine' go_max2 ?_)
  | ((with_reducible refine' go_isi ?h ?k ?_); (case h => walk_at "ty"); (case k => exact kit_bb (by decide) (by decide)))
  | (with_reducible refine' go_lc ?_)
  | (with_reducible refine' go_for ?_)
  | (with_reducible refine' go_seqP ?_)
  | ((with_reducible refine' go_seqL ?h ?_); (case h => walk_at "h"))
  | ((with_reducible refine' go_seqT ?h ?_); (case h => walk_at "h"))
  | (with_reducible refine' go_seqS ?_)
  | (with_reducible refine' go_rng1 ?_)
  | (with_reducible refine' go_rng2 ?_)
  | ((with_reducible refine' go_rng1K ?h ?_); (case h => omega))
  | ((with_reducible refine' go_rng2K ?h ?_); (case h => omega))
  | (with_reducible refine' go_raise ?_)
  | ((with_reducible refine' go_tupG ?h ?k ?_); (case h => walk_at "h"); (case k => exact rfl))
  | ((with_reducible refine' go_lstG ?h ?k ?_); (case h => walk_at "h"); (case k => exact rfl))
  | (with_reducible refine' go_gNil ?_)
  | (with_reducible refine' go_tryAs ?_)
  | (with_reducible refine' go_tryMany1 ?_)
  | (with_reducible refine' go_tryMany2 ?_)
  | (with_reducible refine' go_WM ?_)
  | ((with_reducible refine' go_asT ?_); intro e he)
  | (with_reducible refine' go_asF ?_)
  | ((with_reducible refine' go_manyT ?_); intro e he)
  | (with_reducible refine' go_manyF ?_)
  | (with_reducible refine' go_manyN ?_)
  | (with_reducible refine' go_fld ?_)
  | ((with_reducible refine' go_FldK ?h ?c ?n ?l ?_); (case h => walk_at "h"); (case c => infer_instance); (case n => infer_instance); (case l => exact rfl))
  | (with_reducible refine' go_sfld ?_)
  | ((with_reducible refine' go_SFldK ?h ?c ?n ?l ?e ?_); (case h => walk_at "h"); (case c => infer_instance); (case n => infer_instance); (case l => exact Nat.le_of_ble_eq_true rfl); (case e => walk_at "pf"); intro H1 n1)
  | (with_reducible refine' go_meth ?_)
  | ((with_reducible refine' go_MethK 0 ?h ?l ?e ?_); (case h => walk_at "h"); (case l => exact rfl); (case e => exact rfl))
  | ((with_reducible refine' go_MethK 1 ?h ?l ?e ?_); (case h => walk_at "h"); (case l => exact rfl); (case e => exact rfl))
  | ((with_reducible refine' go_MethK 2 ?h ?l ?e ?_); (case h => walk_at "h"); (case l => exact rfl); (case e => exact rfl))
  | (with_reducible refine' go_make ?_)
  | (with_reducible refine' go_callX ?_)
  | (with_reducible refine' go_methX ?_)
  | ((with_reducible refine' go_MethXK ?h ?l ?_); (case h => walk_at "h"); (case l => exact rfl))
  | (with_reducible refine' go_dget ?_)
  | ((with_reducible refine' go_DGetS ?h ?l ?_); (case h => walk_at "h"); (case l => exact rfl))
  | (with_reducible refine' go_dput ?_)
  | ((with_reducible refine' go_DPutS ?h ?l ?e ?_); (case h => walk_at "h"); (case l => exact Nat.le_of_ble_eq_true rfl); (case e => walk_at "pk"); intro H1 n1)
  | ((with_reducible refine' go_disp ?_); intro p H1 n1)
  | (with_reducible refine' go_pairs ?_)
  | (with_reducible refine' go_pairs0 ?_)
  | ((with_reducible refine' go_DispS ?h ?e ?l ?k ?j ?m ?_); (case h => walk_at "h"); (case e => exact rfl); (case l => exact Nat.le_of_ble_eq_true rfl); (case k => (simp only [unS]; exact rfl)); (case j => (simp only [List.map_cons, List.map_nil]; exact rfl)); (case m => decide +kernel); intro H1 n1)
  | (with_reducible refine' go_par ?_)
  | ((with_reducible refine' go_ParK ?h ?_); (case h => (simp only [List.set_cons_zero, List.set_cons_succ]; exact rfl)))
  | (with_reducible refine' go_sub_ ?_)
  | ((with_reducible refine' go_setLi ?h ?k ?_); (case h => walk_at "h"); (case k => walk_at "ix"); intro H1 n1)
  | (with_reducible refine' go_listY ?_)
  | ((with_reducible refine' go_listYL ?h ?_); (case h => walk_at "h"))
  | (with_reducible refine' go_bmS ?_)
  | (with_reducible refine' go_ckw ?_)
  | ((with_reducible refine' go_maxD ?h ?_); (case h => walk_at "h"))
  | (with_reducible refine' go_listR ?_)
  | (with_reducible refine' go_rg2 ?_)
  | (with_reducible refine' go_Rg2K ?_)
  | (with_reducible refine' go_rg1 ?_)
  | (with_reducible refine' go_Rg1K ?_)
  | ((with_reducible refine' go_ListRK ?h ?_); (case h => omega); intro p H1 n1)
  | (with_reducible refine' go_enum ?_)
  | ((with_reducible refine' go_EnumL ?h ?_); (case h => walk_at "h"))
  | (with_reducible refine' go_isX ?_)
  | (with_reducible refine' go_isXt ?_)
  | (with_reducible refine' go_din ?_)
  | (with_reducible refine' go_dnotin ?_)
  | ((with_reducible refine' go_DInI ?h ?_); (case h => walk_at "h"))
  | ((with_reducible refine' go_DNotInI ?h ?_); (case h => walk_at "h"))
  | (with_reducible refine' go_dget2 ?_)
  | ((with_reducible refine' go_DGet2K ?h ?_); (case h => walk_at "h"))
  | (with_reducible refine' go_dpop1 ?_)
  | ((with_reducible refine' go_eqDE ?h ?k ?_); (case h => walk_at "h"); (case k => walk_at "h"))
  | ((with_reducible refine' go_neDE ?h ?k ?_); (case h => walk_at "h"); (case k => walk_at "h"))
  | (with_reducible refine' go_chain3 ?_)
  | (with_reducible refine' go_LinkT ?_)
  | (with_reducible refine' go_LinkF ?_)
  | (with_reducible refine' go_Link2T ?_)
  | (with_reducible refine' go_Link2F ?_)
  | (with_reducible refine' go_gSl ?_)
  | ((with_reducible refine' go_insert ?h ?k ?l ?m ?_); (case h => walk_at "h"); (case k => walk_at "z"); (case l => omega); (case m => omega); intro H1 n1)
  | (with_reducible refine' go_gCons ?_))
local macro_rules | `(tactic| walk_at "pf") => `(tactic| first
  | exact putF_nil
  | exact putF_hit
  | (refine' putF_miss ?h ?k; (case h => decide +kernel); (case k => walk_at "pf")))
local macro_rules | `(tactic| walk_at "pk") => `(tactic| first
  | exact putK_nil
  | exact putK_hit (by (simp only [List.map_cons, List.map_nil]; decide +kernel))
  | (refine' putK_miss ?h ?k; (case h => decide +kernel); (case k => walk_at "pk")))
local macro_rules | `(tactic| walk_at "ix") => `(tactic| first
  | assumption
  | omega
  | (simp only [List.length_cons, List.length_nil, List.length_append, List.length_map, List.length_range, List.length_replicate, List.length_set] at *; omega))
local macro_rules | `(tactic| walk_at "pr") => `(tactic| first
  | assumption
  | decide
  | omega
  | exact rfl
  | (intro z; cases z; done))
local macro_rules | `(tactic| walk_at "hk") => `(tactic| first
  | assumption
  | exact seq' (by assumption) (by walk_at "sm"))
local macro_rules | `(tactic| walk_at "ty") => `(tactic| first
  | exact rfl
  | assumption
  | exact tyN_L (by walk_at "h")
  | exact tyN_T (by walk_at "h")
  | exact tyN_D (by walk_at "h"))
local macro_rules | `(tactic| walk_at "go") => `(tactic| repeat (walk_at "s"))
/-! ### the law's rows and pairs -/
def rowOf (c : Int) : List Int := if c % 5 = 0 then List.replicate 16 (c / 5 % 2 * 999999999) else (List.range 16).map fun k : Nat => (c / 5 % 1000000000 + c / 35 % 1009 * k + 7919 * k * k) % 1000000000
theorem good_rowOf (c : Int) : GoodRow (rowOf c) := by
  unfold rowOf
  split
  · refine ⟨by simp, fun z hz => ?_⟩
    rw [List.eq_of_mem_replicate hz]
    omega
  · refine ⟨by simp, fun z hz => ?_⟩
    obtain ⟨k, _, rfl⟩ := List.mem_map.mp hz
    omega
section
variable {K : PySem.W.Frag} {a : Ac} {H : Hp} {Q : VK} {E : XK}
theorem p_rowOf {c : Int} (q : ∀ p H', Same H H' → H p = none → H' p = some (.lst ((rowOf c).map V.int)) → Q (.ref p) H') : sp_L_row K a [.int c] H Q E := by
  refine in_L_row ?_
  unfold t_L_row
  walk_at "go"
  refine go_dec (fun c1 => ?_) (fun c1 => ?_)
  · walk_at "go"
    rename_i p1 H1 n1 p2 H2 n2
    refine q p2 H2 (n1.same.trans n2.same) (n1.same.free n2.free) ?_
    rw [n2.at, rowOf, if_pos c1]
    rfl
  · walk_at "go"
    refine lc_mapR (f := fun k : Nat => .int ((c / 5 % 1000000000 + c / 35 % 1009 * k + 7919 * k * k) % 1000000000)) (by rw [sizeLine_eq]; decide) (fun i H' Q' hi s q' => ?_) (fun D H2 hD s hd => ?_)
    · walk_at "go"
      simp only [Int.zero_add]
      exact q' _ (Same.refl _)
    · refine q D H2 s hD ?_
      rw [hd, rowOf, if_neg c1]
      simp
end

/-! ### what is odd -/
theorem isR_len {xs : List V} (h : xs.length ≠ 16) : isR xs = false := by
  unfold isR
  rw [decide_eq_false (by omega)]; rfl
theorem isR_bad {xs : List V} {y : V} (h : y ∈ xs) (k : isW y = false) : isR xs = false := by
  unfold isR
  have : xs.all isW = false := by
    rw [Bool.eq_false_iff]
    intro z
    rw [List.all_eq_true.mp z y h] at k
    cases k
  rw [this, Bool.and_false]
/-- what is no row: a list, or something else -/
def OddR (H : Hp) (x : V) : Prop := (∃ p xs, x = .ref p ∧ H p = some (.lst xs) ∧ (∀ y ∈ xs, ∃ n, tyN H y = some n) ∧ xs.length ≤ 1000 ∧ isR xs = false) ∨ (∃ n, tyN H x = some n ∧ n ≠ "list")
theorem OddR.rowIs {H : Hp} {x : V} (h : OddR H x) : RowIs H x none := by
  rcases h with ⟨p, xs, a, b, c, d, e⟩ | ⟨n, a, b⟩
  · exact .inl ⟨p, xs, a, b, c, d, .inr ⟨e, rfl⟩⟩
  · exact .inr ⟨n, a, b, rfl⟩
theorem OddR.same {H H' : Hp} {x : V} (h : OddR H x) (s : Same H H') : OddR H' x := by
  rcases h with ⟨p, xs, a, b, c, d, e⟩ | ⟨n, a, b⟩
  · exact .inl ⟨p, xs, a, s _ _ b, fun y hy => let ⟨n, z⟩ := c y hy; ⟨n, tyN_same s z⟩, d, e⟩
  · exact .inr ⟨n, tyN_same s a, b⟩
section
variable {K : PySem.W.Frag} {a : Ac} {H : Hp} {Q : VK} {E : XK}
theorem p_odd_row {c : Int} (q : ∀ x H', Same H H' → OddR H' x → Q x H') : sp_L_odd_row K a [.int c] H Q E := by
  refine in_L_odd_row ?_
  unfold t_L_odd_row
  walk_at "go"
  refine p_rowOf fun p0 H0 s0 p0n h0 => ?_
  have g := good_rowOf (c / 9)
  generalize rowOf (c / 9) = row at h0 g
  have g1 := g.1
  walk_at "go"
  refine go_ixLo (by walk_at "h") ⟨by omega, by show _ < (6 : Int); omega⟩ fun w hw hi => ?_
  rename_i p1 H1 n1
  have far : 0 ≤ c / 144 % 100000000000000000000 := Int.emod_nonneg _ (by omega)
  have tw : ∀ H', ∃ n, tyN H' w = some n := fun H' => by
    simp only [List.mem_cons, List.not_mem_nil, or_false] at hw
    rcases hw with rfl | rfl | rfl | rfl | rfl | rfl <;> exact ⟨_, rfl⟩
  have bw : isW w = false := by
    simp only [List.mem_cons, List.not_mem_nil, or_false] at hw
    rcases hw with rfl | rfl | rfl | rfl | rfl | rfl
    · rfl
    · rfl
    · simp [isW]; omega
    · rfl
    · rfl
    · rfl
  have ti : ∀ (H' : Hp) (y : V), y ∈ row.map V.int → ∃ n, tyN H' y = some n := fun H' y hy => by
    obtain ⟨z, _, rfl⟩ := List.mem_map.mp hy
    exact ⟨_, rfl⟩
  have tc : ∀ (H' : Hp) (lo hi : Option Int) (y : V), y ∈ cutV (row.map V.int) lo hi → ∃ n, tyN H' y = some n := fun H' lo hi y hy => ti H' y (List.mem_of_mem_drop (List.mem_of_mem_take hy))
  have lc : (cutV (row.map V.int) none (some 15)).length = 15 := by rw [cut_take _ (by omega), List.length_take, List.length_map, g1]; rfl
  clear hi hw
  have h01 := n1.old h0
  walk_at "go"
  rename_i p2 H2 n2 p3 H3 n3 p4 H4 n4 p5 H5 n5 p6 H6 n6 p7 H7 n7
  refine go_dec (fun c1 => ?_) (fun c1 => ?_)
  · have h07 : H7 p0 = some (.lst (row.map V.int)) := by walk_at "h"
    have s7 : Same H H7 := by walk_at "sm"
    clear n1 n2 n3 n4 n5 n6 n7
    have la : 0 ≤ c / 9 % 16 ∧ c / 9 % 16 < 16 := by omega
    walk_at "go"
    rename_i q1 K1 m1 q2 K2 m2 q3 K3 m3 q4 K4 m4 q5 K5 m5
    have s5 : Same H K5 := by walk_at "sm"
    have e5 := m5.at
    rw [cut_take _ (by omega), cut_drop _ (by omega)] at e5
    refine q _ K5 s5 (.inl ⟨q5, _, rfl, e5, fun y hy => ?_, by simp; omega, isR_bad (y := w) (by simp) bw⟩)
    rcases List.mem_append.mp hy with hy | hy
    · rcases List.mem_append.mp hy with hy | hy
      · exact ti _ _ (List.mem_of_mem_take hy)
      · rw [List.mem_singleton.mp hy]; exact tw _
    · exact ti _ _ (List.mem_of_mem_drop hy)
  · walk_at "go"
    refine go_ixLo (by walk_at "h") ⟨by omega, by show _ < (7 : Int); omega⟩ fun x hx hi => ?_
    have s7 : Same H H7 := by walk_at "sm"
    refine q x H7 s7 ?_
    simp only [List.mem_cons, List.not_mem_nil, or_false] at hx
    rcases hx with rfl | rfl | rfl | rfl | rfl | rfl | rfl
    · exact .inl ⟨_, _, rfl, by walk_at "h", tc _ _ _, by omega, isR_len (by omega)⟩
    · refine .inl ⟨_, _, rfl, by walk_at "h", fun y hy => ?_, by simp [g1], isR_len (by simp [g1])⟩
      rcases List.mem_append.mp hy with hy | hy
      · exact ti _ _ hy
      · rw [List.mem_singleton.mp hy]; exact ⟨_, rfl⟩
    · exact .inr ⟨_, tyN_T (by walk_at "h"), by decide⟩
    · exact .inr ⟨_, rfl, by decide⟩
    · exact .inr ⟨_, rfl, by decide⟩
    · exact .inl ⟨_, [], rfl, by walk_at "h", by simp, by simp, isR_len (by simp)⟩
    · exact .inr ⟨_, rfl, by decide⟩
theorem p_odd_block {c m : Int} {n : Nat} (hm : m = n) (hn : 24 ≤ n) (q : ∀ x t H', Same H H' → tyN H' x = some t → isHome n x = false → (∀ p ns, x = .ref p → H' p = some (.lst ns) → H p = none) → Q x H') : sp_L_odd_block K a [.int c, .int m] H Q E := by
  refine in_L_odd_block ?_
  unfold t_L_odd_block
  walk_at "go"
  refine go_ixLo (by walk_at "h") ⟨by omega, by show _ < (9 : Int); omega⟩ fun x hx hi => ?_
  rename_i p1 H1 n1 p2 H2 n2
  have far : 0 ≤ c / 9 % 100000000000000000000 := Int.emod_nonneg _ (by omega)
  have s2 : Same H H2 := n1.same.trans n2.same
  simp only [List.mem_cons, List.not_mem_nil, or_false] at hx
  rcases hx with rfl | rfl | rfl | rfl | rfl | rfl | rfl | rfl | rfl
  all_goals first
    | exact q _ _ H2 s2 rfl (by simp [isHome] <;> omega) (fun _ _ z => by cases z)
    | exact q _ _ H2 s2 (tyN_L (by walk_at "h")) rfl (fun p ns z _ => by cases z; exact n1.free)
end
/-! ### in the suites -/
section
variable {K : PySem.W.Frag} {a : Ac} {H : Hp} {Q : VK} {E : XK} [F : Fc K a] {e : Addr}
def wd4 : List Str := ["block", "row", "much", "stopped"]
omit F in
theorem kinds_lc {j : Nat} {bs : List V} {p : Addr} {Q' : VK} {v0 : Option V} (hp : H p = some (.lst bs)) (hb : bs = (List.range 4).map (fun i => V.bl (decide (i = j)))) (j4 : j < 4) (q' : ∀ D2 H2, Same H H2 → H2 D2 = some (.lst [.str (wd4.getD j "")]) → Q' (.ref D2) H2) :
    LcK (gName 2) (tB (tOp (rIxP K) (tVar 1) (tVar 2))) (tOp (rIxP K) (tLst (tCons (tC (.str "block")) (tCons (tC (.str "row")) (tCons (tC (.str "much")) (tCons (tC (.str "stopped")) (tNil)))))) (tVar 2)) [2] [v0, some (.ref p), none] Q' (Itr 0 (Int.toNat 4)) H := by
  refine lc_filtR (pp := fun i => decide (i = j)) (f := fun i => .str (wd4.getD i "")) (by rw [sizeLine_eq]; decide) (fun i H' QB hi s k => ?_) (fun i H' Q' hi hpi s k => ?_) (fun D2 H2 hD s2 hd => ?_)
  · simp only [List.set_cons_zero, List.set_cons_succ, Int.zero_add]
    have hp' := s _ _ hp
    have h4 : i < 4 := by omega
    walk_at "go"
    refine go_ixAt hp' (by omega) (v := .bl (decide (i = j))) (by rw [hb, List.getElem?_map, List.getElem?_range (by omega)]; simp) ?_
    exact go_blk (k H' (Same.refl _))
  · simp only [List.set_cons_zero, List.set_cons_succ, Int.zero_add]
    have h4 : i < 4 := by omega
    walk_at "go"
    rename_i p3 H3 n3
    refine go_ixAt n3.at (by omega) (v := .str (wd4.getD i "")) ?_ (k H3 n3.same)
    rcases (show i = 0 ∨ i = 1 ∨ i = 2 ∨ i = 3 by omega) with rfl | rfl | rfl | rfl <;> rfl
  · have e1 : ((List.range (Int.toNat 4)).filter fun i => decide (i = j)) = [j] := by
      rcases (show j = 0 ∨ j = 1 ∨ j = 2 ∨ j = 3 by omega) with rfl | rfl | rfl | rfl <;> decide
    rw [e1] at hd
    exact q' D2 H2 s2 hd
theorem p_kinds (D : Addr) (j : Nat) (hj : (D = a.NoBlock ∧ j = 0) ∨ (D = a.BadRow ∧ j = 1) ∨ (D = a.TooMuch ∧ j = 2)) (q : ∀ H', Same H H' → Q (.str (wd4.getD j "")) H') : sph_L_kinds K a e D [.ref e] H Q E := by
  refine inh_L_kinds ?_
  unfold th_L_kinds
  rcases hj with ⟨rfl, rfl⟩ | ⟨rfl, rfl⟩ | ⟨rfl, rfl⟩
  all_goals
    walk_at "go"
    rename_i p1 H1 n1
    first
      | refine kinds_lc (j := 0) n1.at rfl (by decide) fun D2 H4 s4 h4 => ?_
      | refine kinds_lc (j := 1) n1.at rfl (by decide) fun D2 H4 s4 h4 => ?_
      | refine kinds_lc (j := 2) n1.at rfl (by decide) fun D2 H4 s4 h4 => ?_
    walk_at "go"
    refine go_join1 h4 (by decide) (by decide) ?_
    exact q _ (n1.same.trans s4)
omit F in
theorem hx_writes [Fc K a] {D d r : Addr} {R : List (List Int)} {done : Int} {k : Option Nat} (h : DkEx a [] H d r R done k) (q : Q (.int done) H) : sph_Disk_writes K a e D [.ref d] H Q E := by
  refine inh_Disk_writes ?_
  unfold th_Disk_writes
  obtain ⟨ps, h⟩ := h
  obtain ⟨dx, ed⟩ := h.dd
  walk_at "go"
  exact q
end

end Bk

namespace Bk
open PySem L2 PyProof.Rows
/-! our own short tactics: h: what stands at a place; ne: two places; sm: what stood stands; z: a size; s: a step; go: steps -/
local macro_rules | `(tactic| walk_at "h") => `(tactic| first
  | assumption
  | exact New.at (by assumption)
  | exact Wr.at (by assumption)
  | (refine' New.old (by assumption) ?_; walk_at "h")
  | (refine' Same.at (by assumption) ?_; walk_at "h")
  | (refine' Wr.old (by assumption) ?_ ?_; walk_at "ne"; walk_at "h")
  | (refine' Chg.at (by assumption) ?_ ?_; walk_at "ni"; walk_at "h"))
local macro_rules | `(tactic| walk_at "ni") => `(tactic| first
  | exact ni_nil
  | assumption
  | (refine' ni_cons ?_ ?_; walk_at "ne"; walk_at "ni"))
local macro_rules | `(tactic| walk_at "ne") => `(tactic| first
  | assumption
  | exact Ne.symm (by assumption)
  | exact New.ne (by assumption) (by walk_at "h")
  | exact ne_none (by assumption) (by walk_at "h")
  | exact Ne.symm (ne_none (by assumption) (by walk_at "h"))
  | exact Ne.symm (New.ne (by assumption) (by walk_at "h")))
local macro_rules | `(tactic| walk_at "sm") => `(tactic| first
  | exact Same.refl _
  | assumption
  | (refine' Same.trans ?_ (New.same (by assumption)); walk_at "sm")
  | (refine' Same.trans ?_ (by assumption : Same _ _); walk_at "sm"))
local macro_rules | `(tactic| walk_at "z") => `(tactic| first
  | assumption
  | (rw [PySem.sizeLine_eq]; omega)
  | (rw [PySem.sizeLine_eq]; simp only [List.length_cons, List.length_nil, List.length_append, List.length_map, List.length_range, List.length_replicate, len_cut]; omega)
  | (rw [PySem.sizeLine_eq]; simp only [List.length_cons, List.length_nil, List.length_append, List.length_map, List.length_range, List.length_replicate, len_cut] at *; omega))
local macro_rules | `(tactic| walk_at "s") => `(tactic| first
  | ((with_reducible refine' go_var ?h ?_); (case h => exact rfl))
  | (with_reducible refine' go_c ?_)
  | (with_reducible refine' go_op ?_)
  | (with_reducible refine' go_un ?_)
  | (with_reducible refine' go_rU ?_)
  | (with_reducible refine' go_seq ?_)
  | (with_reducible refine' go_ret ?_)
  | (with_reducible refine' go_retN ?_)
  | (with_reducible refine' go_next ?_)
  | (with_reducible refine' go_drop ?_)
  | (with_reducible refine' go_asg ?_)
  | ((with_reducible refine' go_name2 ?h ?_); (case h => (simp only [List.set_cons_zero, List.set_cons_succ]; exact rfl)))
  | ((with_reducible refine' go_name2 ?h ?_); (case h => exact rfl))
  | (with_reducible refine' go_ifS ?_)
  | (with_reducible refine' go_blk ?_)
  | (with_reducible refine' go_test ?_)
  | (with_reducible refine' go_tB ?_)
  | (with_reducible refine' go_and ?_)
  | (with_reducible refine' go_or ?_)
  | (with_reducible refine' go_not ?_)
  | (with_reducible refine' go_andV ?_)
  | (with_reducible refine' go_orV ?_)
  | (with_reducible refine' go_notV ?_)
  | (with_reducible refine' go_if ?_)
  | (with_reducible refine' go_chain ?_)
  | (with_reducible refine' iteT ?_)
  | (with_reducible refine' iteF ?_)
  | ((with_reducible refine' go_Td ?h ?_); (case h => walk_at "pr"))
  | ((with_reducible refine' go_Fd ?h ?_); (case h => walk_at "pr"))
  | ((with_reducible refine' go_Tn ?h ?_); (case h => walk_at "pr"))
  | ((with_reducible refine' go_Fn ?h ?_); (case h => walk_at "pr"))
  | ((with_reducible refine' go_T ?h ?_); (case h => (first | decide | assumption | exact rfl)))
  | ((with_reducible refine' go_F ?h ?_); (case h => (first | decide | assumption | exact rfl)))
  | (with_reducible refine' go_nil ?_)
  | (with_reducible refine' go_cons ?_)
  | (with_reducible refine' go_tLst ?_)
  | (with_reducible refine' go_tTup ?_)
  | ((with_reducible refine' go_LstK ?h ?_); (case h => walk_at "z"); intro p H1 n1)
  | ((with_reducible refine' go_TupK ?h ?_); (case h => walk_at "z"); intro p H1 n1)
  | (with_reducible refine' go_addI ?_)
  | ((with_reducible refine' go_addL ?h ?k ?z ?_); (case h => walk_at "h"); (case k => walk_at "h"); (case z => walk_at "z"); intro p H1 n1)
  | (with_reducible refine' go_sub ?_)
  | ((with_reducible refine' go_mulI ?h ?_); (case h => (unfold CMul; omega)))
  | ((with_reducible refine' go_mulL ?h ?k ?_); (case h => walk_at "h"); (case k => (refine ⟨by omega, by omega, ?_⟩; walk_at "z")); intro p H1 n1)
  | ((with_reducible refine' go_div ?h ?_); (case h => (unfold CDiv; omega)))
  | ((with_reducible refine' go_mod ?h ?_); (case h => omega))
  | (with_reducible refine' go_p109 ?_)
  | (with_reducible refine' go_p1020 ?_)
  | ((with_reducible refine' go_pow ?h ?_); (case h => (unfold CPow; omega)))
  | (with_reducible refine' go_lt ?_)
  | (with_reducible refine' go_le ?_)
  | (with_reducible refine' go_gt ?_)
  | (with_reducible refine' go_ge ?_)
  | (with_reducible refine' go_eqI ?_)
  | (with_reducible refine' go_eqB ?_)
  | (with_reducible refine' go_eqS ?_)
  | (with_reducible refine' go_neI ?_)
  | (with_reducible refine' go_neB ?_)
  | (with_reducible refine' go_neS ?_)
  | (with_reducible refine' go_isN ?_)
  | (with_reducible refine' go_isNotN ?_)
  | (with_reducible refine' go_isB ?_)
  | (with_reducible refine' go_isNotB ?_)
  | (with_reducible refine' go_sl ?_)
  | (with_reducible refine' go_noPart ?_)
  | (with_reducible refine' go_part ?_)
  | (with_reducible refine' go_intK ?_)
  | ((with_reducible refine' go_slL ?h ?_); (case h => walk_at "h"); intro p H1 n1)
  | ((with_reducible refine' go_ixL ?h ?k ?_); (case h => walk_at "h"); (case k => exact rfl))
  | ((with_reducible refine' go_ixT ?h ?k ?_); (case h => walk_at "h"); (case k => exact rfl))
  | ((with_reducible refine' go_slW ?h ?_); (case h => walk_at "h"))
  | (with_reducible refine' go_bm ?_)
  | (with_reducible refine' go_bm0 ?_)
  | ((with_reducible refine' go_bmL ?h ?_); (case h => walk_at "h"))
  | ((with_reducible refine' go_append ?h ?k ?_); (case h => walk_at "h"); (case k => walk_at "z"); intro H1 n1)
  | ((with_reducible refine' go_extend ?h ?k ?z ?_); (case h => walk_at "h"); (case k => walk_at "h"); (case z => walk_at "z"); intro H1 n1)
  | ((with_reducible refine' go_clear ?h ?_); (case h => walk_at "h"); intro H1 n1)
  | ((with_reducible refine' go_dnew ?_); intro p H1 n1)
  | (with_reducible refine' go_cb ?_)
  | (with_reducible refine' go_callS ?_)
  | (with_reducible refine' go_call0 ?_)
  | ((with_reducible refine' go_lenL ?h ?_); (case h => walk_at "h"))
  | ((with_reducible refine' go_lenT ?h ?_); (case h => walk_at "h"))
  | ((with_reducible refine' go_lenK ?h ?_); (case h => walk_at "hk"))
  | ((with_reducible refine' go_listL ?h ?_); (case h => walk_at "h"); intro p H1 n1)
  | ((with_reducible refine' go_listT ?h ?_); (case h => walk_at "h"); intro p H1 n1)
  | ((with_reducible refine' go_tupleL ?h ?_); (case h => walk_at "h"); intro p H1 n1)
  | (with_reducible refine' go_intI ?_)
  | (with_reducible refine' go_intB ?_)
  | (with_reducible refine' go_abs ?_)
  | (with_reducible refine' go_min2 ?_)
  | (with_reducible refine' go_max2 ?_)
  | ((with_reducible refine' go_isi ?h ?k ?_); (case h => walk_at "ty"); (case k => exact kit_bb (by decide) (by decide)))
  | (with_reducible refine' go_lc ?_)
  | (with_reducible refine' go_for ?_)
  | (with_reducible refine' go_seqP ?_)
  | ((with_reducible refine' go_seqL ?h ?_); (case h => walk_at "h"))
  | ((with_reducible refine' go_seqT ?h ?_); (case h => walk_at "h"))
  | (with_reducible refine' go_seqS ?_)
  | (with_reducible refine' go_rng1 ?_)
  | (with_reducible refine' go_rng2 ?_)
  | ((with_reducible refine' go_rng1K ?h ?_); (case h => omega))
  | ((with_reducible refine' go_rng2K ?h ?_); (case h => omega))
  | (with_reducible refine' go_raise ?_)
  | ((with_reducible refine' go_tupG ?h ?k ?_); (case h => walk_at "h"); (case k => exact rfl))
  | ((with_reducible refine' go_lstG ?h ?k ?_); (case h => walk_at "h"); (case k => exact rfl))
  | (with_reducible refine' go_gNil ?_)
  | (with_reducible refine' go_tryAs ?_)
  | (with_reducible refine' go_tryMany1 ?_)
  | (with_reducible refine' go_tryMany2 ?_)
  | (with_reducible refine' go_WM ?_)
  | ((with_reducible refine' go_asT ?_); intro e he)
  | (with_reducible refine' go_asF ?_)
  | ((with_reducible refine' go_manyT ?_); intro e he)
  | (with_reducible refine' go_manyF ?_)
  | (with_reducible refine' go_manyN ?_)
  | (with_reducible refine' go_fld ?_)
  | ((with_reducible refine' go_FldK ?h ?c ?n ?l ?_); (case h => walk_at "h"); (case c => infer_instance); (case n => infer_instance); (case l => exact rfl))
  | (with_reducible refine' go_sfld ?_)
  | ((with_reducible refine' go_SFldK ?h ?c ?n ?l ?e ?_); (case h => walk_at "h"); (case c => infer_instance); (case n => infer_instance); (case l => exact Nat.le_of_ble_eq_true rfl); (case e => walk_at "pf"); intro H1 n1)
  | (with_reducible refine' go_meth ?_)
  | ((with_reducible refine' go_MethK 0 ?h ?l ?e ?_); (case h => walk_at "h"); (case l => exact rfl); (case e => exact rfl))
  | ((with_reducible refine' go_MethK 1 ?h ?l ?e ?_); (case h => walk_at "h"); (case l => exact rfl); (case e => exact rfl))
  | ((with_reducible refine' go_MethK 2 ?h ?l ?e ?_); (case h => walk_at "h"); (case l => exact rfl); (case e => exact rfl))
  | (with_reducible refine' go_make ?_)
  | (with_reducible refine' go_callX ?_)
  | (with_reducible refine' go_methX ?_)
  | ((with_reducible refine' go_MethXK ?h ?l ?_); (case h => walk_at "h"); (case l => exact rfl))
  | (with_reducible refine' go_dget ?_)
  | ((with_reducible refine' go_DGetS ?h ?l ?_); (case h => walk_at "h"); (case l => exact rfl))
  | (with_reducible refine' go_dput ?_)
  | ((with_reducible refine' go_DPutS ?h ?l ?e ?_); (case h => walk_at "h"); (case l => exact Nat.le_of_ble_eq_true rfl); (case e => walk_at "pk"); intro H1 n1)
  | ((with_reducible refine' go_disp ?_); intro p H1 n1)
  | (with_reducible refine' go_pairs ?_)
  | (with_reducible refine' go_pairs0 ?_)
  | ((with_reducible refine' go_DispS ?h ?e ?l ?k ?j ?m ?_); (case h => walk_at "h"); (case e => exact rfl); (case l => exact Nat.le_of_ble_eq_true rfl); (case k => (simp only [unS]; exact rfl)); (case j => (simp only [List.map_cons, List.map_nil]; exact rfl)); (case m => decide +kernel); intro H1 n1)
  | (with_reducible refine' go_par ?_)
  | ((with_reducible refine' go_ParK ?h ?_); (case h => (simp only [List.set_cons_zero, List.set_cons_succ]; exact rfl)))
  | (with_reducible refine' go_sub_ ?_)
  | ((with_reducible refine' go_setLi ?h ?k ?_); (case h => walk_at "h"); (case k => walk_at "ix"); intro H1 n1)
  | (with_reducible refine' go_listY ?_)
  | ((with_reducible refine' go_listYL ?h ?_); (case h => walk_at "h"))
  | (with_reducible refine' go_bmS ?_)
  | (with_reducible refine' go_ckw ?_)
  | ((with_reducible refine' go_maxD ?h ?_); (case h => walk_at "h"))
  | (with_reducible refine' go_listR ?_)
  | (with_reducible refine' go_rg2 ?_)
  | (with_reducible refine' go_Rg2K ?_)
  | (with_reducible refine' go_rg1 ?_)
  | (with_reducible refine' go_Rg1K ?_)
  | ((with_reducible refine' go_ListRK ?h ?_); (case h => omega); intro p H1 n1)
  | (with_reducible refine' go_enum ?_)
  | ((with_reducible refine' go_EnumL ?h ?_); (case h => walk_at "h"))
  | (with_reducible refine' go_isX ?_)
  | (with_reducible refine' go_isXt ?_)
  | (with_reducible refine' go_din ?_)
  | (with_reducible refine' go_dnotin ?_)
  | ((with_reducible refine' go_DInI ?h ?_); (case h => walk_at "h"))
  | ((with_reducible refine' go_DNotInI ?h ?_); (case h => walk_at "h"))
  | (with_reducible refine' go_dget2 ?_)
  | ((with_reducible refine' go_DGet2K ?h ?_); (case h => walk_at "h"))
  | (with_reducible refine' go_dpop1 ?_)
  | ((with_reducible refine' go_eqDE ?h ?k ?_); (case h => walk_at "h"); (case k => walk_at "h"))
  | ((with_reducible refine' go_neDE ?h ?k ?_); (case h => walk_at "h"); (case k => walk_at "h"))
  | (with_reducible refine' go_chain3 ?_)
  | (with_reducible refine' go_LinkT ?_)
  | (with_reducible refine' go_LinkF ?_)
  | (with_reducible refine' go_Link2T ?_)
  | (with_reducible refine' go_Link2F ?_)
  | (with_reducible refine' go_gSl ?_)
  | ((with_reducible refine' go_insert ?h ?k ?l ?m ?_); (case h => walk_at "h"); (case k => walk_at "z"); (case l => omega); (case m => omega); intro H1 n1)
  | (with_reducible refine' go_gCons ?_))
local macro_rules | `(tactic| walk_at "pf") => `(tactic| first
  | exact putF_nil
  | exact putF_hit
  | (refine' putF_miss ?h ?k; (case h => decide +kernel); (case k => walk_at "pf")))
local macro_rules | `(tactic| walk_at "pk") => `(tactic| first
  | exact putK_nil
  | exact putK_hit (by (simp only [List.map_cons, List.map_nil]; decide +kernel))
  | (refine' putK_miss ?h ?k; (case h => decide +kernel); (case k => walk_at "pk")))
local macro_rules | `(tactic| walk_at "ix") => `(tactic| first
  | assumption
  | omega
  | (simp only [List.length_cons, List.length_nil, List.length_append, List.length_map, List.length_range, List.length_replicate, List.length_set] at *; omega))
local macro_rules | `(tactic| walk_at "pr") => `(tactic| first
  | assumption
  | decide
  | omega
  | exact rfl
  | (intro z; cases z; done))
local macro_rules | `(tactic| walk_at "hk") => `(tactic| first
  | assumption
  | exact seq' (by assumption) (by walk_at "sm"))
local macro_rules | `(tactic| walk_at "ty") => `(tactic| first
  | exact rfl
  | assumption
  | exact tyN_L (by walk_at "h")
  | exact tyN_T (by walk_at "h")
  | exact tyN_D (by walk_at "h"))
local macro_rules | `(tactic| walk_at "go") => `(tactic| repeat (walk_at "s"))
/-! ### the law's own rows, beside the batch's -/
theorem two_sorted : ∀ {xs ys : List Int}, xs.Perm ys → xs.Pairwise (· < ·) → ys.Pairwise (· < ·) → xs = ys
  | [], ys, p, _, _ => (List.nil_perm.mp p).symm
  | x :: xs, [], p, _, _ => absurd p (by simp)
  | x :: xs, y :: ys, p, u, v => by
    have u := List.pairwise_cons.mp u
    have v := List.pairwise_cons.mp v
    have e : x = y := by
      rcases List.mem_cons.mp (p.subset List.mem_cons_self) with h | h
      · exact h
      · rcases List.mem_cons.mp (p.symm.subset List.mem_cons_self) with k | k
        · exact k.symm
        · have := u.1 y k; have := v.1 x h; omega
    subst e
    rw [two_sorted (List.Perm.cons_inv p) u.2 v.2]
theorem prs_one {Z : List (List Int)} {p1 p2 : List (Int × List Int)} (p : (p1.map (·.1)).Perm (p2.map (·.1))) (u : p1.Pairwise (fun x y => x.1 < y.1)) (v : p2.Pairwise (fun x y => x.1 < y.1)) (z1 : ∀ x ∈ p1, Z[x.1.toNat]? = some x.2) (z2 : ∀ x ∈ p2, Z[x.1.toNat]? = some x.2) : p1 = p2 := by
  have e := two_sorted p (by rw [List.pairwise_map]; exact u) (by rw [List.pairwise_map]; exact v)
  have l : p1.length = p2.length := by have := congrArg List.length e; simpa using this
  refine List.ext_getElem l fun i h1 h2 => ?_
  have a := z1 p1[i] (List.getElem_mem h1)
  have b := z2 p2[i] (List.getElem_mem h2)
  have c : p1[i].1 = p2[i].1 := by
    have := congrArg (fun l => l[i]?) e
    simp only [List.getElem?_map, List.getElem?_eq_getElem h1, List.getElem?_eq_getElem h2] at this
    simpa using this
  rw [c, b] at a
  exact Prod.ext c (Option.some.inj a).symm
/-- what is compared with -/
structure Prs5 (Z : List (List Int)) (ks : List Int) (prs : List (Int × List Int)) : Prop where
  perm : (prs.map (·.1)).Perm ks
  up : prs.Pairwise (fun p q => p.1 < q.1)
  z : ∀ p ∈ prs, Z[p.1.toNat]? = some p.2
  g : ∀ p ∈ prs, GoodRow p.2
theorem Prs5.one {Z : List (List Int)} {ks : List Int} {p1 p2 : List (Int × List Int)} (h : Prs5 Z ks p1) (k : Prs5 Z ks p2) : p1 = p2 := prs_one (h.perm.trans k.perm.symm) h.up k.up h.z k.z
/-- the batch, its disk, the law's dict of rows -/
structure S5 (a : Ac) (H : Hp) (bt D d r O : Addr) (R Z : List (List Int)) (ks : List Int) (done : Int) : Prop where
  bt_ : BtAt a H bt D d r Z ks done
  dk : DkEx a [] H d r R done none
  ow : ∃ pso, DRows H O pso R Z ∧ pso.map (·.1) = ks
  n : O ∉ [bt, D, d, r]
section
variable {a : Ac} {H H' : Hp} {bt D d r O : Addr} {R Z : List (List Int)} {ks : List Int} {done : Int}
theorem S5.same (h : S5 a H bt D d r O R Z ks done) (s : Same H H') : S5 a H' bt D d r O R Z ks done :=
  ⟨h.bt_.same s, h.dk.same s, let ⟨p, x, y⟩ := h.ow; ⟨p, x.same s, y⟩, h.n⟩
theorem S5.len (h : S5 a H bt D d r O R Z ks done) : Z.length = R.length := by obtain ⟨p, x, _⟩ := h.ow; exact x.len
theorem S5.many (h : S5 a H bt D d r O R Z ks done) : 24 ≤ R.length ∧ R.length ≤ 96 := by rw [← h.len]; exact h.bt_.many
/-- a block that is none of the law's is the disk's -/
theorem S5.miss (h : S5 a H bt D d r O R Z ks done) {i : Nat} (n : (i : Int) ∉ ks) : Z[i]? = R[i]? := by
  obtain ⟨p, x, rfl⟩ := h.ow
  exact x.miss i fun p hp e => n (by rw [← e]; exact List.mem_map_of_mem (f := (·.1)) hp)
theorem S5.chg {S : List Addr} (h : S5 a H bt D d r O R Z ks done) (c : Chg S H H') (n : ∀ b ∈ [bt, D, d, r, O], b ∉ S) (o : ∀ b ∈ S, NotInts H b) : S5 a H' bt D d r O R Z ks done := by
  have nb : ∀ b ∈ [bt, D, d, r], b ∉ S := fun b hb => n b (show b ∈ [bt, D, d, r] ++ [O] from List.mem_append_left _ hb)
  refine ⟨h.bt_.chg c nb o, h.dk.chg c (nb d (by simp)) (nb r (by simp)) o, ?_, h.n⟩
  obtain ⟨p, x, y⟩ := h.ow
  refine ⟨p, ⟨c.at (n O (by simp)) x.dd, x.nd, x.len, fun q hq => ?_, x.miss⟩, y⟩
  obtain ⟨q0, row, e1, e2, e3, e4⟩ := x.hit q hq
  exact ⟨q0, row, e1, c.at (fun z => o q0 z row (by intro y; rw [y] at e3; cases e3) e2) e2, e3, e4⟩
end
section
variable {K : PySem.W.Frag} {a : Ac} {H H' : Hp} {Q : VK} {E : XK} {bt D d r O : Addr} {R Z : List (List Int)} {ks : List Int} {done : Int}
/-- own.get(b, what the disk tells) -/
theorem due_at {pso : List (Int × V)} {b : Int} {p : Addr} {row row' : List Int} (h : DRows H O pso R Z) (b0 : 0 ≤ b) (hz : Z[b.toNat]? = some row) (hr : R[b.toNat]? = some row') (hp : H p = some (.lst (row'.map V.int))) :
    ∃ x, (valV (dI pso) (.inl b)).getD (.ref p) = .ref x ∧ H x = some (.lst (row.map V.int)) := by
  by_cases c : ∃ y ∈ pso, y.1 = b
  · obtain ⟨y, hy, rfl⟩ := c
    obtain ⟨q0, row2, e1, e2, _, _, _, _, e3⟩ := h.hit y hy
    rw [hz] at e3; cases e3
    exact ⟨q0, by rw [valV_dI h.nd (show (y.1, V.ref q0) ∈ pso by rw [← e1]; exact hy)]; rfl, e2⟩
  · rw [valV_none fun y hy e => c ⟨y, hy, e⟩]
    have := h.miss b.toNat fun y hy e => c ⟨y, hy, by omega⟩
    rw [hz, hr] at this
    cases this
    exact ⟨p, rfl, hp⟩
theorem go_due {pso : List (Int × V)} {b : Int} {p : Addr} {row row' : List Int} (h : DRows H O pso R Z) (b0 : 0 ≤ b) (hz : Z[b.toNat]? = some row) (hr : R[b.toNat]? = some row') (hp : H p = some (.lst (row'.map V.int)))
    (q : ∀ x, H x = some (.lst (row.map V.int)) → Q (.ref x) H) : DGet2E O Q (.int b) (.ref p) H := go_DGet2E h.dd (by
  obtain ⟨x, e1, e2⟩ := due_at h b0 hz hr hp
  rw [e1]; exact q x e2)
/-- the law's rows, rising by their blocks -/
theorem lc_own {sl : Addr} {pso : List (Int × V)} {ys : List Int} {m j : Nat} {σ : Bk.St} (h : DRows H O pso R Z) (few : pso.length < 64) (hp : ys.Perm (pso.map (·.1))) (hs : ys.Pairwise (· ≤ ·)) (hsl : H sl = some (.lst (ys.map V.int)))
    (hσ : σ[j]? = some (some (.ref O))) (hm : m < σ.length) (hm2 : m ≠ j)
    (q : ∀ P ts qs prs H', Same H H' → H P = none → PrsAt H' P ts qs prs → Prs5 Z (pso.map (·.1)) prs → Q (.ref P) H') :
    LcK (gName m) tYes (tTup (tCons (tVar m) (tCons (tDGet (tVar j) (tVar m)) (tNil)))) [m] σ Q (Itl K sl) H := by
  have hlen : ys.length < 64 := by rw [hp.length_eq, List.length_map]; exact few
  have ex : ∀ y ∈ ys, ∃ x : Addr × List Int, (y, V.ref x.1) ∈ pso ∧ H x.1 = some (.lst (x.2.map V.int)) ∧ GoodRow x.2 ∧ Z[y.toNat]? = some x.2 := fun y hy => by
    obtain ⟨p, hp2, rfl⟩ := List.mem_map.mp (hp.subset hy)
    obtain ⟨q', row', e1, e2, e3, e4, _, _, e7⟩ := h.hit p hp2
    refine ⟨(q', row'), ?_, e2, ⟨e3, e4⟩, e7⟩
    show (p.1, V.ref q') ∈ pso
    rw [← e1]; exact hp2
  obtain ⟨f, hf⟩ := skol (0, []) ex
  have up := rising hs ((hp.nodup_iff).mpr h.nd)
  refine lc_prsL (prs := ys.map fun y => (y, (f y).2)) hsl (by simp) (by simp; omega) (fun i x b row H' Q' hx hpr s q' => ?_) (fun D2 ts qs H2 hD s2 hP ht => q D2 ts qs _ H2 s2 hD hP ⟨?_, ?_, fun p hp => ?_, fun p hp => ?_⟩)
  · rw [List.getElem?_map] at hpr hx
    cases e : ys[i]? with
    | none => rw [e] at hx; cases hx
    | some y =>
      rw [e] at hx hpr
      obtain rfl : V.int y = x := Option.some.inj hx
      obtain ⟨rfl, rfl⟩ : y = b ∧ (f y).2 = row := by simpa using hpr
      obtain ⟨g1, g2, g3, g4⟩ := hf y (List.mem_of_getElem? e)
      have s2 : ((σ.set m none).set m (some (.int y)))[j]? = some (some (.ref O)) := by
        rw [List.getElem?_set_ne hm2, List.getElem?_set_ne hm2]; exact hσ
      have sm : ((σ.set m none).set m (some (.int y)))[m]? = some (some (.int y)) := List.getElem?_set_self (by simpa using hm)
      have hd := (h.same s).dd
      refine go_tTup (go_cons (go_var sm ?_))
      refine go_cons (go_dget (go_var s2 (go_var sm (go_DGetI hd (valV_dI h.nd g1) ?_))))
      walk_at "go"
      rename_i T H4 n4
      exact q' T (f y).1 H4 n4.same n4.free n4.at (.inl ⟨_, g2⟩) (n4.old (s _ _ g2))
  · rw [List.map_map]
    have : ys.map ((fun p => p.1) ∘ fun y => (y, (f y).2)) = ys := by
      rw [show ((fun p : Int × List Int => p.1) ∘ fun y => (y, (f y).2)) = id from rfl, List.map_id]
    rw [this]; exact hp
  · rw [List.pairwise_map]
    exact up
  · obtain ⟨y, hy, rfl⟩ := List.mem_map.mp hp
    exact (hf y hy).2.2.2
  · obtain ⟨y, hy, rfl⟩ := List.mem_map.mp hp
    exact (hf y hy).2.2.1
theorem prs_ne {P P2 : Addr} {ts qs ts2 qs2 : List Addr} {prs : List (Int × List Int)} (h : PrsAt H P ts qs prs) (k : PrsAt H P2 ts2 qs2 prs) (q : Q (.bl false) H) : rNeP K (.ref P) (.ref P2) H Q := go_neSame h.dp k.dp (shaped_prs prs) q
theorem prs_eq {P P2 : Addr} {ts qs ts2 qs2 : List Addr} {prs : List (Int × List Int)} (h : PrsAt H P ts qs prs) (k : PrsAt H P2 ts2 qs2 prs) (q : Q (.bl true) H) : rEqP K (.ref P) (.ref P2) H Q := go_eqSame h.dp k.dp (shaped_prs prs) q
end
section
variable {K : PySem.W.Frag} {a : Ac} {H H' : Hp} {Q : VK} {E : XK} [F : Fc K a] {bt D d r O e : Addr} {R Z : List (List Int)} {ks : List Int} {done : Int}
/-- the batch's pairs, an exception in hand -/
theorem hx_pairs {D' : Addr} (h : BtAt a H bt D d r Z ks done) (few : ks.length < 64) (q : ∀ P ts qs prs H', Same H H' → PrsAt H' P ts qs prs → Prs5 Z ks prs → Q (.ref P) H') : sph_Batch_pairs K a e D' [.ref bt] H Q E := by
  refine inh_Batch_pairs ?_
  unfold th_Batch_pairs
  obtain ⟨R, psl, h1, h2, rfl⟩ := h.ex
  obtain ⟨dx, e⟩ := h.ob
  walk_at "go"
  refine go_sortH (ks := psl.map (·.1)) h2.dd (keys_dI _) few fun ys sl H1 hp hs n1 => ?_
  have ex : ∀ y ∈ ys, ∃ x : Addr × List Int, (y, V.ref x.1) ∈ psl ∧ H x.1 = some (.lst (x.2.map V.int)) ∧ GoodRow x.2 ∧ Z[y.toNat]? = some x.2 := fun y hy => by
    obtain ⟨p, hp2, rfl⟩ := List.mem_map.mp (hp.subset hy)
    obtain ⟨q', row', e1, e2, e3, e4, e5, e6, e7⟩ := h2.hit p hp2
    refine ⟨(q', row'), ?_, e2, ⟨e3, e4⟩, e7⟩
    show (p.1, V.ref q') ∈ psl
    rw [← e1]; exact hp2
  obtain ⟨f, hf⟩ := skol (0, []) ex
  have up := rising hs ((hp.nodup_iff).mpr h2.nd)
  have hl : ys.length < 64 := by rw [hp.length_eq]; exact few
  have e1 := n1.old e
  have d1 := n1.old h2.dd
  walk_at "go"
  refine lc_prsN (prs := ys.map fun y => (y, (f y).2)) n1.at (by simp) (by simp; omega) (fun i x b row H' Q' hx hpr s q' => ?_) (fun P ts qs H2 hP s2 hA hts hqs => ?_)
  · rw [List.getElem?_map] at hpr hx
    cases e9 : ys[i]? with
    | none => rw [e9] at hx; cases hx
    | some y =>
      rw [e9] at hx hpr
      obtain rfl : V.int y = x := Option.some.inj hx
      obtain ⟨rfl, rfl⟩ : y = b ∧ (f y).2 = row := by simpa using hpr
      obtain ⟨g1, g2, g3, g4⟩ := hf y (List.mem_of_getElem? e9)
      have es := s _ _ e1
      have ds := s _ _ d1
      have gs := s _ _ (n1.old g2)
      simp only [List.set_cons_zero, List.set_cons_succ]
      walk_at "go"
      refine go_DGetI ds (valV_dI h2.nd g1) ?_
      walk_at "go"
      rename_i p3 H3 n3 p4 H4 n4
      exact q' p4 p3 H4 (n3.same.trans n4.same) (n3.same.free n4.free) n4.at n3.free (n4.old n3.at)
  · refine q P ts qs _ H2 (n1.same.trans s2) hA ⟨?_, ?_, fun p hp' => ?_, fun p hp' => ?_⟩
    · rw [List.map_map]
      have : ys.map ((fun p => p.1) ∘ fun y => (y, (f y).2)) = ys := by
        rw [show ((fun p : Int × List Int => p.1) ∘ fun y => (y, (f y).2)) = id from rfl, List.map_id]
      rw [this]; exact hp
    · rw [List.pairwise_map]; exact up
    · obtain ⟨y, hy, rfl⟩ := List.mem_map.mp hp'
      exact (hf y hy).2.2.2
    · obtain ⟨y, hy, rfl⟩ := List.mem_map.mp hp'
      exact (hf y hy).2.2.1
theorem p_pairs5 (h : BtAt a H bt D d r Z ks done) (few : ks.length < 64) (q : ∀ P ts qs prs H', Same H H' → H P = none → PrsAt H' P ts qs prs → Prs5 Z ks prs → (∀ t ∈ ts, H t = none) → (∀ t ∈ qs, H t = none) → Q (.ref P) H') : sp_Batch_pairs K a [.ref bt] H Q E :=
  p_bpairs h few fun P ts qs prs H' s Pn hA hp up hz ht hq => q P ts qs prs H' s Pn hA ⟨hp, up, fun p hp => (hz p hp).2.2.2, fun p hp => (hz p hp).2.2.1⟩ ht hq
end

end Bk

namespace Bk
open PySem L2 PyProof.Rows
/-! our own short tactics: h: what stands at a place; ne: two places; sm: what stood stands; z: a size; s: a step; go: steps -/
local macro_rules | `(tactic| walk_at "h") => `(tactic| first
  | assumption
  | exact New.at (by assumption)
  | exact Wr.at (by assumption)
  | (refine' New.old (by assumption) ?_; walk_at "h")
  | (refine' Same.at (by assumption) ?_; walk_at "h")
  | (refine' Wr.old (by assumption) ?_ ?_; walk_at "ne"; walk_at "h")
  | (refine' Chg.at (by assumption) ?_ ?_; walk_at "ni"; walk_at "h"))
local macro_rules | `(tactic| walk_at "ni") => `(tactic| first
  | exact ni_nil
  | assumption
  | (refine' ni_cons ?_ ?_; walk_at "ne"; walk_at "ni"))
local macro_rules | `(tactic| walk_at "ne") => `(tactic| first
  | assumption
  | exact Ne.symm (by assumption)
  | exact New.ne (by assumption) (by walk_at "h")
  | exact ne_none (by assumption) (by walk_at "h")
  | exact Ne.symm (ne_none (by assumption) (by walk_at "h"))
  | exact Ne.symm (New.ne (by assumption) (by walk_at "h")))
local macro_rules | `(tactic| walk_at "sm") => `(tactic| first
  | exact Same.refl _
  | assumption
  | (refine' Same.trans ?_ (New.same (by assumption)); walk_at "sm")
  | (refine' Same.trans ?_ (by assumption : Same _ _); walk_at "sm"))
local macro_rules | `(tactic| walk_at "z") => `(tactic| first
  | assumption
  | (rw [PySem.sizeLine_eq]; omega)
  | (rw [PySem.sizeLine_eq]; simp only [List.length_cons, List.length_nil, List.length_append, List.length_map, List.length_range, List.length_replicate, len_cut]; omega)
  | (rw [PySem.sizeLine_eq]; simp only [List.length_cons, List.length_nil, List.length_append, List.length_map, List.length_range, List.length_replicate, len_cut] at *; omega))
local macro_rules | `(tactic| walk_at "s") => `(tactic| first
  | ((with_reducible refine' go_var ?h ?_); (case h => exact rfl))
  | (with_reducible refine' go_c ?_)
  | (with_reducible refine' go_op ?_)
  | (with_reducible refine' go_un ?_)
  | (with_reducible refine' go_rU ?_)
  | (with_reducible refine' go_seq ?_)
  | (with_reducible refine' go_ret ?_)
  | (with_reducible refine' go_retN ?_)
  | (with_reducible refine' go_next ?_)
  | (with_reducible refine' go_drop ?_)
  | (with_reducible refine' go_asg ?_)
  | ((with_reducible refine' go_name2 ?h ?_); (case h => (simp only [List.set_cons_zero, List.set_cons_succ]; exact rfl)))
  | ((with_reducible refine' go_name2 ?h ?_); (case h => exact rfl))
  | (with_reducible refine' go_ifS ?_)
  | (with_reducible refine' go_blk ?_)
  | (with_reducible refine' go_test ?_)
  | (with_reducible refine' go_tB ?_)
  | (with_reducible refine' go_and ?_)
  | (with_reducible refine' go_or ?_)
  | (with_reducible refine' go_not ?_)
  | (with_reducible refine' go_andV ?_)
  | (with_reducible refine' go_orV ?_)
  | (with_reducible refine' go_notV ?_)
  | (with_reducible refine' go_if ?_)
  | (with_reducible refine' go_chain ?_)
  | (with_reducible refine' iteT ?_)
  | (with_reducible refine' iteF ?_)
  | ((with_reducible refine' go_Td ?h ?_); (case h => walk_at "pr"))
  | ((with_reducible refine' go_Fd ?h ?_); (case h => walk_at "pr"))
  | ((with_reducible refine' go_Tn ?h ?_); (case h => walk_at "pr"))
  | ((with_reducible refine' go_Fn ?h ?_); (case h => walk_at "pr"))
  | ((with_reducible refine' go_T ?h ?_); (case h => (first | decide | assumption | exact rfl)))
  | ((with_reducible refine' go_F ?h ?_); (case h => (first | decide | assumption | exact rfl)))
  | (with_reducible refine' go_nil ?_)
  | (with_reducible refine' go_cons ?_)
  | (with_reducible refine' go_tLst ?_)
  | (with_reducible refine' go_tTup ?_)
  | ((with_reducible refine' go_LstK ?h ?_); (case h => walk_at "z"); intro p H1 n1)
  | ((with_reducible refine' go_TupK ?h ?_); (case h => walk_at "z"); intro p H1 n1)
  | (with_reducible refine' go_addI ?_)
  | ((with_reducible refine' go_addL ?h ?k ?z ?_); (case h => walk_at "h"); (case k => walk_at "h"); (case z => walk_at "z"); intro p H1 n1)
  | (with_reducible refine' go_sub ?_)
  | ((with_reducible refine' go_mulI ?h ?_); (case h => (unfold CMul; omega)))
  | ((with_reducible refine' go_mulL ?h ?k ?_); (case h => walk_at "h"); (case k => (refine ⟨by omega, by omega, ?_⟩; walk_at "z")); intro p H1 n1)
  | ((with_reducible refine' go_div ?h ?_); (case h => (unfold CDiv; omega)))
  | ((with_reducible refine' go_mod ?h ?_); (case h => omega))
  | (with_reducible refine' go_p109 ?_)
  | (with_reducible refine' go_p1020 ?_)
  | ((with_reducible refine' go_pow ?h ?_); (case h => (unfold CPow; omega)))
  | (with_reducible refine' go_lt ?_)
  | (with_reducible refine' go_le ?_)
  | (with_reducible refine' go_gt ?_)
  | (with_reducible refine' go_ge ?_)
  | (with_reducible refine' go_eqI ?_)
  | (with_reducible refine' go_eqB ?_)
  | (with_reducible refine' go_eqS ?_)
  | (with_reducible refine' go_neI ?_)
  | (with_reducible refine' go_neB ?_)
  | (with_reducible refine' go_neS ?_)
  | (with_reducible refine' go_isN ?_)
  | (with_reducible refine' go_isNotN ?_)
  | (with_reducible refine' go_isB ?_)
  | (with_reducible refine' go_isNotB ?_)
  | (with_reducible refine' go_sl ?_)
  | (with_reducible refine' go_noPart ?_)
  | (with_reducible refine' go_part ?_)
  | (with_reducible refine' go_intK ?_)
  | ((with_reducible refine' go_slL ?h ?_); (case h => walk_at "h"); intro p H1 n1)
  | ((with_reducible refine' go_ixL ?h ?k ?_); (case h => walk_at "h"); (case k => exact rfl))
  | ((with_reducible refine' go_ixT ?h ?k ?_); (case h => walk_at "h"); (case k => exact rfl))
  | ((with_reducible refine' go_slW ?h ?_); (case h => walk_at "h"))
  | (with_reducible refine' go_bm ?_)
  | (with_reducible refine' go_bm0 ?_)
  | ((with_reducible refine' go_bmL ?h ?_); (case h => walk_at "h"))
  | ((with_reducible refine' go_append ?h ?k ?_); (case h => walk_at "h"); (case k => walk_at "z"); intro H1 n1)
  | ((with_reducible refine' go_extend ?h ?k ?z ?_); (case h => walk_at "h"); (case k => walk_at "h"); (case z => walk_at "z"); intro H1 n1)
  | ((with_reducible refine' go_clear ?h ?_); (case h => walk_at "h"); intro H1 n1)
  | ((with_reducible refine' go_dnew ?_); intro p H1 n1)
  | (with_reducible refine' go_cb ?_)
  | (with_reducible refine' go_callS ?_)
  | (with_reducible refine' go_call0 ?_)
  | ((with_reducible refine' go_lenL ?h ?_); (case h => walk_at "h"))
  | ((with_reducible refine' go_lenT ?h ?_); (case h => walk_at "h"))
  | ((with_reducible refine' go_lenK ?h ?_); (case h => walk_at "hk"))
  | ((with_reducible refine' go_listL ?h ?_); (case h => walk_at "h"); intro p H1 n1)
  | ((with_reducible refine' go_listT ?h ?_); (case h => walk_at "h"); intro p H1 n1)
  | ((with_reducible refine' go_tupleL ?h ?_); (case h => walk_at "h"); intro p H1 n1)
  | (with_reducible refine' go_intI ?_)
  | (with_reducible refine' go_intB ?_)
  | (with_reducible refine' go_abs ?_)
  | (with_reducible refine' go_min2 ?_)
  | (with_reducible refine' go_max2 ?_)
  | ((with_reducible refine' go_isi ?h ?k ?_); (case h => walk_at "ty"); (case k => exact kit_bb (by decide) (by decide)))
  | (with_reducible refine' go_lc ?_)
  | (with_reducible refine' go_for ?_)
  | (with_reducible refine' go_seqP ?_)
  | ((with_reducible refine' go_seqL ?h ?_); (case h => walk_at "h"))
  | ((with_reducible refine' go_seqT ?h ?_); (case h => walk_at "h"))
  | (with_reducible refine' go_seqS ?_)
  | (with_reducible refine' go_rng1 ?_)
  | (with_reducible refine' go_rng2 ?_)
  | ((with_reducible refine' go_rng1K ?h ?_); (case h => omega))
  | ((with_reducible refine' go_rng2K ?h ?_); (case h => omega))
  | (with_reducible refine' go_raise ?_)
  | ((with_reducible refine' go_tupG ?h ?k ?_); (case h => walk_at "h"); (case k => exact rfl))
  | ((with_reducible refine' go_lstG ?h ?k ?_); (case h => walk_at "h"); (case k => exact rfl))
  | (with_reducible refine' go_gNil ?_)
  | (with_reducible refine' go_tryAs ?_)
  | (with_reducible refine' go_tryMany1 ?_)
  | (with_reducible refine' go_tryMany2 ?_)
  | (with_reducible refine' go_WM ?_)
  | ((with_reducible refine' go_asT ?_); intro e he)
  | (with_reducible refine' go_asF ?_)
  | ((with_reducible refine' go_manyT ?_); intro e he)
  | (with_reducible refine' go_manyF ?_)
  | (with_reducible refine' go_manyN ?_)
  | (with_reducible refine' go_fld ?_)
  | ((with_reducible refine' go_FldK ?h ?c ?n ?l ?_); (case h => walk_at "h"); (case c => infer_instance); (case n => infer_instance); (case l => exact rfl))
  | (with_reducible refine' go_sfld ?_)
  | ((with_reducible refine' go_SFldK ?h ?c ?n ?l ?e ?_); (case h => walk_at "h"); (case c => infer_instance); (case n => infer_instance); (case l => exact Nat.le_of_ble_eq_true rfl); (case e => walk_at "pf"); intro H1 n1)
  | (with_reducible refine' go_meth ?_)
  | ((with_reducible refine' go_MethK 0 ?h ?l ?e ?_); (case h => walk_at "h"); (case l => exact rfl); (case e => exact rfl))
  | ((with_reducible refine' go_MethK 1 ?h ?l ?e ?_); (case h => walk_at "h"); (case l => exact rfl); (case e => exact rfl))
  | ((with_reducible refine' go_MethK 2 ?h ?l ?e ?_); (case h => walk_at "h"); (case l => exact rfl); (case e => exact rfl))
  | (with_reducible refine' go_make ?_)
  | (with_reducible refine' go_callX ?_)
  | (with_reducible refine' go_methX ?_)
  | ((with_reducible refine' go_MethXK ?h ?l ?_); (case h => walk_at "h"); (case l => exact rfl))
  | (with_reducible refine' go_dget ?_)
  | ((with_reducible refine' go_DGetS ?h ?l ?_); (case h => walk_at "h"); (case l => exact rfl))
  | (with_reducible refine' go_dput ?_)
  | ((with_reducible refine' go_DPutS ?h ?l ?e ?_); (case h => walk_at "h"); (case l => exact Nat.le_of_ble_eq_true rfl); (case e => walk_at "pk"); intro H1 n1)
  | ((with_reducible refine' go_disp ?_); intro p H1 n1)
  | (with_reducible refine' go_pairs ?_)
  | (with_reducible refine' go_pairs0 ?_)
  | ((with_reducible refine' go_DispS ?h ?e ?l ?k ?j ?m ?_); (case h => walk_at "h"); (case e => exact rfl); (case l => exact Nat.le_of_ble_eq_true rfl); (case k => (simp only [unS]; exact rfl)); (case j => (simp only [List.map_cons, List.map_nil]; exact rfl)); (case m => decide +kernel); intro H1 n1)
  | (with_reducible refine' go_par ?_)
  | ((with_reducible refine' go_ParK ?h ?_); (case h => (simp only [List.set_cons_zero, List.set_cons_succ]; exact rfl)))
  | (with_reducible refine' go_sub_ ?_)
  | ((with_reducible refine' go_setLi ?h ?k ?_); (case h => walk_at "h"); (case k => walk_at "ix"); intro H1 n1)
  | (with_reducible refine' go_listY ?_)
  | ((with_reducible refine' go_listYL ?h ?_); (case h => walk_at "h"))
  | (with_reducible refine' go_bmS ?_)
  | (with_reducible refine' go_ckw ?_)
  | ((with_reducible refine' go_maxD ?h ?_); (case h => walk_at "h"))
  | (with_reducible refine' go_listR ?_)
  | (with_reducible refine' go_rg2 ?_)
  | (with_reducible refine' go_Rg2K ?_)
  | (with_reducible refine' go_rg1 ?_)
  | (with_reducible refine' go_Rg1K ?_)
  | ((with_reducible refine' go_ListRK ?h ?_); (case h => omega); intro p H1 n1)
  | (with_reducible refine' go_enum ?_)
  | ((with_reducible refine' go_EnumL ?h ?_); (case h => walk_at "h"))
  | (with_reducible refine' go_isX ?_)
  | (with_reducible refine' go_isXt ?_)
  | (with_reducible refine' go_din ?_)
  | (with_reducible refine' go_dnotin ?_)
  | ((with_reducible refine' go_DInI ?h ?_); (case h => walk_at "h"))
  | ((with_reducible refine' go_DNotInI ?h ?_); (case h => walk_at "h"))
  | (with_reducible refine' go_dget2 ?_)
  | ((with_reducible refine' go_DGet2K ?h ?_); (case h => walk_at "h"))
  | (with_reducible refine' go_dpop1 ?_)
  | ((with_reducible refine' go_eqDE ?h ?k ?_); (case h => walk_at "h"); (case k => walk_at "h"))
  | ((with_reducible refine' go_neDE ?h ?k ?_); (case h => walk_at "h"); (case k => walk_at "h"))
  | (with_reducible refine' go_chain3 ?_)
  | (with_reducible refine' go_LinkT ?_)
  | (with_reducible refine' go_LinkF ?_)
  | (with_reducible refine' go_Link2T ?_)
  | (with_reducible refine' go_Link2F ?_)
  | (with_reducible refine' go_gSl ?_)
  | ((with_reducible refine' go_insert ?h ?k ?l ?m ?_); (case h => walk_at "h"); (case k => walk_at "z"); (case l => omega); (case m => omega); intro H1 n1)
  | (with_reducible refine' go_gCons ?_))
local macro_rules | `(tactic| walk_at "pf") => `(tactic| first
  | exact putF_nil
  | exact putF_hit
  | (refine' putF_miss ?h ?k; (case h => decide +kernel); (case k => walk_at "pf")))
local macro_rules | `(tactic| walk_at "pk") => `(tactic| first
  | exact putK_nil
  | exact putK_hit (by (simp only [List.map_cons, List.map_nil]; decide +kernel))
  | (refine' putK_miss ?h ?k; (case h => decide +kernel); (case k => walk_at "pk")))
local macro_rules | `(tactic| walk_at "ix") => `(tactic| first
  | assumption
  | omega
  | (simp only [List.length_cons, List.length_nil, List.length_append, List.length_map, List.length_range, List.length_replicate, List.length_set] at *; omega))
local macro_rules | `(tactic| walk_at "pr") => `(tactic| first
  | assumption
  | decide
  | omega
  | exact rfl
  | (intro z; cases z; done))
local macro_rules | `(tactic| walk_at "hk") => `(tactic| first
  | assumption
  | exact seq' (by assumption) (by walk_at "sm"))
local macro_rules | `(tactic| walk_at "ty") => `(tactic| first
  | exact rfl
  | assumption
  | exact tyN_L (by walk_at "h")
  | exact tyN_T (by walk_at "h")
  | exact tyN_D (by walk_at "h"))
local macro_rules | `(tactic| walk_at "go") => `(tactic| repeat (walk_at "s"))
/-! ### the batch is as the law's own rows -/
section
variable {K : PySem.W.Frag} {a : Ac} {H H' : Hp} {Q : VK} {E : XK} [F : Fc K a] {bt D d r O : Addr} {R Z : List (List Int)} {ks : List Int} {done : Int}
theorem p_like {b : Int} (h : S5 a H bt D d r O R Z ks done) (few : ks.length < 64) (b1 : 17 ≤ b) (b2 : b < Z.length) (q : ∀ H', Same H H' → Q (.bl true) H') : sp_L_like K a [.ref bt, .ref d, .ref O, .int b] H Q E := by
  refine in_L_like ?_
  unfold t_L_like
  obtain ⟨pso, ow, rfl⟩ := h.ow
  rw [List.length_map] at few
  have ll := h.len
  have hm := h.many
  obtain ⟨row, hz⟩ : ∃ row, Z[b.toNat]? = some row := ⟨_, List.getElem?_eq_getElem (by omega)⟩
  obtain ⟨rd, hrd⟩ : ∃ row, R[b.toNat]? = some row := ⟨_, List.getElem?_eq_getElem (by omega)⟩
  obtain ⟨row17, hz17⟩ : ∃ row, Z[(17 : Int).toNat]? = some row := ⟨_, List.getElem?_eq_getElem (by omega)⟩
  obtain ⟨rd17, hrd17⟩ : ∃ row, R[(17 : Int).toNat]? = some row := ⟨_, List.getElem?_eq_getElem (by omega)⟩
  have oo := ow.dd
  walk_at "go"
  refine go_sortQ (ks := pso.map (·.1)) oo (keys_dI _) (by rw [List.length_map]; exact few) fun ys sl H1 hp hs n1 => ?_
  walk_at "go"
  refine lc_own (ow.same n1.same) few hp hs n1.at rfl (by simp) (by decide) fun P1 t1 q1 prs H2 s2 P1n hP1 g1 => ?_
  have h2 := (h.same n1.same).same s2
  walk_at "go"
  refine go_methB h2.bt_ (fun _ _ => rfl) ?_
  walk_at "go"
  refine p_pairs5 h2.bt_ (by rw [List.length_map]; exact few) fun P2 t2 q2 prs2 H3 s3 P2n hP2 g2 t2n q2n => ?_
  obtain rfl := g1.one g2
  have h3 := h2.same s3
  have hP13 := hP1.same s3
  have rr2 := hP2.rr
  walk_at "go"
  refine prs_ne hP2 hP13 ?_
  walk_at "go"
  have lP : t2.length < 1000 := by
    have a1 := hP2.lt
    have a2 := g2.perm.length_eq
    simp only [List.length_map] at a2
    omega
  refine lc_L (f := id) (p := fun _ => false) rr2 (by rw [sizeLine_eq, List.length_map]; omega) (fun i x H' QB hx s k => ?_) (fun i x H' Q' hx hpp s k => by cases hpp) (fun D4 H4 hD4 s4 e4 => ?_)
  · have hi : i < t2.length := by have := (List.getElem?_eq_some_iff.mp hx).1; rwa [List.length_map] at this
    obtain ⟨⟨b9, row9⟩, h9⟩ : ∃ p, prs[i]? = some p := ⟨_, List.getElem?_eq_getElem (by rw [← hP2.lt]; exact hi)⟩
    obtain ⟨t, q9, e1, e2, e3, e5⟩ := hP2.at_ i b9 row9 h9
    rw [List.getElem?_map, e1] at hx
    obtain rfl := Option.some.inj hx
    have e3 := s _ _ e3
    simp only [List.set_cons_zero, List.set_cons_succ]
    walk_at "go"
    exact k H' (Same.refl _)
  have e4' : H4 D4 = some (.lst (([] : List Int).map V.int)) := by
    rw [e4, List.filter_eq_nil_iff.mpr fun z _ => by simp]; rfl
  have h4 := h3.same s4
  walk_at "go"
  rename_i p5 H5 n5
  refine go_neIs (ns := []) (ms := []) (n5.old e4') n5.at ?_
  have h5 := h4.same n5.same
  walk_at "go"
  refine go_methB h5.bt_ (fun _ _ => rfl) ?_
  walk_at "go"
  refine p_bread h5.bt_ (by omega) hz fun p6 H6 s6 p6n h66 => ?_
  have h6 := h5.same s6
  have s06 : Same H H6 := ((((n1.same.trans s2).trans s3).trans s4).trans n5.same).trans s6
  have oo6 := s06 _ _ oo
  have ow6 := ow.same s06
  walk_at "go"
  refine go_methD h6.dk (fun _ _ _ => rfl) ?_
  walk_at "go"
  refine p_readE h6.dk (by omega) hrd fun p7 H7 s7 _ h77 => ?_
  have oo7 := s7 _ _ oo6
  walk_at "go"
  refine go_due (ow6.same s7) (by omega) hz hrd h77 fun x7 e7 => ?_
  refine go_neIs (s7 _ _ h66) e7 ?_
  rw [decide_eq_true rfl]
  have h7 := h6.same s7
  have h67 := s7 _ _ h66
  walk_at "go"
  refine go_methB h7.bt_ (fun _ _ => rfl) ?_
  walk_at "go"
  refine p_bread h7.bt_ (by omega) hz17 fun p8 H8 s8 _ h88 => ?_
  have h8 := h7.same s8
  have oo8 := s8 _ _ oo7
  have h68 := s8 _ _ h67
  have ow8 := (ow6.same s7).same s8
  walk_at "go"
  refine go_methD h8.dk (fun _ _ _ => rfl) ?_
  walk_at "go"
  refine p_readE h8.dk (by omega) hrd17 fun p9 H9 s9 _ h99 => ?_
  have oo9 := s9 _ _ oo8
  walk_at "go"
  refine go_due (ow8.same s9) (by omega) hz17 hrd17 h99 fun x9 e9 => ?_
  refine go_neIs (s9 _ _ h88) e9 ?_
  rw [decide_eq_true rfl]
  have h9 := h8.same s9
  have h69 := s9 _ _ h68
  walk_at "go"
  refine go_methD h9.dk (fun _ _ _ => rfl) ?_
  walk_at "go"
  refine p_readE h9.dk (by omega) hrd fun p10 H10 s10 _ h1010 => ?_
  have oo10 := s10 _ _ oo9
  walk_at "go"
  refine go_due ((ow8.same s9).same s10) (by omega) hz hrd h1010 fun x10 e10 => ?_
  have h610 := s10 _ _ h69
  refine go_neIs h610 e10 ?_
  rw [decide_eq_true rfl]
  have h10 := h9.same s10
  walk_at "go"
  rename_i H11 w11
  have s210 : Same H2 H10 := ((((((s3.trans s4).trans n5.same).trans s6).trans s7).trans s8).trans s9).trans s10
  have s310 : Same H3 H10 := (((((s4.trans n5.same).trans s6).trans s7).trans s8).trans s9).trans s10
  have p6n2 : H2 p6 = none := ((s3.trans s4).trans n5.same).free p6n
  have p6n3 : H3 p6 = none := (s4.trans n5.same).free p6n
  have c11 : Chg [p6] H10 H11 := .wr w11 (by simp)
  have s211 : Same H2 H11 := Same.chg s210 c11 (by simpa using p6n2)
  have s311 : Same H3 H11 := Same.chg s310 c11 (by simpa using p6n3)
  have rr11 := s311 _ _ rr2
  have q2free : P2 ∉ q2 := fun z => by
    obtain ⟨i, hi⟩ := List.mem_iff_getElem?.mp z
    have il : i < prs.length := by have := (List.getElem?_eq_some_iff.mp hi).1; rw [hP2.lq] at this; exact this
    obtain ⟨t, q9, e1, e2, e3, e5⟩ := hP2.at_ i prs[i].1 prs[i].2 (List.getElem?_eq_getElem il)
    rw [hi] at e2
    obtain rfl := Option.some.inj e2
    have gg := (g2.g prs[i] (List.getElem_mem il)).1
    exact NotInts.refs rr2 _ (by intro y; rw [y] at gg; cases gg) e5
  have q2l : ∀ x ∈ q2, ∃ xs, H3 x = some (.lst xs) := fun x hx => by
    obtain ⟨j, hj⟩ := List.mem_iff_getElem?.mp hx
    have jl : j < prs.length := by have := (List.getElem?_eq_some_iff.mp hj).1; rw [hP2.lq] at this; exact this
    obtain ⟨t', q', f1, f2, f3, f5⟩ := hP2.at_ j prs[j].1 prs[j].2 (List.getElem?_eq_getElem jl)
    rw [hj] at f2
    obtain rfl := Option.some.inj f2
    exact ⟨_, f5⟩
  walk_at "go"
  refine for_L (fun i σ' H' => ∃ v8, σ' = [some (.ref bt), some (.ref d), some (.ref O), some (.int b), some (.ref P1), some (.ref P2), some (.ref p6), some (.ref p8), v8, none] ∧ Chg q2 H11 H' ∧ ∀ x ∈ q2, ∃ xs, H' x = some (.lst xs)) (fun i σ' H' ⟨_, _, c, _⟩ => c.at q2free rr11) ⟨_, rfl, .of (Same.refl _), fun x hx => let ⟨xs, z⟩ := q2l x hx; ⟨xs, s311 _ _ z⟩⟩ ?_ ?_
  · rintro i x σ' H12 hx ⟨w8, rfl, c12, l12⟩
    simp only [List.set_cons_zero, List.set_cons_succ]
    have hi : i < t2.length := by have := (List.getElem?_eq_some_iff.mp hx).1; rwa [List.length_map] at this
    obtain ⟨⟨b9, row9⟩, hh⟩ : ∃ p, prs[i]? = some p := ⟨_, List.getElem?_eq_getElem (by rw [← hP2.lt]; exact hi)⟩
    obtain ⟨t, q9, e1, e2, e3, e5⟩ := hP2.at_ i b9 row9 hh
    rw [List.getElem?_map, e1] at hx
    obtain rfl := Option.some.inj hx
    have tq : t ∉ q2 := fun z => by
      obtain ⟨j, hj⟩ := List.mem_iff_getElem?.mp z
      have jl : j < prs.length := by have := (List.getElem?_eq_some_iff.mp hj).1; rw [hP2.lq] at this; exact this
      obtain ⟨t', q', f1, f2, f3, f5⟩ := hP2.at_ j prs[j].1 prs[j].2 (List.getElem?_eq_getElem jl)
      rw [hj] at f2
      obtain rfl := Option.some.inj f2
      rw [e3] at f5; cases f5
    have e12 := c12.at tq (s311 _ _ e3)
    obtain ⟨xs, ex⟩ := l12 q9 (List.mem_of_getElem? e2)
    walk_at "go"
    rename_i H13 w13
    refine ⟨_, rfl, c12.trans (.wr w13 (List.mem_of_getElem? e2)), fun x hx => ?_⟩
    by_cases z : x = q9
    · subst z; exact ⟨_, w13.at⟩
    · obtain ⟨xs, y⟩ := l12 x hx
      exact ⟨xs, w13.old z y⟩
  · rintro σ' H12 ⟨w8, rfl, c12, l12⟩
    have s212 : Same H2 H12 := Same.chg s211 c12 q2n
    have rr12 := c12.at q2free rr11
    walk_at "go"
    rename_i H13 w13
    have s213 : Same H2 H13 := Same.chg s212 (.wr w13 (by simp) : Chg [P2] _ _) (by simpa using P2n)
    have h13 := h2.same s213
    have hP113 := hP1.same s213
    refine go_methB h13.bt_ (fun _ _ => rfl) ?_
    walk_at "go"
    refine p_pairs5 h13.bt_ (by rw [List.length_map]; exact few) fun P3 t3 q3 prs3 H14 s14 _ hP3 g3 _ _ => ?_
    obtain rfl := g1.one g3
    walk_at "go"
    refine prs_eq hP3 (hP113.same s14) ?_
    have h14 := h13.same s14
    have s014 : Same H H14 := ((n1.same.trans s2).trans s213).trans s14
    walk_at "go"
    refine go_methB h14.bt_ (fun _ _ => rfl) ?_
    walk_at "go"
    refine p_bread h14.bt_ (by omega) hz fun p15 H15 s15 _ h1515 => ?_
    have h15 := h14.same s15
    have oo15 := (s014.trans s15) _ _ oo
    walk_at "go"
    refine go_methD h15.dk (fun _ _ _ => rfl) ?_
    walk_at "go"
    refine p_readE h15.dk (by omega) hrd fun p16 H16 s16 _ h1616 => ?_
    have s016 := (s014.trans s15).trans s16
    have oo16 := s16 _ _ oo15
    walk_at "go"
    refine go_due (ow.same s016) (by omega) hz hrd h1616 fun x16 e16 => ?_
    refine go_eqIs (s16 _ _ h1515) e16 ?_
    rw [decide_eq_true rfl]
    exact q H16 s016
end

end Bk

namespace Bk
open PySem L2 PyProof.Rows
/-! our own short tactics: h: what stands at a place; ne: two places; sm: what stood stands; z: a size; s: a step; go: steps -/
local macro_rules | `(tactic| walk_at "h") => `(tactic| first
  | assumption
  | exact New.at (by assumption)
  | exact Wr.at (by assumption)
  | (refine' New.old (by assumption) ?_; walk_at "h")
  | (refine' Same.at (by assumption) ?_; walk_at "h")
  | (refine' Wr.old (by assumption) ?_ ?_; walk_at "ne"; walk_at "h")
  | (refine' Chg.at (by assumption) ?_ ?_; walk_at "ni"; walk_at "h"))
local macro_rules | `(tactic| walk_at "ni") => `(tactic| first
  | exact ni_nil
  | assumption
  | (refine' ni_cons ?_ ?_; walk_at "ne"; walk_at "ni"))
local macro_rules | `(tactic| walk_at "ne") => `(tactic| first
  | assumption
  | exact Ne.symm (by assumption)
  | exact New.ne (by assumption) (by walk_at "h")
  | exact ne_none (by assumption) (by walk_at "h")
  | exact Ne.symm (ne_none (by assumption) (by walk_at "h"))
  | exact Ne.symm (New.ne (by assumption) (by walk_at "h")))
local macro_rules | `(tactic| walk_at "sm") => `(tactic| first
  | exact Same.refl _
  | assumption
  | (refine' Same.trans ?_ (New.same (by assumption)); walk_at "sm")
  | (refine' Same.trans ?_ (by assumption : Same _ _); walk_at "sm"))
local macro_rules | `(tactic| walk_at "z") => `(tactic| first
  | assumption
  | (rw [PySem.sizeLine_eq]; omega)
  | (rw [PySem.sizeLine_eq]; simp only [List.length_cons, List.length_nil, List.length_append, List.length_map, List.length_range, List.length_replicate, len_cut]; omega)
  | (rw [PySem.sizeLine_eq]; simp only [List.length_cons, List.length_nil, List.length_append, List.length_map, List.length_range, List.length_replicate, len_cut] at *; omega))
local macro_rules | `(tactic| walk_at "s") => `(tactic| first
  | ((with_reducible refine' go_var ?h ?_); (case h => exact rfl))
  | (with_reducible refine' go_c ?_)
  | (with_reducible refine' go_op ?_)
  | (with_reducible refine' go_un ?_)
  | (with_reducible refine' go_rU ?_)
  | (with_reducible refine' go_seq ?_)
  | (with_reducible refine' go_ret ?_)
  | (with_reducible refine' go_retN ?_)
  | (with_reducible refine' go_next ?_)
  | (with_reducible refine' go_drop ?_)
  | (with_reducible refine' go_asg ?_)
  | ((with_reducible refine' go_name2 ?h ?_); (case h => (simp only [List.set_cons_zero, List.set_cons_succ]; exact rfl)))
  | ((with_reducible refine' go_name2 ?h ?_); (case h => exact rfl))
  | (with_reducible refine' go_ifS ?_)
  | (with_reducible refine' go_blk ?_)
  | (with_reducible refine' go_test ?_)
  | (with_reducible refine' go_tB ?_)
  | (with_reducible refine' go_and ?_)
  | (with_reducible refine' go_or ?_)
  | (with_reducible refine' go_not ?_)
  | (with_reducible refine' go_andV ?_)
  | (with_reducible refine' go_orV ?_)
  | (with_reducible refine' go_notV ?_)
  | (with_reducible refine' go_if ?_)
  | (with_reducible refine' go_chain ?_)
  | (with_reducible refine' iteT ?_)
  | (with_reducible refine' iteF ?_)
  | ((with_reducible refine' go_Td ?h ?_); (case h => walk_at "pr"))
  | ((with_reducible refine' go_Fd ?h ?_); (case h => walk_at "pr"))
  | ((with_reducible refine' go_Tn ?h ?_); (case h => walk_at "pr"))
  | ((with_reducible refine' go_Fn ?h ?_); (case h => walk_at "pr"))
  | ((with_reducible refine' go_T ?h ?_); (case h => (first | decide | assumption | exact rfl)))
  | ((with_reducible refine' go_F ?h ?_); (case h => (first | decide | assumption | exact rfl)))
  | (with_reducible refine' go_nil ?_)
  | (with_reducible refine' go_cons ?_)
  | (with_reducible refine' go_tLst ?_)
  | (with_reducible refine' go_tTup ?_)
  | ((with_reducible refine' go_LstK ?h ?_); (case h => walk_at "z"); intro p H1 n1)
  | ((with_reducible refine' go_TupK ?h ?_); (case h => walk_at "z"); intro p H1 n1)
  | (with_reducible refine' go_addI ?_)
  | ((with_reducible refine' go_addL ?h ?k ?z ?_); (case h => walk_at "h"); (case k => walk_at "h"); (case z => walk_at "z"); intro p H1 n1)
  | (with_reducible refine' go_sub ?_)
  | ((with_reducible refine' go_mulI ?h ?_); (case h => (unfold CMul; omega)))
  | ((with_reducible refine' go_mulL ?h ?k ?_); (case h => walk_at "h"); (case k => (refine ⟨by omega, by omega, ?_⟩; walk_at "z")); intro p H1 n1)
  | ((with_reducible refine' go_div ?h ?_); (case h => (unfold CDiv; omega)))
  | ((with_reducible refine' go_mod ?h ?_); (case h => omega))
  | (with_reducible refine' go_p109 ?_)
  | (with_reducible refine' go_p1020 ?_)
  | ((with_reducible refine' go_pow ?h ?_); (case h => (unfold CPow; omega)))
  | (with_reducible refine' go_lt ?_)
  | (with_reducible refine' go_le ?_)
  | (with_reducible refine' go_gt ?_)
  | (with_reducible refine' go_ge ?_)
  | (with_reducible refine' go_eqI ?_)
  | (with_reducible refine' go_eqB ?_)
  | (with_reducible refine' go_eqS ?_)
  | (with_reducible refine' go_neI ?_)
  | (with_reducible refine' go_neB ?_)
  | (with_reducible refine' go_neS ?_)
  | (with_reducible refine' go_isN ?_)
  | (with_reducible refine' go_isNotN ?_)
  | (with_reducible refine' go_isB ?_)
  | (with_reducible refine' go_isNotB ?_)
  | (with_reducible refine' go_sl ?_)
  | (with_reducible refine' go_noPart ?_)
  | (with_reducible refine' go_part ?_)
  | (with_reducible refine' go_intK ?_)
  | ((with_reducible refine' go_slL ?h ?_); (case h => walk_at "h"); intro p H1 n1)
  | ((with_reducible refine' go_ixL ?h ?k ?_); (case h => walk_at "h"); (case k => exact rfl))
  | ((with_reducible refine' go_ixT ?h ?k ?_); (case h => walk_at "h"); (case k => exact rfl))
  | ((with_reducible refine' go_slW ?h ?_); (case h => walk_at "h"))
  | (with_reducible refine' go_bm ?_)
  | (with_reducible refine' go_bm0 ?_)
  | ((with_reducible refine' go_bmL ?h ?_); (case h => walk_at "h"))
  | ((with_reducible refine' go_append ?h ?k ?_); (case h => walk_at "h"); (case k => walk_at "z"); intro H1 n1)
  | ((with_reducible refine' go_extend ?h ?k ?z ?_); (case h => walk_at "h"); (case k => walk_at "h"); (case z => walk_at "z"); intro H1 n1)
  | ((with_reducible refine' go_clear ?h ?_); (case h => walk_at "h"); intro H1 n1)
  | ((with_reducible refine' go_dnew ?_); intro p H1 n1)
  | (with_reducible refine' go_cb ?_)
  | (with_reducible refine' go_callS ?_)
  | (with_reducible refine' go_call0 ?_)
  | ((with_reducible refine' go_lenL ?h ?_); (case h => walk_at "h"))
  | ((with_reducible refine' go_lenT ?h ?_); (case h => walk_at "h"))
  | ((with_reducible refine' go_lenK ?h ?_); (case h => walk_at "hk"))
  | ((with_reducible refine' go_listL ?h ?_); (case h => walk_at "h"); intro p H1 n1)
  | ((with_reducible refine' go_listT ?h ?_); (case h => walk_at "h"); intro p H1 n1)
  | ((with_reducible refine' go_tupleL ?h ?_); (case h => walk_at "h"); intro p H1 n1)
  | (with_reducible refine' go_intI ?_)
  | (with_reducible refine' go_intB ?_)
  | (with_reducible refine' go_abs ?_)
  | (with_reducible refine' go_min2 ?_)
  | (with_reducible refine' go_max2 ?_)
  | ((with_reducible refine' go_isi ?h ?k ?_); (case h => walk_at "ty"); (case k => exact kit_bb (by decide) (by decide)))
  | (with_reducible refine' go_lc ?_)
  | (with_reducible refine' go_for ?_)
  | (with_reducible refine' go_seqP ?_)
  | ((with_reducible refine' go_seqL ?h ?_); (case h => walk_at "h"))
  | ((with_reducible refine' go_seqT ?h ?_); (case h => walk_at "h"))
  | (with_reducible refine' go_seqS ?_)
  | (with_reducible refine' go_rng1 ?_)
  | (with_reducible refine' go_rng2 ?_)
  | ((with_reducible refine' go_rng1K ?h ?_); (case h => omega))
  | ((with_reducible refine' go_rng2K ?h ?_); (case h => omega))
  | (with_reducible refine' go_raise ?_)
  | ((with_reducible refine' go_tupG ?h ?k ?_); (case h => walk_at "h"); (case k => exact rfl))
  | ((with_reducible refine' go_lstG ?h ?k ?_); (case h => walk_at "h"); (case k => exact rfl))
  | (with_reducible refine' go_gNil ?_)
  | (with_reducible refine' go_tryAs ?_)
  | (with_reducible refine' go_tryMany1 ?_)
  | (with_reducible refine' go_tryMany2 ?_)
  | (with_reducible refine' go_WM ?_)
  | ((with_reducible refine' go_asT ?_); intro e he)
  | (with_reducible refine' go_asF ?_)
  | ((with_reducible refine' go_manyT ?_); intro e he)
  | (with_reducible refine' go_manyF ?_)
  | (with_reducible refine' go_manyN ?_)
  | (with_reducible refine' go_fld ?_)
  | ((with_reducible refine' go_FldK ?h ?c ?n ?l ?_); (case h => walk_at "h"); (case c => infer_instance); (case n => infer_instance); (case l => exact rfl))
  | (with_reducible refine' go_sfld ?_)
  | ((with_reducible refine' go_SFldK ?h ?c ?n ?l ?e ?_); (case h => walk_at "h"); (case c => infer_instance); (case n => infer_instance); (case l => exact Nat.le_of_ble_eq_true rfl); (case e => walk_at "pf"); intro H1 n1)
  | (with_reducible refine' go_meth ?_)
  | ((with_reducible refine' go_MethK 0 ?h ?l ?e ?_); (case h => walk_at "h"); (case l => exact rfl); (case e => exact rfl))
  | ((with_reducible refine' go_MethK 1 ?h ?l ?e ?_); (case h => walk_at "h"); (case l => exact rfl); (case e => exact rfl))
  | ((with_reducible refine' go_MethK 2 ?h ?l ?e ?_); (case h => walk_at "h"); (case l => exact rfl); (case e => exact rfl))
  | (with_reducible refine' go_make ?_)
  | (with_reducible refine' go_callX ?_)
  | (with_reducible refine' go_methX ?_)
  | ((with_reducible refine' go_MethXK ?h ?l ?_); (case h => walk_at "h"); (case l => exact rfl))
  | (with_reducible refine' go_dget ?_)
  | ((with_reducible refine' go_DGetS ?h ?l ?_); (case h => walk_at "h"); (case l => exact rfl))
  | (with_reducible refine' go_dput ?_)
  | ((with_reducible refine' go_DPutS ?h ?l ?e ?_); (case h => walk_at "h"); (case l => exact Nat.le_of_ble_eq_true rfl); (case e => walk_at "pk"); intro H1 n1)
  | ((with_reducible refine' go_disp ?_); intro p H1 n1)
  | (with_reducible refine' go_pairs ?_)
  | (with_reducible refine' go_pairs0 ?_)
  | ((with_reducible refine' go_DispS ?h ?e ?l ?k ?j ?m ?_); (case h => walk_at "h"); (case e => exact rfl); (case l => exact Nat.le_of_ble_eq_true rfl); (case k => (simp only [unS]; exact rfl)); (case j => (simp only [List.map_cons, List.map_nil]; exact rfl)); (case m => decide +kernel); intro H1 n1)
  | (with_reducible refine' go_par ?_)
  | ((with_reducible refine' go_ParK ?h ?_); (case h => (simp only [List.set_cons_zero, List.set_cons_succ]; exact rfl)))
  | (with_reducible refine' go_sub_ ?_)
  | ((with_reducible refine' go_setLi ?h ?k ?_); (case h => walk_at "h"); (case k => walk_at "ix"); intro H1 n1)
  | (with_reducible refine' go_listY ?_)
  | ((with_reducible refine' go_listYL ?h ?_); (case h => walk_at "h"))
  | (with_reducible refine' go_bmS ?_)
  | (with_reducible refine' go_ckw ?_)
  | ((with_reducible refine' go_maxD ?h ?_); (case h => walk_at "h"))
  | (with_reducible refine' go_listR ?_)
  | (with_reducible refine' go_rg2 ?_)
  | (with_reducible refine' go_Rg2K ?_)
  | (with_reducible refine' go_rg1 ?_)
  | (with_reducible refine' go_Rg1K ?_)
  | ((with_reducible refine' go_ListRK ?h ?_); (case h => omega); intro p H1 n1)
  | (with_reducible refine' go_enum ?_)
  | ((with_reducible refine' go_EnumL ?h ?_); (case h => walk_at "h"))
  | (with_reducible refine' go_isX ?_)
  | (with_reducible refine' go_isXt ?_)
  | (with_reducible refine' go_din ?_)
  | (with_reducible refine' go_dnotin ?_)
  | ((with_reducible refine' go_DInI ?h ?_); (case h => walk_at "h"))
  | ((with_reducible refine' go_DNotInI ?h ?_); (case h => walk_at "h"))
  | (with_reducible refine' go_dget2 ?_)
  | ((with_reducible refine' go_DGet2K ?h ?_); (case h => walk_at "h"))
  | (with_reducible refine' go_dpop1 ?_)
  | ((with_reducible refine' go_eqDE ?h ?k ?_); (case h => walk_at "h"); (case k => walk_at "h"))
  | ((with_reducible refine' go_neDE ?h ?k ?_); (case h => walk_at "h"); (case k => walk_at "h"))
  | (with_reducible refine' go_chain3 ?_)
  | (with_reducible refine' go_LinkT ?_)
  | (with_reducible refine' go_LinkF ?_)
  | (with_reducible refine' go_Link2T ?_)
  | (with_reducible refine' go_Link2F ?_)
  | (with_reducible refine' go_gSl ?_)
  | ((with_reducible refine' go_insert ?h ?k ?l ?m ?_); (case h => walk_at "h"); (case k => walk_at "z"); (case l => omega); (case m => omega); intro H1 n1)
  | (with_reducible refine' go_gCons ?_))
local macro_rules | `(tactic| walk_at "pf") => `(tactic| first
  | exact putF_nil
  | exact putF_hit
  | (refine' putF_miss ?h ?k; (case h => decide +kernel); (case k => walk_at "pf")))
local macro_rules | `(tactic| walk_at "pk") => `(tactic| first
  | exact putK_nil
  | exact putK_hit (by (simp only [List.map_cons, List.map_nil]; decide +kernel))
  | (refine' putK_miss ?h ?k; (case h => decide +kernel); (case k => walk_at "pk")))
local macro_rules | `(tactic| walk_at "ix") => `(tactic| first
  | assumption
  | omega
  | (simp only [List.length_cons, List.length_nil, List.length_append, List.length_map, List.length_range, List.length_replicate, List.length_set] at *; omega))
local macro_rules | `(tactic| walk_at "pr") => `(tactic| first
  | assumption
  | decide
  | omega
  | exact rfl
  | (intro z; cases z; done))
local macro_rules | `(tactic| walk_at "hk") => `(tactic| first
  | assumption
  | exact seq' (by assumption) (by walk_at "sm"))
local macro_rules | `(tactic| walk_at "ty") => `(tactic| first
  | exact rfl
  | assumption
  | exact tyN_L (by walk_at "h")
  | exact tyN_T (by walk_at "h")
  | exact tyN_D (by walk_at "h"))
local macro_rules | `(tactic| walk_at "go") => `(tactic| repeat (walk_at "s"))
section
variable {K : PySem.W.Frag} {a : Ac} {T : List Addr} {H : Hp} {Q : VK} {E : XK} [F : Fc K a] {d r : Addr} {ps : List Addr} {R : List (List Int)} {done : Int} {k : Option Nat}
theorem p_rowsL (h : DkEx a T H d r R done k) (q : ∀ L ls H', Same H H' → H L = none → RowsAt H' L ls R → Q (.ref L) H') : sp_L_rows K a [.ref d] H Q E := by
  refine in_L_rows ?_
  unfold t_L_rows
  have many : 24 ≤ R.length ∧ R.length ≤ 96 := by obtain ⟨ps, h⟩ := id h; exact h.many
  have gR : ∀ row ∈ R, GoodRow row := by obtain ⟨ps, h⟩ := id h; exact h.good
  walk_at "go"
  refine go_methD h (fun _ _ _ => rfl) ?_
  walk_at "go"
  refine p_blocksE h ?_
  walk_at "go"
  refine lc_newR (o := fun i => .lst ((R.getD i []).map V.int)) (by rw [sizeLine_eq]; omega) (fun i H' Q' hi s q' => ?_) (fun D qs H2 hD s2 hq w2 hd2 => ?_)
  · simp only [List.set_cons_zero, List.set_cons_succ, Int.zero_add]
    have h2 := h.same s
    have hi2 : i < R.length := by omega
    walk_at "go"
    refine go_methD h2 (fun _ _ _ => rfl) ?_
    walk_at "go"
    refine p_readE h2 (by omega) (row := R[i]) (by simp [hi2]) fun p3 H3 s3 p3n p33 => ?_
    walk_at "go"
    rename_i p4 H4 n4
    refine q' p4 H4 (s3.trans n4.same) (s3.free n4.free) ?_
    rw [n4.at, List.getD_eq_getElem?_getD, List.getElem?_eq_getElem hi2]; rfl
  · refine q D qs H2 s2 hD ⟨hd2, by omega, fun i p e => ?_⟩
    have hi : i < R.length := by have := (List.getElem?_eq_some_iff.mp e).1; omega
    refine ⟨R[i], List.getElem?_eq_getElem hi, fun z => ?_, ?_⟩
    · have := (gR R[i] (List.getElem_mem hi)).1
      rw [z] at this; cases this
    · rw [w2.at_ i p e, List.getD_eq_getElem?_getD, List.getElem?_eq_getElem hi]; rfl
end
section
variable {a : Ac} {H H' : Hp} {d r : Addr} {R R' : List (List Int)} {done done' : Int} {k k' : Option Nat}
theorem ints_inj {x y : List Int} (h : x.map V.int = y.map V.int) : x = y := by
  induction x generalizing y with
  | nil => cases y with
    | nil => rfl
    | cons b y => simp at h
  | cons b x ih => cases y with
    | nil => simp at h
    | cons c y =>
      simp only [List.map_cons, List.cons.injEq, V.int.injEq] at h
      rw [h.1, ih h.2]
theorem refs_inj {x y : List Addr} (h : x.map V.ref = y.map V.ref) : x = y := by
  induction x generalizing y with
  | nil => cases y with
    | nil => rfl
    | cons b y => simp at h
  | cons b x ih => cases y with
    | nil => simp at h
    | cons c y =>
      simp only [List.map_cons, List.cons.injEq, V.ref.injEq] at h
      rw [h.1, ih h.2]
/-- a disk has its rows -/
theorem DkEx.inj (h : DkEx a [] H d r R done k) (h2 : DkEx a [] H d r R' done' k') : R = R' := by
  obtain ⟨ps, h⟩ := h
  obtain ⟨ps2, h2⟩ := h2
  have e := h.rr
  rw [h2.rr] at e
  have e : ps2.map V.ref = ps.map V.ref := by simpa using e
  obtain rfl := refs_inj e
  have l1 := h.len
  have l2 := h2.len
  refine List.ext_getElem (by omega) fun i h1 h3 => ?_
  obtain ⟨p, row, f1, f2, f3, _⟩ := h.at h1
  obtain ⟨p', row', g1, g2, g3, _⟩ := h2.at h3
  rw [f1] at g1; cases g1
  rw [f3] at g3
  have e2 : row.map V.int = row'.map V.int := by simpa using g3
  obtain rfl := ints_inj e2
  rw [List.getElem?_eq_getElem h1] at f2
  rw [List.getElem?_eq_getElem h3] at g2
  rw [Option.some.inj f2, Option.some.inj g2]
end
/-! ### a row that is written to the disk itself -/
def besideZ (Z : List (List Int)) (ks : List Int) (i : Int) (row : List Int) : List (List Int) := if i ∈ ks then Z else Z.set i.toNat row
theorem DRows.disk {H H' : Hp} {D : Addr} {psl : List (Int × V)} {R Z : List (List Int)} {S : List Addr} {i : Int} {row : List Int} (h : DRows H D psl R Z) (c : Chg S H H') (n : D ∉ S) (o : ∀ b ∈ S, NotInts H b) (i0 : 17 ≤ i) (i1 : i < R.length) : DRows H' D psl (R.set i.toNat row) (besideZ Z (psl.map (·.1)) i row) := by
  have ll := h.len
  refine ⟨c.at n h.dd, h.nd, ?_, fun p hp => ?_, fun j hj => ?_⟩
  · unfold besideZ; split <;> simp [ll]
  · obtain ⟨q0, row', e1, e2, e3, e4, e5, e6, e7⟩ := h.hit p hp
    refine ⟨q0, row', e1, c.at (fun z => o q0 z row' (by intro y; rw [y] at e3; cases e3) e2) e2, e3, e4, e5, by rw [List.length_set]; exact e6, ?_⟩
    unfold besideZ
    split
    · exact e7
    · rename_i nn
      have : p.1 ≠ i := fun z => nn (by rw [← z]; exact List.mem_map_of_mem (f := (·.1)) hp)
      rw [List.getElem?_set_ne (by omega)]; exact e7
  · have m := h.miss j hj
    unfold besideZ
    split
    · rename_i y
      have : j ≠ i.toNat := fun z => by
        obtain ⟨p, hp, e⟩ := List.mem_map.mp y
        exact hj p hp (by omega)
      rw [List.getElem?_set_ne (by omega)]; exact m
    · by_cases z : i.toNat = j
      · subst z
        rw [List.getElem?_set_self (by omega), List.getElem?_set_self (by omega)]
      · rw [List.getElem?_set_ne z, List.getElem?_set_ne z]; exact m
section
variable {K : PySem.W.Frag} {a : Ac} {H H' : Hp} {Q : VK} {E : XK} {bt D d r O : Addr} {R Z : List (List Int)} {ks : List Int} {done done' : Int}
theorem BtAt.rows (h : BtAt a H bt D d r Z ks done) (dk : DkEx a [] H d r R done none) : ∃ psl, DRows H D psl R Z ∧ psl.map (·.1) = ks := by
  obtain ⟨R0, psl, h1, h2, h3⟩ := h.ex
  obtain rfl := dk.inj h1
  exact ⟨psl, h2, h3⟩
theorem S5.disk {i : Int} {row : List Int} (h : S5 a H bt D d r O R Z ks done) (c : Chg [d, r] H H') (i0 : 17 ≤ i) (i1 : i < R.length) (dk : DkEx a [] H' d r (R.set i.toNat row) done' none) : S5 a H' bt D d r O (R.set i.toNat row) (besideZ Z ks i row) ks done' := by
  have nn := h.bt_.nes
  have hn := h.n
  have oo : ∀ b ∈ [d, r], NotInts H b := fun b hb => (h.bt_.own b (List.mem_cons_of_mem _ (List.mem_cons_of_mem _ hb))).1
  simp only [List.mem_cons, List.not_mem_nil, or_false, not_or] at hn
  obtain ⟨psl, h2, e⟩ := h.bt_.rows h.dk
  obtain ⟨pso, h3, e3⟩ := h.ow
  obtain ⟨dx, ob⟩ := h.bt_.ob
  have k2 := h2.disk (row := row) c (by simp [nn.2.2.1, nn.2.2.2.1]) oo i0 i1
  have k3 := h3.disk (row := row) c (by simp [hn.2.2.1, hn.2.2.2]) oo i0 i1
  rw [e] at k2
  rw [e3] at k3
  exact ⟨⟨⟨_, psl, dk, k2, e⟩, dx, c.at (by simp [nn.2.1, nn.2.2.2.2.2]) ob⟩, dk, ⟨pso, k3, e3⟩, h.n⟩
/-- a row that is written, in the batch and in the law's rows -/
theorem S5.put {i : Int} {p : Addr} {row : List Int} {H1 H2 : Hp} {S : List Addr} (h : S5 a H bt D d r O R Z ks done) (i0 : 17 ≤ i) (i1 : i < R.length) (g : GoodRow row) (c : Chg S H H1) (nS : ∀ b ∈ S, b = D ∨ H b = none) (h1 : BtAt a H1 bt D d r (Z.set i.toNat row) (putKs ks i) done) (hp : H1 p = some (.lst (row.map V.int)))
    {pso : List (Int × V)} (ow : DRows H O pso R Z) (ek : pso.map (·.1) = ks) (w : Wr H1 O (.dK (dI (putI pso i (.ref p)))) H2) : S5 a H2 bt D d r O R (Z.set i.toNat row) (putKs ks i) done := by
  have nn := h.bt_.nes
  have hn := h.n
  simp only [List.mem_cons, List.not_mem_nil, or_false, not_or] at hn
  have nd : ∀ b ∈ [d, r, O], b ∉ S := fun b hb z => by
    rcases nS b z with y | y
    · simp only [List.mem_cons, List.not_mem_nil, or_false] at hb
      rcases hb with rfl | rfl | rfl
      · exact nn.2.2.1 y.symm
      · exact nn.2.2.2.1 y.symm
      · exact hn.2.1 y
    · simp only [List.mem_cons, List.not_mem_nil, or_false] at hb
      rcases hb with rfl | rfl | rfl
      · obtain ⟨u, e⟩ := h.bt_.some b (by simp); rw [y] at e; cases e
      · obtain ⟨u, e⟩ := h.bt_.some b (by simp); rw [y] at e; cases e
      · rw [ow.dd] at y; cases y
  have oS : ∀ b ∈ S, NotInts H b := fun b hb => by
    rcases nS b hb with rfl | y
    · exact (h.bt_.own b (by simp)).1
    · intro ns _ e; rw [y] at e; cases e
  have dk1 := h.dk.chg c (nd d (by simp)) (nd r (by simp)) oS
  have ow1 : DRows H1 O pso R Z := ⟨c.at (nd O (by simp)) ow.dd, ow.nd, ow.len, fun q hq => by
    obtain ⟨q0, row, e1, e2, e3, e4⟩ := ow.hit q hq
    exact ⟨q0, row, e1, c.at (fun z => oS q0 z row (by intro y; rw [y] at e3; cases e3) e2) e2, e3, e4⟩, ow.miss⟩
  have c2 : Chg [O] H1 H2 := .wr w (by simp)
  have o2 : ∀ b ∈ [O], NotInts H1 b := fun b hb => by rw [List.mem_singleton.mp hb]; exact .dict ow1.dd
  refine ⟨h1.chg c2 (fun b hb z => h.n (List.mem_singleton.mp z ▸ hb)) o2, dk1.chg c2 (by simpa using Ne.symm hn.2.2.1) (by simpa using Ne.symm hn.2.2.2) o2, ⟨_, ow1.put w i0 i1 hp g.1 g.2, ?_⟩, h.n⟩
  rw [putI_keys, ek]
end

end Bk

namespace Bk
open PySem L2 PyProof.Rows
/-! our own short tactics: h: what stands at a place; ne: two places; sm: what stood stands; z: a size; s: a step; go: steps -/
local macro_rules | `(tactic| walk_at "h") => `(tactic| first
  | assumption
  | exact New.at (by assumption)
  | exact Wr.at (by assumption)
  | (refine' New.old (by assumption) ?_; walk_at "h")
  | (refine' Same.at (by assumption) ?_; walk_at "h")
  | (refine' Wr.old (by assumption) ?_ ?_; walk_at "ne"; walk_at "h")
  | (refine' Chg.at (by assumption) ?_ ?_; walk_at "ni"; walk_at "h"))
local macro_rules | `(tactic| walk_at "ni") => `(tactic| first
  | exact ni_nil
  | assumption
  | (refine' ni_cons ?_ ?_; walk_at "ne"; walk_at "ni"))
local macro_rules | `(tactic| walk_at "ne") => `(tactic| first
  | assumption
  | exact Ne.symm (by assumption)
  | exact New.ne (by assumption) (by walk_at "h")
  | exact ne_none (by assumption) (by walk_at "h")
  | exact Ne.symm (ne_none (by assumption) (by walk_at "h"))
  | exact Ne.symm (New.ne (by assumption) (by walk_at "h")))
local macro_rules | `(tactic| walk_at "sm") => `(tactic| first
  | exact Same.refl _
  | assumption
  | (refine' Same.trans ?_ (New.same (by assumption)); walk_at "sm")
  | (refine' Same.trans ?_ (by assumption : Same _ _); walk_at "sm"))
local macro_rules | `(tactic| walk_at "z") => `(tactic| first
  | assumption
  | (rw [PySem.sizeLine_eq]; omega)
  | (rw [PySem.sizeLine_eq]; simp only [List.length_cons, List.length_nil, List.length_append, List.length_map, List.length_range, List.length_replicate, len_cut]; omega)
  | (rw [PySem.sizeLine_eq]; simp only [List.length_cons, List.length_nil, List.length_append, List.length_map, List.length_range, List.length_replicate, len_cut] at *; omega))
local macro_rules | `(tactic| walk_at "s") => `(tactic| first
  | ((with_reducible refine' go_var ?h ?_); (case h => exact rfl))
  | (with_reducible refine' go_c ?_)
  | (with_reducible refine' go_op ?_)
  | (with_reducible refine' go_un ?_)
  | (with_reducible refine' go_rU ?_)
  | (with_reducible refine' go_seq ?_)
  | (with_reducible refine' go_ret ?_)
  | (with_reducible refine' go_retN ?_)
  | (with_reducible refine' go_next ?_)
  | (with_reducible refine' go_drop ?_)
  | (with_reducible refine' go_asg ?_)
  | ((with_reducible refine' go_name2 ?h ?_); (case h => (simp only [List.set_cons_zero, List.set_cons_succ]; exact rfl)))
  | ((with_reducible refine' go_name2 ?h ?_); (case h => exact rfl))
  | (with_reducible refine' go_ifS ?_)
  | (with_reducible refine' go_blk ?_)
  | (with_reducible refine' go_test ?_)
  | (with_reducible refine' go_tB ?_)
  | (with_reducible refine' go_and ?_)
  | (with_reducible refine' go_or ?_)
  | (with_reducible refine' go_not ?_)
  | (with_reducible refine' go_andV ?_)
  | (with_reducible refine' go_orV ?_)
  | (with_reducible refine' go_notV ?_)
  | (with_reducible refine' go_if ?_)
  | (with_reducible refine' go_chain ?_)
  | (with_reducible refine' iteT ?_)
  | (with_reducible refine' iteF ?_)
  | ((with_reducible refine' go_Td ?h ?_); (case h => walk_at "pr"))
  | ((with_reducible refine' go_Fd ?h ?_); (case h => walk_at "pr"))
  | ((with_reducible refine' go_Tn ?h ?_); (case h => walk_at "pr"))
  | ((with_reducible refine' go_Fn ?h ?_); (case h => walk_at "pr"))
  | ((with_reducible refine' go_T ?h ?_); (case h => (first | decide | assumption | exact rfl)))
  | ((with_reducible refine' go_F ?h ?_); (case h => (first | decide | assumption | exact rfl)))
  | (with_reducible refine' go_nil ?_)
  | (with_reducible refine' go_cons ?_)
  | (with_reducible refine' go_tLst ?_)
  | (with_reducible refine' go_tTup ?_)
  | ((with_reducible refine' go_LstK ?h ?_); (case h => walk_at "z"); intro p H1 n1)
  | ((with_reducible refine' go_TupK ?h ?_); (case h => walk_at "z"); intro p H1 n1)
  | (with_reducible refine' go_addI ?_)
  | ((with_reducible refine' go_addL ?h ?k ?z ?_); (case h => walk_at "h"); (case k => walk_at "h"); (case z => walk_at "z"); intro p H1 n1)
  | (with_reducible refine' go_sub ?_)
  | ((with_reducible refine' go_mulI ?h ?_); (case h => (unfold CMul; omega)))
  | ((with_reducible refine' go_mulL ?h ?k ?_); (case h => walk_at "h"); (case k => (refine ⟨by omega, by omega, ?_⟩; walk_at "z")); intro p H1 n1)
  | ((with_reducible refine' go_div ?h ?_); (case h => (unfold CDiv; omega)))
  | ((with_reducible refine' go_mod ?h ?_); (case h => omega))
  | (with_reducible refine' go_p109 ?_)
  | (with_reducible refine' go_p1020 ?_)
  | ((with_reducible refine' go_pow ?h ?_); (case h => (unfold CPow; omega)))
  | (with_reducible refine' go_lt ?_)
  | (with_reducible refine' go_le ?_)
  | (with_reducible refine' go_gt ?_)
  | (with_reducible refine' go_ge ?_)
  | (with_reducible refine' go_eqI ?_)
  | (with_reducible refine' go_eqB ?_)
  | (with_reducible refine' go_eqS ?_)
  | (with_reducible refine' go_neI ?_)
  | (with_reducible refine' go_neB ?_)
  | (with_reducible refine' go_neS ?_)
  | (with_reducible refine' go_isN ?_)
  | (with_reducible refine' go_isNotN ?_)
  | (with_reducible refine' go_isB ?_)
  | (with_reducible refine' go_isNotB ?_)
  | (with_reducible refine' go_sl ?_)
  | (with_reducible refine' go_noPart ?_)
  | (with_reducible refine' go_part ?_)
  | (with_reducible refine' go_intK ?_)
  | ((with_reducible refine' go_slL ?h ?_); (case h => walk_at "h"); intro p H1 n1)
  | ((with_reducible refine' go_ixL ?h ?k ?_); (case h => walk_at "h"); (case k => exact rfl))
  | ((with_reducible refine' go_ixT ?h ?k ?_); (case h => walk_at "h"); (case k => exact rfl))
  | ((with_reducible refine' go_slW ?h ?_); (case h => walk_at "h"))
  | (with_reducible refine' go_bm ?_)
  | (with_reducible refine' go_bm0 ?_)
  | ((with_reducible refine' go_bmL ?h ?_); (case h => walk_at "h"))
  | ((with_reducible refine' go_append ?h ?k ?_); (case h => walk_at "h"); (case k => walk_at "z"); intro H1 n1)
  | ((with_reducible refine' go_extend ?h ?k ?z ?_); (case h => walk_at "h"); (case k => walk_at "h"); (case z => walk_at "z"); intro H1 n1)
  | ((with_reducible refine' go_clear ?h ?_); (case h => walk_at "h"); intro H1 n1)
  | ((with_reducible refine' go_dnew ?_); intro p H1 n1)
  | (with_reducible refine' go_cb ?_)
  | (with_reducible refine' go_callS ?_)
  | (with_reducible refine' go_call0 ?_)
  | ((with_reducible refine' go_lenL ?h ?_); (case h => walk_at "h"))
  | ((with_reducible refine' go_lenT ?h ?_); (case h => walk_at "h"))
  | ((with_reducible refine' go_lenK ?h ?_); (case h => walk_at "hk"))
  | ((with_reducible refine' go_listL ?h ?_); (case h => walk_at "h"); intro p H1 n1)
  | ((with_reducible refine' go_listT ?h ?_); (case h => walk_at "h"); intro p H1 n1)
  | ((with_reducible refine' go_tupleL ?h ?_); (case h => walk_at "h"); intro p H1 n1)
  | (with_reducible refine' go_intI ?_)
  | (with_reducible refine' go_intB ?_)
  | (with_reducible refine' go_abs ?_)
  | (with_reducible refine' go_min2 ?_)
  | (with_reducible refine' go_max2 ?_)
  | ((with_reducible refine' go_isi ?h ?k ?_); (case h => walk_at "ty"); (case k => exact kit_bb (by decide) (by decide)))
  | (with_reducible refine' go_lc ?_)
  | (with_reducible refine' go_for ?_)
  | (with_reducible refine' go_seqP ?_)
  | ((with_reducible refine' go_seqL ?h ?_); (case h => walk_at "h"))
  | ((with_reducible refine' go_seqT ?h ?_); (case h => walk_at "h"))
  | (with_reducible refine' go_seqS ?_)
  | (with_reducible refine' go_rng1 ?_)
  | (with_reducible refine' go_rng2 ?_)
  | ((with_reducible refine' go_rng1K ?h ?_); (case h => omega))
  | ((with_reducible refine' go_rng2K ?h ?_); (case h => omega))
  | (with_reducible refine' go_raise ?_)
  | ((with_reducible refine' go_tupG ?h ?k ?_); (case h => walk_at "h"); (case k => exact rfl))
  | ((with_reducible refine' go_lstG ?h ?k ?_); (case h => walk_at "h"); (case k => exact rfl))
  | (with_reducible refine' go_gNil ?_)
  | (with_reducible refine' go_tryAs ?_)
  | (with_reducible refine' go_tryMany1 ?_)
  | (with_reducible refine' go_tryMany2 ?_)
  | (with_reducible refine' go_WM ?_)
  | ((with_reducible refine' go_asT ?_); intro e he)
  | (with_reducible refine' go_asF ?_)
  | ((with_reducible refine' go_manyT ?_); intro e he)
  | (with_reducible refine' go_manyF ?_)
  | (with_reducible refine' go_manyN ?_)
  | (with_reducible refine' go_fld ?_)
  | ((with_reducible refine' go_FldK ?h ?c ?n ?l ?_); (case h => walk_at "h"); (case c => infer_instance); (case n => infer_instance); (case l => exact rfl))
  | (with_reducible refine' go_sfld ?_)
  | ((with_reducible refine' go_SFldK ?h ?c ?n ?l ?e ?_); (case h => walk_at "h"); (case c => infer_instance); (case n => infer_instance); (case l => exact Nat.le_of_ble_eq_true rfl); (case e => walk_at "pf"); intro H1 n1)
  | (with_reducible refine' go_meth ?_)
  | ((with_reducible refine' go_MethK 0 ?h ?l ?e ?_); (case h => walk_at "h"); (case l => exact rfl); (case e => exact rfl))
  | ((with_reducible refine' go_MethK 1 ?h ?l ?e ?_); (case h => walk_at "h"); (case l => exact rfl); (case e => exact rfl))
  | ((with_reducible refine' go_MethK 2 ?h ?l ?e ?_); (case h => walk_at "h"); (case l => exact rfl); (case e => exact rfl))
  | (with_reducible refine' go_make ?_)
  | (with_reducible refine' go_callX ?_)
  | (with_reducible refine' go_methX ?_)
  | ((with_reducible refine' go_MethXK ?h ?l ?_); (case h => walk_at "h"); (case l => exact rfl))
  | (with_reducible refine' go_dget ?_)
  | ((with_reducible refine' go_DGetS ?h ?l ?_); (case h => walk_at "h"); (case l => exact rfl))
  | (with_reducible refine' go_dput ?_)
  | ((with_reducible refine' go_DPutS ?h ?l ?e ?_); (case h => walk_at "h"); (case l => exact Nat.le_of_ble_eq_true rfl); (case e => walk_at "pk"); intro H1 n1)
  | ((with_reducible refine' go_disp ?_); intro p H1 n1)
  | (with_reducible refine' go_pairs ?_)
  | (with_reducible refine' go_pairs0 ?_)
  | ((with_reducible refine' go_DispS ?h ?e ?l ?k ?j ?m ?_); (case h => walk_at "h"); (case e => exact rfl); (case l => exact Nat.le_of_ble_eq_true rfl); (case k => (simp only [unS]; exact rfl)); (case j => (simp only [List.map_cons, List.map_nil]; exact rfl)); (case m => decide +kernel); intro H1 n1)
  | (with_reducible refine' go_par ?_)
  | ((with_reducible refine' go_ParK ?h ?_); (case h => (simp only [List.set_cons_zero, List.set_cons_succ]; exact rfl)))
  | (with_reducible refine' go_sub_ ?_)
  | ((with_reducible refine' go_setLi ?h ?k ?_); (case h => walk_at "h"); (case k => walk_at "ix"); intro H1 n1)
  | (with_reducible refine' go_listY ?_)
  | ((with_reducible refine' go_listYL ?h ?_); (case h => walk_at "h"))
  | (with_reducible refine' go_bmS ?_)
  | (with_reducible refine' go_ckw ?_)
  | ((with_reducible refine' go_maxD ?h ?_); (case h => walk_at "h"))
  | (with_reducible refine' go_listR ?_)
  | (with_reducible refine' go_rg2 ?_)
  | (with_reducible refine' go_Rg2K ?_)
  | (with_reducible refine' go_rg1 ?_)
  | (with_reducible refine' go_Rg1K ?_)
  | ((with_reducible refine' go_ListRK ?h ?_); (case h => omega); intro p H1 n1)
  | (with_reducible refine' go_enum ?_)
  | ((with_reducible refine' go_EnumL ?h ?_); (case h => walk_at "h"))
  | (with_reducible refine' go_isX ?_)
  | (with_reducible refine' go_isXt ?_)
  | (with_reducible refine' go_din ?_)
  | (with_reducible refine' go_dnotin ?_)
  | ((with_reducible refine' go_DInI ?h ?_); (case h => walk_at "h"))
  | ((with_reducible refine' go_DNotInI ?h ?_); (case h => walk_at "h"))
  | (with_reducible refine' go_dget2 ?_)
  | ((with_reducible refine' go_DGet2K ?h ?_); (case h => walk_at "h"))
  | (with_reducible refine' go_dpop1 ?_)
  | ((with_reducible refine' go_eqDE ?h ?k ?_); (case h => walk_at "h"); (case k => walk_at "h"))
  | ((with_reducible refine' go_neDE ?h ?k ?_); (case h => walk_at "h"); (case k => walk_at "h"))
  | (with_reducible refine' go_chain3 ?_)
  | (with_reducible refine' go_LinkT ?_)
  | (with_reducible refine' go_LinkF ?_)
  | (with_reducible refine' go_Link2T ?_)
  | (with_reducible refine' go_Link2F ?_)
  | (with_reducible refine' go_gSl ?_)
  | ((with_reducible refine' go_insert ?h ?k ?l ?m ?_); (case h => walk_at "h"); (case k => walk_at "z"); (case l => omega); (case m => omega); intro H1 n1)
  | (with_reducible refine' go_gCons ?_))
local macro_rules | `(tactic| walk_at "pf") => `(tactic| first
  | exact putF_nil
  | exact putF_hit
  | (refine' putF_miss ?h ?k; (case h => decide +kernel); (case k => walk_at "pf")))
local macro_rules | `(tactic| walk_at "pk") => `(tactic| first
  | exact putK_nil
  | exact putK_hit (by (simp only [List.map_cons, List.map_nil]; decide +kernel))
  | (refine' putK_miss ?h ?k; (case h => decide +kernel); (case k => walk_at "pk")))
local macro_rules | `(tactic| walk_at "ix") => `(tactic| first
  | assumption
  | omega
  | (simp only [List.length_cons, List.length_nil, List.length_append, List.length_map, List.length_range, List.length_replicate, List.length_set] at *; omega))
local macro_rules | `(tactic| walk_at "pr") => `(tactic| first
  | assumption
  | decide
  | omega
  | exact rfl
  | (intro z; cases z; done))
local macro_rules | `(tactic| walk_at "hk") => `(tactic| first
  | assumption
  | exact seq' (by assumption) (by walk_at "sm"))
local macro_rules | `(tactic| walk_at "ty") => `(tactic| first
  | exact rfl
  | assumption
  | exact tyN_L (by walk_at "h")
  | exact tyN_T (by walk_at "h")
  | exact tyN_D (by walk_at "h"))
local macro_rules | `(tactic| walk_at "go") => `(tactic| repeat (walk_at "s"))
/-! ### refusals -/
section
variable {K : PySem.W.Frag} {a : Ac} {H H' : Hp} {Q : VK} {E : XK} [F : Fc K a] {bt D d r O : Addr} {R Z : List (List Int)} {ks : List Int} {done : Int}
theorem p_breadBad {x : V} {t : String} (h : S5 a H bt D d r O R Z ks done) (hx : tyN H x = some t) (hb : isBlk R.length x = false) (b : E (.ref a.NoBlock) none H) : sp_Batch_read K a [.ref bt, x] H Q E := by
  refine in_Batch_read ?_
  unfold t_Batch_read
  obtain ⟨dx, e⟩ := h.bt_.ob
  have dk := h.dk
  walk_at "go"
  refine go_methD dk (fun _ _ _ => rfl) ?_
  walk_at "go"
  obtain ⟨ps, dk⟩ := dk
  exact p_readBad dk.toDiskAt hx hb b
theorem p_bwriteB {x y : V} {t : String} (h : S5 a H bt D d r O R Z ks done) (hx : tyN H x = some t) (hb : isHome R.length x = false) (b : E (.ref a.NoBlock) none H) : sp_Batch_write K a [.ref bt, x, y] H Q E := by
  refine in_Batch_write ?_
  unfold t_Batch_write
  obtain ⟨dx, e⟩ := h.bt_.ob
  walk_at "go"
  refine p_is_home h.dk hx ?_
  rw [hb]
  walk_at "go"
  exact b
theorem p_bwriteR {i : Int} {y : V} (h : S5 a H bt D d r O R Z ks done) (i0 : 17 ≤ i) (i1 : i < R.length) (hy : RowIs H y none) (b : ∀ H', Same H H' → E (.ref a.BadRow) none H') : sp_Batch_write K a [.ref bt, .int i, y] H Q E := by
  refine in_Batch_write ?_
  unfold t_Batch_write
  obtain ⟨dx, e⟩ := h.bt_.ob
  walk_at "go"
  refine p_is_home h.dk (n := "int") rfl ?_
  rw [isHome_of i0 i1]
  walk_at "go"
  exact p_need_row hy (fun row er => by cases er) (fun _ H' s => b H' s)
/-- written, or refused by a word -/
theorem p_writtenB {x y : V} {t : String} (h : S5 a H bt D d r O R Z ks done) (hx : tyN H x = some t) (hb : isHome R.length x = false) (q : ∀ H', Same H H' → Q (.str "block") H') : sp_L_written K a [.ref bt, x, y] H Q E := by
  refine in_L_written ?_
  unfold t_L_written
  walk_at "go"
  refine go_methB h.bt_ (fun _ _ => rfl) ?_
  walk_at "go"
  refine p_bwriteB h hx hb ?_
  walk_at "go"
  exact p_kinds _ 0 (.inl ⟨rfl, rfl⟩) fun H' s => q H' s
theorem p_writtenR {i : Int} {y : V} (h : S5 a H bt D d r O R Z ks done) (i0 : 17 ≤ i) (i1 : i < R.length) (hy : RowIs H y none) (q : ∀ H', Same H H' → Q (.str "row") H') : sp_L_written K a [.ref bt, .int i, y] H Q E := by
  refine in_L_written ?_
  unfold t_L_written
  walk_at "go"
  refine go_methB h.bt_ (fun _ _ => rfl) ?_
  walk_at "go"
  refine p_bwriteR h i0 i1 hy fun H1 s1 => ?_
  walk_at "go"
  exact p_kinds _ 1 (.inr (.inl ⟨rfl, rfl⟩)) fun H' s => q H' (s1.trans s)
theorem p_written {i : Int} {p : Addr} {row : List Int} (h : S5 a H bt D d r O R Z ks done) (i0 : 17 ≤ i) (i1 : i < Z.length) (hp : H p = some (.lst (row.map V.int))) (g : GoodRow row) (q : ∀ H', Chg [D] H H' → BtAt a H' bt D d r (Z.set i.toNat row) (putKs ks i) done → (∀ x, H x ≠ none → RowFree H D r x → RowFree H' D r x) → Q (.str "") H') : sp_L_written K a [.ref bt, .int i, .ref p] H Q E := by
  refine in_L_written ?_
  unfold t_L_written
  walk_at "go"
  refine go_methB h.bt_ (fun _ _ => rfl) ?_
  walk_at "go"
  refine p_bwrite h.bt_ i0 i1 hp g fun H1 c1 h1 f1 => ?_
  walk_at "go"
  exact q H1 c1 h1 f1
theorem p_reads {c : Int} (h : S5 a H bt D d r O R Z ks done) (q : ∀ H', Same H H' → Q (.bl true) H') : sp_L_reads K a [.ref bt, .ref d, .int c] H Q E := by
  refine in_L_reads ?_
  unfold t_L_reads
  have hm := h.many
  have ll := h.len
  have b : 0 ≤ c % 17 ∧ c % 17 < 17 := by omega
  obtain ⟨row, hr⟩ : ∃ row, R[(c % 17).toNat]? = some row := ⟨_, List.getElem?_eq_getElem (by omega)⟩
  have hz : Z[(c % 17).toNat]? = some row := by
    rw [h.miss fun z => by have := (h.bt_.keys.2 _ z).1; omega]; exact hr
  walk_at "go"
  refine go_methB h.bt_ (fun _ _ => rfl) ?_
  walk_at "go"
  refine p_bread h.bt_ b.1 hz fun p1 H1 s1 _ h11 => ?_
  have h1 := h.same s1
  walk_at "go"
  refine go_methD h1.dk (fun _ _ _ => rfl) ?_
  walk_at "go"
  refine p_readE h1.dk b.1 hr fun p2 H2 s2 _ h22 => ?_
  refine go_neIs (s2 _ _ h11) h22 ?_
  rw [decide_eq_true rfl]
  have h2 := h1.same s2
  walk_at "go"
  refine go_methD h2.dk (fun _ _ _ => rfl) ?_
  walk_at "go"
  refine p_blocksE h2.dk ?_
  walk_at "go"
  refine go_methD h2.dk (fun _ _ _ => rfl) ?_
  walk_at "go"
  refine p_blocksE h2.dk ?_
  walk_at "go"
  rename_i p3 H3 n3 p4 H4 n4
  refine go_ixLo n4.at ⟨by omega, by show _ < (8 : Int); omega⟩ fun x hx hi => ?_
  have far : 0 ≤ c / 17 % 100000000000000000000 := Int.emod_nonneg _ (by omega)
  have s4 : Same H H4 := ((s1.trans s2).trans n3.same).trans n4.same
  have h4 := h.same s4
  have key : ∃ t, tyN H4 x = some t ∧ isBlk R.length x = false := by
    simp only [List.mem_cons, List.not_mem_nil, or_false] at hx
    rcases hx with rfl | rfl | rfl | rfl | rfl | rfl | rfl | rfl
    all_goals first
      | exact ⟨_, rfl, by simp [isBlk] <;> omega⟩
      | exact ⟨_, tyN_L (n4.old n3.at), rfl⟩
  obtain ⟨t, tx, bx⟩ := key
  clear hx hi
  walk_at "go"
  refine go_methB h4.bt_ (fun _ _ => rfl) ?_
  walk_at "go"
  refine p_breadBad h4 tx bx ?_
  walk_at "go"
  refine p_kinds _ 0 (.inl ⟨rfl, rfl⟩) fun H5 s5 => ?_
  walk_at "go"
  exact q H5 (s4.trans s5)
theorem p_beside {c : Int} (h : S5 a H bt D d r O R Z ks done) (few : ks.length < 64) (q : ∀ i row H', 17 ≤ i → i < (R.length : Int) → Chg [d, r] H H' → S5 a H' bt D d r O (R.set i.toNat row) (besideZ Z ks i row) ks (done + 1) → Q (.bl true) H') : sp_L_beside K a [.ref bt, .ref d, .ref O, .int c] H Q E := by
  refine in_L_beside ?_
  unfold t_L_beside
  have hm := h.many
  have ll := h.len
  obtain ⟨pso, ow, ek⟩ := h.ow
  walk_at "go"
  refine go_methD h.dk (fun _ _ _ => rfl) ?_
  walk_at "go"
  refine p_blocksE h.dk ?_
  walk_at "go"
  have b0 := Int.emod_nonneg (c / 7) (show (R.length : Int) - 17 ≠ 0 by omega)
  have b1 := Int.emod_lt_of_pos (c / 7) (show 0 < (R.length : Int) - 17 by omega)
  generalize hi : 17 + c / 7 % ((R.length : Int) - 17) = i at *
  have i0 : 17 ≤ i := by omega
  have i1 : i < (R.length : Int) := by omega
  obtain ⟨row, hz⟩ : ∃ row, Z[i.toNat]? = some row := ⟨_, List.getElem?_eq_getElem (by omega)⟩
  obtain ⟨rd, hrd⟩ : ∃ row, R[i.toNat]? = some row := ⟨_, List.getElem?_eq_getElem (by omega)⟩
  have oo := ow.dd
  walk_at "go"
  refine go_methB h.bt_ (fun _ _ => rfl) ?_
  walk_at "go"
  refine p_bread h.bt_ (by omega) hz fun p1 H1 s1 _ h11 => ?_
  have h1 := h.same s1
  have oo1 := s1 _ _ oo
  walk_at "go"
  refine go_methD h1.dk (fun _ _ _ => rfl) ?_
  walk_at "go"
  refine p_readE h1.dk (by omega) hrd fun p2 H2 s2 _ h22 => ?_
  have h2 := h1.same s2
  have oo2 := s2 _ _ oo1
  walk_at "go"
  refine go_due ((ow.same s1).same s2) (by omega) hz hrd h22 fun x2 e2 => ?_
  refine go_neIs (s2 _ _ h11) e2 ?_
  rw [decide_eq_true rfl]
  walk_at "go"
  refine go_methD h2.dk (fun _ _ _ => rfl) ?_
  walk_at "go"
  refine p_rowOf fun p3 H3 s3 _ h33 => ?_
  have g := good_rowOf (c / 3)
  have h3 := h2.same s3
  walk_at "go"
  refine p_writeF h3.dk (by omega) i1 h33 g fun H4 c4 dk4 => ?_
  have h4 := h3.disk c4 i0 i1 dk4
  obtain ⟨pso', ow4, ek4⟩ := h4.ow
  have zi : ∃ rz, (besideZ Z ks i (rowOf (c / 3)))[i.toNat]? = some rz := by
    have := h4.len
    rw [List.length_set] at this
    exact ⟨_, List.getElem?_eq_getElem (by omega)⟩
  obtain ⟨rz, hz4⟩ := zi
  have hr4 : (R.set i.toNat (rowOf (c / 3)))[i.toNat]? = some (rowOf (c / 3)) := List.getElem?_set_self (by omega)
  have oo4 := ow4.dd
  walk_at "go"
  refine go_methB h4.bt_ (fun _ _ => rfl) ?_
  walk_at "go"
  refine p_bread h4.bt_ (by omega) hz4 fun p5 H5 s5 _ h55 => ?_
  have oo5 := s5 _ _ oo4
  walk_at "go"
  refine p_rowOf fun p6 H6 s6 _ h66 => ?_
  have oo6 := s6 _ _ oo5
  walk_at "go"
  refine go_due ((ow4.same s5).same s6) (by omega) hz4 hr4 h66 fun x6 e6 => ?_
  refine go_eqIs (s6 _ _ h55) e6 ?_
  rw [decide_eq_true rfl]
  exact q i (rowOf (c / 3)) H6 i0 i1 ((((Chg.of ((s1.trans s2).trans s3)).trans c4).trans (.of s5)).trans (.of s6)) ((h4.same s5).same s6)
end

end Bk

namespace Bk
open PySem L2 PyProof.Rows
/-! our own short tactics: h: what stands at a place; ne: two places; sm: what stood stands; z: a size; s: a step; go: steps -/
local macro_rules | `(tactic| walk_at "h") => `(tactic| first
  | assumption
  | exact New.at (by assumption)
  | exact Wr.at (by assumption)
  | (refine' New.old (by assumption) ?_; walk_at "h")
  | (refine' Same.at (by assumption) ?_; walk_at "h")
  | (refine' Wr.old (by assumption) ?_ ?_; walk_at "ne"; walk_at "h")
  | (refine' Chg.at (by assumption) ?_ ?_; walk_at "ni"; walk_at "h"))
local macro_rules | `(tactic| walk_at "ni") => `(tactic| first
  | exact ni_nil
  | assumption
  | (refine' ni_cons ?_ ?_; walk_at "ne"; walk_at "ni"))
local macro_rules | `(tactic| walk_at "ne") => `(tactic| first
  | assumption
  | exact Ne.symm (by assumption)
  | exact New.ne (by assumption) (by walk_at "h")
  | exact ne_none (by assumption) (by walk_at "h")
  | exact Ne.symm (ne_none (by assumption) (by walk_at "h"))
  | exact Ne.symm (New.ne (by assumption) (by walk_at "h")))
local macro_rules | `(tactic| walk_at "sm") => `(tactic| first
  | exact Same.refl _
  | assumption
  | (refine' Same.trans ?_ (New.same (by assumption)); walk_at "sm")
  | (refine' Same.trans ?_ (by assumption : Same _ _); walk_at "sm"))
local macro_rules | `(tactic| walk_at "z") => `(tactic| first
  | assumption
  | (rw [PySem.sizeLine_eq]; omega)
  | (rw [PySem.sizeLine_eq]; simp only [List.length_cons, List.length_nil, List.length_append, List.length_map, List.length_range, List.length_replicate, len_cut]; omega)
  | (rw [PySem.sizeLine_eq]; simp only [List.length_cons, List.length_nil, List.length_append, List.length_map, List.length_range, List.length_replicate, len_cut] at *; omega))
local macro_rules | `(tactic| walk_at "s") => `(tactic| first
  | ((with_reducible refine' go_var ?h ?_); (case h => exact rfl))
  | (with_reducible refine' go_c ?_)
  | (with_reducible refine' go_op ?_)
  | (with_reducible refine' go_un ?_)
  | (with_reducible refine' go_rU ?_)
  | (with_reducible refine' go_seq ?_)
  | (with_reducible refine' go_ret ?_)
  | (with_reducible refine' go_retN ?_)
  | (with_reducible refine' go_next ?_)
  | (with_reducible refine' go_drop ?_)
  | (with_reducible refine' go_asg ?_)
  | ((with_reducible refine' go_name2 ?h ?_); (case h => (simp only [List.set_cons_zero, List.set_cons_succ]; exact rfl)))
  | ((with_reducible refine' go_name2 ?h ?_); (case h => exact rfl))
  | (with_reducible refine' go_ifS ?_)
  | (with_reducible refine' go_blk ?_)
  | (with_reducible refine' go_test ?_)
  | (with_reducible refine' go_tB ?_)
  | (with_reducible refine' go_and ?_)
  | (with_reducible refine' go_or ?_)
  | (with_reducible refine' go_not ?_)
  | (with_reducible refine' go_andV ?_)
  | (with_reducible refine' go_orV ?_)
  | (with_reducible refine' go_notV ?_)
  | (with_reducible refine' go_if ?_)
  | (with_reducible refine' go_chain ?_)
  | (with_reducible refine' iteT ?_)
  | (with_reducible refine' iteF ?_)
  | ((with_reducible refine' go_Td ?h ?_); (case h => walk_at "pr"))
  | ((with_reducible refine' go_Fd ?h ?_); (case h => walk_at "pr"))
  | ((with_reducible refine' go_Tn ?h ?_); (case h => walk_at "pr"))
  | ((with_reducible refine' go_Fn ?h ?_); (case h => walk_at "pr"))
  | ((with_reducible refine' go_T ?h ?_); (case h => (first | decide | assumption | exact rfl)))
  | ((with_reducible refine' go_F ?h ?_); (case h => (first | decide | assumption | exact rfl)))
  | (with_reducible refine' go_nil ?_)
  | (with_reducible refine' go_cons ?_)
  | (with_reducible refine' go_tLst ?_)
  | (with_reducible refine' go_tTup ?_)
  | ((with_reducible refine' go_LstK ?h ?_); (case h => walk_at "z"); intro p H1 n1)
  | ((with_reducible refine' go_TupK ?h ?_); (case h => walk_at "z"); intro p H1 n1)
  | (with_reducible refine' go_addI ?_)
  | ((with_reducible refine' go_addL ?h ?k ?z ?_); (case h => walk_at "h"); (case k => walk_at "h"); (case z => walk_at "z"); intro p H1 n1)
  | (with_reducible refine' go_sub ?_)
  | ((with_reducible refine' go_mulI ?h ?_); (case h => (unfold CMul; omega)))
  | ((with_reducible refine' go_mulL ?h ?k ?_); (case h => walk_at "h"); (case k => (refine ⟨by omega, by omega, ?_⟩; walk_at "z")); intro p H1 n1)
  | ((with_reducible refine' go_div ?h ?_); (case h => (unfold CDiv; omega)))
  | ((with_reducible refine' go_mod ?h ?_); (case h => omega))
  | (with_reducible refine' go_p109 ?_)
  | (with_reducible refine' go_p1020 ?_)
  | ((with_reducible refine' go_pow ?h ?_); (case h => (unfold CPow; omega)))
  | (with_reducible refine' go_lt ?_)
  | (with_reducible refine' go_le ?_)
  | (with_reducible refine' go_gt ?_)
  | (with_reducible refine' go_ge ?_)
  | (with_reducible refine' go_eqI ?_)
  | (with_reducible refine' go_eqB ?_)
  | (with_reducible refine' go_eqS ?_)
  | (with_reducible refine' go_neI ?_)
  | (with_reducible refine' go_neB ?_)
  | (with_reducible refine' go_neS ?_)
  | (with_reducible refine' go_isN ?_)
  | (with_reducible refine' go_isNotN ?_)
  | (with_reducible refine' go_isB ?_)
  | (with_reducible refine' go_isNotB ?_)
  | (with_reducible refine' go_sl ?_)
  | (with_reducible refine' go_noPart ?_)
  | (with_reducible refine' go_part ?_)
  | (with_reducible refine' go_intK ?_)
  | ((with_reducible refine' go_slL ?h ?_); (case h => walk_at "h"); intro p H1 n1)
  | ((with_reducible refine' go_ixL ?h ?k ?_); (case h => walk_at "h"); (case k => exact rfl))
  | ((with_reducible refine' go_ixT ?h ?k ?_); (case h => walk_at "h"); (case k => exact rfl))
  | ((with_reducible refine' go_slW ?h ?_); (case h => walk_at "h"))
  | (with_reducible refine' go_bm ?_)
  | (with_reducible refine' go_bm0 ?_)
  | ((with_reducible refine' go_bmL ?h ?_); (case h => walk_at "h"))
  | ((with_reducible refine' go_append ?h ?k ?_); (case h => walk_at "h"); (case k => walk_at "z"); intro H1 n1)
  | ((with_reducible refine' go_extend ?h ?k ?z ?_); (case h => walk_at "h"); (case k => walk_at "h"); (case z => walk_at "z"); intro H1 n1)
  | ((with_reducible refine' go_clear ?h ?_); (case h => walk_at "h"); intro H1 n1)
  | ((with_reducible refine' go_dnew ?_); intro p H1 n1)
  | (with_reducible refine' go_cb ?_)
  | (with_reducible refine' go_callS ?_)
  | (with_reducible refine' go_call0 ?_)
  | ((with_reducible refine' go_lenL ?h ?_); (case h => walk_at "h"))
  | ((with_reducible refine' go_lenT ?h ?_); (case h => walk_at "h"))
  | ((with_reducible refine' go_lenK ?h ?_); (case h => walk_at "hk"))
  | ((with_reducible refine' go_listL ?h ?_); (case h => walk_at "h"); intro p H1 n1)
  | ((with_reducible refine' go_listT ?h ?_); (case h => walk_at "h"); intro p H1 n1)
  | ((with_reducible refine' go_tupleL ?h ?_); (case h => walk_at "h"); intro p H1 n1)
  | (with_reducible refine' go_intI ?_)
  | (with_reducible refine' go_intB ?_)
  | (with_reducible refine' go_abs ?_)
  | (with_reducible refine' go_min2 ?_)
  | (with_reducible refine' go_max2 ?_)
  | ((with_reducible refine' go_isi ?h ?k ?_); (case h => walk_at "ty"); (case k => exact kit_bb (by decide) (by decide)))
  | (with_reducible refine' go_lc ?_)
  | (with_reducible refine' go_for ?_)
  | (with_reducible refine' go_seqP ?_)
  | ((with_reducible refine' go_seqL ?h ?_); (case h => walk_at "h"))
  | ((with_reducible refine' go_seqT ?h ?_); (case h => walk_at "h"))
  | (with_reducible refine' go_seqS ?_)
  | (with_reducible refine' go_rng1 ?_)
  | (with_reducible refine' go_rng2 ?_)
  | ((with_reducible refine' go_rng1K ?h ?_); (case h => omega))
  | ((with_reducible refine' go_rng2K ?h ?_); (case h => omega))
  | (with_reducible refine' go_raise ?_)
  | ((with_reducible refine' go_tupG ?h ?k ?_); (case h => walk_at "h"); (case k => exact rfl))
  | ((with_reducible refine' go_lstG ?h ?k ?_); (case h => walk_at "h"); (case k => exact rfl))
  | (with_reducible refine' go_gNil ?_)
  | (with_reducible refine' go_tryAs ?_)
  | (with_reducible refine' go_tryMany1 ?_)
  | (with_reducible refine' go_tryMany2 ?_)
  | (with_reducible refine' go_WM ?_)
  | ((with_reducible refine' go_asT ?_); intro e he)
  | (with_reducible refine' go_asF ?_)
  | ((with_reducible refine' go_manyT ?_); intro e he)
  | (with_reducible refine' go_manyF ?_)
  | (with_reducible refine' go_manyN ?_)
  | (with_reducible refine' go_fld ?_)
  | ((with_reducible refine' go_FldK ?h ?c ?n ?l ?_); (case h => walk_at "h"); (case c => infer_instance); (case n => infer_instance); (case l => exact rfl))
  | (with_reducible refine' go_sfld ?_)
  | ((with_reducible refine' go_SFldK ?h ?c ?n ?l ?e ?_); (case h => walk_at "h"); (case c => infer_instance); (case n => infer_instance); (case l => exact Nat.le_of_ble_eq_true rfl); (case e => walk_at "pf"); intro H1 n1)
  | (with_reducible refine' go_meth ?_)
  | ((with_reducible refine' go_MethK 0 ?h ?l ?e ?_); (case h => walk_at "h"); (case l => exact rfl); (case e => exact rfl))
  | ((with_reducible refine' go_MethK 1 ?h ?l ?e ?_); (case h => walk_at "h"); (case l => exact rfl); (case e => exact rfl))
  | ((with_reducible refine' go_MethK 2 ?h ?l ?e ?_); (case h => walk_at "h"); (case l => exact rfl); (case e => exact rfl))
  | (with_reducible refine' go_make ?_)
  | (with_reducible refine' go_callX ?_)
  | (with_reducible refine' go_methX ?_)
  | ((with_reducible refine' go_MethXK ?h ?l ?_); (case h => walk_at "h"); (case l => exact rfl))
  | (with_reducible refine' go_dget ?_)
  | ((with_reducible refine' go_DGetS ?h ?l ?_); (case h => walk_at "h"); (case l => exact rfl))
  | (with_reducible refine' go_dput ?_)
  | ((with_reducible refine' go_DPutS ?h ?l ?e ?_); (case h => walk_at "h"); (case l => exact Nat.le_of_ble_eq_true rfl); (case e => walk_at "pk"); intro H1 n1)
  | ((with_reducible refine' go_disp ?_); intro p H1 n1)
  | (with_reducible refine' go_pairs ?_)
  | (with_reducible refine' go_pairs0 ?_)
  | ((with_reducible refine' go_DispS ?h ?e ?l ?k ?j ?m ?_); (case h => walk_at "h"); (case e => exact rfl); (case l => exact Nat.le_of_ble_eq_true rfl); (case k => (simp only [unS]; exact rfl)); (case j => (simp only [List.map_cons, List.map_nil]; exact rfl)); (case m => decide +kernel); intro H1 n1)
  | (with_reducible refine' go_par ?_)
  | ((with_reducible refine' go_ParK ?h ?_); (case h => (simp only [List.set_cons_zero, List.set_cons_succ]; exact rfl)))
  | (with_reducible refine' go_sub_ ?_)
  | ((with_reducible refine' go_setLi ?h ?k ?_); (case h => walk_at "h"); (case k => walk_at "ix"); intro H1 n1)
  | (with_reducible refine' go_listY ?_)
  | ((with_reducible refine' go_listYL ?h ?_); (case h => walk_at "h"))
  | (with_reducible refine' go_bmS ?_)
  | (with_reducible refine' go_ckw ?_)
  | ((with_reducible refine' go_maxD ?h ?_); (case h => walk_at "h"))
  | (with_reducible refine' go_listR ?_)
  | (with_reducible refine' go_rg2 ?_)
  | (with_reducible refine' go_Rg2K ?_)
  | (with_reducible refine' go_rg1 ?_)
  | (with_reducible refine' go_Rg1K ?_)
  | ((with_reducible refine' go_ListRK ?h ?_); (case h => omega); intro p H1 n1)
  | (with_reducible refine' go_enum ?_)
  | ((with_reducible refine' go_EnumL ?h ?_); (case h => walk_at "h"))
  | (with_reducible refine' go_isX ?_)
  | (with_reducible refine' go_isXt ?_)
  | (with_reducible refine' go_din ?_)
  | (with_reducible refine' go_dnotin ?_)
  | ((with_reducible refine' go_DInI ?h ?_); (case h => walk_at "h"))
  | ((with_reducible refine' go_DNotInI ?h ?_); (case h => walk_at "h"))
  | (with_reducible refine' go_dget2 ?_)
  | ((with_reducible refine' go_DGet2K ?h ?_); (case h => walk_at "h"))
  | (with_reducible refine' go_dpop1 ?_)
  | ((with_reducible refine' go_eqDE ?h ?k ?_); (case h => walk_at "h"); (case k => walk_at "h"))
  | ((with_reducible refine' go_neDE ?h ?k ?_); (case h => walk_at "h"); (case k => walk_at "h"))
  | (with_reducible refine' go_chain3 ?_)
  | (with_reducible refine' go_LinkT ?_)
  | (with_reducible refine' go_LinkF ?_)
  | (with_reducible refine' go_Link2T ?_)
  | (with_reducible refine' go_Link2F ?_)
  | (with_reducible refine' go_gSl ?_)
  | ((with_reducible refine' go_insert ?h ?k ?l ?m ?_); (case h => walk_at "h"); (case k => walk_at "z"); (case l => omega); (case m => omega); intro H1 n1)
  | (with_reducible refine' go_gCons ?_))
local macro_rules | `(tactic| walk_at "pf") => `(tactic| first
  | exact putF_nil
  | exact putF_hit
  | (refine' putF_miss ?h ?k; (case h => decide +kernel); (case k => walk_at "pf")))
local macro_rules | `(tactic| walk_at "pk") => `(tactic| first
  | exact putK_nil
  | exact putK_hit (by (simp only [List.map_cons, List.map_nil]; decide +kernel))
  | (refine' putK_miss ?h ?k; (case h => decide +kernel); (case k => walk_at "pk")))
local macro_rules | `(tactic| walk_at "ix") => `(tactic| first
  | assumption
  | omega
  | (simp only [List.length_cons, List.length_nil, List.length_append, List.length_map, List.length_range, List.length_replicate, List.length_set] at *; omega))
local macro_rules | `(tactic| walk_at "pr") => `(tactic| first
  | assumption
  | decide
  | omega
  | exact rfl
  | (intro z; cases z; done))
local macro_rules | `(tactic| walk_at "hk") => `(tactic| first
  | assumption
  | exact seq' (by assumption) (by walk_at "sm"))
local macro_rules | `(tactic| walk_at "ty") => `(tactic| first
  | exact rfl
  | assumption
  | exact tyN_L (by walk_at "h")
  | exact tyN_T (by walk_at "h")
  | exact tyN_D (by walk_at "h"))
local macro_rules | `(tactic| walk_at "go") => `(tactic| repeat (walk_at "s"))
/-! ### a deed -/
section
variable {K : PySem.W.Frag} {a : Ac} {H H' : Hp} {Q : VK} {E : XK} [F : Fc K a] {bt D d r O : Addr} {R Z : List (List Int)} {ks : List Int} {done : Int}
/-- refused -/
theorem deed_no {c m n b : Int} {x6 x7 x12 : V} {due : Str} {p10 p11 : Addr} {rz : List Int} (h : S5 a H bt D d r O R Z ks done) (few : ks.length < 64) (b1 : 17 ≤ b) (b2 : b < Z.length) (hd : due ≠ "")
    (hw : ∀ Q : VK, (∀ H', Same H H' → Q (.str due) H') → sp_L_written K a [.ref bt, x6, x12] H Q E) (e10 : H p10 = some (.lst (rz.map V.int))) (e11 : H p11 = some (.lst (rz.map V.int))) (q : ∀ H', Same H H' → Q (.bl true) H') :
    t_L_deed_13 K a E ⟨fun _ H' => Q .non H', Q, F0, F0⟩ [some (.ref bt), some (.ref d), some (.ref O), some (.int c), some (.int m), some (.int n), some x6, some x7, some (.str due), some (.int b), some (.ref p10), some (.ref p11), some x12] H := by
  unfold t_L_deed_13
  walk_at "go"
  refine hw _ fun H1 s1 => ?_
  walk_at "go"
  refine p_like (h.same s1) few b1 b2 fun H2 s2 => ?_
  walk_at "go"
  refine go_eqIs (s2 _ _ (s1 _ _ e10)) (s2 _ _ (s1 _ _ e11)) ?_
  rw [decide_eq_true rfl]
  exact q H2 (s1.trans s2)
/-- done -/
theorem deed_yes {c m n b : Int} {p7 p10 p11 p12 : Addr} {rz row : List Int} (h : S5 a H bt D d r O R Z ks done) (few : ks.length < 60) (b1 : 17 ≤ b) (b2 : b < Z.length) (w12 : New H p12 (.lst (row.map V.int)) H') (g : GoodRow row) (e7 : H p7 = some (.lst (row.map V.int)))
    (e10 : H p10 = some (.lst (rz.map V.int))) (e11 : H p11 = some (.lst (rz.map V.int))) (q : ∀ Z' ks' H', Chg [D, O] H H' → S5 a H' bt D d r O R Z' ks' done → ks'.length ≤ ks.length + 1 → Q (.bl true) H') :
    t_L_deed_13 K a E ⟨fun _ H' => Q .non H', Q, F0, F0⟩ [some (.ref bt), some (.ref d), some (.ref O), some (.int c), some (.int m), some (.int n), some (.int b), some (.ref p7), some (.str ""), some (.int b), some (.ref p10), some (.ref p11), some (.ref p12)] H' := by
  unfold t_L_deed_13
  have h1 := h.same w12.same
  have ll := h.len
  obtain ⟨pso, ow, ek⟩ := h.ow
  have oo := ow.dd
  have nn := h.n
  simp only [List.mem_cons, List.not_mem_nil, or_false, not_or] at nn
  have i7 : ∀ {p : Addr} {x : List Int}, H p = some (.lst (x.map V.int)) → p ≠ D ∧ p ≠ O ∧ p ≠ p12 := fun {p x} e => ⟨by
    obtain ⟨psl, h2, _⟩ := h.bt_.rows h.dk
    exact ne_obj e h2.dd (by simp), ne_obj e oo (by simp), ne_of_none e w12.free⟩
  walk_at "go"
  refine p_written h1 b1 b2 w12.at g fun H1 c1 bt1 f1 => ?_
  walk_at "go"
  have p12D : p12 ≠ D := by
    obtain ⟨u, e⟩ := h.bt_.some D (by simp)
    exact fun z => by rw [← z, w12.free] at e; cases e
  have p12O : p12 ≠ O := fun z => by rw [← z, w12.free] at oo; cases oo
  have e12 := c1.at (by simpa using p12D) w12.at
  walk_at "go"
  rename_i H2 w2
  have c2 : Chg [p12] H1 H2 := .wr w2 (by simp)
  have fr12 : RowFree H1 D r p12 := f1 p12 (by rw [w12.at]; simp) (h.bt_.free_same (h.bt_.free w12.free) w12.same)
  have bt2 := bt1.chgF c2 (fun b hb z => (h.bt_.fresh w12.free) (List.mem_singleton.mp z ▸ hb)) (fun b hb => by rw [List.mem_singleton.mp hb]; exact .inr fr12)
  have c02 : Chg [D, p12] H H2 := ((Chg.of w12.same).trans (c1.mono (by simp))).trans (c2.mono (by simp))
  have k7 := i7 e7
  have k10 := i7 e10
  have k11 := i7 e11
  have e72 := c02.at (by simp [k7.1, k7.2.2]) e7
  have oo2 := c02.at (by simp [Ne.symm nn.2.1, Ne.symm p12O, nn.2.1]) oo
  have few2 : (dI pso).length < 1000 := by
    have := congrArg List.length ek
    simp only [List.length_map, dI] at this ⊢
    omega
  refine go_DPutI oo2 few2 (putK_dI pso b (.ref p7)) fun H3 w3 => ?_
  have h3 := h.put b1 (by omega) g c02 (fun b hb => by
    simp only [List.mem_cons, List.not_mem_nil, or_false] at hb
    rcases hb with rfl | rfl
    · exact .inl rfl
    · exact .inr w12.free) bt2 e72 ow ek w3
  have c03 : Chg [D, O] H H3 := Chg.drop (((c02.mono (S' := [p12, D, O]) (by simp)).trans (.wr w3 (by simp)))) w12.free
  have lk : (putKs ks b).length ≤ ks.length + 1 := by unfold putKs; split <;> simp
  walk_at "go"
  refine p_like h3 (by omega) b1 (by rw [List.length_set]; exact b2) fun H4 s4 => ?_
  walk_at "go"
  refine go_eqIs (s4 _ _ (c03.at (by simp [k10.1, k10.2.1]) e10)) (s4 _ _ (c03.at (by simp [k11.1, k11.2.1]) e11)) ?_
  rw [decide_eq_true rfl]
  exact q _ _ H4 (c03.trans (.of s4)) (h3.same s4) lk
/-- what is handed in, and what is due -/
def Hand (H : Hp) (n : Nat) (b : Int) (x6 x7 : V) (due : Str) : Prop :=
  (x6 = .int b ∧ (∃ p row, x7 = .ref p ∧ H p = some (.lst (row.map V.int)) ∧ GoodRow row) ∧ due = "") ∨
  (x6 = .int b ∧ OddR H x7 ∧ due = "row") ∨
  ((∃ t, tyN H x6 = some t) ∧ isHome n x6 = false ∧ ((∃ p row, x7 = .ref p ∧ H p = some (.lst (row.map V.int)) ∧ GoodRow row) ∨ OddR H x7) ∧ due = "block")
theorem Hand.same {n : Nat} {b : Int} {x6 x7 : V} {due : Str} (h : Hand H n b x6 x7 due) (s : Same H H') : Hand H' n b x6 x7 due := by
  rcases h with ⟨a, ⟨p, row, e, f, g⟩, c⟩ | ⟨a, b, c⟩ | ⟨⟨t, a⟩, b, c, e⟩
  · exact .inl ⟨a, ⟨p, row, e, s _ _ f, g⟩, c⟩
  · exact .inr (.inl ⟨a, b.same s, c⟩)
  · exact .inr (.inr ⟨⟨t, tyN_same s a⟩, b, c.imp (fun ⟨p, row, e, f, g⟩ => ⟨p, row, e, s _ _ f, g⟩) (fun z => z.same s), e⟩)
theorem deed_8 {c m n b : Int} {x6 x7 : V} {due : Str} (h : S5 a H bt D d r O R Z ks done) (few : ks.length < 60) (b1 : 17 ≤ b) (b2 : b < Z.length) (hh : Hand H R.length b x6 x7 due) (q : ∀ Z' ks' H', Chg [D, O] H H' → S5 a H' bt D d r O R Z' ks' done → ks'.length ≤ ks.length + 1 → Q (.bl true) H') :
    t_L_deed_8 K a E ⟨fun _ H' => Q .non H', Q, F0, F0⟩ [some (.ref bt), some (.ref d), some (.ref O), some (.int c), some (.int m), some (.int n), some x6, some x7, some (.str due), some (.int b), none, none, none] H := by
  unfold t_L_deed_8
  have ll := h.len
  obtain ⟨rz, hz⟩ : ∃ row, Z[b.toNat]? = some row := ⟨_, List.getElem?_eq_getElem (by omega)⟩
  walk_at "go"
  refine p_like h (by omega) b1 b2 fun H1 s1 => ?_
  have h1 := h.same s1
  walk_at "go"
  refine go_methB h1.bt_ (fun _ _ => rfl) ?_
  walk_at "go"
  refine p_bread h1.bt_ (by omega) hz fun p10 H2 s2 _ e10 => ?_
  walk_at "go"
  rename_i p11 H3 n11
  have h3 := (h1.same s2).same n11.same
  have s03 : Same H H3 := (s1.trans s2).trans n11.same
  have hh3 := hh.same s03
  have e103 := n11.old e10
  have e113 := n11.at
  have no : ∀ {H4 : Hp} {x12 : V}, Same H3 H4 → due ≠ "" → (∀ Q : VK, (∀ H', Same H4 H' → Q (.str due) H') → sp_L_written K a [.ref bt, x6, x12] H4 Q E) → t_L_deed_13 K a E ⟨fun _ H' => Q .non H', Q, F0, F0⟩ [some (.ref bt), some (.ref d), some (.ref O), some (.int c), some (.int m), some (.int n), some x6, some x7, some (.str due), some (.int b), some (.ref p10), some (.ref p11), some x12] H4 :=
    fun {H4 x12} s4 hd hw => deed_no (h3.same s4) (by omega) b1 b2 hd hw (s4 _ _ e103) (s4 _ _ e113) fun H' s => q Z ks H' (.of ((s03.trans s4).trans s)) ((h3.same s4).same s) (by omega)
  have list_ : ∀ {p : Addr} {xs : List V}, x7 = .ref p → H3 p = some (.lst xs) → (∀ p12 H4, New H3 p12 (.lst xs) H4 → t_L_deed_13 K a E ⟨fun _ H' => Q .non H', Q, F0, F0⟩ [some (.ref bt), some (.ref d), some (.ref O), some (.int c), some (.int m), some (.int n), some x6, some x7, some (.str due), some (.int b), some (.ref p10), some (.ref p11), some (.ref p12)] H4) →
      rIsi K [x7, .ty "list"] H3 (BlK fun b_1 H1 => if b_1 = true then tAsg (tCB (rListP K) (tCons (tVar 7) tNil)) (gName 12) ⟨fun σ H => t_L_deed_13 K a E ⟨fun _ H' => Q .non H', Q, F0, F0⟩ σ H, Q, F0, F0⟩ [some (.ref bt), some (.ref d), some (.ref O), some (.int c), some (.int m), some (.int n), some x6, some x7, some (.str due), some (.int b), some (.ref p10), some (.ref p11), some x7] H1 else tNext ⟨fun σ H => t_L_deed_13 K a E ⟨fun _ H' => Q .non H', Q, F0, F0⟩ σ H, Q, F0, F0⟩ [some (.ref bt), some (.ref d), some (.ref O), some (.int c), some (.int m), some (.int n), some x6, some x7, some (.str due), some (.int b), some (.ref p10), some (.ref p11), some x7] H1) := by
    intro p xs ex ep k
    subst ex
    walk_at "go"
    rename_i p12 H4 n12
    exact k p12 H4 n12
  have other : ∀ {t : String}, tyN H3 x7 = some t → t ≠ "list" → t_L_deed_13 K a E ⟨fun _ H' => Q .non H', Q, F0, F0⟩ [some (.ref bt), some (.ref d), some (.ref O), some (.int c), some (.int m), some (.int n), some x6, some x7, some (.str due), some (.int b), some (.ref p10), some (.ref p11), some x7] H3 →
      rIsi K [x7, .ty "list"] H3 (BlK fun b_1 H1 => if b_1 = true then tAsg (tCB (rListP K) (tCons (tVar 7) tNil)) (gName 12) ⟨fun σ H => t_L_deed_13 K a E ⟨fun _ H' => Q .non H', Q, F0, F0⟩ σ H, Q, F0, F0⟩ [some (.ref bt), some (.ref d), some (.ref O), some (.int c), some (.int m), some (.int n), some x6, some x7, some (.str due), some (.int b), some (.ref p10), some (.ref p11), some x7] H1 else tNext ⟨fun σ H => t_L_deed_13 K a E ⟨fun _ H' => Q .non H', Q, F0, F0⟩ σ H, Q, F0, F0⟩ [some (.ref bt), some (.ref d), some (.ref O), some (.int c), some (.int m), some (.int n), some x6, some x7, some (.str due), some (.int b), some (.ref p10), some (.ref p11), some x7] H1) := by
    intro t ht hn k
    cases x7 with
    | int i => walk_at "go"; exact k
    | bl b => walk_at "go"; exact k
    | non => walk_at "go"; exact k
    | str s => walk_at "go"; exact k
    | ref p =>
      rcases kindR ht with ⟨rfl, xs, e⟩ | ⟨rfl, xs, e⟩ | ⟨rfl, kvs, e⟩
      · exact absurd rfl hn
      all_goals (walk_at "go"; exact k)
    | _ => cases ht
  walk_at "go"
  rcases hh3 with ⟨rfl, ⟨p7, row, rfl, e7, g⟩, rfl⟩ | ⟨rfl, odd, rfl⟩ | ⟨⟨t, tx⟩, hx, y7, rfl⟩
  · refine list_ rfl e7 fun p12 H4 n12 => ?_
    exact deed_yes h3 few b1 b2 n12 g e7 e103 e113 fun Z' ks' H' cc hs hl => q Z' ks' H' ((Chg.of s03).trans cc) hs hl
  · rcases odd with ⟨p, xs, rfl, ep, tt, lx, bad⟩ | ⟨t, ht, hn⟩
    · refine list_ rfl ep fun p12 H4 n12 => ?_
      refine no n12.same (by decide) fun Q' q' => p_writtenR (h3.same n12.same) b1 (by omega) (.inl ⟨p12, xs, rfl, n12.at, fun y hy => let ⟨k, z⟩ := tt y hy; ⟨k, tyN_same n12.same z⟩, lx, .inr ⟨bad, rfl⟩⟩) q'
    · refine other ht hn ?_
      exact no (Same.refl _) (by decide) fun Q' q' => p_writtenR h3 b1 (by omega) (.inr ⟨t, ht, hn, rfl⟩) q'
  · have fin : ∀ {H4 : Hp} {x12 : V}, Same H3 H4 → t_L_deed_13 K a E ⟨fun _ H' => Q .non H', Q, F0, F0⟩ [some (.ref bt), some (.ref d), some (.ref O), some (.int c), some (.int m), some (.int n), some x6, some x7, some (.str "block"), some (.int b), some (.ref p10), some (.ref p11), some x12] H4 :=
      fun {H4 x12} s4 => no s4 (by decide) fun Q' q' => p_writtenB (h3.same s4) (tyN_same s4 tx) hx q'
    rcases y7 with ⟨p, row, rfl, ep, _⟩ | ⟨p, xs, rfl, ep, _, _, _⟩ | ⟨t, ht, hn⟩
    · exact list_ rfl ep fun p12 H4 n12 => fin n12.same
    · exact list_ rfl ep fun p12 H4 n12 => fin n12.same
    · exact other ht hn (fin (Same.refl _))
theorem deed_6 {c m b : Int} {x7 : V} {due : Str} (h : S5 a H bt D d r O R Z ks done) (few : ks.length < 60) (b17 : 17 ≤ b) (bl : b < (R.length : Int)) (hx : (∃ p row, x7 = .ref p ∧ H p = some (.lst (row.map V.int)) ∧ GoodRow row) ∧ due = "" ∨ OddR H x7 ∧ due = "row") (q : ∀ Z' ks' H', Chg [D, O] H H' → S5 a H' bt D d r O R Z' ks' done → ks'.length ≤ ks.length + 1 → Q (.bl true) H') :
    t_L_deed_6 K a E ⟨fun _ H' => Q .non H', Q, F0, F0⟩ [some (.ref bt), some (.ref d), some (.ref O), some (.int c), some (.int m), some (.int (R.length : Int)), some (.int b), some x7, some (.str due), none, none, none, none] H := by
  have hm := h.many
  have ll := h.len
  unfold t_L_deed_6
  have bad : ∀ x t H4, Same H H4 → tyN H4 x = some t → isHome R.length x = false → t_L_deed_8 K a E ⟨fun _ H' => Q .non H', Q, F0, F0⟩ [some (.ref bt), some (.ref d), some (.ref O), some (.int c), some (.int m), some (.int (R.length : Int)), some x, some x7, some (.str "block"), some (.int b), none, none, none] H4 := by
    intro x t H4 s4 tx hb
    refine deed_8 (h.same s4) few b17 (by omega) (.inr (.inr ⟨⟨t, tx⟩, hb, ?_, rfl⟩)) fun Z' ks' H' cc hs hl => q Z' ks' H' ((Chg.of s4).trans cc) hs hl
    rcases hx with ⟨⟨p, row, e, f, g⟩, _⟩ | ⟨z, _⟩
    · exact .inl ⟨p, row, e, s4 _ _ f, g⟩
    · exact .inr (z.same s4)
  walk_at "go"
  refine go_dec (fun c1 => ?_) (fun c1 => ?_)
  · walk_at "go"
    refine p_odd_block (n := R.length) rfl (by omega) fun x t H4 s4 tx hb _ => ?_
    walk_at "go"
    exact bad x t H4 s4 tx hb
  · walk_at "go"
    refine go_dec (fun c2 => ?_) (fun c2 => ?_)
    · walk_at "go"
      refine p_odd_block (n := R.length) rfl (by omega) fun x t H4 s4 tx hb _ => ?_
      walk_at "go"
      exact bad x t H4 s4 tx hb
    · walk_at "go"
      refine deed_8 h few b17 (by omega) ?_ q
      rcases hx with ⟨z, y⟩ | ⟨z, y⟩
      · exact .inl ⟨rfl, z, y⟩
      · exact .inr (.inl ⟨rfl, z, y⟩)
theorem deed_3 {c m b : Int} (h : S5 a H bt D d r O R Z ks done) (few : ks.length < 60) (b17 : 17 ≤ b) (bl : b < (R.length : Int)) (q : ∀ Z' ks' H', Chg [D, O] H H' → S5 a H' bt D d r O R Z' ks' done → ks'.length ≤ ks.length + 1 → Q (.bl true) H') :
    t_L_deed_3 K a E ⟨fun _ H' => Q .non H', Q, F0, F0⟩ [some (.ref bt), some (.ref d), some (.ref O), some (.int c), some (.int m), some (.int (R.length : Int)), some (.int b), none, none, none, none, none, none] H := by
  unfold t_L_deed_3
  walk_at "go"
  refine p_rowOf fun p2 H2 s2 _ e2 => ?_
  have g2 := good_rowOf m
  generalize rowOf m = row at e2 g2
  have h2 := h.same s2
  have q2 : ∀ {H3 : Hp}, Same H2 H3 → ∀ Z' ks' H', Chg [D, O] H3 H' → S5 a H' bt D d r O R Z' ks' done → ks'.length ≤ ks.length + 1 → Q (.bl true) H' := fun s3 Z' ks' H' cc hs hl => q Z' ks' H' ((Chg.of (s2.trans s3)).trans cc) hs hl
  walk_at "go"
  refine go_dec (fun c1 => ?_) (fun c1 => ?_)
  · walk_at "go"
    refine p_odd_row fun x H3 s3 ox => ?_
    walk_at "go"
    exact deed_6 (h2.same s3) few b17 bl (.inr ⟨ox, rfl⟩) (q2 s3)
  · walk_at "go"
    refine go_dec (fun c2 => ?_) (fun c2 => ?_)
    · walk_at "go"
      refine p_odd_row fun x H3 s3 ox => ?_
      walk_at "go"
      exact deed_6 (h2.same s3) few b17 bl (.inr ⟨ox, rfl⟩) (q2 s3)
    · walk_at "go"
      exact deed_6 h2 few b17 bl (.inl ⟨⟨p2, row, rfl, e2, g2⟩, rfl⟩) (q2 (Same.refl _))
theorem p_deed {c m : Int} (h : S5 a H bt D d r O R Z ks done) (few : ks.length < 60) (q : ∀ Z' ks' H', Chg [D, O] H H' → S5 a H' bt D d r O R Z' ks' done → ks'.length ≤ ks.length + 1 → Q (.bl true) H') : sp_L_deed K a [.ref bt, .ref d, .ref O, .int c, .int m] H Q E := by
  refine in_L_deed ?_
  unfold t_L_deed
  have hm := h.many
  have ll := h.len
  walk_at "go"
  refine go_methD h.dk (fun _ _ _ => rfl) ?_
  walk_at "go"
  refine p_blocksE h.dk ?_
  walk_at "go"
  have b0 := Int.emod_nonneg (c / 8 % 23 * 48271 % 7919) (show (R.length : Int) - 17 ≠ 0 by omega)
  have b1 := Int.emod_lt_of_pos (c / 8 % 23 * 48271 % 7919) (show 0 < (R.length : Int) - 17 by omega)
  refine go_dec (fun c1 => ?_) (fun c1 => ?_)
  · walk_at "go"
    refine go_ixLo (by walk_at "h") ⟨by omega, by show _ < (4 : Int); omega⟩ fun v hv hi => ?_
    rename_i p1 H1 n1
    have q1 : ∀ Z' ks' H', Chg [D, O] H1 H' → S5 a H' bt D d r O R Z' ks' done → ks'.length ≤ ks.length + 1 → Q (.bl true) H' := fun Z' ks' H' cc hs hl => q Z' ks' H' ((Chg.of n1.same).trans cc) hs hl
    simp only [List.mem_cons, List.not_mem_nil, or_false] at hv
    rcases hv with rfl | rfl | rfl | rfl
    all_goals
      walk_at "go"
      exact deed_3 (h.same n1.same) few (by omega) (by omega) q1
  · walk_at "go"
    exact deed_3 h few (by omega) (by omega) q
end

end Bk

namespace Bk
open PySem L2 PyProof.Rows
/-! our own short tactics: h: what stands at a place; ne: two places; sm: what stood stands; z: a size; s: a step; go: steps -/
local macro_rules | `(tactic| walk_at "h") => `(tactic| first
  | assumption
  | exact New.at (by assumption)
  | exact Wr.at (by assumption)
  | (refine' New.old (by assumption) ?_; walk_at "h")
  | (refine' Same.at (by assumption) ?_; walk_at "h")
  | (refine' Wr.old (by assumption) ?_ ?_; walk_at "ne"; walk_at "h")
  | (refine' Chg.at (by assumption) ?_ ?_; walk_at "ni"; walk_at "h"))
local macro_rules | `(tactic| walk_at "ni") => `(tactic| first
  | exact ni_nil
  | assumption
  | (refine' ni_cons ?_ ?_; walk_at "ne"; walk_at "ni"))
local macro_rules | `(tactic| walk_at "ne") => `(tactic| first
  | assumption
  | exact Ne.symm (by assumption)
  | exact New.ne (by assumption) (by walk_at "h")
  | exact ne_none (by assumption) (by walk_at "h")
  | exact Ne.symm (ne_none (by assumption) (by walk_at "h"))
  | exact Ne.symm (New.ne (by assumption) (by walk_at "h")))
local macro_rules | `(tactic| walk_at "sm") => `(tactic| first
  | exact Same.refl _
  | assumption
  | (refine' Same.trans ?_ (New.same (by assumption)); walk_at "sm")
  | (refine' Same.trans ?_ (by assumption : Same _ _); walk_at "sm"))
local macro_rules | `(tactic| walk_at "z") => `(tactic| first
  | assumption
  | (rw [PySem.sizeLine_eq]; omega)
  | (rw [PySem.sizeLine_eq]; simp only [List.length_cons, List.length_nil, List.length_append, List.length_map, List.length_range, List.length_replicate, len_cut]; omega)
  | (rw [PySem.sizeLine_eq]; simp only [List.length_cons, List.length_nil, List.length_append, List.length_map, List.length_range, List.length_replicate, len_cut] at *; omega))
local macro_rules | `(tactic| walk_at "s") => `(tactic| first
  | ((with_reducible refine' go_var ?h ?_); (case h => exact rfl))
  | (with_reducible refine' go_c ?_)
  | (with_reducible refine' go_op ?_)
  | (with_reducible refine' go_un ?_)
  | (with_reducible refine' go_rU ?_)
  | (with_reducible refine' go_seq ?_)
  | (with_reducible refine' go_ret ?_)
  | (with_reducible refine' go_retN ?_)
  | (with_reducible refine' go_next ?_)
  | (with_reducible refine' go_drop ?_)
  | (with_reducible refine' go_asg ?_)
  | ((with_reducible refine' go_name2 ?h ?_); (case h => (simp only [List.set_cons_zero, List.set_cons_succ]; exact rfl)))
  | ((with_reducible refine' go_name2 ?h ?_); (case h => exact rfl))
  | (with_reducible refine' go_ifS ?_)
  | (with_reducible refine' go_blk ?_)
  | (with_reducible refine' go_test ?_)
  | (with_reducible refine' go_tB ?_)
  | (with_reducible refine' go_and ?_)
  | (with_reducible refine' go_or ?_)
  | (with_reducible refine' go_not ?_)
  | (with_reducible refine' go_andV ?_)
  | (with_reducible refine' go_orV ?_)
  | (with_reducible refine' go_notV ?_)
  | (with_reducible refine' go_if ?_)
  | (with_reducible refine' go_chain ?_)
  | (with_reducible refine' iteT ?_)
  | (with_reducible refine' iteF ?_)
  | ((with_reducible refine' go_Td ?h ?_); (case h => walk_at "pr"))
  | ((with_reducible refine' go_Fd ?h ?_); (case h => walk_at "pr"))
  | ((with_reducible refine' go_Tn ?h ?_); (case h => walk_at "pr"))
  | ((with_reducible refine' go_Fn ?h ?_); (case h => walk_at "pr"))
  | ((with_reducible refine' go_T ?h ?_); (case h => (first | decide | assumption | exact rfl)))
  | ((with_reducible refine' go_F ?h ?_); (case h => (first | decide | assumption | exact rfl)))
  | (with_reducible refine' go_nil ?_)
  | (with_reducible refine' go_cons ?_)
  | (with_reducible refine' go_tLst ?_)
  | (with_reducible refine' go_tTup ?_)
  | ((with_reducible refine' go_LstK ?h ?_); (case h => walk_at "z"); intro p H1 n1)
  | ((with_reducible refine' go_TupK ?h ?_); (case h => walk_at "z"); intro p H1 n1)
  | (with_reducible refine' go_addI ?_)
  | ((with_reducible refine' go_addL ?h ?k ?z ?_); (case h => walk_at "h"); (case k => walk_at "h"); (case z => walk_at "z"); intro p H1 n1)
  | (with_reducible refine' go_sub ?_)
  | ((with_reducible refine' go_mulI ?h ?_); (case h => (unfold CMul; omega)))
  | ((with_reducible refine' go_mulL ?h ?k ?_); (case h => walk_at "h"); (case k => (refine ⟨by omega, by omega, ?_⟩; walk_at "z")); intro p H1 n1)
  | ((with_reducible refine' go_div ?h ?_); (case h => (unfold CDiv; omega)))
  | ((with_reducible refine' go_mod ?h ?_); (case h => omega))
  | (with_reducible refine' go_p109 ?_)
  | (with_reducible refine' go_p1020 ?_)
  | ((with_reducible refine' go_pow ?h ?_); (case h => (unfold CPow; omega)))
  | (with_reducible refine' go_lt ?_)
  | (with_reducible refine' go_le ?_)
  | (with_reducible refine' go_gt ?_)
  | (with_reducible refine' go_ge ?_)
  | (with_reducible refine' go_eqI ?_)
  | (with_reducible refine' go_eqB ?_)
  | (with_reducible refine' go_eqS ?_)
  | (with_reducible refine' go_neI ?_)
  | (with_reducible refine' go_neB ?_)
  | (with_reducible refine' go_neS ?_)
  | (with_reducible refine' go_isN ?_)
  | (with_reducible refine' go_isNotN ?_)
  | (with_reducible refine' go_isB ?_)
  | (with_reducible refine' go_isNotB ?_)
  | (with_reducible refine' go_sl ?_)
  | (with_reducible refine' go_noPart ?_)
  | (with_reducible refine' go_part ?_)
  | (with_reducible refine' go_intK ?_)
  | ((with_reducible refine' go_slL ?h ?_); (case h => walk_at "h"); intro p H1 n1)
  | ((with_reducible refine' go_ixL ?h ?k ?_); (case h => walk_at "h"); (case k => exact rfl))
  | ((with_reducible refine' go_ixT ?h ?k ?_); (case h => walk_at "h"); (case k => exact rfl))
  | ((with_reducible refine' go_slW ?h ?_); (case h => walk_at "h"))
  | (with_reducible refine' go_bm ?_)
  | (with_reducible refine' go_bm0 ?_)
  | ((with_reducible refine' go_bmL ?h ?_); (case h => walk_at "h"))
  | ((with_reducible refine' go_append ?h ?k ?_); (case h => walk_at "h"); (case k => walk_at "z"); intro H1 n1)
  | ((with_reducible refine' go_extend ?h ?k ?z ?_); (case h => walk_at "h"); (case k => walk_at "h"); (case z => walk_at "z"); intro H1 n1)
  | ((with_reducible refine' go_clear ?h ?_); (case h => walk_at "h"); intro H1 n1)
  | ((with_reducible refine' go_dnew ?_); intro p H1 n1)
  | (with_reducible refine' go_cb ?_)
  | (with_reducible refine' go_callS ?_)
  | (with_reducible refine' go_call0 ?_)
  | ((with_reducible refine' go_lenL ?h ?_); (case h => walk_at "h"))
  | ((with_reducible refine' go_lenT ?h ?_); (case h => walk_at "h"))
  | ((with_reducible refine' go_lenK ?h ?_); (case h => walk_at "hk"))
  | ((with_reducible refine' go_listL ?h ?_); (case h => walk_at "h"); intro p H1 n1)
  | ((with_reducible refine' go_listT ?h ?_); (case h => walk_at "h"); intro p H1 n1)
  | ((with_reducible refine' go_tupleL ?h ?_); (case h => walk_at "h"); intro p H1 n1)
  | (with_reducible refine' go_intI ?_)
  | (with_reducible refine' go_intB ?_)
  | (with_reducible refine' go_abs ?_)
  | (with_reducible refine' go_min2 ?_)
  | (with_reducible refine' go_max2 ?_)
  | ((with_reducible refine' go_isi ?h ?k ?_); (case h => walk_at "ty"); (case k => exact kit_bb (by decide) (by decide)))
  | (with_reducible refine' go_lc ?_)
  | (with_reducible refine' go_for ?_)
  | (with_reducible refine' go_seqP ?_)
  | ((with_reducible refine' go_seqL ?h ?_); (case h => walk_at "h"))
  | ((with_reducible refine' go_seqT ?h ?_); (case h => walk_at "h"))
  | (with_reducible refine' go_seqS ?_)
  | (with_reducible refine' go_rng1 ?_)
  | (with_reducible refine' go_rng2 ?_)
  | ((with_reducible refine' go_rng1K ?h ?_); (case h => omega))
  | ((with_reducible refine' go_rng2K ?h ?_); (case h => omega))
  | (with_reducible refine' go_raise ?_)
  | ((with_reducible refine' go_tupG ?h ?k ?_); (case h => walk_at "h"); (case k => exact rfl))
  | ((with_reducible refine' go_lstG ?h ?k ?_); (case h => walk_at "h"); (case k => exact rfl))
  | (with_reducible refine' go_gNil ?_)
  | (with_reducible refine' go_tryAs ?_)
  | (with_reducible refine' go_tryMany1 ?_)
  | (with_reducible refine' go_tryMany2 ?_)
  | (with_reducible refine' go_WM ?_)
  | ((with_reducible refine' go_asT ?_); intro e he)
  | (with_reducible refine' go_asF ?_)
  | ((with_reducible refine' go_manyT ?_); intro e he)
  | (with_reducible refine' go_manyF ?_)
  | (with_reducible refine' go_manyN ?_)
  | (with_reducible refine' go_fld ?_)
  | ((with_reducible refine' go_FldK ?h ?c ?n ?l ?_); (case h => walk_at "h"); (case c => infer_instance); (case n => infer_instance); (case l => exact rfl))
  | (with_reducible refine' go_sfld ?_)
  | ((with_reducible refine' go_SFldK ?h ?c ?n ?l ?e ?_); (case h => walk_at "h"); (case c => infer_instance); (case n => infer_instance); (case l => exact Nat.le_of_ble_eq_true rfl); (case e => walk_at "pf"); intro H1 n1)
  | (with_reducible refine' go_meth ?_)
  | ((with_reducible refine' go_MethK 0 ?h ?l ?e ?_); (case h => walk_at "h"); (case l => exact rfl); (case e => exact rfl))
  | ((with_reducible refine' go_MethK 1 ?h ?l ?e ?_); (case h => walk_at "h"); (case l => exact rfl); (case e => exact rfl))
  | ((with_reducible refine' go_MethK 2 ?h ?l ?e ?_); (case h => walk_at "h"); (case l => exact rfl); (case e => exact rfl))
  | (with_reducible refine' go_make ?_)
  | (with_reducible refine' go_callX ?_)
  | (with_reducible refine' go_methX ?_)
  | ((with_reducible refine' go_MethXK ?h ?l ?_); (case h => walk_at "h"); (case l => exact rfl))
  | (with_reducible refine' go_dget ?_)
  | ((with_reducible refine' go_DGetS ?h ?l ?_); (case h => walk_at "h"); (case l => exact rfl))
  | (with_reducible refine' go_dput ?_)
  | ((with_reducible refine' go_DPutS ?h ?l ?e ?_); (case h => walk_at "h"); (case l => exact Nat.le_of_ble_eq_true rfl); (case e => walk_at "pk"); intro H1 n1)
  | ((with_reducible refine' go_disp ?_); intro p H1 n1)
  | (with_reducible refine' go_pairs ?_)
  | (with_reducible refine' go_pairs0 ?_)
  | ((with_reducible refine' go_DispS ?h ?e ?l ?k ?j ?m ?_); (case h => walk_at "h"); (case e => exact rfl); (case l => exact Nat.le_of_ble_eq_true rfl); (case k => (simp only [unS]; exact rfl)); (case j => (simp only [List.map_cons, List.map_nil]; exact rfl)); (case m => decide +kernel); intro H1 n1)
  | (with_reducible refine' go_par ?_)
  | ((with_reducible refine' go_ParK ?h ?_); (case h => (simp only [List.set_cons_zero, List.set_cons_succ]; exact rfl)))
  | (with_reducible refine' go_sub_ ?_)
  | ((with_reducible refine' go_setLi ?h ?k ?_); (case h => walk_at "h"); (case k => walk_at "ix"); intro H1 n1)
  | (with_reducible refine' go_listY ?_)
  | ((with_reducible refine' go_listYL ?h ?_); (case h => walk_at "h"))
  | (with_reducible refine' go_bmS ?_)
  | (with_reducible refine' go_ckw ?_)
  | ((with_reducible refine' go_maxD ?h ?_); (case h => walk_at "h"))
  | (with_reducible refine' go_listR ?_)
  | (with_reducible refine' go_rg2 ?_)
  | (with_reducible refine' go_Rg2K ?_)
  | (with_reducible refine' go_rg1 ?_)
  | (with_reducible refine' go_Rg1K ?_)
  | ((with_reducible refine' go_ListRK ?h ?_); (case h => omega); intro p H1 n1)
  | (with_reducible refine' go_enum ?_)
  | ((with_reducible refine' go_EnumL ?h ?_); (case h => walk_at "h"))
  | (with_reducible refine' go_isX ?_)
  | (with_reducible refine' go_isXt ?_)
  | (with_reducible refine' go_din ?_)
  | (with_reducible refine' go_dnotin ?_)
  | ((with_reducible refine' go_DInI ?h ?_); (case h => walk_at "h"))
  | ((with_reducible refine' go_DNotInI ?h ?_); (case h => walk_at "h"))
  | (with_reducible refine' go_dget2 ?_)
  | ((with_reducible refine' go_DGet2K ?h ?_); (case h => walk_at "h"))
  | (with_reducible refine' go_dpop1 ?_)
  | ((with_reducible refine' go_eqDE ?h ?k ?_); (case h => walk_at "h"); (case k => walk_at "h"))
  | ((with_reducible refine' go_neDE ?h ?k ?_); (case h => walk_at "h"); (case k => walk_at "h"))
  | (with_reducible refine' go_chain3 ?_)
  | (with_reducible refine' go_LinkT ?_)
  | (with_reducible refine' go_LinkF ?_)
  | (with_reducible refine' go_Link2T ?_)
  | (with_reducible refine' go_Link2F ?_)
  | (with_reducible refine' go_gSl ?_)
  | ((with_reducible refine' go_insert ?h ?k ?l ?m ?_); (case h => walk_at "h"); (case k => walk_at "z"); (case l => omega); (case m => omega); intro H1 n1)
  | (with_reducible refine' go_gCons ?_))
local macro_rules | `(tactic| walk_at "pf") => `(tactic| first
  | exact putF_nil
  | exact putF_hit
  | (refine' putF_miss ?h ?k; (case h => decide +kernel); (case k => walk_at "pf")))
local macro_rules | `(tactic| walk_at "pk") => `(tactic| first
  | exact putK_nil
  | exact putK_hit (by (simp only [List.map_cons, List.map_nil]; decide +kernel))
  | (refine' putK_miss ?h ?k; (case h => decide +kernel); (case k => walk_at "pk")))
local macro_rules | `(tactic| walk_at "ix") => `(tactic| first
  | assumption
  | omega
  | (simp only [List.length_cons, List.length_nil, List.length_append, List.length_map, List.length_range, List.length_replicate, List.length_set] at *; omega))
local macro_rules | `(tactic| walk_at "pr") => `(tactic| first
  | assumption
  | decide
  | omega
  | exact rfl
  | (intro z; cases z; done))
local macro_rules | `(tactic| walk_at "hk") => `(tactic| first
  | assumption
  | exact seq' (by assumption) (by walk_at "sm"))
local macro_rules | `(tactic| walk_at "ty") => `(tactic| first
  | exact rfl
  | assumption
  | exact tyN_L (by walk_at "h")
  | exact tyN_T (by walk_at "h")
  | exact tyN_D (by walk_at "h"))
local macro_rules | `(tactic| walk_at "go") => `(tactic| repeat (walk_at "s"))
/-! ### finished -/
section
variable {K : PySem.W.Frag} {a : Ac} {H H' : Hp} {Q : VK} {E : XK} [F : Fc K a] {bt D d r O BL : Addr} {R Z : List (List Int)} {ks : List Int} {done : Int} {ls : List Addr}
theorem p_commitMuch {P : Addr} {ts qs : List Addr} {prs : List (Int × List Int)} (hP : PrsAt H P ts qs prs) (hl : 15 < prs.length) (hz : prs.length ≤ 100) (b : E (.ref a.TooMuch) none H) : sp_commit K a [.ref d, .ref P] H Q E := by
  refine in_commit ?_
  unfold t_commit
  walk_at "go"
  refine in_need_pairs ?_
  unfold t_need_pairs
  have rr := hP.rr
  have lt := hP.lt
  walk_at "go"
  rw [List.length_map, lt]
  refine go_dec (fun _ => ?_) (fun c => absurd (by omega) c)
  walk_at "go"
  exact b
theorem p_bfinishMuch (h : BtAt a H bt D d r Z ks done) (hl : 15 < ks.length) (few : ks.length < 64) (b : ∀ H', Same H H' → E (.ref a.TooMuch) none H') : sp_Batch_finish K a [.ref bt] H Q E := by
  refine in_Batch_finish ?_
  unfold t_Batch_finish
  obtain ⟨dx, e⟩ := h.ob
  walk_at "go"
  refine p_pairs5 h few fun P ts qs prs H1 s1 Pn hA hp _ _ => ?_
  have lp : prs.length = ks.length := by rw [← hp.perm.length_eq, List.length_map]
  walk_at "go"
  exact p_commitMuch hA (by omega) (by omega) (b H1 s1)
theorem p_bfinish1 (h : BtAt a H bt D d r Z ks done) (few : ks.length ≤ 15) (z1 : Z[1]? = some (List.replicate 16 0)) (q : ∀ D' Z' done' H', H D' = none → Chg [bt, d, r] H H' → BtAt a H' bt D' d r Z' [] done' → Z'.length = Z.length → (∀ i, 17 ≤ i ∨ i = 0 → Z'[i]? = Z[i]?) → done' = done + (if ks = [] then (0 : Int) else 2 * (ks.length : Int) + 2) → Z'[1]? = some (List.replicate 16 0) → DkEx a [] H' d r Z' done' none → Q .non H') : sp_Batch_finish K a [.ref bt] H Q E := by
  refine in_Batch_finish ?_
  unfold t_Batch_finish
  obtain ⟨dx, e⟩ := h.ob
  have nn := h.nes
  walk_at "go"
  refine p_bpairs h (by omega) fun P ts qs prs H1 s1 Pn hA hperm up hrow hts hqs => ?_
  have hm := h.many
  have hk := h.keys.2
  obtain ⟨R, psl, h1, h2, hks⟩ := h.ex
  have len := h2.len
  have lp : prs.length = ks.length := by rw [← hperm.length_eq, List.length_map]
  have g : GoodPrs R.length prs := ⟨by omega, fun p hp => by have := hrow p hp; exact ⟨this.1, by omega, this.2.2.1⟩, up⟩
  walk_at "go"
  refine p_commit (h1.same s1) hA g ⟨fun _ H2 c2 hd2 => ?_, fun n e => nomatch e⟩
  have e2 := c2.at (by simp [nn.2.1, nn.2.2.2.2.2]) (s1 _ _ e)
  walk_at "go"
  rename_i D2 H3 n3 H4 w4
  have e3 := n3.old e2
  have cbt : Chg [bt] H3 H4 := .wr w4 (by simp)
  have D2bt : D2 ≠ bt := Ne.symm (ne_none n3.free e2)
  have h4 : DkEx a [] H4 d r (applyW (commitW prs) R) (done + (commitW prs).length) none := (hd2.same n3.same).chg cbt (by simpa using Ne.symm nn.2.2.2.2.2) (by simpa using Ne.symm nn.2.1) (fun b hb => by rw [List.mem_singleton.mp hb]; exact .ins e3)
  have c24 : Chg [bt, d, r] H H4 := (((Chg.of s1).trans (c2.mono (by simp))).trans (.of n3.same)).trans (cbt.mono (by simp))
  have D2n : H D2 = none := by
    cases z : H D2 with
    | none => rfl
    | some u =>
      have n2 := n3.free
      by_cases zd : D2 = d ∨ D2 = r
      · have hf := (DkEx.fresh hd2 n2)
        rcases zd with zd | zd
        · exact absurd zd hf.1
        · exact absurd zd hf.2
      · rw [c2.at (by simpa using zd) (s1 _ _ z)] at n2; cases n2
  have r1 : R[1]? = some (List.replicate 16 0) := by
    rw [← z1]
    refine (h2.miss 1 fun p hp z => ?_).symm
    have := (hk p.1 (by rw [← hks]; exact List.mem_map_of_mem (f := (·.1)) hp)).1
    omega
  have o1 : (applyW (commitW prs) R)[1]? = some (List.replicate 16 0) := by
    unfold commitW
    split
    · exact r1
    · rw [applyW_app, applyW_app, applyW_app]
      show ((applyW (homesW prs) ((applyW (logW prs) R).set 1 (headRow prs))).set 1 (List.replicate 16 0))[1]? = _
      exact List.getElem?_set_self (by rw [applyW_len, List.length_set, applyW_len]; omega)
  refine q D2 (applyW (commitW prs) R) _ H4 D2n c24 ⟨⟨_, [], h4, ⟨cbt.at (by simpa using D2bt) n3.at, by simp, rfl, by simp, fun _ _ => rfl⟩, rfl⟩, dx, w4.at⟩ (by rw [applyW_len, len]) (fun i hi => ?_) ?_ o1 h4
  · rw [commit_at g hi]
    by_cases c : ∃ p ∈ prs, p.1.toNat = i
    · obtain ⟨p, hp, rfl⟩ := c
      rw [homes_at (fun p hp => ⟨(g.row p hp).1, (g.row p hp).2.1⟩) g.up p hp, (hrow p hp).2.2.2]
    · rw [homes_ne fun p hp z => c ⟨p, hp, z⟩]
      refine (h2.miss i fun p hp z => c ?_).symm
      have : p.1 ∈ prs.map (·.1) := hperm.symm.subset (by rw [← hks]; exact List.mem_map_of_mem (f := (·.1)) hp)
      obtain ⟨p', hp', e'⟩ := List.mem_map.mp this
      exact ⟨p', hp', by rw [e', z]; simp⟩
  · rw [commitW_len]
    have : prs = [] ↔ ks = [] := by rw [← List.length_eq_zero_iff, ← List.length_eq_zero_iff, lp]
    by_cases c : ks = []
    · rw [if_pos c, if_pos (this.mpr c)]
    · rw [if_neg c, if_neg (fun z => c (this.mp z)), lp]
end
section
variable {K : PySem.W.Frag} {a : Ac} {H H' : Hp} {Q : VK} {E : XK} [F : Fc K a] {bt D d r O BL : Addr} {R Z : List (List Int)} {ks : List Int} {done : Int} {ls : List Addr}
omit F in
/-- [own.get(b, base[b]) for b in range(n)], told -/
theorem due_all {pso : List (Int × V)} (h : DRows H O pso R Z) (hB : RowsAt H BL ls R) : ∃ xs : List Addr, (List.range R.length).map (fun i : Nat => (valV (dI pso) (.inl (i : Int))).getD (.ref (ls.getD i 0))) = xs.map V.ref ∧ xs.length = R.length ∧ ∀ (i : Nat) p, xs[i]? = some p → ∃ row, Z[i]? = some row ∧ H p = some (.lst (row.map V.int)) := by
  have ll := h.len
  have key : ∀ i, i < R.length → ∃ x, (valV (dI pso) (.inl (i : Int))).getD (.ref (ls.getD i 0)) = .ref x ∧ ∃ row, Z[i]? = some row ∧ H x = some (.lst (row.map V.int)) := fun i hi => by
    obtain ⟨p, rd, e1, e2, _, e4⟩ := hB.at hi
    obtain ⟨rz, hz⟩ : ∃ row, Z[i]? = some row := ⟨_, List.getElem?_eq_getElem (by omega)⟩
    have eg : ls.getD i 0 = p := by rw [List.getD_eq_getElem?_getD, e1]; rfl
    rw [eg]
    obtain ⟨x, a1, a2⟩ := due_at (b := (i : Int)) h (by omega) (by simpa using hz) (by simpa using e2) e4
    exact ⟨x, a1, rz, hz, a2⟩
  have : ∀ n, n ≤ R.length → ∃ xs : List Addr, (List.range n).map (fun i : Nat => (valV (dI pso) (.inl (i : Int))).getD (.ref (ls.getD i 0))) = xs.map V.ref ∧ xs.length = n ∧ ∀ (i : Nat) p, xs[i]? = some p → ∃ row, Z[i]? = some row ∧ H p = some (.lst (row.map V.int)) := fun n => by
    induction n with
    | zero => exact fun _ => ⟨[], rfl, rfl, by simp⟩
    | succ n ih =>
      intro hn
      obtain ⟨xs, e1, e2, e3⟩ := ih (by omega)
      obtain ⟨x, f1, f2⟩ := key n (by omega)
      refine ⟨xs ++ [x], ?_, by simp [e2], fun i p hp => ?_⟩
      · rw [List.range_succ, List.map_append, e1, List.map_append]
        refine congrArg (xs.map V.ref ++ ·) ?_
        show [(valV (dI pso) (.inl (n : Int))).getD (.ref (ls.getD n 0))] = [V.ref x]
        rw [f1]
      · rcases get_snoc hp with k | ⟨k, rfl⟩
        · exact e3 i p k
        · rw [k, e2]; exact f2
  exact this _ (Nat.le_refl _)
end

end Bk

namespace Bk
open PySem L2 PyProof.Rows
/-! our own short tactics: h: what stands at a place; ne: two places; sm: what stood stands; z: a size; s: a step; go: steps -/
local macro_rules | `(tactic| walk_at "h") => `(tactic| first
  | assumption
  | exact New.at (by assumption)
  | exact Wr.at (by assumption)
  | (refine' New.old (by assumption) ?_; walk_at "h")
  | (refine' Same.at (by assumption) ?_; walk_at "h")
  | (refine' Wr.old (by assumption) ?_ ?_; walk_at "ne"; walk_at "h")
  | (refine' Chg.at (by assumption) ?_ ?_; walk_at "ni"; walk_at "h"))
local macro_rules | `(tactic| walk_at "ni") => `(tactic| first
  | exact ni_nil
  | assumption
  | (refine' ni_cons ?_ ?_; walk_at "ne"; walk_at "ni"))
local macro_rules | `(tactic| walk_at "ne") => `(tactic| first
  | assumption
  | exact Ne.symm (by assumption)
  | exact New.ne (by assumption) (by walk_at "h")
  | exact ne_none (by assumption) (by walk_at "h")
  | exact Ne.symm (ne_none (by assumption) (by walk_at "h"))
  | exact Ne.symm (New.ne (by assumption) (by walk_at "h")))
local macro_rules | `(tactic| walk_at "sm") => `(tactic| first
  | exact Same.refl _
  | assumption
  | (refine' Same.trans ?_ (New.same (by assumption)); walk_at "sm")
  | (refine' Same.trans ?_ (by assumption : Same _ _); walk_at "sm"))
local macro_rules | `(tactic| walk_at "z") => `(tactic| first
  | assumption
  | (rw [PySem.sizeLine_eq]; omega)
  | (rw [PySem.sizeLine_eq]; simp only [List.length_cons, List.length_nil, List.length_append, List.length_map, List.length_range, List.length_replicate, len_cut]; omega)
  | (rw [PySem.sizeLine_eq]; simp only [List.length_cons, List.length_nil, List.length_append, List.length_map, List.length_range, List.length_replicate, len_cut] at *; omega))
local macro_rules | `(tactic| walk_at "s") => `(tactic| first
  | ((with_reducible refine' go_var ?h ?_); (case h => exact rfl))
  | (with_reducible refine' go_c ?_)
  | (with_reducible refine' go_op ?_)
  | (with_reducible refine' go_un ?_)
  | (with_reducible refine' go_rU ?_)
  | (with_reducible refine' go_seq ?_)
  | (with_reducible refine' go_ret ?_)
  | (with_reducible refine' go_retN ?_)
  | (with_reducible refine' go_next ?_)
  | (with_reducible refine' go_drop ?_)
  | (with_reducible refine' go_asg ?_)
  | ((with_reducible refine' go_name2 ?h ?_); (case h => (simp only [List.set_cons_zero, List.set_cons_succ]; exact rfl)))
  | ((with_reducible refine' go_name2 ?h ?_); (case h => exact rfl))
  | (with_reducible refine' go_ifS ?_)
  | (with_reducible refine' go_blk ?_)
  | (with_reducible refine' go_test ?_)
  | (with_reducible refine' go_tB ?_)
  | (with_reducible refine' go_and ?_)
  | (with_reducible refine' go_or ?_)
  | (with_reducible refine' go_not ?_)
  | (with_reducible refine' go_andV ?_)
  | (with_reducible refine' go_orV ?_)
  | (with_reducible refine' go_notV ?_)
  | (with_reducible refine' go_if ?_)
  | (with_reducible refine' go_chain ?_)
  | (with_reducible refine' iteT ?_)
  | (with_reducible refine' iteF ?_)
  | ((with_reducible refine' go_Td ?h ?_); (case h => walk_at "pr"))
  | ((with_reducible refine' go_Fd ?h ?_); (case h => walk_at "pr"))
  | ((with_reducible refine' go_Tn ?h ?_); (case h => walk_at "pr"))
  | ((with_reducible refine' go_Fn ?h ?_); (case h => walk_at "pr"))
  | ((with_reducible refine' go_T ?h ?_); (case h => (first | decide | assumption | exact rfl)))
  | ((with_reducible refine' go_F ?h ?_); (case h => (first | decide | assumption | exact rfl)))
  | (with_reducible refine' go_nil ?_)
  | (with_reducible refine' go_cons ?_)
  | (with_reducible refine' go_tLst ?_)
  | (with_reducible refine' go_tTup ?_)
  | ((with_reducible refine' go_LstK ?h ?_); (case h => walk_at "z"); intro p H1 n1)
  | ((with_reducible refine' go_TupK ?h ?_); (case h => walk_at "z"); intro p H1 n1)
  | (with_reducible refine' go_addI ?_)
  | ((with_reducible refine' go_addL ?h ?k ?z ?_); (case h => walk_at "h"); (case k => walk_at "h"); (case z => walk_at "z"); intro p H1 n1)
  | (with_reducible refine' go_sub ?_)
  | ((with_reducible refine' go_mulI ?h ?_); (case h => (unfold CMul; omega)))
  | ((with_reducible refine' go_mulL ?h ?k ?_); (case h => walk_at "h"); (case k => (refine ⟨by omega, by omega, ?_⟩; walk_at "z")); intro p H1 n1)
  | ((with_reducible refine' go_div ?h ?_); (case h => (unfold CDiv; omega)))
  | ((with_reducible refine' go_mod ?h ?_); (case h => omega))
  | (with_reducible refine' go_p109 ?_)
  | (with_reducible refine' go_p1020 ?_)
  | ((with_reducible refine' go_pow ?h ?_); (case h => (unfold CPow; omega)))
  | (with_reducible refine' go_lt ?_)
  | (with_reducible refine' go_le ?_)
  | (with_reducible refine' go_gt ?_)
  | (with_reducible refine' go_ge ?_)
  | (with_reducible refine' go_eqI ?_)
  | (with_reducible refine' go_eqB ?_)
  | (with_reducible refine' go_eqS ?_)
  | (with_reducible refine' go_neI ?_)
  | (with_reducible refine' go_neB ?_)
  | (with_reducible refine' go_neS ?_)
  | (with_reducible refine' go_isN ?_)
  | (with_reducible refine' go_isNotN ?_)
  | (with_reducible refine' go_isB ?_)
  | (with_reducible refine' go_isNotB ?_)
  | (with_reducible refine' go_sl ?_)
  | (with_reducible refine' go_noPart ?_)
  | (with_reducible refine' go_part ?_)
  | (with_reducible refine' go_intK ?_)
  | ((with_reducible refine' go_slL ?h ?_); (case h => walk_at "h"); intro p H1 n1)
  | ((with_reducible refine' go_ixL ?h ?k ?_); (case h => walk_at "h"); (case k => exact rfl))
  | ((with_reducible refine' go_ixT ?h ?k ?_); (case h => walk_at "h"); (case k => exact rfl))
  | ((with_reducible refine' go_slW ?h ?_); (case h => walk_at "h"))
  | (with_reducible refine' go_bm ?_)
  | (with_reducible refine' go_bm0 ?_)
  | ((with_reducible refine' go_bmL ?h ?_); (case h => walk_at "h"))
  | ((with_reducible refine' go_append ?h ?k ?_); (case h => walk_at "h"); (case k => walk_at "z"); intro H1 n1)
  | ((with_reducible refine' go_extend ?h ?k ?z ?_); (case h => walk_at "h"); (case k => walk_at "h"); (case z => walk_at "z"); intro H1 n1)
  | ((with_reducible refine' go_clear ?h ?_); (case h => walk_at "h"); intro H1 n1)
  | ((with_reducible refine' go_dnew ?_); intro p H1 n1)
  | (with_reducible refine' go_cb ?_)
  | (with_reducible refine' go_callS ?_)
  | (with_reducible refine' go_call0 ?_)
  | ((with_reducible refine' go_lenL ?h ?_); (case h => walk_at "h"))
  | ((with_reducible refine' go_lenT ?h ?_); (case h => walk_at "h"))
  | ((with_reducible refine' go_lenK ?h ?_); (case h => walk_at "hk"))
  | ((with_reducible refine' go_listL ?h ?_); (case h => walk_at "h"); intro p H1 n1)
  | ((with_reducible refine' go_listT ?h ?_); (case h => walk_at "h"); intro p H1 n1)
  | ((with_reducible refine' go_tupleL ?h ?_); (case h => walk_at "h"); intro p H1 n1)
  | (with_reducible refine' go_intI ?_)
  | (with_reducible refine' go_intB ?_)
  | (with_reducible refine' go_abs ?_)
  | (with_reducible refine' go_min2 ?_)
  | (with_reducible refine' go_max2 ?_)
  | ((with_reducible refine' go_isi ?h ?k ?_); (case h => walk_at "ty"); (case k => exact kit_bb (by decide) (by decide)))
  | (with_reducible refine' go_lc ?_)
  | (with_reducible refine' go_for ?_)
  | (with_reducible refine' go_seqP ?_)
  | ((with_reducible refine' go_seqL ?h ?_); (case h => walk_at "h"))
  | ((with_reducible refine' go_seqT ?h ?_); (case h => walk_at "h"))
  | (with_reducible refine' go_seqS ?_)
  | (with_reducible refine' go_rng1 ?_)
  | (with_reducible refine' go_rng2 ?_)
  | ((with_reducible refine' go_rng1K ?h ?_); (case h => omega))
  | ((with_reducible refine' go_rng2K ?h ?_); (case h => omega))
  | (with_reducible refine' go_raise ?_)
  | ((with_reducible refine' go_tupG ?h ?k ?_); (case h => walk_at "h"); (case k => exact rfl))
  | ((with_reducible refine' go_lstG ?h ?k ?_); (case h => walk_at "h"); (case k => exact rfl))
  | (with_reducible refine' go_gNil ?_)
  | (with_reducible refine' go_tryAs ?_)
  | (with_reducible refine' go_tryMany1 ?_)
  | (with_reducible refine' go_tryMany2 ?_)
  | (with_reducible refine' go_WM ?_)
  | ((with_reducible refine' go_asT ?_); intro e he)
  | (with_reducible refine' go_asF ?_)
  | ((with_reducible refine' go_manyT ?_); intro e he)
  | (with_reducible refine' go_manyF ?_)
  | (with_reducible refine' go_manyN ?_)
  | (with_reducible refine' go_fld ?_)
  | ((with_reducible refine' go_FldK ?h ?c ?n ?l ?_); (case h => walk_at "h"); (case c => infer_instance); (case n => infer_instance); (case l => exact rfl))
  | (with_reducible refine' go_sfld ?_)
  | ((with_reducible refine' go_SFldK ?h ?c ?n ?l ?e ?_); (case h => walk_at "h"); (case c => infer_instance); (case n => infer_instance); (case l => exact Nat.le_of_ble_eq_true rfl); (case e => walk_at "pf"); intro H1 n1)
  | (with_reducible refine' go_meth ?_)
  | ((with_reducible refine' go_MethK 0 ?h ?l ?e ?_); (case h => walk_at "h"); (case l => exact rfl); (case e => exact rfl))
  | ((with_reducible refine' go_MethK 1 ?h ?l ?e ?_); (case h => walk_at "h"); (case l => exact rfl); (case e => exact rfl))
  | ((with_reducible refine' go_MethK 2 ?h ?l ?e ?_); (case h => walk_at "h"); (case l => exact rfl); (case e => exact rfl))
  | (with_reducible refine' go_make ?_)
  | (with_reducible refine' go_callX ?_)
  | (with_reducible refine' go_methX ?_)
  | ((with_reducible refine' go_MethXK ?h ?l ?_); (case h => walk_at "h"); (case l => exact rfl))
  | (with_reducible refine' go_dget ?_)
  | ((with_reducible refine' go_DGetS ?h ?l ?_); (case h => walk_at "h"); (case l => exact rfl))
  | (with_reducible refine' go_dput ?_)
  | ((with_reducible refine' go_DPutS ?h ?l ?e ?_); (case h => walk_at "h"); (case l => exact Nat.le_of_ble_eq_true rfl); (case e => walk_at "pk"); intro H1 n1)
  | ((with_reducible refine' go_disp ?_); intro p H1 n1)
  | (with_reducible refine' go_pairs ?_)
  | (with_reducible refine' go_pairs0 ?_)
  | ((with_reducible refine' go_DispS ?h ?e ?l ?k ?j ?m ?_); (case h => walk_at "h"); (case e => exact rfl); (case l => exact Nat.le_of_ble_eq_true rfl); (case k => (simp only [unS]; exact rfl)); (case j => (simp only [List.map_cons, List.map_nil]; exact rfl)); (case m => decide +kernel); intro H1 n1)
  | (with_reducible refine' go_par ?_)
  | ((with_reducible refine' go_ParK ?h ?_); (case h => (simp only [List.set_cons_zero, List.set_cons_succ]; exact rfl)))
  | (with_reducible refine' go_sub_ ?_)
  | ((with_reducible refine' go_setLi ?h ?k ?_); (case h => walk_at "h"); (case k => walk_at "ix"); intro H1 n1)
  | (with_reducible refine' go_listY ?_)
  | ((with_reducible refine' go_listYL ?h ?_); (case h => walk_at "h"))
  | (with_reducible refine' go_bmS ?_)
  | (with_reducible refine' go_ckw ?_)
  | ((with_reducible refine' go_maxD ?h ?_); (case h => walk_at "h"))
  | (with_reducible refine' go_listR ?_)
  | (with_reducible refine' go_rg2 ?_)
  | (with_reducible refine' go_Rg2K ?_)
  | (with_reducible refine' go_rg1 ?_)
  | (with_reducible refine' go_Rg1K ?_)
  | ((with_reducible refine' go_ListRK ?h ?_); (case h => omega); intro p H1 n1)
  | (with_reducible refine' go_enum ?_)
  | ((with_reducible refine' go_EnumL ?h ?_); (case h => walk_at "h"))
  | (with_reducible refine' go_isX ?_)
  | (with_reducible refine' go_isXt ?_)
  | (with_reducible refine' go_din ?_)
  | (with_reducible refine' go_dnotin ?_)
  | ((with_reducible refine' go_DInI ?h ?_); (case h => walk_at "h"))
  | ((with_reducible refine' go_DNotInI ?h ?_); (case h => walk_at "h"))
  | (with_reducible refine' go_dget2 ?_)
  | ((with_reducible refine' go_DGet2K ?h ?_); (case h => walk_at "h"))
  | (with_reducible refine' go_dpop1 ?_)
  | ((with_reducible refine' go_eqDE ?h ?k ?_); (case h => walk_at "h"); (case k => walk_at "h"))
  | ((with_reducible refine' go_neDE ?h ?k ?_); (case h => walk_at "h"); (case k => walk_at "h"))
  | (with_reducible refine' go_chain3 ?_)
  | (with_reducible refine' go_LinkT ?_)
  | (with_reducible refine' go_LinkF ?_)
  | (with_reducible refine' go_Link2T ?_)
  | (with_reducible refine' go_Link2F ?_)
  | (with_reducible refine' go_gSl ?_)
  | ((with_reducible refine' go_insert ?h ?k ?l ?m ?_); (case h => walk_at "h"); (case k => walk_at "z"); (case l => omega); (case m => omega); intro H1 n1)
  | (with_reducible refine' go_gCons ?_))
local macro_rules | `(tactic| walk_at "pf") => `(tactic| first
  | exact putF_nil
  | exact putF_hit
  | (refine' putF_miss ?h ?k; (case h => decide +kernel); (case k => walk_at "pf")))
local macro_rules | `(tactic| walk_at "pk") => `(tactic| first
  | exact putK_nil
  | exact putK_hit (by (simp only [List.map_cons, List.map_nil]; decide +kernel))
  | (refine' putK_miss ?h ?k; (case h => decide +kernel); (case k => walk_at "pk")))
local macro_rules | `(tactic| walk_at "ix") => `(tactic| first
  | assumption
  | omega
  | (simp only [List.length_cons, List.length_nil, List.length_append, List.length_map, List.length_range, List.length_replicate, List.length_set] at *; omega))
local macro_rules | `(tactic| walk_at "pr") => `(tactic| first
  | assumption
  | decide
  | omega
  | exact rfl
  | (intro z; cases z; done))
local macro_rules | `(tactic| walk_at "hk") => `(tactic| first
  | assumption
  | exact seq' (by assumption) (by walk_at "sm"))
local macro_rules | `(tactic| walk_at "ty") => `(tactic| first
  | exact rfl
  | assumption
  | exact tyN_L (by walk_at "h")
  | exact tyN_T (by walk_at "h")
  | exact tyN_D (by walk_at "h"))
local macro_rules | `(tactic| walk_at "go") => `(tactic| repeat (walk_at "s"))
section
variable {K : PySem.W.Frag} {a : Ac} {H H' : Hp} {Q : VK} {E : XK} [F : Fc K a] {bt D d r O BL : Addr} {R Z : List (List Int)} {ks : List Int} {done : Int} {ls : List Addr}
theorem fin_3 {D' P : Addr} {ts qs : List Addr} {prs : List (Int × List Int)} {R' : List (List Int)} {done' : Int} {pso : List (Int × V)} {v6 v7 : Option V} (bt_ : BtAt a H bt D' d r R' [] done') (dk : DkEx a [] H d r R' done' none) (ow : DRows H O pso R Z) (hB : RowsAt H BL ls R) (few : pso.length ≤ 15) (hP : PrsAt H P ts qs prs) (g : Prs5 Z (pso.map (·.1)) prs)
    (lz : R'.length = Z.length) (same : ∀ i, 17 ≤ i ∨ i = 0 → R'[i]? = Z[i]?) (r1 : R'[1]? = some (List.replicate 16 0)) (k17 : ∀ p ∈ pso, 17 ≤ p.1) (hd : done' = done + (if pso.map (·.1) = [] then (0 : Int) else 2 * ((pso.map (·.1)).length : Int) + 2)) (q : ∀ H', Same H H' → Q (.bl true) H') :
    t_L_finished_3 K a E ⟨fun _ H' => Q .non H', Q, F0, F0⟩ [some (.ref bt), some (.ref d), some (.ref O), some (.ref BL), some (.int done), some (.ref P), v6, v7, none, none, none] H := by
  unfold t_L_finished_3
  have many := dk.many
  have ll := ow.len
  have oo := ow.dd
  have bb := hB.rr
  have bl := hB.len
  walk_at "go"
  refine go_methD dk (fun _ _ _ => rfl) ?_
  walk_at "go"
  refine p_blocksE dk ?_
  walk_at "go"
  refine lc_mapR (f := fun i : Nat => (valV (dI pso) (.inl (i : Int))).getD (.ref (ls.getD i 0))) (by rw [sizeLine_eq]; omega) (fun i H' Q' hi s q' => ?_) (fun DU H1 DUn s1 hDU => ?_)
  · simp only [List.set_cons_zero, List.set_cons_succ, Int.zero_add]
    have oos := s _ _ oo
    have bbs := s _ _ bb
    have hi : i < ls.length := by omega
    walk_at "go"
    refine go_ixAt bbs (by omega) (v := .ref (ls.getD i 0)) (by rw [List.getElem?_map, Int.toNat_natCast, List.getElem?_eq_getElem hi, List.getD_eq_getElem?_getD, List.getElem?_eq_getElem hi]; rfl) ?_
    refine go_DGet2E oos ?_
    exact q' H' (Same.refl _)
  have ow1 := ow.same s1
  have hB1 := hB.same s1
  obtain ⟨xs, ex, lx, hx⟩ := due_all ow1 hB1
  rw [show ((R'.length : Int)).toNat = R.length by omega, ex] at hDU
  have oo1 := s1 _ _ oo
  have dk1 := dk.same s1
  walk_at "go"
  have ld : (dI pso).length = pso.length := by simp [dI]
  refine go_lenD oo1 ?_
  walk_at "go"
  refine go_methD dk1 (fun _ _ _ => rfl) ?_
  walk_at "go"
  refine p_blocksE dk1 ?_
  walk_at "go"
  refine lc_newR (o := fun i => .lst ((R'.getD (17 + i) []).map V.int)) (by rw [sizeLine_eq]; omega) (fun i H' Q' hi s q' => ?_) (fun NL ns2 H2 NLn s2 hq w2 hNL => ?_)
  · simp only [List.set_cons_zero, List.set_cons_succ]
    have h2 := dk1.same s
    have hi2 : 17 + i < R'.length := by omega
    walk_at "go"
    refine go_methD h2 (fun _ _ _ => rfl) ?_
    walk_at "go"
    refine p_readE h2 (by omega) (row := R'[17 + i]) (by rw [show ((17 : Int) + (i : Int)).toNat = 17 + i by omega]; simp [hi2]) fun p3 H3 s3 p3n p33 => ?_
    refine q' p3 H3 s3 p3n ?_
    rw [p33, List.getD_eq_getElem?_getD, List.getElem?_eq_getElem hi2]; rfl
  have hDU2 := s2 _ _ hDU
  walk_at "go"
  rename_i SL H3 n3
  have t1 : TellAt H3 NL ns2 (R'.drop 17) := ⟨n3.old hNL, by rw [List.length_drop, hq]; omega, fun i p e => by
    have hi : 17 + i < R'.length := by have := (List.getElem?_eq_some_iff.mp e).1; omega
    refine ⟨R'[17 + i], by rw [List.getElem?_drop, List.getElem?_eq_getElem hi], n3.old ?_⟩
    rw [w2.at_ i p e, List.getD_eq_getElem?_getD, List.getElem?_eq_getElem hi]; rfl⟩
  have t2 : TellAt H3 SL (xs.drop 17) (R'.drop 17) := ⟨by
    have := n3.at
    rw [cut_drop _ (by omega)] at this
    rw [this, List.map_drop]; rfl, by rw [List.length_drop, List.length_drop]; omega, fun i p e => by
    rw [List.getElem?_drop] at e
    obtain ⟨row, e1, e2⟩ := hx _ p e
    exact ⟨row, by rw [List.getElem?_drop, same _ (.inl (by omega))]; exact e1, n3.old (s2 _ _ e2)⟩⟩
  refine tell_ne t1 t2 ?_
  have s3 : Same H H3 := (s1.trans s2).trans n3.same
  have dk3 := dk.same s3
  have bt3 := bt_.same s3
  have oo3 := s3 _ _ oo
  have bb3 := s3 _ _ bb
  walk_at "go"
  refine go_methD dk3 (fun _ _ _ => rfl) ?_
  walk_at "go"
  refine p_writesE dk3 ?_
  walk_at "go"
  refine go_lenD oo3 ?_
  walk_at "go"
  rename_i DN H4 n4
  have dnn : (dI pso = []) ↔ pso = [] := by simp [dI]
  have keysnil : (pso.map (·.1) = []) ↔ pso = [] := by simp
  have num : done' = done + (2 * ((dI pso).length : Int) + 2) * (if (!decide (dI pso = [])) = true then 1 else 0) := by
    rw [hd]
    by_cases c : pso = []
    · rw [if_pos (keysnil.mpr c), decide_eq_true (dnn.mpr c)]; simp
    · rw [if_neg (fun z => c (keysnil.mp z)), decide_eq_false (fun z => c (dnn.mp z)), List.length_map, ld]; simp
  rw [decide_eq_true num]
  have bt4 := bt3.same n4.same
  walk_at "go"
  refine go_methB bt4 (fun _ _ => rfl) ?_
  walk_at "go"
  refine p_pairs5 bt4 (by simp) fun P5 t5 q5 prs5 H5 s5 _ hP5 g5 _ _ => ?_
  have e5 : prs5 = [] := by
    have := g5.perm.length_eq
    simpa using this
  subst e5
  have t50 : t5 = [] := List.eq_nil_of_length_eq_zero hP5.lt
  subst t50
  have r5 : H5 P5 = some (.lst (([] : List Int).map V.int)) := hP5.rr
  walk_at "go"
  rename_i p6 H6 n6
  refine go_neIs (ns := []) (ms := []) (n6.old r5) n6.at ?_
  have s6 : Same H H6 := ((s3.trans n4.same).trans s5).trans n6.same
  have dk6 := dk.same s6
  obtain ⟨b0, rd0, f1, f2, _, f4⟩ := hB.at (i := 0) (by omega)
  have e0 : R'[(0 : Int).toNat]? = some rd0 := by
    show R'[0]? = _
    rw [same 0 (.inr rfl), ow.miss 0 fun p hp z => by have := k17 p hp; omega]
    exact f2
  have bb6 := s6 _ _ bb
  walk_at "go"
  refine go_methD dk6 (fun _ _ _ => rfl) ?_
  walk_at "go"
  refine p_readE dk6 (by omega) e0 fun p7 H7 s7 _ h77 => ?_
  have bb7 := s7 _ _ bb6
  have f47 := s7 _ _ (s6 _ _ f4)
  walk_at "go"
  refine go_ixAt bb7 (by omega) (v := .ref b0) (by rw [List.getElem?_map, show (0 : Int).toNat = 0 from rfl, f1]; rfl) ?_
  refine go_neIs h77 f47 ?_
  rw [decide_eq_true rfl]
  have dk7 := dk6.same s7
  walk_at "go"
  refine go_methD dk7 (fun _ _ _ => rfl) ?_
  walk_at "go"
  refine p_readE dk7 (by omega) (i := 1) (row := List.replicate 16 0) r1 fun p8 H8 s8 _ h88 => ?_
  walk_at "go"
  rename_i p9 H9 n9 p10 H10 n10
  have e10 : H10 p10 = some (.lst ((List.replicate 16 (0 : Int)).map V.int)) := by rw [n10.at]; rfl
  refine go_neIs (n10.old (n9.old h88)) e10 ?_
  rw [decide_eq_true rfl]
  have s10 : Same H H10 := (((s6.trans s7).trans s8).trans n9.same).trans n10.same
  have oo10 := s10 _ _ oo
  walk_at "go"
  refine go_sortQ (ks := pso.map (·.1)) oo10 (keys_dI _) (by rw [List.length_map]; omega) fun ys sl H11 hp hs n11 => ?_
  walk_at "go"
  refine lc_own ((ow.same s10).same n11.same) (by omega) hp hs n11.at rfl (by simp) (by decide) fun P12 t12 q12 prs12 H12 s12 _ hP12 g12 => ?_
  obtain rfl := g.one g12
  have s012 : Same H H12 := (s10.trans n11.same).trans s12
  refine prs_eq (hP.same s012) hP12 ?_
  exact q H12 s012
end
section
variable {K : PySem.W.Frag} {a : Ac} {H H' : Hp} {Q : VK} {E : XK} [F : Fc K a] {bt D d r O BL : Addr} {R Z : List (List Int)} {ks : List Int} {done : Int} {ls : List Addr}
omit F in
theorem go_methXD {m : Str} {sp : Addr → Addr → Sp} {ex D' : Addr} {E : XK} {t : TA} {σ : Bk.St} {k : Option Nat} (h : DkEx a [] H d r R done k) (hm : ∀ r done left, ([("rows", r), ("done", done), ("left", left)] : List (Str × V)).lookup m = none) (q : t σ H fun vs H2 => sp ex D' (.ref d :: vs) H2 Q E) : MethXK m a.Disk sp ex D' E t σ Q (.ref d) H := by
  obtain ⟨ps, h⟩ := h
  obtain ⟨dx, e⟩ := h.dd
  exact go_MethXK e (hm ..) q
omit F in
theorem go_methXB {m : Str} {sp : Addr → Addr → Sp} {ex D' : Addr} {E : XK} {t : TA} {σ : Bk.St} (h : BtAt a H bt D d r Z ks done) (hm : ∀ x1 x2, ([("disk", x1), ("rows", x2)] : List (Str × V)).lookup m = none) (q : t σ H fun vs H2 => sp ex D' (.ref bt :: vs) H2 Q E) : MethXK m a.Batch sp ex D' E t σ Q (.ref bt) H := by
  obtain ⟨dx, e⟩ := h.ob
  exact go_MethXK e (hm ..) q
theorem p_finished (h : S5 a H bt D d r O R Z ks done) (hB : RowsAt H BL ls R) (nB : BL ≠ r) (few : ks.length < 64) (z1 : R[1]? = some (List.replicate 16 0))
    (q : ∀ H', (ks.length ≤ 15 → ∃ D' R' done', Chg [bt, d, r] H H' ∧ H D' = none ∧ BtAt a H' bt D' d r R' [] done' ∧ DkEx a [] H' d r R' done' none ∧ R'.length = R.length ∧ R'[1]? = some (List.replicate 16 0)) → Q (.bl true) H') :
    sp_L_finished K a [.ref bt, .ref d, .ref O, .ref BL] H Q E := by
  refine in_L_finished ?_
  unfold t_L_finished
  obtain ⟨pso, ow, rfl⟩ := h.ow
  have ll := h.len
  have nn := h.bt_.nes
  have hn := h.n
  simp only [List.mem_cons, List.not_mem_nil, or_false, not_or] at hn
  have lk : (pso.map (·.1)).length = pso.length := by simp
  walk_at "go"
  refine go_methD h.dk (fun _ _ _ => rfl) ?_
  walk_at "go"
  refine p_writesE h.dk ?_
  walk_at "go"
  refine go_methB h.bt_ (fun _ _ => rfl) ?_
  walk_at "go"
  refine p_pairs5 h.bt_ few fun P ts qs prs H1 s1 Pn hP g tn qn => ?_
  have h1 := h.same s1
  have oo1 := (ow.same s1).dd
  walk_at "go"
  refine go_methB h1.bt_ (fun _ _ => rfl) ?_
  walk_at "go"
  by_cases c : 15 < (pso.map (·.1)).length
  · refine p_bfinishMuch h1.bt_ c few fun H2 s2 => ?_
    have h2 := h1.same s2
    have oo2 := s2 _ _ oo1
    walk_at "go"
    simp only [List.set_cons_zero, List.set_cons_succ]
    refine go_methXD h2.dk (fun _ _ _ => rfl) ?_
    walk_at "go"
    refine hx_writes h2.dk ?_
    walk_at "go"
    refine go_methXB h2.bt_ (fun _ _ => rfl) ?_
    walk_at "go"
    refine hx_pairs h2.bt_ few fun P3 t3 q3 prs3 H3 s3 hP3 g3 => ?_
    obtain rfl := g.one g3
    walk_at "go"
    refine prs_eq hP3 ((hP.same s2).same s3) ?_
    have oo3 := s3 _ _ oo2
    walk_at "go"
    refine go_lenD oo3 ?_
    walk_at "go"
    have ld : (dI pso).length = pso.length := by simp [dI]
    rw [decide_eq_true (show 15 < ((dI pso).length : Int) by omega)]
    walk_at "go"
    refine p_kinds _ 2 (.inr (.inr ⟨rfl, rfl⟩)) fun H4 s4 => ?_
    walk_at "go"
    exact q H4 fun z => absurd z (by omega)
  · have few15 : (pso.map (·.1)).length ≤ 15 := by omega
    have k17 : ∀ p ∈ pso, 17 ≤ p.1 := fun p hp => (h.bt_.keys.2 p.1 (List.mem_map_of_mem (f := (·.1)) hp)).1
    have zz1 : Z[1]? = some (List.replicate 16 0) := by
      rw [ow.miss 1 fun p hp z => by have := k17 p hp; omega]; exact z1
    refine p_bfinish1 h1.bt_ few15 zz1 fun D2 R2 done2 H2 D2n c2 bt2 l2 e2 hd2 o2 dk2 => ?_
    have oS : ∀ b ∈ [bt, d, r], NotInts H1 b := fun b hb => (h1.bt_.own b (by simp only [List.mem_cons, List.not_mem_nil, or_false] at hb ⊢; rcases hb with rfl | rfl | rfl <;> simp)).1
    have ow1 := ow.same s1
    have ow2 : DRows H2 O pso R Z := ⟨c2.at (by simp [hn.1, hn.2.2.1, hn.2.2.2]) ow1.dd, ow1.nd, ow1.len, fun p hp => by
      obtain ⟨q0, row, e1, e2, e3, e4⟩ := ow1.hit p hp
      exact ⟨q0, row, e1, c2.at (fun z => oS q0 z row (by intro y; rw [y] at e3; cases e3) e2) e2, e3, e4⟩, ow1.miss⟩
    have nBS : BL ∉ [bt, d, r] := by
      obtain ⟨dx, eb⟩ := h.bt_.ob
      obtain ⟨ps, hd⟩ := h.dk
      obtain ⟨dd, ed⟩ := hd.dd
      have z1 : BL ≠ bt := ne_obj hB.rr eb (by simp)
      have z2 : BL ≠ d := ne_obj hB.rr ed (by simp)
      simp [z1, z2, nB]
    have hB2 := (hB.same s1).chg c2 nBS oS
    have tS : ∀ t ∈ ts ++ qs ++ [P], t ∉ [bt, d, r] := fun t ht z => by
      have : H t = none := by
        simp only [List.mem_append, List.mem_singleton] at ht
        rcases ht with (k | k) | rfl
        · exact tn t k
        · exact qn t k
        · exact Pn
      exact (h.bt_.fresh this) (by simp only [List.mem_cons, List.not_mem_nil, or_false] at z ⊢; rcases z with rfl | rfl | rfl <;> simp)
    have hP2 := hP.chg c2 (tS P (by simp)) (fun t ht => tS t (by simp [ht])) (fun t ht => tS t (by simp [ht]))
    walk_at "go"
    refine fin_3 bt2 dk2 ow2 hB2 (by omega) hP2 g l2 e2 o2 k17 hd2 fun H3 s3 => ?_
    exact q H3 fun _ => ⟨D2, R2, done2, ((Chg.of s1).trans c2).trans (.of s3), s1.free D2n, bt2.same s3, dk2.same s3, by omega, o2⟩
end

end Bk

namespace Bk
open PySem L2 PyProof.Rows
/-! our own short tactics: h: what stands at a place; ne: two places; sm: what stood stands; z: a size; s: a step; go: steps -/
local macro_rules | `(tactic| walk_at "h") => `(tactic| first
  | assumption
  | exact New.at (by assumption)
  | exact Wr.at (by assumption)
  | (refine' New.old (by assumption) ?_; walk_at "h")
  | (refine' Same.at (by assumption) ?_; walk_at "h")
  | (refine' Wr.old (by assumption) ?_ ?_; walk_at "ne"; walk_at "h")
  | (refine' Chg.at (by assumption) ?_ ?_; walk_at "ni"; walk_at "h"))
local macro_rules | `(tactic| walk_at "ni") => `(tactic| first
  | exact ni_nil
  | assumption
  | (refine' ni_cons ?_ ?_; walk_at "ne"; walk_at "ni"))
local macro_rules | `(tactic| walk_at "ne") => `(tactic| first
  | assumption
  | exact Ne.symm (by assumption)
  | exact New.ne (by assumption) (by walk_at "h")
  | exact ne_none (by assumption) (by walk_at "h")
  | exact Ne.symm (ne_none (by assumption) (by walk_at "h"))
  | exact Ne.symm (New.ne (by assumption) (by walk_at "h")))
local macro_rules | `(tactic| walk_at "sm") => `(tactic| first
  | exact Same.refl _
  | assumption
  | (refine' Same.trans ?_ (New.same (by assumption)); walk_at "sm")
  | (refine' Same.trans ?_ (by assumption : Same _ _); walk_at "sm"))
local macro_rules | `(tactic| walk_at "z") => `(tactic| first
  | assumption
  | (rw [PySem.sizeLine_eq]; omega)
  | (rw [PySem.sizeLine_eq]; simp only [List.length_cons, List.length_nil, List.length_append, List.length_map, List.length_range, List.length_replicate, len_cut]; omega)
  | (rw [PySem.sizeLine_eq]; simp only [List.length_cons, List.length_nil, List.length_append, List.length_map, List.length_range, List.length_replicate, len_cut] at *; omega))
local macro_rules | `(tactic| walk_at "s") => `(tactic| first
  | ((with_reducible refine' go_var ?h ?_); (case h => exact rfl))
  | (with_reducible refine' go_c ?_)
  | (with_reducible refine' go_op ?_)
  | (with_reducible refine' go_un ?_)
  | (with_reducible refine' go_rU ?_)
  | (with_reducible refine' go_seq ?_)
  | (with_reducible refine' go_ret ?_)
  | (with_reducible refine' go_retN ?_)
  | (with_reducible refine' go_next ?_)
  | (with_reducible refine' go_drop ?_)
  | (with_reducible refine' go_asg ?_)
  | ((with_reducible refine' go_name2 ?h ?_); (case h => (simp only [List.set_cons_zero, List.set_cons_succ]; exact rfl)))
  | ((with_reducible refine' go_name2 ?h ?_); (case h => exact rfl))
  | (with_reducible refine' go_ifS ?_)
  | (with_reducible refine' go_blk ?_)
  | (with_reducible refine' go_test ?_)
  | (with_reducible refine' go_tB ?_)
  | (with_reducible refine' go_and ?_)
  | (with_reducible refine' go_or ?_)
  | (with_reducible refine' go_not ?_)
  | (with_reducible refine' go_andV ?_)
  | (with_reducible refine' go_orV ?_)
  | (with_reducible refine' go_notV ?_)
  | (with_reducible refine' go_if ?_)
  | (with_reducible refine' go_chain ?_)
  | (with_reducible refine' iteT ?_)
  | (with_reducible refine' iteF ?_)
  | ((with_reducible refine' go_Td ?h ?_); (case h => walk_at "pr"))
  | ((with_reducible refine' go_Fd ?h ?_); (case h => walk_at "pr"))
  | ((with_reducible refine' go_Tn ?h ?_); (case h => walk_at "pr"))
  | ((with_reducible refine' go_Fn ?h ?_); (case h => walk_at "pr"))
  | ((with_reducible refine' go_T ?h ?_); (case h => (first | decide | assumption | exact rfl)))
  | ((with_reducible refine' go_F ?h ?_); (case h => (first | decide | assumption | exact rfl)))
  | (with_reducible refine' go_nil ?_)
  | (with_reducible refine' go_cons ?_)
  | (with_reducible refine' go_tLst ?_)
  | (with_reducible refine' go_tTup ?_)
  | ((with_reducible refine' go_LstK ?h ?_); (case h => walk_at "z"); intro p H1 n1)
  | ((with_reducible refine' go_TupK ?h ?_); (case h => walk_at "z"); intro p H1 n1)
  | (with_reducible refine' go_addI ?_)
  | ((with_reducible refine' go_addL ?h ?k ?z ?_); (case h => walk_at "h"); (case k => walk_at "h"); (case z => walk_at "z"); intro p H1 n1)
  | (with_reducible refine' go_sub ?_)
  | ((with_reducible refine' go_mulI ?h ?_); (case h => (unfold CMul; omega)))
  | ((with_reducible refine' go_mulL ?h ?k ?_); (case h => walk_at "h"); (case k => (refine ⟨by omega, by omega, ?_⟩; walk_at "z")); intro p H1 n1)
  | ((with_reducible refine' go_div ?h ?_); (case h => (unfold CDiv; omega)))
  | ((with_reducible refine' go_mod ?h ?_); (case h => omega))
  | (with_reducible refine' go_p109 ?_)
  | (with_reducible refine' go_p1020 ?_)
  | ((with_reducible refine' go_pow ?h ?_); (case h => (unfold CPow; omega)))
  | (with_reducible refine' go_lt ?_)
  | (with_reducible refine' go_le ?_)
  | (with_reducible refine' go_gt ?_)
  | (with_reducible refine' go_ge ?_)
  | (with_reducible refine' go_eqI ?_)
  | (with_reducible refine' go_eqB ?_)
  | (with_reducible refine' go_eqS ?_)
  | (with_reducible refine' go_neI ?_)
  | (with_reducible refine' go_neB ?_)
  | (with_reducible refine' go_neS ?_)
  | (with_reducible refine' go_isN ?_)
  | (with_reducible refine' go_isNotN ?_)
  | (with_reducible refine' go_isB ?_)
  | (with_reducible refine' go_isNotB ?_)
  | (with_reducible refine' go_sl ?_)
  | (with_reducible refine' go_noPart ?_)
  | (with_reducible refine' go_part ?_)
  | (with_reducible refine' go_intK ?_)
  | ((with_reducible refine' go_slL ?h ?_); (case h => walk_at "h"); intro p H1 n1)
  | ((with_reducible refine' go_ixL ?h ?k ?_); (case h => walk_at "h"); (case k => exact rfl))
  | ((with_reducible refine' go_ixT ?h ?k ?_); (case h => walk_at "h"); (case k => exact rfl))
  | ((with_reducible refine' go_slW ?h ?_); (case h => walk_at "h"))
  | (with_reducible refine' go_bm ?_)
  | (with_reducible refine' go_bm0 ?_)
  | ((with_reducible refine' go_bmL ?h ?_); (case h => walk_at "h"))
  | ((with_reducible refine' go_append ?h ?k ?_); (case h => walk_at "h"); (case k => walk_at "z"); intro H1 n1)
  | ((with_reducible refine' go_extend ?h ?k ?z ?_); (case h => walk_at "h"); (case k => walk_at "h"); (case z => walk_at "z"); intro H1 n1)
  | ((with_reducible refine' go_clear ?h ?_); (case h => walk_at "h"); intro H1 n1)
  | ((with_reducible refine' go_dnew ?_); intro p H1 n1)
  | (with_reducible refine' go_cb ?_)
  | (with_reducible refine' go_callS ?_)
  | (with_reducible refine' go_call0 ?_)
  | ((with_reducible refine' go_lenL ?h ?_); (case h => walk_at "h"))
  | ((with_reducible refine' go_lenT ?h ?_); (case h => walk_at "h"))
  | ((with_reducible refine' go_lenK ?h ?_); (case h => walk_at "hk"))
  | ((with_reducible refine' go_listL ?h ?_); (case h => walk_at "h"); intro p H1 n1)
  | ((with_reducible refine' go_listT ?h ?_); (case h => walk_at "h"); intro p H1 n1)
  | ((with_reducible refine' go_tupleL ?h ?_); (case h => walk_at "h"); intro p H1 n1)
  | (with_reducible refine' go_intI ?_)
  | (with_reducible refine' go_intB ?_)
  | (with_reducible refine' go_abs ?_)
  | (with_reducible refine' go_min2 ?_)
  | (with_reducible refine' go_max2 ?_)
  | ((with_reducible refine' go_isi ?h ?k ?_); (case h => walk_at "ty"); (case k => exact kit_bb (by decide) (by decide)))
  | (with_reducible refine' go_lc ?_)
  | (with_reducible refine' go_for ?_)
  | (with_reducible refine' go_seqP ?_)
  | ((with_reducible refine' go_seqL ?h ?_); (case h => walk_at "h"))
  | ((with_reducible refine' go_seqT ?h ?_); (case h => walk_at "h"))
  | (with_reducible refine' go_seqS ?_)
  | (with_reducible refine' go_rng1 ?_)
  | (with_reducible refine' go_rng2 ?_)
  | ((with_reducible refine' go_rng1K ?h ?_); (case h => omega))
  | ((with_reducible refine' go_rng2K ?h ?_); (case h => omega))
  | (with_reducible refine' go_raise ?_)
  | ((with_reducible refine' go_tupG ?h ?k ?_); (case h => walk_at "h"); (case k => exact rfl))
  | ((with_reducible refine' go_lstG ?h ?k ?_); (case h => walk_at "h"); (case k => exact rfl))
  | (with_reducible refine' go_gNil ?_)
  | (with_reducible refine' go_tryAs ?_)
  | (with_reducible refine' go_tryMany1 ?_)
  | (with_reducible refine' go_tryMany2 ?_)
  | (with_reducible refine' go_WM ?_)
  | ((with_reducible refine' go_asT ?_); intro e he)
  | (with_reducible refine' go_asF ?_)
  | ((with_reducible refine' go_manyT ?_); intro e he)
  | (with_reducible refine' go_manyF ?_)
  | (with_reducible refine' go_manyN ?_)
  | (with_reducible refine' go_fld ?_)
  | ((with_reducible refine' go_FldK ?h ?c ?n ?l ?_); (case h => walk_at "h"); (case c => infer_instance); (case n => infer_instance); (case l => exact rfl))
  | (with_reducible refine' go_sfld ?_)
  | ((with_reducible refine' go_SFldK ?h ?c ?n ?l ?e ?_); (case h => walk_at "h"); (case c => infer_instance); (case n => infer_instance); (case l => exact Nat.le_of_ble_eq_true rfl); (case e => walk_at "pf"); intro H1 n1)
  | (with_reducible refine' go_meth ?_)
  | ((with_reducible refine' go_MethK 0 ?h ?l ?e ?_); (case h => walk_at "h"); (case l => exact rfl); (case e => exact rfl))
  | ((with_reducible refine' go_MethK 1 ?h ?l ?e ?_); (case h => walk_at "h"); (case l => exact rfl); (case e => exact rfl))
  | ((with_reducible refine' go_MethK 2 ?h ?l ?e ?_); (case h => walk_at "h"); (case l => exact rfl); (case e => exact rfl))
  | (with_reducible refine' go_make ?_)
  | (with_reducible refine' go_callX ?_)
  | (with_reducible refine' go_methX ?_)
  | ((with_reducible refine' go_MethXK ?h ?l ?_); (case h => walk_at "h"); (case l => exact rfl))
  | (with_reducible refine' go_dget ?_)
  | ((with_reducible refine' go_DGetS ?h ?l ?_); (case h => walk_at "h"); (case l => exact rfl))
  | (with_reducible refine' go_dput ?_)
  | ((with_reducible refine' go_DPutS ?h ?l ?e ?_); (case h => walk_at "h"); (case l => exact Nat.le_of_ble_eq_true rfl); (case e => walk_at "pk"); intro H1 n1)
  | ((with_reducible refine' go_disp ?_); intro p H1 n1)
  | (with_reducible refine' go_pairs ?_)
  | (with_reducible refine' go_pairs0 ?_)
  | ((with_reducible refine' go_DispS ?h ?e ?l ?k ?j ?m ?_); (case h => walk_at "h"); (case e => exact rfl); (case l => exact Nat.le_of_ble_eq_true rfl); (case k => (simp only [unS]; exact rfl)); (case j => (simp only [List.map_cons, List.map_nil]; exact rfl)); (case m => decide +kernel); intro H1 n1)
  | (with_reducible refine' go_par ?_)
  | ((with_reducible refine' go_ParK ?h ?_); (case h => (simp only [List.set_cons_zero, List.set_cons_succ]; exact rfl)))
  | (with_reducible refine' go_sub_ ?_)
  | ((with_reducible refine' go_setLi ?h ?k ?_); (case h => walk_at "h"); (case k => walk_at "ix"); intro H1 n1)
  | (with_reducible refine' go_listY ?_)
  | ((with_reducible refine' go_listYL ?h ?_); (case h => walk_at "h"))
  | (with_reducible refine' go_bmS ?_)
  | (with_reducible refine' go_ckw ?_)
  | ((with_reducible refine' go_maxD ?h ?_); (case h => walk_at "h"))
  | (with_reducible refine' go_listR ?_)
  | (with_reducible refine' go_rg2 ?_)
  | (with_reducible refine' go_Rg2K ?_)
  | (with_reducible refine' go_rg1 ?_)
  | (with_reducible refine' go_Rg1K ?_)
  | ((with_reducible refine' go_ListRK ?h ?_); (case h => omega); intro p H1 n1)
  | (with_reducible refine' go_enum ?_)
  | ((with_reducible refine' go_EnumL ?h ?_); (case h => walk_at "h"))
  | (with_reducible refine' go_isX ?_)
  | (with_reducible refine' go_isXt ?_)
  | (with_reducible refine' go_din ?_)
  | (with_reducible refine' go_dnotin ?_)
  | ((with_reducible refine' go_DInI ?h ?_); (case h => walk_at "h"))
  | ((with_reducible refine' go_DNotInI ?h ?_); (case h => walk_at "h"))
  | (with_reducible refine' go_dget2 ?_)
  | ((with_reducible refine' go_DGet2K ?h ?_); (case h => walk_at "h"))
  | (with_reducible refine' go_dpop1 ?_)
  | ((with_reducible refine' go_eqDE ?h ?k ?_); (case h => walk_at "h"); (case k => walk_at "h"))
  | ((with_reducible refine' go_neDE ?h ?k ?_); (case h => walk_at "h"); (case k => walk_at "h"))
  | (with_reducible refine' go_chain3 ?_)
  | (with_reducible refine' go_LinkT ?_)
  | (with_reducible refine' go_LinkF ?_)
  | (with_reducible refine' go_Link2T ?_)
  | (with_reducible refine' go_Link2F ?_)
  | (with_reducible refine' go_gSl ?_)
  | ((with_reducible refine' go_insert ?h ?k ?l ?m ?_); (case h => walk_at "h"); (case k => walk_at "z"); (case l => omega); (case m => omega); intro H1 n1)
  | (with_reducible refine' go_gCons ?_))
local macro_rules | `(tactic| walk_at "pf") => `(tactic| first
  | exact putF_nil
  | exact putF_hit
  | (refine' putF_miss ?h ?k; (case h => decide +kernel); (case k => walk_at "pf")))
local macro_rules | `(tactic| walk_at "pk") => `(tactic| first
  | exact putK_nil
  | exact putK_hit (by (simp only [List.map_cons, List.map_nil]; decide +kernel))
  | (refine' putK_miss ?h ?k; (case h => decide +kernel); (case k => walk_at "pk")))
local macro_rules | `(tactic| walk_at "ix") => `(tactic| first
  | assumption
  | omega
  | (simp only [List.length_cons, List.length_nil, List.length_append, List.length_map, List.length_range, List.length_replicate, List.length_set] at *; omega))
local macro_rules | `(tactic| walk_at "pr") => `(tactic| first
  | assumption
  | decide
  | omega
  | exact rfl
  | (intro z; cases z; done))
local macro_rules | `(tactic| walk_at "hk") => `(tactic| first
  | assumption
  | exact seq' (by assumption) (by walk_at "sm"))
local macro_rules | `(tactic| walk_at "ty") => `(tactic| first
  | exact rfl
  | assumption
  | exact tyN_L (by walk_at "h")
  | exact tyN_T (by walk_at "h")
  | exact tyN_D (by walk_at "h"))
local macro_rules | `(tactic| walk_at "go") => `(tactic| repeat (walk_at "s"))
section
variable {K : PySem.W.Frag} {a : Ac} {H H' H0 : Hp} {Q : VK} {E : XK} [F : Fc K a] {bt D d r O BL script : Addr} {R Z : List (List Int)} {ks ns : List Int} {done : Int} {ls : List Addr} {n : Nat}
/-- all that the law holds -/
structure L5 (K : PySem.W.Frag) (a : Ac) (H0 H : Hp) (script : Addr) (ns : List Int) (bt D d r O BL : Addr) (ls : List Addr) (R Z : List (List Int)) (ks : List Int) (done : Int) (n : Nat) : Prop where
  hS : SqL K H0 script (ns.map V.int)
  s0 : Same H0 H
  s : S5 a H bt D d r O R Z ks done
  fr : ∀ b ∈ [bt, D, d, r, O], H0 b = none
  bs : RowsAt H BL ls R
  nB : BL ≠ r
  z1 : R[1]? = some (List.replicate 16 0)
  few : ks.length ≤ n
omit F in
theorem L5.same (h : L5 K a H0 H script ns bt D d r O BL ls R Z ks done n) (s : Same H H') : L5 K a H0 H' script ns bt D d r O BL ls R Z ks done n := ⟨h.hS, h.s0.trans s, h.s.same s, h.fr, h.bs.same s, h.nB, h.z1, h.few⟩
omit F in
theorem L5.seq (h : L5 K a H0 H script ns bt D d r O BL ls R Z ks done n) : SqL K H script (ns.map V.int) := h.s0.seq h.hS
omit F in
theorem L5.nBL (h : L5 K a H0 H script ns bt D d r O BL ls R Z ks done n) : BL ∉ [bt, D, d, r, O] := by
  obtain ⟨dx, eb⟩ := h.s.bt_.ob
  obtain ⟨ps, hd⟩ := h.s.dk
  obtain ⟨dd, ed⟩ := hd.dd
  obtain ⟨psl, h2, _⟩ := h.s.bt_.rows h.s.dk
  obtain ⟨pso, h3, _⟩ := h.s.ow
  have z1 : BL ≠ bt := ne_obj h.bs.rr eb (by simp)
  have z2 : BL ≠ d := ne_obj h.bs.rr ed (by simp)
  have z3 : BL ≠ D := ne_obj h.bs.rr h2.dd (by simp)
  have z4 : BL ≠ O := ne_obj h.bs.rr h3.dd (by simp)
  simp [z1, z2, z3, z4, h.nB]
omit F in
theorem L5.own (h : L5 K a H0 H script ns bt D d r O BL ls R Z ks done n) : ∀ b ∈ [bt, D, d, r, O], NotInts H b := fun b hb => by
  obtain ⟨pso, h3, _⟩ := h.s.ow
  rcases List.mem_append.mp (show b ∈ [bt, D, d, r] ++ [O] from hb) with hb | hb
  · exact (h.s.bt_.own b hb).1
  · rw [List.mem_singleton.mp hb]; exact .dict h3.dd
omit F in
/-- something of the law's was changed -/
theorem L5.move {S : List Addr} {Z' : List (List Int)} {ks' : List Int} {n' : Nat} (h : L5 K a H0 H script ns bt D d r O BL ls R Z ks done n) (c : Chg S H H') (hS : ∀ b ∈ S, b ∈ [bt, D, d, r, O]) (h' : S5 a H' bt D d r O R Z' ks' done) (f : ks'.length ≤ n') : L5 K a H0 H' script ns bt D d r O BL ls R Z' ks' done n' :=
  ⟨h.hS, Same.chg h.s0 c fun b hb => h.fr b (hS b hb), h', h.fr, h.bs.chg c (fun z => h.nBL (hS _ z)) fun b hb => h.own b (hS b hb), h.nB, h.z1, f⟩
omit F in
theorem S5.new {D1 : Addr} (bt_ : BtAt a H bt D1 d r R [] done) (dk : DkEx a [] H d r R done none) (w : New H O (.dK []) H') : S5 a H' bt D1 d r O R R [] done :=
  ⟨bt_.same w.same, dk.same w.same, ⟨[], ⟨w.at, by simp, rfl, by simp, fun _ _ => rfl⟩, rfl⟩, bt_.fresh w.free⟩
theorem law2_3 {k : Int} {v3 : Option V} (h : L5 K a H0 H script ns bt D d r O BL ls R Z ks done n) (hn : n ≤ 50) (k0 : 0 ≤ k) (k1 : k + 1 < ns.length) {nx : Bk.St → Hp → Prop} {bk ct : Bk.St → Hp → Prop}
    (q : ∀ H' bt D O BL ls R Z ks done, L5 K a H0 H' script ns bt D d r O BL ls R Z ks done n → nx [some (.ref script), some (.ref d), some (.int k), v3, some (.ref BL), some (.int done), some (.ref bt), some (.ref O)] H') :
    tb_law_2_3 K a E ⟨nx, Q, bk, ct⟩ [some (.ref script), some (.ref d), some (.int k), v3, some (.ref BL), some (.int done), some (.ref bt), some (.ref O)] H := by
  unfold tb_law_2_3
  have hseq := h.seq
  obtain ⟨pso, ow, ek⟩ := h.s.ow
  have oo := ow.dd
  have few := h.few
  have ld : (dI pso).length = ks.length := by rw [← ek]; simp [dI]
  have lk1 : (cellI ns k) = cellI ns k := rfl
  walk_at "go"
  refine go_ixK hseq (cell_in k0 (by omega)) ?_
  walk_at "go"
  refine go_dec (fun c1 => ?_) (fun c1 => ?_)
  · walk_at "go"
    refine go_lenD oo ?_
    walk_at "go"
    refine go_dec (fun c2 => ?_) (fun c2 => ?_)
    · walk_at "go"
      refine p_finished h.s h.bs h.nB (by omega) h.z1 fun H1 f1 => ?_
      obtain ⟨D1, R1, done1, c1, D1n, bt1, dk1, l1, o1⟩ := f1 (by omega)
      have s1 : Same H0 H1 := Same.chg h.s0 c1 fun b hb => h.fr b (by simp only [List.mem_cons, List.not_mem_nil, or_false] at hb ⊢; rcases hb with rfl | rfl | rfl <;> simp)
      have hseq1 := s1.seq h.hS
      walk_at "go"
      rename_i O1 H2 n2
      have h2 := S5.new bt1 dk1 n2
      have s2 := s1.trans n2.same
      have hseq2 := s2.seq h.hS
      have fr2 : ∀ b ∈ [bt, D1, d, r, O1], H0 b = none := fun b hb => by
        simp only [List.mem_cons, List.not_mem_nil, or_false] at hb
        rcases hb with rfl | rfl | rfl | rfl | rfl
        · exact h.fr _ (by simp)
        · exact h.s0.free D1n
        · exact h.fr _ (by simp)
        · exact h.fr _ (by simp)
        · exact s1.free n2.free
      refine go_ixK hseq2 (cell_in k0 (by omega)) ?_
      walk_at "go"
      refine go_dec (fun c3 => ?_) (fun c3 => ?_)
      · walk_at "go"
        refine mk_Batch h2.dk fun bt3 D3 H3 s3 btn Dn bt3_ => ?_
        have hm := h2.many
        have h3 : S5 a H3 bt3 D3 d r O1 R1 R1 [] done1 := ⟨bt3_, h2.dk.same s3, let ⟨p, x, y⟩ := h2.ow; ⟨p, x.same s3, y⟩, fun z => by
          obtain ⟨p, x, _⟩ := h2.ow
          have e := x.dd
          have hn := h2.n
          simp only [List.mem_cons, List.not_mem_nil, or_false, not_or] at z hn
          rcases z with z | z | z | z
          · rw [z, btn] at e; cases e
          · rw [z, Dn] at e; cases e
          · exact hn.2.2.1 z
          · exact hn.2.2.2 z⟩
        have s03 := s2.trans s3
        have hseq3 := s03.seq h.hS
        walk_at "go"
        refine go_methD h3.dk (fun _ _ _ => rfl) ?_
        walk_at "go"
        refine go_ixK hseq3 (cell_in k0 (by omega)) ?_
        walk_at "go"
        refine go_methD h3.dk (fun _ _ _ => rfl) ?_
        walk_at "go"
        refine p_blocksE h3.dk ?_
        walk_at "go"
        have b0 := Int.emod_nonneg (cellI ns k / 15) (show (R1.length : Int) - 17 ≠ 0 by omega)
        have b1 := Int.emod_lt_of_pos (cellI ns k / 15) (show 0 < (R1.length : Int) - 17 by omega)
        generalize hi : 17 + cellI ns k / 15 % ((R1.length : Int) - 17) = i at *
        have i0 : 17 ≤ i := by omega
        have i1 : i < (R1.length : Int) := by omega
        refine go_ixK hseq3 (cell_in (by omega) (by omega)) ?_
        walk_at "go"
        refine p_rowOf fun p4 H4 s4 _ e4 => ?_
        have g4 := good_rowOf (cellI ns (k + 1))
        have h4 := h3.same s4
        walk_at "go"
        refine p_writeF h4.dk (by omega) i1 e4 g4 fun H5 c5 dk5 => ?_
        have h5 := h4.disk c5 i0 i1 dk5
        have fr3 : ∀ b ∈ [bt3, D3, d, r, O1], H0 b = none := fun b hb => by
          simp only [List.mem_cons, List.not_mem_nil, or_false] at hb
          rcases hb with rfl | rfl | rfl | rfl | rfl
          · exact s2.free btn
          · exact s2.free Dn
          · exact h.fr _ (by simp)
          · exact h.fr _ (by simp)
          · exact s1.free n2.free
        have s5 : Same H0 H5 := Same.chg (s03.trans s4) c5 fun b hb => fr3 b (by simp only [List.mem_cons, List.not_mem_nil, or_false] at hb ⊢; rcases hb with rfl | rfl <;> simp)
        walk_at "go"
        refine p_rowsL h5.dk fun L2 ls2 H6 s6 Ln b6 => ?_
        have h6 := h5.same s6
        walk_at "go"
        refine go_methD h6.dk (fun _ _ _ => rfl) ?_
        walk_at "go"
        refine p_writesE h6.dk ?_
        walk_at "go"
        exact q H6 bt3 D3 O1 L2 ls2 _ _ [] _ ⟨h.hS, s5.trans s6, h6, fr3, b6, (h5.dk.fresh Ln).2, by rw [List.getElem?_set_ne (by omega)]; exact o1, by simp⟩
      · walk_at "go"
        refine p_rowsL h2.dk fun L2 ls2 H6 s6 Ln b6 => ?_
        have h6 := h2.same s6
        walk_at "go"
        refine go_methD h6.dk (fun _ _ _ => rfl) ?_
        walk_at "go"
        refine p_writesE h6.dk ?_
        walk_at "go"
        exact q H6 bt D1 O1 L2 ls2 _ _ [] _ ⟨h.hS, s2.trans s6, h6, fr2, b6, (h2.dk.fresh Ln).2, o1, by simp⟩
    · walk_at "go"
      exact q H bt D O BL ls R Z ks done h
  · walk_at "go"
    exact q H bt D O BL ls R Z ks done h
theorem law2_2 {k : Int} {v3 : Option V} (h : L5 K a H0 H script ns bt D d r O BL ls R Z ks done n) (hn : n ≤ 50) (k0 : 0 ≤ k) (k1 : k + 1 < ns.length) {nx : Bk.St → Hp → Prop} {bk ct : Bk.St → Hp → Prop}
    (q : ∀ H' bt D O BL ls R Z ks done, L5 K a H0 H' script ns bt D d r O BL ls R Z ks done n → nx [some (.ref script), some (.ref d), some (.int k), v3, some (.ref BL), some (.int done), some (.ref bt), some (.ref O)] H') :
    tb_law_2_2 K a E ⟨nx, Q, bk, ct⟩ [some (.ref script), some (.ref d), some (.int k), v3, some (.ref BL), some (.int done), some (.ref bt), some (.ref O)] H := by
  unfold tb_law_2_2
  have hseq := h.seq
  have few := h.few
  have hm := h.s.many
  walk_at "go"
  refine go_ixK hseq (cell_in (by omega) (by omega)) ?_
  walk_at "go"
  refine go_dec (fun c1 => ?_) (fun c1 => ?_)
  · walk_at "go"
    refine go_ixK hseq (cell_in (by omega) (by omega)) ?_
    walk_at "go"
    refine p_beside h.s (by omega) fun i row H1 i0 i1 c1 h1 => ?_
    walk_at "go"
    refine p_rowsL h1.dk fun L2 ls2 H2 s2 Ln b2 => ?_
    have h2 := h1.same s2
    walk_at "go"
    refine go_methD h2.dk (fun _ _ _ => rfl) ?_
    walk_at "go"
    refine p_writesE h2.dk ?_
    walk_at "go"
    refine law2_3 (n := n) ⟨h.hS, (Same.chg h.s0 c1 fun b hb => h.fr b (by simp only [List.mem_cons, List.not_mem_nil, or_false] at hb ⊢; rcases hb with rfl | rfl <;> simp)).trans s2, h2, h.fr, b2, (h1.dk.fresh Ln).2, ?_, few⟩ hn k0 k1 q
    rw [List.getElem?_set_ne (by omega)]; exact h.z1
  · walk_at "go"
    exact law2_3 h hn k0 k1 q
theorem law2 {k : Int} {v3 : Option V} (h : L5 K a H0 H script ns bt D d r O BL ls R Z ks done n) (hn : n < 50) (k0 : 0 ≤ k) (k1 : k + 1 < ns.length) {nx : Bk.St → Hp → Prop} {bk ct : Bk.St → Hp → Prop}
    (q : ∀ H' bt D O BL ls R Z ks done, L5 K a H0 H' script ns bt D d r O BL ls R Z ks done (n + 1) → nx [some (.ref script), some (.ref d), some (.int k), v3, some (.ref BL), some (.int done), some (.ref bt), some (.ref O)] H') :
    tb_law_2 K a E ⟨nx, Q, bk, ct⟩ [some (.ref script), some (.ref d), some (.int k), v3, some (.ref BL), some (.int done), some (.ref bt), some (.ref O)] H := by
  unfold tb_law_2
  have hseq := h.seq
  have few := h.few
  walk_at "go"
  refine go_ixK hseq (cell_in k0 (by omega)) ?_
  walk_at "go"
  refine go_ixK hseq (cell_in (by omega) (by omega)) ?_
  walk_at "go"
  refine p_deed h.s (by omega) fun Z1 ks1 H1 c1 h1 l1 => ?_
  have g1 := h.move c1 (fun b hb => by simp only [List.mem_cons, List.not_mem_nil, or_false] at hb ⊢; rcases hb with rfl | rfl <;> simp) h1 (n' := n + 1) (by omega)
  walk_at "go"
  refine go_methD h1.dk (fun _ _ _ => rfl) ?_
  walk_at "go"
  refine p_writesE h1.dk ?_
  walk_at "go"
  have hseq1 := g1.seq
  try rw [decide_eq_true rfl]
  walk_at "go"
  refine go_ixK hseq1 (cell_in (by omega) (by omega)) ?_
  walk_at "go"
  refine p_reads h1 fun H2 s2 => ?_
  have g2 := g1.same s2
  walk_at "go"
  refine p_rowsL g2.s.dk fun L3 ls3 H3 s3 Ln b3 => ?_
  have g3 := g2.same s3
  walk_at "go"
  refine tell_ne b3.tell g3.bs.tell ?_
  walk_at "go"
  exact law2_2 g3 (by omega) k0 k1 q
end

end Bk

namespace Bk
open PySem L2 PyProof.Rows
/-! our own short tactics: h: what stands at a place; ne: two places; sm: what stood stands; z: a size; s: a step; go: steps -/
local macro_rules | `(tactic| walk_at "h") => `(tactic| first
  | assumption
  | exact New.at (by assumption)
  | exact Wr.at (by assumption)
  | (refine' New.old (by assumption) ?_; walk_at "h")
  | (refine' Same.at (by assumption) ?_; walk_at "h")
  | (refine' Wr.old (by assumption) ?_ ?_; walk_at "ne"; walk_at "h")
  | (refine' Chg.at (by assumption) ?_ ?_; walk_at "ni"; walk_at "h"))
local macro_rules | `(tactic| walk_at "ni") => `(tactic| first
  | exact ni_nil
  | assumption
  | (refine' ni_cons ?_ ?_; walk_at "ne"; walk_at "ni"))
local macro_rules | `(tactic| walk_at "ne") => `(tactic| first
  | assumption
  | exact Ne.symm (by assumption)
  | exact New.ne (by assumption) (by walk_at "h")
  | exact ne_none (by assumption) (by walk_at "h")
  | exact Ne.symm (ne_none (by assumption) (by walk_at "h"))
  | exact Ne.symm (New.ne (by assumption) (by walk_at "h")))
local macro_rules | `(tactic| walk_at "sm") => `(tactic| first
  | exact Same.refl _
  | assumption
  | (refine' Same.trans ?_ (New.same (by assumption)); walk_at "sm")
  | (refine' Same.trans ?_ (by assumption : Same _ _); walk_at "sm"))
local macro_rules | `(tactic| walk_at "z") => `(tactic| first
  | assumption
  | (rw [PySem.sizeLine_eq]; omega)
  | (rw [PySem.sizeLine_eq]; simp only [List.length_cons, List.length_nil, List.length_append, List.length_map, List.length_range, List.length_replicate, len_cut]; omega)
  | (rw [PySem.sizeLine_eq]; simp only [List.length_cons, List.length_nil, List.length_append, List.length_map, List.length_range, List.length_replicate, len_cut] at *; omega))
local macro_rules | `(tactic| walk_at "s") => `(tactic| first
  | ((with_reducible refine' go_var ?h ?_); (case h => exact rfl))
  | (with_reducible refine' go_c ?_)
  | (with_reducible refine' go_op ?_)
  | (with_reducible refine' go_un ?_)
  | (with_reducible refine' go_rU ?_)
  | (with_reducible refine' go_seq ?_)
  | (with_reducible refine' go_ret ?_)
  | (with_reducible refine' go_retN ?_)
  | (with_reducible refine' go_next ?_)
  | (with_reducible refine' go_drop ?_)
  | (with_reducible refine' go_asg ?_)
  | ((with_reducible refine' go_name2 ?h ?_); (case h => (simp only [List.set_cons_zero, List.set_cons_succ]; exact rfl)))
  | ((with_reducible refine' go_name2 ?h ?_); (case h => exact rfl))
  | (with_reducible refine' go_ifS ?_)
  | (with_reducible refine' go_blk ?_)
  | (with_reducible refine' go_test ?_)
  | (with_reducible refine' go_tB ?_)
  | (with_reducible refine' go_and ?_)
  | (with_reducible refine' go_or ?_)
  | (with_reducible refine' go_not ?_)
  | (with_reducible refine' go_andV ?_)
  | (with_reducible refine' go_orV ?_)
  | (with_reducible refine' go_notV ?_)
  | (with_reducible refine' go_if ?_)
  | (with_reducible refine' go_chain ?_)
  | (with_reducible refine' iteT ?_)
  | (with_reducible refine' iteF ?_)
  | ((with_reducible refine' go_Td ?h ?_); (case h => walk_at "pr"))
  | ((with_reducible refine' go_Fd ?h ?_); (case h => walk_at "pr"))
  | ((with_reducible refine' go_Tn ?h ?_); (case h => walk_at "pr"))
  | ((with_reducible refine' go_Fn ?h ?_); (case h => walk_at "pr"))
  | ((with_reducible refine' go_T ?h ?_); (case h => (first | decide | assumption | exact rfl)))
  | ((with_reducible refine' go_F ?h ?_); (case h => (first | decide | assumption | exact rfl)))
  | (with_reducible refine' go_nil ?_)
  | (with_reducible refine' go_cons ?_)
  | (with_reducible refine' go_tLst ?_)
  | (with_reducible refine' go_tTup ?_)
  | ((with_reducible refine' go_LstK ?h ?_); (case h => walk_at "z"); intro p H1 n1)
  | ((with_reducible refine' go_TupK ?h ?_); (case h => walk_at "z"); intro p H1 n1)
  | (with_reducible refine' go_addI ?_)
  | ((with_reducible refine' go_addL ?h ?k ?z ?_); (case h => walk_at "h"); (case k => walk_at "h"); (case z => walk_at "z"); intro p H1 n1)
  | (with_reducible refine' go_sub ?_)
  | ((with_reducible refine' go_mulI ?h ?_); (case h => (unfold CMul; omega)))
  | ((with_reducible refine' go_mulL ?h ?k ?_); (case h => walk_at "h"); (case k => (refine ⟨by omega, by omega, ?_⟩; walk_at "z")); intro p H1 n1)
  | ((with_reducible refine' go_div ?h ?_); (case h => (unfold CDiv; omega)))
  | ((with_reducible refine' go_mod ?h ?_); (case h => omega))
  | (with_reducible refine' go_p109 ?_)
  | (with_reducible refine' go_p1020 ?_)
  | ((with_reducible refine' go_pow ?h ?_); (case h => (unfold CPow; omega)))
  | (with_reducible refine' go_lt ?_)
  | (with_reducible refine' go_le ?_)
  | (with_reducible refine' go_gt ?_)
  | (with_reducible refine' go_ge ?_)
  | (with_reducible refine' go_eqI ?_)
  | (with_reducible refine' go_eqB ?_)
  | (with_reducible refine' go_eqS ?_)
  | (with_reducible refine' go_neI ?_)
  | (with_reducible refine' go_neB ?_)
  | (with_reducible refine' go_neS ?_)
  | (with_reducible refine' go_isN ?_)
  | (with_reducible refine' go_isNotN ?_)
  | (with_reducible refine' go_isB ?_)
  | (with_reducible refine' go_isNotB ?_)
  | (with_reducible refine' go_sl ?_)
  | (with_reducible refine' go_noPart ?_)
  | (with_reducible refine' go_part ?_)
  | (with_reducible refine' go_intK ?_)
  | ((with_reducible refine' go_slL ?h ?_); (case h => walk_at "h"); intro p H1 n1)
  | ((with_reducible refine' go_ixL ?h ?k ?_); (case h => walk_at "h"); (case k => exact rfl))
  | ((with_reducible refine' go_ixT ?h ?k ?_); (case h => walk_at "h"); (case k => exact rfl))
  | ((with_reducible refine' go_slW ?h ?_); (case h => walk_at "h"))
  | (with_reducible refine' go_bm ?_)
  | (with_reducible refine' go_bm0 ?_)
  | ((with_reducible refine' go_bmL ?h ?_); (case h => walk_at "h"))
  | ((with_reducible refine' go_append ?h ?k ?_); (case h => walk_at "h"); (case k => walk_at "z"); intro H1 n1)
  | ((with_reducible refine' go_extend ?h ?k ?z ?_); (case h => walk_at "h"); (case k => walk_at "h"); (case z => walk_at "z"); intro H1 n1)
  | ((with_reducible refine' go_clear ?h ?_); (case h => walk_at "h"); intro H1 n1)
  | ((with_reducible refine' go_dnew ?_); intro p H1 n1)
  | (with_reducible refine' go_cb ?_)
  | (with_reducible refine' go_callS ?_)
  | (with_reducible refine' go_call0 ?_)
  | ((with_reducible refine' go_lenL ?h ?_); (case h => walk_at "h"))
  | ((with_reducible refine' go_lenT ?h ?_); (case h => walk_at "h"))
  | ((with_reducible refine' go_lenK ?h ?_); (case h => walk_at "hk"))
  | ((with_reducible refine' go_listL ?h ?_); (case h => walk_at "h"); intro p H1 n1)
  | ((with_reducible refine' go_listT ?h ?_); (case h => walk_at "h"); intro p H1 n1)
  | ((with_reducible refine' go_tupleL ?h ?_); (case h => walk_at "h"); intro p H1 n1)
  | (with_reducible refine' go_intI ?_)
  | (with_reducible refine' go_intB ?_)
  | (with_reducible refine' go_abs ?_)
  | (with_reducible refine' go_min2 ?_)
  | (with_reducible refine' go_max2 ?_)
  | ((with_reducible refine' go_isi ?h ?k ?_); (case h => walk_at "ty"); (case k => exact kit_bb (by decide) (by decide)))
  | (with_reducible refine' go_lc ?_)
  | (with_reducible refine' go_for ?_)
  | (with_reducible refine' go_seqP ?_)
  | ((with_reducible refine' go_seqL ?h ?_); (case h => walk_at "h"))
  | ((with_reducible refine' go_seqT ?h ?_); (case h => walk_at "h"))
  | (with_reducible refine' go_seqS ?_)
  | (with_reducible refine' go_rng1 ?_)
  | (with_reducible refine' go_rng2 ?_)
  | ((with_reducible refine' go_rng1K ?h ?_); (case h => omega))
  | ((with_reducible refine' go_rng2K ?h ?_); (case h => omega))
  | (with_reducible refine' go_raise ?_)
  | ((with_reducible refine' go_tupG ?h ?k ?_); (case h => walk_at "h"); (case k => exact rfl))
  | ((with_reducible refine' go_lstG ?h ?k ?_); (case h => walk_at "h"); (case k => exact rfl))
  | (with_reducible refine' go_gNil ?_)
  | (with_reducible refine' go_tryAs ?_)
  | (with_reducible refine' go_tryMany1 ?_)
  | (with_reducible refine' go_tryMany2 ?_)
  | (with_reducible refine' go_WM ?_)
  | ((with_reducible refine' go_asT ?_); intro e he)
  | (with_reducible refine' go_asF ?_)
  | ((with_reducible refine' go_manyT ?_); intro e he)
  | (with_reducible refine' go_manyF ?_)
  | (with_reducible refine' go_manyN ?_)
  | (with_reducible refine' go_fld ?_)
  | ((with_reducible refine' go_FldK ?h ?c ?n ?l ?_); (case h => walk_at "h"); (case c => infer_instance); (case n => infer_instance); (case l => exact rfl))
  | (with_reducible refine' go_sfld ?_)
  | ((with_reducible refine' go_SFldK ?h ?c ?n ?l ?e ?_); (case h => walk_at "h"); (case c => infer_instance); (case n => infer_instance); (case l => exact Nat.le_of_ble_eq_true rfl); (case e => walk_at "pf"); intro H1 n1)
  | (with_reducible refine' go_meth ?_)
  | ((with_reducible refine' go_MethK 0 ?h ?l ?e ?_); (case h => walk_at "h"); (case l => exact rfl); (case e => exact rfl))
  | ((with_reducible refine' go_MethK 1 ?h ?l ?e ?_); (case h => walk_at "h"); (case l => exact rfl); (case e => exact rfl))
  | ((with_reducible refine' go_MethK 2 ?h ?l ?e ?_); (case h => walk_at "h"); (case l => exact rfl); (case e => exact rfl))
  | (with_reducible refine' go_make ?_)
  | (with_reducible refine' go_callX ?_)
  | (with_reducible refine' go_methX ?_)
  | ((with_reducible refine' go_MethXK ?h ?l ?_); (case h => walk_at "h"); (case l => exact rfl))
  | (with_reducible refine' go_dget ?_)
  | ((with_reducible refine' go_DGetS ?h ?l ?_); (case h => walk_at "h"); (case l => exact rfl))
  | (with_reducible refine' go_dput ?_)
  | ((with_reducible refine' go_DPutS ?h ?l ?e ?_); (case h => walk_at "h"); (case l => exact Nat.le_of_ble_eq_true rfl); (case e => walk_at "pk"); intro H1 n1)
  | ((with_reducible refine' go_disp ?_); intro p H1 n1)
  | (with_reducible refine' go_pairs ?_)
  | (with_reducible refine' go_pairs0 ?_)
  | ((with_reducible refine' go_DispS ?h ?e ?l ?k ?j ?m ?_); (case h => walk_at "h"); (case e => exact rfl); (case l => exact Nat.le_of_ble_eq_true rfl); (case k => (simp only [unS]; exact rfl)); (case j => (simp only [List.map_cons, List.map_nil]; exact rfl)); (case m => decide +kernel); intro H1 n1)
  | (with_reducible refine' go_par ?_)
  | ((with_reducible refine' go_ParK ?h ?_); (case h => (simp only [List.set_cons_zero, List.set_cons_succ]; exact rfl)))
  | (with_reducible refine' go_sub_ ?_)
  | ((with_reducible refine' go_setLi ?h ?k ?_); (case h => walk_at "h"); (case k => walk_at "ix"); intro H1 n1)
  | (with_reducible refine' go_listY ?_)
  | ((with_reducible refine' go_listYL ?h ?_); (case h => walk_at "h"))
  | (with_reducible refine' go_bmS ?_)
  | (with_reducible refine' go_ckw ?_)
  | ((with_reducible refine' go_maxD ?h ?_); (case h => walk_at "h"))
  | (with_reducible refine' go_listR ?_)
  | (with_reducible refine' go_rg2 ?_)
  | (with_reducible refine' go_Rg2K ?_)
  | (with_reducible refine' go_rg1 ?_)
  | (with_reducible refine' go_Rg1K ?_)
  | ((with_reducible refine' go_ListRK ?h ?_); (case h => omega); intro p H1 n1)
  | (with_reducible refine' go_enum ?_)
  | ((with_reducible refine' go_EnumL ?h ?_); (case h => walk_at "h"))
  | (with_reducible refine' go_isX ?_)
  | (with_reducible refine' go_isXt ?_)
  | (with_reducible refine' go_din ?_)
  | (with_reducible refine' go_dnotin ?_)
  | ((with_reducible refine' go_DInI ?h ?_); (case h => walk_at "h"))
  | ((with_reducible refine' go_DNotInI ?h ?_); (case h => walk_at "h"))
  | (with_reducible refine' go_dget2 ?_)
  | ((with_reducible refine' go_DGet2K ?h ?_); (case h => walk_at "h"))
  | (with_reducible refine' go_dpop1 ?_)
  | ((with_reducible refine' go_eqDE ?h ?k ?_); (case h => walk_at "h"); (case k => walk_at "h"))
  | ((with_reducible refine' go_neDE ?h ?k ?_); (case h => walk_at "h"); (case k => walk_at "h"))
  | (with_reducible refine' go_chain3 ?_)
  | (with_reducible refine' go_LinkT ?_)
  | (with_reducible refine' go_LinkF ?_)
  | (with_reducible refine' go_Link2T ?_)
  | (with_reducible refine' go_Link2F ?_)
  | (with_reducible refine' go_gSl ?_)
  | ((with_reducible refine' go_insert ?h ?k ?l ?m ?_); (case h => walk_at "h"); (case k => walk_at "z"); (case l => omega); (case m => omega); intro H1 n1)
  | (with_reducible refine' go_gCons ?_))
local macro_rules | `(tactic| walk_at "pf") => `(tactic| first
  | exact putF_nil
  | exact putF_hit
  | (refine' putF_miss ?h ?k; (case h => decide +kernel); (case k => walk_at "pf")))
local macro_rules | `(tactic| walk_at "pk") => `(tactic| first
  | exact putK_nil
  | exact putK_hit (by (simp only [List.map_cons, List.map_nil]; decide +kernel))
  | (refine' putK_miss ?h ?k; (case h => decide +kernel); (case k => walk_at "pk")))
local macro_rules | `(tactic| walk_at "ix") => `(tactic| first
  | assumption
  | omega
  | (simp only [List.length_cons, List.length_nil, List.length_append, List.length_map, List.length_range, List.length_replicate, List.length_set] at *; omega))
local macro_rules | `(tactic| walk_at "pr") => `(tactic| first
  | assumption
  | decide
  | omega
  | exact rfl
  | (intro z; cases z; done))
local macro_rules | `(tactic| walk_at "hk") => `(tactic| first
  | assumption
  | exact seq' (by assumption) (by walk_at "sm"))
local macro_rules | `(tactic| walk_at "ty") => `(tactic| first
  | exact rfl
  | assumption
  | exact tyN_L (by walk_at "h")
  | exact tyN_T (by walk_at "h")
  | exact tyN_D (by walk_at "h"))
local macro_rules | `(tactic| walk_at "go") => `(tactic| repeat (walk_at "s"))
section
variable {K : PySem.W.Frag} {a : Ac} {H H' H0 : Hp} {Q : VK} {E : XK} [F : Fc K a] {bt D d r O BL script : Addr} {R Z : List (List Int)} {ks ns : List Int} {done : Int} {ls : List Addr} {n : Nat}
omit F in
theorem go_rng3B {R : It → Hp → Prop} {m : Int} (h : -1 ≤ m ∧ m ≤ 1000) (q : R (Itc 8 2 ((m - 7) / 2).toNat) H) : Rng3K R [.int 8, .int m, .int 2] H := by
  have e : PySem.Builtin.Range.rangeSize 8 m 2 = (((m - 7) / 2).toNat : Nat) := by
    unfold PySem.Builtin.Range.rangeSize
    simp only [show (2 : Int) > 0 by decide, if_true]
    split <;> omega
  refine ⟨8, m, 2, _, rfl, ⟨by decide, by decide, ?_, e⟩, q⟩
  unfold PySem.Builtin.Range.small
  rw [e]
  simp only [PySem.Builtin.Range.rangeFitsLong, Bool.and_eq_true, Bool.or_eq_true, decide_eq_true_eq, beq_iff_eq, show (2 : Int) > 0 by decide, if_true]
  omega
theorem law6 {v3 v2 : Option V} (h : L5 K a H0 H script ns bt D d r O BL ls R Z ks done 0) (hl : ns.length ≤ 63) (q : ∀ H', Q (.bl true) H') :
    t_law_6 K a E ⟨fun _ H' => Q .non H', Q, F0, F0⟩ [some (.ref script), some (.ref d), v2, v3, some (.ref BL), some (.int done), some (.ref bt), some (.ref O)] H := by
  unfold t_law_6
  have hseq := h.seq
  walk_at "go"
  refine go_rng3 ?_
  walk_at "go"
  obtain ⟨M, hM⟩ : ∃ M : Int, M = min ((ns.length : Int) - 1) 56 := ⟨_, rfl⟩
  have tail : ∀ M : Int, -1 ≤ M → M ≤ (ns.length : Int) - 1 → M ≤ 56 → ForK (gName 2) (tb_law_2 K a E) ⟨fun σ H => tRet (tCallS (sp_L_finished K a) (WE (WM E)) (tCons (tVar 6) (tCons (tVar 1) (tCons (tVar 7) (tCons (tVar 4) (tNil)))))) ⟨fun _ H' => Q .non H', Q, F0, F0⟩ σ H, Q, F0, F0⟩ [some (.ref script), some (.ref d), v2, v3, some (.ref BL), some (.int done), some (.ref bt), some (.ref O)] (Itc 8 2 ((M - 7) / 2).toNat) H := by
    intro M m0 m1 m2
    refine for_C (fun i σ' H' => ∃ w2 bt D O BL ls R Z ks done, σ' = [some (.ref script), some (.ref d), w2, v3, some (.ref BL), some (.int done), some (.ref bt), some (.ref O)] ∧ L5 K a H0 H' script ns bt D d r O BL ls R Z ks done i) ⟨_, _, _, _, _, _, _, _, _, _, rfl, h⟩ ?_ ?_
    · rintro i σ' H1 hi ⟨w2, bt, D, O, BL, ls, R, Z, ks, done, rfl, h1⟩
      simp only [List.set_cons_zero, List.set_cons_succ]
      exact law2 h1 (by omega) (by omega) (by omega) fun H' bt D O BL ls R Z ks done h' => ⟨_, _, _, _, _, _, _, _, _, _, rfl, h'⟩
    · rintro σ' H1 ⟨w2, bt, D, O, BL, ls, R, Z, ks, done, rfl, h1⟩
      have few := h1.few
      walk_at "go"
      exact p_finished h1.s h1.bs h1.nB (by omega) h1.z1 fun H' _ => q H'
  rw [List.length_map]
  exact go_rng3B (by split <;> omega) (tail _ (by split <;> omega) (by split <;> omega) (by split <;> omega))
theorem law_pure {vs : List V} (h : spLaw K vs H Q E) : sp_law K a vs H Q E := by
  obtain ⟨script, ns, rfl, hS, hl, q⟩ := h
  refine in_law ?_
  unfold t_law
  walk_at "go"
  refine p_cell_at (ns := ns) hS (by omega) ?_
  generalize cellI ns 0 = c0
  walk_at "go"
  have hm : 24 ≤ 24 + c0 % 73 ∧ 24 + c0 % 73 ≤ 96 := by omega
  generalize hmm : 24 + c0 % 73 = m at hm ⊢
  refine mk_Disk hm fun d r ps H1 s1 dn rn pn h1 => ?_
  have dk1 : DkEx a [] H1 d r (List.replicate m.toNat (List.replicate 16 0)) 0 none := ⟨ps, h1, fun _ _ => by simp, fun t ht => by cases ht⟩
  have hS1 := s1.seq hS
  walk_at "go"
  refine p_cell_at (ns := ns) hS1 (by omega) ?_
  generalize cellI ns 1 = c1
  walk_at "go"
  refine for_R (fun i σ' H' => ∃ w2 w3 R done, σ' = [some (.ref script), some (.ref d), w2, w3, none, none, none, none] ∧ Same H H' ∧ DkEx a [] H' d r R done none ∧ R[1]? = some (List.replicate 16 0)) ⟨_, _, _, _, rfl, s1, dk1, ?_⟩ ?_ ?_
  · rw [List.getElem?_replicate, if_pos (by omega)]
  · rintro i σ' H2 hi ⟨w2, w3, R, done, rfl, s2, dk, z1⟩
    simp only [List.set_cons_zero, List.set_cons_succ, Int.zero_add]
    unfold tb_law_1
    have many := dk.many
    have hS2 := s2.seq hS
    walk_at "go"
    refine p_cell_at (ns := ns) hS2 (by omega) ?_
    generalize cellI ns (2 + (i : Int)) = c2
    walk_at "go"
    refine go_methD dk (fun _ _ _ => rfl) ?_
    walk_at "go"
    refine p_blocksE dk ?_
    walk_at "go"
    have b0 := Int.emod_nonneg (c2 * 48271 % 7919) (show (R.length : Int) - 17 ≠ 0 by omega)
    have b1 := Int.emod_lt_of_pos (c2 * 48271 % 7919) (show 0 < (R.length : Int) - 17 by omega)
    generalize hp : 17 + c2 * 48271 % 7919 % ((R.length : Int) - 17) = p at *
    have p0 : 17 ≤ p := by omega
    have p1 : p < (R.length : Int) := by omega
    refine go_methD dk (fun _ _ _ => rfl) ?_
    walk_at "go"
    refine p_cell_at (ns := ns) hS2 (by omega) ?_
    generalize cellI ns (2 + (i : Int)) = c3
    walk_at "go"
    refine p_rowOf fun p4 H4 s4 _ e4 => ?_
    have g4 := good_rowOf c3
    have dk4 := dk.same s4
    walk_at "go"
    refine p_writeF dk4 (by omega) p1 e4 g4 fun H5 c5 dk5 => ?_
    refine ⟨_, _, _, _, rfl, Same.chg (s2.trans s4) c5 (by simp [dn, rn]), dk5, ?_⟩
    rw [List.getElem?_set_ne (by omega)]; exact z1
  · rintro σ' H2 ⟨w2, w3, R, done, rfl, s2, dk, z1⟩
    unfold t_law_2
    walk_at "go"
    refine p_rowsL dk fun L3 ls3 H3 s3 Ln b3 => ?_
    have dk3 := dk.same s3
    walk_at "go"
    refine go_methD dk3 (fun _ _ _ => rfl) ?_
    walk_at "go"
    refine p_writesE dk3 ?_
    walk_at "go"
    refine mk_Batch dk3 fun bt D H4 s4 btn Dn h4 => ?_
    walk_at "go"
    rename_i O H5 n5
    have s03 := s2.trans s3
    have s04 := s03.trans s4
    have s5 := S5.new h4 (dk3.same s4) n5
    refine law6 ⟨hS, s04.trans n5.same, s5, fun b hb => ?_, (b3.same s4).same n5.same, (dk.fresh Ln).2, z1, by simp⟩ hl q
    simp only [List.mem_cons, List.not_mem_nil, or_false] at hb
    rcases hb with rfl | rfl | rfl | rfl | rfl
    · exact s03.free btn
    · exact s03.free Dn
    · exact dn
    · exact rn
    · exact s04.free n5.free
end

end Bk

namespace Bk
open PySem L2 PyProof.Rows
def topS (i : Nat) : Stmt := PySem.Challenge.pw_blockkeep_k05_read_through_a_batch.main.body.getD i (.Pass ⟨0, 0, 0, 0⟩)
abbrev s__wall : Stmt := topS 0
abbrev s_is_word : Stmt := topS 12
abbrev s_is_row : Stmt := topS 13
abbrev s_need_row : Stmt := topS 14
abbrev s_empty_row : Stmt := topS 15
abbrev s_changed : Stmt := topS 16
abbrev s_is_many : Stmt := topS 20
abbrev s_Disk_init : Stmt := inClass (topS 21) 0
abbrev s_Disk_blocks : Stmt := inClass (topS 21) 1
abbrev s_Disk_need : Stmt := inClass (topS 21) 2
abbrev s_Disk_read : Stmt := inClass (topS 21) 3
abbrev s_Disk_write : Stmt := inClass (topS 21) 4
abbrev s_Disk_writes : Stmt := inClass (topS 21) 5
abbrev s_Disk_stop_after : Stmt := inClass (topS 21) 6
abbrev s_Disk_go_on : Stmt := inClass (topS 21) 7
abbrev s_Disk_twin : Stmt := inClass (topS 21) 8
abbrev s_is_home : Stmt := topS 26
abbrev s_need_pairs : Stmt := topS 27
abbrev s_carry_home : Stmt := topS 28
abbrev s_commit : Stmt := topS 29
abbrev s_Batch_init : Stmt := inClass (topS 31) 0
abbrev s_Batch_read : Stmt := inClass (topS 31) 1
abbrev s_Batch_write : Stmt := inClass (topS 31) 2
abbrev s_Batch_pairs : Stmt := inClass (topS 31) 3
abbrev s_Batch_finish : Stmt := inClass (topS 31) 4
abbrev s_L_cell_at : Stmt := topS 33
abbrev s_L_row : Stmt := topS 34
abbrev s_L_odd_row : Stmt := topS 35
abbrev s_L_odd_block : Stmt := topS 36
abbrev s_L_kinds : Stmt := topS 37
abbrev s_L_written : Stmt := topS 38
abbrev s_L_like : Stmt := topS 39
abbrev s_L_deed : Stmt := topS 40
abbrev s_L_rows : Stmt := topS 41
abbrev s_L_reads : Stmt := topS 42
abbrev s_L_beside : Stmt := topS 43
abbrev s_L_finished : Stmt := topS 44
abbrev s_law : Stmt := topS 45
structure Ad where
  (f__wall f_is_word f_is_row f_need_row f_empty_row f_changed f_is_many f_Disk_init f_Disk_blocks f_Disk_need f_Disk_read f_Disk_write f_Disk_writes f_Disk_stop_after f_Disk_go_on f_Disk_twin f_is_home f_need_pairs f_carry_home f_commit f_Batch_init f_Batch_read f_Batch_write f_Batch_pairs f_Batch_finish f_L_cell_at f_L_row f_L_odd_row f_L_odd_block f_L_kinds f_L_written f_L_like f_L_deed f_L_rows f_L_reads f_L_beside f_L_finished f_law : Addr)
  (fd__wall fd_is_word fd_is_row fd_need_row fd_empty_row fd_changed fd_is_many fd_Disk_init fd_Disk_blocks fd_Disk_need fd_Disk_read fd_Disk_write fd_Disk_writes fd_Disk_stop_after fd_Disk_go_on fd_Disk_twin fd_is_home fd_need_pairs fd_carry_home fd_commit fd_Batch_init fd_Batch_read fd_Batch_write fd_Batch_pairs fd_Batch_finish fd_L_cell_at fd_L_row fd_L_odd_row fd_L_odd_block fd_L_kinds fd_L_written fd_L_like fd_L_deed fd_L_rows fd_L_reads fd_L_beside fd_L_finished fd_law : FuncData)
structure Tx (K : PySem.W.Frag) (mg : Str → Option Value) (a : Ac) (b : Ad) : Prop where
  g_WIDE : ∃ u, mg "WIDE" = some u ∧ RelV (.int 16) u
  g_MOST_WORD : ∃ u, mg "MOST_WORD" = some u ∧ RelV (.int 999999999) u
  g_LEAST_BLOCKS : ∃ u, mg "LEAST_BLOCKS" = some u ∧ RelV (.int 24) u
  g_MOST_BLOCKS : ∃ u, mg "MOST_BLOCKS" = some u ∧ RelV (.int 96) u
  g_LOG_AT : ∃ u, mg "LOG_AT" = some u ∧ RelV (.int 1) u
  g_MAPS_AT : ∃ u, mg "MAPS_AT" = some u ∧ RelV (.int 17) u
  g_MOST_HOMES : ∃ u, mg "MOST_HOMES" = some u ∧ RelV (.int 15) u
  n_ValueError : mg "ValueError" = none
  n_all : mg "all" = none
  n_bool : mg "bool" = none
  n_enumerate : mg "enumerate" = none
  n_int : mg "int" = none
  n_isinstance : mg "isinstance" = none
  n_len : mg "len" = none
  n_list : mg "list" = none
  n_min : mg "min" = none
  n_range : mg "range" = none
  n_sorted : mg "sorted" = none
  n_tuple : mg "tuple" = none
  g__wall : mg "_wall" = some (.ref b.f__wall)
  k__wall : PySem.W.keepIn K (.ref b.f__wall) = true
  F__wall : Fun K "_wall" "_wall" s__wall b.f__wall b.fd__wall
  b__wall : Binds K b.fd__wall ["k"] []
  g_is_word : mg "is_word" = some (.ref b.f_is_word)
  k_is_word : PySem.W.keepIn K (.ref b.f_is_word) = true
  F_is_word : Fun K "is_word" "is_word" s_is_word b.f_is_word b.fd_is_word
  b_is_word : Binds K b.fd_is_word ["thing"] []
  g_is_row : mg "is_row" = some (.ref b.f_is_row)
  k_is_row : PySem.W.keepIn K (.ref b.f_is_row) = true
  F_is_row : Fun K "is_row" "is_row" s_is_row b.f_is_row b.fd_is_row
  b_is_row : Binds K b.fd_is_row ["thing"] []
  g_need_row : mg "need_row" = some (.ref b.f_need_row)
  k_need_row : PySem.W.keepIn K (.ref b.f_need_row) = true
  F_need_row : Fun K "need_row" "need_row" s_need_row b.f_need_row b.fd_need_row
  b_need_row : Binds K b.fd_need_row ["thing"] []
  g_empty_row : mg "empty_row" = some (.ref b.f_empty_row)
  k_empty_row : PySem.W.keepIn K (.ref b.f_empty_row) = true
  F_empty_row : Fun K "empty_row" "empty_row" s_empty_row b.f_empty_row b.fd_empty_row
  b_empty_row : Binds K b.fd_empty_row [] []
  g_changed : mg "changed" = some (.ref b.f_changed)
  k_changed : PySem.W.keepIn K (.ref b.f_changed) = true
  F_changed : Fun K "changed" "changed" s_changed b.f_changed b.fd_changed
  b_changed : Binds K b.fd_changed ["row", "at", "words"] []
  g_is_many : mg "is_many" = some (.ref b.f_is_many)
  k_is_many : PySem.W.keepIn K (.ref b.f_is_many) = true
  F_is_many : Fun K "is_many" "is_many" s_is_many b.f_is_many b.fd_is_many
  b_is_many : Binds K b.fd_is_many ["thing"] []
  F_Disk_init : Fun K "__init__" "Disk.__init__" s_Disk_init b.f_Disk_init b.fd_Disk_init
  b_Disk_init : Binds K b.fd_Disk_init ["self", "many"] []
  mt_Disk_blocks : Meth K a.Disk "blocks" b.f_Disk_blocks
  F_Disk_blocks : Fun K "blocks" "Disk.blocks" s_Disk_blocks b.f_Disk_blocks b.fd_Disk_blocks
  b_Disk_blocks : Binds K b.fd_Disk_blocks ["self"] []
  mt_Disk_need : Meth K a.Disk "need" b.f_Disk_need
  F_Disk_need : Fun K "need" "Disk.need" s_Disk_need b.f_Disk_need b.fd_Disk_need
  b_Disk_need : Binds K b.fd_Disk_need ["self", "block"] []
  mt_Disk_read : Meth K a.Disk "read" b.f_Disk_read
  F_Disk_read : Fun K "read" "Disk.read" s_Disk_read b.f_Disk_read b.fd_Disk_read
  b_Disk_read : Binds K b.fd_Disk_read ["self", "block"] []
  mt_Disk_write : Meth K a.Disk "write" b.f_Disk_write
  F_Disk_write : Fun K "write" "Disk.write" s_Disk_write b.f_Disk_write b.fd_Disk_write
  b_Disk_write : Binds K b.fd_Disk_write ["self", "block", "row"] []
  mt_Disk_writes : Meth K a.Disk "writes" b.f_Disk_writes
  F_Disk_writes : Fun K "writes" "Disk.writes" s_Disk_writes b.f_Disk_writes b.fd_Disk_writes
  b_Disk_writes : Binds K b.fd_Disk_writes ["self"] []
  mt_Disk_stop_after : Meth K a.Disk "stop_after" b.f_Disk_stop_after
  F_Disk_stop_after : Fun K "stop_after" "Disk.stop_after" s_Disk_stop_after b.f_Disk_stop_after b.fd_Disk_stop_after
  b_Disk_stop_after : Binds K b.fd_Disk_stop_after ["self", "count"] []
  mt_Disk_go_on : Meth K a.Disk "go_on" b.f_Disk_go_on
  F_Disk_go_on : Fun K "go_on" "Disk.go_on" s_Disk_go_on b.f_Disk_go_on b.fd_Disk_go_on
  b_Disk_go_on : Binds K b.fd_Disk_go_on ["self"] []
  mt_Disk_twin : Meth K a.Disk "twin" b.f_Disk_twin
  F_Disk_twin : Fun K "twin" "Disk.twin" s_Disk_twin b.f_Disk_twin b.fd_Disk_twin
  b_Disk_twin : Binds K b.fd_Disk_twin ["self"] []
  g_is_home : mg "is_home" = some (.ref b.f_is_home)
  k_is_home : PySem.W.keepIn K (.ref b.f_is_home) = true
  F_is_home : Fun K "is_home" "is_home" s_is_home b.f_is_home b.fd_is_home
  b_is_home : Binds K b.fd_is_home ["disk", "block"] []
  g_need_pairs : mg "need_pairs" = some (.ref b.f_need_pairs)
  k_need_pairs : PySem.W.keepIn K (.ref b.f_need_pairs) = true
  F_need_pairs : Fun K "need_pairs" "need_pairs" s_need_pairs b.f_need_pairs b.fd_need_pairs
  b_need_pairs : Binds K b.fd_need_pairs ["disk", "pairs"] []
  g_carry_home : mg "carry_home" = some (.ref b.f_carry_home)
  k_carry_home : PySem.W.keepIn K (.ref b.f_carry_home) = true
  F_carry_home : Fun K "carry_home" "carry_home" s_carry_home b.f_carry_home b.fd_carry_home
  b_carry_home : Binds K b.fd_carry_home ["disk", "homes"] []
  g_commit : mg "commit" = some (.ref b.f_commit)
  k_commit : PySem.W.keepIn K (.ref b.f_commit) = true
  F_commit : Fun K "commit" "commit" s_commit b.f_commit b.fd_commit
  b_commit : Binds K b.fd_commit ["disk", "pairs"] []
  F_Batch_init : Fun K "__init__" "Batch.__init__" s_Batch_init b.f_Batch_init b.fd_Batch_init
  b_Batch_init : Binds K b.fd_Batch_init ["self", "disk"] []
  mt_Batch_read : Meth K a.Batch "read" b.f_Batch_read
  F_Batch_read : Fun K "read" "Batch.read" s_Batch_read b.f_Batch_read b.fd_Batch_read
  b_Batch_read : Binds K b.fd_Batch_read ["self", "block"] []
  mt_Batch_write : Meth K a.Batch "write" b.f_Batch_write
  F_Batch_write : Fun K "write" "Batch.write" s_Batch_write b.f_Batch_write b.fd_Batch_write
  b_Batch_write : Binds K b.fd_Batch_write ["self", "block", "row"] []
  mt_Batch_pairs : Meth K a.Batch "pairs" b.f_Batch_pairs
  F_Batch_pairs : Fun K "pairs" "Batch.pairs" s_Batch_pairs b.f_Batch_pairs b.fd_Batch_pairs
  b_Batch_pairs : Binds K b.fd_Batch_pairs ["self"] []
  mt_Batch_finish : Meth K a.Batch "finish" b.f_Batch_finish
  F_Batch_finish : Fun K "finish" "Batch.finish" s_Batch_finish b.f_Batch_finish b.fd_Batch_finish
  b_Batch_finish : Binds K b.fd_Batch_finish ["self"] []
  g_L_cell_at : mg "_law_cell_at" = some (.ref b.f_L_cell_at)
  k_L_cell_at : PySem.W.keepIn K (.ref b.f_L_cell_at) = true
  F_L_cell_at : Fun K "_law_cell_at" "_law_cell_at" s_L_cell_at b.f_L_cell_at b.fd_L_cell_at
  b_L_cell_at : Binds K b.fd_L_cell_at ["_law_script", "_law_k"] []
  g_L_row : mg "_law_row" = some (.ref b.f_L_row)
  k_L_row : PySem.W.keepIn K (.ref b.f_L_row) = true
  F_L_row : Fun K "_law_row" "_law_row" s_L_row b.f_L_row b.fd_L_row
  b_L_row : Binds K b.fd_L_row ["_law_cell"] []
  g_L_odd_row : mg "_law_odd_row" = some (.ref b.f_L_odd_row)
  k_L_odd_row : PySem.W.keepIn K (.ref b.f_L_odd_row) = true
  F_L_odd_row : Fun K "_law_odd_row" "_law_odd_row" s_L_odd_row b.f_L_odd_row b.fd_L_odd_row
  b_L_odd_row : Binds K b.fd_L_odd_row ["_law_cell"] []
  g_L_odd_block : mg "_law_odd_block" = some (.ref b.f_L_odd_block)
  k_L_odd_block : PySem.W.keepIn K (.ref b.f_L_odd_block) = true
  F_L_odd_block : Fun K "_law_odd_block" "_law_odd_block" s_L_odd_block b.f_L_odd_block b.fd_L_odd_block
  b_L_odd_block : Binds K b.fd_L_odd_block ["_law_cell", "_law_many"] []
  g_L_kinds : mg "_law_kinds" = some (.ref b.f_L_kinds)
  k_L_kinds : PySem.W.keepIn K (.ref b.f_L_kinds) = true
  F_L_kinds : Fun K "_law_kinds" "_law_kinds" s_L_kinds b.f_L_kinds b.fd_L_kinds
  b_L_kinds : Binds K b.fd_L_kinds ["_law_e"] []
  g_L_written : mg "_law_written" = some (.ref b.f_L_written)
  k_L_written : PySem.W.keepIn K (.ref b.f_L_written) = true
  F_L_written : Fun K "_law_written" "_law_written" s_L_written b.f_L_written b.fd_L_written
  b_L_written : Binds K b.fd_L_written ["_law_batch", "_law_block", "_law_row_here"] []
  g_L_like : mg "_law_like" = some (.ref b.f_L_like)
  k_L_like : PySem.W.keepIn K (.ref b.f_L_like) = true
  F_L_like : Fun K "_law_like" "_law_like" s_L_like b.f_L_like b.fd_L_like
  b_L_like : Binds K b.fd_L_like ["_law_batch", "_law_disk", "_law_own", "_law_block"] []
  g_L_deed : mg "_law_deed" = some (.ref b.f_L_deed)
  k_L_deed : PySem.W.keepIn K (.ref b.f_L_deed) = true
  F_L_deed : Fun K "_law_deed" "_law_deed" s_L_deed b.f_L_deed b.fd_L_deed
  b_L_deed : Binds K b.fd_L_deed ["_law_batch", "_law_disk", "_law_own", "_law_cell", "_law_more"] []
  g_L_rows : mg "_law_rows" = some (.ref b.f_L_rows)
  k_L_rows : PySem.W.keepIn K (.ref b.f_L_rows) = true
  F_L_rows : Fun K "_law_rows" "_law_rows" s_L_rows b.f_L_rows b.fd_L_rows
  b_L_rows : Binds K b.fd_L_rows ["_law_disk"] []
  g_L_reads : mg "_law_reads" = some (.ref b.f_L_reads)
  k_L_reads : PySem.W.keepIn K (.ref b.f_L_reads) = true
  F_L_reads : Fun K "_law_reads" "_law_reads" s_L_reads b.f_L_reads b.fd_L_reads
  b_L_reads : Binds K b.fd_L_reads ["_law_batch", "_law_disk", "_law_cell"] []
  g_L_beside : mg "_law_beside" = some (.ref b.f_L_beside)
  k_L_beside : PySem.W.keepIn K (.ref b.f_L_beside) = true
  F_L_beside : Fun K "_law_beside" "_law_beside" s_L_beside b.f_L_beside b.fd_L_beside
  b_L_beside : Binds K b.fd_L_beside ["_law_batch", "_law_disk", "_law_own", "_law_cell"] []
  g_L_finished : mg "_law_finished" = some (.ref b.f_L_finished)
  k_L_finished : PySem.W.keepIn K (.ref b.f_L_finished) = true
  F_L_finished : Fun K "_law_finished" "_law_finished" s_L_finished b.f_L_finished b.fd_L_finished
  b_L_finished : Binds K b.fd_L_finished ["_law_batch", "_law_disk", "_law_own", "_law_base"] []
  g_law : mg "law" = some (.ref b.f_law)
  k_law : PySem.W.keepIn K (.ref b.f_law) = true
  F_law : Fun K "law" "law" s_law b.f_law b.fd_law
  b_law : Binds K b.fd_law ["_law_script"] []
  g_Disk : mg "Disk" = some (.ref a.Disk)
  c_Disk : Cls K a.Disk
  m_Disk : Mk K a.Disk b.f_Disk_init
  na_Disk_done : NoAttr K a.Disk "done"
  na_Disk_left : NoAttr K a.Disk "left"
  na_Disk_rows : NoAttr K a.Disk "rows"
  g_Batch : mg "Batch" = some (.ref a.Batch)
  c_Batch : Cls K a.Batch
  m_Batch : Mk K a.Batch b.f_Batch_init
  na_Batch_disk : NoAttr K a.Batch "disk"
  na_Batch_rows : NoAttr K a.Batch "rows"
  g_KeepError : mg "KeepError" = some (.ref a.KeepError)
  x_KeepError : ExOk K a.KeepError
  g_BadRow : mg "BadRow" = some (.ref a.BadRow)
  x_BadRow : ExOk K a.BadRow
  g_NoBlock : mg "NoBlock" = some (.ref a.NoBlock)
  x_NoBlock : ExOk K a.NoBlock
  g_Stopped : mg "Stopped" = some (.ref a.Stopped)
  x_Stopped : ExOk K a.Stopped
  g_BadDisk : mg "BadDisk" = some (.ref a.BadDisk)
  x_BadDisk : ExOk K a.BadDisk
  g_TooMuch : mg "TooMuch" = some (.ref a.TooMuch)
  x_TooMuch : ExOk K a.TooMuch
  g_BadLog : mg "BadLog" = some (.ref a.BadLog)
  x_BadLog : ExOk K a.BadLog
section
variable {P : Program} {w : World} {K : PySem.W.Frag} {mg : Str → Option Value} {base : Heap} {a : Ac} {b : Ad}
theorem sc__wall : FnScope ["k"] ["k"] (defScope s__wall) := ⟨rfl, rfl, rfl, by decide +kernel, rfl, by decide +kernel, by decide +kernel⟩
theorem ok__wall (T : Tx K mg a b) : FnOk P w K mg base (L2N.CX P w) 2 b.f__wall b.fd__wall ["k"] (sp__wall K a) := by
  refine okN (k := 1) (t := t__wall K a) T.F__wall sc__wall (fun cdv A outer s H E hr => ?_)
  exact pss_one (ps_while (passes_of rfl) (pt_val (pe_bl)) (pss_one (ps_pass)))
theorem sc_is_word : FnScope ["thing"] ["thing"] (defScope s_is_word) := ⟨rfl, rfl, rfl, by decide +kernel, rfl, by decide +kernel, by decide +kernel⟩
theorem ok_is_word (T : Tx K mg a b) : FnOk P w K mg base (L2N.CX P w) 2 b.f_is_word b.fd_is_word ["thing"] (sp_is_word K a) := by
  refine okN (k := 1) (t := t_is_word K a) T.F_is_word sc_is_word (fun cdv A outer s H E hr => ?_)
  exact pss_one (ps_ret (pe_and (pe_callB call_isi (by rfl) T.n_isinstance (by decide +kernel) (pa_cons (pv 0) (pa_cons (pe_bltn (by rfl) T.n_int (by decide +kernel) rfl) (pa_nil)))) (pe_and (pe_not (pe_callB call_isi (by rfl) T.n_isinstance (by decide +kernel) (pa_cons (pv 0) (pa_cons (pe_bltn (by rfl) T.n_bool (by decide +kernel) rfl) (pa_nil))))) (pe_one (pe_chain op_leP op_leP (pe_int) (pv 0) (pe_gl rfl T.g_MOST_WORD))))))
theorem sc_empty_row : FnScope [] [] (defScope s_empty_row) := ⟨rfl, rfl, rfl, by decide +kernel, rfl, by decide +kernel, by decide +kernel⟩
theorem ok_empty_row (T : Tx K mg a b) : FnOk P w K mg base (L2N.CX P w) 2 b.f_empty_row b.fd_empty_row [] (sp_empty_row K a) := by
  refine okN (k := 1) (t := t_empty_row K a) T.F_empty_row sc_empty_row (fun cdv A outer s H E hr => ?_)
  exact pss_one (ps_ret (pe_op op_mulP (pe_lst (pa_cons (pe_int) (pa_nil))) (pe_gl rfl T.g_WIDE)))
theorem sc_changed : FnScope ["row", "at", "words"] ["row", "at", "words"] (defScope s_changed) := ⟨rfl, rfl, rfl, by decide +kernel, rfl, by decide +kernel, by decide +kernel⟩
theorem ok_changed (T : Tx K mg a b) : FnOk P w K mg base (L2N.CX P w) 2 b.f_changed b.fd_changed ["row", "at", "words"] (sp_changed K a) := by
  refine okN (k := 1) (t := t_changed K a) T.F_changed sc_changed (fun cdv A outer s H E hr => ?_)
  exact pss_one (ps_ret (pe_op op_addP (pe_op op_addP (pe_slice sl_P (pv 0) (po_none) (po_some (pv 1))) (pv 2)) (pe_slice sl_P (pv 0) (po_some (pe_op op_addP (pv 1) (pe_callB call_lenP (by rfl) T.n_len (by decide +kernel) (pa_cons (pv 2) (pa_nil))))) (po_none))))
theorem sc_is_many : FnScope ["thing"] ["thing"] (defScope s_is_many) := ⟨rfl, rfl, rfl, by decide +kernel, rfl, by decide +kernel, by decide +kernel⟩
theorem ok_is_many (T : Tx K mg a b) : FnOk P w K mg base (L2N.CX P w) 2 b.f_is_many b.fd_is_many ["thing"] (sp_is_many K a) := by
  refine okN (k := 1) (t := t_is_many K a) T.F_is_many sc_is_many (fun cdv A outer s H E hr => ?_)
  exact pss_one (ps_ret (pe_and (pe_callB call_isi (by rfl) T.n_isinstance (by decide +kernel) (pa_cons (pv 0) (pa_cons (pe_bltn (by rfl) T.n_int (by decide +kernel) rfl) (pa_nil)))) (pe_and (pe_not (pe_callB call_isi (by rfl) T.n_isinstance (by decide +kernel) (pa_cons (pv 0) (pa_cons (pe_bltn (by rfl) T.n_bool (by decide +kernel) rfl) (pa_nil))))) (pe_one (pe_chain op_leP op_leP (pe_gl rfl T.g_LEAST_BLOCKS) (pv 0) (pe_gl rfl T.g_MOST_BLOCKS))))))
theorem sc_Disk_blocks : FnScope ["self"] ["self"] (defScope s_Disk_blocks) := ⟨rfl, rfl, rfl, by decide +kernel, rfl, by decide +kernel, by decide +kernel⟩
theorem ok_Disk_blocks (T : Tx K mg a b) : FnOk P w K mg base (L2N.CX P w) 2 b.f_Disk_blocks b.fd_Disk_blocks ["self"] (sp_Disk_blocks K a) := by
  refine okN (k := 1) (t := t_Disk_blocks K a) T.F_Disk_blocks sc_Disk_blocks (fun cdv A outer s H E hr => ?_)
  exact pss_one (ps_ret (pe_callB call_lenP (by rfl) T.n_len (by decide +kernel) (pa_cons (pe_fld (pv 0) rfl) (pa_nil))))
theorem sc_Disk_need : FnScope ["self", "block"] ["self", "block"] (defScope s_Disk_need) := ⟨rfl, rfl, rfl, by decide +kernel, rfl, by decide +kernel, by decide +kernel⟩
theorem ok_Disk_need (T : Tx K mg a b) : FnOk P w K mg base (L2N.CX P w) 2 b.f_Disk_need b.fd_Disk_need ["self", "block"] (sp_Disk_need K a) := by
  refine okN (k := 1) (t := t_Disk_need K a) T.F_Disk_need sc_Disk_need (fun cdv A outer s H E hr => ?_)
  exact pss_one (ps_if (PW.pt (pw_or (pt_not (pt_val (pe_callB call_isi (by rfl) T.n_isinstance (by decide +kernel) (pa_cons (pv 1) (pa_cons (pe_bltn (by rfl) T.n_int (by decide +kernel) rfl) (pa_nil)))))) (pw_or (pt_val (pe_callB call_isi (by rfl) T.n_isinstance (by decide +kernel) (pa_cons (pv 1) (pa_cons (pe_bltn (by rfl) T.n_bool (by decide +kernel) rfl) (pa_nil))))) (pw_or1 (pt_not (pt_chain op_leP op_ltP (pe_int) (pv 1) (pe_callB call_lenP (by rfl) T.n_len (by decide +kernel) (pa_cons (pe_fld (pv 0) rfl) (pa_nil))))))))) (pss_one (raiseE rfl (takesM rfl rfl rfl rfl) T.x_NoBlock T.g_NoBlock)) (pss_nil))
theorem sc_Disk_writes : FnScope ["self"] ["self"] (defScope s_Disk_writes) := ⟨rfl, rfl, rfl, by decide +kernel, rfl, by decide +kernel, by decide +kernel⟩
theorem ok_Disk_writes (T : Tx K mg a b) : FnOk P w K mg base (L2N.CX P w) 2 b.f_Disk_writes b.fd_Disk_writes ["self"] (sp_Disk_writes K a) := by
  refine okN (k := 1) (t := t_Disk_writes K a) T.F_Disk_writes sc_Disk_writes (fun cdv A outer s H E hr => ?_)
  exact pss_one (ps_ret (pe_fld (pv 0) rfl))
theorem okh_Disk_writes (T : Tx K mg a b) : FnP P w K mg base 2 b.f_Disk_writes b.fd_Disk_writes ["self"] (sph_Disk_writes K a) := by
  refine okP (k := 1) (t := th_Disk_writes K a) T.F_Disk_writes sc_Disk_writes (fun cdv A outer s H E p D hp hr => ?_)
  exact pss_one (ps_ret (pe_fld (pv 0) rfl))
theorem sc_Batch_init : FnScope ["self", "disk"] ["self", "disk"] (defScope s_Batch_init) := ⟨rfl, rfl, rfl, by decide +kernel, rfl, by decide +kernel, by decide +kernel⟩
theorem ok_Batch_init (T : Tx K mg a b) : FnOk P w K mg base (L2N.CX P w) 2 b.f_Batch_init b.fd_Batch_init ["self", "disk"] (sp_Batch_init K a) := by
  refine okN (k := 1) (t := t_Batch_init K a) T.F_Batch_init sc_Batch_init (fun cdv A outer s H E hr => ?_)
  exact pss_cons (ps_fld (pv 0) (pv 1) rfl) (pss_one (ps_fld (pv 0) (pe_dnewK) rfl))
theorem sc_Batch_pairs : FnScope ["self", "block"] ["self"] (defScope s_Batch_pairs) := ⟨rfl, rfl, rfl, by decide +kernel, rfl, by decide +kernel, by decide +kernel⟩
theorem ok_Batch_pairs (T : Tx K mg a b) : FnOk P w K mg base (L2N.CX P w) 2 b.f_Batch_pairs b.fd_Batch_pairs ["self"] (sp_Batch_pairs K a) := by
  refine okN (k := 1) (t := t_Batch_pairs K a) T.F_Batch_pairs sc_Batch_pairs (fun cdv A outer s H E hr => ?_)
  exact pss_one (ps_ret (pe_lc (own := [("block", 1)]) (g := gName 1) (tt := tYes) (te := tTup (tCons (tVar 1) (tCons (tCB ((rListP K)) (tCons (tDGet (tFld K (tVar 0) "rows") (tVar 1)) (tNil))) (tNil)))) rfl sc_Batch_pairs.nd (pi_seqP (pe_callB (call_sortedQ rfl) (by rfl) T.n_sorted (by decide +kernel) (pa_cons (pe_fld (pv 0) rfl) (pa_nil)))) (blkOk_by (N := ["self", "block"]) (sc := defScope s_Batch_pairs) (by decide +kernel)) (fun _ _ _ _ _ => pg_name (i := 1) sc_Batch_pairs.nd rfl (by first | exact Or.inl rfl | exact Or.inr rfl)) (fun _ _ _ _ _ => pts_nil) (fun _ _ _ _ _ => pe_tup (pa_cons (pv 1) (pa_cons (pe_callTy call_listP (by rfl) T.n_list (by decide +kernel) (pa_cons (pe_dget (hu_of hr) (pe_fld (pv 0) rfl) (pv 1) (fun _ _ => rfl)) (pa_nil))) (pa_nil))))))
theorem okh_Batch_pairs (T : Tx K mg a b) : FnP P w K mg base 2 b.f_Batch_pairs b.fd_Batch_pairs ["self"] (sph_Batch_pairs K a) := by
  refine okP (k := 1) (t := th_Batch_pairs K a) T.F_Batch_pairs sc_Batch_pairs (fun cdv A outer s H E p D hp hr => ?_)
  exact pss_one (ps_ret (pe_lcY (own := [("block", 1)]) (g := gName 1) (tt := tYes) (te := tTup (tCons (tVar 1) (tCons (tCB ((rListP K)) (tCons (tDGet (tFld K (tVar 0) "rows") (tVar 1)) (tNil))) (tNil)))) hp.co sc_Batch_pairs.nd (piy_list (pe_callB (call_sortedDH (HotY.of hp.hot)) (by rfl) T.n_sorted (by decide +kernel) (pa_cons (pe_fld (pv 0) rfl) (pa_nil)))) (blkOk_by (N := ["self", "block"]) (sc := defScope s_Batch_pairs) (by decide +kernel)) (fun _ _ _ _ _ => pg_name (i := 1) sc_Batch_pairs.nd rfl (by first | exact Or.inl rfl | exact Or.inr rfl)) (fun _ _ _ _ _ => pts_nil) (fun _ _ _ _ _ => pe_tup (pa_cons (pv 1) (pa_cons (pe_callTy call_listP (by rfl) T.n_list (by decide +kernel) (pa_cons (pe_dget (huH hr) (pe_fld (pv 0) rfl) (pv 1) (fun _ _ => rfl)) (pa_nil))) (pa_nil))))))
theorem sc_L_cell_at : FnScope ["_law_script", "_law_k"] ["_law_script", "_law_k"] (defScope s_L_cell_at) := ⟨rfl, rfl, rfl, by decide +kernel, rfl, by decide +kernel, by decide +kernel⟩
theorem ok_L_cell_at (T : Tx K mg a b) : FnOk P w K mg base (L2N.CX P w) 2 b.f_L_cell_at b.fd_L_cell_at ["_law_script", "_law_k"] (sp_L_cell_at K a) := by
  refine okN (k := 1) (t := t_L_cell_at K a) T.F_L_cell_at sc_L_cell_at (fun cdv A outer s H E hr => ?_)
  exact pss_cons (ps_if (pt_cmpR op_ltP (pv 1) (pe_callB call_lenP (by rfl) T.n_len (by decide +kernel) (pa_cons (pv 0) (pa_nil))) (by first | exact nomark _ | rfl)) (pss_one (ps_ret (pe_ix ix_P (pv 0) (pv 1) (fun _ _ => rfl)))) (pss_nil)) (pss_one (ps_ret (pe_int)))
theorem sc_L_row : FnScope ["_law_cell", "_law_first", "_law_k"] ["_law_cell"] (defScope s_L_row) := ⟨rfl, rfl, rfl, by decide +kernel, rfl, by decide +kernel, by decide +kernel⟩
theorem ok_L_row (T : Tx K mg a b) : FnOk P w K mg base (L2N.CX P w) 2 b.f_L_row b.fd_L_row ["_law_cell"] (sp_L_row K a) := by
  refine okN (k := 1) (t := t_L_row K a) T.F_L_row sc_L_row (fun cdv A outer s H E hr => ?_)
  exact pss_cons (ps_if (pt_cmpR (op_eqP hr) (pe_op op_modP (pv 0) (pe_int)) (pe_int) (by first | exact nomark _ | rfl)) (pss_one (ps_ret (pe_op op_mulP (pe_lst (pa_cons (pe_op op_mulP (pe_op op_modP (pe_op op_divP (pv 0) (pe_int)) (pe_int)) (pe_int)) (pa_nil))) (pe_int)))) (pss_nil)) (pss_cons (ps_set (i := 1) sc_L_row.nd rfl (by first | exact Or.inl rfl | exact Or.inr rfl) (pe_op op_modP (pe_op op_divP (pv 0) (pe_int)) (pe_op op_powP (pe_int) (pe_int)))) (pss_one (ps_ret (pe_lc (own := [("_law_k", 2)]) (g := gName 2) (tt := tYes) (te := tOp rModP (tOp rAddP (tOp rAddP (tVar 1) (tOp rMulP (tOp rModP (tOp rDivP (tVar 0) (tC (.int 35))) (tC (.int 1009))) (tVar 2))) (tOp rMulP (tOp rMulP (tC (.int 7919)) (tVar 2)) (tVar 2))) (tOp rPowP (tC (.int 10)) (tC (.int 9)))) rfl sc_L_row.nd (pi_range1 (by rfl) T.n_range (pa_cons (pe_int) (pa_nil))) (blkOk_by (N := ["_law_cell", "_law_first", "_law_k"]) (sc := defScope s_L_row) (by decide +kernel)) (fun _ _ _ _ _ => pg_name (i := 2) sc_L_row.nd rfl (by first | exact Or.inl rfl | exact Or.inr rfl)) (fun _ _ _ _ _ => pts_nil) (fun _ _ _ _ _ => pe_op op_modP (pe_op op_addP (pe_op op_addP (pv 1) (pe_op op_mulP (pe_op op_modP (pe_op op_divP (pv 0) (pe_int)) (pe_int)) (pv 2))) (pe_op op_mulP (pe_op op_mulP (pe_int) (pv 2)) (pv 2))) (pe_op op_powP (pe_int) (pe_int)))))))
theorem sc_L_odd_block : FnScope ["_law_cell", "_law_many", "_law_far"] ["_law_cell", "_law_many"] (defScope s_L_odd_block) := ⟨rfl, rfl, rfl, by decide +kernel, rfl, by decide +kernel, by decide +kernel⟩
theorem ok_L_odd_block (T : Tx K mg a b) : FnOk P w K mg base (L2N.CX P w) 2 b.f_L_odd_block b.fd_L_odd_block ["_law_cell", "_law_many"] (sp_L_odd_block K a) := by
  refine okN (k := 1) (t := t_L_odd_block K a) T.F_L_odd_block sc_L_odd_block (fun cdv A outer s H E hr => ?_)
  exact pss_cons (ps_set (i := 2) sc_L_odd_block.nd rfl (by first | exact Or.inl rfl | exact Or.inr rfl) (pe_op op_modP (pe_op op_divP (pv 0) (pe_int)) (pe_op op_powP (pe_int) (pe_int)))) (pss_one (ps_ret (pe_ix ix_P (pe_lst (pa_cons (pe_un un_neg (pe_int)) (pa_cons (pe_int) (pa_cons (pe_int) (pa_cons (pv 1) (pa_cons (pe_op op_addP (pv 1) (pv 2)) (pa_cons (pe_op op_subP (pe_un un_neg (pe_int)) (pv 2)) (pa_cons (pe_bl) (pa_cons (pe_non) (pa_cons (pe_lst (pa_cons (pe_int) (pa_nil))) (pa_nil))))))))))) (pe_op op_modP (pv 0) (pe_int)) (fun _ _ => rfl))))
theorem sc_L_kinds : FnScope ["_law_e", "_law_some", "_law_k"] ["_law_e"] (defScope s_L_kinds) := ⟨rfl, rfl, rfl, by decide +kernel, rfl, by decide +kernel, by decide +kernel⟩
theorem okh_L_kinds (T : Tx K mg a b) : FnP P w K mg base 2 b.f_L_kinds b.fd_L_kinds ["_law_e"] (sph_L_kinds K a) := by
  refine okP (k := 1) (t := th_L_kinds K a) T.F_L_kinds sc_L_kinds (fun cdv A outer s H E p D hp hr => ?_)
  exact pss_cons (ps_set (i := 1) sc_L_kinds.nd rfl (by first | exact Or.inl rfl | exact Or.inr rfl) (pe_lst (pa_cons (pe_callB (call_isX hp) (by rfl) T.n_isinstance (by decide +kernel) (pa_cons (pv 0) (pa_cons (pe_gl rfl ⟨_, T.g_NoBlock, rfl⟩) (pa_nil)))) (pa_cons (pe_callB (call_isX hp) (by rfl) T.n_isinstance (by decide +kernel) (pa_cons (pv 0) (pa_cons (pe_gl rfl ⟨_, T.g_BadRow, rfl⟩) (pa_nil)))) (pa_cons (pe_callB (call_isX hp) (by rfl) T.n_isinstance (by decide +kernel) (pa_cons (pv 0) (pa_cons (pe_gl rfl ⟨_, T.g_TooMuch, rfl⟩) (pa_nil)))) (pa_cons (pe_callB (call_isX hp) (by rfl) T.n_isinstance (by decide +kernel) (pa_cons (pv 0) (pa_cons (pe_gl rfl ⟨_, T.g_Stopped, rfl⟩) (pa_nil)))) (pa_nil))))))) (pss_cons (ps_if (PW.pt (pw_or (pt_not (pt_val (pe_callB (call_isX hp) (by rfl) T.n_isinstance (by decide +kernel) (pa_cons (pv 0) (pa_cons (pe_bltn (by rfl) T.n_ValueError (by decide +kernel) rfl) (pa_nil)))))) (pw_or1 (pt_val (pe_callB (call_isX hp) (by rfl) T.n_isinstance (by decide +kernel) (pa_cons (pv 0) (pa_cons (pe_gl rfl ⟨_, T.g_BadLog, rfl⟩) (pa_nil)))))))) (pss_one (ps_ret (pe_str))) (pss_nil)) (pss_one (ps_ret (pe_bm PySem.F.plainAttrs_str PySem.F.slot_str_join PySem.F.type_str_join mt_joinP (pe_str) (pa_cons (pe_lcY (own := [("_law_k", 2)]) (g := gName 2) (tt := tB (tOp (rIxP K) (tVar 1) (tVar 2))) (te := tOp (rIxP K) (tLst (tCons (tC (.str "block")) (tCons (tC (.str "row")) (tCons (tC (.str "much")) (tCons (tC (.str "stopped")) (tNil)))))) (tVar 2)) hp.co sc_L_kinds.nd (piy_range1 (by rfl) T.n_range (pa_cons (pe_int) (pa_nil))) (blkOk_by (N := ["_law_e", "_law_some", "_law_k"]) (sc := defScope s_L_kinds) (by decide +kernel)) (fun _ _ _ _ _ => pg_name (i := 2) sc_L_kinds.nd rfl (by first | exact Or.inl rfl | exact Or.inr rfl)) (fun _ _ _ _ _ => pts_one (pt_val (pe_ix ix_P (pv 1) (pv 2) (fun _ _ => rfl)))) (fun _ _ _ _ _ => pe_ix ix_P (pe_lst (pa_cons (pe_str) (pa_cons (pe_str) (pa_cons (pe_str) (pa_cons (pe_str) (pa_nil)))))) (pv 2) (fun _ _ => rfl))) (pa_nil))))))
theorem sc_is_row : FnScope ["thing", "word"] ["thing"] (defScope s_is_row) := ⟨rfl, rfl, rfl, by decide +kernel, rfl, by decide +kernel, by decide +kernel⟩
theorem ok_is_row (T : Tx K mg a b) : FnOk P w K mg base (L2N.CX P w) 3 b.f_is_row b.fd_is_row ["thing"] (sp_is_row K a) := by
  have G_is_word := ok_is_word (P := P) (w := w) (base := base) T
  refine okN (k := 2) (t := t_is_row K a) T.F_is_row sc_is_row (fun cdv A outer s H E hr => ?_)
  exact pss_one (ps_ret (pe_and (pe_callB call_isi (by rfl) T.n_isinstance (by decide +kernel) (pa_cons (pv 0) (pa_cons (pe_bltn (by rfl) T.n_list (by decide +kernel) rfl) (pa_nil)))) (pe_and (pe_cmpR (op_eqP hr) (pe_callB call_lenP (by rfl) T.n_len (by decide +kernel) (pa_cons (pv 0) (pa_nil))) (pe_gl rfl T.g_WIDE) (by first | exact nomark _ | rfl)) (pe_one (pe_callB (cr_all rfl) (by rfl) T.n_all (by decide +kernel) (pa_cons (pe_lc (own := [("word", 1)]) (g := gName 1) (tt := tYes) (te := tCallS (sp_is_word K a) (WE W0) (tCons (tVar 1) (tNil))) rfl sc_is_row.nd (pi_seqP (pv 0)) (blkOk_by (N := ["thing", "word"]) (sc := defScope s_is_row) (by decide +kernel)) (fun _ _ _ _ _ => pg_name (i := 1) sc_is_row.nd rfl (by first | exact Or.inl rfl | exact Or.inr rfl)) (fun _ _ _ _ _ => pts_nil) (fun _ _ _ _ _ => callE G_is_word takesN hr (by decide) rfl T.g_is_word T.k_is_word T.b_is_word (pa_cons (pv 1) (pa_nil)))) (pa_nil)))))))
theorem sc_Disk_init : FnScope ["self", "many", "k"] ["self", "many"] (defScope s_Disk_init) := ⟨rfl, rfl, rfl, by decide +kernel, rfl, by decide +kernel, by decide +kernel⟩
theorem ok_Disk_init (T : Tx K mg a b) : FnOk P w K mg base (L2N.CX P w) 3 b.f_Disk_init b.fd_Disk_init ["self", "many"] (sp_Disk_init K a) := by
  have G_empty_row := ok_empty_row (P := P) (w := w) (base := base) T
  have G_is_many := ok_is_many (P := P) (w := w) (base := base) T
  refine okN (k := 2) (t := t_Disk_init K a) T.F_Disk_init sc_Disk_init (fun cdv A outer s H E hr => ?_)
  exact pss_cons (ps_if (pt_not (pt_val (callE G_is_many (takesM rfl rfl rfl rfl) hr (by decide) rfl T.g_is_many T.k_is_many T.b_is_many (pa_cons (pv 1) (pa_nil))))) (pss_one (raiseE rfl (takesM rfl rfl rfl rfl) T.x_BadDisk T.g_BadDisk)) (pss_nil)) (pss_cons (ps_fld (pv 0) (pe_lc (own := [("k", 2)]) (g := gName 2) (tt := tYes) (te := tCall0 (sp_empty_row K a) (WE W0)) rfl sc_Disk_init.nd (pi_range1 (by rfl) T.n_range (pa_cons (pv 1) (pa_nil))) (blkOk_by (N := ["self", "many", "k"]) (sc := defScope s_Disk_init) (by decide +kernel)) (fun _ _ _ _ _ => pg_name (i := 2) sc_Disk_init.nd rfl (by first | exact Or.inl rfl | exact Or.inr rfl)) (fun _ _ _ _ _ => pts_nil) (fun _ _ _ _ _ => callE0 G_empty_row takesN hr (by decide) rfl T.g_empty_row T.k_empty_row T.b_empty_row)) rfl) (pss_cons (ps_fld (pv 0) (pe_int) rfl) (pss_one (ps_fld (pv 0) (pe_non) rfl))))
theorem sc_Disk_read : FnScope ["self", "block"] ["self", "block"] (defScope s_Disk_read) := ⟨rfl, rfl, rfl, by decide +kernel, rfl, by decide +kernel, by decide +kernel⟩
theorem ok_Disk_read (T : Tx K mg a b) : FnOk P w K mg base (L2N.CX P w) 3 b.f_Disk_read b.fd_Disk_read ["self", "block"] (sp_Disk_read K a) := by
  have G_Disk_need := ok_Disk_need (P := P) (w := w) (base := base) T
  refine okN (k := 2) (t := t_Disk_read K a) T.F_Disk_read sc_Disk_read (fun cdv A outer s H E hr => ?_)
  exact pss_cons (ps_expr (methE (pv 0) (AltsOk.cons (MethOk.mk' (k := 2) T.c_Disk T.mt_Disk_need G_Disk_need T.b_Disk_need (by decide)) (AltsOk.nil)) (takesM rfl rfl rfl rfl) hr (by decide) (pa_cons (pv 1) (pa_nil)))) (pss_one (ps_ret (pe_callTy call_listP (by rfl) T.n_list (by decide +kernel) (pa_cons (pe_ix ix_P (pe_fld (pv 0) rfl) (pv 1) (fun _ _ => rfl)) (pa_nil)))))
theorem sc_Disk_stop_after : FnScope ["self", "count"] ["self", "count"] (defScope s_Disk_stop_after) := ⟨rfl, rfl, rfl, by decide +kernel, rfl, by decide +kernel, by decide +kernel⟩
theorem ok_Disk_stop_after (T : Tx K mg a b) : FnOk P w K mg base (L2N.CX P w) 3 b.f_Disk_stop_after b.fd_Disk_stop_after ["self", "count"] (sp_Disk_stop_after K a) := by
  have G__wall := ok__wall (P := P) (w := w) (base := base) T
  refine okN (k := 2) (t := t_Disk_stop_after K a) T.F_Disk_stop_after sc_Disk_stop_after (fun cdv A outer s H E hr => ?_)
  exact pss_one (ps_expr (callE G__wall (takesM rfl rfl rfl rfl) hr (by decide) rfl T.g__wall T.k__wall T.b__wall (pa_cons (pe_int) (pa_nil))))
theorem sc_Disk_go_on : FnScope ["self"] ["self"] (defScope s_Disk_go_on) := ⟨rfl, rfl, rfl, by decide +kernel, rfl, by decide +kernel, by decide +kernel⟩
theorem ok_Disk_go_on (T : Tx K mg a b) : FnOk P w K mg base (L2N.CX P w) 3 b.f_Disk_go_on b.fd_Disk_go_on ["self"] (sp_Disk_go_on K a) := by
  have G__wall := ok__wall (P := P) (w := w) (base := base) T
  refine okN (k := 2) (t := t_Disk_go_on K a) T.F_Disk_go_on sc_Disk_go_on (fun cdv A outer s H E hr => ?_)
  exact pss_one (ps_expr (callE G__wall (takesM rfl rfl rfl rfl) hr (by decide) rfl T.g__wall T.k__wall T.b__wall (pa_cons (pe_int) (pa_nil))))
theorem sc_Disk_twin : FnScope ["self"] ["self"] (defScope s_Disk_twin) := ⟨rfl, rfl, rfl, by decide +kernel, rfl, by decide +kernel, by decide +kernel⟩
theorem ok_Disk_twin (T : Tx K mg a b) : FnOk P w K mg base (L2N.CX P w) 3 b.f_Disk_twin b.fd_Disk_twin ["self"] (sp_Disk_twin K a) := by
  have G__wall := ok__wall (P := P) (w := w) (base := base) T
  refine okN (k := 2) (t := t_Disk_twin K a) T.F_Disk_twin sc_Disk_twin (fun cdv A outer s H E hr => ?_)
  exact pss_one (ps_expr (callE G__wall (takesM rfl rfl rfl rfl) hr (by decide) rfl T.g__wall T.k__wall T.b__wall (pa_cons (pe_int) (pa_nil))))
theorem sc_is_home : FnScope ["disk", "block"] ["disk", "block"] (defScope s_is_home) := ⟨rfl, rfl, rfl, by decide +kernel, rfl, by decide +kernel, by decide +kernel⟩
theorem ok_is_home (T : Tx K mg a b) : FnOk P w K mg base (L2N.CX P w) 3 b.f_is_home b.fd_is_home ["disk", "block"] (sp_is_home K a) := by
  have G_Disk_blocks := ok_Disk_blocks (P := P) (w := w) (base := base) T
  refine okN (k := 2) (t := t_is_home K a) T.F_is_home sc_is_home (fun cdv A outer s H E hr => ?_)
  exact pss_one (ps_ret (pe_and (pe_callB call_isi (by rfl) T.n_isinstance (by decide +kernel) (pa_cons (pv 1) (pa_cons (pe_bltn (by rfl) T.n_int (by decide +kernel) rfl) (pa_nil)))) (pe_and (pe_not (pe_callB call_isi (by rfl) T.n_isinstance (by decide +kernel) (pa_cons (pv 1) (pa_cons (pe_bltn (by rfl) T.n_bool (by decide +kernel) rfl) (pa_nil))))) (pe_one (pe_chain op_leP op_ltP (pe_gl rfl T.g_MAPS_AT) (pv 1) (methE0 (pv 0) (AltsOk.cons (MethOk.mk' (k := 2) T.c_Disk T.mt_Disk_blocks G_Disk_blocks T.b_Disk_blocks (by decide)) (AltsOk.nil)) (takesM rfl rfl rfl rfl) hr (by decide)))))))
theorem sc_L_odd_row : FnScope ["_law_cell", "_law_row_here", "_law_at", "_law_word", "_law_some"] ["_law_cell"] (defScope s_L_odd_row) := ⟨rfl, rfl, rfl, by decide +kernel, rfl, by decide +kernel, by decide +kernel⟩
theorem ok_L_odd_row (T : Tx K mg a b) : FnOk P w K mg base (L2N.CX P w) 3 b.f_L_odd_row b.fd_L_odd_row ["_law_cell"] (sp_L_odd_row K a) := by
  have G_L_row := ok_L_row (P := P) (w := w) (base := base) T
  refine okN (k := 2) (t := t_L_odd_row K a) T.F_L_odd_row sc_L_odd_row (fun cdv A outer s H E hr => ?_)
  exact pss_cons (ps_set (i := 1) sc_L_odd_row.nd rfl (by first | exact Or.inl rfl | exact Or.inr rfl) (callE G_L_row (takesM rfl rfl rfl rfl) hr (by decide) rfl T.g_L_row T.k_L_row T.b_L_row (pa_cons (pe_op op_divP (pv 0) (pe_int)) (pa_nil)))) (pss_cons (ps_set (i := 2) sc_L_odd_row.nd rfl (by first | exact Or.inl rfl | exact Or.inr rfl) (pe_op op_modP (pe_op op_divP (pv 0) (pe_int)) (pe_int))) (pss_cons (ps_set (i := 3) sc_L_odd_row.nd rfl (by first | exact Or.inl rfl | exact Or.inr rfl) (pe_ix ix_P (pe_lst (pa_cons (pe_un un_neg (pe_int)) (pa_cons (pe_op op_powP (pe_int) (pe_int)) (pa_cons (pe_op op_addP (pe_op op_powP (pe_int) (pe_int)) (pe_op op_modP (pe_op op_divP (pv 0) (pe_int)) (pe_op op_powP (pe_int) (pe_int)))) (pa_cons (pe_bl) (pa_cons (pe_non) (pa_cons (pe_str) (pa_nil)))))))) (pe_op op_modP (pe_op op_modP (pv 0) (pe_int)) (pe_int)) (fun _ _ => rfl))) (pss_cons (ps_set (i := 4) sc_L_odd_row.nd rfl (by first | exact Or.inl rfl | exact Or.inr rfl) (pe_lst (pa_cons (pe_slice sl_P (pv 1) (po_none) (po_some (pe_int))) (pa_cons (pe_op op_addP (pv 1) (pe_lst (pa_cons (pe_int) (pa_nil)))) (pa_cons (pe_callTy call_tupleP (by rfl) T.n_tuple (by decide +kernel) (pa_cons (pv 1) (pa_nil))) (pa_cons (pe_non) (pa_cons (pe_int) (pa_cons (pe_lst (pa_nil)) (pa_cons (pe_str) (pa_nil)))))))))) (pss_cons (ps_if (pt_cmpR op_ltP (pe_op op_modP (pv 0) (pe_int)) (pe_int) (by first | exact nomark _ | rfl)) (pss_one (ps_ret (pe_op op_addP (pe_op op_addP (pe_slice sl_P (pv 1) (po_none) (po_some (pv 2))) (pe_lst (pa_cons (pv 3) (pa_nil)))) (pe_slice sl_P (pv 1) (po_some (pe_op op_addP (pv 2) (pe_int))) (po_none))))) (pss_nil)) (pss_one (ps_ret (pe_ix ix_P (pv 4) (pe_op op_modP (pe_op op_divP (pv 0) (pe_int)) (pe_int)) (fun _ _ => rfl))))))))
theorem sc_need_row : FnScope ["thing"] ["thing"] (defScope s_need_row) := ⟨rfl, rfl, rfl, by decide +kernel, rfl, by decide +kernel, by decide +kernel⟩
theorem ok_need_row (T : Tx K mg a b) : FnOk P w K mg base (L2N.CX P w) 4 b.f_need_row b.fd_need_row ["thing"] (sp_need_row K a) := by
  have G_is_row := ok_is_row (P := P) (w := w) (base := base) T
  refine okN (k := 3) (t := t_need_row K a) T.F_need_row sc_need_row (fun cdv A outer s H E hr => ?_)
  exact pss_cons (ps_if (pt_not (pt_val (callE G_is_row (takesM rfl rfl rfl rfl) hr (by decide) rfl T.g_is_row T.k_is_row T.b_is_row (pa_cons (pv 0) (pa_nil))))) (pss_one (raiseE rfl (takesM rfl rfl rfl rfl) T.x_BadRow T.g_BadRow)) (pss_nil)) (pss_one (ps_ret (pe_callTy call_listP (by rfl) T.n_list (by decide +kernel) (pa_cons (pv 0) (pa_nil)))))
theorem sc_Batch_read : FnScope ["self", "block", "row"] ["self", "block"] (defScope s_Batch_read) := ⟨rfl, rfl, rfl, by decide +kernel, rfl, by decide +kernel, by decide +kernel⟩
theorem ok_Batch_read (T : Tx K mg a b) : FnOk P w K mg base (L2N.CX P w) 4 b.f_Batch_read b.fd_Batch_read ["self", "block"] (sp_Batch_read K a) := by
  have G_Disk_read := ok_Disk_read (P := P) (w := w) (base := base) T
  refine okN (k := 3) (t := t_Batch_read K a) T.F_Batch_read sc_Batch_read (fun cdv A outer s H E hr => ?_)
  exact pss_cons (ps_set (i := 2) sc_Batch_read.nd rfl (by first | exact Or.inl rfl | exact Or.inr rfl) (methE (pe_fld (pv 0) rfl) (AltsOk.cons (MethOk.mk' (k := 3) T.c_Disk T.mt_Disk_read G_Disk_read T.b_Disk_read (by decide)) (AltsOk.nil)) (takesM rfl rfl rfl rfl) hr (by decide) (pa_cons (pv 1) (pa_nil)))) (pss_cons (ps_if (pt_cmp (pc_din (hu_of hr) (pv 1) (pe_fld (pv 0) rfl))) (pss_one (ps_set (i := 2) sc_Batch_read.nd rfl (by first | exact Or.inl rfl | exact Or.inr rfl) (pe_callTy call_listP (by rfl) T.n_list (by decide +kernel) (pa_cons (pe_dget (hu_of hr) (pe_fld (pv 0) rfl) (pv 1) (fun _ _ => rfl)) (pa_nil))))) (pss_nil)) (pss_one (ps_ret (pv 2))))
theorem sc_L_rows : FnScope ["_law_disk", "_law_block"] ["_law_disk"] (defScope s_L_rows) := ⟨rfl, rfl, rfl, by decide +kernel, rfl, by decide +kernel, by decide +kernel⟩
theorem ok_L_rows (T : Tx K mg a b) : FnOk P w K mg base (L2N.CX P w) 4 b.f_L_rows b.fd_L_rows ["_law_disk"] (sp_L_rows K a) := by
  have G_Disk_blocks := ok_Disk_blocks (P := P) (w := w) (base := base) T
  have G_Disk_read := ok_Disk_read (P := P) (w := w) (base := base) T
  refine okN (k := 3) (t := t_L_rows K a) T.F_L_rows sc_L_rows (fun cdv A outer s H E hr => ?_)
  exact pss_one (ps_ret (pe_lc (own := [("_law_block", 1)]) (g := gName 1) (tt := tYes) (te := tCB ((rListP K)) (tCons (tMethP "read" [(a.Disk, sp_Disk_read K a)] (WE W0) (tVar 0) (tCons (tVar 1) (tNil))) (tNil))) rfl sc_L_rows.nd (pi_range1 (by rfl) T.n_range (pa_cons (methE0 (pv 0) (AltsOk.cons (MethOk.mk' (k := 2) T.c_Disk T.mt_Disk_blocks G_Disk_blocks T.b_Disk_blocks (by decide)) (AltsOk.nil)) (takesM rfl rfl rfl rfl) hr (by decide)) (pa_nil))) (blkOk_by (N := ["_law_disk", "_law_block"]) (sc := defScope s_L_rows) (by decide +kernel)) (fun _ _ _ _ _ => pg_name (i := 1) sc_L_rows.nd rfl (by first | exact Or.inl rfl | exact Or.inr rfl)) (fun _ _ _ _ _ => pts_nil) (fun _ _ _ _ _ => pe_callTy call_listP (by rfl) T.n_list (by decide +kernel) (pa_cons (methE (pv 0) (AltsOk.cons (MethOk.mk' (k := 3) T.c_Disk T.mt_Disk_read G_Disk_read T.b_Disk_read (by decide)) (AltsOk.nil)) takesN hr (by decide) (pa_cons (pv 1) (pa_nil))) (pa_nil)))))
theorem sc_Disk_write : FnScope ["self", "block", "row", "kept"] ["self", "block", "row"] (defScope s_Disk_write) := ⟨rfl, rfl, rfl, by decide +kernel, rfl, by decide +kernel, by decide +kernel⟩
theorem ok_Disk_write (T : Tx K mg a b) : FnOk P w K mg base (L2N.CX P w) 5 b.f_Disk_write b.fd_Disk_write ["self", "block", "row"] (sp_Disk_write K a) := by
  have G_Disk_need := ok_Disk_need (P := P) (w := w) (base := base) T
  have G_need_row := ok_need_row (P := P) (w := w) (base := base) T
  refine okN (k := 4) (t := t_Disk_write K a) T.F_Disk_write sc_Disk_write (fun cdv A outer s H E hr => ?_)
  exact pss_cons (ps_expr (methE (pv 0) (AltsOk.cons (MethOk.mk' (k := 2) T.c_Disk T.mt_Disk_need G_Disk_need T.b_Disk_need (by decide)) (AltsOk.nil)) (takesM rfl rfl rfl rfl) hr (by decide) (pa_cons (pv 1) (pa_nil)))) (pss_cons (ps_set (i := 3) sc_Disk_write.nd rfl (by first | exact Or.inl rfl | exact Or.inr rfl) (callE G_need_row (takesM rfl rfl rfl rfl) hr (by decide) rfl T.g_need_row T.k_need_row T.b_need_row (pa_cons (pv 2) (pa_nil)))) (pss_cons (ps_if (pt_cmpR (op_eqP hr) (pe_fld (pv 0) rfl) (pe_int) (by first | exact nomark _ | rfl)) (pss_one (raiseE rfl (takesM rfl rfl rfl rfl) T.x_Stopped T.g_Stopped)) (pss_nil)) (pss_cons (ps_if (pt_cmpR op_isNotP (pe_fld (pv 0) rfl) (pe_non) (by first | exact nomark _ | rfl)) (pss_one (ps_fld (pv 0) (pe_op op_subP (pe_fld (pv 0) rfl) (pe_int)) rfl)) (pss_nil)) (pss_cons (ps_asg (pv 3) (pg_sub (pe_fld (pv 0) rfl) (pv 1) set_list)) (pss_one (ps_fld (pv 0) (pe_op op_addP (pe_fld (pv 0) rfl) (pe_int)) rfl))))))
theorem sc_need_pairs : FnScope ["disk", "pairs", "found", "last", "block", "row"] ["disk", "pairs"] (defScope s_need_pairs) := ⟨rfl, rfl, rfl, by decide +kernel, rfl, by decide +kernel, by decide +kernel⟩
theorem ok_need_pairs (T : Tx K mg a b) : FnOk P w K mg base (L2N.CX P w) 5 b.f_need_pairs b.fd_need_pairs ["disk", "pairs"] (sp_need_pairs K a) := by
  have G_is_home := ok_is_home (P := P) (w := w) (base := base) T
  have G_need_row := ok_need_row (P := P) (w := w) (base := base) T
  refine okN (k := 4) (t := t_need_pairs K a) T.F_need_pairs sc_need_pairs (fun cdv A outer s H E hr => ?_)
  exact pss_cons (ps_if (pt_cmpR op_gtP (pe_callB call_lenP (by rfl) T.n_len (by decide +kernel) (pa_cons (pv 1) (pa_nil))) (pe_gl rfl T.g_MOST_HOMES) (by first | exact nomark _ | rfl)) (pss_one (raiseE rfl (takesM rfl rfl rfl rfl) T.x_TooMuch T.g_TooMuch)) (pss_nil)) (pss_cons (ps_set (i := 2) sc_need_pairs.nd rfl (by first | exact Or.inl rfl | exact Or.inr rfl) (pe_lst (pa_nil))) (pss_cons (ps_set (i := 3) sc_need_pairs.nd rfl (by first | exact Or.inl rfl | exact Or.inr rfl) (pe_int)) (pss_cons (ps_for (passes_of rfl) rfl (pi_seqP (pv 1)) (pg_tupP rfl (pgs_cons (pg_name (i := 4) sc_need_pairs.nd rfl (by first | exact Or.inl rfl | exact Or.inr rfl)) (pgs_cons (pg_name (i := 5) sc_need_pairs.nd rfl (by first | exact Or.inl rfl | exact Or.inr rfl)) (pgs_nil)))) (pss_cons (ps_if (PW.pt (pw_or (pt_not (pt_val (callE G_is_home (takesM rfl rfl rfl rfl) hr (by decide) rfl T.g_is_home T.k_is_home T.b_is_home (pa_cons (pv 0) (pa_cons (pv 4) (pa_nil)))))) (pw_or1 (pt_cmpR op_leP (pv 4) (pv 3) (by first | exact nomark _ | rfl))))) (pss_one (raiseE rfl (takesM rfl rfl rfl rfl) T.x_NoBlock T.g_NoBlock)) (pss_nil)) (pss_cons (ps_expr (pe_bm PySem.F.plainAttrs_list PySem.F.slot_list_append PySem.F.type_list_append mt_append (pv 2) (pa_cons (pe_tup (pa_cons (pv 4) (pa_cons (callE G_need_row (takesM rfl rfl rfl rfl) hr (by decide) rfl T.g_need_row T.k_need_row T.b_need_row (pa_cons (pv 5) (pa_nil))) (pa_nil)))) (pa_nil)))) (pss_one (ps_set (i := 3) sc_need_pairs.nd rfl (by first | exact Or.inl rfl | exact Or.inr rfl) (pv 4)))))) (pss_one (ps_ret (pv 2))))))
theorem sc_Batch_write : FnScope ["self", "block", "row"] ["self", "block", "row"] (defScope s_Batch_write) := ⟨rfl, rfl, rfl, by decide +kernel, rfl, by decide +kernel, by decide +kernel⟩
theorem ok_Batch_write (T : Tx K mg a b) : FnOk P w K mg base (L2N.CX P w) 5 b.f_Batch_write b.fd_Batch_write ["self", "block", "row"] (sp_Batch_write K a) := by
  have G_is_home := ok_is_home (P := P) (w := w) (base := base) T
  have G_need_row := ok_need_row (P := P) (w := w) (base := base) T
  refine okN (k := 4) (t := t_Batch_write K a) T.F_Batch_write sc_Batch_write (fun cdv A outer s H E hr => ?_)
  exact pss_cons (ps_if (pt_not (pt_val (callE G_is_home (takesM rfl rfl rfl rfl) hr (by decide) rfl T.g_is_home T.k_is_home T.b_is_home (pa_cons (pe_fld (pv 0) rfl) (pa_cons (pv 1) (pa_nil)))))) (pss_one (raiseE rfl (takesM rfl rfl rfl rfl) T.x_NoBlock T.g_NoBlock)) (pss_nil)) (pss_one (ps_dput (hu_of hr) (pe_fld (pv 0) rfl) (pv 1) (callE G_need_row (takesM rfl rfl rfl rfl) hr (by decide) rfl T.g_need_row T.k_need_row T.b_need_row (pa_cons (pv 2) (pa_nil))) rfl))
theorem sc_L_like : FnScope ["_law_batch", "_law_disk", "_law_own", "_law_block", "_law_kept", "_law_found", "_law_row_here", "_law_other", "_law_pair", "_law_one"] ["_law_batch", "_law_disk", "_law_own", "_law_block"] (defScope s_L_like) := ⟨rfl, rfl, rfl, by decide +kernel, rfl, by decide +kernel, by decide +kernel⟩
theorem ok_L_like (T : Tx K mg a b) : FnOk P w K mg base (L2N.CX P w) 5 b.f_L_like b.fd_L_like ["_law_batch", "_law_disk", "_law_own", "_law_block"] (sp_L_like K a) := by
  have G_Batch_pairs := ok_Batch_pairs (P := P) (w := w) (base := base) T
  have G_Batch_read := ok_Batch_read (P := P) (w := w) (base := base) T
  have G_Disk_read := ok_Disk_read (P := P) (w := w) (base := base) T
  refine okN (k := 4) (t := t_L_like K a) T.F_L_like sc_L_like (fun cdv A outer s H E hr => ?_)
  exact pss_cons (ps_setLc (i := 4) rfl sc_L_like.nd rfl rfl (sw_true rfl rfl rfl (by decide +kernel)) (own := [("_law_one", 9)]) (g := gName 9) (tt := tYes) (te := tTup (tCons (tVar 9) (tCons (tDGet (tVar 2) (tVar 9)) (tNil)))) (pi_seqP (pe_callB (call_sortedQ rfl) (by rfl) T.n_sorted (by decide +kernel) (pa_cons (pv 2) (pa_nil)))) (blkOk_by (N := ["_law_batch", "_law_disk", "_law_own", "_law_block", "_law_kept", "_law_found", "_law_row_here", "_law_other", "_law_pair", "_law_one"]) (sc := defScope s_L_like) (by decide +kernel)) (fun _ _ _ _ _ => pg_name (i := 9) sc_L_like.nd rfl (by first | exact Or.inl rfl | exact Or.inr rfl)) (fun _ _ _ _ _ => pts_nil) (fun _ _ _ _ _ => pe_tup (pa_cons (pv 9) (pa_cons (pe_dget (hu_of hr) (pv 2) (pv 9) (fun _ _ => rfl)) (pa_nil))))) (pss_cons (ps_set (i := 5) sc_L_like.nd rfl (by first | exact Or.inl rfl | exact Or.inr rfl) (methE0 (pv 0) (AltsOk.cons (MethOk.mk' (k := 2) T.c_Batch T.mt_Batch_pairs G_Batch_pairs T.b_Batch_pairs (by decide)) (AltsOk.nil)) (takesM rfl rfl rfl rfl) hr (by decide))) (pss_cons (ps_if (PW.pt (pw_or (pt_not (pt_val (pe_callB call_isi (by rfl) T.n_isinstance (by decide +kernel) (pa_cons (pv 5) (pa_cons (pe_bltn (by rfl) T.n_list (by decide +kernel) rfl) (pa_nil)))))) (pw_or1 (pt_cmpR (op_neP hr) (pv 5) (pv 4) (by first | exact nomark _ | rfl))))) (pss_one (ps_ret (pe_bl))) (pss_nil)) (pss_cons (ps_if (pt_cmpR (op_neP hr) (pe_lc (own := [("_law_pair", 8)]) (g := gName 8) (tt := tNot (tB (tCB ((rIsi K)) (tCons (tVar 8) (tCons (tC (.ty "tuple")) (tNil)))))) (te := tVar 8) rfl sc_L_like.nd (pi_seqP (pv 5)) (blkOk_by (N := ["_law_batch", "_law_disk", "_law_own", "_law_block", "_law_kept", "_law_found", "_law_row_here", "_law_other", "_law_pair", "_law_one"]) (sc := defScope s_L_like) (by decide +kernel)) (fun _ _ _ _ _ => pg_name (i := 8) sc_L_like.nd rfl (by first | exact Or.inl rfl | exact Or.inr rfl)) (fun _ _ _ _ _ => pts_one (pt_not (pt_val (pe_callB call_isi (by rfl) T.n_isinstance (by decide +kernel) (pa_cons (pv 8) (pa_cons (pe_bltn (by rfl) T.n_tuple (by decide +kernel) rfl) (pa_nil))))))) (fun _ _ _ _ _ => pv 8)) (pe_lst (pa_nil)) (by first | exact nomark _ | rfl)) (pss_one (ps_ret (pe_bl))) (pss_nil)) (pss_cons (ps_set (i := 6) sc_L_like.nd rfl (by first | exact Or.inl rfl | exact Or.inr rfl) (methE (pv 0) (AltsOk.cons (MethOk.mk' (k := 4) T.c_Batch T.mt_Batch_read G_Batch_read T.b_Batch_read (by decide)) (AltsOk.nil)) (takesM rfl rfl rfl rfl) hr (by decide) (pa_cons (pv 3) (pa_nil)))) (pss_cons (ps_if (PW.pt (pw_or (pt_not (pt_val (pe_callB call_isi (by rfl) T.n_isinstance (by decide +kernel) (pa_cons (pv 6) (pa_cons (pe_bltn (by rfl) T.n_list (by decide +kernel) rfl) (pa_nil)))))) (pw_or1 (pt_cmpR (op_neP hr) (pv 6) (pe_dget2 (hu_of hr) (pv 2) (pv 3) (methE (pv 1) (AltsOk.cons (MethOk.mk' (k := 3) T.c_Disk T.mt_Disk_read G_Disk_read T.b_Disk_read (by decide)) (AltsOk.nil)) (takesM rfl rfl rfl rfl) hr (by decide) (pa_cons (pv 3) (pa_nil))) ⟨rfl, rfl, rfl, rfl⟩) (by first | exact nomark _ | rfl))))) (pss_one (ps_ret (pe_bl))) (pss_nil)) (pss_cons (ps_set (i := 7) sc_L_like.nd rfl (by first | exact Or.inl rfl | exact Or.inr rfl) (methE (pv 0) (AltsOk.cons (MethOk.mk' (k := 4) T.c_Batch T.mt_Batch_read G_Batch_read T.b_Batch_read (by decide)) (AltsOk.nil)) (takesM rfl rfl rfl rfl) hr (by decide) (pa_cons (pe_int) (pa_nil)))) (pss_cons (ps_if (PW.pt (pw_or (pt_cmpR (op_neP hr) (pv 7) (pe_dget2 (hu_of hr) (pv 2) (pe_int) (methE (pv 1) (AltsOk.cons (MethOk.mk' (k := 3) T.c_Disk T.mt_Disk_read G_Disk_read T.b_Disk_read (by decide)) (AltsOk.nil)) (takesM rfl rfl rfl rfl) hr (by decide) (pa_cons (pe_int) (pa_nil))) ⟨rfl, rfl, rfl, rfl⟩) (by first | exact nomark _ | rfl)) (pw_or1 (pt_cmpR (op_neP hr) (pv 6) (pe_dget2 (hu_of hr) (pv 2) (pv 3) (methE (pv 1) (AltsOk.cons (MethOk.mk' (k := 3) T.c_Disk T.mt_Disk_read G_Disk_read T.b_Disk_read (by decide)) (AltsOk.nil)) (takesM rfl rfl rfl rfl) hr (by decide) (pa_cons (pv 3) (pa_nil))) ⟨rfl, rfl, rfl, rfl⟩) (by first | exact nomark _ | rfl))))) (pss_one (ps_ret (pe_bl))) (pss_nil)) (pss_cons (ps_expr (pe_bm0 PySem.F.plainAttrs_list PySem.F.slot_list_clear PySem.F.type_list_clear mt_clear (pv 6))) (pss_cons (ps_for (passes_of rfl) rfl (pi_seqP (pv 5)) (pg_name (i := 8) sc_L_like.nd rfl (by first | exact Or.inl rfl | exact Or.inr rfl)) (pss_one (ps_expr (pe_bm0 PySem.F.plainAttrs_list PySem.F.slot_list_clear PySem.F.type_list_clear mt_clear (pe_ix ix_P (pv 8) (pe_int) (fun _ _ => rfl)))))) (pss_cons (ps_expr (pe_bm0 PySem.F.plainAttrs_list PySem.F.slot_list_clear PySem.F.type_list_clear mt_clear (pv 5))) (pss_one (ps_ret (pe_and (pe_cmpR (op_eqP hr) (methE0 (pv 0) (AltsOk.cons (MethOk.mk' (k := 2) T.c_Batch T.mt_Batch_pairs G_Batch_pairs T.b_Batch_pairs (by decide)) (AltsOk.nil)) (takesM rfl rfl rfl rfl) hr (by decide)) (pv 4) (by first | exact nomark _ | rfl)) (pe_one (pe_cmpR (op_eqP hr) (methE (pv 0) (AltsOk.cons (MethOk.mk' (k := 4) T.c_Batch T.mt_Batch_read G_Batch_read T.b_Batch_read (by decide)) (AltsOk.nil)) (takesM rfl rfl rfl rfl) hr (by decide) (pa_cons (pv 3) (pa_nil))) (pe_dget2 (hu_of hr) (pv 2) (pv 3) (methE (pv 1) (AltsOk.cons (MethOk.mk' (k := 3) T.c_Disk T.mt_Disk_read G_Disk_read T.b_Disk_read (by decide)) (AltsOk.nil)) (takesM rfl rfl rfl rfl) hr (by decide) (pa_cons (pv 3) (pa_nil))) ⟨rfl, rfl, rfl, rfl⟩) (by first | exact nomark _ | rfl))))))))))))))))
theorem sc_L_reads : FnScope ["_law_batch", "_law_disk", "_law_cell", "_law_block", "_law_far", "_law_odd", "_law_e"] ["_law_batch", "_law_disk", "_law_cell"] (defScope s_L_reads) := ⟨rfl, rfl, rfl, by decide +kernel, rfl, by decide +kernel, by decide +kernel⟩
theorem ok_L_reads (T : Tx K mg a b) : FnOk P w K mg base (L2N.CX P w) 5 b.f_L_reads b.fd_L_reads ["_law_batch", "_law_disk", "_law_cell"] (sp_L_reads K a) := by
  have G_Batch_read := ok_Batch_read (P := P) (w := w) (base := base) T
  have G_Disk_blocks := ok_Disk_blocks (P := P) (w := w) (base := base) T
  have G_Disk_read := ok_Disk_read (P := P) (w := w) (base := base) T
  have Gh_L_kinds := okh_L_kinds (P := P) (w := w) (base := base) T
  refine okN (k := 4) (t := t_L_reads K a) T.F_L_reads sc_L_reads (fun cdv A outer s H E hr => ?_)
  exact pss_cons (ps_set (i := 3) sc_L_reads.nd rfl (by first | exact Or.inl rfl | exact Or.inr rfl) (pe_op op_modP (pv 2) (pe_int))) (pss_cons (ps_if (pt_cmpR (op_neP hr) (methE (pv 0) (AltsOk.cons (MethOk.mk' (k := 4) T.c_Batch T.mt_Batch_read G_Batch_read T.b_Batch_read (by decide)) (AltsOk.nil)) (takesM rfl rfl rfl rfl) hr (by decide) (pa_cons (pv 3) (pa_nil))) (methE (pv 1) (AltsOk.cons (MethOk.mk' (k := 3) T.c_Disk T.mt_Disk_read G_Disk_read T.b_Disk_read (by decide)) (AltsOk.nil)) (takesM rfl rfl rfl rfl) hr (by decide) (pa_cons (pv 3) (pa_nil))) (by first | exact nomark _ | rfl)) (pss_one (ps_ret (pe_bl))) (pss_nil)) (pss_cons (ps_set (i := 4) sc_L_reads.nd rfl (by first | exact Or.inl rfl | exact Or.inr rfl) (pe_op op_modP (pe_op op_divP (pv 2) (pe_int)) (pe_op op_powP (pe_int) (pe_int)))) (pss_cons (ps_set (i := 5) sc_L_reads.nd rfl (by first | exact Or.inl rfl | exact Or.inr rfl) (pe_ix ix_P (pe_lst (pa_cons (pe_un un_neg (pe_int)) (pa_cons (methE0 (pv 1) (AltsOk.cons (MethOk.mk' (k := 2) T.c_Disk T.mt_Disk_blocks G_Disk_blocks T.b_Disk_blocks (by decide)) (AltsOk.nil)) (takesM rfl rfl rfl rfl) hr (by decide)) (pa_cons (pe_op op_addP (methE0 (pv 1) (AltsOk.cons (MethOk.mk' (k := 2) T.c_Disk T.mt_Disk_blocks G_Disk_blocks T.b_Disk_blocks (by decide)) (AltsOk.nil)) (takesM rfl rfl rfl rfl) hr (by decide)) (pv 4)) (pa_cons (pe_op op_subP (pe_un un_neg (pe_int)) (pv 4)) (pa_cons (pe_bl) (pa_cons (pe_non) (pa_cons (pe_lst (pa_cons (pe_int) (pa_nil))) (pa_cons (pe_str) (pa_nil)))))))))) (pe_op op_modP (pe_op op_divP (pv 2) (pe_int)) (pe_int)) (fun _ _ => rfl))) (pss_cons (tryAs (i := 6) sc_L_reads.nd rfl rfl ⟨rfl, by decide, .inl T.g_KeepError⟩ (takesM rfl rfl rfl rfl) (fun W pn xe tk po => pss_one (ps_expr (methE (pv 0) (AltsOk.cons (MethOk.mk' (k := 4) T.c_Batch T.mt_Batch_read G_Batch_read T.b_Batch_read (by decide)) (AltsOk.nil)) tk hr (by decide) (pa_cons (pv 5) (pa_nil))))) (fun e D oe pn hp => pss_one (ps_ret (pe_cmpR (op_eqH (roomS hr)) (callX Gh_L_kinds hp takesN (roomS hr) (by decide) rfl T.g_L_kinds T.k_L_kinds T.b_L_kinds (pa_cons (pv 6) (pa_nil))) (pe_str) (by first | exact nomark _ | rfl))))) (pss_one (ps_ret (pe_bl)))))))
theorem sc_carry_home : FnScope ["disk", "homes", "place", "home"] ["disk", "homes"] (defScope s_carry_home) := ⟨rfl, rfl, rfl, by decide +kernel, rfl, by decide +kernel, by decide +kernel⟩
theorem ok_carry_home (T : Tx K mg a b) : FnOk P w K mg base (L2N.CX P w) 6 b.f_carry_home b.fd_carry_home ["disk", "homes"] (sp_carry_home K a) := by
  have G_Disk_read := ok_Disk_read (P := P) (w := w) (base := base) T
  have G_Disk_write := ok_Disk_write (P := P) (w := w) (base := base) T
  have G_empty_row := ok_empty_row (P := P) (w := w) (base := base) T
  refine okN (k := 5) (t := t_carry_home K a) T.F_carry_home sc_carry_home (fun cdv A outer s H E hr => ?_)
  exact pss_cons (ps_for (passes_of rfl) rfl (pi_enum (by rfl) T.n_enumerate (pa_cons (pv 1) (pa_nil))) (pg_tupP rfl (pgs_cons (pg_name (i := 2) sc_carry_home.nd rfl (by first | exact Or.inl rfl | exact Or.inr rfl)) (pgs_cons (pg_name (i := 3) sc_carry_home.nd rfl (by first | exact Or.inl rfl | exact Or.inr rfl)) (pgs_nil)))) (pss_one (ps_expr (methE (pv 0) (AltsOk.cons (MethOk.mk' (k := 5) T.c_Disk T.mt_Disk_write G_Disk_write T.b_Disk_write (by decide)) (AltsOk.nil)) (takesM rfl rfl rfl rfl) hr (by decide) (pa_cons (pv 3) (pa_cons (methE (pv 0) (AltsOk.cons (MethOk.mk' (k := 3) T.c_Disk T.mt_Disk_read G_Disk_read T.b_Disk_read (by decide)) (AltsOk.nil)) (takesM rfl rfl rfl rfl) hr (by decide) (pa_cons (pe_op op_addP (pe_op op_addP (pe_gl rfl T.g_LOG_AT) (pe_int)) (pv 2)) (pa_nil))) (pa_nil))))))) (pss_one (ps_expr (methE (pv 0) (AltsOk.cons (MethOk.mk' (k := 5) T.c_Disk T.mt_Disk_write G_Disk_write T.b_Disk_write (by decide)) (AltsOk.nil)) (takesM rfl rfl rfl rfl) hr (by decide) (pa_cons (pe_gl rfl T.g_LOG_AT) (pa_cons (callE0 G_empty_row (takesM rfl rfl rfl rfl) hr (by decide) rfl T.g_empty_row T.k_empty_row T.b_empty_row) (pa_nil))))))
theorem sc_L_written : FnScope ["_law_batch", "_law_block", "_law_row_here", "_law_e"] ["_law_batch", "_law_block", "_law_row_here"] (defScope s_L_written) := ⟨rfl, rfl, rfl, by decide +kernel, rfl, by decide +kernel, by decide +kernel⟩
theorem ok_L_written (T : Tx K mg a b) : FnOk P w K mg base (L2N.CX P w) 6 b.f_L_written b.fd_L_written ["_law_batch", "_law_block", "_law_row_here"] (sp_L_written K a) := by
  have G_Batch_write := ok_Batch_write (P := P) (w := w) (base := base) T
  have Gh_L_kinds := okh_L_kinds (P := P) (w := w) (base := base) T
  refine okN (k := 5) (t := t_L_written K a) T.F_L_written sc_L_written (fun cdv A outer s H E hr => ?_)
  exact pss_cons (tryAs (i := 3) sc_L_written.nd rfl rfl ⟨rfl, by decide, .inl T.g_KeepError⟩ (takesM rfl rfl rfl rfl) (fun W pn xe tk po => pss_one (ps_expr (methE (pv 0) (AltsOk.cons (MethOk.mk' (k := 5) T.c_Batch T.mt_Batch_write G_Batch_write T.b_Batch_write (by decide)) (AltsOk.nil)) tk hr (by decide) (pa_cons (pv 1) (pa_cons (pv 2) (pa_nil)))))) (fun e D oe pn hp => pss_one (ps_ret (callX Gh_L_kinds hp takesN (roomS hr) (by decide) rfl T.g_L_kinds T.k_L_kinds T.b_L_kinds (pa_cons (pv 3) (pa_nil)))))) (pss_one (ps_ret (pe_str)))
theorem sc_L_beside : FnScope ["_law_batch", "_law_disk", "_law_own", "_law_cell", "_law_block"] ["_law_batch", "_law_disk", "_law_own", "_law_cell"] (defScope s_L_beside) := ⟨rfl, rfl, rfl, by decide +kernel, rfl, by decide +kernel, by decide +kernel⟩
theorem ok_L_beside (T : Tx K mg a b) : FnOk P w K mg base (L2N.CX P w) 6 b.f_L_beside b.fd_L_beside ["_law_batch", "_law_disk", "_law_own", "_law_cell"] (sp_L_beside K a) := by
  have G_Batch_read := ok_Batch_read (P := P) (w := w) (base := base) T
  have G_Disk_blocks := ok_Disk_blocks (P := P) (w := w) (base := base) T
  have G_Disk_read := ok_Disk_read (P := P) (w := w) (base := base) T
  have G_Disk_write := ok_Disk_write (P := P) (w := w) (base := base) T
  have G_L_row := ok_L_row (P := P) (w := w) (base := base) T
  refine okN (k := 5) (t := t_L_beside K a) T.F_L_beside sc_L_beside (fun cdv A outer s H E hr => ?_)
  exact pss_cons (ps_set (i := 4) sc_L_beside.nd rfl (by first | exact Or.inl rfl | exact Or.inr rfl) (pe_op op_addP (pe_int) (pe_op op_modP (pe_op op_divP (pv 3) (pe_int)) (pe_op op_subP (methE0 (pv 1) (AltsOk.cons (MethOk.mk' (k := 2) T.c_Disk T.mt_Disk_blocks G_Disk_blocks T.b_Disk_blocks (by decide)) (AltsOk.nil)) (takesM rfl rfl rfl rfl) hr (by decide)) (pe_int))))) (pss_cons (ps_if (pt_cmpR (op_neP hr) (methE (pv 0) (AltsOk.cons (MethOk.mk' (k := 4) T.c_Batch T.mt_Batch_read G_Batch_read T.b_Batch_read (by decide)) (AltsOk.nil)) (takesM rfl rfl rfl rfl) hr (by decide) (pa_cons (pv 4) (pa_nil))) (pe_dget2 (hu_of hr) (pv 2) (pv 4) (methE (pv 1) (AltsOk.cons (MethOk.mk' (k := 3) T.c_Disk T.mt_Disk_read G_Disk_read T.b_Disk_read (by decide)) (AltsOk.nil)) (takesM rfl rfl rfl rfl) hr (by decide) (pa_cons (pv 4) (pa_nil))) ⟨rfl, rfl, rfl, rfl⟩) (by first | exact nomark _ | rfl)) (pss_one (ps_ret (pe_bl))) (pss_nil)) (pss_cons (ps_expr (methE (pv 1) (AltsOk.cons (MethOk.mk' (k := 5) T.c_Disk T.mt_Disk_write G_Disk_write T.b_Disk_write (by decide)) (AltsOk.nil)) (takesM rfl rfl rfl rfl) hr (by decide) (pa_cons (pv 4) (pa_cons (callE G_L_row (takesM rfl rfl rfl rfl) hr (by decide) rfl T.g_L_row T.k_L_row T.b_L_row (pa_cons (pe_op op_divP (pv 3) (pe_int)) (pa_nil))) (pa_nil))))) (pss_one (ps_ret (pe_cmpR (op_eqP hr) (methE (pv 0) (AltsOk.cons (MethOk.mk' (k := 4) T.c_Batch T.mt_Batch_read G_Batch_read T.b_Batch_read (by decide)) (AltsOk.nil)) (takesM rfl rfl rfl rfl) hr (by decide) (pa_cons (pv 4) (pa_nil))) (pe_dget2 (hu_of hr) (pv 2) (pv 4) (callE G_L_row (takesM rfl rfl rfl rfl) hr (by decide) rfl T.g_L_row T.k_L_row T.b_L_row (pa_cons (pe_op op_divP (pv 3) (pe_int)) (pa_nil))) ⟨rfl, rfl, rfl, rfl⟩) (by first | exact nomark _ | rfl))))))
theorem sc_commit : FnScope ["disk", "pairs", "kept", "place", "pair", "homes"] ["disk", "pairs"] (defScope s_commit) := ⟨rfl, rfl, rfl, by decide +kernel, rfl, by decide +kernel, by decide +kernel⟩
theorem ok_commit (T : Tx K mg a b) : FnOk P w K mg base (L2N.CX P w) 7 b.f_commit b.fd_commit ["disk", "pairs"] (sp_commit K a) := by
  have G_Disk_write := ok_Disk_write (P := P) (w := w) (base := base) T
  have G_carry_home := ok_carry_home (P := P) (w := w) (base := base) T
  have G_changed := ok_changed (P := P) (w := w) (base := base) T
  have G_empty_row := ok_empty_row (P := P) (w := w) (base := base) T
  have G_need_pairs := ok_need_pairs (P := P) (w := w) (base := base) T
  refine okN (k := 6) (t := t_commit K a) T.F_commit sc_commit (fun cdv A outer s H E hr => ?_)
  exact pss_cons (ps_set (i := 2) sc_commit.nd rfl (by first | exact Or.inl rfl | exact Or.inr rfl) (callE G_need_pairs (takesM rfl rfl rfl rfl) hr (by decide) rfl T.g_need_pairs T.k_need_pairs T.b_need_pairs (pa_cons (pv 0) (pa_cons (pv 1) (pa_nil))))) (pss_cons (ps_if (pt_cmpR (op_eqP hr) (pv 2) (pe_lst (pa_nil)) (by first | exact nomark _ | rfl)) (pss_one (ps_retN)) (pss_nil)) (pss_cons (ps_for (passes_of rfl) rfl (pi_enum (by rfl) T.n_enumerate (pa_cons (pv 2) (pa_nil))) (pg_tupP rfl (pgs_cons (pg_name (i := 3) sc_commit.nd rfl (by first | exact Or.inl rfl | exact Or.inr rfl)) (pgs_cons (pg_name (i := 4) sc_commit.nd rfl (by first | exact Or.inl rfl | exact Or.inr rfl)) (pgs_nil)))) (pss_one (ps_expr (methE (pv 0) (AltsOk.cons (MethOk.mk' (k := 5) T.c_Disk T.mt_Disk_write G_Disk_write T.b_Disk_write (by decide)) (AltsOk.nil)) (takesM rfl rfl rfl rfl) hr (by decide) (pa_cons (pe_op op_addP (pe_op op_addP (pe_gl rfl T.g_LOG_AT) (pe_int)) (pv 3)) (pa_cons (pe_ix ix_P (pv 4) (pe_int) (fun _ _ => rfl)) (pa_nil))))))) (pss_cons (ps_setLc (i := 5) rfl sc_commit.nd rfl rfl (sw_true rfl rfl rfl (by decide +kernel)) (own := [("pair", 4)]) (g := gName 4) (tt := tYes) (te := tOp (rIxP K) (tVar 4) (tC (.int 0))) (pi_seqP (pv 2)) (blkOk_by (N := ["disk", "pairs", "kept", "place", "pair", "homes"]) (sc := defScope s_commit) (by decide +kernel)) (fun _ _ _ _ _ => pg_name (i := 4) sc_commit.nd rfl (by first | exact Or.inl rfl | exact Or.inr rfl)) (fun _ _ _ _ _ => pts_nil) (fun _ _ _ _ _ => pe_ix ix_P (pv 4) (pe_int) (fun _ _ => rfl))) (pss_cons (ps_expr (methE (pv 0) (AltsOk.cons (MethOk.mk' (k := 5) T.c_Disk T.mt_Disk_write G_Disk_write T.b_Disk_write (by decide)) (AltsOk.nil)) (takesM rfl rfl rfl rfl) hr (by decide) (pa_cons (pe_gl rfl T.g_LOG_AT) (pa_cons (callE G_changed (takesM rfl rfl rfl rfl) hr (by decide) rfl T.g_changed T.k_changed T.b_changed (pa_cons (callE0 G_empty_row (takesM rfl rfl rfl rfl) hr (by decide) rfl T.g_empty_row T.k_empty_row T.b_empty_row) (pa_cons (pe_int) (pa_cons (pe_op op_addP (pe_lst (pa_cons (pe_callB call_lenP (by rfl) T.n_len (by decide +kernel) (pa_cons (pv 5) (pa_nil))) (pa_nil))) (pv 5)) (pa_nil))))) (pa_nil))))) (pss_one (ps_expr (callE G_carry_home (takesM rfl rfl rfl rfl) hr (by decide) rfl T.g_carry_home T.k_carry_home T.b_carry_home (pa_cons (pv 0) (pa_cons (pv 5) (pa_nil))))))))))
theorem sc_L_deed : FnScope ["_law_batch", "_law_disk", "_law_own", "_law_cell", "_law_more", "_law_many", "_law_block", "_law_row_here", "_law_due", "_law_near", "_law_read", "_law_kept", "_law_handed"] ["_law_batch", "_law_disk", "_law_own", "_law_cell", "_law_more"] (defScope s_L_deed) := ⟨rfl, rfl, rfl, by decide +kernel, rfl, by decide +kernel, by decide +kernel⟩
theorem ok_L_deed (T : Tx K mg a b) : FnOk P w K mg base (L2N.CX P w) 7 b.f_L_deed b.fd_L_deed ["_law_batch", "_law_disk", "_law_own", "_law_cell", "_law_more"] (sp_L_deed K a) := by
  have G_Batch_read := ok_Batch_read (P := P) (w := w) (base := base) T
  have G_Disk_blocks := ok_Disk_blocks (P := P) (w := w) (base := base) T
  have G_L_like := ok_L_like (P := P) (w := w) (base := base) T
  have G_L_odd_block := ok_L_odd_block (P := P) (w := w) (base := base) T
  have G_L_odd_row := ok_L_odd_row (P := P) (w := w) (base := base) T
  have G_L_row := ok_L_row (P := P) (w := w) (base := base) T
  have G_L_written := ok_L_written (P := P) (w := w) (base := base) T
  refine okN (k := 6) (t := t_L_deed K a) T.F_L_deed sc_L_deed (fun cdv A outer s H E hr => ?_)
  exact pss_cons (ps_set (i := 5) sc_L_deed.nd rfl (by first | exact Or.inl rfl | exact Or.inr rfl) (methE0 (pv 1) (AltsOk.cons (MethOk.mk' (k := 2) T.c_Disk T.mt_Disk_blocks G_Disk_blocks T.b_Disk_blocks (by decide)) (AltsOk.nil)) (takesM rfl rfl rfl rfl) hr (by decide))) (pss_cons (ps_set (i := 6) sc_L_deed.nd rfl (by first | exact Or.inl rfl | exact Or.inr rfl) (pe_op op_addP (pe_int) (pe_op op_modP (pe_op op_modP (pe_op op_mulP (pe_op op_modP (pe_op op_divP (pv 3) (pe_int)) (pe_int)) (pe_int)) (pe_int)) (pe_op op_subP (pv 5) (pe_int))))) (pss_cons (ps_if (pt_cmpR (op_eqP hr) (pe_op op_modP (pv 3) (pe_int)) (pe_int) (by first | exact nomark _ | rfl)) (pss_one (ps_set (i := 6) sc_L_deed.nd rfl (by first | exact Or.inl rfl | exact Or.inr rfl) (pe_ix ix_P (pe_lst (pa_cons (pe_int) (pa_cons (pe_op op_subP (pv 5) (pe_int)) (pa_cons (pe_int) (pa_cons (pe_op op_subP (pv 5) (pe_int)) (pa_nil)))))) (pe_op op_modP (pe_op op_divP (pv 3) (pe_int)) (pe_int)) (fun _ _ => rfl)))) (pss_nil)) (pss_cons (ps_set (i := 7) sc_L_deed.nd rfl (by first | exact Or.inl rfl | exact Or.inr rfl) (callE G_L_row (takesM rfl rfl rfl rfl) hr (by decide) rfl T.g_L_row T.k_L_row T.b_L_row (pa_cons (pv 4) (pa_nil)))) (pss_cons (ps_set (i := 8) sc_L_deed.nd rfl (by first | exact Or.inl rfl | exact Or.inr rfl) (pe_str)) (pss_cons (ps_if (PW.pt (pw_or (pt_cmpR (op_eqP hr) (pe_op op_modP (pv 3) (pe_int)) (pe_int) (by first | exact nomark _ | rfl)) (pw_or1 (pt_cmpR (op_eqP hr) (pe_op op_modP (pv 3) (pe_int)) (pe_int) (by first | exact nomark _ | rfl))))) (pss_cons (ps_set (i := 7) sc_L_deed.nd rfl (by first | exact Or.inl rfl | exact Or.inr rfl) (callE G_L_odd_row (takesM rfl rfl rfl rfl) hr (by decide) rfl T.g_L_odd_row T.k_L_odd_row T.b_L_odd_row (pa_cons (pv 4) (pa_nil)))) (pss_one (ps_set (i := 8) sc_L_deed.nd rfl (by first | exact Or.inl rfl | exact Or.inr rfl) (pe_str)))) (pss_nil)) (pss_cons (ps_set (i := 9) sc_L_deed.nd rfl (by first | exact Or.inl rfl | exact Or.inr rfl) (pv 6)) (pss_cons (ps_if (PW.pt (pw_or (pt_cmpR (op_eqP hr) (pe_op op_modP (pv 3) (pe_int)) (pe_int) (by first | exact nomark _ | rfl)) (pw_or1 (pt_cmpR (op_eqP hr) (pe_op op_modP (pv 3) (pe_int)) (pe_int) (by first | exact nomark _ | rfl))))) (pss_cons (ps_set (i := 6) sc_L_deed.nd rfl (by first | exact Or.inl rfl | exact Or.inr rfl) (callE G_L_odd_block (takesM rfl rfl rfl rfl) hr (by decide) rfl T.g_L_odd_block T.k_L_odd_block T.b_L_odd_block (pa_cons (pv 4) (pa_cons (pv 5) (pa_nil))))) (pss_one (ps_set (i := 8) sc_L_deed.nd rfl (by first | exact Or.inl rfl | exact Or.inr rfl) (pe_str)))) (pss_nil)) (pss_cons (ps_if (pt_not (pt_val (callE G_L_like (takesM rfl rfl rfl rfl) hr (by decide) rfl T.g_L_like T.k_L_like T.b_L_like (pa_cons (pv 0) (pa_cons (pv 1) (pa_cons (pv 2) (pa_cons (pv 9) (pa_nil)))))))) (pss_one (ps_ret (pe_bl))) (pss_nil)) (pss_cons (ps_set (i := 10) sc_L_deed.nd rfl (by first | exact Or.inl rfl | exact Or.inr rfl) (methE (pv 0) (AltsOk.cons (MethOk.mk' (k := 4) T.c_Batch T.mt_Batch_read G_Batch_read T.b_Batch_read (by decide)) (AltsOk.nil)) (takesM rfl rfl rfl rfl) hr (by decide) (pa_cons (pv 9) (pa_nil)))) (pss_cons (ps_set (i := 11) sc_L_deed.nd rfl (by first | exact Or.inl rfl | exact Or.inr rfl) (pe_callTy call_listP (by rfl) T.n_list (by decide +kernel) (pa_cons (pv 10) (pa_nil)))) (pss_cons (ps_set (i := 12) sc_L_deed.nd rfl (by first | exact Or.inl rfl | exact Or.inr rfl) (pv 7)) (pss_cons (ps_if (pt_val (pe_callB call_isi (by rfl) T.n_isinstance (by decide +kernel) (pa_cons (pv 7) (pa_cons (pe_bltn (by rfl) T.n_list (by decide +kernel) rfl) (pa_nil))))) (pss_one (ps_set (i := 12) sc_L_deed.nd rfl (by first | exact Or.inl rfl | exact Or.inr rfl) (pe_callTy call_listP (by rfl) T.n_list (by decide +kernel) (pa_cons (pv 7) (pa_nil))))) (pss_nil)) (pss_cons (ps_if (pt_cmpR (op_neP hr) (callE G_L_written (takesM rfl rfl rfl rfl) hr (by decide) rfl T.g_L_written T.k_L_written T.b_L_written (pa_cons (pv 0) (pa_cons (pv 6) (pa_cons (pv 12) (pa_nil))))) (pv 8) (by first | exact nomark _ | rfl)) (pss_one (ps_ret (pe_bl))) (pss_nil)) (pss_cons (ps_if (pt_cmpR (op_eqP hr) (pv 8) (pe_str) (by first | exact nomark _ | rfl)) (pss_cons (ps_expr (pe_bm0 PySem.F.plainAttrs_list PySem.F.slot_list_clear PySem.F.type_list_clear mt_clear (pv 12))) (pss_one (ps_dput (hu_of hr) (pv 2) (pv 6) (pv 7) rfl))) (pss_nil)) (pss_one (ps_ret (pe_and (callE G_L_like (takesM rfl rfl rfl rfl) hr (by decide) rfl T.g_L_like T.k_L_like T.b_L_like (pa_cons (pv 0) (pa_cons (pv 1) (pa_cons (pv 2) (pa_cons (pv 9) (pa_nil)))))) (pe_one (pe_cmpR (op_eqP hr) (pv 10) (pv 11) (by first | exact nomark _ | rfl))))))))))))))))))))
theorem sc_Batch_finish : FnScope ["self"] ["self"] (defScope s_Batch_finish) := ⟨rfl, rfl, rfl, by decide +kernel, rfl, by decide +kernel, by decide +kernel⟩
theorem ok_Batch_finish (T : Tx K mg a b) : FnOk P w K mg base (L2N.CX P w) 8 b.f_Batch_finish b.fd_Batch_finish ["self"] (sp_Batch_finish K a) := by
  have G_Batch_pairs := ok_Batch_pairs (P := P) (w := w) (base := base) T
  have G_commit := ok_commit (P := P) (w := w) (base := base) T
  refine okN (k := 7) (t := t_Batch_finish K a) T.F_Batch_finish sc_Batch_finish (fun cdv A outer s H E hr => ?_)
  exact pss_cons (ps_expr (callE G_commit (takesM rfl rfl rfl rfl) hr (by decide) rfl T.g_commit T.k_commit T.b_commit (pa_cons (pe_fld (pv 0) rfl) (pa_cons (methE0 (pv 0) (AltsOk.cons (MethOk.mk' (k := 2) T.c_Batch T.mt_Batch_pairs G_Batch_pairs T.b_Batch_pairs (by decide)) (AltsOk.nil)) (takesM rfl rfl rfl rfl) hr (by decide)) (pa_nil))))) (pss_one (ps_fld (pv 0) (pe_dnewK) rfl))
theorem sc_L_finished : FnScope ["_law_batch", "_law_disk", "_law_own", "_law_base", "_law_before", "_law_held", "_law_e", "_law_stays", "_law_due", "_law_block", "_law_one"] ["_law_batch", "_law_disk", "_law_own", "_law_base"] (defScope s_L_finished) := ⟨rfl, rfl, rfl, by decide +kernel, rfl, by decide +kernel, by decide +kernel⟩
theorem ok_L_finished (T : Tx K mg a b) : FnOk P w K mg base (L2N.CX P w) 9 b.f_L_finished b.fd_L_finished ["_law_batch", "_law_disk", "_law_own", "_law_base"] (sp_L_finished K a) := by
  have G_Batch_finish := ok_Batch_finish (P := P) (w := w) (base := base) T
  have G_Batch_pairs := ok_Batch_pairs (P := P) (w := w) (base := base) T
  have G_Disk_blocks := ok_Disk_blocks (P := P) (w := w) (base := base) T
  have G_Disk_read := ok_Disk_read (P := P) (w := w) (base := base) T
  have G_Disk_writes := ok_Disk_writes (P := P) (w := w) (base := base) T
  have Gh_Batch_pairs := okh_Batch_pairs (P := P) (w := w) (base := base) T
  have Gh_Disk_writes := okh_Disk_writes (P := P) (w := w) (base := base) T
  have Gh_L_kinds := okh_L_kinds (P := P) (w := w) (base := base) T
  refine okN (k := 8) (t := t_L_finished K a) T.F_L_finished sc_L_finished (fun cdv A outer s H E hr => ?_)
  exact pss_cons (ps_set (i := 4) sc_L_finished.nd rfl (by first | exact Or.inl rfl | exact Or.inr rfl) (methE0 (pv 1) (AltsOk.cons (MethOk.mk' (k := 2) T.c_Disk T.mt_Disk_writes G_Disk_writes T.b_Disk_writes (by decide)) (AltsOk.nil)) (takesM rfl rfl rfl rfl) hr (by decide))) (pss_cons (ps_set (i := 5) sc_L_finished.nd rfl (by first | exact Or.inl rfl | exact Or.inr rfl) (methE0 (pv 0) (AltsOk.cons (MethOk.mk' (k := 2) T.c_Batch T.mt_Batch_pairs G_Batch_pairs T.b_Batch_pairs (by decide)) (AltsOk.nil)) (takesM rfl rfl rfl rfl) hr (by decide))) (pss_cons (tryAs (i := 6) sc_L_finished.nd rfl rfl ⟨rfl, by decide, .inl T.g_KeepError⟩ (takesM rfl rfl rfl rfl) (fun W pn xe tk po => pss_one (ps_expr (methE0 (pv 0) (AltsOk.cons (MethOk.mk' (k := 8) T.c_Batch T.mt_Batch_finish G_Batch_finish T.b_Batch_finish (by decide)) (AltsOk.nil)) tk hr (by decide)))) (fun e D oe pn hp => pss_cons (ps_set (i := 7) sc_L_finished.nd rfl (by first | exact Or.inl rfl | exact Or.inr rfl) (pe_and (pe_cmpR (op_eqH (roomS hr)) (methX0 (pv 1) (k := 2) ⟨T.c_Disk, _, _, _, T.mt_Disk_writes, Gh_Disk_writes, T.b_Disk_writes⟩ hp takesN (roomS hr) (by decide)) (pv 4) (by first | exact nomark _ | rfl)) (pe_one (pe_cmpR (op_eqH (roomS hr)) (methX0 (pv 0) (k := 2) ⟨T.c_Batch, _, _, _, T.mt_Batch_pairs, Gh_Batch_pairs, T.b_Batch_pairs⟩ hp takesN (roomS hr) (by decide)) (pv 5) (by first | exact nomark _ | rfl))))) (pss_one (ps_ret (pe_and (pe_cmpR op_gtP (pe_callB call_lenP (by rfl) T.n_len (by decide +kernel) (pa_cons (pv 2) (pa_nil))) (pe_int) (by first | exact nomark _ | rfl)) (pe_and (pe_cmpR (op_eqH (roomS hr)) (callX Gh_L_kinds hp takesN (roomS hr) (by decide) rfl T.g_L_kinds T.k_L_kinds T.b_L_kinds (pa_cons (pv 6) (pa_nil))) (pe_str) (by first | exact nomark _ | rfl)) (pe_one (pv 7)))))))) (pss_cons (ps_setLc (i := 8) rfl sc_L_finished.nd rfl rfl (sw_true rfl rfl rfl (by decide +kernel)) (own := [("_law_block", 9)]) (g := gName 9) (tt := tYes) (te := tDGet2 (tVar 2) (tVar 9) (tOp (rIxP K) (tVar 3) (tVar 9))) (pi_range1 (by rfl) T.n_range (pa_cons (methE0 (pv 1) (AltsOk.cons (MethOk.mk' (k := 2) T.c_Disk T.mt_Disk_blocks G_Disk_blocks T.b_Disk_blocks (by decide)) (AltsOk.nil)) (takesM rfl rfl rfl rfl) hr (by decide)) (pa_nil))) (blkOk_by (N := ["_law_batch", "_law_disk", "_law_own", "_law_base", "_law_before", "_law_held", "_law_e", "_law_stays", "_law_due", "_law_block", "_law_one"]) (sc := defScope s_L_finished) (by decide +kernel)) (fun _ _ _ _ _ => pg_name (i := 9) sc_L_finished.nd rfl (by first | exact Or.inl rfl | exact Or.inr rfl)) (fun _ _ _ _ _ => pts_nil) (fun _ _ _ _ _ => pe_dget2 (hu_of hr) (pv 2) (pv 9) (pe_ix ix_P (pv 3) (pv 9) (fun _ _ => rfl)) ⟨rfl, rfl, rfl, rfl⟩)) (pss_cons (ps_if (PW.pt (pw_or (pt_cmpR op_gtP (pe_callB call_lenP (by rfl) T.n_len (by decide +kernel) (pa_cons (pv 2) (pa_nil))) (pe_int) (by first | exact nomark _ | rfl)) (pw_or1 (pt_cmpR (op_neP hr) (pe_lc (own := [("_law_block", 9)]) (g := gName 9) (tt := tYes) (te := tMethP "read" [(a.Disk, sp_Disk_read K a)] (WE W0) (tVar 1) (tCons (tVar 9) (tNil))) rfl sc_L_finished.nd (pi_range2 (by rfl) T.n_range (pa_cons (pe_int) (pa_cons (methE0 (pv 1) (AltsOk.cons (MethOk.mk' (k := 2) T.c_Disk T.mt_Disk_blocks G_Disk_blocks T.b_Disk_blocks (by decide)) (AltsOk.nil)) (takesM rfl rfl rfl rfl) hr (by decide)) (pa_nil)))) (blkOk_by (N := ["_law_batch", "_law_disk", "_law_own", "_law_base", "_law_before", "_law_held", "_law_e", "_law_stays", "_law_due", "_law_block", "_law_one"]) (sc := defScope s_L_finished) (by decide +kernel)) (fun _ _ _ _ _ => pg_name (i := 9) sc_L_finished.nd rfl (by first | exact Or.inl rfl | exact Or.inr rfl)) (fun _ _ _ _ _ => pts_nil) (fun _ _ _ _ _ => methE (pv 1) (AltsOk.cons (MethOk.mk' (k := 3) T.c_Disk T.mt_Disk_read G_Disk_read T.b_Disk_read (by decide)) (AltsOk.nil)) takesN hr (by decide) (pa_cons (pv 9) (pa_nil)))) (pe_slice sl_P (pv 8) (po_some (pe_int)) (po_none)) (by first | exact nomark _ | rfl))))) (pss_one (ps_ret (pe_bl))) (pss_nil)) (pss_cons (ps_if (PW.pt (pw_or (pt_cmpR (op_neP hr) (methE0 (pv 1) (AltsOk.cons (MethOk.mk' (k := 2) T.c_Disk T.mt_Disk_writes G_Disk_writes T.b_Disk_writes (by decide)) (AltsOk.nil)) (takesM rfl rfl rfl rfl) hr (by decide)) (pe_op op_addP (pv 4) (pe_op op_mulP (pe_op op_addP (pe_op op_mulP (pe_int) (pe_callB call_lenP (by rfl) T.n_len (by decide +kernel) (pa_cons (pv 2) (pa_nil)))) (pe_int)) (pe_callTy call_intP (by rfl) T.n_int (by decide +kernel) (pa_cons (pe_cmpR (op_neDE hr) (pv 2) (pe_dnewK) (by first | exact nomark _ | rfl)) (pa_nil))))) (by first | exact nomark _ | rfl)) (pw_or1 (pt_cmpR (op_neP hr) (methE0 (pv 0) (AltsOk.cons (MethOk.mk' (k := 2) T.c_Batch T.mt_Batch_pairs G_Batch_pairs T.b_Batch_pairs (by decide)) (AltsOk.nil)) (takesM rfl rfl rfl rfl) hr (by decide)) (pe_lst (pa_nil)) (by first | exact nomark _ | rfl))))) (pss_one (ps_ret (pe_bl))) (pss_nil)) (pss_cons (ps_if (PW.pt (pw_or (pt_cmpR (op_neP hr) (methE (pv 1) (AltsOk.cons (MethOk.mk' (k := 3) T.c_Disk T.mt_Disk_read G_Disk_read T.b_Disk_read (by decide)) (AltsOk.nil)) (takesM rfl rfl rfl rfl) hr (by decide) (pa_cons (pe_int) (pa_nil))) (pe_ix ix_P (pv 3) (pe_int) (fun _ _ => rfl)) (by first | exact nomark _ | rfl)) (pw_or1 (pt_cmpR (op_neP hr) (methE (pv 1) (AltsOk.cons (MethOk.mk' (k := 3) T.c_Disk T.mt_Disk_read G_Disk_read T.b_Disk_read (by decide)) (AltsOk.nil)) (takesM rfl rfl rfl rfl) hr (by decide) (pa_cons (pe_int) (pa_nil))) (pe_op op_mulP (pe_lst (pa_cons (pe_int) (pa_nil))) (pe_int)) (by first | exact nomark _ | rfl))))) (pss_one (ps_ret (pe_bl))) (pss_nil)) (pss_one (ps_ret (pe_cmpR (op_eqP hr) (pv 5) (pe_lc (own := [("_law_one", 10)]) (g := gName 10) (tt := tYes) (te := tTup (tCons (tVar 10) (tCons (tDGet (tVar 2) (tVar 10)) (tNil)))) rfl sc_L_finished.nd (pi_seqP (pe_callB (call_sortedQ rfl) (by rfl) T.n_sorted (by decide +kernel) (pa_cons (pv 2) (pa_nil)))) (blkOk_by (N := ["_law_batch", "_law_disk", "_law_own", "_law_base", "_law_before", "_law_held", "_law_e", "_law_stays", "_law_due", "_law_block", "_law_one"]) (sc := defScope s_L_finished) (by decide +kernel)) (fun _ _ _ _ _ => pg_name (i := 10) sc_L_finished.nd rfl (by first | exact Or.inl rfl | exact Or.inr rfl)) (fun _ _ _ _ _ => pts_nil) (fun _ _ _ _ _ => pe_tup (pa_cons (pv 10) (pa_cons (pe_dget (hu_of hr) (pv 2) (pv 10) (fun _ _ => rfl)) (pa_nil))))) (by first | exact nomark _ | rfl))))))))))
theorem sc_law : FnScope ["_law_script", "_law_disk", "_law_k", "_law_place", "_law_base", "_law_writes", "_law_batch", "_law_own"] ["_law_script"] (defScope s_law) := ⟨rfl, rfl, rfl, by decide +kernel, rfl, by decide +kernel, by decide +kernel⟩
theorem ok_law (T : Tx K mg a b) : FnOk P w K mg base (L2N.CX P w) 10 b.f_law b.fd_law ["_law_script"] (sp_law K a) := by
  have G_Batch_init := ok_Batch_init (P := P) (w := w) (base := base) T
  have G_Disk_init := ok_Disk_init (P := P) (w := w) (base := base) T
  have G_Disk_blocks := ok_Disk_blocks (P := P) (w := w) (base := base) T
  have G_Disk_write := ok_Disk_write (P := P) (w := w) (base := base) T
  have G_Disk_writes := ok_Disk_writes (P := P) (w := w) (base := base) T
  have G_L_beside := ok_L_beside (P := P) (w := w) (base := base) T
  have G_L_cell_at := ok_L_cell_at (P := P) (w := w) (base := base) T
  have G_L_deed := ok_L_deed (P := P) (w := w) (base := base) T
  have G_L_finished := ok_L_finished (P := P) (w := w) (base := base) T
  have G_L_reads := ok_L_reads (P := P) (w := w) (base := base) T
  have G_L_row := ok_L_row (P := P) (w := w) (base := base) T
  have G_L_rows := ok_L_rows (P := P) (w := w) (base := base) T
  refine okN (k := 9) (t := t_law K a) T.F_law sc_law (fun cdv A outer s H E hr => ?_)
  exact pss_cons (ps_set (i := 1) sc_law.nd rfl (by first | exact Or.inl rfl | exact Or.inr rfl) (makeE T.m_Disk G_Disk_init (takesM rfl rfl rfl rfl) hr (by decide) rfl T.g_Disk T.b_Disk_init (pa_cons (pe_op op_addP (pe_int) (pe_op op_modP (callE G_L_cell_at (takesM rfl rfl rfl rfl) hr (by decide) rfl T.g_L_cell_at T.k_L_cell_at T.b_L_cell_at (pa_cons (pv 0) (pa_cons (pe_int) (pa_nil)))) (pe_int))) (pa_nil)))) (pss_cons (ps_for (passes_of rfl) rfl (pi_range1 (by rfl) T.n_range (pa_cons (pe_op op_modP (callE G_L_cell_at (takesM rfl rfl rfl rfl) hr (by decide) rfl T.g_L_cell_at T.k_L_cell_at T.b_L_cell_at (pa_cons (pv 0) (pa_cons (pe_int) (pa_nil)))) (pe_int)) (pa_nil))) (pg_name (i := 2) sc_law.nd rfl (by first | exact Or.inl rfl | exact Or.inr rfl)) (pss_cons (ps_set (i := 3) sc_law.nd rfl (by first | exact Or.inl rfl | exact Or.inr rfl) (pe_op op_addP (pe_int) (pe_op op_modP (pe_op op_modP (pe_op op_mulP (callE G_L_cell_at (takesM rfl rfl rfl rfl) hr (by decide) rfl T.g_L_cell_at T.k_L_cell_at T.b_L_cell_at (pa_cons (pv 0) (pa_cons (pe_op op_addP (pe_int) (pv 2)) (pa_nil)))) (pe_int)) (pe_int)) (pe_op op_subP (methE0 (pv 1) (AltsOk.cons (MethOk.mk' (k := 2) T.c_Disk T.mt_Disk_blocks G_Disk_blocks T.b_Disk_blocks (by decide)) (AltsOk.nil)) (takesM rfl rfl rfl rfl) hr (by decide)) (pe_int))))) (pss_one (ps_expr (methE (pv 1) (AltsOk.cons (MethOk.mk' (k := 5) T.c_Disk T.mt_Disk_write G_Disk_write T.b_Disk_write (by decide)) (AltsOk.nil)) (takesM rfl rfl rfl rfl) hr (by decide) (pa_cons (pv 3) (pa_cons (callE G_L_row (takesM rfl rfl rfl rfl) hr (by decide) rfl T.g_L_row T.k_L_row T.b_L_row (pa_cons (callE G_L_cell_at (takesM rfl rfl rfl rfl) hr (by decide) rfl T.g_L_cell_at T.k_L_cell_at T.b_L_cell_at (pa_cons (pv 0) (pa_cons (pe_op op_addP (pe_int) (pv 2)) (pa_nil)))) (pa_nil))) (pa_nil)))))))) (pss_cons (ps_set (i := 4) sc_law.nd rfl (by first | exact Or.inl rfl | exact Or.inr rfl) (callE G_L_rows (takesM rfl rfl rfl rfl) hr (by decide) rfl T.g_L_rows T.k_L_rows T.b_L_rows (pa_cons (pv 1) (pa_nil)))) (pss_cons (ps_set (i := 5) sc_law.nd rfl (by first | exact Or.inl rfl | exact Or.inr rfl) (methE0 (pv 1) (AltsOk.cons (MethOk.mk' (k := 2) T.c_Disk T.mt_Disk_writes G_Disk_writes T.b_Disk_writes (by decide)) (AltsOk.nil)) (takesM rfl rfl rfl rfl) hr (by decide))) (pss_cons (ps_set (i := 6) sc_law.nd rfl (by first | exact Or.inl rfl | exact Or.inr rfl) (makeE T.m_Batch G_Batch_init (takesM rfl rfl rfl rfl) hr (by decide) rfl T.g_Batch T.b_Batch_init (pa_cons (pv 1) (pa_nil)))) (pss_cons (ps_set (i := 7) sc_law.nd rfl (by first | exact Or.inl rfl | exact Or.inr rfl) (pe_dnewK)) (pss_cons (ps_for (passes_of rfl) rfl (pi_range3 (by rfl) T.n_range (pa_cons (pe_int) (pa_cons (pe_callB (call_min2 rfl) (by rfl) T.n_min (by decide +kernel) (pa_cons (pe_op op_subP (pe_callB call_lenP (by rfl) T.n_len (by decide +kernel) (pa_cons (pv 0) (pa_nil))) (pe_int)) (pa_cons (pe_int) (pa_nil)))) (pa_cons (pe_int) (pa_nil))))) (pg_name (i := 2) sc_law.nd rfl (by first | exact Or.inl rfl | exact Or.inr rfl)) (pss_cons (ps_if (PW.pt (pw_or (pt_not (pt_val (callE G_L_deed (takesM rfl rfl rfl rfl) hr (by decide) rfl T.g_L_deed T.k_L_deed T.b_L_deed (pa_cons (pv 6) (pa_cons (pv 1) (pa_cons (pv 7) (pa_cons (pe_ix ix_P (pv 0) (pv 2) (fun _ _ => rfl)) (pa_cons (pe_ix ix_P (pv 0) (pe_op op_addP (pv 2) (pe_int)) (fun _ _ => rfl)) (pa_nil))))))))) (pw_or1 (pt_cmpR (op_neP hr) (methE0 (pv 1) (AltsOk.cons (MethOk.mk' (k := 2) T.c_Disk T.mt_Disk_writes G_Disk_writes T.b_Disk_writes (by decide)) (AltsOk.nil)) (takesM rfl rfl rfl rfl) hr (by decide)) (pv 5) (by first | exact nomark _ | rfl))))) (pss_one (ps_ret (pe_bl))) (pss_nil)) (pss_cons (ps_if (PW.pt (pw_or (pt_not (pt_val (callE G_L_reads (takesM rfl rfl rfl rfl) hr (by decide) rfl T.g_L_reads T.k_L_reads T.b_L_reads (pa_cons (pv 6) (pa_cons (pv 1) (pa_cons (pe_ix ix_P (pv 0) (pe_op op_addP (pv 2) (pe_int)) (fun _ _ => rfl)) (pa_nil))))))) (pw_or1 (pt_cmpR (op_neP hr) (callE G_L_rows (takesM rfl rfl rfl rfl) hr (by decide) rfl T.g_L_rows T.k_L_rows T.b_L_rows (pa_cons (pv 1) (pa_nil))) (pv 4) (by first | exact nomark _ | rfl))))) (pss_one (ps_ret (pe_bl))) (pss_nil)) (pss_cons (ps_if (pt_cmpR (op_eqP hr) (pe_op op_modP (pe_ix ix_P (pv 0) (pe_op op_addP (pv 2) (pe_int)) (fun _ _ => rfl)) (pe_int)) (pe_int) (by first | exact nomark _ | rfl)) (pss_cons (ps_if (pt_not (pt_val (callE G_L_beside (takesM rfl rfl rfl rfl) hr (by decide) rfl T.g_L_beside T.k_L_beside T.b_L_beside (pa_cons (pv 6) (pa_cons (pv 1) (pa_cons (pv 7) (pa_cons (pe_ix ix_P (pv 0) (pe_op op_addP (pv 2) (pe_int)) (fun _ _ => rfl)) (pa_nil)))))))) (pss_one (ps_ret (pe_bl))) (pss_nil)) (pss_cons (ps_set (i := 4) sc_law.nd rfl (by first | exact Or.inl rfl | exact Or.inr rfl) (callE G_L_rows (takesM rfl rfl rfl rfl) hr (by decide) rfl T.g_L_rows T.k_L_rows T.b_L_rows (pa_cons (pv 1) (pa_nil)))) (pss_one (ps_set (i := 5) sc_law.nd rfl (by first | exact Or.inl rfl | exact Or.inr rfl) (methE0 (pv 1) (AltsOk.cons (MethOk.mk' (k := 2) T.c_Disk T.mt_Disk_writes G_Disk_writes T.b_Disk_writes (by decide)) (AltsOk.nil)) (takesM rfl rfl rfl rfl) hr (by decide)))))) (pss_nil)) (pss_one (ps_if (PW.pt (pw_and (pt_cmpR (op_eqP hr) (pe_op op_modP (pe_ix ix_P (pv 0) (pv 2) (fun _ _ => rfl)) (pe_int)) (pe_int) (by first | exact nomark _ | rfl)) (pw_and1 (pt_cmpR op_ltP (pe_callB call_lenP (by rfl) T.n_len (by decide +kernel) (pa_cons (pv 7) (pa_nil))) (pe_int) (by first | exact nomark _ | rfl))))) (pss_cons (ps_if (pt_not (pt_val (callE G_L_finished (takesM rfl rfl rfl rfl) hr (by decide) rfl T.g_L_finished T.k_L_finished T.b_L_finished (pa_cons (pv 6) (pa_cons (pv 1) (pa_cons (pv 7) (pa_cons (pv 4) (pa_nil)))))))) (pss_one (ps_ret (pe_bl))) (pss_nil)) (pss_cons (ps_set (i := 7) sc_law.nd rfl (by first | exact Or.inl rfl | exact Or.inr rfl) (pe_dnewK)) (pss_cons (ps_if (pt_cmpR (op_eqP hr) (pe_op op_modP (pe_ix ix_P (pv 0) (pv 2) (fun _ _ => rfl)) (pe_int)) (pe_int) (by first | exact nomark _ | rfl)) (pss_cons (ps_set (i := 6) sc_law.nd rfl (by first | exact Or.inl rfl | exact Or.inr rfl) (makeE T.m_Batch G_Batch_init (takesM rfl rfl rfl rfl) hr (by decide) rfl T.g_Batch T.b_Batch_init (pa_cons (pv 1) (pa_nil)))) (pss_one (ps_expr (methE (pv 1) (AltsOk.cons (MethOk.mk' (k := 5) T.c_Disk T.mt_Disk_write G_Disk_write T.b_Disk_write (by decide)) (AltsOk.nil)) (takesM rfl rfl rfl rfl) hr (by decide) (pa_cons (pe_op op_addP (pe_int) (pe_op op_modP (pe_op op_divP (pe_ix ix_P (pv 0) (pv 2) (fun _ _ => rfl)) (pe_int)) (pe_op op_subP (methE0 (pv 1) (AltsOk.cons (MethOk.mk' (k := 2) T.c_Disk T.mt_Disk_blocks G_Disk_blocks T.b_Disk_blocks (by decide)) (AltsOk.nil)) (takesM rfl rfl rfl rfl) hr (by decide)) (pe_int)))) (pa_cons (callE G_L_row (takesM rfl rfl rfl rfl) hr (by decide) rfl T.g_L_row T.k_L_row T.b_L_row (pa_cons (pe_ix ix_P (pv 0) (pe_op op_addP (pv 2) (pe_int)) (fun _ _ => rfl)) (pa_nil))) (pa_nil))))))) (pss_nil)) (pss_cons (ps_set (i := 4) sc_law.nd rfl (by first | exact Or.inl rfl | exact Or.inr rfl) (callE G_L_rows (takesM rfl rfl rfl rfl) hr (by decide) rfl T.g_L_rows T.k_L_rows T.b_L_rows (pa_cons (pv 1) (pa_nil)))) (pss_one (ps_set (i := 5) sc_law.nd rfl (by first | exact Or.inl rfl | exact Or.inr rfl) (methE0 (pv 1) (AltsOk.cons (MethOk.mk' (k := 2) T.c_Disk T.mt_Disk_writes G_Disk_writes T.b_Disk_writes (by decide)) (AltsOk.nil)) (takesM rfl rfl rfl rfl) hr (by decide)))))))) (pss_nil))))))) (pss_one (ps_ret (callE G_L_finished (takesM rfl rfl rfl rfl) hr (by decide) rfl T.g_L_finished T.k_L_finished T.b_L_finished (pa_cons (pv 6) (pa_cons (pv 1) (pa_cons (pv 7) (pa_cons (pv 4) (pa_nil))))))))))))))
end
theorem all_mk {l : PySem.W.OpenLaw} {w : World} {K : PySem.W.Frag} {h : Heap} {mg : Str → Option Value} {fa : Addr} (X : K.In h) (G : h.Ns mainGlobals mg) (hfa : mg "law" = some (.ref fa))
    {u_WIDE : Tok}
    {u_MOST_WORD : Tok}
    {u_LEAST_BLOCKS : Tok}
    {u_MOST_BLOCKS : Tok}
    {u_LOG_AT : Tok}
    {u_MAPS_AT : Tok}
    {u_MOST_HOMES : Tok}
    {C_Disk : Addr}
    {C_Batch : Addr}
    {C_KeepError : Addr}
    {C_BadRow : Addr}
    {C_NoBlock : Addr}
    {C_Stopped : Addr}
    {C_BadDisk : Addr}
    {C_TooMuch : Addr}
    {C_BadLog : Addr}
    {f__wall : Addr} {od__wall an__wall : Option Addr} {sl__wall : Array (Option Value)} {oc__wall kV__wall dc__wall pm__wall cd__wall ct__wall : Value}
    {f_is_word : Addr} {od_is_word an_is_word : Option Addr} {sl_is_word : Array (Option Value)} {oc_is_word kV_is_word dc_is_word pm_is_word cd_is_word ct_is_word : Value}
    {f_is_row : Addr} {od_is_row an_is_row : Option Addr} {sl_is_row : Array (Option Value)} {oc_is_row kV_is_row dc_is_row pm_is_row cd_is_row ct_is_row : Value}
    {f_need_row : Addr} {od_need_row an_need_row : Option Addr} {sl_need_row : Array (Option Value)} {oc_need_row kV_need_row dc_need_row pm_need_row cd_need_row ct_need_row : Value}
    {f_empty_row : Addr} {od_empty_row an_empty_row : Option Addr} {sl_empty_row : Array (Option Value)} {oc_empty_row kV_empty_row dc_empty_row pm_empty_row cd_empty_row ct_empty_row : Value}
    {f_changed : Addr} {od_changed an_changed : Option Addr} {sl_changed : Array (Option Value)} {oc_changed kV_changed dc_changed pm_changed cd_changed ct_changed : Value}
    {f_is_many : Addr} {od_is_many an_is_many : Option Addr} {sl_is_many : Array (Option Value)} {oc_is_many kV_is_many dc_is_many pm_is_many cd_is_many ct_is_many : Value}
    {f_Disk_init : Addr} {od_Disk_init an_Disk_init : Option Addr} {sl_Disk_init : Array (Option Value)} {oc_Disk_init kV_Disk_init dc_Disk_init pm_Disk_init cd_Disk_init ct_Disk_init : Value}
    {f_Disk_blocks : Addr} {od_Disk_blocks an_Disk_blocks : Option Addr} {sl_Disk_blocks : Array (Option Value)} {oc_Disk_blocks kV_Disk_blocks dc_Disk_blocks pm_Disk_blocks cd_Disk_blocks ct_Disk_blocks : Value}
    {f_Disk_need : Addr} {od_Disk_need an_Disk_need : Option Addr} {sl_Disk_need : Array (Option Value)} {oc_Disk_need kV_Disk_need dc_Disk_need pm_Disk_need cd_Disk_need ct_Disk_need : Value}
    {f_Disk_read : Addr} {od_Disk_read an_Disk_read : Option Addr} {sl_Disk_read : Array (Option Value)} {oc_Disk_read kV_Disk_read dc_Disk_read pm_Disk_read cd_Disk_read ct_Disk_read : Value}
    {f_Disk_write : Addr} {od_Disk_write an_Disk_write : Option Addr} {sl_Disk_write : Array (Option Value)} {oc_Disk_write kV_Disk_write dc_Disk_write pm_Disk_write cd_Disk_write ct_Disk_write : Value}
    {f_Disk_writes : Addr} {od_Disk_writes an_Disk_writes : Option Addr} {sl_Disk_writes : Array (Option Value)} {oc_Disk_writes kV_Disk_writes dc_Disk_writes pm_Disk_writes cd_Disk_writes ct_Disk_writes : Value}
    {f_Disk_stop_after : Addr} {od_Disk_stop_after an_Disk_stop_after : Option Addr} {sl_Disk_stop_after : Array (Option Value)} {oc_Disk_stop_after kV_Disk_stop_after dc_Disk_stop_after pm_Disk_stop_after cd_Disk_stop_after ct_Disk_stop_after : Value}
    {f_Disk_go_on : Addr} {od_Disk_go_on an_Disk_go_on : Option Addr} {sl_Disk_go_on : Array (Option Value)} {oc_Disk_go_on kV_Disk_go_on dc_Disk_go_on pm_Disk_go_on cd_Disk_go_on ct_Disk_go_on : Value}
    {f_Disk_twin : Addr} {od_Disk_twin an_Disk_twin : Option Addr} {sl_Disk_twin : Array (Option Value)} {oc_Disk_twin kV_Disk_twin dc_Disk_twin pm_Disk_twin cd_Disk_twin ct_Disk_twin : Value}
    {f_is_home : Addr} {od_is_home an_is_home : Option Addr} {sl_is_home : Array (Option Value)} {oc_is_home kV_is_home dc_is_home pm_is_home cd_is_home ct_is_home : Value}
    {f_need_pairs : Addr} {od_need_pairs an_need_pairs : Option Addr} {sl_need_pairs : Array (Option Value)} {oc_need_pairs kV_need_pairs dc_need_pairs pm_need_pairs cd_need_pairs ct_need_pairs : Value}
    {f_carry_home : Addr} {od_carry_home an_carry_home : Option Addr} {sl_carry_home : Array (Option Value)} {oc_carry_home kV_carry_home dc_carry_home pm_carry_home cd_carry_home ct_carry_home : Value}
    {f_commit : Addr} {od_commit an_commit : Option Addr} {sl_commit : Array (Option Value)} {oc_commit kV_commit dc_commit pm_commit cd_commit ct_commit : Value}
    {f_Batch_init : Addr} {od_Batch_init an_Batch_init : Option Addr} {sl_Batch_init : Array (Option Value)} {oc_Batch_init kV_Batch_init dc_Batch_init pm_Batch_init cd_Batch_init ct_Batch_init : Value}
    {f_Batch_read : Addr} {od_Batch_read an_Batch_read : Option Addr} {sl_Batch_read : Array (Option Value)} {oc_Batch_read kV_Batch_read dc_Batch_read pm_Batch_read cd_Batch_read ct_Batch_read : Value}
    {f_Batch_write : Addr} {od_Batch_write an_Batch_write : Option Addr} {sl_Batch_write : Array (Option Value)} {oc_Batch_write kV_Batch_write dc_Batch_write pm_Batch_write cd_Batch_write ct_Batch_write : Value}
    {f_Batch_pairs : Addr} {od_Batch_pairs an_Batch_pairs : Option Addr} {sl_Batch_pairs : Array (Option Value)} {oc_Batch_pairs kV_Batch_pairs dc_Batch_pairs pm_Batch_pairs cd_Batch_pairs ct_Batch_pairs : Value}
    {f_Batch_finish : Addr} {od_Batch_finish an_Batch_finish : Option Addr} {sl_Batch_finish : Array (Option Value)} {oc_Batch_finish kV_Batch_finish dc_Batch_finish pm_Batch_finish cd_Batch_finish ct_Batch_finish : Value}
    {f_L_cell_at : Addr} {od_L_cell_at an_L_cell_at : Option Addr} {sl_L_cell_at : Array (Option Value)} {oc_L_cell_at kV_L_cell_at dc_L_cell_at pm_L_cell_at cd_L_cell_at ct_L_cell_at : Value}
    {f_L_row : Addr} {od_L_row an_L_row : Option Addr} {sl_L_row : Array (Option Value)} {oc_L_row kV_L_row dc_L_row pm_L_row cd_L_row ct_L_row : Value}
    {f_L_odd_row : Addr} {od_L_odd_row an_L_odd_row : Option Addr} {sl_L_odd_row : Array (Option Value)} {oc_L_odd_row kV_L_odd_row dc_L_odd_row pm_L_odd_row cd_L_odd_row ct_L_odd_row : Value}
    {f_L_odd_block : Addr} {od_L_odd_block an_L_odd_block : Option Addr} {sl_L_odd_block : Array (Option Value)} {oc_L_odd_block kV_L_odd_block dc_L_odd_block pm_L_odd_block cd_L_odd_block ct_L_odd_block : Value}
    {f_L_kinds : Addr} {od_L_kinds an_L_kinds : Option Addr} {sl_L_kinds : Array (Option Value)} {oc_L_kinds kV_L_kinds dc_L_kinds pm_L_kinds cd_L_kinds ct_L_kinds : Value}
    {f_L_written : Addr} {od_L_written an_L_written : Option Addr} {sl_L_written : Array (Option Value)} {oc_L_written kV_L_written dc_L_written pm_L_written cd_L_written ct_L_written : Value}
    {f_L_like : Addr} {od_L_like an_L_like : Option Addr} {sl_L_like : Array (Option Value)} {oc_L_like kV_L_like dc_L_like pm_L_like cd_L_like ct_L_like : Value}
    {f_L_deed : Addr} {od_L_deed an_L_deed : Option Addr} {sl_L_deed : Array (Option Value)} {oc_L_deed kV_L_deed dc_L_deed pm_L_deed cd_L_deed ct_L_deed : Value}
    {f_L_rows : Addr} {od_L_rows an_L_rows : Option Addr} {sl_L_rows : Array (Option Value)} {oc_L_rows kV_L_rows dc_L_rows pm_L_rows cd_L_rows ct_L_rows : Value}
    {f_L_reads : Addr} {od_L_reads an_L_reads : Option Addr} {sl_L_reads : Array (Option Value)} {oc_L_reads kV_L_reads dc_L_reads pm_L_reads cd_L_reads ct_L_reads : Value}
    {f_L_beside : Addr} {od_L_beside an_L_beside : Option Addr} {sl_L_beside : Array (Option Value)} {oc_L_beside kV_L_beside dc_L_beside pm_L_beside cd_L_beside ct_L_beside : Value}
    {f_L_finished : Addr} {od_L_finished an_L_finished : Option Addr} {sl_L_finished : Array (Option Value)} {oc_L_finished kV_L_finished dc_L_finished pm_L_finished cd_L_finished ct_L_finished : Value}
    {f_law : Addr} {od_law an_law : Option Addr} {sl_law : Array (Option Value)} {oc_law kV_law dc_law pm_law cd_law ct_law : Value}
    (a_WIDE : PySem.W.nsIn K mainGlobals "WIDE" = some (some (.int 16 u_WIDE)))
    (a_MOST_WORD : PySem.W.nsIn K mainGlobals "MOST_WORD" = some (some (.int 999999999 u_MOST_WORD)))
    (a_LEAST_BLOCKS : PySem.W.nsIn K mainGlobals "LEAST_BLOCKS" = some (some (.int 24 u_LEAST_BLOCKS)))
    (a_MOST_BLOCKS : PySem.W.nsIn K mainGlobals "MOST_BLOCKS" = some (some (.int 96 u_MOST_BLOCKS)))
    (a_LOG_AT : PySem.W.nsIn K mainGlobals "LOG_AT" = some (some (.int 1 u_LOG_AT)))
    (a_MAPS_AT : PySem.W.nsIn K mainGlobals "MAPS_AT" = some (some (.int 17 u_MAPS_AT)))
    (a_MOST_HOMES : PySem.W.nsIn K mainGlobals "MOST_HOMES" = some (some (.int 15 u_MOST_HOMES)))
    (z_ValueError : PySem.W.nsIn K mainGlobals "ValueError" = some none)
    (z_all : PySem.W.nsIn K mainGlobals "all" = some none)
    (z_bool : PySem.W.nsIn K mainGlobals "bool" = some none)
    (z_enumerate : PySem.W.nsIn K mainGlobals "enumerate" = some none)
    (z_int : PySem.W.nsIn K mainGlobals "int" = some none)
    (z_isinstance : PySem.W.nsIn K mainGlobals "isinstance" = some none)
    (z_len : PySem.W.nsIn K mainGlobals "len" = some none)
    (z_list : PySem.W.nsIn K mainGlobals "list" = some none)
    (z_min : PySem.W.nsIn K mainGlobals "min" = some none)
    (z_range : PySem.W.nsIn K mainGlobals "range" = some none)
    (z_sorted : PySem.W.nsIn K mainGlobals "sorted" = some none)
    (z_tuple : PySem.W.nsIn K mainGlobals "tuple" = some none)
    (a_Disk : PySem.W.nsIn K mainGlobals "Disk" = some (some (.ref C_Disk)))
    (a_Batch : PySem.W.nsIn K mainGlobals "Batch" = some (some (.ref C_Batch)))
    (a_KeepError : PySem.W.nsIn K mainGlobals "KeepError" = some (some (.ref C_KeepError)))
    (a_BadRow : PySem.W.nsIn K mainGlobals "BadRow" = some (some (.ref C_BadRow)))
    (a_NoBlock : PySem.W.nsIn K mainGlobals "NoBlock" = some (some (.ref C_NoBlock)))
    (a_Stopped : PySem.W.nsIn K mainGlobals "Stopped" = some (some (.ref C_Stopped)))
    (a_BadDisk : PySem.W.nsIn K mainGlobals "BadDisk" = some (some (.ref C_BadDisk)))
    (a_TooMuch : PySem.W.nsIn K mainGlobals "TooMuch" = some (some (.ref C_TooMuch)))
    (a_BadLog : PySem.W.nsIn K mainGlobals "BadLog" = some (some (.ref C_BadLog)))
    (a__wall : PySem.W.nsIn K mainGlobals "_wall" = some (some (.ref f__wall)))
    (l__wall : K.lookup f__wall = some ⟨oc__wall, od__wall, .func (PySem.W.fnOf "_wall" "_wall" (defArgs s__wall) (defBody s__wall) (defScope s__wall) .none kV__wall dc__wall pm__wall an__wall cd__wall ct__wall), sl__wall⟩)
    (c__wall : PySem.W.codeIn K cd__wall "_wall" = true)
    (k__wall : PySem.W.keepIn K (.ref f__wall) = true)
    (a_is_word : PySem.W.nsIn K mainGlobals "is_word" = some (some (.ref f_is_word)))
    (l_is_word : K.lookup f_is_word = some ⟨oc_is_word, od_is_word, .func (PySem.W.fnOf "is_word" "is_word" (defArgs s_is_word) (defBody s_is_word) (defScope s_is_word) .none kV_is_word dc_is_word pm_is_word an_is_word cd_is_word ct_is_word), sl_is_word⟩)
    (c_is_word : PySem.W.codeIn K cd_is_word "is_word" = true)
    (k_is_word : PySem.W.keepIn K (.ref f_is_word) = true)
    (a_is_row : PySem.W.nsIn K mainGlobals "is_row" = some (some (.ref f_is_row)))
    (l_is_row : K.lookup f_is_row = some ⟨oc_is_row, od_is_row, .func (PySem.W.fnOf "is_row" "is_row" (defArgs s_is_row) (defBody s_is_row) (defScope s_is_row) .none kV_is_row dc_is_row pm_is_row an_is_row cd_is_row ct_is_row), sl_is_row⟩)
    (c_is_row : PySem.W.codeIn K cd_is_row "is_row" = true)
    (k_is_row : PySem.W.keepIn K (.ref f_is_row) = true)
    (a_need_row : PySem.W.nsIn K mainGlobals "need_row" = some (some (.ref f_need_row)))
    (l_need_row : K.lookup f_need_row = some ⟨oc_need_row, od_need_row, .func (PySem.W.fnOf "need_row" "need_row" (defArgs s_need_row) (defBody s_need_row) (defScope s_need_row) .none kV_need_row dc_need_row pm_need_row an_need_row cd_need_row ct_need_row), sl_need_row⟩)
    (c_need_row : PySem.W.codeIn K cd_need_row "need_row" = true)
    (k_need_row : PySem.W.keepIn K (.ref f_need_row) = true)
    (a_empty_row : PySem.W.nsIn K mainGlobals "empty_row" = some (some (.ref f_empty_row)))
    (l_empty_row : K.lookup f_empty_row = some ⟨oc_empty_row, od_empty_row, .func (PySem.W.fnOf "empty_row" "empty_row" (defArgs s_empty_row) (defBody s_empty_row) (defScope s_empty_row) .none kV_empty_row dc_empty_row pm_empty_row an_empty_row cd_empty_row ct_empty_row), sl_empty_row⟩)
    (c_empty_row : PySem.W.codeIn K cd_empty_row "empty_row" = true)
    (k_empty_row : PySem.W.keepIn K (.ref f_empty_row) = true)
    (a_changed : PySem.W.nsIn K mainGlobals "changed" = some (some (.ref f_changed)))
    (l_changed : K.lookup f_changed = some ⟨oc_changed, od_changed, .func (PySem.W.fnOf "changed" "changed" (defArgs s_changed) (defBody s_changed) (defScope s_changed) .none kV_changed dc_changed pm_changed an_changed cd_changed ct_changed), sl_changed⟩)
    (c_changed : PySem.W.codeIn K cd_changed "changed" = true)
    (k_changed : PySem.W.keepIn K (.ref f_changed) = true)
    (a_is_many : PySem.W.nsIn K mainGlobals "is_many" = some (some (.ref f_is_many)))
    (l_is_many : K.lookup f_is_many = some ⟨oc_is_many, od_is_many, .func (PySem.W.fnOf "is_many" "is_many" (defArgs s_is_many) (defBody s_is_many) (defScope s_is_many) .none kV_is_many dc_is_many pm_is_many an_is_many cd_is_many ct_is_many), sl_is_many⟩)
    (c_is_many : PySem.W.codeIn K cd_is_many "is_many" = true)
    (k_is_many : PySem.W.keepIn K (.ref f_is_many) = true)
    (a_Disk_init : PySem.W.findIn K (.ref C_Disk) "__init__" = some (some (.ref f_Disk_init)))
    (i_Disk_init : PySem.W.isFn K (.ref f_Disk_init) = true)
    (l_Disk_init : K.lookup f_Disk_init = some ⟨oc_Disk_init, od_Disk_init, .func (PySem.W.fnOf "__init__" "Disk.__init__" (defArgs s_Disk_init) (defBody s_Disk_init) (defScope s_Disk_init) .none kV_Disk_init dc_Disk_init pm_Disk_init an_Disk_init cd_Disk_init ct_Disk_init), sl_Disk_init⟩)
    (c_Disk_init : PySem.W.codeIn K cd_Disk_init "Disk.__init__" = true)
    (k_Disk_init : PySem.W.keepIn K (.ref f_Disk_init) = true)
    (a_Disk_blocks : PySem.W.findIn K (.ref C_Disk) "blocks" = some (some (.ref f_Disk_blocks)))
    (i_Disk_blocks : PySem.W.isFn K (.ref f_Disk_blocks) = true)
    (l_Disk_blocks : K.lookup f_Disk_blocks = some ⟨oc_Disk_blocks, od_Disk_blocks, .func (PySem.W.fnOf "blocks" "Disk.blocks" (defArgs s_Disk_blocks) (defBody s_Disk_blocks) (defScope s_Disk_blocks) .none kV_Disk_blocks dc_Disk_blocks pm_Disk_blocks an_Disk_blocks cd_Disk_blocks ct_Disk_blocks), sl_Disk_blocks⟩)
    (c_Disk_blocks : PySem.W.codeIn K cd_Disk_blocks "Disk.blocks" = true)
    (k_Disk_blocks : PySem.W.keepIn K (.ref f_Disk_blocks) = true)
    (a_Disk_need : PySem.W.findIn K (.ref C_Disk) "need" = some (some (.ref f_Disk_need)))
    (i_Disk_need : PySem.W.isFn K (.ref f_Disk_need) = true)
    (l_Disk_need : K.lookup f_Disk_need = some ⟨oc_Disk_need, od_Disk_need, .func (PySem.W.fnOf "need" "Disk.need" (defArgs s_Disk_need) (defBody s_Disk_need) (defScope s_Disk_need) .none kV_Disk_need dc_Disk_need pm_Disk_need an_Disk_need cd_Disk_need ct_Disk_need), sl_Disk_need⟩)
    (c_Disk_need : PySem.W.codeIn K cd_Disk_need "Disk.need" = true)
    (k_Disk_need : PySem.W.keepIn K (.ref f_Disk_need) = true)
    (a_Disk_read : PySem.W.findIn K (.ref C_Disk) "read" = some (some (.ref f_Disk_read)))
    (i_Disk_read : PySem.W.isFn K (.ref f_Disk_read) = true)
    (l_Disk_read : K.lookup f_Disk_read = some ⟨oc_Disk_read, od_Disk_read, .func (PySem.W.fnOf "read" "Disk.read" (defArgs s_Disk_read) (defBody s_Disk_read) (defScope s_Disk_read) .none kV_Disk_read dc_Disk_read pm_Disk_read an_Disk_read cd_Disk_read ct_Disk_read), sl_Disk_read⟩)
    (c_Disk_read : PySem.W.codeIn K cd_Disk_read "Disk.read" = true)
    (k_Disk_read : PySem.W.keepIn K (.ref f_Disk_read) = true)
    (a_Disk_write : PySem.W.findIn K (.ref C_Disk) "write" = some (some (.ref f_Disk_write)))
    (i_Disk_write : PySem.W.isFn K (.ref f_Disk_write) = true)
    (l_Disk_write : K.lookup f_Disk_write = some ⟨oc_Disk_write, od_Disk_write, .func (PySem.W.fnOf "write" "Disk.write" (defArgs s_Disk_write) (defBody s_Disk_write) (defScope s_Disk_write) .none kV_Disk_write dc_Disk_write pm_Disk_write an_Disk_write cd_Disk_write ct_Disk_write), sl_Disk_write⟩)
    (c_Disk_write : PySem.W.codeIn K cd_Disk_write "Disk.write" = true)
    (k_Disk_write : PySem.W.keepIn K (.ref f_Disk_write) = true)
    (a_Disk_writes : PySem.W.findIn K (.ref C_Disk) "writes" = some (some (.ref f_Disk_writes)))
    (i_Disk_writes : PySem.W.isFn K (.ref f_Disk_writes) = true)
    (l_Disk_writes : K.lookup f_Disk_writes = some ⟨oc_Disk_writes, od_Disk_writes, .func (PySem.W.fnOf "writes" "Disk.writes" (defArgs s_Disk_writes) (defBody s_Disk_writes) (defScope s_Disk_writes) .none kV_Disk_writes dc_Disk_writes pm_Disk_writes an_Disk_writes cd_Disk_writes ct_Disk_writes), sl_Disk_writes⟩)
    (c_Disk_writes : PySem.W.codeIn K cd_Disk_writes "Disk.writes" = true)
    (k_Disk_writes : PySem.W.keepIn K (.ref f_Disk_writes) = true)
    (a_Disk_stop_after : PySem.W.findIn K (.ref C_Disk) "stop_after" = some (some (.ref f_Disk_stop_after)))
    (i_Disk_stop_after : PySem.W.isFn K (.ref f_Disk_stop_after) = true)
    (l_Disk_stop_after : K.lookup f_Disk_stop_after = some ⟨oc_Disk_stop_after, od_Disk_stop_after, .func (PySem.W.fnOf "stop_after" "Disk.stop_after" (defArgs s_Disk_stop_after) (defBody s_Disk_stop_after) (defScope s_Disk_stop_after) .none kV_Disk_stop_after dc_Disk_stop_after pm_Disk_stop_after an_Disk_stop_after cd_Disk_stop_after ct_Disk_stop_after), sl_Disk_stop_after⟩)
    (c_Disk_stop_after : PySem.W.codeIn K cd_Disk_stop_after "Disk.stop_after" = true)
    (k_Disk_stop_after : PySem.W.keepIn K (.ref f_Disk_stop_after) = true)
    (a_Disk_go_on : PySem.W.findIn K (.ref C_Disk) "go_on" = some (some (.ref f_Disk_go_on)))
    (i_Disk_go_on : PySem.W.isFn K (.ref f_Disk_go_on) = true)
    (l_Disk_go_on : K.lookup f_Disk_go_on = some ⟨oc_Disk_go_on, od_Disk_go_on, .func (PySem.W.fnOf "go_on" "Disk.go_on" (defArgs s_Disk_go_on) (defBody s_Disk_go_on) (defScope s_Disk_go_on) .none kV_Disk_go_on dc_Disk_go_on pm_Disk_go_on an_Disk_go_on cd_Disk_go_on ct_Disk_go_on), sl_Disk_go_on⟩)
    (c_Disk_go_on : PySem.W.codeIn K cd_Disk_go_on "Disk.go_on" = true)
    (k_Disk_go_on : PySem.W.keepIn K (.ref f_Disk_go_on) = true)
    (a_Disk_twin : PySem.W.findIn K (.ref C_Disk) "twin" = some (some (.ref f_Disk_twin)))
    (i_Disk_twin : PySem.W.isFn K (.ref f_Disk_twin) = true)
    (l_Disk_twin : K.lookup f_Disk_twin = some ⟨oc_Disk_twin, od_Disk_twin, .func (PySem.W.fnOf "twin" "Disk.twin" (defArgs s_Disk_twin) (defBody s_Disk_twin) (defScope s_Disk_twin) .none kV_Disk_twin dc_Disk_twin pm_Disk_twin an_Disk_twin cd_Disk_twin ct_Disk_twin), sl_Disk_twin⟩)
    (c_Disk_twin : PySem.W.codeIn K cd_Disk_twin "Disk.twin" = true)
    (k_Disk_twin : PySem.W.keepIn K (.ref f_Disk_twin) = true)
    (a_is_home : PySem.W.nsIn K mainGlobals "is_home" = some (some (.ref f_is_home)))
    (l_is_home : K.lookup f_is_home = some ⟨oc_is_home, od_is_home, .func (PySem.W.fnOf "is_home" "is_home" (defArgs s_is_home) (defBody s_is_home) (defScope s_is_home) .none kV_is_home dc_is_home pm_is_home an_is_home cd_is_home ct_is_home), sl_is_home⟩)
    (c_is_home : PySem.W.codeIn K cd_is_home "is_home" = true)
    (k_is_home : PySem.W.keepIn K (.ref f_is_home) = true)
    (a_need_pairs : PySem.W.nsIn K mainGlobals "need_pairs" = some (some (.ref f_need_pairs)))
    (l_need_pairs : K.lookup f_need_pairs = some ⟨oc_need_pairs, od_need_pairs, .func (PySem.W.fnOf "need_pairs" "need_pairs" (defArgs s_need_pairs) (defBody s_need_pairs) (defScope s_need_pairs) .none kV_need_pairs dc_need_pairs pm_need_pairs an_need_pairs cd_need_pairs ct_need_pairs), sl_need_pairs⟩)
    (c_need_pairs : PySem.W.codeIn K cd_need_pairs "need_pairs" = true)
    (k_need_pairs : PySem.W.keepIn K (.ref f_need_pairs) = true)
    (a_carry_home : PySem.W.nsIn K mainGlobals "carry_home" = some (some (.ref f_carry_home)))
    (l_carry_home : K.lookup f_carry_home = some ⟨oc_carry_home, od_carry_home, .func (PySem.W.fnOf "carry_home" "carry_home" (defArgs s_carry_home) (defBody s_carry_home) (defScope s_carry_home) .none kV_carry_home dc_carry_home pm_carry_home an_carry_home cd_carry_home ct_carry_home), sl_carry_home⟩)
    (c_carry_home : PySem.W.codeIn K cd_carry_home "carry_home" = true)
    (k_carry_home : PySem.W.keepIn K (.ref f_carry_home) = true)
    (a_commit : PySem.W.nsIn K mainGlobals "commit" = some (some (.ref f_commit)))
    (l_commit : K.lookup f_commit = some ⟨oc_commit, od_commit, .func (PySem.W.fnOf "commit" "commit" (defArgs s_commit) (defBody s_commit) (defScope s_commit) .none kV_commit dc_commit pm_commit an_commit cd_commit ct_commit), sl_commit⟩)
    (c_commit : PySem.W.codeIn K cd_commit "commit" = true)
    (k_commit : PySem.W.keepIn K (.ref f_commit) = true)
    (a_Batch_init : PySem.W.findIn K (.ref C_Batch) "__init__" = some (some (.ref f_Batch_init)))
    (i_Batch_init : PySem.W.isFn K (.ref f_Batch_init) = true)
    (l_Batch_init : K.lookup f_Batch_init = some ⟨oc_Batch_init, od_Batch_init, .func (PySem.W.fnOf "__init__" "Batch.__init__" (defArgs s_Batch_init) (defBody s_Batch_init) (defScope s_Batch_init) .none kV_Batch_init dc_Batch_init pm_Batch_init an_Batch_init cd_Batch_init ct_Batch_init), sl_Batch_init⟩)
    (c_Batch_init : PySem.W.codeIn K cd_Batch_init "Batch.__init__" = true)
    (k_Batch_init : PySem.W.keepIn K (.ref f_Batch_init) = true)
    (a_Batch_read : PySem.W.findIn K (.ref C_Batch) "read" = some (some (.ref f_Batch_read)))
    (i_Batch_read : PySem.W.isFn K (.ref f_Batch_read) = true)
    (l_Batch_read : K.lookup f_Batch_read = some ⟨oc_Batch_read, od_Batch_read, .func (PySem.W.fnOf "read" "Batch.read" (defArgs s_Batch_read) (defBody s_Batch_read) (defScope s_Batch_read) .none kV_Batch_read dc_Batch_read pm_Batch_read an_Batch_read cd_Batch_read ct_Batch_read), sl_Batch_read⟩)
    (c_Batch_read : PySem.W.codeIn K cd_Batch_read "Batch.read" = true)
    (k_Batch_read : PySem.W.keepIn K (.ref f_Batch_read) = true)
    (a_Batch_write : PySem.W.findIn K (.ref C_Batch) "write" = some (some (.ref f_Batch_write)))
    (i_Batch_write : PySem.W.isFn K (.ref f_Batch_write) = true)
    (l_Batch_write : K.lookup f_Batch_write = some ⟨oc_Batch_write, od_Batch_write, .func (PySem.W.fnOf "write" "Batch.write" (defArgs s_Batch_write) (defBody s_Batch_write) (defScope s_Batch_write) .none kV_Batch_write dc_Batch_write pm_Batch_write an_Batch_write cd_Batch_write ct_Batch_write), sl_Batch_write⟩)
    (c_Batch_write : PySem.W.codeIn K cd_Batch_write "Batch.write" = true)
    (k_Batch_write : PySem.W.keepIn K (.ref f_Batch_write) = true)
    (a_Batch_pairs : PySem.W.findIn K (.ref C_Batch) "pairs" = some (some (.ref f_Batch_pairs)))
    (i_Batch_pairs : PySem.W.isFn K (.ref f_Batch_pairs) = true)
    (l_Batch_pairs : K.lookup f_Batch_pairs = some ⟨oc_Batch_pairs, od_Batch_pairs, .func (PySem.W.fnOf "pairs" "Batch.pairs" (defArgs s_Batch_pairs) (defBody s_Batch_pairs) (defScope s_Batch_pairs) .none kV_Batch_pairs dc_Batch_pairs pm_Batch_pairs an_Batch_pairs cd_Batch_pairs ct_Batch_pairs), sl_Batch_pairs⟩)
    (c_Batch_pairs : PySem.W.codeIn K cd_Batch_pairs "Batch.pairs" = true)
    (k_Batch_pairs : PySem.W.keepIn K (.ref f_Batch_pairs) = true)
    (a_Batch_finish : PySem.W.findIn K (.ref C_Batch) "finish" = some (some (.ref f_Batch_finish)))
    (i_Batch_finish : PySem.W.isFn K (.ref f_Batch_finish) = true)
    (l_Batch_finish : K.lookup f_Batch_finish = some ⟨oc_Batch_finish, od_Batch_finish, .func (PySem.W.fnOf "finish" "Batch.finish" (defArgs s_Batch_finish) (defBody s_Batch_finish) (defScope s_Batch_finish) .none kV_Batch_finish dc_Batch_finish pm_Batch_finish an_Batch_finish cd_Batch_finish ct_Batch_finish), sl_Batch_finish⟩)
    (c_Batch_finish : PySem.W.codeIn K cd_Batch_finish "Batch.finish" = true)
    (k_Batch_finish : PySem.W.keepIn K (.ref f_Batch_finish) = true)
    (a_L_cell_at : PySem.W.nsIn K mainGlobals "_law_cell_at" = some (some (.ref f_L_cell_at)))
    (l_L_cell_at : K.lookup f_L_cell_at = some ⟨oc_L_cell_at, od_L_cell_at, .func (PySem.W.fnOf "_law_cell_at" "_law_cell_at" (defArgs s_L_cell_at) (defBody s_L_cell_at) (defScope s_L_cell_at) .none kV_L_cell_at dc_L_cell_at pm_L_cell_at an_L_cell_at cd_L_cell_at ct_L_cell_at), sl_L_cell_at⟩)
    (c_L_cell_at : PySem.W.codeIn K cd_L_cell_at "_law_cell_at" = true)
    (k_L_cell_at : PySem.W.keepIn K (.ref f_L_cell_at) = true)
    (a_L_row : PySem.W.nsIn K mainGlobals "_law_row" = some (some (.ref f_L_row)))
    (l_L_row : K.lookup f_L_row = some ⟨oc_L_row, od_L_row, .func (PySem.W.fnOf "_law_row" "_law_row" (defArgs s_L_row) (defBody s_L_row) (defScope s_L_row) .none kV_L_row dc_L_row pm_L_row an_L_row cd_L_row ct_L_row), sl_L_row⟩)
    (c_L_row : PySem.W.codeIn K cd_L_row "_law_row" = true)
    (k_L_row : PySem.W.keepIn K (.ref f_L_row) = true)
    (a_L_odd_row : PySem.W.nsIn K mainGlobals "_law_odd_row" = some (some (.ref f_L_odd_row)))
    (l_L_odd_row : K.lookup f_L_odd_row = some ⟨oc_L_odd_row, od_L_odd_row, .func (PySem.W.fnOf "_law_odd_row" "_law_odd_row" (defArgs s_L_odd_row) (defBody s_L_odd_row) (defScope s_L_odd_row) .none kV_L_odd_row dc_L_odd_row pm_L_odd_row an_L_odd_row cd_L_odd_row ct_L_odd_row), sl_L_odd_row⟩)
    (c_L_odd_row : PySem.W.codeIn K cd_L_odd_row "_law_odd_row" = true)
    (k_L_odd_row : PySem.W.keepIn K (.ref f_L_odd_row) = true)
    (a_L_odd_block : PySem.W.nsIn K mainGlobals "_law_odd_block" = some (some (.ref f_L_odd_block)))
    (l_L_odd_block : K.lookup f_L_odd_block = some ⟨oc_L_odd_block, od_L_odd_block, .func (PySem.W.fnOf "_law_odd_block" "_law_odd_block" (defArgs s_L_odd_block) (defBody s_L_odd_block) (defScope s_L_odd_block) .none kV_L_odd_block dc_L_odd_block pm_L_odd_block an_L_odd_block cd_L_odd_block ct_L_odd_block), sl_L_odd_block⟩)
    (c_L_odd_block : PySem.W.codeIn K cd_L_odd_block "_law_odd_block" = true)
    (k_L_odd_block : PySem.W.keepIn K (.ref f_L_odd_block) = true)
    (a_L_kinds : PySem.W.nsIn K mainGlobals "_law_kinds" = some (some (.ref f_L_kinds)))
    (l_L_kinds : K.lookup f_L_kinds = some ⟨oc_L_kinds, od_L_kinds, .func (PySem.W.fnOf "_law_kinds" "_law_kinds" (defArgs s_L_kinds) (defBody s_L_kinds) (defScope s_L_kinds) .none kV_L_kinds dc_L_kinds pm_L_kinds an_L_kinds cd_L_kinds ct_L_kinds), sl_L_kinds⟩)
    (c_L_kinds : PySem.W.codeIn K cd_L_kinds "_law_kinds" = true)
    (k_L_kinds : PySem.W.keepIn K (.ref f_L_kinds) = true)
    (a_L_written : PySem.W.nsIn K mainGlobals "_law_written" = some (some (.ref f_L_written)))
    (l_L_written : K.lookup f_L_written = some ⟨oc_L_written, od_L_written, .func (PySem.W.fnOf "_law_written" "_law_written" (defArgs s_L_written) (defBody s_L_written) (defScope s_L_written) .none kV_L_written dc_L_written pm_L_written an_L_written cd_L_written ct_L_written), sl_L_written⟩)
    (c_L_written : PySem.W.codeIn K cd_L_written "_law_written" = true)
    (k_L_written : PySem.W.keepIn K (.ref f_L_written) = true)
    (a_L_like : PySem.W.nsIn K mainGlobals "_law_like" = some (some (.ref f_L_like)))
    (l_L_like : K.lookup f_L_like = some ⟨oc_L_like, od_L_like, .func (PySem.W.fnOf "_law_like" "_law_like" (defArgs s_L_like) (defBody s_L_like) (defScope s_L_like) .none kV_L_like dc_L_like pm_L_like an_L_like cd_L_like ct_L_like), sl_L_like⟩)
    (c_L_like : PySem.W.codeIn K cd_L_like "_law_like" = true)
    (k_L_like : PySem.W.keepIn K (.ref f_L_like) = true)
    (a_L_deed : PySem.W.nsIn K mainGlobals "_law_deed" = some (some (.ref f_L_deed)))
    (l_L_deed : K.lookup f_L_deed = some ⟨oc_L_deed, od_L_deed, .func (PySem.W.fnOf "_law_deed" "_law_deed" (defArgs s_L_deed) (defBody s_L_deed) (defScope s_L_deed) .none kV_L_deed dc_L_deed pm_L_deed an_L_deed cd_L_deed ct_L_deed), sl_L_deed⟩)
    (c_L_deed : PySem.W.codeIn K cd_L_deed "_law_deed" = true)
    (k_L_deed : PySem.W.keepIn K (.ref f_L_deed) = true)
    (a_L_rows : PySem.W.nsIn K mainGlobals "_law_rows" = some (some (.ref f_L_rows)))
    (l_L_rows : K.lookup f_L_rows = some ⟨oc_L_rows, od_L_rows, .func (PySem.W.fnOf "_law_rows" "_law_rows" (defArgs s_L_rows) (defBody s_L_rows) (defScope s_L_rows) .none kV_L_rows dc_L_rows pm_L_rows an_L_rows cd_L_rows ct_L_rows), sl_L_rows⟩)
    (c_L_rows : PySem.W.codeIn K cd_L_rows "_law_rows" = true)
    (k_L_rows : PySem.W.keepIn K (.ref f_L_rows) = true)
    (a_L_reads : PySem.W.nsIn K mainGlobals "_law_reads" = some (some (.ref f_L_reads)))
    (l_L_reads : K.lookup f_L_reads = some ⟨oc_L_reads, od_L_reads, .func (PySem.W.fnOf "_law_reads" "_law_reads" (defArgs s_L_reads) (defBody s_L_reads) (defScope s_L_reads) .none kV_L_reads dc_L_reads pm_L_reads an_L_reads cd_L_reads ct_L_reads), sl_L_reads⟩)
    (c_L_reads : PySem.W.codeIn K cd_L_reads "_law_reads" = true)
    (k_L_reads : PySem.W.keepIn K (.ref f_L_reads) = true)
    (a_L_beside : PySem.W.nsIn K mainGlobals "_law_beside" = some (some (.ref f_L_beside)))
    (l_L_beside : K.lookup f_L_beside = some ⟨oc_L_beside, od_L_beside, .func (PySem.W.fnOf "_law_beside" "_law_beside" (defArgs s_L_beside) (defBody s_L_beside) (defScope s_L_beside) .none kV_L_beside dc_L_beside pm_L_beside an_L_beside cd_L_beside ct_L_beside), sl_L_beside⟩)
    (c_L_beside : PySem.W.codeIn K cd_L_beside "_law_beside" = true)
    (k_L_beside : PySem.W.keepIn K (.ref f_L_beside) = true)
    (a_L_finished : PySem.W.nsIn K mainGlobals "_law_finished" = some (some (.ref f_L_finished)))
    (l_L_finished : K.lookup f_L_finished = some ⟨oc_L_finished, od_L_finished, .func (PySem.W.fnOf "_law_finished" "_law_finished" (defArgs s_L_finished) (defBody s_L_finished) (defScope s_L_finished) .none kV_L_finished dc_L_finished pm_L_finished an_L_finished cd_L_finished ct_L_finished), sl_L_finished⟩)
    (c_L_finished : PySem.W.codeIn K cd_L_finished "_law_finished" = true)
    (k_L_finished : PySem.W.keepIn K (.ref f_L_finished) = true)
    (a_law : PySem.W.nsIn K mainGlobals "law" = some (some (.ref f_law)))
    (l_law : K.lookup f_law = some ⟨oc_law, od_law, .func (PySem.W.fnOf "law" "law" (defArgs s_law) (defBody s_law) (defScope s_law) .none kV_law dc_law pm_law an_law cd_law ct_law), sl_law⟩)
    (c_law : PySem.W.codeIn K cd_law "law" = true)
    (k_law : PySem.W.keepIn K (.ref f_law) = true)
    (pg_Disk : PySem.W.plainGet K C_Disk Str.empty = true)
    (hd_Disk : PySem.W.hasDictIn K C_Disk = true)
    (po_Disk : PySem.W.plainOver K C_Disk = true)
    (sa_Disk : PySem.W.findIn K (.ref C_Disk) "__setattr__" = some (some (.builtin "object.__setattr__")))
    (mk_Disk : PySem.W.makesIn K C_Disk = true)
    (kc_Disk : PySem.W.keepIn K (.ref C_Disk) = true)
    (na_Disk_done : PySem.W.findIn K (.ref C_Disk) "done" = some none)
    (na_Disk_left : PySem.W.findIn K (.ref C_Disk) "left" = some none)
    (na_Disk_rows : PySem.W.findIn K (.ref C_Disk) "rows" = some none)
    (pg_Batch : PySem.W.plainGet K C_Batch Str.empty = true)
    (hd_Batch : PySem.W.hasDictIn K C_Batch = true)
    (po_Batch : PySem.W.plainOver K C_Batch = true)
    (sa_Batch : PySem.W.findIn K (.ref C_Batch) "__setattr__" = some (some (.builtin "object.__setattr__")))
    (mk_Batch : PySem.W.makesIn K C_Batch = true)
    (kc_Batch : PySem.W.keepIn K (.ref C_Batch) = true)
    (na_Batch_disk : PySem.W.findIn K (.ref C_Batch) "disk" = some none)
    (na_Batch_rows : PySem.W.findIn K (.ref C_Batch) "rows" = some none)
    (xq_KeepError : PySem.W.excIn K C_KeepError [.type "ValueError", .type "Exception", .type "BaseException", .type "object"] "ValueError.__new__" = true)
    (xk_KeepError : PySem.W.keepIn K (.ref C_KeepError) = true)
    (xs_KeepError : PySem.W.subIn K (.ref C_KeepError) (.type "BaseException") = some true)
    (xt_KeepError : PySem.W.typeIn K (.ref C_KeepError) = some (.type "type"))
    (xq_BadRow : PySem.W.excIn K C_BadRow [.type "ValueError", .type "Exception", .type "BaseException", .type "object"] "ValueError.__new__" = true)
    (xk_BadRow : PySem.W.keepIn K (.ref C_BadRow) = true)
    (xs_BadRow : PySem.W.subIn K (.ref C_BadRow) (.type "BaseException") = some true)
    (xt_BadRow : PySem.W.typeIn K (.ref C_BadRow) = some (.type "type"))
    (xq_NoBlock : PySem.W.excIn K C_NoBlock [.type "ValueError", .type "Exception", .type "BaseException", .type "object"] "ValueError.__new__" = true)
    (xk_NoBlock : PySem.W.keepIn K (.ref C_NoBlock) = true)
    (xs_NoBlock : PySem.W.subIn K (.ref C_NoBlock) (.type "BaseException") = some true)
    (xt_NoBlock : PySem.W.typeIn K (.ref C_NoBlock) = some (.type "type"))
    (xq_Stopped : PySem.W.excIn K C_Stopped [.type "ValueError", .type "Exception", .type "BaseException", .type "object"] "ValueError.__new__" = true)
    (xk_Stopped : PySem.W.keepIn K (.ref C_Stopped) = true)
    (xs_Stopped : PySem.W.subIn K (.ref C_Stopped) (.type "BaseException") = some true)
    (xt_Stopped : PySem.W.typeIn K (.ref C_Stopped) = some (.type "type"))
    (xq_BadDisk : PySem.W.excIn K C_BadDisk [.type "ValueError", .type "Exception", .type "BaseException", .type "object"] "ValueError.__new__" = true)
    (xk_BadDisk : PySem.W.keepIn K (.ref C_BadDisk) = true)
    (xs_BadDisk : PySem.W.subIn K (.ref C_BadDisk) (.type "BaseException") = some true)
    (xt_BadDisk : PySem.W.typeIn K (.ref C_BadDisk) = some (.type "type"))
    (xq_TooMuch : PySem.W.excIn K C_TooMuch [.type "ValueError", .type "Exception", .type "BaseException", .type "object"] "ValueError.__new__" = true)
    (xk_TooMuch : PySem.W.keepIn K (.ref C_TooMuch) = true)
    (xs_TooMuch : PySem.W.subIn K (.ref C_TooMuch) (.type "BaseException") = some true)
    (xt_TooMuch : PySem.W.typeIn K (.ref C_TooMuch) = some (.type "type"))
    (xq_BadLog : PySem.W.excIn K C_BadLog [.type "ValueError", .type "Exception", .type "BaseException", .type "object"] "ValueError.__new__" = true)
    (xk_BadLog : PySem.W.keepIn K (.ref C_BadLog) = true)
    (xs_BadLog : PySem.W.subIn K (.ref C_BadLog) (.type "BaseException") = some true)
    (xt_BadLog : PySem.W.typeIn K (.ref C_BadLog) = some (.type "type"))
    (xc_hg_BadDisk : PySem.W.findIn K (.ref C_BadDisk) "__getattribute__" = some (some (.builtin "BaseException.__getattribute__")))
    (xc_hk_BadDisk : PySem.W.findIn K (.ref C_BadDisk) "__getattr__" = some none)
    (xc_hd_BadDisk : PySem.W.hasDictIn K C_BadDisk = true)
    (xc_ha_BadDisk : PySem.W.findIn K (.ref C_BadDisk) "__class__" = some (some (.builtin "object.__class__")))
    (xc_hm_BadDisk : PySem.W.mroIn K C_BadDisk (.type "object") = some true)
    (xc_hg_BadRow : PySem.W.findIn K (.ref C_BadRow) "__getattribute__" = some (some (.builtin "BaseException.__getattribute__")))
    (xc_hk_BadRow : PySem.W.findIn K (.ref C_BadRow) "__getattr__" = some none)
    (xc_hd_BadRow : PySem.W.hasDictIn K C_BadRow = true)
    (xc_ha_BadRow : PySem.W.findIn K (.ref C_BadRow) "__class__" = some (some (.builtin "object.__class__")))
    (xc_hm_BadRow : PySem.W.mroIn K C_BadRow (.type "object") = some true)
    (xc_hg_NoBlock : PySem.W.findIn K (.ref C_NoBlock) "__getattribute__" = some (some (.builtin "BaseException.__getattribute__")))
    (xc_hk_NoBlock : PySem.W.findIn K (.ref C_NoBlock) "__getattr__" = some none)
    (xc_hd_NoBlock : PySem.W.hasDictIn K C_NoBlock = true)
    (xc_ha_NoBlock : PySem.W.findIn K (.ref C_NoBlock) "__class__" = some (some (.builtin "object.__class__")))
    (xc_hm_NoBlock : PySem.W.mroIn K C_NoBlock (.type "object") = some true)
    (xc_hg_Stopped : PySem.W.findIn K (.ref C_Stopped) "__getattribute__" = some (some (.builtin "BaseException.__getattribute__")))
    (xc_hk_Stopped : PySem.W.findIn K (.ref C_Stopped) "__getattr__" = some none)
    (xc_hd_Stopped : PySem.W.hasDictIn K C_Stopped = true)
    (xc_ha_Stopped : PySem.W.findIn K (.ref C_Stopped) "__class__" = some (some (.builtin "object.__class__")))
    (xc_hm_Stopped : PySem.W.mroIn K C_Stopped (.type "object") = some true)
    (xc_hg_TooMuch : PySem.W.findIn K (.ref C_TooMuch) "__getattribute__" = some (some (.builtin "BaseException.__getattribute__")))
    (xc_hk_TooMuch : PySem.W.findIn K (.ref C_TooMuch) "__getattr__" = some none)
    (xc_hd_TooMuch : PySem.W.hasDictIn K C_TooMuch = true)
    (xc_ha_TooMuch : PySem.W.findIn K (.ref C_TooMuch) "__class__" = some (some (.builtin "object.__class__")))
    (xc_hm_TooMuch : PySem.W.mroIn K C_TooMuch (.type "object") = some true)
    (ic_BadLog : PySem.W.isClsIn K C_BadLog = true)
    (ic_BadRow : PySem.W.isClsIn K C_BadRow = true)
    (ic_KeepError : PySem.W.isClsIn K C_KeepError = true)
    (ic_NoBlock : PySem.W.isClsIn K C_NoBlock = true)
    (ic_Stopped : PySem.W.isClsIn K C_Stopped = true)
    (ic_TooMuch : PySem.W.isClsIn K C_TooMuch = true)
    (su_BadDisk_BadLog : PySem.W.subIn K (.ref C_BadDisk) (.ref C_BadLog) = some false)
    (su_BadDisk_BadRow : PySem.W.subIn K (.ref C_BadDisk) (.ref C_BadRow) = some false)
    (su_BadDisk_KeepError : PySem.W.subIn K (.ref C_BadDisk) (.ref C_KeepError) = some true)
    (su_BadDisk_NoBlock : PySem.W.subIn K (.ref C_BadDisk) (.ref C_NoBlock) = some false)
    (su_BadDisk_Stopped : PySem.W.subIn K (.ref C_BadDisk) (.ref C_Stopped) = some false)
    (su_BadDisk_TooMuch : PySem.W.subIn K (.ref C_BadDisk) (.ref C_TooMuch) = some false)
    (su_BadLog_BadLog : PySem.W.subIn K (.ref C_BadLog) (.ref C_BadLog) = some true)
    (su_BadRow_BadLog : PySem.W.subIn K (.ref C_BadRow) (.ref C_BadLog) = some false)
    (su_BadRow_BadRow : PySem.W.subIn K (.ref C_BadRow) (.ref C_BadRow) = some true)
    (su_BadRow_KeepError : PySem.W.subIn K (.ref C_BadRow) (.ref C_KeepError) = some true)
    (su_BadRow_NoBlock : PySem.W.subIn K (.ref C_BadRow) (.ref C_NoBlock) = some false)
    (su_BadRow_Stopped : PySem.W.subIn K (.ref C_BadRow) (.ref C_Stopped) = some false)
    (su_BadRow_TooMuch : PySem.W.subIn K (.ref C_BadRow) (.ref C_TooMuch) = some false)
    (su_KeepError_KeepError : PySem.W.subIn K (.ref C_KeepError) (.ref C_KeepError) = some true)
    (su_NoBlock_BadLog : PySem.W.subIn K (.ref C_NoBlock) (.ref C_BadLog) = some false)
    (su_NoBlock_BadRow : PySem.W.subIn K (.ref C_NoBlock) (.ref C_BadRow) = some false)
    (su_NoBlock_KeepError : PySem.W.subIn K (.ref C_NoBlock) (.ref C_KeepError) = some true)
    (su_NoBlock_NoBlock : PySem.W.subIn K (.ref C_NoBlock) (.ref C_NoBlock) = some true)
    (su_NoBlock_Stopped : PySem.W.subIn K (.ref C_NoBlock) (.ref C_Stopped) = some false)
    (su_NoBlock_TooMuch : PySem.W.subIn K (.ref C_NoBlock) (.ref C_TooMuch) = some false)
    (su_Stopped_BadLog : PySem.W.subIn K (.ref C_Stopped) (.ref C_BadLog) = some false)
    (su_Stopped_BadRow : PySem.W.subIn K (.ref C_Stopped) (.ref C_BadRow) = some false)
    (su_Stopped_KeepError : PySem.W.subIn K (.ref C_Stopped) (.ref C_KeepError) = some true)
    (su_Stopped_NoBlock : PySem.W.subIn K (.ref C_Stopped) (.ref C_NoBlock) = some false)
    (su_Stopped_Stopped : PySem.W.subIn K (.ref C_Stopped) (.ref C_Stopped) = some true)
    (su_Stopped_TooMuch : PySem.W.subIn K (.ref C_Stopped) (.ref C_TooMuch) = some false)
    (su_TooMuch_BadLog : PySem.W.subIn K (.ref C_TooMuch) (.ref C_BadLog) = some false)
    (su_TooMuch_BadRow : PySem.W.subIn K (.ref C_TooMuch) (.ref C_BadRow) = some false)
    (su_TooMuch_KeepError : PySem.W.subIn K (.ref C_TooMuch) (.ref C_KeepError) = some true)
    (su_TooMuch_NoBlock : PySem.W.subIn K (.ref C_TooMuch) (.ref C_NoBlock) = some false)
    (su_TooMuch_Stopped : PySem.W.subIn K (.ref C_TooMuch) (.ref C_Stopped) = some false)
    (su_TooMuch_TooMuch : PySem.W.subIn K (.ref C_TooMuch) (.ref C_TooMuch) = some true)
    (sv_BadDisk : PySem.W.subIn K (.ref C_BadDisk) (.type "ValueError") = some true)
    (sv_BadRow : PySem.W.subIn K (.ref C_BadRow) (.type "ValueError") = some true)
    (sv_NoBlock : PySem.W.subIn K (.ref C_NoBlock) (.type "ValueError") = some true)
    (sv_Stopped : PySem.W.subIn K (.ref C_Stopped) (.type "ValueError") = some true)
    (sv_TooMuch : PySem.W.subIn K (.ref C_TooMuch) (.type "ValueError") = some true)
    (xc_hn : PySem.W.specialIn K (.builtin "object.__class__") "__get__" = some (some (.builtin "getset_descriptor.__get__")))
    (xc_ht : PySem.W.takesIn K (.builtin "object.__class__") = some true) :
    ∃ fd : FuncData, (∀ (s : Shared) (v : Value), BindsTo s fd ⟨[v], []⟩ [("_law_script", v)]) ∧ ∀ base : Heap, K.In base → base.Ns mainGlobals mg → FnOk l.prog w K mg base (L2N.CX l.prog w) 10 fa fd ["_law_script"] (spLaw K) := by
  have e : fa = f_law := Value.ref.inj (Option.some.inj (hfa.symm.trans (PySem.W.mg_of X G a_law)))
  rw [e]
  have T : Tx K mg { KeepError := C_KeepError, BadRow := C_BadRow, NoBlock := C_NoBlock, Stopped := C_Stopped, BadDisk := C_BadDisk, NoRoom := 0, TooMuch := C_TooMuch, BadLog := C_BadLog, NoNode := 0, NoNodes := 0, TooLong := 0, OutOfPlace := 0, BadName := 0, BadPath := 0, NotFolder := 0, NotFile := 0, NoName := 0, NameThere := 0, NotEmpty := 0, Within := 0, BadOrder := 0, Disk := C_Disk, Layout := 0, Batch := C_Batch, Keeper := 0 } { f__wall := f__wall, f_is_word := f_is_word, f_is_row := f_is_row, f_need_row := f_need_row, f_empty_row := f_empty_row, f_changed := f_changed, f_is_many := f_is_many, f_Disk_init := f_Disk_init, f_Disk_blocks := f_Disk_blocks, f_Disk_need := f_Disk_need, f_Disk_read := f_Disk_read, f_Disk_write := f_Disk_write, f_Disk_writes := f_Disk_writes, f_Disk_stop_after := f_Disk_stop_after, f_Disk_go_on := f_Disk_go_on, f_Disk_twin := f_Disk_twin, f_is_home := f_is_home, f_need_pairs := f_need_pairs, f_carry_home := f_carry_home, f_commit := f_commit, f_Batch_init := f_Batch_init, f_Batch_read := f_Batch_read, f_Batch_write := f_Batch_write, f_Batch_pairs := f_Batch_pairs, f_Batch_finish := f_Batch_finish, f_L_cell_at := f_L_cell_at, f_L_row := f_L_row, f_L_odd_row := f_L_odd_row, f_L_odd_block := f_L_odd_block, f_L_kinds := f_L_kinds, f_L_written := f_L_written, f_L_like := f_L_like, f_L_deed := f_L_deed, f_L_rows := f_L_rows, f_L_reads := f_L_reads, f_L_beside := f_L_beside, f_L_finished := f_L_finished, f_law := f_law, fd__wall := _, fd_is_word := _, fd_is_row := _, fd_need_row := _, fd_empty_row := _, fd_changed := _, fd_is_many := _, fd_Disk_init := _, fd_Disk_blocks := _, fd_Disk_need := _, fd_Disk_read := _, fd_Disk_write := _, fd_Disk_writes := _, fd_Disk_stop_after := _, fd_Disk_go_on := _, fd_Disk_twin := _, fd_is_home := _, fd_need_pairs := _, fd_carry_home := _, fd_commit := _, fd_Batch_init := _, fd_Batch_read := _, fd_Batch_write := _, fd_Batch_pairs := _, fd_Batch_finish := _, fd_L_cell_at := _, fd_L_row := _, fd_L_odd_row := _, fd_L_odd_block := _, fd_L_kinds := _, fd_L_written := _, fd_L_like := _, fd_L_deed := _, fd_L_rows := _, fd_L_reads := _, fd_L_beside := _, fd_L_finished := _, fd_law := _ } := {
    g_WIDE := ⟨_, PySem.W.mg_of X G a_WIDE, _, rfl⟩,
    g_MOST_WORD := ⟨_, PySem.W.mg_of X G a_MOST_WORD, _, rfl⟩,
    g_LEAST_BLOCKS := ⟨_, PySem.W.mg_of X G a_LEAST_BLOCKS, _, rfl⟩,
    g_MOST_BLOCKS := ⟨_, PySem.W.mg_of X G a_MOST_BLOCKS, _, rfl⟩,
    g_LOG_AT := ⟨_, PySem.W.mg_of X G a_LOG_AT, _, rfl⟩,
    g_MAPS_AT := ⟨_, PySem.W.mg_of X G a_MAPS_AT, _, rfl⟩,
    g_MOST_HOMES := ⟨_, PySem.W.mg_of X G a_MOST_HOMES, _, rfl⟩,
    n_ValueError := PySem.W.mg_none_of X G z_ValueError,
    n_all := PySem.W.mg_none_of X G z_all,
    n_bool := PySem.W.mg_none_of X G z_bool,
    n_enumerate := PySem.W.mg_none_of X G z_enumerate,
    n_int := PySem.W.mg_none_of X G z_int,
    n_isinstance := PySem.W.mg_none_of X G z_isinstance,
    n_len := PySem.W.mg_none_of X G z_len,
    n_list := PySem.W.mg_none_of X G z_list,
    n_min := PySem.W.mg_none_of X G z_min,
    n_range := PySem.W.mg_none_of X G z_range,
    n_sorted := PySem.W.mg_none_of X G z_sorted,
    n_tuple := PySem.W.mg_none_of X G z_tuple,
    g_Disk := PySem.W.mg_of X G a_Disk,
    g_Batch := PySem.W.mg_of X G a_Batch,
    g_KeepError := PySem.W.mg_of X G a_KeepError,
    g_BadRow := PySem.W.mg_of X G a_BadRow,
    g_NoBlock := PySem.W.mg_of X G a_NoBlock,
    g_Stopped := PySem.W.mg_of X G a_Stopped,
    g_BadDisk := PySem.W.mg_of X G a_BadDisk,
    g_TooMuch := PySem.W.mg_of X G a_TooMuch,
    g_BadLog := PySem.W.mg_of X G a_BadLog,
    g__wall := PySem.W.mg_of X G a__wall,
    k__wall := k__wall,
    F__wall := fun_mk l__wall c__wall k__wall,
    b__wall := (fun_mk (st := s__wall) l__wall c__wall k__wall).binds (ps := ["k"]) fun _ _ _ _ _ _ us hl => match us, hl with | [_], _ => rfl,
    g_is_word := PySem.W.mg_of X G a_is_word,
    k_is_word := k_is_word,
    F_is_word := fun_mk l_is_word c_is_word k_is_word,
    b_is_word := (fun_mk (st := s_is_word) l_is_word c_is_word k_is_word).binds (ps := ["thing"]) fun _ _ _ _ _ _ us hl => match us, hl with | [_], _ => rfl,
    g_is_row := PySem.W.mg_of X G a_is_row,
    k_is_row := k_is_row,
    F_is_row := fun_mk l_is_row c_is_row k_is_row,
    b_is_row := (fun_mk (st := s_is_row) l_is_row c_is_row k_is_row).binds (ps := ["thing"]) fun _ _ _ _ _ _ us hl => match us, hl with | [_], _ => rfl,
    g_need_row := PySem.W.mg_of X G a_need_row,
    k_need_row := k_need_row,
    F_need_row := fun_mk l_need_row c_need_row k_need_row,
    b_need_row := (fun_mk (st := s_need_row) l_need_row c_need_row k_need_row).binds (ps := ["thing"]) fun _ _ _ _ _ _ us hl => match us, hl with | [_], _ => rfl,
    g_empty_row := PySem.W.mg_of X G a_empty_row,
    k_empty_row := k_empty_row,
    F_empty_row := fun_mk l_empty_row c_empty_row k_empty_row,
    b_empty_row := (fun_mk (st := s_empty_row) l_empty_row c_empty_row k_empty_row).binds (ps := []) fun _ _ _ _ _ _ us hl => match us, hl with | [], _ => rfl,
    g_changed := PySem.W.mg_of X G a_changed,
    k_changed := k_changed,
    F_changed := fun_mk l_changed c_changed k_changed,
    b_changed := (fun_mk (st := s_changed) l_changed c_changed k_changed).binds (ps := ["row", "at", "words"]) fun _ _ _ _ _ _ us hl => match us, hl with | [_, _, _], _ => rfl,
    g_is_many := PySem.W.mg_of X G a_is_many,
    k_is_many := k_is_many,
    F_is_many := fun_mk l_is_many c_is_many k_is_many,
    b_is_many := (fun_mk (st := s_is_many) l_is_many c_is_many k_is_many).binds (ps := ["thing"]) fun _ _ _ _ _ _ us hl => match us, hl with | [_], _ => rfl,
    F_Disk_init := fun_mk l_Disk_init c_Disk_init k_Disk_init,
    b_Disk_init := (fun_mk (st := s_Disk_init) l_Disk_init c_Disk_init k_Disk_init).binds (ps := ["self", "many"]) fun _ _ _ _ _ _ us hl => match us, hl with | [_, _], _ => rfl,
    mt_Disk_blocks := ⟨a_Disk_blocks, i_Disk_blocks, k_Disk_blocks⟩,
    F_Disk_blocks := fun_mk l_Disk_blocks c_Disk_blocks k_Disk_blocks,
    b_Disk_blocks := (fun_mk (st := s_Disk_blocks) l_Disk_blocks c_Disk_blocks k_Disk_blocks).binds (ps := ["self"]) fun _ _ _ _ _ _ us hl => match us, hl with | [_], _ => rfl,
    mt_Disk_need := ⟨a_Disk_need, i_Disk_need, k_Disk_need⟩,
    F_Disk_need := fun_mk l_Disk_need c_Disk_need k_Disk_need,
    b_Disk_need := (fun_mk (st := s_Disk_need) l_Disk_need c_Disk_need k_Disk_need).binds (ps := ["self", "block"]) fun _ _ _ _ _ _ us hl => match us, hl with | [_, _], _ => rfl,
    mt_Disk_read := ⟨a_Disk_read, i_Disk_read, k_Disk_read⟩,
    F_Disk_read := fun_mk l_Disk_read c_Disk_read k_Disk_read,
    b_Disk_read := (fun_mk (st := s_Disk_read) l_Disk_read c_Disk_read k_Disk_read).binds (ps := ["self", "block"]) fun _ _ _ _ _ _ us hl => match us, hl with | [_, _], _ => rfl,
    mt_Disk_write := ⟨a_Disk_write, i_Disk_write, k_Disk_write⟩,
    F_Disk_write := fun_mk l_Disk_write c_Disk_write k_Disk_write,
    b_Disk_write := (fun_mk (st := s_Disk_write) l_Disk_write c_Disk_write k_Disk_write).binds (ps := ["self", "block", "row"]) fun _ _ _ _ _ _ us hl => match us, hl with | [_, _, _], _ => rfl,
    mt_Disk_writes := ⟨a_Disk_writes, i_Disk_writes, k_Disk_writes⟩,
    F_Disk_writes := fun_mk l_Disk_writes c_Disk_writes k_Disk_writes,
    b_Disk_writes := (fun_mk (st := s_Disk_writes) l_Disk_writes c_Disk_writes k_Disk_writes).binds (ps := ["self"]) fun _ _ _ _ _ _ us hl => match us, hl with | [_], _ => rfl,
    mt_Disk_stop_after := ⟨a_Disk_stop_after, i_Disk_stop_after, k_Disk_stop_after⟩,
    F_Disk_stop_after := fun_mk l_Disk_stop_after c_Disk_stop_after k_Disk_stop_after,
    b_Disk_stop_after := (fun_mk (st := s_Disk_stop_after) l_Disk_stop_after c_Disk_stop_after k_Disk_stop_after).binds (ps := ["self", "count"]) fun _ _ _ _ _ _ us hl => match us, hl with | [_, _], _ => rfl,
    mt_Disk_go_on := ⟨a_Disk_go_on, i_Disk_go_on, k_Disk_go_on⟩,
    F_Disk_go_on := fun_mk l_Disk_go_on c_Disk_go_on k_Disk_go_on,
    b_Disk_go_on := (fun_mk (st := s_Disk_go_on) l_Disk_go_on c_Disk_go_on k_Disk_go_on).binds (ps := ["self"]) fun _ _ _ _ _ _ us hl => match us, hl with | [_], _ => rfl,
    mt_Disk_twin := ⟨a_Disk_twin, i_Disk_twin, k_Disk_twin⟩,
    F_Disk_twin := fun_mk l_Disk_twin c_Disk_twin k_Disk_twin,
    b_Disk_twin := (fun_mk (st := s_Disk_twin) l_Disk_twin c_Disk_twin k_Disk_twin).binds (ps := ["self"]) fun _ _ _ _ _ _ us hl => match us, hl with | [_], _ => rfl,
    g_is_home := PySem.W.mg_of X G a_is_home,
    k_is_home := k_is_home,
    F_is_home := fun_mk l_is_home c_is_home k_is_home,
    b_is_home := (fun_mk (st := s_is_home) l_is_home c_is_home k_is_home).binds (ps := ["disk", "block"]) fun _ _ _ _ _ _ us hl => match us, hl with | [_, _], _ => rfl,
    g_need_pairs := PySem.W.mg_of X G a_need_pairs,
    k_need_pairs := k_need_pairs,
    F_need_pairs := fun_mk l_need_pairs c_need_pairs k_need_pairs,
    b_need_pairs := (fun_mk (st := s_need_pairs) l_need_pairs c_need_pairs k_need_pairs).binds (ps := ["disk", "pairs"]) fun _ _ _ _ _ _ us hl => match us, hl with | [_, _], _ => rfl,
    g_carry_home := PySem.W.mg_of X G a_carry_home,
    k_carry_home := k_carry_home,
    F_carry_home := fun_mk l_carry_home c_carry_home k_carry_home,
    b_carry_home := (fun_mk (st := s_carry_home) l_carry_home c_carry_home k_carry_home).binds (ps := ["disk", "homes"]) fun _ _ _ _ _ _ us hl => match us, hl with | [_, _], _ => rfl,
    g_commit := PySem.W.mg_of X G a_commit,
    k_commit := k_commit,
    F_commit := fun_mk l_commit c_commit k_commit,
    b_commit := (fun_mk (st := s_commit) l_commit c_commit k_commit).binds (ps := ["disk", "pairs"]) fun _ _ _ _ _ _ us hl => match us, hl with | [_, _], _ => rfl,
    F_Batch_init := fun_mk l_Batch_init c_Batch_init k_Batch_init,
    b_Batch_init := (fun_mk (st := s_Batch_init) l_Batch_init c_Batch_init k_Batch_init).binds (ps := ["self", "disk"]) fun _ _ _ _ _ _ us hl => match us, hl with | [_, _], _ => rfl,
    mt_Batch_read := ⟨a_Batch_read, i_Batch_read, k_Batch_read⟩,
    F_Batch_read := fun_mk l_Batch_read c_Batch_read k_Batch_read,
    b_Batch_read := (fun_mk (st := s_Batch_read) l_Batch_read c_Batch_read k_Batch_read).binds (ps := ["self", "block"]) fun _ _ _ _ _ _ us hl => match us, hl with | [_, _], _ => rfl,
    mt_Batch_write := ⟨a_Batch_write, i_Batch_write, k_Batch_write⟩,
    F_Batch_write := fun_mk l_Batch_write c_Batch_write k_Batch_write,
    b_Batch_write := (fun_mk (st := s_Batch_write) l_Batch_write c_Batch_write k_Batch_write).binds (ps := ["self", "block", "row"]) fun _ _ _ _ _ _ us hl => match us, hl with | [_, _, _], _ => rfl,
    mt_Batch_pairs := ⟨a_Batch_pairs, i_Batch_pairs, k_Batch_pairs⟩,
    F_Batch_pairs := fun_mk l_Batch_pairs c_Batch_pairs k_Batch_pairs,
    b_Batch_pairs := (fun_mk (st := s_Batch_pairs) l_Batch_pairs c_Batch_pairs k_Batch_pairs).binds (ps := ["self"]) fun _ _ _ _ _ _ us hl => match us, hl with | [_], _ => rfl,
    mt_Batch_finish := ⟨a_Batch_finish, i_Batch_finish, k_Batch_finish⟩,
    F_Batch_finish := fun_mk l_Batch_finish c_Batch_finish k_Batch_finish,
    b_Batch_finish := (fun_mk (st := s_Batch_finish) l_Batch_finish c_Batch_finish k_Batch_finish).binds (ps := ["self"]) fun _ _ _ _ _ _ us hl => match us, hl with | [_], _ => rfl,
    g_L_cell_at := PySem.W.mg_of X G a_L_cell_at,
    k_L_cell_at := k_L_cell_at,
    F_L_cell_at := fun_mk l_L_cell_at c_L_cell_at k_L_cell_at,
    b_L_cell_at := (fun_mk (st := s_L_cell_at) l_L_cell_at c_L_cell_at k_L_cell_at).binds (ps := ["_law_script", "_law_k"]) fun _ _ _ _ _ _ us hl => match us, hl with | [_, _], _ => rfl,
    g_L_row := PySem.W.mg_of X G a_L_row,
    k_L_row := k_L_row,
    F_L_row := fun_mk l_L_row c_L_row k_L_row,
    b_L_row := (fun_mk (st := s_L_row) l_L_row c_L_row k_L_row).binds (ps := ["_law_cell"]) fun _ _ _ _ _ _ us hl => match us, hl with | [_], _ => rfl,
    g_L_odd_row := PySem.W.mg_of X G a_L_odd_row,
    k_L_odd_row := k_L_odd_row,
    F_L_odd_row := fun_mk l_L_odd_row c_L_odd_row k_L_odd_row,
    b_L_odd_row := (fun_mk (st := s_L_odd_row) l_L_odd_row c_L_odd_row k_L_odd_row).binds (ps := ["_law_cell"]) fun _ _ _ _ _ _ us hl => match us, hl with | [_], _ => rfl,
    g_L_odd_block := PySem.W.mg_of X G a_L_odd_block,
    k_L_odd_block := k_L_odd_block,
    F_L_odd_block := fun_mk l_L_odd_block c_L_odd_block k_L_odd_block,
    b_L_odd_block := (fun_mk (st := s_L_odd_block) l_L_odd_block c_L_odd_block k_L_odd_block).binds (ps := ["_law_cell", "_law_many"]) fun _ _ _ _ _ _ us hl => match us, hl with | [_, _], _ => rfl,
    g_L_kinds := PySem.W.mg_of X G a_L_kinds,
    k_L_kinds := k_L_kinds,
    F_L_kinds := fun_mk l_L_kinds c_L_kinds k_L_kinds,
    b_L_kinds := (fun_mk (st := s_L_kinds) l_L_kinds c_L_kinds k_L_kinds).binds (ps := ["_law_e"]) fun _ _ _ _ _ _ us hl => match us, hl with | [_], _ => rfl,
    g_L_written := PySem.W.mg_of X G a_L_written,
    k_L_written := k_L_written,
    F_L_written := fun_mk l_L_written c_L_written k_L_written,
    b_L_written := (fun_mk (st := s_L_written) l_L_written c_L_written k_L_written).binds (ps := ["_law_batch", "_law_block", "_law_row_here"]) fun _ _ _ _ _ _ us hl => match us, hl with | [_, _, _], _ => rfl,
    g_L_like := PySem.W.mg_of X G a_L_like,
    k_L_like := k_L_like,
    F_L_like := fun_mk l_L_like c_L_like k_L_like,
    b_L_like := (fun_mk (st := s_L_like) l_L_like c_L_like k_L_like).binds (ps := ["_law_batch", "_law_disk", "_law_own", "_law_block"]) fun _ _ _ _ _ _ us hl => match us, hl with | [_, _, _, _], _ => rfl,
    g_L_deed := PySem.W.mg_of X G a_L_deed,
    k_L_deed := k_L_deed,
    F_L_deed := fun_mk l_L_deed c_L_deed k_L_deed,
    b_L_deed := (fun_mk (st := s_L_deed) l_L_deed c_L_deed k_L_deed).binds (ps := ["_law_batch", "_law_disk", "_law_own", "_law_cell", "_law_more"]) fun _ _ _ _ _ _ us hl => match us, hl with | [_, _, _, _, _], _ => rfl,
    g_L_rows := PySem.W.mg_of X G a_L_rows,
    k_L_rows := k_L_rows,
    F_L_rows := fun_mk l_L_rows c_L_rows k_L_rows,
    b_L_rows := (fun_mk (st := s_L_rows) l_L_rows c_L_rows k_L_rows).binds (ps := ["_law_disk"]) fun _ _ _ _ _ _ us hl => match us, hl with | [_], _ => rfl,
    g_L_reads := PySem.W.mg_of X G a_L_reads,
    k_L_reads := k_L_reads,
    F_L_reads := fun_mk l_L_reads c_L_reads k_L_reads,
    b_L_reads := (fun_mk (st := s_L_reads) l_L_reads c_L_reads k_L_reads).binds (ps := ["_law_batch", "_law_disk", "_law_cell"]) fun _ _ _ _ _ _ us hl => match us, hl with | [_, _, _], _ => rfl,
    g_L_beside := PySem.W.mg_of X G a_L_beside,
    k_L_beside := k_L_beside,
    F_L_beside := fun_mk l_L_beside c_L_beside k_L_beside,
    b_L_beside := (fun_mk (st := s_L_beside) l_L_beside c_L_beside k_L_beside).binds (ps := ["_law_batch", "_law_disk", "_law_own", "_law_cell"]) fun _ _ _ _ _ _ us hl => match us, hl with | [_, _, _, _], _ => rfl,
    g_L_finished := PySem.W.mg_of X G a_L_finished,
    k_L_finished := k_L_finished,
    F_L_finished := fun_mk l_L_finished c_L_finished k_L_finished,
    b_L_finished := (fun_mk (st := s_L_finished) l_L_finished c_L_finished k_L_finished).binds (ps := ["_law_batch", "_law_disk", "_law_own", "_law_base"]) fun _ _ _ _ _ _ us hl => match us, hl with | [_, _, _, _], _ => rfl,
    g_law := PySem.W.mg_of X G a_law,
    k_law := k_law,
    F_law := fun_mk l_law c_law k_law,
    b_law := (fun_mk (st := s_law) l_law c_law k_law).binds (ps := ["_law_script"]) fun _ _ _ _ _ _ us hl => match us, hl with | [_], _ => rfl,
    c_Disk := ⟨pg_Disk, hd_Disk, po_Disk, sa_Disk⟩,
    m_Disk := ⟨mk_Disk, a_Disk_init, i_Disk_init, kc_Disk⟩,
    na_Disk_done := na_Disk_done,
    na_Disk_left := na_Disk_left,
    na_Disk_rows := na_Disk_rows,
    c_Batch := ⟨pg_Batch, hd_Batch, po_Batch, sa_Batch⟩,
    m_Batch := ⟨mk_Batch, a_Batch_init, i_Batch_init, kc_Batch⟩,
    na_Batch_disk := na_Batch_disk,
    na_Batch_rows := na_Batch_rows,
    x_KeepError := ⟨xq_KeepError, xk_KeepError, xs_KeepError, xt_KeepError⟩,
    x_BadRow := ⟨xq_BadRow, xk_BadRow, xs_BadRow, xt_BadRow⟩,
    x_NoBlock := ⟨xq_NoBlock, xk_NoBlock, xs_NoBlock, xt_NoBlock⟩,
    x_Stopped := ⟨xq_Stopped, xk_Stopped, xs_Stopped, xt_Stopped⟩,
    x_BadDisk := ⟨xq_BadDisk, xk_BadDisk, xs_BadDisk, xt_BadDisk⟩,
    x_TooMuch := ⟨xq_TooMuch, xk_TooMuch, xs_TooMuch, xt_TooMuch⟩,
    x_BadLog := ⟨xq_BadLog, xk_BadLog, xs_BadLog, xt_BadLog⟩ }
  haveI Fx : Fc K { KeepError := C_KeepError, BadRow := C_BadRow, NoBlock := C_NoBlock, Stopped := C_Stopped, BadDisk := C_BadDisk, NoRoom := 0, TooMuch := C_TooMuch, BadLog := C_BadLog, NoNode := 0, NoNodes := 0, TooLong := 0, OutOfPlace := 0, BadName := 0, BadPath := 0, NotFolder := 0, NotFile := 0, NoName := 0, NameThere := 0, NotEmpty := 0, Within := 0, BadOrder := 0, Disk := C_Disk, Layout := 0, Batch := C_Batch, Keeper := 0 } := {
    c_Disk := ⟨pg_Disk, hd_Disk, po_Disk, sa_Disk⟩,
    na_Disk_done := na_Disk_done,
    na_Disk_left := na_Disk_left,
    na_Disk_rows := na_Disk_rows,
    c_Batch := ⟨pg_Batch, hd_Batch, po_Batch, sa_Batch⟩,
    na_Batch_disk := na_Batch_disk,
    na_Batch_rows := na_Batch_rows,
    xc_BadDisk := ⟨xc_hg_BadDisk, xc_hk_BadDisk, xs_BadDisk, xc_hd_BadDisk, xc_ha_BadDisk, xc_hn, xc_ht, xc_hm_BadDisk⟩,
    xc_BadRow := ⟨xc_hg_BadRow, xc_hk_BadRow, xs_BadRow, xc_hd_BadRow, xc_ha_BadRow, xc_hn, xc_ht, xc_hm_BadRow⟩,
    xc_NoBlock := ⟨xc_hg_NoBlock, xc_hk_NoBlock, xs_NoBlock, xc_hd_NoBlock, xc_ha_NoBlock, xc_hn, xc_ht, xc_hm_NoBlock⟩,
    xc_Stopped := ⟨xc_hg_Stopped, xc_hk_Stopped, xs_Stopped, xc_hd_Stopped, xc_ha_Stopped, xc_hn, xc_ht, xc_hm_Stopped⟩,
    xc_TooMuch := ⟨xc_hg_TooMuch, xc_hk_TooMuch, xs_TooMuch, xc_hd_TooMuch, xc_ha_TooMuch, xc_hn, xc_ht, xc_hm_TooMuch⟩,
    ki_BadDisk_BadLog := kit_of_own ic_BadLog xt_BadLog su_BadDisk_BadLog su_BadLog_BadLog,
    ki_BadDisk_BadRow := kit_of_own ic_BadRow xt_BadRow su_BadDisk_BadRow su_BadRow_BadRow,
    ki_BadDisk_NoBlock := kit_of_own ic_NoBlock xt_NoBlock su_BadDisk_NoBlock su_NoBlock_NoBlock,
    ki_BadDisk_Stopped := kit_of_own ic_Stopped xt_Stopped su_BadDisk_Stopped su_Stopped_Stopped,
    ki_BadDisk_TooMuch := kit_of_own ic_TooMuch xt_TooMuch su_BadDisk_TooMuch su_TooMuch_TooMuch,
    ki_BadDisk_ValueError := kit_of_VE sv_BadDisk,
    ki_BadRow_BadLog := kit_of_own ic_BadLog xt_BadLog su_BadRow_BadLog su_BadLog_BadLog,
    ki_BadRow_BadRow := kit_of_own ic_BadRow xt_BadRow su_BadRow_BadRow su_BadRow_BadRow,
    ki_BadRow_NoBlock := kit_of_own ic_NoBlock xt_NoBlock su_BadRow_NoBlock su_NoBlock_NoBlock,
    ki_BadRow_Stopped := kit_of_own ic_Stopped xt_Stopped su_BadRow_Stopped su_Stopped_Stopped,
    ki_BadRow_TooMuch := kit_of_own ic_TooMuch xt_TooMuch su_BadRow_TooMuch su_TooMuch_TooMuch,
    ki_BadRow_ValueError := kit_of_VE sv_BadRow,
    ki_NoBlock_BadLog := kit_of_own ic_BadLog xt_BadLog su_NoBlock_BadLog su_BadLog_BadLog,
    ki_NoBlock_BadRow := kit_of_own ic_BadRow xt_BadRow su_NoBlock_BadRow su_BadRow_BadRow,
    ki_NoBlock_NoBlock := kit_of_own ic_NoBlock xt_NoBlock su_NoBlock_NoBlock su_NoBlock_NoBlock,
    ki_NoBlock_Stopped := kit_of_own ic_Stopped xt_Stopped su_NoBlock_Stopped su_Stopped_Stopped,
    ki_NoBlock_TooMuch := kit_of_own ic_TooMuch xt_TooMuch su_NoBlock_TooMuch su_TooMuch_TooMuch,
    ki_NoBlock_ValueError := kit_of_VE sv_NoBlock,
    ki_Stopped_BadLog := kit_of_own ic_BadLog xt_BadLog su_Stopped_BadLog su_BadLog_BadLog,
    ki_Stopped_BadRow := kit_of_own ic_BadRow xt_BadRow su_Stopped_BadRow su_BadRow_BadRow,
    ki_Stopped_NoBlock := kit_of_own ic_NoBlock xt_NoBlock su_Stopped_NoBlock su_NoBlock_NoBlock,
    ki_Stopped_Stopped := kit_of_own ic_Stopped xt_Stopped su_Stopped_Stopped su_Stopped_Stopped,
    ki_Stopped_TooMuch := kit_of_own ic_TooMuch xt_TooMuch su_Stopped_TooMuch su_TooMuch_TooMuch,
    ki_Stopped_ValueError := kit_of_VE sv_Stopped,
    ki_TooMuch_BadLog := kit_of_own ic_BadLog xt_BadLog su_TooMuch_BadLog su_BadLog_BadLog,
    ki_TooMuch_BadRow := kit_of_own ic_BadRow xt_BadRow su_TooMuch_BadRow su_BadRow_BadRow,
    ki_TooMuch_NoBlock := kit_of_own ic_NoBlock xt_NoBlock su_TooMuch_NoBlock su_NoBlock_NoBlock,
    ki_TooMuch_Stopped := kit_of_own ic_Stopped xt_Stopped su_TooMuch_Stopped su_Stopped_Stopped,
    ki_TooMuch_TooMuch := kit_of_own ic_TooMuch xt_TooMuch su_TooMuch_TooMuch su_TooMuch_TooMuch,
    ki_TooMuch_ValueError := kit_of_VE sv_TooMuch,
    em_BadDisk_KeepError := exm_of_own xs_KeepError ic_KeepError xt_KeepError su_BadDisk_KeepError,
    em_BadRow_KeepError := exm_of_own xs_KeepError ic_KeepError xt_KeepError su_BadRow_KeepError,
    em_NoBlock_KeepError := exm_of_own xs_KeepError ic_KeepError xt_KeepError su_NoBlock_KeepError,
    em_Stopped_KeepError := exm_of_own xs_KeepError ic_KeepError xt_KeepError su_Stopped_KeepError,
    em_TooMuch_KeepError := exm_of_own xs_KeepError ic_KeepError xt_KeepError su_TooMuch_KeepError }
  exact ⟨_, fun s v => .of_eq rfl, fun base _ _ => (ok_law T).imp fun vs H Q E q => law_pure  q⟩
theorem walk {l : PySem.W.OpenLaw} {q : Program} {loose : List Str} {XP : (Str → Option Value) → Heap → Prop} {YP : World → Heap → Prop} {d : DefRec} {K : Params → PySem.W.Frag} (hn : l.most = some 63) (hdf : d.params.defaults = [])
    (hY : ∀ (w : World) (h : Heap), YP w h → (K w.params).In h)
    (F : ∀ (w : World) (mg : Str → Option Value) (fa : Addr) (h : Heap), (K w.params).In h → h.Ns mainGlobals mg → mg d.name = some (.ref fa) →
      ∃ fd : FuncData, (∀ (s : Shared) (u : Value), BindsTo s fd ⟨[u], []⟩ [("_law_script", u)]) ∧ ∀ base : Heap, (K w.params).In base → base.Ns mainGlobals mg → FnOk l.prog w (K w.params) mg base (L2N.CX l.prog w) 10 fa fd ["_law_script"] (spLaw (K w.params))) :
    PySem.W.WalkO q loose XP YP l.row.toRowW d [] (fun f vs => PySem.call f vs) :=
  L2.walk_of (n := 63) (k := 10) (x := "_law_script") (CX := fun w => L2N.CX l.prog w) (sp := fun w => spLaw (K w.params)) hn (by decide) hdf ⟨rfl, by decide, by decide⟩ hY F (fun _ _ a ns hl _ hS => ⟨a, ns, rfl, hS, hl, fun _ => rfl⟩) fun _ _ _ _ _ z => by
    obtain ⟨_, _, _, _, _, _, _, _, _, _, _, _, z⟩ := z
    exact z
end Bk
open PySem PySem.W PyProof.Rows
set_option maxRecDepth 100000 in
set_option maxHeartbeats 0 in
theorem PySem.Challenge.cw_blockkeep_k05_read_through_a_batch_holds : PySem.Challenge.rw_blockkeep_k05_read_through_a_batch.Holds := by
  w_on; o_law; k_head; (case hw => w_witness2)
  k_fill
  refine Bk.walk (l := PySem.Challenge.rw_blockkeep_k05_read_through_a_batch) rfl rfl (fun w h Y => PySem.W.kIn_of Y) ?F
  case F =>
    intro w mg fa h KX G hmg
    refine' Bk.all_mk KX G hmg ?a_WIDE ?a_MOST_WORD ?a_LEAST_BLOCKS ?a_MOST_BLOCKS ?a_LOG_AT ?a_MAPS_AT ?a_MOST_HOMES ?z_ValueError ?z_all ?z_bool ?z_enumerate ?z_int ?z_isinstance ?z_len ?z_list ?z_min ?z_range ?z_sorted ?z_tuple ?a_Disk ?a_Batch ?a_KeepError ?a_BadRow ?a_NoBlock ?a_Stopped ?a_BadDisk ?a_TooMuch ?a_BadLog ?a__wall ?l__wall ?c__wall ?k__wall ?a_is_word ?l_is_word ?c_is_word ?k_is_word ?a_is_row ?l_is_row ?c_is_row ?k_is_row ?a_need_row ?l_need_row ?c_need_row ?k_need_row ?a_empty_row ?l_empty_row ?c_empty_row ?k_empty_row ?a_changed ?l_changed ?c_changed ?k_changed ?a_is_many ?l_is_many ?c_is_many ?k_is_many ?a_Disk_init ?i_Disk_init ?l_Disk_init ?c_Disk_init ?k_Disk_init ?a_Disk_blocks ?i_Disk_blocks ?l_Disk_blocks ?c_Disk_blocks ?k_Disk_blocks ?a_Disk_need ?i_Disk_need ?l_Disk_need ?c_Disk_need ?k_Disk_need ?a_Disk_read ?i_Disk_read ?l_Disk_read ?c_Disk_read ?k_Disk_read ?a_Disk_write ?i_Disk_write ?l_Disk_write ?c_Disk_write ?k_Disk_write ?a_Disk_writes ?i_Disk_writes ?l_Disk_writes ?c_Disk_writes ?k_Disk_writes ?a_Disk_stop_after ?i_Disk_stop_after ?l_Disk_stop_after ?c_Disk_stop_after ?k_Disk_stop_after ?a_Disk_go_on ?i_Disk_go_on ?l_Disk_go_on ?c_Disk_go_on ?k_Disk_go_on ?a_Disk_twin ?i_Disk_twin ?l_Disk_twin ?c_Disk_twin ?k_Disk_twin ?a_is_home ?l_is_home ?c_is_home ?k_is_home ?a_need_pairs ?l_need_pairs ?c_need_pairs ?k_need_pairs ?a_carry_home ?l_carry_home ?c_carry_home ?k_carry_home ?a_commit ?l_commit ?c_commit ?k_commit ?a_Batch_init ?i_Batch_init ?l_Batch_init ?c_Batch_init ?k_Batch_init ?a_Batch_read ?i_Batch_read ?l_Batch_read ?c_Batch_read ?k_Batch_read ?a_Batch_write ?i_Batch_write ?l_Batch_write ?c_Batch_write ?k_Batch_write ?a_Batch_pairs ?i_Batch_pairs ?l_Batch_pairs ?c_Batch_pairs ?k_Batch_pairs ?a_Batch_finish ?i_Batch_finish ?l_Batch_finish ?c_Batch_finish ?k_Batch_finish ?a_L_cell_at ?l_L_cell_at ?c_L_cell_at ?k_L_cell_at ?a_L_row ?l_L_row ?c_L_row ?k_L_row ?a_L_odd_row ?l_L_odd_row ?c_L_odd_row ?k_L_odd_row ?a_L_odd_block ?l_L_odd_block ?c_L_odd_block ?k_L_odd_block ?a_L_kinds ?l_L_kinds ?c_L_kinds ?k_L_kinds ?a_L_written ?l_L_written ?c_L_written ?k_L_written ?a_L_like ?l_L_like ?c_L_like ?k_L_like ?a_L_deed ?l_L_deed ?c_L_deed ?k_L_deed ?a_L_rows ?l_L_rows ?c_L_rows ?k_L_rows ?a_L_reads ?l_L_reads ?c_L_reads ?k_L_reads ?a_L_beside ?l_L_beside ?c_L_beside ?k_L_beside ?a_L_finished ?l_L_finished ?c_L_finished ?k_L_finished ?a_law ?l_law ?c_law ?k_law ?pg_Disk ?hd_Disk ?po_Disk ?sa_Disk ?mk_Disk ?kc_Disk ?na_Disk_done ?na_Disk_left ?na_Disk_rows ?pg_Batch ?hd_Batch ?po_Batch ?sa_Batch ?mk_Batch ?kc_Batch ?na_Batch_disk ?na_Batch_rows ?xq_KeepError ?xk_KeepError ?xs_KeepError ?xt_KeepError ?xq_BadRow ?xk_BadRow ?xs_BadRow ?xt_BadRow ?xq_NoBlock ?xk_NoBlock ?xs_NoBlock ?xt_NoBlock ?xq_Stopped ?xk_Stopped ?xs_Stopped ?xt_Stopped ?xq_BadDisk ?xk_BadDisk ?xs_BadDisk ?xt_BadDisk ?xq_TooMuch ?xk_TooMuch ?xs_TooMuch ?xt_TooMuch ?xq_BadLog ?xk_BadLog ?xs_BadLog ?xt_BadLog ?xc_hg_BadDisk ?xc_hk_BadDisk ?xc_hd_BadDisk ?xc_ha_BadDisk ?xc_hm_BadDisk ?xc_hg_BadRow ?xc_hk_BadRow ?xc_hd_BadRow ?xc_ha_BadRow ?xc_hm_BadRow ?xc_hg_NoBlock ?xc_hk_NoBlock ?xc_hd_NoBlock ?xc_ha_NoBlock ?xc_hm_NoBlock ?xc_hg_Stopped ?xc_hk_Stopped ?xc_hd_Stopped ?xc_ha_Stopped ?xc_hm_Stopped ?xc_hg_TooMuch ?xc_hk_TooMuch ?xc_hd_TooMuch ?xc_ha_TooMuch ?xc_hm_TooMuch ?ic_BadLog ?ic_BadRow ?ic_KeepError ?ic_NoBlock ?ic_Stopped ?ic_TooMuch ?su_BadDisk_BadLog ?su_BadDisk_BadRow ?su_BadDisk_KeepError ?su_BadDisk_NoBlock ?su_BadDisk_Stopped ?su_BadDisk_TooMuch ?su_BadLog_BadLog ?su_BadRow_BadLog ?su_BadRow_BadRow ?su_BadRow_KeepError ?su_BadRow_NoBlock ?su_BadRow_Stopped ?su_BadRow_TooMuch ?su_KeepError_KeepError ?su_NoBlock_BadLog ?su_NoBlock_BadRow ?su_NoBlock_KeepError ?su_NoBlock_NoBlock ?su_NoBlock_Stopped ?su_NoBlock_TooMuch ?su_Stopped_BadLog ?su_Stopped_BadRow ?su_Stopped_KeepError ?su_Stopped_NoBlock ?su_Stopped_Stopped ?su_Stopped_TooMuch ?su_TooMuch_BadLog ?su_TooMuch_BadRow ?su_TooMuch_KeepError ?su_TooMuch_NoBlock ?su_TooMuch_Stopped ?su_TooMuch_TooMuch ?sv_BadDisk ?sv_BadRow ?sv_NoBlock ?sv_Stopped ?sv_TooMuch ?xc_hn ?xc_ht
    (case a_WIDE => k_is)
    (case a_MOST_WORD => k_is)
    (case a_LEAST_BLOCKS => k_is)
    (case a_MOST_BLOCKS => k_is)
    (case a_LOG_AT => k_is)
    (case a_MAPS_AT => k_is)
    (case a_MOST_HOMES => k_is)
    (case z_ValueError => k_is)
    (case z_all => k_is)
    (case z_bool => k_is)
    (case z_enumerate => k_is)
    (case z_int => k_is)
    (case z_isinstance => k_is)
    (case z_len => k_is)
    (case z_list => k_is)
    (case z_min => k_is)
    (case z_range => k_is)
    (case z_sorted => k_is)
    (case z_tuple => k_is)
    (case a_Disk => k_is)
    (case a_Batch => k_is)
    (case a_KeepError => k_is)
    (case a_BadRow => k_is)
    (case a_NoBlock => k_is)
    (case a_Stopped => k_is)
    (case a_BadDisk => k_is)
    (case a_TooMuch => k_is)
    (case a_BadLog => k_is)
    (case a__wall => k_is)
    (case l__wall => k_is)
    (case c__wall => k_is)
    (case k__wall => k_is)
    (case a_is_word => k_is)
    (case l_is_word => k_is)
    (case c_is_word => k_is)
    (case k_is_word => k_is)
    (case a_is_row => k_is)
    (case l_is_row => k_is)
    (case c_is_row => k_is)
    (case k_is_row => k_is)
    (case a_need_row => k_is)
    (case l_need_row => k_is)
    (case c_need_row => k_is)
    (case k_need_row => k_is)
    (case a_empty_row => k_is)
    (case l_empty_row => k_is)
    (case c_empty_row => k_is)
    (case k_empty_row => k_is)
    (case a_changed => k_is)
    (case l_changed => k_is)
    (case c_changed => k_is)
    (case k_changed => k_is)
    (case a_is_many => k_is)
    (case l_is_many => k_is)
    (case c_is_many => k_is)
    (case k_is_many => k_is)
    (case a_Disk_init => k_is)
    (case i_Disk_init => k_is)
    (case l_Disk_init => k_is)
    (case c_Disk_init => k_is)
    (case k_Disk_init => k_is)
    (case a_Disk_blocks => k_is)
    (case i_Disk_blocks => k_is)
    (case l_Disk_blocks => k_is)
    (case c_Disk_blocks => k_is)
    (case k_Disk_blocks => k_is)
    (case a_Disk_need => k_is)
    (case i_Disk_need => k_is)
    (case l_Disk_need => k_is)
    (case c_Disk_need => k_is)
    (case k_Disk_need => k_is)
    (case a_Disk_read => k_is)
    (case i_Disk_read => k_is)
    (case l_Disk_read => k_is)
    (case c_Disk_read => k_is)
    (case k_Disk_read => k_is)
    (case a_Disk_write => k_is)
    (case i_Disk_write => k_is)
    (case l_Disk_write => k_is)
    (case c_Disk_write => k_is)
    (case k_Disk_write => k_is)
    (case a_Disk_writes => k_is)
    (case i_Disk_writes => k_is)
    (case l_Disk_writes => k_is)
    (case c_Disk_writes => k_is)
    (case k_Disk_writes => k_is)
    (case a_Disk_stop_after => k_is)
    (case i_Disk_stop_after => k_is)
    (case l_Disk_stop_after => k_is)
    (case c_Disk_stop_after => k_is)
    (case k_Disk_stop_after => k_is)
    (case a_Disk_go_on => k_is)
    (case i_Disk_go_on => k_is)
    (case l_Disk_go_on => k_is)
    (case c_Disk_go_on => k_is)
    (case k_Disk_go_on => k_is)
    (case a_Disk_twin => k_is)
    (case i_Disk_twin => k_is)
    (case l_Disk_twin => k_is)
    (case c_Disk_twin => k_is)
    (case k_Disk_twin => k_is)
    (case a_is_home => k_is)
    (case l_is_home => k_is)
    (case c_is_home => k_is)
    (case k_is_home => k_is)
    (case a_need_pairs => k_is)
    (case l_need_pairs => k_is)
    (case c_need_pairs => k_is)
    (case k_need_pairs => k_is)
    (case a_carry_home => k_is)
    (case l_carry_home => k_is)
    (case c_carry_home => k_is)
    (case k_carry_home => k_is)
    (case a_commit => k_is)
    (case l_commit => k_is)
    (case c_commit => k_is)
    (case k_commit => k_is)
    (case a_Batch_init => k_is)
    (case i_Batch_init => k_is)
    (case l_Batch_init => k_is)
    (case c_Batch_init => k_is)
    (case k_Batch_init => k_is)
    (case a_Batch_read => k_is)
    (case i_Batch_read => k_is)
    (case l_Batch_read => k_is)
    (case c_Batch_read => k_is)
    (case k_Batch_read => k_is)
    (case a_Batch_write => k_is)
    (case i_Batch_write => k_is)
    (case l_Batch_write => k_is)
    (case c_Batch_write => k_is)
    (case k_Batch_write => k_is)
    (case a_Batch_pairs => k_is)
    (case i_Batch_pairs => k_is)
    (case l_Batch_pairs => k_is)
    (case c_Batch_pairs => k_is)
    (case k_Batch_pairs => k_is)
    (case a_Batch_finish => k_is)
    (case i_Batch_finish => k_is)
    (case l_Batch_finish => k_is)
    (case c_Batch_finish => k_is)
    (case k_Batch_finish => k_is)
    (case a_L_cell_at => k_is)
    (case l_L_cell_at => k_is)
    (case c_L_cell_at => k_is)
    (case k_L_cell_at => k_is)
    (case a_L_row => k_is)
    (case l_L_row => k_is)
    (case c_L_row => k_is)
    (case k_L_row => k_is)
    (case a_L_odd_row => k_is)
    (case l_L_odd_row => k_is)
    (case c_L_odd_row => k_is)
    (case k_L_odd_row => k_is)
    (case a_L_odd_block => k_is)
    (case l_L_odd_block => k_is)
    (case c_L_odd_block => k_is)
    (case k_L_odd_block => k_is)
    (case a_L_kinds => k_is)
    (case l_L_kinds => k_is)
    (case c_L_kinds => k_is)
    (case k_L_kinds => k_is)
    (case a_L_written => k_is)
    (case l_L_written => k_is)
    (case c_L_written => k_is)
    (case k_L_written => k_is)
    (case a_L_like => k_is)
    (case l_L_like => k_is)
    (case c_L_like => k_is)
    (case k_L_like => k_is)
    (case a_L_deed => k_is)
    (case l_L_deed => k_is)
    (case c_L_deed => k_is)
    (case k_L_deed => k_is)
    (case a_L_rows => k_is)
    (case l_L_rows => k_is)
    (case c_L_rows => k_is)
    (case k_L_rows => k_is)
    (case a_L_reads => k_is)
    (case l_L_reads => k_is)
    (case c_L_reads => k_is)
    (case k_L_reads => k_is)
    (case a_L_beside => k_is)
    (case l_L_beside => k_is)
    (case c_L_beside => k_is)
    (case k_L_beside => k_is)
    (case a_L_finished => k_is)
    (case l_L_finished => k_is)
    (case c_L_finished => k_is)
    (case k_L_finished => k_is)
    (case a_law => k_is)
    (case l_law => k_is)
    (case c_law => k_is)
    (case k_law => k_is)
    (case pg_Disk => k_is)
    (case hd_Disk => k_is)
    (case po_Disk => k_is)
    (case sa_Disk => k_is)
    (case mk_Disk => k_is)
    (case kc_Disk => k_is)
    (case na_Disk_done => k_is)
    (case na_Disk_left => k_is)
    (case na_Disk_rows => k_is)
    (case pg_Batch => k_is)
    (case hd_Batch => k_is)
    (case po_Batch => k_is)
    (case sa_Batch => k_is)
    (case mk_Batch => k_is)
    (case kc_Batch => k_is)
    (case na_Batch_disk => k_is)
    (case na_Batch_rows => k_is)
    (case xq_KeepError => k_exc)
    (case xk_KeepError => k_is)
    (case xs_KeepError => k_is)
    (case xt_KeepError => k_is)
    (case xq_BadRow => k_exc)
    (case xk_BadRow => k_is)
    (case xs_BadRow => k_is)
    (case xt_BadRow => k_is)
    (case xq_NoBlock => k_exc)
    (case xk_NoBlock => k_is)
    (case xs_NoBlock => k_is)
    (case xt_NoBlock => k_is)
    (case xq_Stopped => k_exc)
    (case xk_Stopped => k_is)
    (case xs_Stopped => k_is)
    (case xt_Stopped => k_is)
    (case xq_BadDisk => k_exc)
    (case xk_BadDisk => k_is)
    (case xs_BadDisk => k_is)
    (case xt_BadDisk => k_is)
    (case xq_TooMuch => k_exc)
    (case xk_TooMuch => k_is)
    (case xs_TooMuch => k_is)
    (case xt_TooMuch => k_is)
    (case xq_BadLog => k_exc)
    (case xk_BadLog => k_is)
    (case xs_BadLog => k_is)
    (case xt_BadLog => k_is)
    (case xc_hg_BadDisk => k_is)
    (case xc_hk_BadDisk => k_is)
    (case xc_hd_BadDisk => k_is)
    (case xc_ha_BadDisk => k_is)
    (case xc_hm_BadDisk => k_is)
    (case xc_hg_BadRow => k_is)
    (case xc_hk_BadRow => k_is)
    (case xc_hd_BadRow => k_is)
    (case xc_ha_BadRow => k_is)
    (case xc_hm_BadRow => k_is)
    (case xc_hg_NoBlock => k_is)
    (case xc_hk_NoBlock => k_is)
    (case xc_hd_NoBlock => k_is)
    (case xc_ha_NoBlock => k_is)
    (case xc_hm_NoBlock => k_is)
    (case xc_hg_Stopped => k_is)
    (case xc_hk_Stopped => k_is)
    (case xc_hd_Stopped => k_is)
    (case xc_ha_Stopped => k_is)
    (case xc_hm_Stopped => k_is)
    (case xc_hg_TooMuch => k_is)
    (case xc_hk_TooMuch => k_is)
    (case xc_hd_TooMuch => k_is)
    (case xc_ha_TooMuch => k_is)
    (case xc_hm_TooMuch => k_is)
    (case ic_BadLog => k_is)
    (case ic_BadRow => k_is)
    (case ic_KeepError => k_is)
    (case ic_NoBlock => k_is)
    (case ic_Stopped => k_is)
    (case ic_TooMuch => k_is)
    (case su_BadDisk_BadLog => k_is)
    (case su_BadDisk_BadRow => k_is)
    (case su_BadDisk_KeepError => k_is)
    (case su_BadDisk_NoBlock => k_is)
    (case su_BadDisk_Stopped => k_is)
    (case su_BadDisk_TooMuch => k_is)
    (case su_BadLog_BadLog => k_is)
    (case su_BadRow_BadLog => k_is)
    (case su_BadRow_BadRow => k_is)
    (case su_BadRow_KeepError => k_is)
    (case su_BadRow_NoBlock => k_is)
    (case su_BadRow_Stopped => k_is)
    (case su_BadRow_TooMuch => k_is)
    (case su_KeepError_KeepError => k_is)
    (case su_NoBlock_BadLog => k_is)
    (case su_NoBlock_BadRow => k_is)
    (case su_NoBlock_KeepError => k_is)
    (case su_NoBlock_NoBlock => k_is)
    (case su_NoBlock_Stopped => k_is)
    (case su_NoBlock_TooMuch => k_is)
    (case su_Stopped_BadLog => k_is)
    (case su_Stopped_BadRow => k_is)
    (case su_Stopped_KeepError => k_is)
    (case su_Stopped_NoBlock => k_is)
    (case su_Stopped_Stopped => k_is)
    (case su_Stopped_TooMuch => k_is)
    (case su_TooMuch_BadLog => k_is)
    (case su_TooMuch_BadRow => k_is)
    (case su_TooMuch_KeepError => k_is)
    (case su_TooMuch_NoBlock => k_is)
    (case su_TooMuch_Stopped => k_is)
    (case su_TooMuch_TooMuch => k_is)
    (case sv_BadDisk => k_is)
    (case sv_BadRow => k_is)
    (case sv_NoBlock => k_is)
    (case sv_Stopped => k_is)
    (case sv_TooMuch => k_is)
    (case xc_hn => k_is)
    (case xc_ht => k_is)
