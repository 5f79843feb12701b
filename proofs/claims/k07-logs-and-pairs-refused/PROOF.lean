import PyProof.Rows.All
import Wide.All
import OpenK.AllK
import Wide.FinOn
import HandS.ForMost
import HandS.ForExc
import HandS.More
import HandS.Small
import HandS.IsInst
import HandS.Style
import HandS.Flow
import HandS.HotCalls
import HandS.SuiteRaise
import HandS.ExcIs
import HandS.TryMany
import HandS.SortInts
import HandS.SortKw
import HandS.RevRange
import HandS.Conv
import HandS.Text
import PySem.Challenge.RW_blockkeep_k07_logs_and_pairs_refused
set_option Elab.async false
set_option linter.all false
set_option maxRecDepth 100000
set_option maxHeartbeats 4000000
namespace Bk
abbrev St := L2.St
open PySem L2 PyProof.Rows

/-! ### any of two rules -/
theorem peor {X : Cx} {e : Expr} {t u : TE} (h : PE X e t) (k : PE X e u) : PE X e (fun σ H Q => t σ H Q ∨ u σ H Q) :=
  ⟨fun pins s σ H Q I q => q.elim (fun q => h.run pins s σ H Q I q) fun q => k.run pins s σ H Q I q⟩
def tOr2 (t u : TE) : TE := fun σ H Q => t σ H Q ∨ u σ H Q
theorem pe_or2 {X : Cx} {e : Expr} {t u : TE} (h : PE X e t) (k : PE X e u) : PE X e (tOr2 t u) := peor h k
theorem call_or {X : Cx} {f : Value} {r r' : List V → Hp → VK → Prop} (h : CallR X f r) (k : CallR X f r') : CallR X f (fun xs H Q => r xs H Q ∨ r' xs H Q) :=
  fun pins s σ H xs us Q I r1 q => q.elim (fun q => h pins s σ H xs us Q I r1 q) fun q => k pins s σ H xs us Q I r1 q
theorem op_imp {X : Cx} {f : Value → Value → Sem Value} {r r' : R2} (h : OpR X f r) (i : ∀ x y H Q, r' x y H Q → r x y H Q) : OpR X f r' :=
  fun pins s σ H x y v u Q I rx ry q => h pins s σ H x y v u Q I rx ry (i _ _ _ _ q)
theorem pi_or {X : Cx} {tg l : Expr} {a b : TI} (h : PI X tg l a) (k : PI X tg l b) : PI X tg l (fun σ H R => a σ H R ∨ b σ H R) :=
  ⟨fun pins s σ H R I q => q.elim (fun q => h.run pins s σ H R I q) fun q => k.run pins s σ H R I q⟩
/-- a global name whose value stands -/
theorem pe_gl {X : Cx} {x : Str} {v : V} {pos : Pos} (hg : Gl X x) (h : ∃ u, X.mg x = some u ∧ RelV v u) (hd : (x == ("__debug__" : Str)) = false := by decide) : PE X (.Name x pos) (tC v) := by
  obtain ⟨u, hm, r⟩ := h
  exact pe_glob hg hm r hd

/-! ### the operators, of any kinds -/
def rAddP : R2 := fun x y H Q => rI0 (fun i j => .int (i + j)) x y H Q ∨ rCat x y H Q ∨ (∃ i j, x = .str i ∧ y = .str j ∧ i.length + j.length ≤ sizeLine ∧ Q (.str (i ++ j)) H)
def rSubP : R2 := rI0 fun i j => .int (i - j)
def rMulP : R2 := fun x y H Q => rI CMul (fun i j => .int (i * j)) x y H Q ∨ rRep x y H Q
def rDivP : R2 := rI CDiv fun i j => .int (i / j)
def rModP : R2 := rI (fun _ j => 0 < j) fun i j => .int (i % j)
def rPowP : R2 := rI CPow fun i j => .int (i ^ j.toNat)
def rEqP (K : PySem.W.Frag) : R2 := fun x y H Q => rEq x y H Q ∨ rEqD K x y H Q
def rNeP (K : PySem.W.Frag) : R2 := fun x y H Q => rNe x y H Q ∨ rNeD K x y H Q
def rLtP : R2 := rI0 fun i j => .bl (decide (i < j))
def rLeP : R2 := rI0 fun i j => .bl (decide (i ≤ j))
def rGtP : R2 := rI0 fun i j => .bl (decide (j < i))
def rGeP : R2 := rI0 fun i j => .bl (decide (j ≤ i))
def rIsP : R2 := fun x y H Q => (y = .non ∧ Q (.bl (decide (x = .non))) H) ∨ rIsB x y H Q
def rIsNotP : R2 := fun x y H Q => (y = .non ∧ Q (.bl (!decide (x = .non))) H) ∨ rNotB x y H Q
section
variable {X : Cx}
theorem op_addP : OpR X (binaryOp .Add) rAddP := op_add.or (op_cat.or op_add_str)
theorem op_subP : OpR X (binaryOp .Sub) rSubP := op_sub
theorem op_mulP : OpR X (binaryOp .Mult) rMulP := op_mul.or op_rep
theorem op_divP : OpR X (binaryOp .FloorDiv) rDivP := op_fdiv
theorem op_modP : OpR X (binaryOp .Mod) rModP := op_mod
theorem op_powP : OpR X (binaryOp .Pow) rPowP := op_pow
theorem op_eqP {k : Nat} (hr : Room k X.A) : OpR X (compareOp .Eq) (rEqP X.K) := op_eq.or (op_eqD hr.units)
theorem op_neP {k : Nat} (hr : Room k X.A) : OpR X (compareOp .NotEq) (rNeP X.K) := op_ne.or (op_neD hr.units)
theorem op_ltP : OpR X (compareOp .Lt) rLtP := op_lt
theorem op_leP : OpR X (compareOp .LtE) rLeP := op_le
theorem op_gtP : OpR X (compareOp .Gt) rGtP := op_gt
theorem op_geP : OpR X (compareOp .GtE) rGeP := op_ge
theorem op_isP : OpR X (compareOp .Is) rIsP := op_isN.or op_isBl
theorem op_isNotP : OpR X (compareOp .IsNot) rIsNotP := op_notN.or op_notBl
end
def rIxP (K : PySem.W.Frag) : R2 := rIx K
theorem ix_P {X : Cx} : IxR X (rIxP X.K) := ix_seq
section
variable {prog : Program} {w : World} {A : Around} {E : Value → Shared → Prop} {s : Shared}
theorem tup_whole {t sl : Addr} {items : Array Value} {vl vu : Value} {lo hi : Option Int} {Q : Value → Shared → Prop} (ht : IsTup s.heap t items) (hs : s.heap.IsSliceOf sl vl vu .none) (pl : IsPart vl lo) (pu : IsPart vu hi)
    (hw : HT.sIx items.size 0 lo = 0 ∧ HT.sIx items.size items.size hi = items.size) (h : Q (.ref t) s) : wpAny (model prog w) A (getItem (.ref t) (.ref sl)) Q E s := by
  obtain ⟨os, hos, hcs, hds⟩ := id hs
  have hTs : s.TypeIs (.ref sl) "slice" := ⟨os, hos, hcs⟩
  unfold getItem
  try with_reducible refine wpAny_holding ?_
  first | refine wpAny_bind (wpAny_pure ?_) | skip
  refine wpAny_bind (wpAny_sequenceKey ht.typeIs (by decide) ?_)
  refine wpAny_bind (wpAny_callSpecial?_slot (name := Str.ofString "__getitem__") ht.typeIs PyProof.Rows.slot_tuple_getitem (wpAny_call_entry PyProof.Rows.slot_tuple_getitem ht.typeIs entry_tuple_getitem ?_ (args_tuple_getitem _ _)))
  show wpAny _ _ (Builtin.Tuple.tupleItemsOf (.ref t) >>= _) _ _ s
  refine wpAny_bind (tupleItemsOf_ ht (wpAny_bind (wpAny_typeOf hTs ?_)))
  rw [if_pos (by decide)]
  refine wpAny_bind (HT.sliceApplied_gen hs pl pu ?_)
  have yes : ((((HT.sIx items.size 0 lo : Nat) : Int) == 0 && (1 : Int) == 1 && (HT.sIx items.size items.size hi - HT.sIx items.size 0 lo) == items.size) = true) := by
    rw [hw.1, hw.2]; simp
  show wpAny _ _ (if (((HT.sIx items.size 0 lo : Nat) : Int) == 0 && (1 : Int) == 1 && (HT.sIx items.size items.size hi - HT.sIx items.size 0 lo) == items.size) = true then _ else _) _ _ s
  rw [if_pos yes]
  refine wpAny_bind (m := Builtin.Tuple.tupleIsExact _) (wpAny_bind (wpAny_typeOf ht.typeIs (wpAny_pure ?_)))
  show wpAny _ _ (if (Value.type "tuple" == Value.type "tuple") = true then _ else _) _ _ s
  rw [if_pos (by decide)]
  first
    | exact wpAny_bind (wpAny_rule (wpAny_bind (wpAny_pure (wpAny_pure ⟨_, rfl, wpAny_pure h⟩))))
    | exact wpAny_bind (wpAny_rule (wpAny_pure ⟨_, rfl, wpAny_pure h⟩))
    | exact wpAny_bind (wpAny_rule (wpAny_bind (wpAny_pure ⟨_, rfl, wpAny_pure h⟩)))
end
def rSlW (K : PySem.W.Frag) : V → Option Int → Option Int → Hp → VK → Prop := fun x lo hi H Q => ∃ a xs, x = .ref a ∧ SqT K H a xs ∧ (HT.sIx xs.length 0 lo = 0 ∧ HT.sIx xs.length xs.length hi = xs.length) ∧ Q (.ref a) H
theorem sl_tupW {X : Cx} : SlR X (rSlW X.K) := by
  intro pins s σ H x v vl vu lo hi sl Q I rx hs pl pu h
  obtain ⟨a, xs, rfl, hx, hw, q⟩ := h
  cases rx
  obtain ⟨its, r, ht, hz⟩ := I.tuple hx
  have e : its.toArray.size = xs.length := r.length.symm
  exact ⟨"tuple", _, PyProof.Rows.slot_tuple_getitem.lookup, ht.typeIs, tup_whole ht hs pl pu (by rw [e]; exact hw) ⟨.ref a, H, I, rfl, q⟩⟩

def rSlP (K : PySem.W.Frag) : V → Option Int → Option Int → Hp → VK → Prop := fun x lo hi H Q => rSlL K x lo hi H Q ∨ rSlT K x lo hi H Q ∨ rSlS x lo hi H Q ∨ rSlW K x lo hi H Q
theorem sl_P {X : Cx} : SlR X (rSlP X.K) := sl_list.or (sl_tup.or (sl_str.or sl_tupW))
def rInP (K : PySem.W.Frag) : R2 := fun x y H Q => rIn K false x y H Q ∨ (∃ (c : Nat) (z : Str), x = .str ⟨#[c]⟩ ∧ y = .str z ∧ Q (.bl (decide (c ∈ z.cps.toList))) H)
def rNotInP (K : PySem.W.Frag) : R2 := fun x y H Q => rIn K true x y H Q ∨ (∃ (c : Nat) (z : Str), x = .str ⟨#[c]⟩ ∧ y = .str z ∧ Q (.bl (!decide (c ∈ z.cps.toList))) H)
theorem op_inP {X : Cx} : OpR X (compareOp .In) (rInP X.K) := op_in_seq.or op_in_sign
theorem op_notInP {X : Cx} : OpR X (compareOp .NotIn) (rNotInP X.K) := op_notIn_seq.or op_notIn_sign

/-! ### heaps -/
/-- a new object -/
structure New (H : Hp) (p : Addr) (o : HO) (H1 : Hp) : Prop where
  free : H p = none
  eq : H1 = upd H p o
/-- an object written -/
structure Wr (H : Hp) (a : Addr) (o : HO) (H1 : Hp) : Prop where
  was : ∃ u, H a = some u
  eq : H1 = upd H a o
section
variable {H H1 H2 : Hp} {p a b : Addr} {o u : HO}
theorem New.at (n : New H p o H1) : H1 p = some o := by rw [n.eq]; exact upd_same
theorem New.ne (n : New H p o H1) (h : H a = some u) : a ≠ p := ne_of_none h n.free
theorem New.old (n : New H p o H1) (h : H a = some u) : H1 a = some u := by rw [n.eq, upd_ne (n.ne h)]; exact h
theorem New.same (n : New H p o H1) : Same H H1 := fun _ _ h => n.old h
theorem Wr.at (n : Wr H a o H1) : H1 a = some o := by rw [n.eq]; exact upd_same
theorem Wr.old (n : Wr H a o H1) (hn : b ≠ a) (h : H b = some u) : H1 b = some u := by rw [n.eq, upd_ne hn]; exact h
theorem Same.at (s : Same H H1) (h : H a = some u) : H1 a = some u := s _ _ h
/-- what was new is written: what stood ahead stands -/
theorem Same.wr (s : Same H H1) (n : H a = none) (w : Wr H1 a o H2) : Same H H2 := fun b u h => w.old (ne_of_none h n) (s _ _ h)
theorem new_of {R : Addr → Hp → Prop} (h : ∀ p H1, New H p o H1 → R p H1) : ∀ p, H p = none → R p (upd H p o) := fun p n => h p _ ⟨n, rfl⟩
theorem wr_of {R : Hp → Prop} (hp : H a = some u) (h : ∀ H1, Wr H a o H1 → R H1) : R (upd H a o) := h _ ⟨⟨u, hp⟩, rfl⟩
end

/-! ### the steps -/
def BlK (Q : Bool → Hp → Prop) : VK := fun x H => ∃ k, x = .bl k ∧ Q k H
section
variable {σ : St} {H : Hp} {Q : VK} {QB : Bool → Hp → Prop} {QA : List V → Hp → Prop} {nx bk ct : St → Hp → Prop} {rt : VK} {ta tb tc te : TE} {t u : TS} {i j : Int} {v x y : V} {r r' : R2} {K : PySem.W.Frag} {tA tB' : TT} {l : TA}
theorem go_var {i : Nat} (h : σ[i]? = some (some v)) (q : Q v H) : tVar i σ H Q := ⟨v, h, q⟩
theorem go_c (q : Q v H) : tC v σ H Q := q
theorem go_op (q : ta σ H fun x H1 => tb σ H1 fun y H2 => r x y H2 Q) : tOp r ta tb σ H Q := q
theorem go_un {r : V → Hp → VK → Prop} (q : ta σ H fun x H1 => r x H1 Q) : tUn r ta σ H Q := q
theorem go_rU {g : Int → V} (q : Q (g i) H) : rU g (.int i) H Q := ⟨i, rfl, q⟩
theorem go_blk {k : Bool} (q : QB k H) : BlK QB (.bl k) H := ⟨k, rfl, q⟩
theorem go_blk' {k : Bool} (q : QB k H) : ∃ c, V.bl k = .bl c ∧ QB c H := ⟨k, rfl, q⟩
theorem go_test (q : te σ H (BlK QB)) : tTest te σ H QB := q
theorem go_tB (q : te σ H (BlK QB)) : tB te σ H QB := q
theorem go_and (q : tA σ H fun c H1 => if c = true then tB' σ H1 QB else QB false H1) : tAnd tA tB' σ H QB := q
theorem go_or (q : tA σ H fun c H1 => if c = true then QB true H1 else tB' σ H1 QB) : tOr tA tB' σ H QB := q
theorem go_not (q : tA σ H fun c H1 => QB (!c) H1) : tNot tA σ H QB := q
theorem go_andV (q : ta σ H (BlK fun c H1 => if c = true then tb σ H1 Q else Q (.bl false) H1)) : tAndV ta tb σ H Q := q
theorem go_orV (q : ta σ H (BlK fun c H1 => if c = true then Q (.bl true) H1 else tb σ H1 Q)) : tOrV ta tb σ H Q := q
theorem go_notV (q : ta σ H (BlK fun c H1 => Q (.bl (!c)) H1)) : tNotV ta σ H Q := q
theorem go_if (q : tA σ H fun c H1 => if c = true then ta σ H1 Q else tb σ H1 Q) : tIf tA ta tb σ H Q := q
theorem go_chain (q : ta σ H fun x H1 => tb σ H1 fun y H2 => r x y H2 (BlK fun k H3 => if k = true then tc σ H3 fun w' H4 => r' y w' H4 Q else Q (.bl false) H3)) : tChain r r' ta tb tc σ H Q := q
-- statements
theorem go_seq (q : t ⟨fun σ H => u ⟨nx, rt, bk, ct⟩ σ H, rt, bk, ct⟩ σ H) : tSeq t u ⟨nx, rt, bk, ct⟩ σ H := q
theorem go_ret (q : te σ H rt) : tRet te ⟨nx, rt, bk, ct⟩ σ H := q
theorem go_retN (q : rt .non H) : tRetN ⟨nx, rt, bk, ct⟩ σ H := q
theorem go_next (q : nx σ H) : tNext ⟨nx, rt, bk, ct⟩ σ H := q
theorem go_drop (q : te σ H fun _ H1 => nx σ H1) : tDrop te ⟨nx, rt, bk, ct⟩ σ H := q
theorem go_asg {g : TG} (q : te σ H fun x H1 => g x σ H1 nx) : tAsg te g ⟨nx, rt, bk, ct⟩ σ H := q
theorem go_name {i : Nat} {n : St → Hp → Prop} (q : n (σ.set i (some v)) H) : gName i v σ H n := q
theorem go_name2 {i : Nat} {n : St → Hp → Prop} {σ' : St} (h : σ.set i (some v) = σ') (q : n σ' H) : gName i v σ H n := by subst h; exact q
theorem go_ifS {c : TT} (q : c σ H fun b H1 => if b = true then t ⟨nx, rt, bk, ct⟩ σ H1 else u ⟨nx, rt, bk, ct⟩ σ H1) : tIfS c t u ⟨nx, rt, bk, ct⟩ σ H := q
theorem go_T {c : Bool} {A B : Prop} (h : c = true) (q : A) : if c = true then A else B := by rw [if_pos h]; exact q
theorem go_F {c : Bool} {A B : Prop} (h : c = false) (q : B) : if c = true then A else B := by rw [h, if_neg Bool.false_ne_true]; exact q
theorem go_ite {c : Bool} {A B : Prop} (h : c = true → A) (k : c = false → B) : if c = true then A else B := by
  cases c
  · exact iteF (k rfl)
  · exact iteT (h rfl)
theorem go_Td {p A B : Prop} [Decidable p] (h : p) (q : A) : if decide p = true then A else B := go_T (decide_eq_true h) q
theorem go_Fd {p A B : Prop} [Decidable p] (h : ¬ p) (q : B) : if decide p = true then A else B := go_F (decide_eq_false h) q
theorem go_Tn {p A B : Prop} [Decidable p] (h : ¬ p) (q : A) : if (!decide p) = true then A else B := go_T (by rw [decide_eq_false h]; rfl) q
theorem go_Fn {p A B : Prop} [Decidable p] (h : p) (q : B) : if (!decide p) = true then A else B := go_F (by rw [decide_eq_true h]; rfl) q
theorem go_dec {p A B : Prop} [Decidable p] (h : p → A) (k : ¬ p → B) : if decide p = true then A else B := by
  by_cases c : p
  · exact go_Td c (h c)
  · exact go_Fd c (k c)
-- operators
theorem go_addI (q : Q (.int (i + j)) H) : rAddP (.int i) (.int j) H Q := .inl ⟨i, j, rfl, rfl, q⟩
theorem go_addL {a b : Addr} {xs ys : List V} (h : H a = some (.lst xs)) (k : H b = some (.lst ys)) (hz : xs.length + ys.length ≤ sizeLine) (q : ∀ p H1, New H p (.lst (xs ++ ys)) H1 → Q (.ref p) H1) : rAddP (.ref a) (.ref b) H Q :=
  .inr (.inl ⟨a, b, xs, ys, rfl, rfl, h, k, hz, new_of q⟩)
theorem go_addS {z w : Str} (hz : z.length + w.length ≤ sizeLine) (q : Q (.str (z ++ w)) H) : rAddP (.str z) (.str w) H Q := .inr (.inr ⟨z, w, rfl, rfl, hz, q⟩)
theorem go_sub (q : Q (.int (i - j)) H) : rSubP (.int i) (.int j) H Q := ⟨i, j, rfl, rfl, q⟩
theorem go_mulI (h : CMul i j) (q : Q (.int (i * j)) H) : rMulP (.int i) (.int j) H Q := .inl ⟨i, j, rfl, rfl, h, q⟩
theorem go_mulL {a : Addr} {xs : List V} (h : H a = some (.lst xs)) (h1 : -(2 ^ 63) ≤ j ∧ j < 2 ^ 63 ∧ xs.length * j.toNat ≤ sizeLine) (q : ∀ p H1, New H p (.lst (List.replicate j.toNat xs).flatten) H1 → Q (.ref p) H1) : rMulP (.ref a) (.int j) H Q :=
  .inr ⟨a, j, xs, rfl, rfl, h, h1.1, h1.2.1, h1.2.2, new_of q⟩
theorem go_div (h : CDiv i j) (q : Q (.int (i / j)) H) : rDivP (.int i) (.int j) H Q := ⟨i, j, rfl, rfl, h, q⟩
theorem go_mod (h : 0 < j) (q : Q (.int (i % j)) H) : rModP (.int i) (.int j) H Q := ⟨i, j, rfl, rfl, h, q⟩
theorem go_pow (h : CPow i j) (q : Q (.int (i ^ j.toNat)) H) : rPowP (.int i) (.int j) H Q := ⟨i, j, rfl, rfl, h, q⟩
theorem go_lt (q : Q (.bl (decide (i < j))) H) : rLtP (.int i) (.int j) H Q := ⟨i, j, rfl, rfl, q⟩
theorem go_le (q : Q (.bl (decide (i ≤ j))) H) : rLeP (.int i) (.int j) H Q := ⟨i, j, rfl, rfl, q⟩
theorem go_gt (q : Q (.bl (decide (j < i))) H) : rGtP (.int i) (.int j) H Q := ⟨i, j, rfl, rfl, q⟩
theorem go_ge (q : Q (.bl (decide (j ≤ i))) H) : rGeP (.int i) (.int j) H Q := ⟨i, j, rfl, rfl, q⟩
theorem decI {i j : Int} : decide (V.int i = V.int j) = decide (i = j) := by by_cases h : i = j <;> simp [h]
theorem decB {i j : Bool} : decide (V.bl i = V.bl j) = decide (i = j) := by by_cases h : i = j <;> simp [h]
theorem decS {i j : Str} : decide (V.str i = V.str j) = decide (i = j) := by by_cases h : i = j <;> simp [h]
theorem go_eqI (q : Q (.bl (decide (i = j))) H) : rEqP K (.int i) (.int j) H Q := .inl ⟨rfl, by rw [decI]; exact q⟩
theorem go_eqB {i j : Bool} (q : Q (.bl (decide (i = j))) H) : rEqP K (.bl i) (.bl j) H Q := .inl ⟨rfl, by rw [decB]; exact q⟩
theorem go_eqS {i j : Str} (q : Q (.bl (decide (i = j))) H) : rEqP K (.str i) (.str j) H Q := .inl ⟨rfl, by rw [decS]; exact q⟩
theorem go_neI (q : Q (.bl (!decide (i = j))) H) : rNeP K (.int i) (.int j) H Q := .inl ⟨rfl, by rw [decI]; exact q⟩
theorem go_neB {i j : Bool} (q : Q (.bl (!decide (i = j))) H) : rNeP K (.bl i) (.bl j) H Q := .inl ⟨rfl, by rw [decB]; exact q⟩
theorem go_neS {i j : Str} (q : Q (.bl (!decide (i = j))) H) : rNeP K (.str i) (.str j) H Q := .inl ⟨rfl, by rw [decS]; exact q⟩
theorem go_eqSc (h : scal x y = true) (q : Q (.bl (decide (x = y))) H) : rEqP K x y H Q := .inl ⟨h, q⟩
theorem go_neSc (h : scal x y = true) (q : Q (.bl (!decide (x = y))) H) : rNeP K x y H Q := .inl ⟨h, q⟩
theorem go_isN (q : Q (.bl (decide (x = .non))) H) : rIsP x .non H Q := .inl ⟨rfl, q⟩
theorem go_isNotN (q : Q (.bl (!decide (x = .non))) H) : rIsNotP x .non H Q := .inl ⟨rfl, q⟩
theorem go_isB {i j : Bool} (q : Q (.bl (decide (i = j))) H) : rIsP (.bl i) (.bl j) H Q := .inr ⟨i, j, rfl, rfl, q⟩
theorem go_isNotB {i j : Bool} (q : Q (.bl (!decide (i = j))) H) : rIsNotP (.bl i) (.bl j) H Q := .inr ⟨i, j, rfl, rfl, q⟩
-- lists of arguments, displays
theorem go_nil (q : QA [] H) : tNil σ H QA := q
theorem go_cons (q : ta σ H fun x H1 => l σ H1 fun xs H2 => QA (x :: xs) H2) : tCons ta l σ H QA := q
theorem go_lst {xs : List V} (hz : xs.length ≤ sizeLine) (q : ∀ p H1, New H p (.lst xs) H1 → Q (.ref p) H1) : (fun xs H1 => xs.length ≤ sizeLine ∧ ∀ p, H1 p = none → Q (.ref p) (upd H1 p (.lst xs))) xs H := ⟨hz, new_of q⟩
def LstK (Q : VK) : List V → Hp → Prop := fun xs H1 => xs.length ≤ sizeLine ∧ ∀ p, H1 p = none → Q (.ref p) (upd H1 p (.lst xs))
def TupK (Q : VK) : List V → Hp → Prop := fun xs H1 => xs.length ≤ sizeLine ∧ ∀ p, H1 p = none → Q (.ref p) (upd H1 p (.tup xs))
theorem go_tLst (q : l σ H (LstK Q)) : tLst l σ H Q := q
theorem go_tTup (q : l σ H (TupK Q)) : tTup l σ H Q := q
theorem go_LstK {xs : List V} (hz : xs.length ≤ sizeLine) (q : ∀ p H1, New H p (.lst xs) H1 → Q (.ref p) H1) : LstK Q xs H := ⟨hz, new_of q⟩
theorem go_TupK {xs : List V} (hz : xs.length ≤ sizeLine) (q : ∀ p H1, New H p (.tup xs) H1 → Q (.ref p) H1) : TupK Q xs H := ⟨hz, new_of q⟩
-- slices, places
theorem go_sl {rs : V → Option Int → Option Int → Hp → VK → Prop} {tl th : TO} (q : te σ H fun x H1 => tl σ H1 fun l H2 => th σ H2 fun u H3 => rs x l u H3 Q) : tSl rs te tl th σ H Q := q
theorem go_noPart {QO : Option Int → Hp → Prop} (q : QO none H) : tNoPart σ H QO := q
def IntK (QO : Option Int → Hp → Prop) : VK := fun x H1 => ∃ i, x = .int i ∧ QO (some i) H1
theorem go_part {QO : Option Int → Hp → Prop} (q : te σ H (IntK QO)) : tPart te σ H QO := q
theorem go_intK {QO : Option Int → Hp → Prop} (q : QO (some i) H) : IntK QO (.int i) H := ⟨i, rfl, q⟩
theorem go_slL {a : Addr} {xs : List V} {lo hi : Option Int} (h : H a = some (.lst xs)) (q : ∀ p H1, New H p (.lst (cutV xs lo hi)) H1 → Q (.ref p) H1) : rSlP K (.ref a) lo hi H Q := .inl ⟨a, xs, rfl, SqL.of h, new_of q⟩
theorem go_slW {a : Addr} {xs : List V} (h : H a = some (.tup xs)) (q : Q (.ref a) H) : rSlP K (.ref a) none none H Q := .inr (.inr (.inr ⟨a, xs, rfl, SqT.of h, ⟨rfl, rfl⟩, q⟩))
theorem go_ixL {a : Addr} {xs : List V} (h : H a = some (.lst xs)) (hv : atI xs i = some v) (q : Q v H) : rIxP K (.ref a) (.int i) H Q := .inl ⟨a, xs, i, v, rfl, rfl, SqL.of h, hv, q⟩
theorem go_ixT {a : Addr} {xs : List V} (h : H a = some (.tup xs)) (hv : atI xs i = some v) (q : Q v H) : rIxP K (.ref a) (.int i) H Q := .inr (.inl ⟨a, xs, i, v, rfl, rfl, SqT.of h, hv, q⟩)
theorem go_ixS {z : Str} {c : Nat} (hz : z.length ≤ sizeLine) (hv : atI z.cps.toList i = some c) (q : Q (.str ⟨#[c]⟩) H) : rIxP K (.str z) (.int i) H Q := .inr (.inr ⟨z, i, c, rfl, rfl, hz, hv, q⟩)
-- calls
theorem go_cb {r : List V → Hp → VK → Prop} (q : l σ H fun vs H1 => r vs H1 Q) : tCB r l σ H Q := q
theorem go_callS {sp : Sp} {E : St → XK} (q : l σ H fun vs H1 => sp vs H1 Q (E σ)) : tCallS sp E l σ H Q := q
end
end Bk

/-! ### calls of the text's own defs, in any context; defs by their own readings -/
namespace Bk
open PySem L2 PyProof.Rows
/-- what is wanted of what is raised: at a def's body; where nothing may be -/
def WM (E : XK) : WX := fun cls d _ H => E cls d H
def W0 : WX := fun _ _ _ _ => False
def F0 : St → Hp → Prop := fun _ _ => False
theorem takesM {X : Cx} {E : XK} (hs : X.stack = X.env :: X.outer) (hf : X.env.frame = some X.env.locals) (hex : X.ex = []) {E₁ : Value → Shared → Prop}
    (hx : X.xe = fun e s' => wpAny (model X.prog X.w) X.A (leaving X.env e) (fun _ s'' => L2N.CX X.prog X.w X.outer X.H_0 X.s_0 E e s'') E₁ s') : L2N.Takes X (WM E) := L2N.takes_of hs hf hex hx
theorem takesN {X : Cx} : L2N.Takes X W0 := fun _ _ x => by
  obtain ⟨_, _, _, _, _, _, _, _, _, _, _, _, _, _, _, _, z⟩ := x
  exact z.elim
theorem okN {P : Program} {w : World} {K : PySem.W.Frag} {mg : Str → Option Value} {base : Heap} {x qual : Str} {st : Stmt} {f : Addr} {fd : FuncData} {N ps : List Str} {k : Nat} {t : XK → TS}
    (F : Fun K x qual st f fd) (S : FnScope N ps (defScope st))
    (hbody : ∀ (cdv : Value) (A : Around) (outer : List Env) (s : Shared) (H : Hp) (E : XK), Room k (A.deeper (envOfC qual (defScope st) s.heap.objs.size f cdv)) →
      PSs (cxOf (L2N.CX P w) P w K mg base N qual (defScope st) f cdv A outer s H E) (defBody st) (t E)) :
    FnOk P w K mg base (L2N.CX P w) (k + 1) f fd ps (fun vs H Q E => vs.length = ps.length ∧ t E ⟨fun _ H' => Q .non H', Q, F0, F0⟩ (start N vs) H) := by
  obtain ⟨oc, od, kV, doc, pm, an, cdv, ct, osl, rfl, lk, hcd⟩ := F.ex
  refine fn_of lk hcd S (fun _ _ _ _ h => h.1) fun A outer s H vs Q E hr h => ⟨t E, hbody cdv A outer s H E hr, h.2⟩
section
variable {X : Cx} {k j : Nat} {f C : Addr} {fd : FuncData} {ps : List Str} {sp : Sp} {W : WX} {x m : Str} {p pos apos : Pos} {e o : Expr} {es : List Expr} {ta : TE} {t : TA}
theorem callE (F : FnOk X.prog X.w X.K X.mg X.base (L2N.CX X.prog X.w) k f fd ps sp) (tk : L2N.Takes X W) (hr : Room j X.A) (hj : k ≤ j) (hg : Gl X x) (hm : X.mg x = some (.ref f)) (hk : PySem.W.keepIn X.K (.ref f) = true) (hb : Binds X.K fd ps [])
    (ha : PA X (e :: es) t) (hdb : (x == ("__debug__" : Str)) = false := by decide) (he : starEach (e :: es) X.env = (false, eval e X.env) :: starEach es X.env := by rfl) (hpl : (backTo pos (starEach es X.env)).any (·.1) = false := by rfl) :
    PE X (.Call (.Name x p) (e :: es) [] pos) (tCallS sp (WE W) t) := pe_callS F (hr.mono hj) hg hm hk hb (fun σ => L2N.passAt tk σ) ha hdb he hpl
def tCall0 (sp : Sp) (E : St → XK) : TE := fun σ H Q => sp [] H Q (E σ)
theorem callE0 (F : FnOk X.prog X.w X.K X.mg X.base (L2N.CX X.prog X.w) k f fd ps sp) (tk : L2N.Takes X W) (hr : Room j X.A) (hj : k ≤ j) (hg : Gl X x) (hm : X.mg x = some (.ref f)) (hk : PySem.W.keepIn X.K (.ref f) = true) (hb : Binds X.K fd ps [])
    (hdb : (x == ("__debug__" : Str)) = false := by decide) : PE X (.Call (.Name x p) [] [] pos) (tCall0 sp (WE W)) := by
  refine ⟨fun pins s σ H Q I h => ?_⟩
  refine wpAny_Call_Name_kw (ld_glob I hg hm ?_ hdb)
  exact PySem.W.callWith_K0 I.kIn hk (run_fnS (us := []) F (hr.mono hj) hb (L2N.passAt tk σ) I .nil h)
end
end Bk

/-! ### methods of own classes, makings -/
namespace Bk
open PySem L2 PyProof.Rows
/-- an own method that stands for the class at C -/
structure MethOk (X : Cx) (m : Str) (k : Nat) (C : Addr) (sp : Sp) : Prop where
  c : Cls X.K C
  ex : ∃ f fd ps, Meth X.K C m f ∧ FnOk X.prog X.w X.K X.mg X.base (L2N.CX X.prog X.w) k f fd ps sp ∧ Binds X.K fd ps []
inductive AltsOk (X : Cx) (m : Str) (k : Nat) : List (Addr × Sp) → Prop
  | nil : AltsOk X m k []
  | cons {C : Addr} {sp : Sp} {l : List (Addr × Sp)} (h : MethOk X m k C sp) (r : AltsOk X m k l) : AltsOk X m k ((C, sp) :: l)
theorem AltsOk.get {X : Cx} {m : Str} {k : Nat} : ∀ {l : List (Addr × Sp)}, AltsOk X m k l → ∀ {C : Addr} {sp : Sp}, (C, sp) ∈ l → MethOk X m k C sp
  | _, .nil, _, _, h => by cases h
  | _, .cons h r, _, _, q => by
    rcases List.mem_cons.mp q with e | q
    · cases e; exact h
    · exact r.get q
theorem MethOk.mk' {X : Cx} {m : Str} {k j : Nat} {C f : Addr} {sp : Sp} {fd : FuncData} {ps : List Str} (c : Cls X.K C) (hm : Meth X.K C m f) (F : FnOk X.prog X.w X.K X.mg X.base (L2N.CX X.prog X.w) j f fd ps sp) (hb : Binds X.K fd ps []) (hj : j ≤ k) : MethOk X m k C sp :=
  ⟨c, f, fd, ps, hm, F.mono hj, hb⟩
def tMethP (m : Str) (alts : List (Addr × Sp)) (E : St → XK) (ta : TE) (t : TA) : TE := fun σ H Q => ta σ H fun x H1 => ∃ a dx fs C sp, x = .ref a ∧ H1 a = some (.ins C dx fs) ∧ fs.lookup m = none ∧ (C, sp) ∈ alts ∧
  t σ H1 fun vs H2 => sp (x :: vs) H2 Q (E σ)
section
variable {X : Cx} {k j : Nat} {f C : Addr} {fd : FuncData} {ps : List Str} {sp : Sp} {W : WX} {x m : Str} {p pos apos : Pos} {e o : Expr} {es : List Expr} {ta : TE} {t : TA} {alts : List (Addr × Sp)}
theorem methE {pl : Sem Bool} (he : PE X o ta) (al : AltsOk X m k alts) (tk : L2N.Takes X W) (hr : Room j X.A) (hj : k ≤ j) (ha : PA X (e :: es) t)
    (hst : starEach (e :: es) X.env = (false, eval e X.env) :: starEach es X.env := by rfl) (hpl : (backTo pos (starEach es X.env)).any (·.1) = false := by rfl)
    (ht : eval (.Call (.Attribute o m apos) (e :: es) [] pos) X.env = (do
      let ov ← eval o X.env
      standAt apos.atName
      let (f, first) ← holding [ov] (getMethod ov m pl)
      callWith pos f first (backTo pos (starEach (e :: es) X.env)) (backToKw pos (keywordEach [] X.env))) := by rfl) :
    PE X (.Call (.Attribute o m apos) (e :: es) [] pos) (tMethP m alts (WE W) ta t) := by
  refine ⟨fun pins s σ H Q I h => ?_⟩
  refine PySem.W.methodCall_KW (pl := pl) (thn (he.run pins s σ H _ I h) fun u s1 ⟨x, H1, I1, rx, a, dx, fs, C, sp, ex, ea, l, hin, q⟩ => ?_) ht
  subst ex
  obtain rfl : u = Value.ref a := rx
  obtain ⟨c, f, fd, ps, hm, F, hb⟩ := al.get hin
  refine getmeth_ok I1 ea c hm l ?_
  refine PySem.W.callWith_K (first := [.ref a]) (h₀ := X.base) I.ok.mod.kin hm.kp (thn (ha.run pos pins s1 σ H1 _ I1 q) fun us s2 ⟨vs, H2, I2, r, q2⟩ => ⟨I2.kIn, ?_⟩) hst hpl
  exact run_fnS (us := .ref a :: us) (vs := .ref a :: vs) F (hr.mono hj) hb (L2N.passAt tk σ) I2 (.cons rfl r) q2
theorem methE0 {pl : Sem Bool} (he : PE X o ta) (al : AltsOk X m k alts) (tk : L2N.Takes X W) (hr : Room j X.A) (hj : k ≤ j)
    (ht : eval (.Call (.Attribute o m apos) [] [] pos) X.env = (do
      let ov ← eval o X.env
      standAt apos.atName
      let (f, first) ← holding [ov] (getMethod ov m pl)
      callWith pos f first (backTo pos (starEach [] X.env)) (backToKw pos (keywordEach [] X.env))) := by rfl) :
    PE X (.Call (.Attribute o m apos) [] [] pos) (tMethP m alts (WE W) ta tNil) := by
  refine ⟨fun pins s σ H Q I h => ?_⟩
  refine PySem.W.methodCall_KW (pl := pl) (thn (he.run pins s σ H _ I h) fun u s1 ⟨x, H1, I1, rx, a, dx, fs, C, sp, ex, ea, l, hin, q⟩ => ?_) ht
  subst ex
  obtain rfl : u = Value.ref a := rx
  obtain ⟨c, f, fd, ps, hm, F, hb⟩ := al.get hin
  refine getmeth_ok I1 ea c hm l ?_
  exact PySem.W.callWith_K0 (first := [.ref a]) I1.kIn hm.kp (run_fnS (us := [.ref a]) (vs := [.ref a]) F (hr.mono hj) hb (L2N.passAt tk σ) I1 (.cons rfl .nil) q)
def tMakeE (C : Addr) (sp : Sp) (E : St → XK) (t : TA) : TE := fun σ H Q => t σ H fun vs H1 => ∀ x dx, H1 x = none → H1 dx = none → dx ≠ x → sp (.ref x :: vs) (upd (upd H1 dx (.own x)) x (.ins C dx [])) (fun v H2 => v = .non ∧ Q (.ref x) H2) (E σ)
theorem run_makeS {pins : List (Addr × Obj)} {σ : St} {H : Hp} {s : Shared} {Q : VK} {us : List Value} {vs : List V} {E : St → XK} (M : Mk X.K C f) (F : FnOk X.prog X.w X.K X.mg X.base (L2N.CX X.prog X.w) k f fd ps sp) (hr : Room (k + 1) X.A) (hb : Binds X.K fd ps [])
    (hx : ∀ σ, PassesAt (L2N.CX X.prog X.w) X σ (E σ)) (I : Inv X pins σ H s) (r : Vals vs us)
    (h : ∀ x dx, H x = none → H dx = none → dx ≠ x → sp (.ref x :: vs) (upd (upd H dx (.own x)) x (.ins C dx [])) (fun v H2 => v = .non ∧ Q (.ref x) H2) (E σ)) :
    wpAny (model X.prog X.w) X.A (call (.ref C) us) (EP X pins σ Q) X.xe s := by
  have hq := h (s.heap.objs.size + 1) s.heap.objs.size (I.hok.fresh (Nat.le_succ _)) (I.hok.fresh (Nat.le_refl _)) (Nat.ne_of_lt (Nat.lt_succ_self _))
  have I2 := Inv.made (C := C) I
  have r2 : Vals (V.ref (s.heap.objs.size + 1) :: vs) (Value.ref (s.heap.objs.size + 1) :: us) := .cons rfl r
  have hl : (Value.ref (s.heap.objs.size + 1) :: us ++ []).length = ps.length := by
    have e := r2.length
    rw [F.len _ _ _ _ hq] at e
    rw [List.append_nil]
    exact e.symm
  have b := hb { s with heap := (s.heap.push { cls := .type "dict", data := .dict #[] }).push (PySem.W.instObj C s.heap.objs.size) } (Value.ref (s.heap.objs.size + 1) :: us) I2.kIn hl
  rw [List.append_nil] at b
  refine wpAny_call (make_map (f := f) I.kIn M.makes M.init (beq_iff_eq.mp M.fn) (codeAny_mono (F.run _ X.stack _ _ ⟨Value.ref (s.heap.objs.size + 1) :: us, []⟩ (Value.ref (s.heap.objs.size + 1) :: us) _ _ (E σ) (hr.make C us [])
    (I2.env0.make C us []) b r2 hq) fun r s' hq' => ?_))
  cases r with
  | error e => exact hx σ pins _ _ e s' I2 hq'
  | ok fl =>
    cases fl with
    | ret u =>
      obtain ⟨v, H', I3, rv, ev, q3⟩ := I2.after hq'
      subst ev
      exact ⟨rv, ⟨V.ref (s.heap.objs.size + 1), H', I3, rfl, q3⟩⟩
    | next => exact False.elim hq'
    | brk => exact False.elim hq'
    | cont => exact False.elim hq'
theorem makeE (M : Mk X.K C f) (F : FnOk X.prog X.w X.K X.mg X.base (L2N.CX X.prog X.w) k f fd ps sp) (tk : L2N.Takes X W) (hr : Room j X.A) (hj : k + 1 ≤ j) (hg : Gl X x) (hm : X.mg x = some (.ref C)) (hb : Binds X.K fd ps [])
    (ha : PA X (e :: es) t) (hdb : (x == ("__debug__" : Str)) = false := by decide) (he : starEach (e :: es) X.env = (false, eval e X.env) :: starEach es X.env := by rfl) (hpl : (backTo pos (starEach es X.env)).any (·.1) = false := by rfl) :
    PE X (.Call (.Name x p) (e :: es) [] pos) (tMakeE C sp (WE W) t) := by
  refine ⟨fun pins s σ H Q I h => ?_⟩
  refine wpAny_Call_Name_kw (ld_glob I hg hm ?_ hdb)
  refine PySem.W.callWith_K (h₀ := X.base) I.ok.mod.kin M.kp (thn (ha.run pos pins s σ H _ I h) fun us s1 ⟨vs, H1, I1, r, q⟩ => ⟨I1.kIn, ?_⟩) he hpl
  exact run_makeS M F (hr.mono hj) hb (fun σ => L2N.passAt tk σ) I1 r q
end
end Bk

/-! ### built-ins, of any kinds -/
namespace Bk
open PySem L2 PyProof.Rows
def rLenP (K : PySem.W.Frag) : List V → Hp → VK → Prop := fun xs H Q => (∃ x n, xs = [x] ∧ LenV K x H n ∧ Q (.int n) H) ∨ ∃ a kvs, xs = [V.ref a] ∧ H a = some (.dK kvs) ∧ Q (.int kvs.length) H
def rListP (K : PySem.W.Frag) : List V → Hp → VK → Prop := fun xs H Q => ∃ p ys, xs = [.ref p] ∧ (SqL K H p ys ∨ SqT K H p ys) ∧ ∀ l, H l = none → Q (.ref l) (upd H l (.lst ys))
def rTupleP (K : PySem.W.Frag) : List V → Hp → VK → Prop := fun xs H Q => ∃ p ys, xs = [.ref p] ∧ ((SqL K H p ys ∧ ∀ l, H l = none → Q (.ref l) (upd H l (.tup ys))) ∨ (SqT K H p ys ∧ Q (.ref p) H))
def rIntB : List V → Hp → VK → Prop := fun xs H Q => (∃ i, xs = [.int i] ∧ Q (.int i) H) ∨ ∃ k, xs = [.bl k] ∧ Q (.int (if k then 1 else 0)) H
def rIntP : List V → Hp → VK → Prop := fun xs H Q => rIntB xs H Q ∨ ∃ a n, xs = [.str a] ∧ PySem.intText? a = some n ∧ a.length ≤ 640 ∧ Q (.int n) H
def rAbsP : List V → Hp → VK → Prop := fun xs H Q => ∃ i, xs = [.int i] ∧ Q (.int (if i < 0 then -i else i)) H
def rMin2 : List V → Hp → VK → Prop := fun xs H Q => ∃ i j, xs = [.int i, .int j] ∧ Q (.int (if j < i then j else i)) H
def rMax2 : List V → Hp → VK → Prop := fun xs H Q => ∃ i j, xs = [.int i, .int j] ∧ Q (.int (if j > i then j else i)) H
section
variable {X : Cx}
theorem call_lenP : CallR X (.builtin "len") (rLenP X.K) := call_or call_len call_lenD
theorem call_listP : CallR X (.type "list") (rListP X.K) := call_list_of
theorem call_tupleP : CallR X (.type "tuple") (rTupleP X.K) := call_tuple_of
theorem call_intP : CallR X (.type "int") rIntP := call_or call_int1 call_int_str
/-- what is walked: a list, a tuple, a text; told when its value is known -/
def SeqC (K : PySem.W.Frag) (R : It → Hp → Prop) : VK := fun x H1 => (∃ a, x = .ref a ∧ ∃ xs, SqL K H1 a xs ∧ R (Itl K a) H1) ∨ (∃ a, x = .ref a ∧ ∃ xs, SqT K H1 a xs ∧ R (Itt K a) H1) ∨ ∃ z, x = .str z ∧ R (Its z) H1
def iSeqP (K : PySem.W.Frag) (tl : TE) : TI := fun σ H R => tl σ H (SeqC K R)
theorem pi_seqP {tg l : Expr} {tl : TE} (hl : PE X l tl) : PI X tg l (iSeqP X.K tl) := by
  refine ⟨fun pins s σ H R I h => thn (hl.run pins s σ H _ I h) ?_⟩
  rintro v s1 ⟨x, H1, I1, r1, ⟨a, rfl, xs, hq, q⟩ | ⟨a, rfl, xs, hq, q⟩ | ⟨z, rfl, q⟩⟩
  · cases r1
    obtain ⟨its, rv, p, hz⟩ := I1.list hq
    exact wpAny_pyIter_list p.isList (pi_one (tk := s1.toks) I1 _ (turn_list a _) ⟨_, Heap.get?_push_size _ rfl, rfl, rfl⟩ q)
  · cases r1
    obtain ⟨its, rv, p, hz⟩ := I1.tuple hq
    exact wpAny_pyIter_tuple p (pi_one (tk := s1.toks) I1 _ (turn_tuple a _) ⟨_, Heap.get?_push_size _ rfl, rfl, rfl⟩ q)
  · obtain ⟨t, rfl⟩ := r1
    cases ha : z.cps.all (· < 128)
    · exact wpAny_pyIter_wide ha (pi_one (tk := s1.toks) I1 _ (turn_str _ z t "str_iterator" (.inr rfl)) ⟨_, Heap.get?_push_size _ rfl, rfl, rfl⟩ q)
    · exact wpAny_pyIter_ascii ha (pi_one (tk := s1.toks) I1 _ (turn_str _ z t "str_ascii_iterator" (.inl rfl)) ⟨_, Heap.get?_push_size _ rfl, rfl, rfl⟩ q)
end
section
variable {H : Hp} {Q : VK} {K : PySem.W.Frag} {a : Addr} {xs : List V} {i j : Int} {z : Str}
theorem go_lenL (h : H a = some (.lst xs)) (q : Q (.int xs.length) H) : rLenP K [.ref a] H Q := .inl ⟨.ref a, xs.length, rfl, .inl ⟨xs, SqL.of h, rfl⟩, q⟩
theorem go_lenT (h : H a = some (.tup xs)) (q : Q (.int xs.length) H) : rLenP K [.ref a] H Q := .inl ⟨.ref a, xs.length, rfl, .inr ⟨xs, SqT.of h, rfl⟩, q⟩
theorem go_lenS (h : z.length ≤ sizeLine) (q : Q (.int z.length) H) : rLenP K [.str z] H Q := .inl ⟨.str z, z.length, rfl, ⟨h, rfl⟩, q⟩
theorem go_lenD {kvs : List (Key × V)} (h : H a = some (.dK kvs)) (q : Q (.int kvs.length) H) : rLenP K [.ref a] H Q := .inr ⟨a, kvs, rfl, h, q⟩
/-- the script's list, however it stands -/
theorem go_lenK (h : SqL K H a xs) (q : Q (.int xs.length) H) : rLenP K [.ref a] H Q := .inl ⟨.ref a, xs.length, rfl, .inl ⟨xs, h, rfl⟩, q⟩
theorem go_ixK {v : V} (h : SqL K H a xs) (hv : atI xs i = some v) (q : Q v H) : rIxP K (.ref a) (.int i) H Q := .inl ⟨a, xs, i, v, rfl, rfl, h, hv, q⟩
theorem go_listL (h : H a = some (.lst xs)) (q : ∀ p H1, New H p (.lst xs) H1 → Q (.ref p) H1) : rListP K [.ref a] H Q := ⟨a, xs, rfl, .inl (SqL.of h), new_of q⟩
theorem go_listT (h : H a = some (.tup xs)) (q : ∀ p H1, New H p (.lst xs) H1 → Q (.ref p) H1) : rListP K [.ref a] H Q := ⟨a, xs, rfl, .inr (SqT.of h), new_of q⟩
theorem go_tupleL (h : H a = some (.lst xs)) (q : ∀ p H1, New H p (.tup xs) H1 → Q (.ref p) H1) : rTupleP K [.ref a] H Q := ⟨a, xs, rfl, .inl ⟨SqL.of h, new_of q⟩⟩
theorem go_tupleT (h : H a = some (.tup xs)) (q : Q (.ref a) H) : rTupleP K [.ref a] H Q := ⟨a, xs, rfl, .inr ⟨SqT.of h, q⟩⟩
theorem go_intI (q : Q (.int i) H) : rIntP [.int i] H Q := .inl (.inl ⟨i, rfl, q⟩)
theorem go_intB {k : Bool} (q : Q (.int (if k then 1 else 0)) H) : rIntP [.bl k] H Q := .inl (.inr ⟨k, rfl, q⟩)
theorem go_abs (q : Q (.int (if i < 0 then -i else i)) H) : rAbsP [.int i] H Q := ⟨i, rfl, q⟩
theorem go_min2 (q : Q (.int (if j < i then j else i)) H) : rMin2 [.int i, .int j] H Q := ⟨i, j, rfl, q⟩
theorem go_max2 (q : Q (.int (if j > i then j else i)) H) : rMax2 [.int i, .int j] H Q := ⟨i, j, rfl, q⟩
theorem go_all {bs : List Bool} (h : H a = some (.lst (bs.map V.bl))) (q : Q (.bl (bs.all id)) H) : rAll K [.ref a] H Q := ⟨a, bs, rfl, SqL.of h, q⟩
theorem go_sum {ns : List Int} (h : H a = some (.lst (ns.map V.int))) (q : Q (.int ns.sum) H) : rSum K [.ref a] H Q := ⟨a, ns, rfl, SqL.of h, q⟩

/-! ### isinstance with a built-in class -/
/-- the kind of a value by its name -/
def tyN (H : Hp) : V → Option String
  | .non => some "NoneType"
  | .bl _ => some "bool"
  | .int _ => some "int"
  | .str _ => some "str"
  | .ref a => match H a with
    | some (.lst _) => some "list"
    | some (.tup _) => some "tuple"
    | some (.dK _) => some "dict"
    | _ => none
  | _ => none
theorem tyN_ok {x : V} {n : String} (h : tyN H x = some n) : TyX K H x (.type n) := by
  cases x with
  | non => cases h; exact .base .non
  | bl b => cases h; exact .base (.bl b)
  | int i => cases h; exact .base (.int i)
  | str s => cases h; exact .base (.str s)
  | byt b => cases h
  | flt b => cases h
  | ty n => cases h
  | ref a =>
    have h' : (match H a with | some (.lst _) => some "list" | some (.tup _) => some "tuple" | some (.dK _) => some "dict" | _ => none) = some n := h
    split at h'
    · rename_i e; cases h'; exact .base (.lst e)
    · rename_i e; cases h'; exact .base (.tup e)
    · rename_i e; cases h'; exact .base (.dK e)
    · cases h'
theorem tyN_L (h : H a = some (.lst xs)) : tyN H (.ref a) = some "list" := by simp [tyN, h]
theorem tyN_T (h : H a = some (.tup xs)) : tyN H (.ref a) = some "tuple" := by simp [tyN, h]
theorem tyN_D {kvs : List (Key × V)} (h : H a = some (.dK kvs)) : tyN H (.ref a) = some "dict" := by simp [tyN, h]
/-- isinstance(x, T), x of kind n -/
theorem go_isi {x : V} {n T : String} {r : Bool} (h : tyN H x = some n) (hr : kitB n T = some r) (q : Q (.bl r) H) : rIsi K [x, .ty T] H Q := ⟨x, .ty T, .type n, .type T, r, rfl, .ty T, tyN_ok h, kit_ty hr, q⟩
def isiB (n T : String) : Bool := (kitB n T).getD false
theorem kit_b' : ∀ n ∈ ["NoneType", "bool", "int", "str", "list", "tuple", "dict"], ∀ T ∈ ["bool", "int", "str", "list", "tuple", "dict"], kitB n T = some (n == T || (n == "bool" && T == "int")) := by decide +kernel
theorem kit_bb {n T : String} (h : n ∈ ["NoneType", "bool", "int", "str", "list", "tuple", "dict"]) (k : T ∈ ["bool", "int", "str", "list", "tuple", "dict"]) : kitB n T = some (n == T || (n == "bool" && T == "int")) := kit_b' n h T k
end
end Bk

/-! ### comprehensions and loops, by what each turn makes -/
namespace Bk
open PySem L2 PyProof.Rows
def LcK (g : TG) (tt : TT) (te : TE) (vs : List Nat) (σ : St) (Q : VK) : It → Hp → Prop := fun J H1 => tLc (fun _ H R => R J H) g tt te vs σ H1 Q
def ForK (g : TG) (tb : TS) (D : Ends) (σ : St) : It → Hp → Prop := fun J H1 => tFor (fun _ H R => R J H) g tb D σ H1
/-- one range's ends -/
def Rng1K (R : It → Hp → Prop) : List V → Hp → Prop := fun vs H1 => ∃ j : Int, vs = [.int j] ∧ -(2 ^ 62) ≤ j ∧ j < 2 ^ 62 ∧ R (Itr 0 j.toNat) H1
def Rng2K (R : It → Hp → Prop) : List V → Hp → Prop := fun vs H1 => ∃ i j : Int, vs = [.int i, .int j] ∧ (-(2 ^ 62) ≤ i ∧ i < 2 ^ 62 ∧ -(2 ^ 62) ≤ j ∧ j < 2 ^ 62) ∧ R (Itr i (j - i).toNat) H1
section
variable {σ : St} {H H1 : Hp} {Q : VK} {K : PySem.W.Frag} {wi : TI} {g : TG} {tt : TT} {te tl : TE} {vs : List Nat} {tb : TS} {D : Ends} {ta : TA} {R : It → Hp → Prop} {a : Addr} {xs : List V} {i j : Int} {z : Str} {nx bk ct : St → Hp → Prop} {rt : VK}
theorem go_lc (q : wi σ H (LcK g tt te vs σ Q)) : tLc wi g tt te vs σ H Q := q
theorem go_for (q : wi σ H (ForK g tb D σ)) : tFor wi g tb D σ H := q
theorem go_seqP (q : tl σ H (SeqC K R)) : iSeqP K tl σ H R := q
theorem go_seqL (h : H a = some (.lst xs)) (q : R (Itl K a) H) : SeqC K R (.ref a) H := .inl ⟨a, rfl, xs, SqL.of h, q⟩
theorem go_seqK (h : SqL K H a xs) (q : R (Itl K a) H) : SeqC K R (.ref a) H := .inl ⟨a, rfl, xs, h, q⟩
theorem go_seqT (h : H a = some (.tup xs)) (q : R (Itt K a) H) : SeqC K R (.ref a) H := .inr (.inl ⟨a, rfl, xs, SqT.of h, q⟩)
theorem go_seqS (q : R (Its z) H) : SeqC K R (.str z) H := .inr (.inr ⟨z, rfl, q⟩)
theorem go_rng1 (q : ta σ H (Rng1K R)) : iRng1 ta σ H R := q
theorem go_rng2 (q : ta σ H (Rng2K R)) : iRng2 ta σ H R := q
theorem go_rng1K (h : -(2 ^ 62) ≤ j ∧ j < 2 ^ 62) (q : R (Itr 0 j.toNat) H) : Rng1K R [.int j] H := ⟨j, rfl, h.1, h.2, q⟩
theorem go_rng2K (h : -(2 ^ 62) ≤ i ∧ i < 2 ^ 62 ∧ -(2 ^ 62) ≤ j ∧ j < 2 ^ 62) (q : R (Itr i (j - i).toNat) H) : Rng2K R [.int i, .int j] H := ⟨i, j, rfl, h, q⟩

theorem take_succ_of {α : Type} {l : List α} {i : Nat} {x : α} (h : l[i]? = some x) : l.take (i + 1) = l.take i ++ [x] := by rw [List.take_add_one, h]; rfl
/-- a list with tests and elements that leave what stands -/
theorem lc_L {m : Nat} {f : V → V} {p : V → Bool} (h : H1 a = some (.lst xs)) (hz : xs.length ≤ sizeLine)
    (test : ∀ (i : Nat) (x : V) (H' : Hp) (QB : Bool → Hp → Prop), xs[i]? = some x → Same H1 H' → (∀ H'', Same H' H'' → QB (p x) H'') → tt ((σ.set m none).set m (some x)) H' QB)
    (step : ∀ (i : Nat) (x : V) (H' : Hp) (Q' : VK), xs[i]? = some x → p x = true → Same H1 H' → (∀ H'', Same H' H'' → Q' (f x) H'') → te ((σ.set m none).set m (some x)) H' Q')
    (q : ∀ D H2, H1 D = none → Same H1 H2 → H2 D = some (.lst ((xs.filter p).map f)) → Q (.ref D) H2) : LcK (gName m) tt te [m] σ Q (Itl K a) H1 := by
  intro D hD
  refine lc_list (K := K) (a := a) (xs := xs) (fun i H => H D = some (.lst (((xs.take i).filter p).map f)) ∧ Same H1 H) ⟨upd_same, fun b o e => by rw [upd_ne (ne_of_none e hD)]; exact e⟩ (fun i H _ ⟨_, s⟩ => SqL.of (s _ _ h)) ?_ ?_
  · rintro i x H' hx ⟨hd, s⟩
    refine ⟨?_, test i x H' _ hx s ?_⟩
    · show ((σ.set m none).set m (some x)).set m none = σ.set m none
      rw [List.set_set, List.set_set]
    · rintro H'' s2
      have hd2 := s2 _ _ hd
      cases hb : p x with
      | false =>
        rw [if_neg Bool.false_ne_true]
        refine ⟨?_, s.trans s2⟩
        rw [take_succ_of hx, List.filter_append, List.filter_cons_of_neg (by rw [hb]; decide), List.filter_nil, List.append_nil]
        exact hd2
      | true =>
        rw [if_pos rfl]
        refine step i x H'' _ hx hb (s.trans s2) fun H3 s3 => ?_
        refine ⟨_, s3 _ _ hd2, ?_, ?_, fun b o e => ?_⟩
        · rw [List.length_map]
          have h1 := List.length_filter_le p (xs.take i)
          have h2 : (xs.take i).length ≤ i := by rw [List.length_take]; omega
          have h3 : i < xs.length := (List.getElem?_eq_some_iff.mp hx).1
          omega
        · rw [upd_same, take_succ_of hx, List.filter_append, List.filter_cons_of_pos hb, List.filter_nil, List.map_append]
          rfl
        · rw [upd_ne (ne_of_none e hD)]
          exact s3 _ _ (s2 _ _ (s _ _ e))
  · rintro H2 ⟨hd, s⟩
    rw [List.take_length] at hd
    exact q D H2 hD s hd
/-- no test -/
theorem yes_if {σ : St} {H : Hp} {A B : Hp → Prop} (h : A H) : tYes σ H (fun b H3 => if b = true then A H3 else B H3) := (iteT (B := B H) h : if true = true then A H else B H)
theorem monoYes : ∀ (σ : St) (H : Hp) (Q Q' : Bool → Hp → Prop), (∀ b H', Q b H' → Q' b H') → tYes σ H Q → tYes σ H Q' := fun _ _ _ _ h q => h _ _ q
theorem lc_mapL {m : Nat} {f : V → V} (h : H1 a = some (.lst xs)) (hz : xs.length ≤ sizeLine)
    (step : ∀ (i : Nat) (x : V) (H' : Hp) (Q' : VK), xs[i]? = some x → Same H1 H' → (∀ H'', Same H' H'' → Q' (f x) H'') → te ((σ.set m none).set m (some x)) H' Q')
    (q : ∀ D H2, H1 D = none → Same H1 H2 → H2 D = some (.lst (xs.map f)) → Q (.ref D) H2) : LcK (gName m) tYes te [m] σ Q (Itl K a) H1 := by
  intro D hD
  refine lc_list (K := K) (a := a) (xs := xs) (fun i H => H D = some (.lst ((xs.take i).map f)) ∧ Same H1 H) ⟨upd_same, fun b o e => by rw [upd_ne (ne_of_none e hD)]; exact e⟩ (fun i H _ ⟨_, s⟩ => SqL.of (s _ _ h)) ?_ ?_
  · rintro i x H' hx ⟨hd, s⟩
    refine ⟨?_, ?_⟩
    · show ((σ.set m none).set m (some x)).set m none = σ.set m none
      rw [List.set_set, List.set_set]
    · refine yes_if (step i x H' _ hx s fun H3 s3 => ?_)
      refine ⟨_, s3 _ _ hd, ?_, ?_, fun b o e => ?_⟩
      · rw [List.length_map]
        have h2 : (xs.take i).length ≤ i := by rw [List.length_take]; omega
        have h3 : i < xs.length := (List.getElem?_eq_some_iff.mp hx).1
        omega
      · rw [upd_same, take_succ_of hx, List.map_append]
        rfl
      · rw [upd_ne (ne_of_none e hD)]
        exact s3 _ _ (s _ _ e)
  · rintro H2 ⟨hd, s⟩
    rw [List.take_length] at hd
    exact q D H2 hD s hd
theorem lc_mapR {m n : Nat} {lo : Int} {f : Nat → V} (hz : n ≤ sizeLine)
    (step : ∀ i H' Q', i < n → Same H1 H' → (∀ H'', Same H' H'' → Q' (f i) H'') → te ((σ.set m none).set m (some (.int (lo + i)))) H' Q')
    (q : ∀ D H2, H1 D = none → Same H1 H2 → H2 D = some (.lst ((List.range n).map f)) → Q (.ref D) H2) : LcK (gName m) tYes te [m] σ Q (Itr lo n) H1 := by
  intro D hD
  refine lc_range (fun i H => H D = some (.lst ((List.range i).map f)) ∧ Same H1 H) ⟨upd_same, fun b o e => by rw [upd_ne (ne_of_none e hD)]; exact e⟩ ?_ ?_
  · rintro i H' hi ⟨hd, s⟩
    refine ⟨?_, ?_⟩
    · show ((σ.set m none).set m (some (.int (lo + i)))).set m none = σ.set m none
      rw [List.set_set, List.set_set]
    · refine yes_if (step i H' _ hi s fun H3 s3 => ?_)
      refine ⟨_, s3 _ _ hd, ?_, ?_, fun b o e => ?_⟩
      · rw [List.length_map, List.length_range]
        omega
      · rw [upd_same, List.range_succ, List.map_append]
        rfl
      · rw [upd_ne (ne_of_none e hD)]
        exact s3 _ _ (s _ _ e)
  · rintro H2 ⟨hd, s⟩
    exact q D H2 hD s hd

theorem len_cut (xs : List V) (lo hi : Option Int) : (cutV xs lo hi).length = min (HT.sIx xs.length xs.length hi - HT.sIx xs.length 0 lo) (xs.length - HT.sIx xs.length 0 lo) := by
  unfold cutV
  rw [List.length_take, List.length_drop]
/-! loops -/
theorem for_L {m : Nat} (INV : Nat → St → Hp → Prop) (h : ∀ i σ H, INV i σ H → H a = some (.lst xs)) (h0 : INV 0 σ H1)
    (hs : ∀ i x σ H, xs[i]? = some x → INV i σ H → tb ⟨INV (i + 1), rt, nx, INV (i + 1)⟩ (σ.set m (some x)) H) (hd : ∀ σ H, INV xs.length σ H → nx σ H) : ForK (gName m) tb ⟨nx, rt, bk, ct⟩ σ (Itl K a) H1 :=
  for_list (K := K) (a := a) (xs := xs) INV h0 (fun i σ H _ q => SqL.of (h i σ H q)) hs hd
theorem for_T {m : Nat} (INV : Nat → St → Hp → Prop) (h : ∀ i σ H, INV i σ H → H a = some (.tup xs)) (h0 : INV 0 σ H1)
    (hs : ∀ i x σ H, xs[i]? = some x → INV i σ H → tb ⟨INV (i + 1), rt, nx, INV (i + 1)⟩ (σ.set m (some x)) H) (hd : ∀ σ H, INV xs.length σ H → nx σ H) : ForK (gName m) tb ⟨nx, rt, bk, ct⟩ σ (Itt K a) H1 :=
  for_tup (K := K) (a := a) (xs := xs) INV h0 (fun i σ H _ q => SqT.of (h i σ H q)) hs hd
theorem for_R {m n : Nat} {lo : Int} (INV : Nat → St → Hp → Prop) (h0 : INV 0 σ H1)
    (hs : ∀ i σ H, i < n → INV i σ H → tb ⟨INV (i + 1), rt, nx, INV (i + 1)⟩ (σ.set m (some (.int (lo + i)))) H) (hd : ∀ σ H, INV n σ H → nx σ H) : ForK (gName m) tb ⟨nx, rt, bk, ct⟩ σ (Itr lo n) H1 :=
  for_range INV h0 hs hd
end
/-! what is raised -/
def tRaiseE (C : Addr) (W : WX) : TS := fun _ σ H => W (.ref C) none σ H
structure ExOk (K : PySem.W.Frag) (C : Addr) : Prop where
  q : PySem.W.excIn K C [.type "ValueError", .type "Exception", .type "BaseException", .type "object"] "ValueError.__new__" = true
  k : PySem.W.keepIn K (.ref C) = true
  s : PySem.W.subIn K (.ref C) (.type "BaseException") = some true
  t : PySem.W.typeIn K (.ref C) = some (.type "type")
theorem raiseE {X : Cx} {C : Addr} {W : WX} {x m : Str} {j : Nat} {p p2 pos pos' : Pos} (hc : X.calm = true) (tk : L2N.Takes X W) (e : ExOk X.K C) (hm : X.mg x = some (.ref C)) (hg : Gl X x := by rfl) (hdb : (x == ("__debug__" : Str)) = false := by decide) :
    PS X (.Raise (some (.Call (.Name x p) [.Constant (.str m) j p2] [] pos)) none pos') (tRaiseE C W) :=
  L2N.ps_raise hc tk (L2N.pmk_own PySem.F.excBase_ValueError e.q hm e.k (raises_own e.s e.t) hg hdb)
theorem go_raise {C : Addr} {W : WX} {D : Ends} {σ : St} {H : Hp} (q : W (.ref C) none σ H) : tRaiseE C W D σ H := q
/-! targets of several names -/
theorem pg_or {X : Cx} {tg : Expr} {g h : TG} (a : PG X tg g) (b : PG X tg h) : PG X tg (fun v σ H Q => g v σ H Q ∨ h v σ H Q) :=
  ⟨fun pins s σ H v u Q I r q => q.elim (fun q => a.run pins s σ H v u Q I r q) fun q => b.run pins s σ H v u Q I r q⟩
def gTupP (K : PySem.W.Frag) (n : Nat) (t : TGs) : TG := fun v σ H Q => gTup K n t v σ H Q ∨ gLst K n t v σ H Q
theorem pg_tupP {X : Cx} {pos : Pos} {es : List Expr} {k : Nat} {t : TGs} {n : Nat} (hc : X.calm = true) (h : PGs X es t) (hn : (assignEach es X.env).length = n := by rfl) (hst : (assignEach es X.env).findIdx? (·.1) = none := by rfl) :
    PG X (.Tuple es k pos) (gTupP X.K n t) := pg_or (pg_tup hc h hn hst) (pg_lst hc h hn hst)
section
variable {σ : St} {H : Hp} {K : PySem.W.Frag} {n : Nat} {t : TG} {u : TGs} {v : V} {a : Addr} {xs : List V} {Q : St → Hp → Prop}
theorem go_tupG (h : H a = some (.tup xs)) (hl : xs.length = n) (q : u xs σ H Q) : gTupP K n u (.ref a) σ H Q := .inl ⟨a, xs, rfl, SqT.of h, hl, q⟩
theorem go_lstG (h : H a = some (.lst xs)) (hl : xs.length = n) (q : u xs σ H Q) : gTupP K n u (.ref a) σ H Q := .inr ⟨a, xs, rfl, SqL.of h, hl, q⟩
theorem go_gNil (q : Q σ H) : gNil [] σ H Q := ⟨rfl, q⟩
theorem go_gCons {r : List V} (q : t v σ H fun σ' H' => u r σ' H' Q) : gCons t u (v :: r) σ H Q := ⟨v, r, rfl, q⟩
end
/-- the classes' places -/
structure Ac where
  (KeepError BadRow NoBlock Stopped BadDisk NoRoom TooMuch BadLog NoNode NoNodes TooLong OutOfPlace BadName BadPath NotFolder NotFile NoName NameThere NotEmpty Within BadOrder Disk Layout Batch Keeper : Addr)
end Bk

namespace Bk
open PySem L2 PyProof.Rows
/-! ### data -/
section
variable {K : PySem.W.Frag} {H H' : Hp} {Q : VK} {x y : V} {d e : PyData} {a b : Addr}
mutual
theorem Dp.same (s : Same H H') : ∀ {d : PyData} {v : V}, Dp K H v d → Dp K H' v d
  | _, _, .non => .non
  | _, _, .bl b => .bl b
  | _, _, .int i => .int i
  | _, _, .str x => .str x
  | _, _, .lst h k => .lst (s.seq h) (DpAll.same s k)
  | _, _, .tup h k => .tup (by rcases h with (h | ⟨o, h⟩) | h; exact .inl (.inl (s _ _ h)); exact .inl (.inr ⟨o, s _ _ h⟩); exact .inr h) (DpAll.same s k)
theorem DpAll.same (s : Same H H') : ∀ {ds : List PyData} {vs : List V}, DpAll K H vs ds → DpAll K H' vs ds
  | _, _, .nil => .nil
  | _, _, .cons h k => .cons (Dp.same s h) (DpAll.same s k)
end
theorem DpAll.ints : ∀ ns : List Int, DpAll K H (ns.map V.int) (ns.map PyData.int)
  | [] => .nil
  | n :: r => .cons (.int n) (DpAll.ints r)
theorem DpAll.bls : ∀ ns : List Bool, DpAll K H (ns.map V.bl) (ns.map PyData.bool)
  | [] => .nil
  | n :: r => .cons (.bl n) (DpAll.bls r)
theorem dp_ints {ns : List Int} (h : H a = some (.lst (ns.map V.int))) : Dp K H (.ref a) (.list (ns.map PyData.int)) := .lst (SqL.of h) (DpAll.ints ns)
theorem dp_bls {ns : List Bool} (h : H a = some (.lst (ns.map V.bl))) : Dp K H (.ref a) (.list (ns.map PyData.bool)) := .lst (SqL.of h) (DpAll.bls ns)
theorem eqv_ints : ∀ ns ms : List Int, PyData.eqvAll (ns.map PyData.int) (ms.map PyData.int) = decide (ns = ms)
  | [], [] => by simp [PyData.eqvAll]
  | [], _ :: _ => by simp [PyData.eqvAll]
  | _ :: _, [] => by simp [PyData.eqvAll]
  | n :: r, m :: q => by
    simp only [List.map_cons, PyData.eqvAll, PyData.eqv, eqv_ints r q, List.cons.injEq, Bool.decide_and]
    rfl
theorem eqv_bls : ∀ ns ms : List Bool, PyData.eqvAll (ns.map PyData.bool) (ms.map PyData.bool) = decide (ns = ms)
  | [], [] => by simp [PyData.eqvAll]
  | [], _ :: _ => by simp [PyData.eqvAll]
  | _ :: _, [] => by simp [PyData.eqvAll]
  | n :: r, m :: q => by
    simp only [List.map_cons, PyData.eqvAll, PyData.eqv, eqv_bls r q, List.cons.injEq, Bool.decide_and]
    cases n <;> cases m <;> rfl
theorem shaped_bls (ns : List Bool) : SeqAt.shaped (.list (ns.map PyData.bool)) = true := by
  have h1 : ∀ ns : List Bool, PyData.canLayAll0 (ns.map PyData.bool) = true := fun ns => by induction ns with
    | nil => simp [PyData.canLayAll0]
    | cons n r ih => simp [PyData.canLayAll0, PyData.canLay0, ih]
  have h2 : ∀ ns : List Bool, PyData.depthAll (ns.map PyData.bool) ≤ 1 := fun ns => by induction ns with
    | nil => simp [PyData.depthAll]
    | cons n r ih => simp only [List.map_cons, PyData.depthAll, PyData.depth]; omega
  have h3 := h2 ns
  unfold SeqAt.shaped
  rw [Bool.and_eq_true]
  exact ⟨by simp only [PyData.canLay0]; exact h1 ns, decide_eq_true (by simp only [PyData.depth]; omega)⟩
theorem go_eqD (h : Dp K H x d) (k : Dp K H y e) (hd : SeqAt.shaped d = true) (he : SeqAt.shaped e = true) (q : Q (.bl (PyData.eqv d e)) H) : rEqP K x y H Q := .inr ⟨d, e, h, k, hd, he, q⟩
theorem go_neD (h : Dp K H x d) (k : Dp K H y e) (hd : SeqAt.shaped d = true) (he : SeqAt.shaped e = true) (q : Q (.bl (!PyData.eqv d e)) H) : rNeP K x y H Q := .inr ⟨d, e, h, k, hd, he, q⟩
theorem go_eqIs {ns ms : List Int} (h : H a = some (.lst (ns.map V.int))) (k : H b = some (.lst (ms.map V.int))) (q : Q (.bl (decide (ns = ms))) H) : rEqP K (.ref a) (.ref b) H Q :=
  go_eqD (dp_ints h) (dp_ints k) (PySem.W.shaped_ints ns) (PySem.W.shaped_ints ms) (by rw [PyData.eqv, eqv_ints]; exact q)
theorem go_neIs {ns ms : List Int} (h : H a = some (.lst (ns.map V.int))) (k : H b = some (.lst (ms.map V.int))) (q : Q (.bl (!decide (ns = ms))) H) : rNeP K (.ref a) (.ref b) H Q :=
  go_neD (dp_ints h) (dp_ints k) (PySem.W.shaped_ints ns) (PySem.W.shaped_ints ms) (by rw [PyData.eqv, eqv_ints]; exact q)
theorem go_eqBs {ns ms : List Bool} (h : H a = some (.lst (ns.map V.bl))) (k : H b = some (.lst (ms.map V.bl))) (q : Q (.bl (decide (ns = ms))) H) : rEqP K (.ref a) (.ref b) H Q :=
  go_eqD (dp_bls h) (dp_bls k) (shaped_bls ns) (shaped_bls ms) (by rw [PyData.eqv, eqv_bls]; exact q)
/-- two that hold the same data -/
theorem go_neSame (h : Dp K H x d) (k : Dp K H y d) (hd : SeqAt.shaped d = true) (q : Q (.bl false) H) : rNeP K x y H Q :=
  go_neD h k hd hd (by rw [PySem.SeqAt.eqv_refl d (SeqAt.canLay_of_shaped hd)]; exact q)
theorem go_eqSame (h : Dp K H x d) (k : Dp K H y d) (hd : SeqAt.shaped d = true) (q : Q (.bl true) H) : rEqP K x y H Q :=
  go_eqD h k hd hd (by rw [PySem.SeqAt.eqv_refl d (SeqAt.canLay_of_shaped hd)]; exact q)
theorem tyN_same {n : String} (s : Same H H') (h : tyN H x = some n) : tyN H' x = some n := by
  cases x with
  | ref a =>
    have h' : (match H a with | some (.lst _) => some "list" | some (.tup _) => some "tuple" | some (.dK _) => some "dict" | _ => none) = some n := h
    split at h'
    · rename_i e; rw [← h']; exact tyN_L (s _ _ e)
    · rename_i e; rw [← h']; exact tyN_T (s _ _ e)
    · rename_i e; rw [← h']; exact tyN_D (s _ _ e)
    · cases h'
  | _ => exact h
end
end Bk

/-! ### a script's cells; items at open places; known things -/
namespace Bk
open PySem L2 PyProof.Rows
section
variable {K : PySem.W.Frag} {H H' : Hp} {Q : VK}
theorem atI_some {α : Type} {xs : List α} {j : Int} (h0 : 0 ≤ j) (h1 : j < xs.length) : ∃ v, atI xs j = some v ∧ v ∈ xs ∧ xs[j.toNat]? = some v := by
  have h2 : j.toNat < xs.length := by omega
  refine ⟨xs[j.toNat], ?_, List.getElem_mem h2, List.getElem?_eq_getElem h2⟩
  have := atI_nat (xs := xs) (j := j.toNat) (List.getElem?_eq_getElem h2)
  rwa [Int.toNat_of_nonneg h0] at this
theorem go_ixLo {a : Addr} {xs : List V} {j : Int} (h : H a = some (.lst xs)) (hj : 0 ≤ j ∧ j < xs.length) (q : ∀ v, v ∈ xs → xs[j.toNat]? = some v → Q v H) : rIxP K (.ref a) (.int j) H Q := by
  obtain ⟨v, h1, h2, h3⟩ := atI_some hj.1 hj.2
  exact go_ixL h h1 (q v h2 h3)
/-- the k-th cell of a script, nought behind its end -/
def cellI (ns : List Int) (k : Int) : Int := ns.getD k.toNat 0
theorem cell_in {ns : List Int} {k : Int} (h : 0 ≤ k) (h2 : k < ns.length) : atI (ns.map V.int) k = some (.int (cellI ns k)) := by
  obtain ⟨v, e, _, e2⟩ := atI_some (xs := ns.map V.int) h (by simpa using h2)
  rw [e]
  rw [List.getElem?_map] at e2
  unfold cellI
  cases q : ns[k.toNat]? with
  | none => rw [q] at e2; cases e2
  | some z => rw [q] at e2; cases e2; rw [List.getD_eq_getElem?_getD, q]; rfl
theorem cell_out {ns : List Int} {k : Int} (h : ¬ k < ns.length) : cellI ns k = 0 := by
  unfold cellI
  rw [List.getD_eq_getElem?_getD, List.getElem?_eq_none (by omega)]
  rfl
/-- a thing whose kind and data are known, no deeper than a list of plain things -/
def Itm (K : PySem.W.Frag) (H : Hp) (y : V) : Prop := (∃ n, tyN H y = some n) ∧ ∃ d, Dp K H y d ∧ d.canLay0 = true ∧ d.depth ≤ 2
theorem Itm.same {y : V} (s : Same H H') (h : Itm K H y) : Itm K H' y := ⟨let ⟨n, e⟩ := h.1; ⟨n, tyN_same s e⟩, let ⟨d, e, c⟩ := h.2; ⟨d, Dp.same s e, c⟩⟩
theorem Itm.int (i : Int) : Itm K H (.int i) := ⟨⟨_, rfl⟩, _, .int i, by simp [PyData.canLay0], by simp [PyData.depth]⟩
theorem Itm.str (i : Str) (h : PyData.strOk i = true) : Itm K H (.str i) := ⟨⟨_, rfl⟩, _, .str i, by simp [PyData.canLay0, h], by simp [PyData.depth]⟩
theorem Itm.bl (i : Bool) : Itm K H (.bl i) := ⟨⟨_, rfl⟩, _, .bl i, by simp [PyData.canLay0], by simp [PyData.depth]⟩
theorem Itm.non : Itm K H .non := ⟨⟨_, rfl⟩, _, .non, by simp [PyData.canLay0], by simp [PyData.depth]⟩
theorem Itm.ints {a : Addr} {ns : List Int} (h : H a = some (.lst (ns.map V.int))) : Itm K H (.ref a) := by
  have h1 := PySem.W.shaped_ints ns
  have h2 := PySem.W.depthAll_ints ns
  exact ⟨⟨_, tyN_L h⟩, _, dp_ints h, SeqAt.canLay_of_shaped h1, by simp only [PyData.depth]; omega⟩
theorem Itm.tup0 {a : Addr} (h : H a = some (.tup [])) : Itm K H (.ref a) := ⟨⟨_, tyN_T h⟩, .tuple [], .tup (SqT.of h) .nil, by simp [PyData.canLay0, PyData.canLayAll0], by simp [PyData.depth, PyData.depthAll]⟩
theorem itms {xs : List V} (h : ∀ y ∈ xs, Itm K H y) : ∃ ds, DpAll K H xs ds ∧ PyData.canLayAll0 ds = true ∧ PyData.depthAll ds ≤ 2 := by
  induction xs with
  | nil => exact ⟨[], .nil, by simp [PyData.canLayAll0], by simp [PyData.depthAll]⟩
  | cons x r ih =>
    obtain ⟨ds, h1, h2, h3⟩ := ih fun y hy => h y (List.mem_cons_of_mem _ hy)
    obtain ⟨_, d, k1, k2, k3⟩ := h x List.mem_cons_self
    exact ⟨d :: ds, .cons k1 h1, by simp [PyData.canLayAll0, k2, h2], by simp only [PyData.depthAll]; omega⟩
theorem shapedL {ds : List PyData} (h : PyData.canLayAll0 ds = true) (k : PyData.depthAll ds ≤ 2) : SeqAt.shaped (.list ds) = true := by
  unfold SeqAt.shaped
  rw [Bool.and_eq_true]
  exact ⟨by simp only [PyData.canLay0]; exact h, decide_eq_true (by simp only [PyData.depth]; omega)⟩
theorem shapedT {ds : List PyData} (h : PyData.canLayAll0 ds = true) (k : PyData.depthAll ds ≤ 2) : SeqAt.shaped (.tuple ds) = true := by
  unfold SeqAt.shaped
  rw [Bool.and_eq_true]
  exact ⟨by simp only [PyData.canLay0]; exact h, decide_eq_true (by simp only [PyData.depth]; omega)⟩
end
end Bk

namespace Bk
open PySem L2 PyProof.Rows
theorem kindR {H : Hp} {p : Addr} {n : String} (h : tyN H (.ref p) = some n) : (n = "list" ∧ ∃ xs, H p = some (.lst xs)) ∨ (n = "tuple" ∧ ∃ xs, H p = some (.tup xs)) ∨ (n = "dict" ∧ ∃ kvs, H p = some (.dK kvs)) := by
  have h' : (match H p with | some (.lst _) => some "list" | some (.tup _) => some "tuple" | some (.dK _) => some "dict" | _ => none) = some n := h
  split at h'
  · rename_i e; cases h'; exact .inl ⟨rfl, _, e⟩
  · rename_i e; cases h'; exact .inr (.inl ⟨rfl, _, e⟩)
  · rename_i e; cases h'; exact .inr (.inr ⟨rfl, _, e⟩)
  · cases h'
end Bk

/-! ### slices from and to a place -/
namespace Bk
open PySem L2 PyProof.Rows
theorem cut_take (xs : List V) {k : Int} (h : 0 ≤ k) : cutV xs none (some k) = xs.take k.toNat := by
  unfold cutV HT.sIx
  simp only [if_neg (show ¬ k < 0 by omega), Nat.sub_zero, List.drop_zero]
  by_cases c : k.toNat ≤ xs.length
  · rw [Nat.min_eq_left c]
  · rw [Nat.min_eq_right (by omega), List.take_length, List.take_of_length_le (by omega)]
theorem cut_drop (xs : List V) {k : Int} (h : 0 ≤ k) : cutV xs (some k) none = xs.drop k.toNat := by
  unfold cutV HT.sIx
  simp only [if_neg (show ¬ k < 0 by omega)]
  by_cases c : k.toNat ≤ xs.length
  · rw [Nat.min_eq_left c, List.take_of_length_le (by rw [List.length_drop]; omega)]
  · rw [Nat.min_eq_right (by omega), List.drop_length, List.drop_of_length_le (by omega)]
    simp
theorem cut_mid (xs : List V) {i k : Int} (h : 0 ≤ i) (h2 : 0 ≤ k) : cutV xs (some i) (some k) = (xs.drop i.toNat).take (k.toNat - i.toNat) := by
  unfold cutV HT.sIx
  simp only [if_neg (show ¬ k < 0 by omega), if_neg (show ¬ i < 0 by omega)]
  by_cases c : i.toNat ≤ xs.length
  · rw [Nat.min_eq_left c]
    by_cases c2 : k.toNat ≤ xs.length
    · rw [Nat.min_eq_left c2]
    · rw [Nat.min_eq_right (by omega), List.take_of_length_le (by rw [List.length_drop]; omega), List.take_of_length_le (by rw [List.length_drop]; omega)]
  · rw [Nat.min_eq_right (show xs.length ≤ i.toNat by omega), List.drop_length, List.drop_of_length_le (show xs.length ≤ i.toNat by omega)]
    simp
theorem cut_all (xs : List V) : cutV xs none none = xs := by
  unfold cutV HT.sIx
  simp
end Bk

/-! ### methods of lists; loops that only look -/
namespace Bk
open PySem L2 PyProof.Rows
def BmK (K : PySem.W.Frag) (T : String) (r : V → List V → Hp → VK → Prop) (t : TA) (σ : St) (Q : VK) : VK := fun x H1 => tyV K T x H1 ∧ t σ H1 fun xs H2 => r x xs H2 Q
section
variable {K : PySem.W.Frag} {H H1 : Hp} {Q : VK} {σ : St} {T : String} {r : V → List V → Hp → VK → Prop} {to : TE} {t : TA} {a b : Addr} {xs ys : List V} {y : V} {tb : TS} {nx bk ct : St → Hp → Prop} {rt : VK}
theorem go_bm (q : to σ H (BmK K T r t σ Q)) : tBM K T r to t σ H Q := q
theorem go_bm0 (q : to σ H (BmK K T r tNil σ Q)) : tBM0 K T r to σ H Q := q
theorem go_bmL (h : H a = some (.lst xs)) (q : t σ H fun xs H2 => r (.ref a) xs H2 Q) : BmK K "list" r t σ Q (.ref a) H := ⟨.inl ⟨rfl, _, SqL.of h⟩, q⟩
theorem go_append (h : H a = some (.lst xs)) (hz : xs.length < sizeLine) (q : ∀ H1, Wr H a (.lst (xs ++ [y])) H1 → Q .non H1) : rAppend (.ref a) [y] H Q := ⟨a, xs, y, rfl, rfl, h, hz, wr_of h q⟩
theorem go_extend (h : H a = some (.lst xs)) (k : H b = some (.lst ys)) (hz : xs.length + ys.length ≤ sizeLine) (q : ∀ H1, Wr H a (.lst (xs ++ ys)) H1 → Q .non H1) : rExtend (.ref a) [.ref b] H Q := ⟨a, b, xs, ys, rfl, rfl, h, k, hz, wr_of h q⟩
theorem go_clear (h : H a = some (.lst xs)) (q : ∀ H1, Wr H a (.lst []) H1 → Q .non H1) : rClear (.ref a) [] H Q := ⟨a, xs, rfl, rfl, h, wr_of h q⟩
theorem go_dnew (q : ∀ p H1, New H p (.dK []) H1 → Q (.ref p) H1) : tDNewK σ H Q := new_of q
theorem go_call0 {sp : Sp} {E : St → XK} (q : sp [] H Q (E σ)) : tCall0 sp E σ H Q := q
theorem seq' {K : PySem.W.Frag} {H H1 : Hp} {a : Addr} {xs : List V} (h : SqL K H a xs) (s : Same H H1) : SqL K H1 a xs := s.seq h
theorem ne_none {u : HO} (n : H b = none) (h : H a = some u) : a ≠ b := ne_of_none h n
/-- a loop whose turns let stand what stood -/
theorem for_lookL {m : Nat} (h : H1 a = some (.lst xs)) (h0 : ∃ v, σ = σ.set m v)
    (turn : ∀ (i : Nat) (x : V) (H' : Hp) (N : St → Hp → Prop), xs[i]? = some x → Same H1 H' → (∀ H'', Same H' H'' → N (σ.set m (some x)) H'') → tb ⟨N, rt, nx, N⟩ (σ.set m (some x)) H')
    (fin : ∀ v H', Same H1 H' → nx (σ.set m v) H') : ForK (gName m) tb ⟨nx, rt, bk, ct⟩ σ (Itl K a) H1 := by
  refine for_L (xs := xs) (fun i σ' H' => ∃ v, σ' = σ.set m v ∧ Same H1 H') (fun i σ' H' ⟨_, _, s⟩ => s _ _ h) (let ⟨v, e⟩ := h0; ⟨v, e, Same.refl _⟩) ?_ ?_
  · rintro i x σ' H' hx ⟨v, rfl, s⟩
    rw [List.set_set]
    exact turn i x H' _ hx s fun H'' s2 => ⟨_, rfl, s.trans s2⟩
  · rintro σ' H' ⟨v, rfl, s⟩
    exact fin v H' s
theorem for_lookT {m : Nat} (h : H1 a = some (.tup xs)) (h0 : ∃ v, σ = σ.set m v)
    (turn : ∀ (i : Nat) (x : V) (H' : Hp) (N : St → Hp → Prop), xs[i]? = some x → Same H1 H' → (∀ H'', Same H' H'' → N (σ.set m (some x)) H'') → tb ⟨N, rt, nx, N⟩ (σ.set m (some x)) H')
    (fin : ∀ v H', Same H1 H' → nx (σ.set m v) H') : ForK (gName m) tb ⟨nx, rt, bk, ct⟩ σ (Itt K a) H1 := by
  refine for_T (xs := xs) (fun i σ' H' => ∃ v, σ' = σ.set m v ∧ Same H1 H') (fun i σ' H' ⟨_, _, s⟩ => s _ _ h) (let ⟨v, e⟩ := h0; ⟨v, e, Same.refl _⟩) ?_ ?_
  · rintro i x σ' H' hx ⟨v, rfl, s⟩
    rw [List.set_set]
    exact turn i x H' _ hx s fun H'' s2 => ⟨_, rfl, s.trans s2⟩
  · rintro σ' H' ⟨v, rfl, s⟩
    exact fin v H' s
end
end Bk

/-! our own: loops, comprehensions, calls where an exception may be in hand (hot) or not (calm) -/
namespace Bk
open PySem L2 PyProof.Rows L2H HotX
/-- the exception in hand stands: pinned, or older than the entry -/
def HotY (X : Cx) : Prop := ∃ p : Addr × Obj, Hot1 X.A p ∧ (p ∈ X.pn ∨ (X.s_0.heap.get? p.1 = some p.2 ∧ X.H_0 p.1 = none ∧ p.1 ∉ X.fs ∧ p.1 ∉ X.ex))
def CoH (X : Cx) : Prop := X.calm = true ∨ HotY X
section
variable {X : Cx} {pins : List (Addr × Obj)} {σ : Bk.St} {H : Hp} {s : Shared}
theorem HotY.pin (I : Inv X pins σ H s) {p : Addr × Obj} (h : p ∈ X.pn ∨ (X.s_0.heap.get? p.1 = some p.2 ∧ X.H_0 p.1 = none ∧ p.1 ∉ X.fs ∧ p.1 ∉ X.ex)) : s.heap.get? p.1 = some p.2 ∧ H p.1 = none := by
  rcases h with h | ⟨a, b, c, d⟩
  · have z := I.pin p (List.mem_append_left _ h)
    exact ⟨z.1, z.2.1⟩
  · exact ⟨I.base.keep _ _ a b c d, I.base.free _ _ a b d⟩
theorem HotY.at (c : HotY X) (I : Inv X pins σ H s) : ∃ x1, HotAt X.A x1 s.heap := by
  obtain ⟨p, ⟨hh, v1, e1, c1⟩, hp⟩ := c
  exact ⟨p.1, hh, p.2, v1, (HotY.pin I hp).1, e1, c1⟩
theorem HotY.of (c : HotC X) : HotY X := let ⟨p, h, k⟩ := c; ⟨p, h, .inl k⟩
/-- .. so in a comprehension's block -/
theorem HotY.blk {scope : Scope} {ce : Env} {fp : List Addr} (c : HotY X) (I : Inv X pins σ H s) (hf : ∀ b ∈ fp, FpOk X pins H b) : HotY (X.blk s H scope ce fp) := by
  obtain ⟨p, h1, hp⟩ := c
  have z := HotY.pin I hp
  refine ⟨p, h1, .inr ⟨z.1, z.2, fun q => ?_, fun q => ?_⟩⟩
  · have q' : p.1 ∈ X.env.locals :: X.fs := I.stkSub p.1 q
    rcases hp with hp | ⟨a, b, c, d⟩
    · have w := I.pin p (List.mem_append_left _ hp)
      exact (List.mem_cons.mp q').elim w.2.2.1 w.2.2.2.1
    · exact (List.mem_cons.mp q').elim (fun e => Nat.ne_of_lt (Nat.lt_of_lt_of_le (Heap.lt_size a) I.ok.above) e) c
  · obtain ⟨_, _, _, f3, _, f5⟩ := hf p.1 q
    rcases hp with hp | ⟨a, b, c, d⟩
    · exact f5 p (List.mem_append_left _ hp) rfl
    · rcases f3 with f3 | f3
      · exact d f3
      · exact absurd (Nat.lt_of_lt_of_le (Heap.lt_size a) f3) (Nat.lt_irrefl _)
theorem CoH.blk {scope : Scope} {ce : Env} {fp : List Addr} (c : CoH X) (I : Inv X pins σ H s) (hf : ∀ b ∈ fp, FpOk X pins H b) : CoH (X.blk s H scope ce fp) :=
  c.elim (fun h => .inl h) fun h => .inr (h.blk I hf)
end
/-- a list's end while an exception is in hand -/
theorem list_end_hot {prog : Program} {w : World} {A : Around} {E : Value → Shared → Prop} {s : Shared} {it l x1 : Addr} {i : Nat} {items : Array Value} {Q : Option Value → Shared → Prop} (hot : HotAt A x1 s.heap)
    (hit : s.heap.IsListIter it l i) (hl : s.heap.IsList l items) (hx : items[i]? = none) (hQ : ∀ h', (∀ b o, b ≠ it → s.heap.get? b = some o → h'.get? b = some o) → Q none { s with heap := h' }) : wpAny (model prog w) A (pyNext (.ref it)) Q E s := by
  obtain ⟨o, ho, hc, hd⟩ := id hit
  obtain ⟨ol, hol, _, nl, hdl⟩ := hl
  obtain ⟨hh, o1, vs1, h1, d1, c1⟩ := hot
  have ne : x1 ≠ it := fun e => by
    rw [e, ho] at h1; cases h1
    rw [hd] at d1; cases d1
    simp at c1
  unfold pyNext
  refine wpAny_bind (wpAny_attempt (wpAny_callSpecial?_slot (name := Str.ofString "__next__") hit.typeIs slot_listiter_next (wpAny_call_entry slot_listiter_next hit.typeIs entry_listiter_next ?_ (args_listiter_next _))))
  show wpAny _ _ (field (.ref it) 0 >>= _) _ _ s
  refine wpAny_bind (wpAny_field ho hd (x := .ref l) rfl ?_)
  show wpAny _ _ (if (Value.ref l == Value.none) = true then _ else _) _ _ s
  rw [if_neg (show ¬ ((Value.ref l == Value.none) = true) from Bool.false_ne_true)]
  show wpAny _ _ (field (.ref it) 1 >>= _) _ _ s
  refine wpAny_bind (wpAny_field ho hd (x := .int i 0) rfl ?_)
  show wpAny _ _ (seqItems? (.ref l) >>= _) _ _ s
  refine wpAny_bind (wpAny_seqItems hol hdl ?_)
  simp only [Int.toNat_natCast, hx]
  refine wpAny_bind (wpAny_rule (wpAny_bind (wpAny_setField ho hd (by simp) ?_)))
  show wpAny _ _ (newExc (.type "StopIteration") [] >>= _) _ _ _
  refine wpAny_bind ?_
  simp only [newExc, newTuple]
  refine wpAny_bind (wpAny_newObj_type ?_ (by size_fits))
  refine wpAny_bind (m := firstArgMember _ _) (wpAny_of_eq (a := Value.none) (by first | rfl | (simp only [firstArgMember]; rfl)) ?_)
  refine wpAny_newObj_type ?_ (by size_fits)
  have keep : ∀ b o', b ≠ it → s.heap.get? b = some o' → ((s.heap.update it (Obj.mapFields (·.setIfInBounds 0 Value.none))).get? b) = some o' := fun b o' hb e => (Heap.get?_update_other _ _ (Ne.symm hb)).trans e
  refine raiseNew_hot ⟨hh, o1, vs1, Heap.get?_push_of_some _ (Heap.get?_push_of_some _ (keep x1 o1 ne h1)), d1, c1⟩ (Nat.ne_of_lt (Heap.lt_size (Heap.get?_push_of_some _ (keep x1 o1 ne h1)))) (Heap.get?_push_size _ rfl) rfl (by first | (simp; done) | (simp; omega) | (simp only [Array.size_append]; simp; omega)) ?_
  refine wpAny_bind (wpAny_isInstance (T := "StopIteration") (b := true) ⟨_, Heap.get?_update_self _ (Heap.get?_push_size _ rfl) rfl, rfl⟩ isSubtype_stop ?_)
  refine wpAny_pure (hQ _ fun b o' hb e => ?_)
  have e2 := keep b o' hb e
  rw [Heap.get?_update_other _ _ (Nat.ne_of_gt (Heap.lt_size (Heap.get?_push_of_some _ e2)))]
  exact Heap.get?_push_of_some _ (Heap.get?_push_of_some _ e2)

/-! ### what is walked, calm or hot -/
structure TurnY (P : Program) (w : World) (K : PySem.W.Frag) (tg : Expr) (J : It) (fp : List Addr) (it : Addr) (tn : Nat → Heap → Prop) : Prop where
  mem : it ∈ fp
  obj : ∀ i h, tn i h → ∀ b ∈ fp, ∃ o, h.get? b = some o ∧ ∀ v, o.data ≠ .cell v
  keep : ∀ i h h', tn i h → (∀ b ∈ fp, ∀ o, h.get? b = some o → h'.get? b = some o) → tn i h'
  item : ∀ (X : Cx), X.prog = P → X.w = w → X.K = K → CoH X → ∀ (i : Nat) (pins : List (Addr × Obj)) (s : Shared) (σ : Bk.St) (H : Hp) (E : Value → Shared → Prop), Inv X pins σ H s → (∀ b ∈ fp, FpOk X pins H b) → tn i s.heap → J.go i H →
    wpAny (model P w) X.A (pyNext (.ref it)) (fun r s1 => ∃ u, r = some u ∧ wpAny (model P w) X.A (letOwnedTupleGo tg (.ref it) u) (fun _ s2 => ∃ x H', Inv X pins σ H' s2 ∧ RelV x u ∧ J.yld i H x H' ∧ tn (i + 1) s2.heap ∧ ∀ b ∈ fp, H' b = none) E s1) E s
  done : ∀ (X : Cx), X.prog = P → X.w = w → X.K = K → CoH X → ∀ (i : Nat) (pins : List (Addr × Obj)) (s : Shared) (σ : Bk.St) (H : Hp) (E : Value → Shared → Prop), Inv X pins σ H s → (∀ b ∈ fp, FpOk X pins H b) → tn i s.heap → J.stop i H →
    wpAny (model P w) X.A (pyNext (.ref it)) (fun r s1 => r = none ∧ Inv X pins σ H s1) E s
  self : ∀ (A : Around) (i : Nat) (s : Shared) (Q : Value → Shared → Prop) (E : Value → Shared → Prop), tn i s.heap → Q (.ref it) s → wpAny (model P w) A (pyIter (.ref it)) Q E s
theorem turnY_list {P : Program} {w : World} {K : PySem.W.Frag} {tg : Expr} (a it : Addr) : TurnY P w K tg (Itl K a) [it] it (fun i h => h.IsListIter it a i) where
  mem := by simp
  obj := (turn_list (P := P) (w := w) (K := K) (tg := tg) a it).obj
  keep := (turn_list (P := P) (w := w) (K := K) (tg := tg) a it).keep
  self := (turn_list (P := P) (w := w) (K := K) (tg := tg) a it).self
  item := by
    rintro X rfl rfl rfl hc i pins s σ H E I hf st ⟨xs, x, hq, hx⟩
    obtain ⟨its, rv, p, hz⟩ := I.list hq
    obtain ⟨u, hu, ru⟩ := rv.get hx
    obtain ⟨f0, f1, f2, f3, f4, f5⟩ := hf it (by simp)
    refine wpAny_pyNext_list_item st p.isList (x := u) (by simpa using hu) fun h' st' sb => ⟨u, rfl, ?_⟩
    have I1 : Inv X pins σ H { s with heap := h' } := I.turned (t' := s.toks) (fun b o hb e => (sb.2 b hb).trans e) f0 f1 f3 f4 f5
    obtain ⟨o, e, c, d⟩ := id st'
    exact go_of (s := { s with heap := h' }) e c d (by decide) ⟨x, H, I1, ru, ⟨rfl, fun ys hy => by rw [I.list_inj hy hq]; exact hx⟩, st', fun b hb => (hf b hb).1⟩
  done := by
    rintro X rfl rfl rfl hc i pins s σ H E I hf st ⟨xs, hq, hx⟩
    rcases hc with hc | hc
    · exact (turn_list (tg := tg) a it).done X rfl rfl rfl hc i pins s σ H E I hf st ⟨xs, hq, hx⟩
    · obtain ⟨its, rv, p, hz⟩ := I.list hq
      obtain ⟨f0, f1, f2, f3, f4, f5⟩ := hf it (by simp)
      obtain ⟨x1, hot⟩ := hc.at I
      have hl := rv.length
      exact list_end_hot hot st p.isList (by simp; omega) fun h' eb => ⟨rfl, I.turned (t' := s.toks) eb f0 f1 f3 f4 f5⟩
theorem turnY_range {P : Program} {w : World} {K : PySem.W.Frag} {tg : Expr} (it : Addr) (lo : Int) (n : Nat) : TurnY P w K tg (Itr lo n) [it] it (fun i h => IsRangeIter h it (lo + (i : Nat) * 1) ((n : Int) - (i : Nat)) 1) where
  mem := by simp
  obj := (turn_range (P := P) (w := w) (K := K) (tg := tg) it lo n).obj
  keep := (turn_range (P := P) (w := w) (K := K) (tg := tg) it lo n).keep
  self := (turn_range (P := P) (w := w) (K := K) (tg := tg) it lo n).self
  item := by
    rintro X rfl rfl rfl hc i pins s σ H E I hf st hlt
    obtain ⟨f0, f1, f2, f3, f4, f5⟩ := hf it (by simp)
    have hlt : i < n := hlt
    refine wpAny_pyNext_range_item st (by omega) fun h' st' sb => ⟨_, rfl, ?_⟩
    have st2 : IsRangeIter h' it (lo + ((i + 1 : Nat) : Int) * 1) ((n : Int) - ((i + 1 : Nat) : Int)) 1 := by
      rw [show lo + ((i + 1 : Nat) : Int) * 1 = lo + ((i : Nat) : Int) * 1 + 1 by omega, show (n : Int) - ((i + 1 : Nat) : Int) = (n : Int) - ((i : Nat) : Int) - 1 by omega]
      exact st'
    have I1 : Inv X pins σ H { s with heap := h', toks := s.toks + 1 } := I.turned (fun b o hb e => (sb.2 b hb).trans e) f0 f1 f3 f4 f5
    exact go_of (s := { s with heap := h', toks := s.toks + 1 }) (n := "range_iterator") st2 rfl rfl (by decide) ⟨.int (lo + i), H, I1, ⟨s.toks, by rw [Int.mul_one]⟩, ⟨rfl, rfl⟩, st2, fun b hb => (hf b hb).1⟩
  done := by
    rintro X rfl rfl rfl hc i pins s σ H E I hf st hg
    rcases hc with hc | hc
    · exact (turn_range (tg := tg) it lo n).done X rfl rfl rfl hc i pins s σ H E I hf st hg
    · obtain ⟨f0, f1, f2, f3, f4, f5⟩ := hf it (by simp)
      obtain ⟨x1, hot⟩ := hc.at I
      exact pyNext_range_end_hot hot st (by have : n ≤ i := hg; omega) fun h' eb => ⟨rfl, I.turned (t' := s.toks) (fun b o _ e => eb b o e) f0 f1 f3 f4 f5⟩
/-- an iterator has come -/
def PIEY (X : Cx) (pins : List (Addr × Obj)) (σ : Bk.St) (tg : Expr) (R : It → Hp → Prop) (itv : Value) (s2 : Shared) : Prop :=
  ∃ (it : Addr) (fp : List Addr) (tn : Nat → Heap → Prop) (J : It) (H' : Hp), itv = .ref it ∧ Inv X pins σ H' s2 ∧ TurnY X.prog X.w X.K tg J fp it tn ∧ tn 0 s2.heap ∧ (∀ b ∈ fp, FpOk X pins H' b) ∧ R J H'
structure PIY (X : Cx) (tg iter : Expr) (wi : TI) : Prop where
  run : ∀ (pins : List (Addr × Obj)) (s : Shared) (σ : Bk.St) (H : Hp) (R : It → Hp → Prop), Inv X pins σ H s → wi σ H R → wpAny (model X.prog X.w) X.A (eval iter X.env) (fun v s1 => wpAny (model X.prog X.w) X.A (pyIter v) (PIEY X pins σ tg R) X.xe s1) X.xe s
section
variable {X : Cx} {tg : Expr}
theorem piy_one {pins : List (Addr × Obj)} {σ : Bk.St} {H : Hp} {s : Shared} {R : It → Hp → Prop} {J : It} {tn : Nat → Heap → Prop} {tk : Nat} (I : Inv X pins σ H s) (o : Obj) (T : TurnY X.prog X.w X.K tg J [s.heap.objs.size] s.heap.objs.size tn)
    (t0 : tn 0 (s.heap.push o)) (q : R J H) : PIEY X pins σ tg R (.ref s.heap.objs.size) { s with heap := s.heap.push o, toks := tk } := by
  refine ⟨_, _, tn, J, H, rfl, I.kept (t' := tk) fun b ob e => Heap.get?_push_of_some _ e, T, t0, fun b hb => ?_, q⟩
  rw [show b = s.heap.objs.size by simpa using hb]
  have e : (s.heap.push o).objs.size = s.heap.objs.size + 1 := Heap.size_push _ _
  exact I.fpOk (Nat.le_refl _) (I.hok.fresh (Nat.le_refl _))
def iListY (K : PySem.W.Frag) (tl : TE) : TI := fun σ H R => tl σ H fun x H1 => ∃ a, x = .ref a ∧ ∃ xs, SqL K H1 a xs ∧ R (Itl K a) H1
theorem piy_list {l : Expr} {tl : TE} (hl : PE X l tl) : PIY X tg l (iListY X.K tl) := by
  refine ⟨fun pins s σ H R I h => thn (hl.run pins s σ H _ I h) ?_⟩
  rintro v s1 ⟨x, H1, I1, r1, a, rfl, xs, hq, q⟩
  cases r1
  obtain ⟨its, rv, p, hz⟩ := I1.list hq
  exact wpAny_pyIter_list p.isList (piy_one (tk := s1.toks) I1 _ (turnY_list a _) ⟨_, Heap.get?_push_size _ rfl, rfl, rfl⟩ q)
end
end Bk

namespace Bk
open PySem L2 PyProof.Rows L2H HotX
section
variable {X : Cx} {tg : Expr}
theorem rangeY {pins : List (Addr × Obj)} {σ : Bk.St} {H : Hp} {s : Shared} {R : It → Hp → Prop} {E : Value → Shared → Prop} {lo hi : Int} {t u v : Tok} {tk : Nat} (I : Inv X pins σ H s) (hb : -(2 ^ 62) ≤ lo ∧ lo < 2 ^ 62 ∧ -(2 ^ 62) ≤ hi ∧ hi < 2 ^ 62)
    (q : R (Itr lo (hi - lo).toNat) H) : wpAny (model X.prog X.w) X.A (pyIter (.ref s.heap.objs.size)) (PIEY X pins σ tg R) E { s with heap := s.heap.push { cls := .type "range", data := .fields #[.int lo t, .int hi u, .int 1 v] }, toks := tk } := by
  refine wpAny_pyIter_range (IsRange.new ..) (small_one hb.1 hb.2.1 hb.2.2.1 hb.2.2.2) ?_
  have I1 : Inv X pins σ H { s with heap := s.heap.push { cls := .type "range", data := .fields #[.int lo t, .int hi u, .int 1 v] }, toks := tk } := I.kept fun b o e => Heap.get?_push_of_some _ e
  refine piy_one (tk := tk) I1 _ (turnY_range _ lo (hi - lo).toNat) ?_ q
  have e1 : lo + ((0 : Nat) : Int) * 1 = lo := by simp
  have e2 : (((hi - lo).toNat : Nat) : Int) - ((0 : Nat) : Int) = Builtin.Range.rangeSize lo hi 1 := by rw [rangeSize_one]; split <;> omega
  show IsRangeIter _ _ (lo + ((0 : Nat) : Int) * 1) ((((hi - lo).toNat : Nat) : Int) - ((0 : Nat) : Int)) 1
  rw [e1, e2]
  exact Heap.get?_push_size _ rfl
theorem piy_range1 {a : Expr} {ta : TA} {p pos : Pos} (hg : Gl X "range") (hm : X.mg "range" = none) (ha : PA X [a] ta) (hs : starEach [a] X.env = [(false, eval a X.env)] := by rfl) : PIY X tg (.Call (.Name "range" p) [a] [] pos) (iRng1 ta) := by
  refine ⟨fun pins s σ H R I h => Call_ (ld_blt I hg hm boot_range (callWith_type1 (thn (ha.run pos pins s σ H _ I h) ?_) hs rfl))⟩
  rintro us s1 ⟨vs, H1, I1, r1, j, rfl, q1, q2, q⟩
  obtain ⟨u, rfl, t, rfl⟩ := Vals.one r1
  exact call_range_1 (rangeY I1 ⟨by omega, by omega, q1, q2⟩ (by simpa using q))
end
theorem ps_forY {X : Cx} {tg iter : Expr} {body : List Stmt} {wi : TI} {g : TG} {tb : TS} {pos : Pos} (hp : PassesOwn (model X.prog X.w) X.A X.env X.xe) (hc : CoH X) (hi : PIY X tg iter wi) (hg : PG X tg g) (hb : PSs X body tb)
    (hs : ∀ x, foldedSetIterable iter X.env x = pure x := by intro _; rfl) : PS X (.For tg iter body [] pos) (tFor wi g tb) := by
  refine ⟨fun pins s σ H D I h => wpAny_For (thn (hi.run pins s σ H _ I h) fun v s1 h1 => thn h1 ?_) hs⟩
  rintro itv s2 ⟨it, fp, tn, J, H2, rfl, I2, T, st2, f2, W, ⟨m0, w0⟩, turn⟩
  have stat : ∀ {H' : Hp}, (∀ b ∈ fp, H' b = none) → ∀ b ∈ fp, FpOk X pins H' b := fun hn b hb => ⟨hn b hb, (f2 b hb).2⟩
  refine codeAny_forLoop_any (fun n s' => ∃ i σ' H', Inv X pins σ' H' s' ∧ tn i s'.heap ∧ (∀ b ∈ fp, H' b = none) ∧ W i n σ' H') ?_ m0 ⟨0, σ, H2, I2, st2, fun b hb => (f2 b hb).1, w0⟩
  rintro n s3 ⟨i, σ3, H3, I3, st3, fr3, w3⟩
  rcases turn i n σ3 H3 w3 with ⟨stop, qn⟩ | ⟨go, N, hN, step⟩
  · refine wpAny_passesOwn hp (thn (T.done X rfl rfl rfl hc i pins s3 σ3 H3 X.xe I3 (stat fr3) st3 stop) ?_)
    rintro r s4 ⟨rfl, I4⟩
    exact wpAny_execs_nil ⟨σ3, H3, I4, qn⟩
  · refine wpAny_passesOwn hp (thn (T.item X rfl rfl rfl hc i pins s3 σ3 H3 X.xe I3 (stat fr3) st3 go) ?_)
    rintro r s4 ⟨u, rfl, h4⟩
    refine wpAny_passesOwn hp (thn h4 ?_)
    rintro _ s5 ⟨x, H5, I5, r5, y5, st5, fr5⟩
    refine wpAny_passesOwn hp (thn (hg.run _ s5 σ3 H5 x u _ (I5.pinned (stat fr5) (T.obj _ _ st5)) r5 (step x H5 y5)) ?_)
    rintro _ s6 ⟨σ6, H6, I6, q6⟩
    refine wpAny_passesOwn hp (thn (hb.run _ s6 σ6 H6 _ I6 q6) fun f s7 q7 => ?_)
    have again : ∀ {σ7 : Bk.St} {H7 : Hp}, Inv X (pins ++ pinsAt fp s5.heap) σ7 H7 s7 → N σ7 H7 → ∃ m, m < n ∧ ∃ i σ' H', Inv X pins σ' H' s7 ∧ tn i s7.heap ∧ (∀ b ∈ fp, H' b = none) ∧ W i m σ' H' := fun {σ7 H7} I7 n7 => by
      obtain ⟨m', hm, w7⟩ := hN σ7 H7 n7
      have pin : ∀ b ∈ fp, ∀ o, s5.heap.get? b = some o → s7.heap.get? b = some o ∧ H7 b = none := fun b hb o e => let z := I7.pin (b, o) (List.mem_append_right _ (List.mem_append_right _ (mem_pinsAt hb e))); ⟨z.1, z.2.1⟩
      refine ⟨m', hm, i + 1, σ7, H7, I7.unpinned, T.keep _ _ _ st5 fun b hb o e => (pin b hb o e).1, fun b hb => ?_, w7⟩
      obtain ⟨o, e, d⟩ := T.obj _ _ st5 b hb
      exact (pin b hb o e).2
    cases f with
    | next => exact let ⟨σ7, H7, I7, n7⟩ := q7; again I7 n7
    | cont => exact let ⟨σ7, H7, I7, n7⟩ := q7; again I7 n7
    | brk => exact let ⟨σ7, H7, I7, q⟩ := q7; ⟨σ7, H7, I7.unpinned, q⟩
    | ret v => exact let ⟨x7, σ7, H7, I7, r7, q⟩ := q7; ⟨x7, σ7, H7, I7.unpinned, r7, q⟩
/-- a comprehension, calm or hot -/
theorem lcY {X : Cx} {pins : List (Addr × Obj)} {s : Shared} {σ : Bk.St} {H : Hp} {Q : VK} {elt tg iter : Expr} {ifs : List Expr} {scope : Scope} {own : List (Str × Nat)} {pos pos' : Pos} {wi : TI} {g : TG} {tt : TT} {te : TE} {use : Option (Value → Sem Unit)} {Qf : Value → Shared → Prop}
    (hc : CoH X) (hN : X.N.Nodup) (I : Inv X pins σ H s) (hi : PIY X tg iter wi) (ok : BlkOk X.N X.env.scope scope own)
    (hg : ∀ (s : Shared) (H : Hp) (C : Addr) (cl : List (Str × Addr)) (fp : List Addr), PG (X.blk s H scope (compEnvC scope cl C X.env) fp) tg g) (ht : ∀ (s : Shared) (H : Hp) (C : Addr) (cl : List (Str × Addr)) (fp : List Addr), PTs (X.blk s H scope (compEnvC scope cl C X.env) fp) ifs tt)
    (he : ∀ (s : Shared) (H : Hp) (C : Addr) (cl : List (Str × Addr)) (fp : List Addr), PE (X.blk s H scope (compEnvC scope cl C X.env) fp) elt te) (hs : ∀ x, foldedSetIterable iter X.env x = pure x) (h : tLc wi g tt te (own.map (·.2)) σ H Q)
    (hRR : ∀ D C s' m H', Inv X pins σ H' s' → Q (.ref D) H' → s'.heap.Ns C m → FpOk X pins H' C → compPost (model X.prog X.w) X.A X.xe use Qf (.ref D) C (.ok .next) s') :
    wpAny (model X.prog X.w) X.A (comprehension (.ListComp elt [⟨tg, iter, ifs, 0⟩] scope pos) scope X.env pos' (newList []) false (eval iter X.env) use) Qf X.xe s := by
  have hfree : ∀ y ∈ scope.names, y.2 = .free → ∃ c, X.env.cells.lookup y.1 = some c := fun y hy e => I.ok.has _ (ok.free y hy e)
  refine wpAny_comprehension_free (use := use) rfl hs (closure_ok hfree) ok.kind (fun y hy e => by rw [ok.uniq y hy, e]) (thn (hi.run pins s σ H _ I h) fun xv s1 hx => thn hx ?_)
  rintro itv s2 ⟨it, fp, tn, J, H2, rfl, I2, T, st2, f2, q⟩
  refine wpAny_newObj_type (newEnv_comp ?_) (by show 0 ≤ sizeLine; decide)
  generalize hD : s2.heap.objs.size = D
  have hDn : H2 D = none := I2.hok.fresh (Nat.le_of_eq hD)
  obtain ⟨W, ⟨m0, w0⟩, turn⟩ := q D hDn
  generalize hs3 : ({ s2 with heap := s2.heap.push { cls := .type "list", data := .seq ([] : List Value).toArray } } : Shared) = s3
  have h3 : s3.heap = s2.heap.push { cls := .type "list", data := .seq ([] : List Value).toArray } := by rw [← hs3]
  have I3 : Inv X pins σ (upd H2 D (.lst [])) s3 := by
    subst hs3 hD
    exact I2.laid (t' := s2.toks) (fun b o e => Heap.get?_push_of_some _ e) (Nat.le_refl _) ⟨Nat.zero_le _, [], 0, .nil, Heap.get?_push_size _ rfl⟩
  have f3 : ∀ b ∈ fp, FpOk X pins (upd H2 D (.lst [])) b ∧ b < s3.heap.objs.size := fun b hb => by
    obtain ⟨o, e, _⟩ := T.obj _ _ st2 b hb
    have hlt := Heap.lt_size e
    refine ⟨⟨?_, (f2 b hb).2⟩, by rw [h3, Heap.size_push]; exact Nat.lt_succ_of_lt hlt⟩
    rw [upd_ne (by rw [← hD]; exact Nat.ne_of_lt hlt)]
    exact (f2 b hb).1
  have st3 : tn 0 s3.heap := T.keep _ _ _ st2 fun b _ o e => by rw [h3]; exact Heap.get?_push_of_some _ e
  have I4 := block_start I3 ok hN f3
  have cl := fun {ce : Env} => hc.blk (scope := scope) (ce := ce) I3 fun b hb => (f3 b hb).1
  have pg := hg s3 (upd H2 D (.lst [])) s3.heap.objs.size (cellsFrom (s3.heap.objs.size + 1) scope.names (cloFrom X.env.cells scope.names [])) fp
  have pt := ht s3 (upd H2 D (.lst [])) s3.heap.objs.size (cellsFrom (s3.heap.objs.size + 1) scope.names (cloFrom X.env.cells scope.names [])) fp
  have pe := he s3 (upd H2 D (.lst [])) s3.heap.objs.size (cellsFrom (s3.heap.objs.size + 1) scope.names (cloFrom X.env.cells scope.names [])) fp
  show codeAny _ _ (.compStart (.ListComp elt [⟨tg, iter, ifs, 0⟩] scope pos) 0 (.ref it) (.ref D) (compEnvC scope (cellsFrom (s3.heap.objs.size + 1) scope.names (cloFrom X.env.cells scope.names [])) s3.heap.objs.size X.env)) (compPost (model X.prog X.w) X.A X.xe use Qf (.ref D) s3.heap.objs.size) { s3 with heap := pushCells (s3.heap.push { cls := .type "dict", data := .dict #[] }) scope.names }
  have nfp : ∀ b ∈ fp, (upd H2 D (.lst [])) b = none := fun b hb => (f3 b hb).1.1
  generalize hce : compEnvC scope (cellsFrom (s3.heap.objs.size + 1) scope.names (cloFrom X.env.cells scope.names [])) s3.heap.objs.size X.env = ce at I4 pg pt pe ⊢
  have cL : ce.locals = s3.heap.objs.size := by subst hce; rfl
  have cl := cl (ce := ce)
  generalize hH3 : upd H2 D (.lst []) = H3 at I3 I4 pg pt pe w0 nfp f3 cl
  generalize hs4 : ({ s3 with heap := pushCells (s3.heap.push { cls := .type "dict", data := .dict #[] }) scope.names } : Shared) = s4 at I4 ⊢
  have st4 : tn 0 s4.heap := T.keep _ _ _ st3 fun b _ o e => by rw [← hs4]; exact pushCells_keeps _ _ _ _ (Heap.get?_push_of_some _ e)
  have stat : ∀ {σ' : Bk.St} {H' : Hp} {s' : Shared}, Inv (X.blk s3 H3 scope ce fp) [] σ' H' s' → (∀ b ∈ fp, H' b = none) → ∀ b ∈ fp, FpOk (X.blk s3 H3 scope ce fp) [] H' b := fun {σ' H' s'} I' hn b hb =>
    ⟨hn b hb, (I'.ok.exf b hb).1, I'.ok.exfs b hb, .inl hb, fun x c e => (I'.ok.exf b hb).2 x c e, fun p hp => by cases (show p ∈ ([] : List (Addr × Obj)) from hp)⟩
  refine (fun loop => codeAny_compStart_list loop (T.self X.A 0 _ _ _ st4 loop)) ?_
  refine compLoop_any (fun n s' => ∃ i H', Inv (X.blk s3 H3 scope ce fp) [] (wipe σ (own.map (·.2))) H' s' ∧ tn i s'.heap ∧ (∀ b ∈ fp, H' b = none) ∧ W i n H') ?_ m0 ⟨0, H3, I4, st4, nfp, w0⟩
  rintro n s5 ⟨i, H5, I5, st5, n5, w5⟩
  rcases turn i n H5 w5 with ⟨stop, qq⟩ | ⟨go, Nx, hNx, step⟩
  · refine thnF (T.done (X.blk s3 H3 scope ce fp) rfl rfl rfl cl i [] s5 _ H5 (fun _ _ => False) I5 (stat I5 n5) st5 stop) ?_
    rintro r s6 ⟨rfl, I6⟩
    have I7 : Inv X pins σ H5 s6 := I3.call' (ch := fp) I6.os I6.base I6.hok I6.bare fun b hb => let z := (f3 b hb).1; ⟨z.2.2.2.1, z.2.1, z.2.2.2.2.1, z.2.2.2.2.2⟩
    have nC : H5 s3.heap.objs.size = none := by rw [← cL]; exact I6.free
    obtain ⟨m, hn, _⟩ := I6.loc
    exact hRR D s3.heap.objs.size s6 m H5 I7 qq (by rw [← cL]; exact hn) (I3.fpOk (Nat.le_refl _) nC)
  · refine thnF (T.item (X.blk s3 H3 scope ce fp) rfl rfl rfl cl i [] s5 _ H5 (fun _ _ => False) I5 (stat I5 n5) st5 go) ?_
    rintro r s6 ⟨u, rfl, h6⟩
    refine thnF h6 ?_
    rintro _ s7 ⟨x, H7, I7, r7, y7, st7, n7⟩
    refine thnF (pg.run _ s7 _ H7 x u _ (I7.pinned (stat I7 n7) (T.obj _ _ st7)) r7 (step x H7 y7)) ?_
    rintro _ s8 ⟨σ8, H8, I8, hw8, q8⟩
    refine thnF (pt.run _ s8 σ8 H8 _ I8 q8) ?_
    rintro b s9 ⟨H9, I9, q9⟩
    have fin : ∀ {s' : Shared} {H' : Hp}, Inv (X.blk s3 H3 scope ce fp) ([] ++ pinsAt fp s7.heap) σ8 H' s' → Nx H' → ∃ m, m < n ∧ ∃ i H', Inv (X.blk s3 H3 scope ce fp) [] (wipe σ (own.map (·.2))) H' s' ∧ tn i s'.heap ∧ (∀ b ∈ fp, H' b = none) ∧ W i m H' := fun {s' H'} I' nx => by
      obtain ⟨m', hm, w'⟩ := hNx H' nx
      have pin : ∀ b ∈ fp, ∀ o, s7.heap.get? b = some o → s'.heap.get? b = some o ∧ H' b = none := fun b hb o e => let z := I'.pin (b, o) (List.mem_append_right _ (List.mem_append_right _ (mem_pinsAt hb e))); ⟨z.1, z.2.1⟩
      have hl : (wipe σ (own.map (·.2))).length = σ8.length := by rw [← hw8, wipe_length]
      refine ⟨m', hm, i + 1, H', (I'.unpinned (pins := [])).weak hl (fun j v e => ?_), T.keep _ _ _ st7 fun b hb o e => (pin b hb o e).1, fun b hb => ?_, w'⟩
      · rw [← hw8] at e
        exact (wipe_some e).1
      · obtain ⟨o, e, _⟩ := T.obj _ _ st7 b hb
        exact (pin b hb o e).2
    cases b with
    | false =>
      simp only [Bool.false_eq_true, if_false] at q9 ⊢
      exact fin I9 q9
    | true =>
      simp only [if_true] at q9 ⊢
      refine thnF (pe.run _ s9 σ8 H9 _ I9 q9) ?_
      rintro z s10 ⟨yv, H10, I10, r10, acc, hD10, hz10, nx⟩
      exact app_ok (X := X.blk s3 H3 scope ce fp) I10 hD10 hz10 r10 fun s11 I11 => fin I11 nx
theorem pe_lcY {X : Cx} {elt tg iter : Expr} {ifs : List Expr} {scope : Scope} {own : List (Str × Nat)} {pos : Pos} {wi : TI} {g : TG} {tt : TT} {te : TE} (hc : CoH X) (hN : X.N.Nodup) (hi : PIY X tg iter wi) (ok : BlkOk X.N X.env.scope scope own)
    (hg : ∀ (s : Shared) (H : Hp) (C : Addr) (cl : List (Str × Addr)) (fp : List Addr), PG (X.blk s H scope (compEnvC scope cl C X.env) fp) tg g) (ht : ∀ (s : Shared) (H : Hp) (C : Addr) (cl : List (Str × Addr)) (fp : List Addr), PTs (X.blk s H scope (compEnvC scope cl C X.env) fp) ifs tt)
    (he : ∀ (s : Shared) (H : Hp) (C : Addr) (cl : List (Str × Addr)) (fp : List Addr), PE (X.blk s H scope (compEnvC scope cl C X.env) fp) elt te) (hs : ∀ x, foldedSetIterable iter X.env x = pure x := by intro _; rfl) :
    PE X (.ListComp elt [⟨tg, iter, ifs, 0⟩] scope pos) (tLc wi g tt te (own.map (·.2))) := by
  refine ⟨fun pins s σ H Q I h => ?_⟩
  rw [eval_ListComp]
  refine lcY hc hN I hi ok hg ht he hs h fun D C s' m H' I' q hn f => ⟨m, hn, fun h'' sb => ?_⟩
  obtain ⟨f0, f1, f2, f3, f4, f5⟩ := f
  exact ⟨.ref D, H', I'.turned (t' := s'.toks) (fun b o hb e => (sb.2 b hb).trans e) f0 f1 f3 f4 f5, rfl, q⟩
end Bk

/-! our own: defs called while a known exception is in hand; try suites; facts of classes by instances -/
namespace Bk
open PySem L2 PyProof.Rows L2H HotX

/-! ### facts of the text, by instances -/
class ClsF (K : PySem.W.Frag) (C : Addr) : Prop where h : Cls K C
class NoAF (K : PySem.W.Frag) (C : Addr) (f : Str) : Prop where h : NoAttr K C f
class ExcF (K : PySem.W.Frag) (D : Addr) : Prop where h : ExcC K D
class KitF (K : PySem.W.Frag) (D c : Value) (b : outParam Bool) : Prop where h : PySem.W.kitOne K D c = some b
class ExmF (K : PySem.W.Frag) (D c : Value) (b : outParam Bool) : Prop where h : PySem.W.exmOne K D c = some b

section
variable {K : PySem.W.Frag} {C D : Addr} {b : Bool}
theorem kitCls_of (h2 : PySem.W.isClsIn K C = true) (h3 : PySem.W.typeIn K (.ref C) = some (.type "type")) (h4 : PySem.W.subIn K (.ref D) (.ref C) = some b) : PySem.W.kitCls K (.ref D) (.ref C) = some b := by
  have e2 : ((PySem.W.clsIn K C).isSome && PySem.W.typeIn K (.ref C) == some (.type "type")) = true := by
    have z : (PySem.W.clsIn K C).isSome = true := h2
    rw [z, h3] <;> rfl
  unfold PySem.W.kitCls
  dsimp only
  rw [if_pos e2]
  exact h4
theorem kit_of_own (h2 : PySem.W.isClsIn K C = true) (h3 : PySem.W.typeIn K (.ref C) = some (.type "type")) (h4 : PySem.W.subIn K (.ref D) (.ref C) = some b) (h5 : PySem.W.subIn K (.ref C) (.ref C) = some true) : PySem.W.kitOne K (.ref D) (.ref C) = some b := by
  unfold PySem.W.kitOne
  by_cases e : (Value.ref D == Value.ref C) = true
  · have e1 : D = C := Value.ref.inj (beq_iff_eq.mp e)
    subst e1
    rw [if_pos e, ← h5, h4]
  · rw [if_neg e]
    exact kitCls_of h2 h3 h4
theorem kit_of_VE (h : PySem.W.subIn K (.ref D) (.type "ValueError") = some b) : PySem.W.kitOne K (.ref D) (.type "ValueError") = some b := by
  unfold PySem.W.kitOne
  rw [if_neg (by intro z; exact absurd (beq_iff_eq.mp z) (fun e => nomatch e))]
  unfold PySem.W.kitCls
  dsimp only
  rw [if_pos (by decide +kernel)]
  exact h
theorem exm_of_own (h1 : PySem.W.subIn K (.ref C) (.type "BaseException") = some true) (h2 : PySem.W.isClsIn K C = true) (h3 : PySem.W.typeIn K (.ref C) = some (.type "type")) (h4 : PySem.W.subIn K (.ref D) (.ref C) = some b) : PySem.W.exmOne K (.ref D) (.ref C) = some b := by
  have e1 : (PySem.W.subIn K (.ref C) (.type "BaseException") == some true) = true := by rw [h1] <;> rfl
  unfold PySem.W.exmOne
  rw [if_pos e1]
  exact kitCls_of h2 h3 h4
end

/-! ### a known exception in hand -/
structure HotP (X : Cx) (e D : Addr) : Prop where
  ex : ∃ oe : Obj, Hot1 X.A (e, oe) ∧ (e, oe) ∈ X.pn ∧ Zc (.ref D) none oe
  c : ExcC X.K D
theorem HotP.hot {X : Cx} {e D : Addr} (h : HotP X e D) : HotC X := let ⟨oe, a, b, _⟩ := h.ex; ⟨(e, oe), a, b⟩
theorem HotP.co {X : Cx} {e D : Addr} (h : HotP X e D) : CoH X := .inr (HotY.of h.hot)
theorem HotP.suite {X : Cx} {a D : Addr} {oe : Obj} {pn : List (Addr × Obj)} (hz : L2N.Zn (.ref D) none oe) (hf : ∃ vs, oe.data = .fields vs) (c : ExcC X.K D) : HotP (X.suite a ((a, oe) :: pn)) a D := by
  obtain ⟨vs, hv⟩ := hf
  exact ⟨⟨oe, ⟨rfl, vs, hv, hz.2.2 vs hv⟩, List.mem_cons_self, hz.zc⟩, c⟩
theorem roomS {k : Nat} {A : Around} {x : Option Value} (r : Room k A) : RoomH k (A.mark x) := ⟨r.dp, r.un⟩
theorem huH {A : Around} {k : Nat} (hr : RoomH k A) : A.units + 1 < cLine := by have := hr.un; omega
theorem op_eqH {X : Cx} {k : Nat} (hr : RoomH k X.A) : OpR X (compareOp .Eq) (rEqP X.K) := op_eq.or (op_eqD (by have := hr.un; omega))
theorem op_neH {X : Cx} {k : Nat} (hr : RoomH k X.A) : OpR X (compareOp .NotEq) (rNeP X.K) := op_ne.or (op_neD (by have := hr.un; omega))
/-- isinstance, also of the exception in hand -/
def rIsET (K : PySem.W.Frag) (D e : Addr) : List V → Hp → VK → Prop := fun xs H Q => ∃ (tp : Addr) (cs : List V) (us : List Value) (b : Bool), xs = [.ref e, .ref tp] ∧ H tp = some (.tup cs) ∧ Paired ClsV cs us ∧ PySem.W.kitAny K (.ref D) us = some b ∧ Q (.bl b) H
def rIsiH (K : PySem.W.Frag) (D e : Addr) : List V → Hp → VK → Prop := fun xs H Q => rIsE K D e xs H Q ∨ rIsET K D e xs H Q
theorem call_isX {X : Cx} {e D : Addr} (h : HotP X e D) : CallR X (.builtin "isinstance") (rIsiH X.K D e) := by
  obtain ⟨⟨oe, ⟨_, vs, hv, _⟩, hp, hz⟩, C⟩ := h
  dsimp only at hv
  have J : ∀ {pins : List (Addr × Obj)} {σ : Bk.St} {H : Hp} {s : Shared}, Inv X pins σ H s → PySem.W.InstAt s.heap e oe D none := fun I => by
    have hget := (I.pin (e, oe) (List.mem_append_left _ hp)).1
    obtain ⟨oc, od, oda, osl⟩ := oe
    obtain ⟨h1, h2⟩ := hz
    dsimp only at h1 h2 hv
    subst h1 h2 hv
    exact ⟨hget, rfl, rfl, trivial⟩
  refine call_or ?_ ?_
  · rintro pins s σ H xs us Q I r ⟨c, cv, b, rfl, hcv, e1, q⟩
    obtain ⟨u1, u2, rfl, r1, r2⟩ := vals2 r
    cases r1
    have ec := hcv _ r2
    subst ec
    exact PySem.W.kia_one (PySem.W.handS_kitx_exc C.hg C.hk C.hs C.hd C.ha C.hn C.ht C.hm) I.kIn (J I) e1 (fun z => nomatch z) fun tk => ⟨.bl b, H, I.tok tk, rfl, q⟩
  · rintro pins s σ H xs us Q I r ⟨tp, cs, ws, b, rfl, hT, k, e1, q⟩
    obtain ⟨u1, u2, rfl, r1, r2⟩ := vals2 r
    cases r1
    cases (show u2 = Value.ref tp from r2)
    obtain ⟨_, its, rv, o, h1, h2, n, h3⟩ := (show ObjOk X.prog X.w H s.heap tp (.tup cs) from I.hok tp _ hT)
    have e3 := ClsV.all k rv
    subst e3
    obtain ⟨oc, od, dt, sl⟩ := o
    simp only at h2 h3
    subst h2 h3
    exact PySem.W.kia_tup (PySem.W.handS_kitx_exc C.hg C.hk C.hs C.hd C.ha C.hn C.ht C.hm) I.kIn (J I) h1 e1 (fun z => nomatch z) fun tk => ⟨.bl b, H, I.tok tk, rfl, q⟩
section
variable {K : PySem.W.Frag} {D e C : Addr} {H : Hp} {Q : VK} {b : Bool}
theorem go_isX [k : KitF K (.ref D) (.ref C) b] (q : Q (.bl b) H) : rIsiH K D e [.ref e, .ref C] H Q := .inl ⟨.ref C, .ref C, b, rfl, fun u r => r, k.h, q⟩
theorem go_isXt {T : String} [k : KitF K (.ref D) (.type T) b] (q : Q (.bl b) H) : rIsiH K D e [.ref e, .ty T] H Q := .inl ⟨.ty T, .type T, b, rfl, fun u r => r, k.h, q⟩
end

/-! ### defs called so -/
structure FnP (P : Program) (w : World) (K : PySem.W.Frag) (mg : Str → Option Value) (base : Heap) (k : Nat) (f : Addr) (fd : FuncData) (ps : List Str) (sp : Addr → Addr → Sp) : Prop where
  len : ∀ e D vs H Q E, sp e D vs H Q E → vs.length = ps.length
  run : ∀ (A : Around) (outer : List Env) (s : Shared) (H : Hp) (args : Args) (us : List Value) (vs : List V) (Q : VK) (E : XK) (p : Addr × Obj) (D : Addr), ExcC K D → Zc (.ref D) none p.2 → RoomH k A → Hot1 A p → PinOk outer H s p → Env0 P w K mg base A outer s H →
    BindsTo s fd args (ps.zip us) → Vals vs us → sp p.1 D vs H Q E → codeAny (model P w) A (.call (.ref f) args) (CR (L2N.CX P w) outer P w H s Q E) s
theorem okP {P : Program} {w : World} {K : PySem.W.Frag} {mg : Str → Option Value} {base : Heap} {x qual : Str} {st : Stmt} {f : Addr} {fd : FuncData} {N ps : List Str} {k : Nat} {t : Addr → Addr → XK → TS}
    (F : Fun K x qual st f fd) (S : FnScope N ps (defScope st))
    (hbody : ∀ (cdv : Value) (A : Around) (outer : List Env) (s : Shared) (H : Hp) (E : XK) (p : Addr × Obj) (D : Addr), HotP (cxH (L2N.CX P w) P w K mg base N qual (defScope st) f cdv A outer s H E p) p.1 D → RoomH k (A.deeper (envOfC qual (defScope st) s.heap.objs.size f cdv)) →
      PSs (cxH (L2N.CX P w) P w K mg base N qual (defScope st) f cdv A outer s H E p) (defBody st) (t p.1 D E)) :
    FnP P w K mg base (k + 1) f fd ps (fun e D vs H Q E => vs.length = ps.length ∧ t e D E ⟨fun _ H' => Q .non H', Q, F0, F0⟩ (start N vs) H) := by
  obtain ⟨oc, od, kV, doc, pm, an, cdv, ct, osl, rfl, lk, hcd⟩ := F.ex
  refine ⟨fun _ _ _ _ _ _ h => h.1, fun A outer s H args us vs Q E p D hC hz hr hot hpin en hbd rv hsp => ?_⟩
  have kx : K.In s.heap := en.mod.kin.keeps fun b o e => (en.bs b o e).1
  have nl : s.heap.NoLimit := en.mod.nolimit.keeps fun b o e => (en.bs b o e).1
  have pk : ∀ y ∈ ps.zip us, (defScope st).names.lookup y.1 = some .local ∨ ((defScope st).names.lookup y.1 = some .cell ∧ ((cellsFrom (s.heap.objs.size + 1) (defScope st).names []).lookup y.1).isSome = true) := fun y hy =>
    (S.par y.1 (List.of_mem_zip (a := y.1) (b := y.2) hy).1).elim .inl fun q => .inr ⟨q, PySem.W.cellsFrom_some _ _ _ (.inl q)⟩
  refine codeAny_call_function hr.depth (kx _ _ lk) rfl S.co S.gen rfl (PySem.W.codeRec_of kx hcd) (hbd _ _ _ _ ?_)
  refine wpAny_newFunctionEnv_cells S.kind pk fun env ee s1 x => ?_
  subst ee
  refine ⟨nl.keeps x.toInCall.keep, codeAny_func ?_⟩
  have J : Inv (cxH (L2N.CX P w) P w K mg base N qual (defScope st) f cdv A outer s H E p) [] (L2.start N vs) H s1 := inv_startH S hpin en hsp.1 rv x
  have hp : HotP (cxH (L2N.CX P w) P w K mg base N qual (defScope st) f cdv A outer s H E p) p.1 D := ⟨⟨p.2, hot, List.mem_cons_self, hz⟩, hC⟩
  have fin : ∀ {σ' : Bk.St} {H' : Hp} {v : V} {u : Value} {s' : Shared}, Inv (cxH (L2N.CX P w) P w K mg base N qual (defScope st) f cdv A outer s H E p) [] σ' H' s' → RelV v u → Q v H' → CE outer P w H s Q u s' :=
    fun {_ H' v _ _} I2 r2 q => ⟨v, H', I2.os, I2.bare, I2.base, I2.hok, r2, q⟩
  refine wpAny_mono ((hbody cdv A outer s H E p D hp (hr.deeper _)).run [] s1 _ H _ J hsp.2) (fun fl s' hs => ?_) fun e s' hs => hs
  match fl, hs with
  | .ret u, hs => obtain ⟨v, σ', H', I2, r2, q⟩ := hs; exact fin I2 r2 q
  | .next, hs => obtain ⟨σ', H', I2, q⟩ := hs; exact fin (v := V.non) (u := Value.none) I2 rfl q
  | .brk, hs => obtain ⟨_, _, _, q⟩ := hs; exact q.elim
  | .cont, hs => obtain ⟨_, _, _, q⟩ := hs; exact q.elim
section
variable {X : Cx} {k j : Nat} {f C ex D : Addr} {fd : FuncData} {ps : List Str} {sp : Addr → Addr → Sp} {W : WX} {x m : Str} {q pos apos : Pos} {e o : Expr} {es : List Expr} {ta : TE} {t : TA}
theorem run_fnP {pins : List (Addr × Obj)} {σ : Bk.St} {H : Hp} {s : Shared} {Q : VK} {us : List Value} {vs : List V} {E : Bk.St → XK} (F : FnP X.prog X.w X.K X.mg X.base k f fd ps sp) (hr : RoomH k X.A) (hc : HotP X ex D) (hb : Binds X.K fd ps []) (hx : PassesAt (L2N.CX X.prog X.w) X σ (E σ))
    (I : Inv X pins σ H s) (r : Vals vs us) (h : sp ex D vs H Q (E σ)) : wpAny (model X.prog X.w) X.A (call (.ref f) us) (EP X pins σ Q) X.xe s := by
  obtain ⟨⟨oe, hot, hp, hz⟩, hC⟩ := hc
  have hl : us.length = ps.length := by rw [← r.length]; exact F.len _ _ _ _ _ _ h
  have b := hb s us I.kIn (by rw [List.append_nil]; exact hl)
  rw [List.append_nil] at b
  obtain ⟨p1, p2, p3, p4, p5⟩ := I.pin (ex, oe) (List.mem_append_left _ hp)
  have pk : PinOk X.stack H s (ex, oe) := ⟨p1, p2, fun hm => (List.mem_cons.mp (I.stkSub _ hm)).elim p3 p4, p5⟩
  refine wpAny_call (codeAny_mono (F.run X.A X.stack s H ⟨us, []⟩ us vs Q (E σ) (ex, oe) D hC hz hr hot pk I.env0 b r h) fun r s' hq => ?_)
  match r, hq with
  | .error e, hq => exact hx pins H s e s' I hq
  | .ok (.ret u), hq => exact I.after hq
  | .ok .next, hq => exact hq.elim
  | .ok .brk, hq => exact hq.elim
  | .ok .cont, hq => exact hq.elim
def tCallX (sp : Addr → Addr → Sp) (ex D : Addr) (E : Bk.St → XK) (t : TA) : TE := fun σ H Q => t σ H fun vs H1 => sp ex D vs H1 Q (E σ)
theorem callX (F : FnP X.prog X.w X.K X.mg X.base k f fd ps sp) (hc : HotP X ex D) (tk : L2N.Takes X W) (hr : RoomH j X.A) (hj : k ≤ j) (hg : Gl X x) (hm : X.mg x = some (.ref f)) (hk : PySem.W.keepIn X.K (.ref f) = true) (hb : Binds X.K fd ps [])
    (ha : PA X (e :: es) t) (hdb : (x == ("__debug__" : Str)) = false := by decide) (he : starEach (e :: es) X.env = (false, eval e X.env) :: starEach es X.env := by rfl) (hpl : (backTo pos (starEach es X.env)).any (·.1) = false := by rfl) :
    PE X (.Call (.Name x q) (e :: es) [] pos) (tCallX sp ex D (WE W) t) := by
  refine ⟨fun pins s σ H Q I h => wpAny_Call_Name_kw (ld_glob I hg hm ?_ hdb)⟩
  refine PySem.W.callWith_K (h₀ := X.base) I.ok.mod.kin hk (thn (ha.run pos pins s σ H _ I h) fun us s1 ⟨vs, H1, I1, r, q⟩ => ⟨I1.kIn, ?_⟩) he hpl
  exact run_fnP F (hr.mono hj) hc hb (L2N.passAt tk σ) I1 r q
/-- an own method that stands for the class at C -/
structure MethOkX (X : Cx) (m : Str) (k : Nat) (C : Addr) (sp : Addr → Addr → Sp) : Prop where
  c : Cls X.K C
  ex : ∃ f fd ps, Meth X.K C m f ∧ FnP X.prog X.w X.K X.mg X.base k f fd ps sp ∧ Binds X.K fd ps []
def tMethX (m : Str) (C : Addr) (sp : Addr → Addr → Sp) (ex D : Addr) (E : Bk.St → XK) (ta : TE) (t : TA) : TE := fun σ H Q => ta σ H fun x H1 => ∃ a dx fs, x = .ref a ∧ H1 a = some (.ins C dx fs) ∧ fs.lookup m = none ∧ t σ H1 fun vs H2 => sp ex D (x :: vs) H2 Q (E σ)
theorem methX0 {pl : Sem Bool} (he : PE X o ta) (M : MethOkX X m k C sp) (hc : HotP X ex D) (tk : L2N.Takes X W) (hr : RoomH j X.A) (hj : k ≤ j)
    (ht : eval (.Call (.Attribute o m apos) [] [] pos) X.env = (do
      let ov ← eval o X.env
      standAt apos.atName
      let (f, first) ← holding [ov] (getMethod ov m pl)
      callWith pos f first (backTo pos (starEach [] X.env)) (backToKw pos (keywordEach [] X.env))) := by rfl) :
    PE X (.Call (.Attribute o m apos) [] [] pos) (tMethX m C sp ex D (WE W) ta tNil) := by
  refine ⟨fun pins s σ H Q I h => PySem.W.methodCall_KW (pl := pl) (thn (he.run pins s σ H _ I h) ?_) ht⟩
  rintro u s1 ⟨x, H1, I1, rx, a, dx, fs, rfl, ea, l, q⟩
  obtain rfl : u = Value.ref a := rx
  obtain ⟨c, f, fd, ps, hm, F, hb⟩ := M
  refine getmeth_ok I1 ea c hm l ?_
  exact PySem.W.callWith_K0 (first := [.ref a]) I1.kIn hm.kp (run_fnP (us := [.ref a]) (vs := [.ref a]) F (hr.mono hj) hc hb (L2N.passAt tk σ) I1 (.cons rfl .nil) q)
end

/-! ### try -/
/-- a suite that knows what it has: e the exception, C its class -/
def tSu (K : PySem.W.Frag) (t : Addr → Addr → TS) : Addr → Value → Option Addr → TS := fun e cls d D σ H => ∃ C, cls = .ref C ∧ d = none ∧ ExcC K C ∧ t e C D σ H
theorem suX {X : Cx} {ss : List Stmt} {t : Addr → Addr → TS} (h : ∀ (a C : Addr) (oe : Obj) (pn : List (Addr × Obj)), HotP (X.suite a ((a, oe) :: pn)) a C → PSs (X.suite a ((a, oe) :: pn)) ss (t a C)) :
    ∀ (a : Addr) (oe : Obj) (cls : Value) (d : Option Addr) (pn : List (Addr × Obj)), L2N.Zn cls d oe → (∃ vs, oe.data = .fields vs) → PSs (X.suite a ((a, oe) :: pn)) ss (tSu X.K t a cls d) := by
  refine fun a oe cls d pn hz hf => ⟨fun pins s σ H D I q => ?_⟩
  obtain ⟨C, rfl, rfl, hC, q⟩ := q
  exact (h a C oe pn (.suite hz hf hC)).run pins s σ H D I q
def tTryAs (K : PySem.W.Frag) (c : Value) (i : Nat) (tb : WX → TS) (ts : Addr → Addr → TS) (Wout : WX) : TS := fun D σ H => tb (wAs K c i (tSu K ts) Wout D) D σ H
theorem tryAs {X : Cx} {x n : Str} {c : Value} {i : Nat} {body suite : List Stmt} {b0 : Stmt} {np pos pos' : Pos} {tb : WX → TS} {ts : Addr → Addr → TS} {Wout : WX} (hN : X.N.Nodup) (hi : X.N[i]? = some n) (hln : X.env.kindOf n = some .local) (hc : Names X x c) (tk : L2N.Takes X Wout)
    (hb : ∀ (W : WX) (pn : List (Addr × Obj)) (xe : Value → Shared → Prop), L2N.Takes (X.tr pn xe) W → PassesOwn (model X.prog X.w) X.A X.env xe → PSs (X.tr pn xe) body (tb W))
    (hsu : ∀ (a C : Addr) (oe : Obj) (pn : List (Addr × Obj)), HotP (X.suite a ((a, oe) :: pn)) a C → PSs (X.suite a ((a, oe) :: pn)) (b0 :: suite) (ts a C)) (hs : X.stack = X.env :: X.outer := by rfl) (hf : X.env.frame = some X.env.locals := by rfl) :
    PS X (.Try body [.ExceptHandler (some (.Name x np)) (some n) (b0 :: suite) pos'] [] [] pos) (tTryAs X.K c i tb ts Wout) := L2N.ps_try_as hs hf hN hi hln hc tk hb (suX hsu)
def tTryMany (K : PySem.W.Frag) (tb : WX → TS) (l : List (Value × (Addr → Addr → TS))) (Wout : WX) : TS := fun D σ H => tb (wMany K Wout D (l.map fun p => (p.1, tSu K p.2))) D σ H
inductive HdsX (X : Cx) : List ExceptHandler → List (Value × (Addr → Addr → TS)) → Prop
  | nil : HdsX X [] []
  | cons {x : Str} {c : Value} {ts : Addr → Addr → TS} {b0 : Stmt} {suite : List Stmt} {np pos' : Pos} {hds : List ExceptHandler} {l : List (Value × (Addr → Addr → TS))} (hc : Names X x c)
      (hsu : ∀ (a C : Addr) (oe : Obj) (pn : List (Addr × Obj)), HotP (X.suite a ((a, oe) :: pn)) a C → PSs (X.suite a ((a, oe) :: pn)) (b0 :: suite) (ts a C)) (r : HdsX X hds l) :
      HdsX X (.ExceptHandler (some (.Name x np)) none (b0 :: suite) pos' :: hds) ((c, ts) :: l)
theorem HdsX.ok {X : Cx} {hds : List ExceptHandler} {l : List (Value × (Addr → Addr → TS))} (h : HdsX X hds l) : L2N.HdsOk X hds (l.map fun p => (p.1, tSu X.K p.2)) := by
  induction h with
  | nil => exact .nil
  | cons hc hsu r ih => exact .cons hc (suX hsu) ih
theorem tryMany {X : Cx} {body : List Stmt} {h0 : ExceptHandler} {hds : List ExceptHandler} {l : List (Value × (Addr → Addr → TS))} {pos : Pos} {tb : WX → TS} {Wout : WX} (tk : L2N.Takes X Wout)
    (hb : ∀ (W : WX) (pn : List (Addr × Obj)) (xe : Value → Shared → Prop), L2N.Takes (X.tr pn xe) W → PassesOwn (model X.prog X.w) X.A X.env xe → PSs (X.tr pn xe) body (tb W))
    (hh : HdsX X (h0 :: hds) l) (hs : X.stack = X.env :: X.outer := by rfl) (hf : X.env.frame = some X.env.locals := by rfl) : PS X (.Try body (h0 :: hds) [] [] pos) (tTryMany X.K tb l Wout) := L2N.ps_try_many hs hf tk hb hh.ok
section
variable {K : PySem.W.Frag} {σ : Bk.St} {H : Hp} {Q : VK} {D : Ends} {nx bk ct : Bk.St → Hp → Prop} {rt : VK} {c cls : Value} {C e : Addr} {i : Nat} {ts : Addr → Value → Option Addr → TS} {t : Addr → Addr → TS} {tb : WX → TS} {Wout : WX} {E : XK} {d : Option Addr} {l : List (Value × (Addr → Addr → TS))} {l' : List (Value × (Addr → Value → Option Addr → TS))}
theorem go_tryAs (q : tb (wAs K c i (tSu K t) Wout D) D σ H) : tTryAs K c i tb t Wout D σ H := q
theorem go_tryMany (q : tb (wMany K Wout D (l.map fun p => (p.1, tSu K p.2))) D σ H) : tTryMany K tb l Wout D σ H := q
theorem go_WM (q : E cls d H) : WM E cls d σ H := q
theorem go_asT [k : ExmF K (.ref C) c true] [x : ExcF K C] (q : ∀ e, H e = none → t e C ⟨fun σ' H' => nx (σ'.set i none) H', rt, fun σ' H' => bk (σ'.set i none) H', fun σ' H' => ct (σ'.set i none) H'⟩ (σ.set i (some (.ref e))) H) : wAs K c i (tSu K t) Wout ⟨nx, rt, bk, ct⟩ (.ref C) none σ H :=
  ⟨true, k.h, fun _ e he => ⟨C, rfl, rfl, x.h, q e he⟩, fun z => Bool.noConfusion z⟩
theorem go_asF [k : ExmF K cls c false] (q : Wout cls d σ H) : wAs K c i ts Wout D cls d σ H := ⟨false, k.h, fun z => Bool.noConfusion z, fun _ => q⟩
theorem go_manyT [k : ExmF K (.ref C) c true] [x : ExcF K C] (q : ∀ e, H e = none → t e C D σ H) : wMany K Wout D ((c, tSu K t) :: l') (.ref C) none σ H := ⟨true, k.h, fun _ e he => ⟨C, rfl, rfl, x.h, q e he⟩, fun z => Bool.noConfusion z⟩
theorem go_manyF [k : ExmF K cls c false] (q : wMany K Wout D l' cls d σ H) : wMany K Wout D ((c, ts) :: l') cls d σ H := ⟨false, k.h, fun z => Bool.noConfusion z, fun _ => q⟩
theorem go_manyN (q : Wout cls d σ H) : wMany K Wout D [] cls d σ H := q
end

/-! ### steps: objects, calls, loops in hot code -/
/-- a list walked, calm or hot -/
def ListYK (K : PySem.W.Frag) (R : It → Hp → Prop) : VK := fun x H1 => ∃ a, x = .ref a ∧ ∃ xs, SqL K H1 a xs ∧ R (Itl K a) H1
section
variable {K : PySem.W.Frag} {σ : Bk.St} {H H1 : Hp} {Q : VK} {tl ta tv : TE} {R : It → Hp → Prop} {a C dx : Addr} {xs : List V} {fs : List (Str × V)} {f m : Str} {v y : V} {nx bk ct : Bk.St → Hp → Prop} {rt : VK} {E : Bk.St → XK} {t : TA} {sp : Sp} {alts : List (Addr × Sp)}
theorem go_listY (q : tl σ H (ListYK K R)) : iListY K tl σ H R := q
theorem go_listYL (h : H a = some (.lst xs)) (q : R (Itl K a) H) : ListYK K R (.ref a) H := ⟨a, rfl, xs, SqL.of h, q⟩
def FldK (K : PySem.W.Frag) (f : Str) (Q : VK) : VK := fun x H1 => ∃ a C dx fs v, x = .ref a ∧ H1 a = some (.ins C dx fs) ∧ Cls K C ∧ NoAttr K C f ∧ fs.lookup f = some v ∧ Q v H1
theorem go_fld (q : ta σ H (FldK K f Q)) : tFld K ta f σ H Q := q
theorem go_FldK (h : H a = some (.ins C dx fs)) (c : ClsF K C) (n : NoAF K C f) (l : fs.lookup f = some v) (q : Q v H) : FldK K f Q (.ref a) H := ⟨a, C, dx, fs, v, rfl, h, c.h, n.h, l, q⟩
def SFldK (K : PySem.W.Frag) (f : Str) (y : V) (σ : Bk.St) (nx : Bk.St → Hp → Prop) : VK := fun x H2 => ∃ a C dx fs, x = .ref a ∧ H2 a = some (.ins C dx fs) ∧ Cls K C ∧ NoAttr K C f ∧ fs.length < 1000 ∧ nx σ (upd H2 a (.ins C dx (putF f y fs)))
theorem go_sfld (q : tv σ H fun y H1 => ta σ H1 (SFldK K f y σ nx)) : sFld K ta tv f ⟨nx, rt, bk, ct⟩ σ H := q
theorem go_SFldK (h : H a = some (.ins C dx fs)) (c : ClsF K C) (n : NoAF K C f) (hl : fs.length < 1000) {fs' : List (Str × V)} (e : putF f y fs = fs') (q : ∀ H1, Wr H a (.ins C dx fs') H1 → nx σ H1) : SFldK K f y σ nx (.ref a) H := by
  subst e
  exact ⟨a, C, dx, fs, rfl, h, c.h, n.h, hl, wr_of h q⟩
def MethK (m : Str) (alts : List (Addr × Sp)) (E : Bk.St → XK) (t : TA) (σ : Bk.St) (Q : VK) : VK := fun x H1 => ∃ a dx fs C sp, x = .ref a ∧ H1 a = some (.ins C dx fs) ∧ fs.lookup m = none ∧ (C, sp) ∈ alts ∧ t σ H1 fun vs H2 => sp (x :: vs) H2 Q (E σ)
theorem go_meth (q : ta σ H (MethK m alts E t σ Q)) : tMethP m alts E ta t σ H Q := q
/-- the class at hand: the n-th of those that have the method -/
theorem go_MethK (n : Nat) (h : H a = some (.ins C dx fs)) (l : fs.lookup m = none) (hn : alts[n]? = some (C, sp)) (q : t σ H fun vs H2 => sp (.ref a :: vs) H2 Q (E σ)) : MethK m alts E t σ Q (.ref a) H := ⟨a, dx, fs, C, sp, rfl, h, l, List.mem_of_getElem? hn, q⟩
def MakeK (C : Addr) (sp : Sp) (E : XK) (Q : VK) : List V → Hp → Prop := fun vs H1 => ∀ x dx, H1 x = none → H1 dx = none → dx ≠ x → sp (.ref x :: vs) (upd (upd H1 dx (.own x)) x (.ins C dx [])) (fun v H2 => v = .non ∧ Q (.ref x) H2) E
theorem go_make (q : t σ H (MakeK C sp (E σ) Q)) : tMakeE C sp E t σ H Q := q
theorem go_MakeK {vs : List V} {E : XK} (q : ∀ dx H1 x H2, New H dx (.own x) H1 → New H1 x (.ins C dx []) H2 → sp (.ref x :: vs) H2 (fun v H3 => v = .non ∧ Q (.ref x) H3) E) : MakeK C sp E Q vs H :=
  fun x dx hx hd ne => q dx _ x _ ⟨hd, rfl⟩ ⟨by rw [upd_ne (Ne.symm ne)]; exact hx, rfl⟩
theorem go_non {R : Prop} (q : R) : V.non = V.non ∧ R := ⟨rfl, q⟩
theorem go_callX {sp : Addr → Addr → Sp} {ex D : Addr} (q : t σ H fun vs H1 => sp ex D vs H1 Q (E σ)) : tCallX sp ex D E t σ H Q := q
def MethXK (m : Str) (C : Addr) (sp : Addr → Addr → Sp) (ex D : Addr) (E : XK) (t : TA) (σ : Bk.St) (Q : VK) : VK := fun x H1 => ∃ a dx fs, x = .ref a ∧ H1 a = some (.ins C dx fs) ∧ fs.lookup m = none ∧ t σ H1 fun vs H2 => sp ex D (x :: vs) H2 Q E
theorem go_methX {sp : Addr → Addr → Sp} {ex D : Addr} (q : ta σ H (MethXK m C sp ex D (E σ) t σ Q)) : tMethX m C sp ex D E ta t σ H Q := q
theorem go_MethXK {sp : Addr → Addr → Sp} {ex D : Addr} {E : XK} (h : H a = some (.ins C dx fs)) (l : fs.lookup m = none) (q : t σ H fun vs H2 => sp ex D (.ref a :: vs) H2 Q E) : MethXK m C sp ex D E t σ Q (.ref a) H := ⟨a, dx, fs, rfl, h, l, q⟩
-- dicts
def DGetK (Q : VK) (x : V) : VK := fun y H2 => ∃ a v, x = .ref a ∧ DGet H2 a y (some v) ∧ Q v H2
theorem go_dget {ty : TE} (q : ta σ H fun x H1 => ty σ H1 (DGetK Q x)) : tDGet ta ty σ H Q := q
theorem go_DGetS {kvs : List (Key × V)} {k : Str} (h : H a = some (.dK kvs)) (l : valV kvs (.inr k) = some v) (q : Q v H) : DGetK Q (.ref a) (.str k) H := ⟨a, v, rfl, l ▸ DGet.k (k := .inr k) h, q⟩
theorem go_DGetI {kvs : List (Key × V)} {k : Int} (h : H a = some (.dK kvs)) (l : valV kvs (.inl k) = some v) (q : Q v H) : DGetK Q (.ref a) (.int k) H := ⟨a, v, rfl, l ▸ DGet.k (k := .inl k) h, q⟩
def DPutK (v x : V) (σ : Bk.St) (nx : Bk.St → Hp → Prop) : VK := fun y H3 => ∃ a H4, x = .ref a ∧ DPut H3 a y v H4 ∧ nx σ H4
theorem go_dput {td ty : TE} (q : tv σ H fun v H1 => td σ H1 fun x H2 => ty σ H2 (DPutK v x σ nx)) : sDPut td ty tv ⟨nx, rt, bk, ct⟩ σ H := q
theorem go_DPutS {kvs kvs' : List (Key × V)} {k : Str} (h : H a = some (.dK kvs)) (hl : kvs.length < 1000) (e : putK kvs (.inr k) v = kvs') (q : ∀ H1, Wr H a (.dK kvs') H1 → nx σ H1) : DPutK v (.ref a) σ nx (.str k) H := by
  subst e
  exact ⟨a, _, rfl, DPut.k (k := .inr k) h (by rw [sizeLine_eq]; omega), wr_of h q⟩
theorem go_DPutI {kvs kvs' : List (Key × V)} {k : Int} (h : H a = some (.dK kvs)) (hl : kvs.length < 1000) (e : putK kvs (.inl k) v = kvs') (q : ∀ H1, Wr H a (.dK kvs') H1 → nx σ H1) : DPutK v (.ref a) σ nx (.int k) H := by
  subst e
  exact ⟨a, _, rfl, DPut.k (k := .inl k) h (by rw [sizeLine_eq]; omega), wr_of h q⟩
def DispK (p : Addr) (Q : VK) : List (V × V) → Hp → Prop := fun ps H2 => H2 p = some (.dK []) ∧ ∃ kvs : List (Key × V), ps = kvs.map (fun kv => (kV kv.1, kv.2)) ∧ kvs.length ≤ 15 ∧ Q (.ref p) (upd H2 p (.dK (mergeK [] kvs)))
theorem go_disp {trs : List (TE × TE)} (q : ∀ p H1, New H p (.dK []) H1 → tPairs trs σ H1 (DispK p Q)) : tDisp trs σ H Q := fun p hp => q p _ ⟨hp, rfl⟩
theorem go_pairs {tk tv : TE} {r : List (TE × TE)} {QP : List (V × V) → Hp → Prop} (q : tk σ H fun x H1 => tv σ H1 fun y H2 => tPairs r σ H2 fun ps H3 => QP ((x, y) :: ps) H3) : tPairs ((tk, tv) :: r) σ H QP := q
theorem go_pairs0 {QP : List (V × V) → Hp → Prop} (q : QP [] H) : tPairs [] σ H QP := q
theorem go_DispK (kvs : List (Key × V)) {kvs' : List (Key × V)} {p : Addr} {ps : List (V × V)} (h : H p = some (.dK [])) (e : ps = kvs.map (fun kv => (kV kv.1, kv.2))) (hl : kvs.length ≤ 15) (m : mergeK [] kvs = kvs') (q : ∀ H1, Wr H p (.dK kvs') H1 → Q (.ref p) H1) : DispK p Q ps H := by
  subst m
  exact ⟨h, kvs, e, hl, wr_of h q⟩
-- a pair of names
def ParK (i j : Nat) (σ : Bk.St) (nx : Bk.St → Hp → Prop) : List V → Hp → Prop := fun vs H1 => ∃ v w, vs = [v, w] ∧ nx ((σ.set i (some v)).set j (some w)) H1
theorem go_par {i j : Nat} (q : t σ H (ParK i j σ nx)) : tPar i j t ⟨nx, rt, bk, ct⟩ σ H := q
theorem go_ParK {i j : Nat} {σ' : Bk.St} (h : (σ.set i (some v)).set j (some y) = σ') (q : nx σ' H) : ParK i j σ nx [v, y] H := by subst h; exact ⟨v, y, rfl, q⟩
-- a place of a list written
def SubK (r : TSet) (v : V) (o : V) (σ : Bk.St) (nx : Bk.St → Hp → Prop) : VK := fun i H2 => r o i v H2 fun H3 => nx σ H3
theorem go_sub_ {to ti : TE} {r : TSet} (q : to σ H fun o H1 => ti σ H1 (SubK r v o σ nx)) : gSub to ti r v σ H nx := q
theorem go_setL {i : Int} {j : Nat} (h : H a = some (.lst xs)) (hi : ixN xs.length i = some j) (q : ∀ H1, Wr H a (.lst (xs.set j v)) H1 → nx σ H1) : SubK rSetL v (.ref a) σ nx (.int i) H := ⟨a, xs, i, j, rfl, rfl, h, hi, wr_of h q⟩
end
end Bk

/-! our own: comprehensions that make objects, changes of a few places, places of lists -/
namespace Bk
open PySem L2 PyProof.Rows
/-- all stands but at the places of S -/
def Chg (S : List Addr) (H H' : Hp) : Prop := ∀ b o, H b = some o → b ∉ S → H' b = some o
section
variable {S S' : List Addr} {H H1 H2 H3 : Hp} {a b p : Addr} {o u : HO}
theorem Chg.at (c : Chg S H H1) (hn : b ∉ S) (h : H b = some u) : H1 b = some u := c _ _ h hn
theorem Chg.of (s : Same H H1) : Chg S H H1 := fun b o h _ => s _ _ h
theorem Chg.refl : Chg S H H := fun b o h _ => h
theorem Chg.trans (c : Chg S H H1) (d : Chg S H1 H2) : Chg S H H2 := fun b o h n => d _ _ (c _ _ h n) n
theorem Chg.mono (c : Chg S H H1) (h : ∀ x ∈ S, x ∈ S') : Chg S' H H1 := fun b o e n => c _ _ e fun z => n (h _ z)
theorem Chg.same (c : Chg [] H H1) : Same H H1 := fun b o h => c _ _ h (by simp)
theorem Chg.wr (w : Wr H a o H1) (h : a ∈ S) : Chg S H H1 := fun b u e n => w.old (fun z => n (z ▸ h)) e
theorem Chg.new (n : New H p o H1) : Chg S H H1 := .of n.same
/-- a place that was free may be written -/
theorem Chg.fresh (c : Chg S H H1) (n : H p = none) (d : Chg (p :: S) H1 H2) : Chg S H H2 := fun b u h hn => d _ _ (c _ _ h hn) fun z => (List.mem_cons.mp z).elim (fun e => by rw [e, n] at h; cases h) hn
theorem Chg.drop (c : Chg (p :: S) H H1) (n : H p = none) : Chg S H H1 := Chg.fresh .refl n c
theorem ni_nil : b ∉ ([] : List Addr) := by simp
theorem ni_cons {x : Addr} {l : List Addr} (h : b ≠ x) (k : b ∉ l) : b ∉ x :: l := fun z => (List.mem_cons.mp z).elim h k
/-- unlike contents, unlike places -/
theorem ne_obj (h : H a = some o) (k : H b = some u) (n : o ≠ u) : a ≠ b := fun e => n (by rw [e, k] at h; exact (Option.some.inj h).symm)
end
/-- places of ints in range -/
theorem ixN_in {n : Nat} {i : Int} (h : 0 ≤ i ∧ i < n) : ixN n i = some i.toNat := by
  unfold ixN
  rw [if_pos h.1, if_pos h.2]
theorem atI_in {α : Type} {xs : List α} {i : Int} (h : 0 ≤ i) : atI xs i = xs[i.toNat]? := by
  unfold atI
  by_cases c : i < xs.length
  · rw [ixN_in ⟨h, c⟩]; rfl
  · have e : ixN xs.length i = none := by unfold ixN; rw [if_pos h, if_neg c]
    rw [e, List.getElem?_eq_none (by omega)]; rfl
section
variable {K : PySem.W.Frag} {σ : Bk.St} {H H1 : Hp} {Q : VK} {a : Addr} {xs : List V} {te : TE} {tt : TT} {m n : Nat} {lo : Int} {v x : V} {nx : Bk.St → Hp → Prop}
theorem go_setLi {i : Int} (h : H a = some (.lst xs)) (hi : 0 ≤ i ∧ i < xs.length) (q : ∀ H1, Wr H a (.lst (xs.set i.toNat v)) H1 → nx σ H1) : SubK rSetL v (.ref a) σ nx (.int i) H := go_setL h (ixN_in hi) q
theorem go_decN {p A B : Prop} [Decidable p] (h : ¬ p → A) (k : p → B) : if (!decide p) = true then A else B := by
  by_cases c : p
  · exact go_Fn c (k c)
  · exact go_Tn c (h c)
/-- a place told by the list's own word of it -/
theorem go_ixAt {i : Int} (h : H a = some (.lst xs)) (h0 : 0 ≤ i) (e : xs[i.toNat]? = some v) (q : Q v H) : rIxP K (.ref a) (.int i) H Q := go_ixL h (by rw [atI_in h0]; exact e) q
theorem go_ixAtT {i : Int} (h : H a = some (.tup xs)) (h0 : 0 ≤ i) (e : xs[i.toNat]? = some v) (q : Q v H) : rIxP K (.ref a) (.int i) H Q := go_ixT h (by rw [atI_in h0]; exact e) q
/-- a comprehension over a list: INV of what was made so far, stable under changes of the list that is made -/
theorem lc_genL (INV : Addr → List V → Hp → Prop) (h : H1 a = some (.lst xs)) (hz : xs.length ≤ sizeLine)
    (stab : ∀ D acc H' H'', INV D acc H' → Chg [D] H' H'' → INV D acc H'') (h0 : ∀ D H', H1 D = none → New H1 D (.lst []) H' → INV D [] H')
    (step : ∀ D acc i x H' Q', H1 D = none → xs[i]? = some x → acc.length = i → Same H1 H' → H' D = some (.lst acc) → INV D acc H' → (∀ v H'', Same H' H'' → INV D (acc ++ [v]) H'' → Q' v H'') → te ((σ.set m none).set m (some x)) H' Q')
    (q : ∀ D vs H2, H1 D = none → Same H1 H2 → vs.length = xs.length → INV D vs H2 → H2 D = some (.lst vs) → Q (.ref D) H2) : LcK (gName m) tYes te [m] σ Q (Itl K a) H1 := by
  intro D hD
  refine lc_list (K := K) (a := a) (xs := xs) (fun i H => ∃ acc : List V, acc.length = i ∧ H D = some (.lst acc) ∧ INV D acc H ∧ Same H1 H) ⟨[], rfl, upd_same, h0 D _ hD ⟨hD, rfl⟩, fun b o e => by rw [upd_ne (ne_of_none e hD)]; exact e⟩ (fun i H _ ⟨_, _, _, _, s⟩ => SqL.of (s _ _ h)) ?_ ?_
  · rintro i x H' hx ⟨acc, hl, hd, iv, s⟩
    refine ⟨?_, yes_if (step D acc i x H' _ hD hx hl s hd iv fun v H3 s3 iv3 => ?_)⟩
    · show ((σ.set m none).set m (some x)).set m none = σ.set m none
      rw [List.set_set, List.set_set]
    · have h3 : i < xs.length := (List.getElem?_eq_some_iff.mp hx).1
      refine ⟨acc, s3 _ _ hd, by omega, acc ++ [v], by simp [hl], upd_same, stab D _ _ _ iv3 fun b o e hb => ?_, fun b o e => ?_⟩
      · rw [upd_ne (by simpa using hb)]; exact e
      · rw [upd_ne (ne_of_none e hD)]; exact s3 _ _ (s _ _ e)
  · rintro H2 ⟨acc, hl, hd, iv, s⟩
    exact q D acc H2 hD s hl iv hd
theorem lc_genR (INV : Addr → List V → Hp → Prop) (hz : n ≤ sizeLine)
    (stab : ∀ D acc H' H'', INV D acc H' → Chg [D] H' H'' → INV D acc H'') (h0 : ∀ D H', H1 D = none → New H1 D (.lst []) H' → INV D [] H')
    (step : ∀ D acc i H' Q', H1 D = none → i < n → acc.length = i → Same H1 H' → H' D = some (.lst acc) → INV D acc H' → (∀ v H'', Same H' H'' → INV D (acc ++ [v]) H'' → Q' v H'') → te ((σ.set m none).set m (some (.int (lo + i)))) H' Q')
    (q : ∀ D vs H2, H1 D = none → Same H1 H2 → vs.length = n → INV D vs H2 → H2 D = some (.lst vs) → Q (.ref D) H2) : LcK (gName m) tYes te [m] σ Q (Itr lo n) H1 := by
  intro D hD
  refine lc_range (fun i H => ∃ acc : List V, acc.length = i ∧ H D = some (.lst acc) ∧ INV D acc H ∧ Same H1 H) ⟨[], rfl, upd_same, h0 D _ hD ⟨hD, rfl⟩, fun b o e => by rw [upd_ne (ne_of_none e hD)]; exact e⟩ ?_ ?_
  · rintro i H' hi ⟨acc, hl, hd, iv, s⟩
    refine ⟨?_, yes_if (step D acc i H' _ hD hi hl s hd iv fun v H3 s3 iv3 => ?_)⟩
    · show ((σ.set m none).set m (some (.int (lo + i)))).set m none = σ.set m none
      rw [List.set_set, List.set_set]
    · refine ⟨acc, s3 _ _ hd, by omega, acc ++ [v], by simp [hl], upd_same, stab D _ _ _ iv3 fun b o e hb => ?_, fun b o e => ?_⟩
      · rw [upd_ne (by simpa using hb)]; exact e
      · rw [upd_ne (ne_of_none e hD)]; exact s3 _ _ (s _ _ e)
  · rintro H2 ⟨acc, hl, hd, iv, s⟩
    exact q D acc H2 hD s hl iv hd
/-- new objects, one by one: their places, unlike one another -/
structure News (H1 : Hp) (o : Nat → HO) (D : Addr) (ps : List Addr) (H2 : Hp) : Prop where
  free : ∀ p ∈ ps, H1 p = none
  ne : ∀ p ∈ ps, p ≠ D
  at_ : ∀ (i : Nat) (p : Addr), ps[i]? = some p → H2 p = some (o i)
  nd : ps.Nodup
theorem News.chg {o : Nat → HO} {D : Addr} {ps : List Addr} {H2 H3 : Hp} (w : News H1 o D ps H2) (c : Chg [D] H2 H3) : News H1 o D ps H3 :=
  ⟨w.free, w.ne, fun i p e => c.at (by simpa using w.ne p (List.mem_of_getElem? e)) (w.at_ i p e), w.nd⟩
theorem News.nil {o : Nat → HO} {D : Addr} {H2 : Hp} : News H1 o D [] H2 := ⟨by simp, by simp, by simp, by simp⟩
theorem News.snoc {o : Nat → HO} {D p : Addr} {ps : List Addr} {H2 H3 : Hp} {u : HO} (w : News H1 o D ps H2) (hD : H2 D = some u) (s : Same H2 H3) (s0 : Same H1 H2) (hp : H2 p = none) (h : H3 p = some (o ps.length)) : News H1 o D (ps ++ [p]) H3 := by
  have old : ∀ q ∈ ps, ∃ u, H2 q = some u := fun q hq => by
    obtain ⟨i, hi⟩ := List.mem_iff_getElem?.mp hq
    exact ⟨_, w.at_ i q hi⟩
  refine ⟨fun q hq => ?_, fun q hq => ?_, fun i q e => ?_, ?_⟩
  · rcases List.mem_append.mp hq with hq | hq
    · exact w.free q hq
    · rw [List.mem_singleton.mp hq]; exact s0.free hp
  · rcases List.mem_append.mp hq with hq | hq
    · exact w.ne q hq
    · rw [List.mem_singleton.mp hq]; exact Ne.symm (ne_none hp hD)
  · by_cases c : i < ps.length
    · rw [List.getElem?_append_left c] at e
      exact s _ _ (w.at_ i q e)
    · rw [List.getElem?_append_right (by omega)] at e
      have e1 : i - ps.length = 0 := by
        have := (List.getElem?_eq_some_iff.mp e).1
        simp at this; omega
      rw [e1] at e
      cases e
      rw [show i = ps.length by omega]
      exact h
  · rw [List.nodup_append]
    refine ⟨w.nd, by simp, fun q hq r hr => ?_⟩
    rw [List.mem_singleton.mp hr]
    obtain ⟨u, e⟩ := old q hq
    exact ne_none hp e
theorem map_snoc {ps : List Addr} {p : Addr} : ps.map V.ref ++ [V.ref p] = (ps ++ [p]).map V.ref := by simp
theorem lc_newL {o : Nat → HO} (h : H1 a = some (.lst xs)) (hz : xs.length ≤ sizeLine)
    (step : ∀ i x H' Q', xs[i]? = some x → Same H1 H' → (∀ p H'', Same H' H'' → H' p = none → H'' p = some (o i) → Q' (.ref p) H'') → te ((σ.set m none).set m (some x)) H' Q')
    (q : ∀ D ps H2, H1 D = none → Same H1 H2 → ps.length = xs.length → News H1 o D ps H2 → H2 D = some (.lst (ps.map V.ref)) → Q (.ref D) H2) : LcK (gName m) tYes te [m] σ Q (Itl K a) H1 := by
  refine lc_genL (fun D acc H' => ∃ ps : List Addr, acc = ps.map V.ref ∧ News H1 o D ps H') h hz (fun D acc H' H'' ⟨ps, e, w⟩ c => ⟨ps, e, w.chg c⟩) (fun D H' _ _ => ⟨[], rfl, .nil⟩) ?_ ?_
  · rintro D acc i x H' Q' hD hx hl s hd ⟨ps, rfl, w⟩ k
    refine step i x H' Q' hx s fun p H'' s2 hp hp2 => k _ _ s2 ⟨ps ++ [p], map_snoc, w.snoc hd s2 s hp ?_⟩
    rw [show ps.length = i by simpa using hl]; exact hp2
  · rintro D vs H2 hD s hl ⟨ps, rfl, w⟩ hd
    exact q D ps H2 hD s (by simpa using hl) w hd
theorem lc_newR {o : Nat → HO} (hz : n ≤ sizeLine)
    (step : ∀ i H' Q', i < n → Same H1 H' → (∀ p H'', Same H' H'' → H' p = none → H'' p = some (o i) → Q' (.ref p) H'') → te ((σ.set m none).set m (some (.int (lo + i)))) H' Q')
    (q : ∀ D ps H2, H1 D = none → Same H1 H2 → ps.length = n → News H1 o D ps H2 → H2 D = some (.lst (ps.map V.ref)) → Q (.ref D) H2) : LcK (gName m) tYes te [m] σ Q (Itr lo n) H1 := by
  refine lc_genR (fun D acc H' => ∃ ps : List Addr, acc = ps.map V.ref ∧ News H1 o D ps H') hz (fun D acc H' H'' ⟨ps, e, w⟩ c => ⟨ps, e, w.chg c⟩) (fun D H' _ _ => ⟨[], rfl, .nil⟩) ?_ ?_
  · rintro D acc i H' Q' hD hi hl s hd ⟨ps, rfl, w⟩ k
    refine step i H' Q' hi s fun p H'' s2 hp hp2 => k _ _ s2 ⟨ps ++ [p], map_snoc, w.snoc hd s2 s hp ?_⟩
    rw [show ps.length = i by simpa using hl]; exact hp2
  · rintro D vs H2 hD s hl ⟨ps, rfl, w⟩ hd
    exact q D ps H2 hD s (by simpa using hl) w hd
end
/-! attributes and keys by their names -/
section
variable {f g : Str} {v x : V} {r r' : List (Str × V)}
theorem putF_nil : putF f v [] = [(f, v)] := rfl
theorem putF_hit : putF f v ((f, x) :: r) = (f, v) :: r := by rw [putF, if_pos rfl]
theorem putF_miss (h : g ≠ f) (k : putF f v r = r') : putF f v ((g, x) :: r) = (g, x) :: r' := by rw [putF, if_neg h, k]
end
section
variable {k g : Key} {v x : V} {r r' : List (Key × V)}
theorem putK_nil : putK ([] : List (Key × V)) k v = [(k, v)] := rfl
theorem putK_hit (h : (r.map (·.1)).all (fun y => decide (y ≠ k)) = true) : putK ((k, x) :: r) k v = (k, v) :: r := by
  unfold putK
  rw [if_pos (by simp)]
  simp only [List.map_cons, if_true]
  refine congrArg _ ?_
  refine (List.map_congr_left fun y hy => ?_).trans (List.map_id _)
  have := List.all_eq_true.mp h y.1 (List.mem_map_of_mem hy)
  rw [if_neg (of_decide_eq_true this)]
  rfl
theorem putK_miss (h : g ≠ k) (e : putK r k v = r') : putK ((g, x) :: r) k v = (g, x) :: r' := by
  subst e
  unfold putK
  by_cases c : (r.any fun kv => decide (kv.1 = k)) = true
  · rw [if_pos c, if_pos (by rw [List.any_cons, c, Bool.or_true]), List.map_cons, if_neg h]
  · have c' : (r.any fun kv => decide (kv.1 = k)) = false := Bool.eq_false_iff.mpr c
    rw [if_neg c, if_neg (by rw [List.any_cons, c', decide_eq_false h]; decide)]
    rfl
theorem mergeK_go : ∀ (kvs acc : List (Key × V)), ((acc ++ kvs).map (·.1)).Nodup → mergeK acc kvs = acc ++ kvs
  | [], acc, _ => by simp [mergeK]
  | (k, v) :: r, acc, h => by
    have e : putK acc k v = acc ++ [(k, v)] := by
      unfold putK
      rw [if_neg]
      rw [List.any_eq_true]
      rintro ⟨y, hy, e⟩
      have e := of_decide_eq_true e
      rw [List.map_append, List.nodup_append] at h
      exact h.2.2 y.1 (List.mem_map_of_mem hy) k (by simp) e
    have := mergeK_go r (acc ++ [(k, v)]) (by simpa using h)
    unfold mergeK at this ⊢
    rw [List.foldl_cons, e, this]
    simp
theorem mergeK_nd {kvs : List (Key × V)} (h : (kvs.map (·.1)).Nodup) : mergeK [] kvs = kvs := mergeK_go kvs [] h
end
/-- string keys of a display -/
def unS : List (V × V) → List (Key × V)
  | (.str k, v) :: r => (.inr k, v) :: unS r
  | _ => []
theorem go_DispS {H : Hp} {Q : VK} {kvs' : List (Key × V)} {p : Addr} {ps : List (V × V)} (h : H p = some (.dK [])) (e : ps = (unS ps).map (fun kv => (kV kv.1, kv.2))) (hl : (unS ps).length ≤ 15) (k : unS ps = kvs') {ks : List Key} (km : kvs'.map (·.1) = ks) (m : ks.Nodup) (q : ∀ H1, Wr H p (.dK kvs') H1 → Q (.ref p) H1) : DispK p Q ps H :=
  go_DispK (unS ps) h e hl (by subst k; exact mergeK_nd (km ▸ m)) q
end Bk

/-! our own: more steps -/
namespace Bk
open PySem L2 PyProof.Rows
theorem Same.chg {H0 H H' : Hp} {S : List Addr} (s : Same H0 H) (c : Chg S H H') (n : ∀ b ∈ S, H0 b = none) : Same H0 H' := fun b o e => c _ _ (s _ _ e) fun z => by rw [n b z] at e; cases e
section
variable {K : PySem.W.Frag} {σ : Bk.St} {H H1 : Hp} {Q : VK} {a : Addr} {xs : List V} {te : TE} {tt : TT} {m n : Nat} {lo : Int} {v x : V} {nx : Bk.St → Hp → Prop}
/-- a slice of the script -/
theorem go_slK {lo hi : Option Int} (h : SqL K H a xs) (q : ∀ p H1, New H p (.lst (cutV xs lo hi)) H1 → Q (.ref p) H1) : rSlP K (.ref a) lo hi H Q := .inl ⟨a, xs, rfl, h, new_of q⟩
theorem go_indexB {bs : List Bool} {j : Nat} (h : H a = some (.lst (bs.map V.bl))) (hj : bs[j]? = some true) (hl : ∀ m, m < j → bs[m]? = some false) (q : Q (.int j) H) : rIndex K (.ref a) [.bl true] H Q := by
  refine ⟨a, bs.map V.bl, .bl true, j, .bl true, rfl, rfl, SqL.of h, rfl, List.all_eq_true.mpr fun y hy => ?_, by rw [List.getElem?_map, hj]; rfl, rfl, fun m z' hm e => ?_, q⟩
  · obtain ⟨b, _, rfl⟩ := List.mem_map.mp hy
    rfl
  · rw [List.getElem?_map, hl m hm] at e
    cases e; rfl
theorem lc_bools {bs : List Bool} (h : H1 a = some (.lst (bs.map V.bl))) (hz : bs.length ≤ 1000) (hm : m < σ.length) (q : ∀ D H2, H1 D = none → Same H1 H2 → H2 D = some (.lst ((bs.filter id).map V.bl)) → Q (.ref D) H2) : LcK (gName m) (tB (tVar m)) (tVar m) [m] σ Q (Itl K a) H1 := by
  have at_ : ∀ x, ((σ.set m none).set m (some x))[m]? = some (some x) := fun x => List.getElem?_set_self (by simpa using hm)
  refine lc_L (f := id) (p := fun x => decide (x = .bl true)) h (by rw [sizeLine_eq, List.length_map]; omega) (fun i x H' QB hx s k => ?_) (fun i x H' Q' hx hp s k => ?_) (fun D H2 hD s hd => ?_)
  · obtain ⟨b, _, rfl⟩ := List.mem_map.mp (List.mem_of_getElem? hx)
    refine ⟨.bl b, at_ _, b, rfl, ?_⟩
    have := k H' (Same.refl _)
    cases b <;> exact this
  · exact ⟨x, at_ _, k H' (Same.refl _)⟩
  · refine q D H2 hD s ?_
    rw [hd, List.map_id, List.filter_map]
    congr 2
    congr 1
    refine List.filter_congr fun b _ => ?_
    cases b <;> rfl
end
/-- a heap without some places -/
def mask (H : Hp) (S : List Addr) : Hp := fun b => if b ∈ S then none else H b
theorem mask_same {H : Hp} {S : List Addr} : Same (mask H S) H := fun b o e => by
  unfold mask at e
  by_cases c : b ∈ S
  · rw [if_pos c] at e; cases e
  · rw [if_neg c] at e; exact e
theorem mask_in {H : Hp} {S : List Addr} {b : Addr} (h : b ∈ S) : mask H S b = none := by unfold mask; rw [if_pos h]
theorem mask_out {H : Hp} {S : List Addr} {b : Addr} (h : b ∉ S) : mask H S b = H b := by unfold mask; rw [if_neg h]
/-- lists of rows, as data -/
def rowsD (R : List (List Int)) : List PyData := R.map fun row => PyData.list (row.map PyData.int)
theorem dp_rows {K : PySem.W.Frag} {H : Hp} : ∀ {ks : List Addr} {R : List (List Int)}, ks.length = R.length → (∀ (i : Nat) (p : Addr), ks[i]? = some p → ∃ row, R[i]? = some row ∧ H p = some (.lst (row.map V.int))) → DpAll K H (ks.map V.ref) (rowsD R)
  | [], [], _, _ => .nil
  | p :: ks, row :: R, hl, h => by
    obtain ⟨row', e1, e2⟩ := h 0 p rfl
    cases e1
    exact .cons (dp_ints e2) (dp_rows (by simpa using hl) fun i q e => h (i + 1) q e)
theorem shaped_rows (R : List (List Int)) : SeqAt.shaped (.list (rowsD R)) = true := by
  have : PyData.canLayAll0 (rowsD R) = true ∧ PyData.depthAll (rowsD R) ≤ 2 := by
    induction R with
    | nil => exact ⟨by simp [rowsD, PyData.canLayAll0], by simp [rowsD, PyData.depthAll]⟩
    | cons row R ih =>
      have h1 := PySem.W.shaped_ints row
      have h2 := PySem.W.depthAll_ints row
      refine ⟨?_, ?_⟩
      · show PyData.canLayAll0 (PyData.list (row.map PyData.int) :: rowsD R) = true
        simp [PyData.canLayAll0, SeqAt.canLay_of_shaped h1, ih.1]
      · show PyData.depthAll (PyData.list (row.map PyData.int) :: rowsD R) ≤ 2
        simp only [PyData.depthAll, PyData.depth]
        have := ih.2
        omega
  exact shapedL this.1 this.2
/-! loops with targets of any kind; numbered lists -/
section
variable {K : PySem.W.Frag} {σ : Bk.St} {H H1 : Hp} {Q : VK} {a : Addr} {xs : List V} {g : TG} {tb : TS} {nx bk ct : Bk.St → Hp → Prop} {rt : VK} {te : TE} {tt : TT} {m n : Nat} {lo : Int}
theorem for_Lg (INV : Nat → Bk.St → Hp → Prop) (h : ∀ i σ H, INV i σ H → H a = some (.lst xs)) (h0 : INV 0 σ H1)
    (hs : ∀ i x σ H, xs[i]? = some x → INV i σ H → g x σ H fun σ2 H2 => tb ⟨INV (i + 1), rt, nx, INV (i + 1)⟩ σ2 H2) (hd : ∀ σ H, INV xs.length σ H → nx σ H) : ForK g tb ⟨nx, rt, bk, ct⟩ σ (Itl K a) H1 :=
  for_list (K := K) (a := a) (xs := xs) INV h0 (fun i σ H _ q => SqL.of (h i σ H q)) hs hd
theorem for_E (INV : Nat → Bk.St → Hp → Prop) (h : ∀ i σ H, INV i σ H → H a = some (.lst xs)) (h0 : INV 0 σ H1)
    (hs : ∀ i x σ H T H', xs[i]? = some x → INV i σ H → New H T (.tup [.int (i : Nat), x]) H' → g (.ref T) σ H' fun σ2 H2 => tb ⟨INV (i + 1), rt, nx, INV (i + 1)⟩ σ2 H2) (hd : ∀ σ H, INV xs.length σ H → nx σ H) : ForK g tb ⟨nx, rt, bk, ct⟩ σ (Ite K a) H1 := by
  refine ⟨fun i m σ H => m = xs.length - i ∧ i ≤ xs.length ∧ INV i σ H, ⟨xs.length, by simp, Nat.zero_le _, h0⟩, ?_⟩
  rintro i m σ H ⟨rfl, hi, p⟩
  have q := SqL.of (K := K) (h i σ H p)
  by_cases hlt : i < xs.length
  · refine .inr ⟨⟨xs, xs[i], q, by simp [hlt]⟩, INV (i + 1), fun σ' H' p' => ⟨xs.length - (i + 1), by omega, rfl, hlt, p'⟩, fun x H' y => ?_⟩
    obtain ⟨T, x, rfl, hT, rfl, y⟩ := y
    exact hs i x σ H T _ (y xs q) p ⟨hT, rfl⟩
  · have e : i = xs.length := by omega
    subst e
    exact .inl ⟨⟨xs, q, Nat.le_refl _⟩, hd σ H p⟩
def EnumK (K : PySem.W.Frag) (R : It → Hp → Prop) : List V → Hp → Prop := fun vs H1 => ∃ a xs, vs = [.ref a] ∧ SqL K H1 a xs ∧ R (Ite K a) H1
theorem go_enum {ta : TA} {R : It → Hp → Prop} (q : ta σ H (EnumK K R)) : iEnum K ta σ H R := q
theorem go_EnumL {R : It → Hp → Prop} (h : H a = some (.lst xs)) (q : R (Ite K a) H) : EnumK K R [.ref a] H := ⟨a, xs, rfl, SqL.of h, q⟩
/-- elements told by their numbers -/
theorem lc_idxL (f : Nat → V) (h : H1 a = some (.lst xs)) (hz : xs.length ≤ sizeLine)
    (step : ∀ i x H' Q', xs[i]? = some x → Same H1 H' → (∀ H'', Same H' H'' → Q' (f i) H'') → te ((σ.set m none).set m (some x)) H' Q')
    (q : ∀ D H2, H1 D = none → Same H1 H2 → H2 D = some (.lst ((List.range xs.length).map f)) → Q (.ref D) H2) : LcK (gName m) tYes te [m] σ Q (Itl K a) H1 := by
  refine lc_genL (fun D acc H' => acc = (List.range acc.length).map f) h hz (fun D acc H' H'' e _ => e) (fun D H' _ _ => rfl) ?_ ?_
  · rintro D acc i x H' Q' hD hx hl s hd iv k
    refine step i x H' Q' hx s fun H'' s2 => k _ _ s2 ?_
    rw [List.length_append, List.length_singleton, List.range_succ, List.map_append, ← iv, hl]
    rfl
  · rintro D vs H2 hD s hl iv hd
    exact q D H2 hD s (by rw [hd, iv, hl])
/-! ### lists of pairs of a number and a row -/
structure PrsAt (H : Hp) (P : Addr) (ts qs : List Addr) (prs : List (Int × List Int)) : Prop where
  rr : H P = some (.lst (ts.map V.ref))
  lt : ts.length = prs.length
  lq : qs.length = prs.length
  at_ : ∀ (i : Nat) (b : Int) (row : List Int), prs[i]? = some (b, row) → ∃ t q, ts[i]? = some t ∧ qs[i]? = some q ∧ H t = some (.tup [.int b, .ref q]) ∧ H q = some (.lst (row.map V.int))
theorem PrsAt.same {H H' : Hp} {P : Addr} {ts qs : List Addr} {prs : List (Int × List Int)} (h : PrsAt H P ts qs prs) (s : Same H H') : PrsAt H' P ts qs prs :=
  ⟨s _ _ h.rr, h.lt, h.lq, fun i b row e => let ⟨t, q, e1, e2, e3, e4⟩ := h.at_ i b row e; ⟨t, q, e1, e2, s _ _ e3, s _ _ e4⟩⟩
theorem PrsAt.chg {H H' : Hp} {S : List Addr} {P : Addr} {ts qs : List Addr} {prs : List (Int × List Int)} (h : PrsAt H P ts qs prs) (c : Chg S H H') (hP : P ∉ S) (ht : ∀ t ∈ ts, t ∉ S) (hq : ∀ q ∈ qs, q ∉ S) : PrsAt H' P ts qs prs :=
  ⟨c.at hP h.rr, h.lt, h.lq, fun i b row e => let ⟨t, q, e1, e2, e3, e4⟩ := h.at_ i b row e; ⟨t, q, e1, e2, c.at (ht t (List.mem_of_getElem? e1)) e3, c.at (hq q (List.mem_of_getElem? e2)) e4⟩⟩
/-- such pairs, made one by one -/
structure PrsNew (H1 : Hp) (D : Addr) (ts qs : List Addr) (prs : List (Int × List Int)) (H : Hp) : Prop where
  lt : ts.length = qs.length
  at_ : ∀ (i : Nat) (t q : Addr), ts[i]? = some t → qs[i]? = some q → ∃ b row, prs[i]? = some (b, row) ∧ H t = some (.tup [.int b, .ref q]) ∧ H q = some (.lst (row.map V.int))
  nt : ∀ t ∈ ts, t ≠ D ∧ H1 t = none
  nq : ∀ q ∈ qs, q ≠ D
theorem PrsNew.chg {H1 : Hp} {D : Addr} {ts qs : List Addr} {prs : List (Int × List Int)} {H H' : Hp} (w : PrsNew H1 D ts qs prs H) (c : Chg [D] H H') : PrsNew H1 D ts qs prs H' :=
  ⟨w.lt, fun i t q e1 e2 => let ⟨b, row, e3, e4, e5⟩ := w.at_ i t q e1 e2; ⟨b, row, e3, c.at (by simpa using (w.nt t (List.mem_of_getElem? e1)).1) e4, c.at (by simpa using w.nq q (List.mem_of_getElem? e2)) e5⟩, w.nt, w.nq⟩
theorem PrsNew.nil {H1 : Hp} {D : Addr} {prs : List (Int × List Int)} {H : Hp} : PrsNew H1 D [] [] prs H := ⟨rfl, by simp, by simp, by simp⟩
theorem get_snoc {α : Type} {l : List α} {x y : α} {i : Nat} (h : (l ++ [x])[i]? = some y) : l[i]? = some y ∨ (i = l.length ∧ y = x) := by
  by_cases c : i < l.length
  · rw [List.getElem?_append_left c] at h; exact .inl h
  · rw [List.getElem?_append_right (by omega)] at h
    have e1 : i - l.length = 0 := by
      have := (List.getElem?_eq_some_iff.mp h).1
      simp at this; omega
    rw [e1] at h
    cases h
    exact .inr ⟨by omega, rfl⟩
theorem PrsNew.snoc {H1 : Hp} {D t q : Addr} {ts qs : List Addr} {prs : List (Int × List Int)} {H H' : Hp} {u : HO} {b : Int} {row : List Int} (w : PrsNew H1 D ts qs prs H) (hD : H D = some u) (s : Same H H') (s0 : Same H1 H) (h1D : H1 D = none) (e : prs[ts.length]? = some (b, row))
    (ht : H t = none) (h : H' t = some (.tup [.int b, .ref q])) (hq : (∃ u, H1 q = some u) ∨ H q = none) (k : H' q = some (.lst (row.map V.int))) : PrsNew H1 D (ts ++ [t]) (qs ++ [q]) prs H' := by
  refine ⟨by simp [w.lt], fun i t' q' e1 e2 => ?_, fun t' ht' => ?_, fun q' hq' => ?_⟩
  · rcases get_snoc e1 with e1 | ⟨e1', rfl⟩
    · rcases get_snoc e2 with e2 | ⟨e2', rfl⟩
      · obtain ⟨b', row', e3, e4, e5⟩ := w.at_ i t' q' e1 e2
        exact ⟨b', row', e3, s _ _ e4, s _ _ e5⟩
      · have := (List.getElem?_eq_some_iff.mp e1).1
        rw [w.lt] at this; omega
    · rcases get_snoc e2 with e2 | ⟨e2', rfl⟩
      · have := (List.getElem?_eq_some_iff.mp e2).1
        rw [← w.lt] at this; omega
      · exact ⟨b, row, by rw [e1']; exact e, h, k⟩
  · rcases List.mem_append.mp ht' with z | z
    · exact w.nt t' z
    · rw [List.mem_singleton.mp z]; exact ⟨Ne.symm (ne_none ht hD), s0.free ht⟩
  · rcases List.mem_append.mp hq' with z | z
    · exact w.nq q' z
    · rw [List.mem_singleton.mp z]
      rcases hq with ⟨u, e⟩ | e
      · intro z; rw [z, h1D] at e; cases e
      · exact Ne.symm (ne_none e hD)
theorem PrsNew.prs {H1 : Hp} {D : Addr} {ts qs : List Addr} {prs : List (Int × List Int)} {H : Hp} (w : PrsNew H1 D ts qs prs H) (hl : ts.length = prs.length) (hd : H D = some (.lst (ts.map V.ref))) : PrsAt H D ts qs prs :=
  ⟨hd, hl, w.lt ▸ hl, fun i b row e => by
    have hi : i < prs.length := (List.getElem?_eq_some_iff.mp e).1
    have e1 : ts[i]? = some (ts[i]'(by omega)) := List.getElem?_eq_getElem _
    have e2 : qs[i]? = some (qs[i]'(by have := w.lt; omega)) := List.getElem?_eq_getElem _
    obtain ⟨b', row', e3, e4, e5⟩ := w.at_ i _ _ e1 e2
    rw [e] at e3; cases e3
    exact ⟨_, _, e1, e2, e4, e5⟩⟩
theorem lc_prsL {prs : List (Int × List Int)} (h : H1 a = some (.lst xs)) (hl : xs.length = prs.length) (hz : xs.length ≤ 1000)
    (step : ∀ (i : Nat) (x : V) (b : Int) (row : List Int) (H' : Hp) (Q' : VK), xs[i]? = some x → prs[i]? = some (b, row) → Same H1 H' → (∀ t q H'', Same H' H'' → H' t = none → H'' t = some (.tup [.int b, .ref q]) → ((∃ u, H1 q = some u) ∨ H' q = none) → H'' q = some (.lst (row.map V.int)) → Q' (.ref t) H'') → te ((σ.set m none).set m (some x)) H' Q')
    (q : ∀ D ts qs H2, H1 D = none → Same H1 H2 → PrsAt H2 D ts qs prs → (∀ t ∈ ts, H1 t = none) → Q (.ref D) H2) : LcK (gName m) tYes te [m] σ Q (Itl K a) H1 := by
  refine lc_genL (fun D acc H' => ∃ ts qs : List Addr, acc = ts.map V.ref ∧ PrsNew H1 D ts qs prs H') h (by rw [sizeLine_eq]; omega) (fun D acc H' H'' ⟨ts, qs, e, w⟩ c => ⟨ts, qs, e, w.chg c⟩) (fun D H' _ _ => ⟨[], [], rfl, .nil⟩) ?_ ?_
  · rintro D acc i x H' Q' hD hx hl2 s hd ⟨ts, qs, rfl, w⟩ k
    have hi : i < prs.length := by have := (List.getElem?_eq_some_iff.mp hx).1; omega
    have e : prs[i]? = some (prs[i].1, prs[i].2) := List.getElem?_eq_getElem hi
    refine step i x _ _ H' Q' hx e s fun t q H'' s2 ht ht2 hq hq2 => k _ _ s2 ⟨ts ++ [t], qs ++ [q], map_snoc, w.snoc hd s2 s hD (b := prs[i].1) (row := prs[i].2) ?_ ht ht2 hq hq2⟩
    rw [show ts.length = i by simpa using hl2]; exact e
  · rintro D vs H2 hD s hl2 ⟨ts, qs, rfl, w⟩ hd
    exact q D ts qs H2 hD s (w.prs (by simp at hl2; omega) hd) fun t ht => (w.nt t ht).2
theorem lc_prsR {prs : List (Int × List Int)} (hl : n = prs.length) (hz : n ≤ 1000)
    (step : ∀ (i : Nat) (b : Int) (row : List Int) (H' : Hp) (Q' : VK), i < n → prs[i]? = some (b, row) → Same H1 H' → (∀ t q H'', Same H' H'' → H' t = none → H'' t = some (.tup [.int b, .ref q]) → ((∃ u, H1 q = some u) ∨ H' q = none) → H'' q = some (.lst (row.map V.int)) → Q' (.ref t) H'') → te ((σ.set m none).set m (some (.int (lo + i)))) H' Q')
    (q : ∀ D ts qs H2, H1 D = none → Same H1 H2 → PrsAt H2 D ts qs prs → (∀ t ∈ ts, H1 t = none) → Q (.ref D) H2) : LcK (gName m) tYes te [m] σ Q (Itr lo n) H1 := by
  refine lc_genR (fun D acc H' => ∃ ts qs : List Addr, acc = ts.map V.ref ∧ PrsNew H1 D ts qs prs H') (by rw [sizeLine_eq]; omega) (fun D acc H' H'' ⟨ts, qs, e, w⟩ c => ⟨ts, qs, e, w.chg c⟩) (fun D H' _ _ => ⟨[], [], rfl, .nil⟩) ?_ ?_
  · rintro D acc i H' Q' hD hx hl2 s hd ⟨ts, qs, rfl, w⟩ k
    have hi : i < prs.length := by omega
    have e : prs[i]? = some (prs[i].1, prs[i].2) := List.getElem?_eq_getElem hi
    refine step i _ _ H' Q' hx e s fun t q H'' s2 ht ht2 hq hq2 => k _ _ s2 ⟨ts ++ [t], qs ++ [q], map_snoc, w.snoc hd s2 s hD (b := prs[i].1) (row := prs[i].2) ?_ ht ht2 hq hq2⟩
    rw [show ts.length = i by simpa using hl2]; exact e
  · rintro D vs H2 hD s hl2 ⟨ts, qs, rfl, w⟩ hd
    exact q D ts qs H2 hD s (w.prs (by simp at hl2; omega) hd) fun t ht => (w.nt t ht).2
end
def prsD (prs : List (Int × List Int)) : List PyData := prs.map fun p => PyData.tuple [.int p.1, .list (p.2.map PyData.int)]
theorem dp_prs {K : PySem.W.Frag} {H : Hp} : ∀ {ts qs : List Addr} {prs : List (Int × List Int)}, ts.length = prs.length → (∀ (i : Nat) (b : Int) (row : List Int), prs[i]? = some (b, row) → ∃ t q, ts[i]? = some t ∧ qs[i]? = some q ∧ H t = some (.tup [.int b, .ref q]) ∧ H q = some (.lst (row.map V.int))) → DpAll K H (ts.map V.ref) (prsD prs)
  | [], _, [], _, _ => .nil
  | t :: ts, qs, (b, row) :: prs, hl, h => by
    obtain ⟨t', q, e1, e2, e3, e4⟩ := h 0 b row rfl
    cases e1
    refine .cons (.tup (SqT.of e3) (.cons (.int b) (.cons (dp_ints e4) .nil))) (dp_prs (qs := qs.tail) (by simpa using hl) fun i b' row' e => ?_)
    obtain ⟨t', q', f1, f2, f3, f4⟩ := h (i + 1) b' row' e
    exact ⟨t', q', f1, by simpa [List.getElem?_tail] using f2, f3, f4⟩
theorem PrsAt.dp {K : PySem.W.Frag} {H : Hp} {P : Addr} {ts qs : List Addr} {prs : List (Int × List Int)} (h : PrsAt H P ts qs prs) : Dp K H (.ref P) (.list (prsD prs)) := .lst (SqL.of h.rr) (dp_prs h.lt h.at_)
theorem shaped_prs (prs : List (Int × List Int)) : SeqAt.shaped (.list (prsD prs)) = true := by
  have : PyData.canLayAll0 (prsD prs) = true ∧ PyData.depthAll (prsD prs) ≤ 3 := by
    induction prs with
    | nil => exact ⟨by simp [prsD, PyData.canLayAll0], by simp [prsD, PyData.depthAll]⟩
    | cons p prs ih =>
      have h1 := PySem.W.shaped_ints p.2
      have h2 := PySem.W.depthAll_ints p.2
      refine ⟨?_, ?_⟩
      · show PyData.canLayAll0 (PyData.tuple [.int p.1, .list (p.2.map PyData.int)] :: prsD prs) = true
        simp [PyData.canLayAll0, PyData.canLay0, SeqAt.canLay_of_shaped h1, ih.1]
        have := SeqAt.canLay_of_shaped h1
        simpa [PyData.canLay0] using this
      · show PyData.depthAll (PyData.tuple [.int p.1, .list (p.2.map PyData.int)] :: prsD prs) ≤ 3
        simp only [PyData.depthAll, PyData.depth]
        have := ih.2
        omega
  unfold SeqAt.shaped
  rw [Bool.and_eq_true]
  exact ⟨by simp only [PyData.canLay0]; exact this.1, decide_eq_true (by simp only [PyData.depth]; omega)⟩
end Bk

/-! our own: sorted, dicts with whole numbers for keys -/
namespace Bk
open PySem L2 PyProof.Rows
def rSortDI : List V → Hp → VK → Prop := fun xs H Q => ∃ (a : Addr) (kvs : List (Key × V)) (ks : List Int), xs = [.ref a] ∧ Rd H a (.dK kvs) ∧ kvs.map (·.1) = ks.map Sum.inl ∧ ks.length < 64 ∧
    ∀ (ys : List Int) (p : Addr), ys.Perm ks → ys.Pairwise (· ≤ ·) → H p = none → Q (.ref p) (upd H p (.lst (ys.map V.int)))
def rSortedP (K : PySem.W.Frag) : List V → Hp → VK → Prop := fun xs H Q => rSortDI xs H Q
theorem call_sortedP {X : Cx} (hc : X.calm = true) : CallR X (.builtin "sorted") (rSortedP X.K) := call_sortedDI hc
section
variable {K : PySem.W.Frag} {H : Hp} {Q : VK} {a : Addr}
theorem go_sortDI {kvs : List (Key × V)} {ks : List Int} (h : H a = some (.dK kvs)) (hk : kvs.map (·.1) = ks.map Sum.inl) (hl : ks.length < 64)
    (q : ∀ (ys : List Int) (p : Addr) (H1 : Hp), ys.Perm ks → ys.Pairwise (· ≤ ·) → New H p (.lst (ys.map V.int)) H1 → Q (.ref p) H1) : rSortedP K [.ref a] H Q :=
  ⟨a, kvs, ks, rfl, .inl h, hk, hl, fun ys p h1 h2 h3 => q ys p _ h1 h2 ⟨h3, rfl⟩⟩
end
/-! ### dicts whose keys are whole numbers, told as lists -/
/-- the dict d of pairs -/
def dI (ps : List (Int × V)) : List (Key × V) := ps.map fun p => (.inl p.1, p.2)
/-- put: in its place, or at the end -/
def putI (ps : List (Int × V)) (k : Int) (v : V) : List (Int × V) := if (ps.any fun p => decide (p.1 = k)) = true then ps.map (fun p => if p.1 = k then (p.1, v) else p) else ps ++ [(k, v)]
theorem putK_dI (ps : List (Int × V)) (k : Int) (v : V) : putK (dI ps) (.inl k) v = dI (putI ps k v) := by
  unfold putK putI dI
  have e : ((ps.map fun p => ((Sum.inl p.1 : Key), p.2)).any fun kv => decide (kv.1 = Sum.inl k)) = ps.any fun p => decide (p.1 = k) := by
    rw [List.any_map]
    congr 1
    funext p
    by_cases c : p.1 = k <;> simp [c]
  rw [e]
  by_cases c : (ps.any fun p => decide (p.1 = k)) = true
  · rw [if_pos c, if_pos c, List.map_map, List.map_map]
    refine List.map_congr_left fun p _ => ?_
    by_cases z : p.1 = k <;> simp [z]
  · rw [if_neg c, if_neg c]
    simp
theorem putI_len (ps : List (Int × V)) (k : Int) (v : V) : (putI ps k v).length ≤ ps.length + 1 := by
  unfold putI
  split
  · simp
  · simp
theorem mem_putI {ps : List (Int × V)} {k : Int} {v : V} {p : Int × V} (h : p ∈ putI ps k v) : p = (k, v) ∨ (p ∈ ps ∧ p.1 ≠ k) := by
  unfold putI at h
  split at h
  · obtain ⟨q, hq, e⟩ := List.mem_map.mp h
    by_cases z : q.1 = k
    · rw [if_pos z] at e; subst e; exact .inl (by rw [z])
    · rw [if_neg z] at e; subst e; exact .inr ⟨hq, z⟩
  · rename_i c
    rcases List.mem_append.mp h with h | h
    · refine .inr ⟨h, fun z => c ?_⟩
      exact List.any_eq_true.mpr ⟨p, h, decide_eq_true z⟩
    · exact .inl (List.mem_singleton.mp h)
theorem keys_putI {ps : List (Int × V)} {k : Int} {v : V} (h : (ps.map (·.1)).Nodup) : ((putI ps k v).map (·.1)).Nodup := by
  unfold putI
  split
  · rw [List.map_map]
    have : (ps.map ((fun p => p.1) ∘ fun p => if p.1 = k then (p.1, v) else p)) = ps.map (·.1) := List.map_congr_left fun p _ => by
      show (if p.1 = k then (p.1, v) else p).1 = p.1
      split <;> rfl
    rw [this]; exact h
  · rename_i c
    rw [List.map_append, List.nodup_append]
    refine ⟨h, by simp, fun x hx y hy e => c ?_⟩
    obtain ⟨p, hp, e1⟩ := List.mem_map.mp hx
    have e2 : y = k := by simpa using hy
    exact List.any_eq_true.mpr ⟨p, hp, decide_eq_true (by rw [e1, e, e2])⟩
theorem valV_dI {ps : List (Int × V)} {k : Int} {v : V} (hn : (ps.map (·.1)).Nodup) (h : (k, v) ∈ ps) : valV (dI ps) (.inl k) = some v := by
  induction ps with
  | nil => cases h
  | cons p ps ih =>
    rw [List.map_cons, List.nodup_cons] at hn
    rcases List.mem_cons.mp h with e | h
    · subst e
      exact valV_pos rfl
    · have ne : ¬ p.1 = k := fun e => hn.1 (by rw [e]; exact List.mem_map_of_mem (f := (·.1)) h)
      show valV ((Sum.inl p.1, p.2) :: dI ps) (Sum.inl k) = _
      rw [valV_neg (by simpa using ne)]
      exact ih hn.2 h
theorem keys_dI (ps : List (Int × V)) : (dI ps).map (·.1) = (ps.map (·.1)).map Sum.inl := by simp [dI]
/-- sorted, and each once: rising -/
theorem rising {ys : List Int} (h : ys.Pairwise (· ≤ ·)) (n : ys.Nodup) : ys.Pairwise (· < ·) := by
  refine (h.and n).imp fun ⟨a, b⟩ => ?_
  rcases Int.lt_or_eq_of_le a with h | h
  · exact h
  · exact absurd h b
section
variable {H : Hp} {Q : VK}
theorem go_p109 (q : Q (.int 1000000000) H) : rPowP (.int 10) (.int 9) H Q := go_pow (by unfold CPow; omega) q
theorem go_p1020 (q : Q (.int 100000000000000000000) H) : rPowP (.int 10) (.int 20) H Q := go_pow (by unfold CPow; omega) q
end
theorem skol {α : Type} {ys : List Int} {P : Int → α → Prop} (x0 : α) (h : ∀ y ∈ ys, ∃ x, P y x) : ∃ f : Int → α, ∀ y ∈ ys, P y (f y) := by
  classical
  exact ⟨fun y => if c : y ∈ ys then Classical.choose (h y c) else x0, fun y hy => by dsimp only; rw [dif_pos hy]; exact Classical.choose_spec (h y hy)⟩
/-- entries: pairs of a number and a row, without the list that holds them -/
structure Ent (H : Hp) (ts qs : List Addr) (prs : List (Int × List Int)) : Prop where
  lt : ts.length = prs.length
  lq : qs.length = prs.length
  at_ : ∀ (i : Nat) (b : Int) (row : List Int), prs[i]? = some (b, row) → ∃ t q, ts[i]? = some t ∧ qs[i]? = some q ∧ H t = some (.tup [.int b, .ref q]) ∧ H q = some (.lst (row.map V.int))
theorem PrsAt.ent {H : Hp} {P : Addr} {ts qs : List Addr} {prs : List (Int × List Int)} (h : PrsAt H P ts qs prs) : Ent H ts qs prs := ⟨h.lt, h.lq, h.at_⟩
theorem Ent.prs {H : Hp} {P : Addr} {ts qs : List Addr} {prs : List (Int × List Int)} (h : Ent H ts qs prs) (e : H P = some (.lst (ts.map V.ref))) : PrsAt H P ts qs prs := ⟨e, h.lt, h.lq, h.at_⟩
theorem Ent.same {H H' : Hp} {ts qs : List Addr} {prs : List (Int × List Int)} (h : Ent H ts qs prs) (s : Same H H') : Ent H' ts qs prs :=
  ⟨h.lt, h.lq, fun i b row e => let ⟨t, q, e1, e2, e3, e4⟩ := h.at_ i b row e; ⟨t, q, e1, e2, s _ _ e3, s _ _ e4⟩⟩
theorem Ent.one {H : Hp} {t q : Addr} {b : Int} {row : List Int} (h : H t = some (.tup [.int b, .ref q])) (k : H q = some (.lst (row.map V.int))) : Ent H [t] [q] [(b, row)] :=
  ⟨rfl, rfl, fun i b' row' e => by
    rcases i with _ | i
    · cases e; exact ⟨t, q, rfl, rfl, h, k⟩
    · simp at e⟩
theorem Ent.app {H : Hp} {ts qs ts' qs' : List Addr} {prs prs' : List (Int × List Int)} (h : Ent H ts qs prs) (k : Ent H ts' qs' prs') : Ent H (ts ++ ts') (qs ++ qs') (prs ++ prs') := by
  refine ⟨by simp [h.lt, k.lt], by simp [h.lq, k.lq], fun i b row e => ?_⟩
  by_cases c : i < prs.length
  · rw [List.getElem?_append_left c] at e
    obtain ⟨t, q, e1, e2, e3, e4⟩ := h.at_ i b row e
    exact ⟨t, q, by rw [List.getElem?_append_left (by rw [h.lt]; exact c)]; exact e1, by rw [List.getElem?_append_left (by rw [h.lq]; exact c)]; exact e2, e3, e4⟩
  · rw [List.getElem?_append_right (by omega)] at e
    obtain ⟨t, q, e1, e2, e3, e4⟩ := k.at_ _ b row e
    exact ⟨t, q, by rw [List.getElem?_append_right (by rw [h.lt]; omega), h.lt]; exact e1, by rw [List.getElem?_append_right (by rw [h.lq]; omega), h.lq]; exact e2, e3, e4⟩
section
variable {K : PySem.W.Frag} {σ : Bk.St} {H H1 : Hp} {Q : VK} {a : Addr} {xs : List V} {te : TE} {m : Nat}
/-- pairs made with new rows -/
theorem lc_prsN {prs : List (Int × List Int)} (h : H1 a = some (.lst xs)) (hl : xs.length = prs.length) (hz : xs.length ≤ 1000)
    (step : ∀ (i : Nat) (x : V) (b : Int) (row : List Int) (H' : Hp) (Q' : VK), xs[i]? = some x → prs[i]? = some (b, row) → Same H1 H' → (∀ t q H'', Same H' H'' → H' t = none → H'' t = some (.tup [.int b, .ref q]) → H' q = none → H'' q = some (.lst (row.map V.int)) → Q' (.ref t) H'') → te ((σ.set m none).set m (some x)) H' Q')
    (q : ∀ D ts qs H2, H1 D = none → Same H1 H2 → PrsAt H2 D ts qs prs → (∀ t ∈ ts, H1 t = none) → (∀ t ∈ qs, H1 t = none) → Q (.ref D) H2) : LcK (gName m) tYes te [m] σ Q (Itl K a) H1 := by
  refine lc_genL (fun D acc H' => ∃ ts qs : List Addr, acc = ts.map V.ref ∧ PrsNew H1 D ts qs prs H' ∧ ∀ q ∈ qs, H1 q = none) h (by rw [sizeLine_eq]; omega) (fun D acc H' H'' ⟨ts, qs, e, w, f⟩ c => ⟨ts, qs, e, w.chg c, f⟩) (fun D H' _ _ => ⟨[], [], rfl, .nil, by simp⟩) ?_ ?_
  · rintro D acc i x H' Q' hD hx hl2 s hd ⟨ts, qs, rfl, w, f⟩ k
    have hi : i < prs.length := by have := (List.getElem?_eq_some_iff.mp hx).1; omega
    have e : prs[i]? = some (prs[i].1, prs[i].2) := List.getElem?_eq_getElem hi
    refine step i x _ _ H' Q' hx e s fun t q H'' s2 ht ht2 hq hq2 => k _ _ s2 ⟨ts ++ [t], qs ++ [q], map_snoc, w.snoc hd s2 s hD (b := prs[i].1) (row := prs[i].2) ?_ ht ht2 (.inr hq) hq2, fun q' hq' => ?_⟩
    · rw [show ts.length = i by simpa using hl2]; exact e
    · rcases List.mem_append.mp hq' with z | z
      · exact f q' z
      · rw [List.mem_singleton.mp z]; exact s.free hq
  · rintro D vs H2 hD s hl2 ⟨ts, qs, rfl, w, f⟩ hd
    exact q D ts qs H2 hD s (w.prs (by simp at hl2; omega) hd) (fun t ht => (w.nt t ht).2) f
end
end Bk

/-! our own: max of ints with a default -/
namespace Bk
open PySem L2 PyProof PyProof.Rows
theorem maxD_args (a d : Value) : argsOk "max" ⟨[a], [(Str.ofString "default", d)]⟩ := by unfold argsOk; kernel_rfl
section
variable {prog : Program} {w : World} {A : Around} {I : Addr} {fp wr : List Addr} {n : Nat} {P : Nat → Value → Prop} {St : Nat → Heap → Prop} {d : Value}
theorem maxD_name : (toString "max" ++ toString ".loop" : String) = "max.loop" := by decide
/-- the loop, from its second turn on -/
theorem maxD_turn (W : Walks prog w A.in1 I fp wr n P St) (bt : Nat → Nat → Bool) (hc : CmpOf prog w A.in1 .Gt P bt) (S : Addr) (hSf : S ∉ fp) {R : Result → Shared → Prop} : ∀ (k j : Nat) (s : Shared) (vb : Value) (c : Nat), n = k + (j + 1) → St (j + 1) s.heap → P (argBest bt j) vb →
    s.heap.get? S = some ⟨.type "list", none, .seq #[vb, vb] c, #[]⟩ →
    (∀ v h' tk, P (argBest bt (n - 1)) v → (∀ b o, b ∉ wr → b ≠ S → s.heap.get? b = some o → h'.get? b = some o) → R (.ok (.ret v)) { s with heap := h', toks := tk }) →
    codeAny (model prog w) A (.builtin "max.loop" ⟨[.ref I, .none, .ref S], [(Str.ofString "default", d)]⟩) R s := by
  have nw : S ∉ wr := fun h => hSf (W.sub _ h)
  intro k
  induction k with
  | zero =>
    intro j s vb c hn st pb gS hR
    refine codeAny_builtin F.entry_max_loop ?_
    rw [Around.under_plainId F.plain_max_loop _]
    show wpAny _ A.in1 (seqItems? (.ref S) >>= _) _ _ s
    refine wpAny_bind (wpAny_seqItems gS rfl ?_)
    show wpAny _ A.in1 (tryCatch (pyNext (.ref I)) _ >>= _) _ _ s
    refine wpAny_bind (wpAny_tryCatch (W.done s _ _ (by rw [show n = j + 1 by omega]; exact st) fun h1 tk k1 => ?_))
    show wpAny _ A.in1 (updateSeq S (fun _ => #[]) >>= _) _ _ _
    refine wpAny_bind (wpAny_updateSeq (k1 S _ nw gS) rfl (wpAny_bind (wpAny_letGo (wpAny_pure ?_))))
    exact hR vb _ tk (by rw [show n - 1 = j by omega]; exact pb) fun b o hb ne e => (Heap.get?_update_other _ _ (Ne.symm ne)).trans (k1 b o hb e)
  | succ k ih =>
    intro j s vb c hn st pb gS hR
    refine codeAny_builtin F.entry_max_loop ?_
    rw [Around.under_plainId F.plain_max_loop _]
    show wpAny _ A.in1 (seqItems? (.ref S) >>= _) _ _ s
    refine wpAny_bind (wpAny_seqItems gS rfl ?_)
    show wpAny _ A.in1 (tryCatch (pyNext (.ref I)) _ >>= _) _ _ s
    refine wpAny_bind (wpAny_tryCatch (W.item (j + 1) s _ _ (by omega) st fun v h1 tk pv st1 k1 => ?_))
    have gS1 := k1 S _ nw gS
    show wpAny _ A.in1 (tryCatch (holding [v, v] (richCompare .Gt v vb >>= _)) _ >>= _) _ _ _
    refine wpAny_bind (wpAny_tryCatch (wpAny_holding (wpAny_bind (hc (j + 1) (argBest bt j) v vb _ _ _ pv pb ?_))))
    refine wpAny_bind (wpAny_holding (wpAny_truthy_bool ?_))
    refine wpAny_bind (wpAny_letGo (wpAny_pure ?_))
    cases e : bt (j + 1) (argBest bt j) with
    | true =>
      simp only [if_true]
      refine wpAny_bind (wpAny_updateSeq gS1 rfl (wpAny_bind (wpAny_letGo ?_)))
      rw [maxD_name]
      refine wpAny_pure ⟨plainId_quiet F.plain_max_loop _, ih (j + 1) _ v _ (by omega) (W.frame _ _ _ st1 fun b hb o eb => ?_) (by simp only [argBest, e, if_true]; exact pv) (Heap.get?_update_self _ gS1 rfl) fun v2 h2 tk2 pv2 k2 => ?_⟩
      · exact (Heap.get?_update_other _ _ (fun z : S = b => hSf (z ▸ hb))).trans eb
      · exact hR v2 h2 tk2 pv2 fun b o hb ne eb => k2 b o hb ne ((Heap.get?_update_other _ _ (Ne.symm ne)).trans (k1 b o hb eb))
    | false =>
      simp only [Bool.false_eq_true, if_false]
      refine wpAny_bind (wpAny_letGo ?_)
      rw [maxD_name]
      refine wpAny_pure ⟨plainId_quiet F.plain_max_loop _, ih (j + 1) _ vb c (by omega) st1 (by simp only [argBest, e, Bool.false_eq_true, if_false]; exact pb) gS1 fun v2 h2 tk2 pv2 k2 => ?_⟩
      exact hR v2 h2 tk2 pv2 fun b o hb ne eb => k2 b o hb ne (k1 b o hb eb)
theorem maxD_first (W : Walks prog w A.in1 I fp wr n P St) (bt : Nat → Nat → Bool) (hc : CmpOf prog w A.in1 .Gt P bt) (S : Addr) (hSf : S ∉ fp) {R : Result → Shared → Prop} {s : Shared} {c : Nat} (st : St 0 s.heap) (gS : s.heap.get? S = some ⟨.type "list", none, .seq #[] c, #[]⟩)
    (h0 : n = 0 → ∀ h' tk, (∀ b o, b ∉ wr → s.heap.get? b = some o → h'.get? b = some o) → R (.ok (.ret d)) { s with heap := h', toks := tk })
    (hR : 0 < n → ∀ v h' tk, P (argBest bt (n - 1)) v → (∀ b o, b ∉ wr → b ≠ S → s.heap.get? b = some o → h'.get? b = some o) → R (.ok (.ret v)) { s with heap := h', toks := tk }) :
    codeAny (model prog w) A (.builtin "max.loop" ⟨[.ref I, .none, .ref S], [(Str.ofString "default", d)]⟩) R s := by
  have nw : S ∉ wr := fun h => hSf (W.sub _ h)
  refine codeAny_builtin F.entry_max_loop ?_
  rw [Around.under_plainId F.plain_max_loop _]
  show wpAny _ A.in1 (seqItems? (.ref S) >>= _) _ _ s
  refine wpAny_bind (wpAny_seqItems gS rfl ?_)
  show wpAny _ A.in1 (tryCatch (pyNext (.ref I)) _ >>= _) _ _ s
  by_cases z : n = 0
  · subst z
    refine wpAny_bind (wpAny_tryCatch (W.done s _ _ st fun h1 tk k1 => ?_))
    show wpAny _ A.in1 (rule _ >>= _) _ _ _
    exact wpAny_bind (wpAny_rule (wpAny_pure (h0 rfl h1 tk k1)))
  · refine wpAny_bind (wpAny_tryCatch (W.item 0 s _ _ (by omega) st fun v h1 tk pv st1 k1 => ?_))
    have gS1 := k1 S _ nw gS
    show wpAny _ A.in1 (updateSeq S (fun _ => #[v, v]) >>= _) _ _ _
    refine wpAny_bind (wpAny_updateSeq gS1 rfl ?_)
    rw [maxD_name]
    refine wpAny_pure ⟨plainId_quiet F.plain_max_loop _, maxD_turn W bt hc S hSf (n - 1) 0 _ v _ (by omega) (W.frame _ _ _ st1 fun b hb o eb => ?_) pv (Heap.get?_update_self _ gS1 rfl) fun v2 h2 tk2 pv2 k2 => ?_⟩
    · exact (Heap.get?_update_other _ _ (fun z : S = b => hSf (z ▸ hb))).trans eb
    · exact hR (by omega) v2 h2 tk2 pv2 fun b o hb ne eb => k2 b o hb ne ((Heap.get?_update_other _ _ (Ne.symm ne)).trans (k1 b o hb eb))
end
section
variable {prog : Program} {w : World} {A : Around} {E : Value → Shared → Prop} {s : Shared} {l : Addr} {d : Value}
theorem call_fn_kw {id : String} {bi : Builtin} {args : List Value} {kw : List (Str × Value)} {Q : Value → Shared → Prop} (hk : builtinKind id = none) (hp : plainId id = true) (hb : entryFor table id = some bi) (ha : argsOk id ⟨args, kw⟩)
    (hc : wpAny (model prog w) A.in1 (bi ⟨args, kw⟩) (fun fin s' => match fin with
      | .done f => (match (Except.ok f : Result) with | .ok (.ret v) => Q v s' | .ok _ => False | .error e => E e s')
      | .again c' => c'.quiet = true ∧ codeAny (model prog w) A c' (fun r s' => match r with | .ok (.ret v) => Q v s' | .ok _ => False | .error e => E e s') s') E s) : wpAny (model prog w) A (call (.builtin id) args kw) Q E s := by
  refine wpAny_call (codeAny_call_builtin hp hb ?_)
  simp only [checkBuiltinCall, hk]
  cases hg : Manifest.signature? id with
  | none => exact wpAny_pure hc
  | some sg =>
    simp only [argsOk, hg] at ha
    show wpAny _ A.in1 (Bind.checkArgs id sg ⟨args, kw⟩) _ _ s
    rw [show Bind.checkArgs id sg ⟨args, kw⟩ = pure () from ha]
    exact wpAny_pure hc
theorem maxD_list {xs : Array (Int × Tok)} {Q : Value → Shared → Prop} (hh : A.handled = none) (hl : s.heap.IsList l (intItems xs))
    (h0 : xs.size = 0 → ∀ h' tk, (∀ b o, s.heap.get? b = some o → h'.get? b = some o) → Q d { s with heap := h', toks := tk })
    (h : 0 < xs.size → ∀ v h' tk, (intItems xs)[argBest (fun i j => decide (numAt xs i > numAt xs j)) (xs.size - 1)]? = some v → (∀ b o, s.heap.get? b = some o → h'.get? b = some o) → Q v { s with heap := h', toks := tk }) :
    wpAny (model prog w) A (call (.builtin "max") [.ref l] [(Str.ofString "default", d)]) Q E s := by
  refine call_fn_kw F.kind_max F.plain_max F.entry_max (maxD_args _ _) ?_
  show wpAny _ A.in1 (Builtin.Builtins.bindParams "max" ["key", "default"] 0 ⟨[], [(Str.ofString "default", d)]⟩ >>= _) _ _ s
  refine wpAny_bind (wpAny_of_eq (show Builtin.Builtins.bindParams "max" ["key", "default"] 0 ⟨[], [(Str.ofString "default", d)]⟩ = pure [none, some d] from rfl) ?_)
  refine wpAny_bind (wpAny_pure ?_)
  refine wpAny_bind (iter_intList (A := A.in1) hl fun s2 e st hfp hlI => ?_)
  subst e
  have hn : (intItems xs).size = xs.size := by simp [intItems]
  refine wpAny_bind (wpAny_newObj_type ?_)
  rw [maxD_name]
  have W := Walks.list (prog := prog) (w := w) (A := A.in1) hh s.heap.objs.size l hlI (intItems xs)
  have fr : ∀ {I : Addr} (fp : List Addr) (h : Heap), (∀ b ∈ fp, b < h.objs.size) → h.objs.size ∉ fp := fun fp h hf hm => Nat.lt_irrefl _ (hf _ hm)
  refine wpAny_pure ⟨plainId_quiet F.plain_max_loop _, maxD_first W (fun i j => decide (numAt xs i > numAt xs j)) (CmpOf.ints_gt (numAt xs) (fun _ _ => intItems_at)) _ (fun hm => Nat.lt_irrefl _ (hfp _ hm)) (W.frame _ _ _ st fun b _ o e => Heap.get?_push_of_some _ e) (Heap.get?_push_size _ rfl) (fun hz h' tk k => ?_) (fun hz v h' tk pv k => ?_)⟩
  · exact h0 (by rw [← hn]; exact hz) h' tk fun b o e => k b o (by simpa using Nat.ne_of_lt (Heap.lt_size e)) (Heap.get?_push_of_some _ (Heap.get?_push_of_some _ e))
  · rw [hn] at pv hz
    refine h hz v h' tk pv fun b o e => k b o (by simpa using Nat.ne_of_lt (Heap.lt_size e)) ?_ (Heap.get?_push_of_some _ (Heap.get?_push_of_some _ e))
    exact Nat.ne_of_lt (Heap.lt_size (Heap.get?_push_of_some { cls := .type "list_iterator", data := .fields #[.ref l, .int 0 0] } e))
end
def rMaxD (K : PySem.W.Frag) : List V → List V → Hp → VK → Prop := fun vs zs H Q => ∃ (a : Addr) (ns : List Int) (d : Int), vs = [V.ref a] ∧ zs = [.int d] ∧ SqL K H a (ns.map V.int) ∧ ∀ m, (ns = [] → m = d) → (ns ≠ [] → m ∈ ns ∧ ∀ x ∈ ns, x ≤ m) → Q (.int m) H
theorem cr_maxD {X : Cx} (hc : X.calm = true) : CallRK X (.builtin "max") [Str.ofString "default"] (rMaxD X.K) := by
  intro pins s σ H vs zs us ws Q I r rz h
  obtain ⟨a, ns, d, rfl, rfl, hs, q⟩ := h
  obtain ⟨its, rv, hl, _⟩ := I.list hs
  rw [Vals.ref1 r]
  obtain ⟨w1, rfl, t1, e1⟩ := vals1 rz
  subst e1
  obtain ⟨xs, e⟩ := rv.ints.allInts.items
  have hn : numsOf (intItems xs).toList = ns := by rw [← e]; exact rv.ints.numsOf
  rw [nums_intItems] at hn
  have hl := hl.isList
  rw [e] at hl
  refine maxD_list (I.ok.hd hc) hl (fun hz h' tk hk => ⟨.int d, H, I.kept hk, ⟨_, rfl⟩, q d (fun _ => rfl) (fun hne => ?_)⟩) (fun hz v h' tk hv hk => ?_)
  · refine absurd ?_ hne
    rw [← hn, List.map_eq_nil_iff]
    exact Array.toList_eq_nil_iff.mpr (Array.eq_empty_of_size_eq_zero hz)
  · obtain ⟨t, rfl⟩ := intItems_at hv
    obtain ⟨h1, h2⟩ := argBest_gt (numAt xs) (xs.size - 1)
    refine ⟨.int _, H, I.kept hk, ⟨_, rfl⟩, q _ (fun hne => ?_) (fun _ => ⟨?_, fun a ha => ?_⟩)⟩
    · rw [← hn, List.map_eq_nil_iff] at hne
      have : xs.size = 0 := by rw [← Array.length_toList, hne]; rfl
      omega
    · rw [← hn, numAt_eq]; exact PySem.getD_mem (by rw [List.length_map, Array.length_toList]; omega)
    · rw [← hn] at ha
      obtain ⟨j, hj, rfl⟩ := mem_getD ha
      rw [List.length_map, Array.length_toList] at hj
      rw [← numAt_eq]; exact h2 j (by omega)
end Bk
namespace Bk
open PySem L2 PyProof PyProof.Rows
/-- list(range(..)) -/
def tListR (tr : Bk.St → Hp → (Int → Int → Hp → Prop) → Prop) : TE := fun σ H Q => tr σ H fun a b H1 => -(2 ^ 62) ≤ a ∧ a < 2 ^ 62 ∧ -(2 ^ 62) ≤ b ∧ b < 2 ^ 62 ∧ (b - a).toNat ≤ 1000 ∧ ∀ p, H1 p = none → Q (.ref p) (upd H1 p (.lst ((List.range (b - a).toNat).map fun i : Nat => V.int (a + i))))
theorem pe_listR {X : Cx} {e : Expr} {tr : Bk.St → Hp → (Int → Int → Hp → Prop) → Prop} {p pos : Pos} (hc : X.calm = true) (hg : Gl X "list") (hm : X.mg "list" = none) (he : PRg X e tr) (hs : starEach [e] X.env = (false, eval e X.env) :: starEach [] X.env := by rfl) :
    PE X (.Call (.Name "list" p) [e] [] pos) (tListR tr) := by
  refine ⟨fun pins s σ H Q I h => ?_⟩
  have hb : bootBuiltins "list" = some (.type "list") := by decide +kernel
  refine Call_ (ld_blt I hg hm hb (PyProof.Rows.callWith_type1 (args_cons (thn (he pins s σ H _ I h) fun u s1 hx => args_nil ?_) hs) hs rfl))
  obtain ⟨r, a, b, t, w1, v, H1, eu, hr, I1, b1, b2, b3, b4, hz, q⟩ := hx
  subst eu
  have hn : Builtin.Range.rangeSize a b 1 = (((b - a).toNat : Nat) : Int) := rangeSize_nat a b
  refine call_list_range (I1.ok.hd hc) hr (small_one b1 b2 b3 b4) hn (by omega) fun h' tk acc c' hk hS hacc => ?_
  have hv : Vals ((List.range (b - a).toNat).map fun i : Nat => V.int (a + i)) acc.toList := by
    have hl : acc.toList.length = (b - a).toNat := by rw [Array.length_toList, hacc.1]
    have : ∀ (n : Nat) (l : List Value) (c : Int), l.length = n → (∀ (j : Nat) (v : Value), l[j]? = some v → ∃ t, v = .int (c + j) t) → Vals ((List.range n).map fun i : Nat => V.int (c + i)) l := by
      intro n
      induction n with
      | zero => intro l c h _; rw [List.length_eq_zero_iff.mp h]; exact .nil
      | succ n ih =>
        intro l c h k
        cases l with
        | nil => cases h
        | cons x l =>
          rw [List.range_succ_eq_map, List.map_cons, List.map_map]
          obtain ⟨t, e⟩ := k 0 x rfl
          refine .cons ⟨t, by rw [e]⟩ ?_
          have := ih l (c + 1) (by simpa using h) fun j v e => by
            obtain ⟨t, e2⟩ := k (j + 1) v (by simpa using e)
            exact ⟨t, by rw [e2]; congr 1; omega⟩
          have e3 : ((fun i : Nat => V.int (c + i)) ∘ Nat.succ) = fun i : Nat => V.int (c + 1 + i) := by
            funext i; show V.int (c + ((i + 1 : Nat) : Int)) = _; congr 1; omega
          rw [e3]; exact this
    refine this _ _ a hl fun j v e => ?_
    obtain ⟨t, e2⟩ := hacc.2 j v (by rw [← Array.getElem?_toList]; exact e)
    exact ⟨t, by rw [e2]; congr 1; omega⟩
  exact ⟨.ref _, _, I1.laid (t' := tk) hk (Nat.le_refl _) (show ObjOk X.prog X.w _ h' _ (.lst _) from ⟨by rw [sizeLine_eq, List.length_map, List.length_range]; omega, acc.toList, c', hv, by simpa using hS⟩), rfl, q _ (I1.hok.fresh (Nat.le_refl _))⟩
section
variable {K : PySem.W.Frag} {σ : Bk.St} {H : Hp} {Q : VK} {t tk : TA} {a : Addr}
theorem go_ckw {r : List V → List V → Hp → VK → Prop} (q : t σ H fun vs H1 => tk σ H1 fun zs H2 => r vs zs H2 Q) : tCKw r t tk σ H Q := q
theorem go_maxD {ns : List Int} {d : Int} (h : H a = some (.lst (ns.map V.int))) (q : ∀ m, (ns = [] → m = d) → (ns ≠ [] → m ∈ ns ∧ ∀ x ∈ ns, x ≤ m) → Q (.int m) H) : rMaxD K [.ref a] [.int d] H Q := ⟨a, ns, d, rfl, rfl, SqL.of h, q⟩
def ListRK (Q : VK) : Int → Int → Hp → Prop := fun a b H1 => -(2 ^ 62) ≤ a ∧ a < 2 ^ 62 ∧ -(2 ^ 62) ≤ b ∧ b < 2 ^ 62 ∧ (b - a).toNat ≤ 1000 ∧ ∀ p, H1 p = none → Q (.ref p) (upd H1 p (.lst ((List.range (b - a).toNat).map fun i : Nat => V.int (a + i))))
theorem go_listR {tr : Bk.St → Hp → (Int → Int → Hp → Prop) → Prop} (q : tr σ H (ListRK Q)) : tListR tr σ H Q := q
theorem go_ListRK {a b : Int} (h : -(2 ^ 62) ≤ a ∧ a < 2 ^ 62 ∧ -(2 ^ 62) ≤ b ∧ b < 2 ^ 62 ∧ (b - a).toNat ≤ 1000) (q : ∀ p H1, New H p (.lst ((List.range (b - a).toNat).map fun i : Nat => V.int (a + i))) H1 → Q (.ref p) H1) : ListRK Q a b H := ⟨h.1, h.2.1, h.2.2.1, h.2.2.2.1, h.2.2.2.2, new_of q⟩
def Rg2K (x : V) (Q : Int → Int → Hp → Prop) : VK := fun y H2 => ∃ i j, x = .int i ∧ y = .int j ∧ Q i j H2
theorem go_rg2 {ta tb : TE} {QI : Int → Int → Hp → Prop} (q : ta σ H fun x H1 => tb σ H1 (Rg2K x QI)) : tRg2 ta tb σ H QI := q
theorem go_Rg2K {i j : Int} {QI : Int → Int → Hp → Prop} (q : QI i j H) : Rg2K (.int i) QI (.int j) H := ⟨i, j, rfl, rfl, q⟩
def Rg1K (Q : Int → Int → Hp → Prop) : VK := fun x H1 => ∃ n, x = .int n ∧ Q 0 n H1
theorem go_rg1 {ta : TE} {QI : Int → Int → Hp → Prop} (q : ta σ H (Rg1K QI)) : tRg1 ta σ H QI := q
theorem go_Rg1K {j : Int} {QI : Int → Int → Hp → Prop} (q : QI 0 j H) : Rg1K QI (.int j) H := ⟨j, rfl, q⟩
theorem go_tryMany1 {D : Ends} {tb : WX → TS} {c : Value} {ts : Addr → Addr → TS} {Wout : WX} (q : tb (wMany K Wout D [(c, tSu K ts)]) D σ H) : tTryMany K tb [(c, ts)] Wout D σ H := q
theorem go_tryMany2 {D : Ends} {tb : WX → TS} {c c' : Value} {ts ts' : Addr → Addr → TS} {Wout : WX} (q : tb (wMany K Wout D [(c, tSu K ts), (c', tSu K ts')]) D σ H) : tTryMany K tb [(c, ts), (c', ts')] Wout D σ H := q
end
end Bk

/-! our own: texts joined; filtered ranges -/
namespace Bk
open PySem L2 PyProof PyProof.Rows
def rJoinP (K : PySem.W.Frag) : V → List V → Hp → VK → Prop := fun x xs H Q => ∃ a p, ∃ ys : List Str, x = .str a ∧ xs = [.ref p] ∧ (SqL K H p (ys.map V.str) ∨ SqT K H p (ys.map V.str)) ∧ (ys.map (·.length)).sum + ys.length * a.length ≤ 16777216 ∧ Q (.str (Txt.join a ys)) H
theorem mt_joinP {X : Cx} : MtR X "str.join" (rJoinP X.K) := mt_join
section
variable {K : PySem.W.Frag} {σ : Bk.St} {H H1 : Hp} {Q : VK} {p : Addr} {z w : Str} {t : TA} {te : TE} {tt : TT} {m n : Nat} {lo : Int}
theorem go_bmS {r : V → List V → Hp → VK → Prop} (q : t σ H fun xs H2 => r (.str z) xs H2 Q) : BmK K "str" r t σ Q (.str z) H := ⟨rfl, q⟩
theorem go_join1 (h : H p = some (.lst [.str w])) (hw : w.length ≤ 1000) (hz : z.length ≤ 1000) (q : Q (.str w) H) : rJoinP K (.str z) [.ref p] H Q := by
  refine ⟨z, p, [w], rfl, rfl, .inl (SqL.of h), by simp; omega, ?_⟩
  have e : Txt.join z [w] = w := by first | rfl | simp [Txt.join]
  rw [e]; exact q
/-- numbers of a range that meet a test -/
theorem lc_filtR {f : Nat → V} {pp : Nat → Bool} (hz : n ≤ sizeLine)
    (test : ∀ i (H' : Hp) (QB : Bool → Hp → Prop), i < n → Same H1 H' → (∀ H'', Same H' H'' → QB (pp i) H'') → tt ((σ.set m none).set m (some (.int (lo + i)))) H' QB)
    (step : ∀ i (H' : Hp) (Q' : VK), i < n → pp i = true → Same H1 H' → (∀ H'', Same H' H'' → Q' (f i) H'') → te ((σ.set m none).set m (some (.int (lo + i)))) H' Q')
    (q : ∀ D H2, H1 D = none → Same H1 H2 → H2 D = some (.lst (((List.range n).filter pp).map f)) → Q (.ref D) H2) : LcK (gName m) tt te [m] σ Q (Itr lo n) H1 := by
  intro D hD
  refine lc_range (fun i H => H D = some (.lst (((List.range i).filter pp).map f)) ∧ Same H1 H) ⟨upd_same, fun b o e => by rw [upd_ne (ne_of_none e hD)]; exact e⟩ ?_ ?_
  · rintro i H' hi ⟨hd, s⟩
    refine ⟨?_, test i H' _ hi s ?_⟩
    · show ((σ.set m none).set m (some (.int (lo + i)))).set m none = σ.set m none
      rw [List.set_set, List.set_set]
    · rintro H'' s2
      have hd2 := s2 _ _ hd
      cases hb : pp i with
      | false =>
        rw [if_neg Bool.false_ne_true]
        refine ⟨?_, s.trans s2⟩
        rw [List.range_succ, List.filter_append, List.filter_cons_of_neg (by rw [hb]; decide), List.filter_nil, List.append_nil]
        exact hd2
      | true =>
        rw [if_pos rfl]
        refine step i H'' _ hi hb (s.trans s2) fun H3 s3 => ?_
        refine ⟨_, s3 _ _ hd2, ?_, ?_, fun b o e => ?_⟩
        · rw [List.length_map]
          have h1 := List.length_filter_le pp (List.range i)
          rw [List.length_range] at h1
          omega
        · rw [upd_same, List.range_succ, List.filter_append, List.filter_cons_of_pos hb, List.filter_nil, List.map_append]
          rfl
        · rw [upd_ne (ne_of_none e hD)]
          exact s3 _ _ (s2 _ _ (s _ _ e))
  · rintro H2 ⟨hd, s⟩
    exact q D H2 hD s hd
end
end Bk

namespace Bk
open PySem L2 PyProof.Rows
def t__wall (K : PySem.W.Frag) (a : Ac) (E : XK) : TS :=
  tWhile (tB (tC (.bl true))) (tNext)
def N__wall : List Str := ["k"]
def sp__wall (K : PySem.W.Frag) (a : Ac) : Sp := fun vs H Q E => vs.length = (["k"] : List Str).length ∧ t__wall K a E ⟨fun _ H' => Q .non H', Q, F0, F0⟩ (start ["k"] vs) H
theorem in__wall {K : PySem.W.Frag} {a : Ac} {x0 : V} {H : Hp} {Q : VK} {E : XK} (q : t__wall K a E ⟨fun _ H' => Q .non H', Q, F0, F0⟩ [some x0] H) : sp__wall K a [x0] H Q E := ⟨rfl, q⟩
def t_is_word (K : PySem.W.Frag) (a : Ac) (E : XK) : TS :=
  tRet (tAndV (tCB ((rIsi K)) (tCons (tVar 0) (tCons (tC (.ty "int")) (tNil)))) (tAndV (tNotV (tCB ((rIsi K)) (tCons (tVar 0) (tCons (tC (.ty "bool")) (tNil))))) (tChain rLeP rLeP (tC (.int 0)) (tVar 0) (tC (.int 999999999)))))
def N_is_word : List Str := ["thing"]
def sp_is_word (K : PySem.W.Frag) (a : Ac) : Sp := fun vs H Q E => vs.length = (["thing"] : List Str).length ∧ t_is_word K a E ⟨fun _ H' => Q .non H', Q, F0, F0⟩ (start ["thing"] vs) H
theorem in_is_word {K : PySem.W.Frag} {a : Ac} {x0 : V} {H : Hp} {Q : VK} {E : XK} (q : t_is_word K a E ⟨fun _ H' => Q .non H', Q, F0, F0⟩ [some x0] H) : sp_is_word K a [x0] H Q E := ⟨rfl, q⟩
def t_is_row (K : PySem.W.Frag) (a : Ac) (E : XK) : TS :=
  tRet (tAndV (tCB ((rIsi K)) (tCons (tVar 0) (tCons (tC (.ty "list")) (tNil)))) (tAndV (tOp (rEqP K) (tCB (rLenP K) (tCons (tVar 0) (tNil))) (tC (.int 16))) (tCB ((rAll K)) (tCons (tLc (iSeqP K (tVar 0)) (gName 1) (tYes) (tCallS (sp_is_word K a) (WE W0) (tCons (tVar 1) (tNil))) [1]) (tNil)))))
def N_is_row : List Str := ["thing", "word"]
def sp_is_row (K : PySem.W.Frag) (a : Ac) : Sp := fun vs H Q E => vs.length = (["thing"] : List Str).length ∧ t_is_row K a E ⟨fun _ H' => Q .non H', Q, F0, F0⟩ (start ["thing", "word"] vs) H
theorem in_is_row {K : PySem.W.Frag} {a : Ac} {x0 : V} {H : Hp} {Q : VK} {E : XK} (q : t_is_row K a E ⟨fun _ H' => Q .non H', Q, F0, F0⟩ [some x0, none] H) : sp_is_row K a [x0] H Q E := ⟨rfl, q⟩
def t_need_row (K : PySem.W.Frag) (a : Ac) (E : XK) : TS :=
  tSeq (tIfS (tNot (tB (tCallS (sp_is_row K a) (WE (WM E)) (tCons (tVar 0) (tNil))))) (tRaiseE a.BadRow (WM E)) (tNext)) (tRet (tCB ((rListP K)) (tCons (tVar 0) (tNil))))
def N_need_row : List Str := ["thing"]
def sp_need_row (K : PySem.W.Frag) (a : Ac) : Sp := fun vs H Q E => vs.length = (["thing"] : List Str).length ∧ t_need_row K a E ⟨fun _ H' => Q .non H', Q, F0, F0⟩ (start ["thing"] vs) H
theorem in_need_row {K : PySem.W.Frag} {a : Ac} {x0 : V} {H : Hp} {Q : VK} {E : XK} (q : t_need_row K a E ⟨fun _ H' => Q .non H', Q, F0, F0⟩ [some x0] H) : sp_need_row K a [x0] H Q E := ⟨rfl, q⟩
def t_empty_row (K : PySem.W.Frag) (a : Ac) (E : XK) : TS :=
  tRet (tOp rMulP (tLst (tCons (tC (.int 0)) (tNil))) (tC (.int 16)))
def N_empty_row : List Str := []
def sp_empty_row (K : PySem.W.Frag) (a : Ac) : Sp := fun vs H Q E => vs.length = ([] : List Str).length ∧ t_empty_row K a E ⟨fun _ H' => Q .non H', Q, F0, F0⟩ (start [] vs) H
theorem in_empty_row {K : PySem.W.Frag} {a : Ac} {H : Hp} {Q : VK} {E : XK} (q : t_empty_row K a E ⟨fun _ H' => Q .non H', Q, F0, F0⟩ [] H) : sp_empty_row K a [] H Q E := ⟨rfl, q⟩
def t_changed (K : PySem.W.Frag) (a : Ac) (E : XK) : TS :=
  tRet (tOp rAddP (tOp rAddP (tSl (rSlP K) (tVar 0) (tNoPart) (tPart (tVar 1))) (tVar 2)) (tSl (rSlP K) (tVar 0) (tPart (tOp rAddP (tVar 1) (tCB (rLenP K) (tCons (tVar 2) (tNil))))) (tNoPart)))
def N_changed : List Str := ["row", "at", "words"]
def sp_changed (K : PySem.W.Frag) (a : Ac) : Sp := fun vs H Q E => vs.length = (["row", "at", "words"] : List Str).length ∧ t_changed K a E ⟨fun _ H' => Q .non H', Q, F0, F0⟩ (start ["row", "at", "words"] vs) H
theorem in_changed {K : PySem.W.Frag} {a : Ac} {x0 x1 x2 : V} {H : Hp} {Q : VK} {E : XK} (q : t_changed K a E ⟨fun _ H' => Q .non H', Q, F0, F0⟩ [some x0, some x1, some x2] H) : sp_changed K a [x0, x1, x2] H Q E := ⟨rfl, q⟩
def t_is_many (K : PySem.W.Frag) (a : Ac) (E : XK) : TS :=
  tRet (tAndV (tCB ((rIsi K)) (tCons (tVar 0) (tCons (tC (.ty "int")) (tNil)))) (tAndV (tNotV (tCB ((rIsi K)) (tCons (tVar 0) (tCons (tC (.ty "bool")) (tNil))))) (tChain rLeP rLeP (tC (.int 24)) (tVar 0) (tC (.int 96)))))
def N_is_many : List Str := ["thing"]
def sp_is_many (K : PySem.W.Frag) (a : Ac) : Sp := fun vs H Q E => vs.length = (["thing"] : List Str).length ∧ t_is_many K a E ⟨fun _ H' => Q .non H', Q, F0, F0⟩ (start ["thing"] vs) H
theorem in_is_many {K : PySem.W.Frag} {a : Ac} {x0 : V} {H : Hp} {Q : VK} {E : XK} (q : t_is_many K a E ⟨fun _ H' => Q .non H', Q, F0, F0⟩ [some x0] H) : sp_is_many K a [x0] H Q E := ⟨rfl, q⟩
def t_Disk_init (K : PySem.W.Frag) (a : Ac) (E : XK) : TS :=
  tSeq (tIfS (tNot (tB (tCallS (sp_is_many K a) (WE (WM E)) (tCons (tVar 1) (tNil))))) (tRaiseE a.BadDisk (WM E)) (tNext)) (tSeq (sFld K (tVar 0) (tLc (iRng1 (tCons (tVar 1) (tNil))) (gName 2) (tYes) (tCall0 (sp_empty_row K a) (WE W0)) [2]) "rows") (tSeq (sFld K (tVar 0) (tC (.int 0)) "done") (sFld K (tVar 0) (tC .non) "left")))
def N_Disk_init : List Str := ["self", "many", "k"]
def sp_Disk_init (K : PySem.W.Frag) (a : Ac) : Sp := fun vs H Q E => vs.length = (["self", "many"] : List Str).length ∧ t_Disk_init K a E ⟨fun _ H' => Q .non H', Q, F0, F0⟩ (start ["self", "many", "k"] vs) H
theorem in_Disk_init {K : PySem.W.Frag} {a : Ac} {x0 x1 : V} {H : Hp} {Q : VK} {E : XK} (q : t_Disk_init K a E ⟨fun _ H' => Q .non H', Q, F0, F0⟩ [some x0, some x1, none] H) : sp_Disk_init K a [x0, x1] H Q E := ⟨rfl, q⟩
def t_Disk_blocks (K : PySem.W.Frag) (a : Ac) (E : XK) : TS :=
  tRet (tCB (rLenP K) (tCons (tFld K (tVar 0) "rows") (tNil)))
def N_Disk_blocks : List Str := ["self"]
def sp_Disk_blocks (K : PySem.W.Frag) (a : Ac) : Sp := fun vs H Q E => vs.length = (["self"] : List Str).length ∧ t_Disk_blocks K a E ⟨fun _ H' => Q .non H', Q, F0, F0⟩ (start ["self"] vs) H
theorem in_Disk_blocks {K : PySem.W.Frag} {a : Ac} {x0 : V} {H : Hp} {Q : VK} {E : XK} (q : t_Disk_blocks K a E ⟨fun _ H' => Q .non H', Q, F0, F0⟩ [some x0] H) : sp_Disk_blocks K a [x0] H Q E := ⟨rfl, q⟩
def t_Disk_need (K : PySem.W.Frag) (a : Ac) (E : XK) : TS :=
  tIfS (tOr (tNot (tB (tCB ((rIsi K)) (tCons (tVar 1) (tCons (tC (.ty "int")) (tNil)))))) (tOr (tB (tCB ((rIsi K)) (tCons (tVar 1) (tCons (tC (.ty "bool")) (tNil))))) (tNot (tTest (tChain rLeP rLtP (tC (.int 0)) (tVar 1) (tCB (rLenP K) (tCons (tFld K (tVar 0) "rows") (tNil)))))))) (tRaiseE a.NoBlock (WM E)) (tNext)
def N_Disk_need : List Str := ["self", "block"]
def sp_Disk_need (K : PySem.W.Frag) (a : Ac) : Sp := fun vs H Q E => vs.length = (["self", "block"] : List Str).length ∧ t_Disk_need K a E ⟨fun _ H' => Q .non H', Q, F0, F0⟩ (start ["self", "block"] vs) H
theorem in_Disk_need {K : PySem.W.Frag} {a : Ac} {x0 x1 : V} {H : Hp} {Q : VK} {E : XK} (q : t_Disk_need K a E ⟨fun _ H' => Q .non H', Q, F0, F0⟩ [some x0, some x1] H) : sp_Disk_need K a [x0, x1] H Q E := ⟨rfl, q⟩
def t_Disk_read (K : PySem.W.Frag) (a : Ac) (E : XK) : TS :=
  tSeq (tDrop (tMethP "need" [(a.Disk, sp_Disk_need K a)] (WE (WM E)) (tVar 0) (tCons (tVar 1) (tNil)))) (tRet (tCB ((rListP K)) (tCons (tOp (rIxP K) (tFld K (tVar 0) "rows") (tVar 1)) (tNil))))
def N_Disk_read : List Str := ["self", "block"]
def sp_Disk_read (K : PySem.W.Frag) (a : Ac) : Sp := fun vs H Q E => vs.length = (["self", "block"] : List Str).length ∧ t_Disk_read K a E ⟨fun _ H' => Q .non H', Q, F0, F0⟩ (start ["self", "block"] vs) H
theorem in_Disk_read {K : PySem.W.Frag} {a : Ac} {x0 x1 : V} {H : Hp} {Q : VK} {E : XK} (q : t_Disk_read K a E ⟨fun _ H' => Q .non H', Q, F0, F0⟩ [some x0, some x1] H) : sp_Disk_read K a [x0, x1] H Q E := ⟨rfl, q⟩
def t_Disk_write (K : PySem.W.Frag) (a : Ac) (E : XK) : TS :=
  tSeq (tDrop (tMethP "need" [(a.Disk, sp_Disk_need K a)] (WE (WM E)) (tVar 0) (tCons (tVar 1) (tNil)))) (tSeq (tAsg (tCallS (sp_need_row K a) (WE (WM E)) (tCons (tVar 2) (tNil))) (gName 3)) (tSeq (tIfS (tTest (tOp (rEqP K) (tFld K (tVar 0) "left") (tC (.int 0)))) (tRaiseE a.Stopped (WM E)) (tNext)) (tSeq (tIfS (tTest (tOp rIsNotP (tFld K (tVar 0) "left") (tC .non))) (sFld K (tVar 0) (tOp rSubP (tFld K (tVar 0) "left") (tC (.int 1))) "left") (tNext)) (tSeq (tAsg (tVar 3) (gSub (tFld K (tVar 0) "rows") (tVar 1) rSetL)) (sFld K (tVar 0) (tOp rAddP (tFld K (tVar 0) "done") (tC (.int 1))) "done")))))
def N_Disk_write : List Str := ["self", "block", "row", "kept"]
def sp_Disk_write (K : PySem.W.Frag) (a : Ac) : Sp := fun vs H Q E => vs.length = (["self", "block", "row"] : List Str).length ∧ t_Disk_write K a E ⟨fun _ H' => Q .non H', Q, F0, F0⟩ (start ["self", "block", "row", "kept"] vs) H
theorem in_Disk_write {K : PySem.W.Frag} {a : Ac} {x0 x1 x2 : V} {H : Hp} {Q : VK} {E : XK} (q : t_Disk_write K a E ⟨fun _ H' => Q .non H', Q, F0, F0⟩ [some x0, some x1, some x2, none] H) : sp_Disk_write K a [x0, x1, x2] H Q E := ⟨rfl, q⟩
def t_Disk_writes (K : PySem.W.Frag) (a : Ac) (E : XK) : TS :=
  tRet (tFld K (tVar 0) "done")
def N_Disk_writes : List Str := ["self"]
def sp_Disk_writes (K : PySem.W.Frag) (a : Ac) : Sp := fun vs H Q E => vs.length = (["self"] : List Str).length ∧ t_Disk_writes K a E ⟨fun _ H' => Q .non H', Q, F0, F0⟩ (start ["self"] vs) H
theorem in_Disk_writes {K : PySem.W.Frag} {a : Ac} {x0 : V} {H : Hp} {Q : VK} {E : XK} (q : t_Disk_writes K a E ⟨fun _ H' => Q .non H', Q, F0, F0⟩ [some x0] H) : sp_Disk_writes K a [x0] H Q E := ⟨rfl, q⟩
def t_Disk_stop_after (K : PySem.W.Frag) (a : Ac) (E : XK) : TS :=
  tDrop (tCallS (sp__wall K a) (WE (WM E)) (tCons (tC (.int 0)) (tNil)))
def N_Disk_stop_after : List Str := ["self", "count"]
def sp_Disk_stop_after (K : PySem.W.Frag) (a : Ac) : Sp := fun vs H Q E => vs.length = (["self", "count"] : List Str).length ∧ t_Disk_stop_after K a E ⟨fun _ H' => Q .non H', Q, F0, F0⟩ (start ["self", "count"] vs) H
theorem in_Disk_stop_after {K : PySem.W.Frag} {a : Ac} {x0 x1 : V} {H : Hp} {Q : VK} {E : XK} (q : t_Disk_stop_after K a E ⟨fun _ H' => Q .non H', Q, F0, F0⟩ [some x0, some x1] H) : sp_Disk_stop_after K a [x0, x1] H Q E := ⟨rfl, q⟩
def t_Disk_go_on (K : PySem.W.Frag) (a : Ac) (E : XK) : TS :=
  tDrop (tCallS (sp__wall K a) (WE (WM E)) (tCons (tC (.int 1)) (tNil)))
def N_Disk_go_on : List Str := ["self"]
def sp_Disk_go_on (K : PySem.W.Frag) (a : Ac) : Sp := fun vs H Q E => vs.length = (["self"] : List Str).length ∧ t_Disk_go_on K a E ⟨fun _ H' => Q .non H', Q, F0, F0⟩ (start ["self"] vs) H
theorem in_Disk_go_on {K : PySem.W.Frag} {a : Ac} {x0 : V} {H : Hp} {Q : VK} {E : XK} (q : t_Disk_go_on K a E ⟨fun _ H' => Q .non H', Q, F0, F0⟩ [some x0] H) : sp_Disk_go_on K a [x0] H Q E := ⟨rfl, q⟩
def t_Disk_twin (K : PySem.W.Frag) (a : Ac) (E : XK) : TS :=
  tDrop (tCallS (sp__wall K a) (WE (WM E)) (tCons (tC (.int 2)) (tNil)))
def N_Disk_twin : List Str := ["self"]
def sp_Disk_twin (K : PySem.W.Frag) (a : Ac) : Sp := fun vs H Q E => vs.length = (["self"] : List Str).length ∧ t_Disk_twin K a E ⟨fun _ H' => Q .non H', Q, F0, F0⟩ (start ["self"] vs) H
theorem in_Disk_twin {K : PySem.W.Frag} {a : Ac} {x0 : V} {H : Hp} {Q : VK} {E : XK} (q : t_Disk_twin K a E ⟨fun _ H' => Q .non H', Q, F0, F0⟩ [some x0] H) : sp_Disk_twin K a [x0] H Q E := ⟨rfl, q⟩
def t_is_home (K : PySem.W.Frag) (a : Ac) (E : XK) : TS :=
  tRet (tAndV (tCB ((rIsi K)) (tCons (tVar 1) (tCons (tC (.ty "int")) (tNil)))) (tAndV (tNotV (tCB ((rIsi K)) (tCons (tVar 1) (tCons (tC (.ty "bool")) (tNil))))) (tChain rLeP rLtP (tC (.int 17)) (tVar 1) (tMethP "blocks" [(a.Disk, sp_Disk_blocks K a)] (WE (WM E)) (tVar 0) tNil))))
def N_is_home : List Str := ["disk", "block"]
def sp_is_home (K : PySem.W.Frag) (a : Ac) : Sp := fun vs H Q E => vs.length = (["disk", "block"] : List Str).length ∧ t_is_home K a E ⟨fun _ H' => Q .non H', Q, F0, F0⟩ (start ["disk", "block"] vs) H
theorem in_is_home {K : PySem.W.Frag} {a : Ac} {x0 x1 : V} {H : Hp} {Q : VK} {E : XK} (q : t_is_home K a E ⟨fun _ H' => Q .non H', Q, F0, F0⟩ [some x0, some x1] H) : sp_is_home K a [x0, x1] H Q E := ⟨rfl, q⟩
def t_need_pairs (K : PySem.W.Frag) (a : Ac) (E : XK) : TS :=
  tSeq (tIfS (tTest (tOp rGtP (tCB (rLenP K) (tCons (tVar 1) (tNil))) (tC (.int 15)))) (tRaiseE a.TooMuch (WM E)) (tNext)) (tSeq (tAsg (tLst (tNil)) (gName 2)) (tSeq (tAsg (tC (.int 0)) (gName 3)) (tSeq (tFor (iSeqP K (tVar 1)) (gTupP K 2 (gCons (gName 4) (gCons (gName 5) (gNil)))) (tSeq (tIfS (tOr (tNot (tB (tCallS (sp_is_home K a) (WE (WM E)) (tCons (tVar 0) (tCons (tVar 4) (tNil)))))) (tTest (tOp rLeP (tVar 4) (tVar 3)))) (tRaiseE a.NoBlock (WM E)) (tNext)) (tSeq (tDrop (tBM K "list" rAppend (tVar 2) (tCons (tTup (tCons (tVar 4) (tCons (tCallS (sp_need_row K a) (WE (WM E)) (tCons (tVar 5) (tNil))) (tNil)))) (tNil)))) (tAsg (tVar 4) (gName 3))))) (tRet (tVar 2)))))
def N_need_pairs : List Str := ["disk", "pairs", "found", "last", "block", "row"]
def sp_need_pairs (K : PySem.W.Frag) (a : Ac) : Sp := fun vs H Q E => vs.length = (["disk", "pairs"] : List Str).length ∧ t_need_pairs K a E ⟨fun _ H' => Q .non H', Q, F0, F0⟩ (start ["disk", "pairs", "found", "last", "block", "row"] vs) H
theorem in_need_pairs {K : PySem.W.Frag} {a : Ac} {x0 x1 : V} {H : Hp} {Q : VK} {E : XK} (q : t_need_pairs K a E ⟨fun _ H' => Q .non H', Q, F0, F0⟩ [some x0, some x1, none, none, none, none] H) : sp_need_pairs K a [x0, x1] H Q E := ⟨rfl, q⟩
def t_carry_home (K : PySem.W.Frag) (a : Ac) (E : XK) : TS :=
  tSeq (tFor (iEnum K (tCons (tVar 1) (tNil))) (gTupP K 2 (gCons (gName 2) (gCons (gName 3) (gNil)))) (tDrop (tMethP "write" [(a.Disk, sp_Disk_write K a)] (WE (WM E)) (tVar 0) (tCons (tVar 3) (tCons (tMethP "read" [(a.Disk, sp_Disk_read K a)] (WE (WM E)) (tVar 0) (tCons (tOp rAddP (tOp rAddP (tC (.int 1)) (tC (.int 1))) (tVar 2)) (tNil))) (tNil)))))) (tDrop (tMethP "write" [(a.Disk, sp_Disk_write K a)] (WE (WM E)) (tVar 0) (tCons (tC (.int 1)) (tCons (tCall0 (sp_empty_row K a) (WE (WM E))) (tNil)))))
def N_carry_home : List Str := ["disk", "homes", "place", "home"]
def sp_carry_home (K : PySem.W.Frag) (a : Ac) : Sp := fun vs H Q E => vs.length = (["disk", "homes"] : List Str).length ∧ t_carry_home K a E ⟨fun _ H' => Q .non H', Q, F0, F0⟩ (start ["disk", "homes", "place", "home"] vs) H
theorem in_carry_home {K : PySem.W.Frag} {a : Ac} {x0 x1 : V} {H : Hp} {Q : VK} {E : XK} (q : t_carry_home K a E ⟨fun _ H' => Q .non H', Q, F0, F0⟩ [some x0, some x1, none, none] H) : sp_carry_home K a [x0, x1] H Q E := ⟨rfl, q⟩
def t_commit (K : PySem.W.Frag) (a : Ac) (E : XK) : TS :=
  tSeq (tAsg (tCallS (sp_need_pairs K a) (WE (WM E)) (tCons (tVar 0) (tCons (tVar 1) (tNil)))) (gName 2)) (tSeq (tIfS (tTest (tOp (rEqP K) (tVar 2) (tLst (tNil)))) (tRetN) (tNext)) (tSeq (tFor (iEnum K (tCons (tVar 2) (tNil))) (gTupP K 2 (gCons (gName 3) (gCons (gName 4) (gNil)))) (tDrop (tMethP "write" [(a.Disk, sp_Disk_write K a)] (WE (WM E)) (tVar 0) (tCons (tOp rAddP (tOp rAddP (tC (.int 1)) (tC (.int 1))) (tVar 3)) (tCons (tOp (rIxP K) (tVar 4) (tC (.int 1))) (tNil)))))) (tSeq (tAsg (tLc (iSeqP K (tVar 2)) (gName 4) (tYes) (tOp (rIxP K) (tVar 4) (tC (.int 0))) [4]) (gName 5)) (tSeq (tDrop (tMethP "write" [(a.Disk, sp_Disk_write K a)] (WE (WM E)) (tVar 0) (tCons (tC (.int 1)) (tCons (tCallS (sp_changed K a) (WE (WM E)) (tCons (tCall0 (sp_empty_row K a) (WE (WM E))) (tCons (tC (.int 0)) (tCons (tOp rAddP (tLst (tCons (tCB (rLenP K) (tCons (tVar 5) (tNil))) (tNil))) (tVar 5)) (tNil))))) (tNil))))) (tDrop (tCallS (sp_carry_home K a) (WE (WM E)) (tCons (tVar 0) (tCons (tVar 5) (tNil)))))))))
def N_commit : List Str := ["disk", "pairs", "kept", "place", "pair", "homes"]
def sp_commit (K : PySem.W.Frag) (a : Ac) : Sp := fun vs H Q E => vs.length = (["disk", "pairs"] : List Str).length ∧ t_commit K a E ⟨fun _ H' => Q .non H', Q, F0, F0⟩ (start ["disk", "pairs", "kept", "place", "pair", "homes"] vs) H
theorem in_commit {K : PySem.W.Frag} {a : Ac} {x0 x1 : V} {H : Hp} {Q : VK} {E : XK} (q : t_commit K a E ⟨fun _ H' => Q .non H', Q, F0, F0⟩ [some x0, some x1, none, none, none, none] H) : sp_commit K a [x0, x1] H Q E := ⟨rfl, q⟩
def t_homes_told (K : PySem.W.Frag) (a : Ac) (E : XK) : TS :=
  tSeq (tAsg (tMethP "read" [(a.Disk, sp_Disk_read K a)] (WE (WM E)) (tVar 0) (tCons (tC (.int 1)) (tNil))) (gName 1)) (tSeq (tAsg (tOp (rIxP K) (tVar 1) (tC (.int 0))) (gName 2)) (tSeq (tIfS (tOr (tTest (tOp rGtP (tVar 2) (tC (.int 15)))) (tTest (tOp rGtP (tCKw (rMaxD K) (tCons (tSl (rSlP K) (tVar 1) (tPart (tOp rAddP (tC (.int 1)) (tVar 2))) (tNoPart)) (tNil)) (tCons (tC (.int 0)) tNil)) (tC (.int 0))))) (tRaiseE a.BadLog (WM E)) (tNext)) (tSeq (tAsg (tC (.int 0)) (gName 3)) (tSeq (tFor (iSeqP K (tSl (rSlP K) (tVar 1) (tPart (tC (.int 1))) (tPart (tOp rAddP (tC (.int 1)) (tVar 2))))) (gName 4) (tSeq (tIfS (tOr (tNot (tB (tCallS (sp_is_home K a) (WE (WM E)) (tCons (tVar 0) (tCons (tVar 4) (tNil)))))) (tTest (tOp rLeP (tVar 4) (tVar 3)))) (tRaiseE a.BadLog (WM E)) (tNext)) (tAsg (tVar 4) (gName 3)))) (tRet (tSl (rSlP K) (tVar 1) (tPart (tC (.int 1))) (tPart (tOp rAddP (tC (.int 1)) (tVar 2)))))))))
def N_homes_told : List Str := ["disk", "head", "count", "last", "home"]
def sp_homes_told (K : PySem.W.Frag) (a : Ac) : Sp := fun vs H Q E => vs.length = (["disk"] : List Str).length ∧ t_homes_told K a E ⟨fun _ H' => Q .non H', Q, F0, F0⟩ (start ["disk", "head", "count", "last", "home"] vs) H
theorem in_homes_told {K : PySem.W.Frag} {a : Ac} {x0 : V} {H : Hp} {Q : VK} {E : XK} (q : t_homes_told K a E ⟨fun _ H' => Q .non H', Q, F0, F0⟩ [some x0, none, none, none, none] H) : sp_homes_told K a [x0] H Q E := ⟨rfl, q⟩
def t_come_back (K : PySem.W.Frag) (a : Ac) (E : XK) : TS :=
  tSeq (tAsg (tCallS (sp_homes_told K a) (WE (WM E)) (tCons (tVar 0) (tNil))) (gName 1)) (tSeq (tIfS (tTest (tOp (rNeP K) (tVar 1) (tLst (tNil)))) (tDrop (tCallS (sp_carry_home K a) (WE (WM E)) (tCons (tVar 0) (tCons (tVar 1) (tNil))))) (tNext)) (tRet (tCB (rLenP K) (tCons (tVar 1) (tNil)))))
def N_come_back : List Str := ["disk", "homes"]
def sp_come_back (K : PySem.W.Frag) (a : Ac) : Sp := fun vs H Q E => vs.length = (["disk"] : List Str).length ∧ t_come_back K a E ⟨fun _ H' => Q .non H', Q, F0, F0⟩ (start ["disk", "homes"] vs) H
theorem in_come_back {K : PySem.W.Frag} {a : Ac} {x0 : V} {H : Hp} {Q : VK} {E : XK} (q : t_come_back K a E ⟨fun _ H' => Q .non H', Q, F0, F0⟩ [some x0, none] H) : sp_come_back K a [x0] H Q E := ⟨rfl, q⟩
def t_L_cell_at (K : PySem.W.Frag) (a : Ac) (E : XK) : TS :=
  tSeq (tIfS (tTest (tOp rLtP (tVar 1) (tCB (rLenP K) (tCons (tVar 0) (tNil))))) (tRet (tOp (rIxP K) (tVar 0) (tVar 1))) (tNext)) (tRet (tC (.int 0)))
def N_L_cell_at : List Str := ["_law_script", "_law_k"]
def sp_L_cell_at (K : PySem.W.Frag) (a : Ac) : Sp := fun vs H Q E => vs.length = (["_law_script", "_law_k"] : List Str).length ∧ t_L_cell_at K a E ⟨fun _ H' => Q .non H', Q, F0, F0⟩ (start ["_law_script", "_law_k"] vs) H
theorem in_L_cell_at {K : PySem.W.Frag} {a : Ac} {x0 x1 : V} {H : Hp} {Q : VK} {E : XK} (q : t_L_cell_at K a E ⟨fun _ H' => Q .non H', Q, F0, F0⟩ [some x0, some x1] H) : sp_L_cell_at K a [x0, x1] H Q E := ⟨rfl, q⟩
def t_L_row (K : PySem.W.Frag) (a : Ac) (E : XK) : TS :=
  tSeq (tIfS (tTest (tOp (rEqP K) (tOp rModP (tVar 0) (tC (.int 5))) (tC (.int 0)))) (tRet (tOp rMulP (tLst (tCons (tOp rMulP (tOp rModP (tOp rDivP (tVar 0) (tC (.int 5))) (tC (.int 2))) (tC (.int 999999999))) (tNil))) (tC (.int 16)))) (tNext)) (tSeq (tAsg (tOp rModP (tOp rDivP (tVar 0) (tC (.int 5))) (tOp rPowP (tC (.int 10)) (tC (.int 9)))) (gName 1)) (tRet (tLc (iRng1 (tCons (tC (.int 16)) (tNil))) (gName 2) (tYes) (tOp rModP (tOp rAddP (tOp rAddP (tVar 1) (tOp rMulP (tOp rModP (tOp rDivP (tVar 0) (tC (.int 35))) (tC (.int 1009))) (tVar 2))) (tOp rMulP (tOp rMulP (tC (.int 7919)) (tVar 2)) (tVar 2))) (tOp rPowP (tC (.int 10)) (tC (.int 9)))) [2])))
def N_L_row : List Str := ["_law_cell", "_law_first", "_law_k"]
def sp_L_row (K : PySem.W.Frag) (a : Ac) : Sp := fun vs H Q E => vs.length = (["_law_cell"] : List Str).length ∧ t_L_row K a E ⟨fun _ H' => Q .non H', Q, F0, F0⟩ (start ["_law_cell", "_law_first", "_law_k"] vs) H
theorem in_L_row {K : PySem.W.Frag} {a : Ac} {x0 : V} {H : Hp} {Q : VK} {E : XK} (q : t_L_row K a E ⟨fun _ H' => Q .non H', Q, F0, F0⟩ [some x0, none, none] H) : sp_L_row K a [x0] H Q E := ⟨rfl, q⟩
def th_L_word (K : PySem.W.Frag) (a : Ac) (e D : Addr) (E : XK) : TS :=
  tSeq (tAsg (tLst (tCons (tCB (rIsiH K D e) (tCons (tVar 0) (tCons (tC (.ref a.NoBlock)) (tNil)))) (tCons (tCB (rIsiH K D e) (tCons (tVar 0) (tCons (tC (.ref a.BadRow)) (tNil)))) (tCons (tCB (rIsiH K D e) (tCons (tVar 0) (tCons (tC (.ref a.TooMuch)) (tNil)))) (tCons (tCB (rIsiH K D e) (tCons (tVar 0) (tCons (tC (.ref a.BadLog)) (tNil)))) (tNil)))))) (gName 1)) (tSeq (tAsg (tOp rAddP (tVar 1) (tLst (tCons (tCB (rIsiH K D e) (tCons (tVar 0) (tCons (tC (.ref a.Stopped)) (tNil)))) (tCons (tCB (rIsiH K D e) (tCons (tVar 0) (tCons (tC (.ref a.BadDisk)) (tNil)))) (tNil))))) (gName 1)) (tSeq (tIfS (tNot (tB (tCB (rIsiH K D e) (tCons (tVar 0) (tCons (tC (.ty "ValueError")) (tNil)))))) (tRet (tC (.str "else"))) (tNext)) (tRet (tBM K "str" (rJoinP K) (tC (.str " ")) (tCons (tLc (iRng1 (tCons (tC (.int 6)) (tNil))) (gName 2) (tB (tOp (rIxP K) (tVar 1) (tVar 2))) (tOp (rIxP K) (tLst (tCons (tC (.str "block")) (tCons (tC (.str "row")) (tCons (tC (.str "much")) (tCons (tC (.str "log")) (tCons (tC (.str "stopped")) (tCons (tC (.str "disk")) (tNil)))))))) (tVar 2)) [2]) (tNil))))))
def Nh_L_word : List Str := ["_law_e", "_law_some", "_law_k"]
def sph_L_word (K : PySem.W.Frag) (a : Ac) (e D : Addr) : Sp := fun vs H Q E => vs.length = (["_law_e"] : List Str).length ∧ th_L_word K a e D E ⟨fun _ H' => Q .non H', Q, F0, F0⟩ (start ["_law_e", "_law_some", "_law_k"] vs) H
theorem inh_L_word {K : PySem.W.Frag} {a : Ac} {x0 : V} {e D : Addr} {H : Hp} {Q : VK} {E : XK} (q : th_L_word K a e D E ⟨fun _ H' => Q .non H', Q, F0, F0⟩ [some x0, none, none] H) : sph_L_word K a e D [x0] H Q E := ⟨rfl, q⟩
def t_L_homes (K : PySem.W.Frag) (a : Ac) (E : XK) : TS :=
  tSeq (tAsg (tDNewK) (gName 3)) (tSeq (tFor (iRng1 (tCons (tVar 2) (tNil))) (gName 4) (sDPut (tVar 3) (tOp rAddP (tC (.int 17)) (tOp rModP (tOp rAddP (tOp rDivP (tCallS (sp_L_cell_at K a) (WE (WM E)) (tCons (tVar 0) (tCons (tOp rAddP (tC (.int 8)) (tVar 4)) (tNil)))) (tC (.int 3))) (tOp rMulP (tC (.int 5)) (tVar 4))) (tOp rSubP (tVar 1) (tC (.int 17))))) (tC (.bl true)))) (tRet (tCB ((rSortedP K)) (tCons (tVar 3) (tNil)))))
def N_L_homes : List Str := ["_law_script", "_law_many", "_law_count", "_law_homes_here", "_law_k"]
def sp_L_homes (K : PySem.W.Frag) (a : Ac) : Sp := fun vs H Q E => vs.length = (["_law_script", "_law_many", "_law_count"] : List Str).length ∧ t_L_homes K a E ⟨fun _ H' => Q .non H', Q, F0, F0⟩ (start ["_law_script", "_law_many", "_law_count", "_law_homes_here", "_law_k"] vs) H
theorem in_L_homes {K : PySem.W.Frag} {a : Ac} {x0 x1 x2 : V} {H : Hp} {Q : VK} {E : XK} (q : t_L_homes K a E ⟨fun _ H' => Q .non H', Q, F0, F0⟩ [some x0, some x1, some x2, none, none] H) : sp_L_homes K a [x0, x1, x2] H Q E := ⟨rfl, q⟩
def t_L_head (K : PySem.W.Frag) (a : Ac) (E : XK) : TS :=
  tSeq (tAsg (tCallS (sp_L_homes K a) (WE (WM E)) (tCons (tVar 0) (tCons (tVar 1) (tCons (tOp rModP (tCallS (sp_L_cell_at K a) (WE (WM E)) (tCons (tVar 0) (tCons (tC (.int 2)) (tNil)))) (tC (.int 16))) (tNil))))) (gName 2)) (tSeq (tAsg (tOp rAddP (tOp rAddP (tLst (tCons (tCB (rLenP K) (tCons (tVar 2) (tNil))) (tNil))) (tVar 2)) (tOp rMulP (tLst (tCons (tC (.int 0)) (tNil))) (tOp rSubP (tC (.int 15)) (tCB (rLenP K) (tCons (tVar 2) (tNil)))))) (gName 3)) (tSeq (tAsg (tCallS (sp_L_cell_at K a) (WE (WM E)) (tCons (tVar 0) (tCons (tC (.int 3)) (tNil)))) (gName 4)) (tSeq (tAsg (tOp rModP (tOp rDivP (tVar 4) (tC (.int 8))) (tC (.int 16))) (gName 5)) (tSeq (tIfS (tTest (tOp (rEqP K) (tOp rModP (tOp rDivP (tVar 4) (tC (.int 128))) (tC (.int 2))) (tC (.int 1)))) (tAsg (tOp rModP (tOp rDivP (tVar 4) (tC (.int 256))) (tOp rAddP (tCB (rLenP K) (tCons (tVar 2) (tNil))) (tC (.int 1)))) (gName 5)) (tNext)) (tSeq (tAsg (tOp rModP (tOp rDivP (tVar 4) (tC (.int 4096))) (tOp rPowP (tC (.int 10)) (tC (.int 9)))) (gName 6)) (tSeq (tAsg (tLst (tCons (tOp (rIxP K) (tVar 3) (tVar 5)) (tCons (tOp rAddP (tOp (rIxP K) (tVar 3) (tVar 5)) (tC (.int 1))) (tCons (tCB rMax2 (tCons (tC (.int 0)) (tCons (tOp rSubP (tOp (rIxP K) (tVar 3) (tVar 5)) (tC (.int 1))) (tNil)))) (tCons (tC (.int 0)) (tCons (tC (.int 16)) (tCons (tVar 1) (tCons (tVar 6) (tCons (tOp (rIxP K) (tVar 3) (tOp rSubP (tVar 5) (tC (.int 1)))) (tNil)))))))))) (gName 7)) (tSeq (tAsg (tOp (rIxP K) (tVar 7) (tOp rModP (tVar 4) (tC (.int 8)))) (gSub (tVar 3) (tVar 5) rSetL)) (tSeq (tIfS (tTest (tOp (rEqP K) (tOp rModP (tVar 4) (tC (.int 16))) (tC (.int 15)))) (tAsg (tOp rModP (tOp rDivP (tVar 4) (tC (.int 16))) (tC (.int 100))) (gSub (tVar 3) (tOp rSubP (tVar 5) (tC (.int 1))) rSetL)) (tNext)) (tRet (tVar 3))))))))))
def N_L_head : List Str := ["_law_script", "_law_many", "_law_homes_here", "_law_head_here", "_law_cell", "_law_at", "_law_far", "_law_words"]
def sp_L_head (K : PySem.W.Frag) (a : Ac) : Sp := fun vs H Q E => vs.length = (["_law_script", "_law_many"] : List Str).length ∧ t_L_head K a E ⟨fun _ H' => Q .non H', Q, F0, F0⟩ (start ["_law_script", "_law_many", "_law_homes_here", "_law_head_here", "_law_cell", "_law_at", "_law_far", "_law_words"] vs) H
theorem in_L_head {K : PySem.W.Frag} {a : Ac} {x0 x1 : V} {H : Hp} {Q : VK} {E : XK} (q : t_L_head K a E ⟨fun _ H' => Q .non H', Q, F0, F0⟩ [some x0, some x1, none, none, none, none, none, none] H) : sp_L_head K a [x0, x1] H Q E := ⟨rfl, q⟩
def t_L_is_right (K : PySem.W.Frag) (a : Ac) (E : XK) : TS :=
  tSeq (tIfS (tTest (tOp rGtP (tOp (rIxP K) (tVar 0) (tC (.int 0))) (tC (.int 15)))) (tRet (tC (.bl false))) (tNext)) (tSeq (tIfS (tTest (tOp (rNeP K) (tLc (iSeqP K (tSl (rSlP K) (tVar 0) (tPart (tOp rAddP (tC (.int 1)) (tOp (rIxP K) (tVar 0) (tC (.int 0))))) (tNoPart))) (gName 4) (tTest (tOp (rNeP K) (tVar 4) (tC (.int 0)))) (tVar 4) [4]) (tLst (tNil)))) (tRet (tC (.bl false))) (tNext)) (tSeq (tAsg (tC (.int 16)) (gName 2)) (tSeq (tFor (iSeqP K (tSl (rSlP K) (tVar 0) (tPart (tC (.int 1))) (tPart (tOp rAddP (tC (.int 1)) (tOp (rIxP K) (tVar 0) (tC (.int 0))))))) (gName 3) (tSeq (tIfS (tNot (tTest (tChain rLtP rLtP (tVar 2) (tVar 3) (tVar 1)))) (tRet (tC (.bl false))) (tNext)) (tAsg (tVar 3) (gName 2)))) (tRet (tC (.bl true))))))
def N_L_is_right : List Str := ["_law_head_here", "_law_many", "_law_last", "_law_home", "_law_word_here"]
def sp_L_is_right (K : PySem.W.Frag) (a : Ac) : Sp := fun vs H Q E => vs.length = (["_law_head_here", "_law_many"] : List Str).length ∧ t_L_is_right K a E ⟨fun _ H' => Q .non H', Q, F0, F0⟩ (start ["_law_head_here", "_law_many", "_law_last", "_law_home", "_law_word_here"] vs) H
theorem in_L_is_right {K : PySem.W.Frag} {a : Ac} {x0 x1 : V} {H : Hp} {Q : VK} {E : XK} (q : t_L_is_right K a E ⟨fun _ H' => Q .non H', Q, F0, F0⟩ [some x0, some x1, none, none, none] H) : sp_L_is_right K a [x0, x1] H Q E := ⟨rfl, q⟩
def t_L_comes_back_5 (K : PySem.W.Frag) (a : Ac) (E : XK) : TS :=
  tSeq (tTryAs K (.ref a.KeepError) 7 (fun W => tAsg (tCallS (sp_come_back K a) (WE W) (tCons (tVar 0) (tNil))) (gName 6)) (fun e D => tAsg (tCallX (sph_L_word K a) e D (WE W0) (tCons (tVar 7) (tNil))) (gName 5)) (WM E)) (tSeq (tAsg (tLc (iRng1 (tCons (tMethP "blocks" [(a.Disk, sp_Disk_blocks K a)] (WE (WM E)) (tVar 0) tNil) (tNil))) (gName 10) (tYes) (tCB ((rListP K)) (tCons (tMethP "read" [(a.Disk, sp_Disk_read K a)] (WE W0) (tVar 0) (tCons (tVar 10) (tNil))) (tNil))) [10]) (gName 8)) (tSeq (tIfS (tNot (tB (tCallS (sp_L_is_right K a) (WE (WM E)) (tCons (tVar 1) (tCons (tMethP "blocks" [(a.Disk, sp_Disk_blocks K a)] (WE (WM E)) (tVar 0) tNil) (tNil)))))) (tRet (tAndV (tOp (rEqP K) (tVar 5) (tC (.str "log"))) (tAndV (tOp (rEqP K) (tMethP "writes" [(a.Disk, sp_Disk_writes K a)] (WE (WM E)) (tVar 0) tNil) (tVar 4)) (tOp (rEqP K) (tVar 8) (tVar 3))))) (tNext)) (tSeq (tFor (iRng1 (tCons (tOp (rIxP K) (tVar 1) (tC (.int 0))) (tNil))) (gName 2) (tAsg (tOp (rIxP K) (tVar 3) (tOp rAddP (tC (.int 2)) (tVar 2))) (gSub (tVar 3) (tOp (rIxP K) (tVar 1) (tOp rAddP (tC (.int 1)) (tVar 2))) rSetL))) (tSeq (tAsg (tOp rMulP (tLst (tCons (tC (.int 0)) (tNil))) (tC (.int 16))) (gSub (tVar 3) (tC (.int 1)) rSetL)) (tSeq (tIfS (tOr (tTest (tOp (rNeP K) (tVar 5) (tC (.str "")))) (tOr (tNot (tB (tCB ((rIsi K)) (tCons (tVar 6) (tCons (tC (.ty "int")) (tNil)))))) (tOr (tB (tCB ((rIsi K)) (tCons (tVar 6) (tCons (tC (.ty "bool")) (tNil))))) (tTest (tOp (rNeP K) (tVar 6) (tOp (rIxP K) (tVar 1) (tC (.int 0)))))))) (tRet (tC (.bl false))) (tNext)) (tSeq (tAsg (tOp rMulP (tOp rAddP (tOp (rIxP K) (tVar 1) (tC (.int 0))) (tC (.int 1))) (tCB (rIntP) (tCons (tOp rGtP (tOp (rIxP K) (tVar 1) (tC (.int 0))) (tC (.int 0))) (tNil)))) (gName 9)) (tRet (tAndV (tOp (rEqP K) (tMethP "writes" [(a.Disk, sp_Disk_writes K a)] (WE (WM E)) (tVar 0) tNil) (tOp rAddP (tVar 4) (tVar 9))) (tOp (rEqP K) (tVar 8) (tVar 3))))))))))
def t_L_comes_back (K : PySem.W.Frag) (a : Ac) (E : XK) : TS :=
  tSeq (tFor (iRng1 (tCons (tC (.int 15)) (tNil))) (gName 2) (tDrop (tMethP "write" [(a.Disk, sp_Disk_write K a)] (WE (WM E)) (tVar 0) (tCons (tOp rAddP (tC (.int 2)) (tVar 2)) (tCons (tCallS (sp_L_row K a) (WE (WM E)) (tCons (tOp rAddP (tOp rAddP (tOp (rIxP K) (tVar 1) (tC (.int 0))) (tOp rMulP (tC (.int 1000)) (tVar 2))) (tC (.int 7))) (tNil))) (tNil)))))) (tSeq (tDrop (tMethP "write" [(a.Disk, sp_Disk_write K a)] (WE (WM E)) (tVar 0) (tCons (tC (.int 1)) (tCons (tVar 1) (tNil))))) (tSeq (tAsg (tLc (iRng1 (tCons (tMethP "blocks" [(a.Disk, sp_Disk_blocks K a)] (WE (WM E)) (tVar 0) tNil) (tNil))) (gName 10) (tYes) (tCB ((rListP K)) (tCons (tMethP "read" [(a.Disk, sp_Disk_read K a)] (WE W0) (tVar 0) (tCons (tVar 10) (tNil))) (tNil))) [10]) (gName 3)) (tSeq (tAsg (tMethP "writes" [(a.Disk, sp_Disk_writes K a)] (WE (WM E)) (tVar 0) tNil) (gName 4)) (tSeq (tAsg (tC (.str "")) (gName 5)) (t_L_comes_back_5 K a E)))))
def N_L_comes_back : List Str := ["_law_disk", "_law_head_here", "_law_k", "_law_rows", "_law_before", "_law_word_here", "_law_found", "_law_e", "_law_now", "_law_count", "_law_block"]
def sp_L_comes_back (K : PySem.W.Frag) (a : Ac) : Sp := fun vs H Q E => vs.length = (["_law_disk", "_law_head_here"] : List Str).length ∧ t_L_comes_back K a E ⟨fun _ H' => Q .non H', Q, F0, F0⟩ (start ["_law_disk", "_law_head_here", "_law_k", "_law_rows", "_law_before", "_law_word_here", "_law_found", "_law_e", "_law_now", "_law_count", "_law_block"] vs) H
theorem in_L_comes_back {K : PySem.W.Frag} {a : Ac} {x0 x1 : V} {H : Hp} {Q : VK} {E : XK} (q : t_L_comes_back K a E ⟨fun _ H' => Q .non H', Q, F0, F0⟩ [some x0, some x1, none, none, none, none, none, none, none, none, none] H) : sp_L_comes_back K a [x0, x1] H Q E := ⟨rfl, q⟩
def t_L_odd_pair (K : PySem.W.Frag) (a : Ac) (E : XK) : TS :=
  tSeq (tAsg (tOp rModP (tOp rDivP (tVar 1) (tC (.int 60))) (tOp rPowP (tC (.int 10)) (tC (.int 20)))) (gName 4)) (tSeq (tAsg (tOp (rIxP K) (tLst (tCons (tUn (rU fun i => .int (-i)) (tC (.int 1))) (tCons (tC (.int 0)) (tCons (tC (.int 16)) (tCons (tVar 2) (tCons (tOp rAddP (tVar 2) (tVar 4)) (tCons (tOp rSubP (tUn (rU fun i => .int (-i)) (tC (.int 1))) (tVar 4)) (tCons (tC (.bl true)) (tCons (tC .non) (tCons (tLst (tCons (tC (.int 17)) (tNil))) (tCons (tVar 3) (tNil)))))))))))) (tOp rModP (tOp rDivP (tVar 1) (tC (.int 6))) (tC (.int 10)))) (gName 5)) (tSeq (tAsg (tOp (rIxP K) (tVar 0) (tC (.int 1))) (gName 6)) (tSeq (tAsg (tLst (tCons (tSl (rSlP K) (tVar 6) (tNoPart) (tPart (tC (.int 15)))) (tCons (tOp rAddP (tVar 6) (tLst (tCons (tC (.int 0)) (tNil)))) (tCons (tCB ((rTupleP K)) (tCons (tVar 6) (tNil))) (tCons (tC .non) (tNil)))))) (gName 7)) (tSeq (tAsg (tOp rAddP (tVar 7) (tLst (tCons (tOp rAddP (tLst (tCons (tUn (rU fun i => .int (-i)) (tC (.int 1))) (tNil))) (tSl (rSlP K) (tVar 6) (tPart (tC (.int 1))) (tNoPart))) (tCons (tOp rAddP (tSl (rSlP K) (tVar 6) (tNoPart) (tPart (tC (.int 15)))) (tLst (tCons (tOp rPowP (tC (.int 10)) (tC (.int 9))) (tNil)))) (tNil))))) (gName 7)) (tSeq (tAsg (tOp rAddP (tVar 7) (tLst (tCons (tOp rAddP (tLst (tCons (tC (.bl true)) (tNil))) (tSl (rSlP K) (tVar 6) (tPart (tC (.int 1))) (tNoPart))) (tCons (tOp rAddP (tSl (rSlP K) (tVar 6) (tNoPart) (tPart (tC (.int 15)))) (tLst (tCons (tC (.str "1")) (tNil)))) (tCons (tOp rAddP (tSl (rSlP K) (tVar 6) (tNoPart) (tPart (tC (.int 15)))) (tLst (tCons (tC .non) (tNil)))) (tNil)))))) (gName 7)) (tSeq (tAsg (tOp (rIxP K) (tVar 7) (tOp rModP (tOp rDivP (tVar 1) (tC (.int 60))) (tC (.int 9)))) (gName 8)) (tSeq (tIfS (tTest (tOp (rEqP K) (tOp rModP (tVar 1) (tC (.int 3))) (tC (.int 0)))) (tRet (tTup (tCons (tVar 5) (tCons (tVar 6) (tNil))))) (tNext)) (tSeq (tIfS (tTest (tOp (rEqP K) (tOp rModP (tVar 1) (tC (.int 3))) (tC (.int 1)))) (tRet (tTup (tCons (tOp (rIxP K) (tVar 0) (tC (.int 0))) (tCons (tVar 8) (tNil))))) (tNext)) (tRet (tTup (tCons (tVar 5) (tCons (tVar 8) (tNil)))))))))))))
def N_L_odd_pair : List Str := ["_law_pair", "_law_cell", "_law_many", "_law_ahead", "_law_far", "_law_block", "_law_good", "_law_rows", "_law_row_here"]
def sp_L_odd_pair (K : PySem.W.Frag) (a : Ac) : Sp := fun vs H Q E => vs.length = (["_law_pair", "_law_cell", "_law_many", "_law_ahead"] : List Str).length ∧ t_L_odd_pair K a E ⟨fun _ H' => Q .non H', Q, F0, F0⟩ (start ["_law_pair", "_law_cell", "_law_many", "_law_ahead", "_law_far", "_law_block", "_law_good", "_law_rows", "_law_row_here"] vs) H
theorem in_L_odd_pair {K : PySem.W.Frag} {a : Ac} {x0 x1 x2 x3 : V} {H : Hp} {Q : VK} {E : XK} (q : t_L_odd_pair K a E ⟨fun _ H' => Q .non H', Q, F0, F0⟩ [some x0, some x1, some x2, some x3, none, none, none, none, none] H) : sp_L_odd_pair K a [x0, x1, x2, x3] H Q E := ⟨rfl, q⟩
def t_L_is_number (K : PySem.W.Frag) (a : Ac) (E : XK) : TS :=
  tRet (tAndV (tCB ((rIsi K)) (tCons (tVar 0) (tCons (tC (.ty "int")) (tNil)))) (tAndV (tNotV (tCB ((rIsi K)) (tCons (tVar 0) (tCons (tC (.ty "bool")) (tNil))))) (tChain rLeP rLtP (tC (.int 0)) (tVar 0) (tOp rPowP (tC (.int 10)) (tC (.int 9))))))
def N_L_is_number : List Str := ["_law_word_here"]
def sp_L_is_number (K : PySem.W.Frag) (a : Ac) : Sp := fun vs H Q E => vs.length = (["_law_word_here"] : List Str).length ∧ t_L_is_number K a E ⟨fun _ H' => Q .non H', Q, F0, F0⟩ (start ["_law_word_here"] vs) H
theorem in_L_is_number {K : PySem.W.Frag} {a : Ac} {x0 : V} {H : Hp} {Q : VK} {E : XK} (q : t_L_is_number K a E ⟨fun _ H' => Q .non H', Q, F0, F0⟩ [some x0] H) : sp_L_is_number K a [x0] H Q E := ⟨rfl, q⟩
def t_L_due (K : PySem.W.Frag) (a : Ac) (E : XK) : TS :=
  tSeq (tIfS (tTest (tOp rGtP (tCB (rLenP K) (tCons (tVar 0) (tNil))) (tC (.int 15)))) (tRet (tC (.str "much"))) (tNext)) (tSeq (tAsg (tC (.int 16)) (gName 2)) (tSeq (tFor (iSeqP K (tVar 0)) (gTupP K 2 (gCons (gName 3) (gCons (gName 4) (gNil)))) (tSeq (tIfS (tOr (tNot (tB (tCB ((rIsi K)) (tCons (tVar 3) (tCons (tC (.ty "int")) (tNil)))))) (tOr (tB (tCB ((rIsi K)) (tCons (tVar 3) (tCons (tC (.ty "bool")) (tNil))))) (tNot (tTest (tChain rLtP rLtP (tVar 2) (tVar 3) (tVar 1)))))) (tRet (tC (.str "block"))) (tNext)) (tSeq (tIfS (tOr (tNot (tB (tCB ((rIsi K)) (tCons (tVar 4) (tCons (tC (.ty "list")) (tNil)))))) (tTest (tOp (rNeP K) (tCB (rLenP K) (tCons (tVar 4) (tNil))) (tC (.int 16))))) (tRet (tC (.str "row"))) (tNext)) (tSeq (tIfS (tTest (tOp (rNeP K) (tLc (iSeqP K (tVar 4)) (gName 5) (tNot (tB (tCallS (sp_L_is_number K a) (WE W0) (tCons (tVar 5) (tNil))))) (tVar 5) [5]) (tLst (tNil)))) (tRet (tC (.str "row"))) (tNext)) (tAsg (tVar 3) (gName 2)))))) (tRet (tC (.str "")))))
def N_L_due : List Str := ["_law_pairs", "_law_many", "_law_last", "_law_block", "_law_row_here", "_law_word_here"]
def sp_L_due (K : PySem.W.Frag) (a : Ac) : Sp := fun vs H Q E => vs.length = (["_law_pairs", "_law_many"] : List Str).length ∧ t_L_due K a E ⟨fun _ H' => Q .non H', Q, F0, F0⟩ (start ["_law_pairs", "_law_many", "_law_last", "_law_block", "_law_row_here", "_law_word_here"] vs) H
theorem in_L_due {K : PySem.W.Frag} {a : Ac} {x0 x1 : V} {H : Hp} {Q : VK} {E : XK} (q : t_L_due K a E ⟨fun _ H' => Q .non H', Q, F0, F0⟩ [some x0, some x1, none, none, none, none] H) : sp_L_due K a [x0, x1] H Q E := ⟨rfl, q⟩
def t_L_commits_6 (K : PySem.W.Frag) (a : Ac) (E : XK) : TS :=
  tSeq (tAsg (tCallS (sp_L_due K a) (WE (WM E)) (tCons (tVar 4) (tCons (tVar 2) (tNil)))) (gName 11)) (tSeq (tAsg (tC (.str "")) (gName 12)) (tSeq (tTryAs K (.ref a.KeepError) 13 (fun W => tDrop (tCallS (sp_commit K a) (WE W) (tCons (tVar 1) (tCons (tCB ((rListP K)) (tCons (tVar 4) (tNil))) (tNil))))) (fun e D => tAsg (tCallX (sph_L_word K a) e D (WE W0) (tCons (tVar 13) (tNil))) (gName 12)) (WM E)) (tSeq (tIfS (tTest (tOp (rEqP K) (tVar 11) (tC (.str "")))) (tRet (tAndV (tOp (rEqP K) (tVar 12) (tC (.str ""))) (tOp (rEqP K) (tMethP "writes" [(a.Disk, sp_Disk_writes K a)] (WE (WM E)) (tVar 1) tNil) (tOp rMulP (tOp rAddP (tOp rMulP (tC (.int 2)) (tCB (rLenP K) (tCons (tVar 4) (tNil)))) (tC (.int 2))) (tCB (rIntP) (tCons (tOp (rNeP K) (tVar 4) (tLst (tNil))) (tNil))))))) (tNext)) (tRet (tAndV (tOp (rEqP K) (tVar 12) (tVar 11)) (tAndV (tOp (rEqP K) (tMethP "writes" [(a.Disk, sp_Disk_writes K a)] (WE (WM E)) (tVar 1) tNil) (tC (.int 0))) (tOp (rEqP K) (tLc (iRng1 (tCons (tVar 2) (tNil))) (gName 15) (tYes) (tMethP "read" [(a.Disk, sp_Disk_read K a)] (WE W0) (tVar 1) (tCons (tVar 15) (tNil))) [15]) (tVar 10))))))))
def t_L_commits_4 (K : PySem.W.Frag) (a : Ac) (E : XK) : TS :=
  tSeq (tFor (iRng1 (tCons (tOp rModP (tCallS (sp_L_cell_at K a) (WE (WM E)) (tCons (tVar 0) (tCons (tC (.int 3)) (tNil)))) (tC (.int 3))) (tNil))) (gName 6) (tIfS (tTest (tOp (rNeP K) (tVar 4) (tLst (tNil)))) (tSeq (tAsg (tCallS (sp_L_cell_at K a) (WE (WM E)) (tCons (tVar 0) (tCons (tOp rAddP (tC (.int 4)) (tVar 6)) (tNil)))) (gName 7)) (tSeq (tAsg (tOp rModP (tVar 7) (tCB (rLenP K) (tCons (tVar 4) (tNil)))) (gName 8)) (tSeq (tAsg (tOp (rIxP K) (tOp (rIxP K) (tVar 5) (tOp rSubP (tVar 8) (tC (.int 1)))) (tC (.int 0))) (gName 9)) (tAsg (tOp rAddP (tOp rAddP (tSl (rSlP K) (tVar 4) (tNoPart) (tPart (tVar 8))) (tLst (tCons (tCallS (sp_L_odd_pair K a) (WE (WM E)) (tCons (tOp (rIxP K) (tVar 5) (tVar 8)) (tCons (tOp rDivP (tVar 7) (tC (.int 16))) (tCons (tVar 2) (tCons (tVar 9) (tNil)))))) (tNil)))) (tSl (rSlP K) (tVar 4) (tPart (tOp rAddP (tVar 8) (tC (.int 1)))) (tNoPart))) (gName 4))))) (tNext))) (tSeq (tAsg (tLc (iRng1 (tCons (tVar 2) (tNil))) (gName 15) (tYes) (tCB ((rListP K)) (tCons (tMethP "read" [(a.Disk, sp_Disk_read K a)] (WE W0) (tVar 1) (tCons (tVar 15) (tNil))) (tNil))) [15]) (gName 10)) (t_L_commits_6 K a E))
def t_L_commits (K : PySem.W.Frag) (a : Ac) (E : XK) : TS :=
  tSeq (tAsg (tMethP "blocks" [(a.Disk, sp_Disk_blocks K a)] (WE (WM E)) (tVar 1) tNil) (gName 2)) (tSeq (tAsg (tCallS (sp_L_homes K a) (WE (WM E)) (tCons (tVar 0) (tCons (tVar 2) (tCons (tOp rModP (tCallS (sp_L_cell_at K a) (WE (WM E)) (tCons (tVar 0) (tCons (tC (.int 2)) (tNil)))) (tC (.int 18))) (tNil))))) (gName 3)) (tSeq (tAsg (tLc (iSeqP K (tVar 3)) (gName 14) (tYes) (tTup (tCons (tVar 14) (tCons (tCallS (sp_L_row K a) (WE W0) (tCons (tCallS (sp_L_cell_at K a) (WE W0) (tCons (tVar 0) (tCons (tOp rAddP (tC (.int 26)) (tOp rModP (tVar 14) (tC (.int 20)))) (tNil)))) (tNil))) (tNil)))) [14]) (gName 4)) (tSeq (tAsg (tCB ((rListP K)) (tCons (tVar 4) (tNil))) (gName 5)) (t_L_commits_4 K a E))))
def N_L_commits : List Str := ["_law_script", "_law_disk", "_law_many", "_law_homes_here", "_law_pairs", "_law_goods", "_law_k", "_law_cell", "_law_at", "_law_ahead", "_law_rows", "_law_due_here", "_law_word_here", "_law_e", "_law_home", "_law_block"]
def sp_L_commits (K : PySem.W.Frag) (a : Ac) : Sp := fun vs H Q E => vs.length = (["_law_script", "_law_disk"] : List Str).length ∧ t_L_commits K a E ⟨fun _ H' => Q .non H', Q, F0, F0⟩ (start ["_law_script", "_law_disk", "_law_many", "_law_homes_here", "_law_pairs", "_law_goods", "_law_k", "_law_cell", "_law_at", "_law_ahead", "_law_rows", "_law_due_here", "_law_word_here", "_law_e", "_law_home", "_law_block"] vs) H
theorem in_L_commits {K : PySem.W.Frag} {a : Ac} {x0 x1 : V} {H : Hp} {Q : VK} {E : XK} (q : t_L_commits K a E ⟨fun _ H' => Q .non H', Q, F0, F0⟩ [some x0, some x1, none, none, none, none, none, none, none, none, none, none, none, none, none, none] H) : sp_L_commits K a [x0, x1] H Q E := ⟨rfl, q⟩
def t_law (K : PySem.W.Frag) (a : Ac) (E : XK) : TS :=
  tSeq (tAsg (tMakeE a.Disk (sp_Disk_init K a) (WE (WM E)) (tCons (tOp rAddP (tC (.int 24)) (tOp rModP (tCallS (sp_L_cell_at K a) (WE (WM E)) (tCons (tVar 0) (tCons (tC (.int 0)) (tNil)))) (tC (.int 73)))) (tNil))) (gName 1)) (tSeq (tIfS (tTest (tOp (rEqP K) (tOp rModP (tCallS (sp_L_cell_at K a) (WE (WM E)) (tCons (tVar 0) (tCons (tC (.int 1)) (tNil)))) (tC (.int 2))) (tC (.int 1)))) (tRet (tCallS (sp_L_commits K a) (WE (WM E)) (tCons (tVar 0) (tCons (tVar 1) (tNil))))) (tNext)) (tRet (tCallS (sp_L_comes_back K a) (WE (WM E)) (tCons (tVar 1) (tCons (tCallS (sp_L_head K a) (WE (WM E)) (tCons (tVar 0) (tCons (tMethP "blocks" [(a.Disk, sp_Disk_blocks K a)] (WE (WM E)) (tVar 1) tNil) (tNil)))) (tNil))))))
def N_law : List Str := ["_law_script", "_law_disk"]
def sp_law (K : PySem.W.Frag) (a : Ac) : Sp := fun vs H Q E => vs.length = (["_law_script"] : List Str).length ∧ t_law K a E ⟨fun _ H' => Q .non H', Q, F0, F0⟩ (start ["_law_script", "_law_disk"] vs) H
theorem in_law {K : PySem.W.Frag} {a : Ac} {x0 : V} {H : Hp} {Q : VK} {E : XK} (q : t_law K a E ⟨fun _ H' => Q .non H', Q, F0, F0⟩ [some x0, none] H) : sp_law K a [x0] H Q E := ⟨rfl, q⟩
class Fc (K : PySem.W.Frag) (a : Ac) : Prop where
  c_Disk : Cls K a.Disk
  na_Disk_done : NoAttr K a.Disk "done"
  na_Disk_left : NoAttr K a.Disk "left"
  na_Disk_rows : NoAttr K a.Disk "rows"
  xc_BadDisk : ExcC K a.BadDisk
  xc_BadLog : ExcC K a.BadLog
  xc_BadRow : ExcC K a.BadRow
  xc_NoBlock : ExcC K a.NoBlock
  xc_Stopped : ExcC K a.Stopped
  xc_TooMuch : ExcC K a.TooMuch
  ki_BadDisk_BadDisk : PySem.W.kitOne K (.ref a.BadDisk) (.ref a.BadDisk) = some true
  ki_BadDisk_BadLog : PySem.W.kitOne K (.ref a.BadDisk) (.ref a.BadLog) = some false
  ki_BadDisk_BadRow : PySem.W.kitOne K (.ref a.BadDisk) (.ref a.BadRow) = some false
  ki_BadDisk_NoBlock : PySem.W.kitOne K (.ref a.BadDisk) (.ref a.NoBlock) = some false
  ki_BadDisk_Stopped : PySem.W.kitOne K (.ref a.BadDisk) (.ref a.Stopped) = some false
  ki_BadDisk_TooMuch : PySem.W.kitOne K (.ref a.BadDisk) (.ref a.TooMuch) = some false
  ki_BadDisk_ValueError : PySem.W.kitOne K (.ref a.BadDisk) (.type "ValueError") = some true
  ki_BadLog_BadDisk : PySem.W.kitOne K (.ref a.BadLog) (.ref a.BadDisk) = some false
  ki_BadLog_BadLog : PySem.W.kitOne K (.ref a.BadLog) (.ref a.BadLog) = some true
  ki_BadLog_BadRow : PySem.W.kitOne K (.ref a.BadLog) (.ref a.BadRow) = some false
  ki_BadLog_NoBlock : PySem.W.kitOne K (.ref a.BadLog) (.ref a.NoBlock) = some false
  ki_BadLog_Stopped : PySem.W.kitOne K (.ref a.BadLog) (.ref a.Stopped) = some false
  ki_BadLog_TooMuch : PySem.W.kitOne K (.ref a.BadLog) (.ref a.TooMuch) = some false
  ki_BadLog_ValueError : PySem.W.kitOne K (.ref a.BadLog) (.type "ValueError") = some true
  ki_BadRow_BadDisk : PySem.W.kitOne K (.ref a.BadRow) (.ref a.BadDisk) = some false
  ki_BadRow_BadLog : PySem.W.kitOne K (.ref a.BadRow) (.ref a.BadLog) = some false
  ki_BadRow_BadRow : PySem.W.kitOne K (.ref a.BadRow) (.ref a.BadRow) = some true
  ki_BadRow_NoBlock : PySem.W.kitOne K (.ref a.BadRow) (.ref a.NoBlock) = some false
  ki_BadRow_Stopped : PySem.W.kitOne K (.ref a.BadRow) (.ref a.Stopped) = some false
  ki_BadRow_TooMuch : PySem.W.kitOne K (.ref a.BadRow) (.ref a.TooMuch) = some false
  ki_BadRow_ValueError : PySem.W.kitOne K (.ref a.BadRow) (.type "ValueError") = some true
  ki_NoBlock_BadDisk : PySem.W.kitOne K (.ref a.NoBlock) (.ref a.BadDisk) = some false
  ki_NoBlock_BadLog : PySem.W.kitOne K (.ref a.NoBlock) (.ref a.BadLog) = some false
  ki_NoBlock_BadRow : PySem.W.kitOne K (.ref a.NoBlock) (.ref a.BadRow) = some false
  ki_NoBlock_NoBlock : PySem.W.kitOne K (.ref a.NoBlock) (.ref a.NoBlock) = some true
  ki_NoBlock_Stopped : PySem.W.kitOne K (.ref a.NoBlock) (.ref a.Stopped) = some false
  ki_NoBlock_TooMuch : PySem.W.kitOne K (.ref a.NoBlock) (.ref a.TooMuch) = some false
  ki_NoBlock_ValueError : PySem.W.kitOne K (.ref a.NoBlock) (.type "ValueError") = some true
  ki_Stopped_BadDisk : PySem.W.kitOne K (.ref a.Stopped) (.ref a.BadDisk) = some false
  ki_Stopped_BadLog : PySem.W.kitOne K (.ref a.Stopped) (.ref a.BadLog) = some false
  ki_Stopped_BadRow : PySem.W.kitOne K (.ref a.Stopped) (.ref a.BadRow) = some false
  ki_Stopped_NoBlock : PySem.W.kitOne K (.ref a.Stopped) (.ref a.NoBlock) = some false
  ki_Stopped_Stopped : PySem.W.kitOne K (.ref a.Stopped) (.ref a.Stopped) = some true
  ki_Stopped_TooMuch : PySem.W.kitOne K (.ref a.Stopped) (.ref a.TooMuch) = some false
  ki_Stopped_ValueError : PySem.W.kitOne K (.ref a.Stopped) (.type "ValueError") = some true
  ki_TooMuch_BadDisk : PySem.W.kitOne K (.ref a.TooMuch) (.ref a.BadDisk) = some false
  ki_TooMuch_BadLog : PySem.W.kitOne K (.ref a.TooMuch) (.ref a.BadLog) = some false
  ki_TooMuch_BadRow : PySem.W.kitOne K (.ref a.TooMuch) (.ref a.BadRow) = some false
  ki_TooMuch_NoBlock : PySem.W.kitOne K (.ref a.TooMuch) (.ref a.NoBlock) = some false
  ki_TooMuch_Stopped : PySem.W.kitOne K (.ref a.TooMuch) (.ref a.Stopped) = some false
  ki_TooMuch_TooMuch : PySem.W.kitOne K (.ref a.TooMuch) (.ref a.TooMuch) = some true
  ki_TooMuch_ValueError : PySem.W.kitOne K (.ref a.TooMuch) (.type "ValueError") = some true
  em_BadDisk_KeepError : PySem.W.exmOne K (.ref a.BadDisk) (.ref a.KeepError) = some true
  em_BadLog_KeepError : PySem.W.exmOne K (.ref a.BadLog) (.ref a.KeepError) = some true
  em_BadRow_KeepError : PySem.W.exmOne K (.ref a.BadRow) (.ref a.KeepError) = some true
  em_NoBlock_KeepError : PySem.W.exmOne K (.ref a.NoBlock) (.ref a.KeepError) = some true
  em_Stopped_KeepError : PySem.W.exmOne K (.ref a.Stopped) (.ref a.KeepError) = some true
  em_TooMuch_KeepError : PySem.W.exmOne K (.ref a.TooMuch) (.ref a.KeepError) = some true
section
variable {K : PySem.W.Frag} {a : Ac} [F : Fc K a]
instance : ClsF K a.Disk := ⟨F.c_Disk⟩
instance : NoAF K a.Disk "done" := ⟨F.na_Disk_done⟩
instance : NoAF K a.Disk "left" := ⟨F.na_Disk_left⟩
instance : NoAF K a.Disk "rows" := ⟨F.na_Disk_rows⟩
instance : ExcF K a.BadDisk := ⟨F.xc_BadDisk⟩
instance : ExcF K a.BadLog := ⟨F.xc_BadLog⟩
instance : ExcF K a.BadRow := ⟨F.xc_BadRow⟩
instance : ExcF K a.NoBlock := ⟨F.xc_NoBlock⟩
instance : ExcF K a.Stopped := ⟨F.xc_Stopped⟩
instance : ExcF K a.TooMuch := ⟨F.xc_TooMuch⟩
instance : KitF K (.ref a.BadDisk) (.ref a.BadDisk) true := ⟨F.ki_BadDisk_BadDisk⟩
instance : KitF K (.ref a.BadDisk) (.ref a.BadLog) false := ⟨F.ki_BadDisk_BadLog⟩
instance : KitF K (.ref a.BadDisk) (.ref a.BadRow) false := ⟨F.ki_BadDisk_BadRow⟩
instance : KitF K (.ref a.BadDisk) (.ref a.NoBlock) false := ⟨F.ki_BadDisk_NoBlock⟩
instance : KitF K (.ref a.BadDisk) (.ref a.Stopped) false := ⟨F.ki_BadDisk_Stopped⟩
instance : KitF K (.ref a.BadDisk) (.ref a.TooMuch) false := ⟨F.ki_BadDisk_TooMuch⟩
instance : KitF K (.ref a.BadDisk) (.type "ValueError") true := ⟨F.ki_BadDisk_ValueError⟩
instance : KitF K (.ref a.BadLog) (.ref a.BadDisk) false := ⟨F.ki_BadLog_BadDisk⟩
instance : KitF K (.ref a.BadLog) (.ref a.BadLog) true := ⟨F.ki_BadLog_BadLog⟩
instance : KitF K (.ref a.BadLog) (.ref a.BadRow) false := ⟨F.ki_BadLog_BadRow⟩
instance : KitF K (.ref a.BadLog) (.ref a.NoBlock) false := ⟨F.ki_BadLog_NoBlock⟩
instance : KitF K (.ref a.BadLog) (.ref a.Stopped) false := ⟨F.ki_BadLog_Stopped⟩
instance : KitF K (.ref a.BadLog) (.ref a.TooMuch) false := ⟨F.ki_BadLog_TooMuch⟩
instance : KitF K (.ref a.BadLog) (.type "ValueError") true := ⟨F.ki_BadLog_ValueError⟩
instance : KitF K (.ref a.BadRow) (.ref a.BadDisk) false := ⟨F.ki_BadRow_BadDisk⟩
instance : KitF K (.ref a.BadRow) (.ref a.BadLog) false := ⟨F.ki_BadRow_BadLog⟩
instance : KitF K (.ref a.BadRow) (.ref a.BadRow) true := ⟨F.ki_BadRow_BadRow⟩
instance : KitF K (.ref a.BadRow) (.ref a.NoBlock) false := ⟨F.ki_BadRow_NoBlock⟩
instance : KitF K (.ref a.BadRow) (.ref a.Stopped) false := ⟨F.ki_BadRow_Stopped⟩
instance : KitF K (.ref a.BadRow) (.ref a.TooMuch) false := ⟨F.ki_BadRow_TooMuch⟩
instance : KitF K (.ref a.BadRow) (.type "ValueError") true := ⟨F.ki_BadRow_ValueError⟩
instance : KitF K (.ref a.NoBlock) (.ref a.BadDisk) false := ⟨F.ki_NoBlock_BadDisk⟩
instance : KitF K (.ref a.NoBlock) (.ref a.BadLog) false := ⟨F.ki_NoBlock_BadLog⟩
instance : KitF K (.ref a.NoBlock) (.ref a.BadRow) false := ⟨F.ki_NoBlock_BadRow⟩
instance : KitF K (.ref a.NoBlock) (.ref a.NoBlock) true := ⟨F.ki_NoBlock_NoBlock⟩
instance : KitF K (.ref a.NoBlock) (.ref a.Stopped) false := ⟨F.ki_NoBlock_Stopped⟩
instance : KitF K (.ref a.NoBlock) (.ref a.TooMuch) false := ⟨F.ki_NoBlock_TooMuch⟩
instance : KitF K (.ref a.NoBlock) (.type "ValueError") true := ⟨F.ki_NoBlock_ValueError⟩
instance : KitF K (.ref a.Stopped) (.ref a.BadDisk) false := ⟨F.ki_Stopped_BadDisk⟩
instance : KitF K (.ref a.Stopped) (.ref a.BadLog) false := ⟨F.ki_Stopped_BadLog⟩
instance : KitF K (.ref a.Stopped) (.ref a.BadRow) false := ⟨F.ki_Stopped_BadRow⟩
instance : KitF K (.ref a.Stopped) (.ref a.NoBlock) false := ⟨F.ki_Stopped_NoBlock⟩
instance : KitF K (.ref a.Stopped) (.ref a.Stopped) true := ⟨F.ki_Stopped_Stopped⟩
instance : KitF K (.ref a.Stopped) (.ref a.TooMuch) false := ⟨F.ki_Stopped_TooMuch⟩
instance : KitF K (.ref a.Stopped) (.type "ValueError") true := ⟨F.ki_Stopped_ValueError⟩
instance : KitF K (.ref a.TooMuch) (.ref a.BadDisk) false := ⟨F.ki_TooMuch_BadDisk⟩
instance : KitF K (.ref a.TooMuch) (.ref a.BadLog) false := ⟨F.ki_TooMuch_BadLog⟩
instance : KitF K (.ref a.TooMuch) (.ref a.BadRow) false := ⟨F.ki_TooMuch_BadRow⟩
instance : KitF K (.ref a.TooMuch) (.ref a.NoBlock) false := ⟨F.ki_TooMuch_NoBlock⟩
instance : KitF K (.ref a.TooMuch) (.ref a.Stopped) false := ⟨F.ki_TooMuch_Stopped⟩
instance : KitF K (.ref a.TooMuch) (.ref a.TooMuch) true := ⟨F.ki_TooMuch_TooMuch⟩
instance : KitF K (.ref a.TooMuch) (.type "ValueError") true := ⟨F.ki_TooMuch_ValueError⟩
instance : ExmF K (.ref a.BadDisk) (.ref a.KeepError) true := ⟨F.em_BadDisk_KeepError⟩
instance : ExmF K (.ref a.BadLog) (.ref a.KeepError) true := ⟨F.em_BadLog_KeepError⟩
instance : ExmF K (.ref a.BadRow) (.ref a.KeepError) true := ⟨F.em_BadRow_KeepError⟩
instance : ExmF K (.ref a.NoBlock) (.ref a.KeepError) true := ⟨F.em_NoBlock_KeepError⟩
instance : ExmF K (.ref a.Stopped) (.ref a.KeepError) true := ⟨F.em_Stopped_KeepError⟩
instance : ExmF K (.ref a.TooMuch) (.ref a.KeepError) true := ⟨F.em_TooMuch_KeepError⟩
end
end Bk

namespace Bk
open PySem L2 PyProof.Rows
/-! our own short tactics: h: what stands at a place; ne: two places; sm: what stood stands; z: a size; s: a step; go: steps -/
local macro_rules | `(tactic| walk_at "h") => `(tactic| first
  | assumption
  | exact New.at (by assumption)
  | exact Wr.at (by assumption)
  | (refine' New.old (by assumption) ?_; walk_at "h")
  | (refine' Same.at (by assumption) ?_; walk_at "h")
  | (refine' Wr.old (by assumption) ?_ ?_; walk_at "ne"; walk_at "h")
  | (refine' Chg.at (by assumption) ?_ ?_; walk_at "ni"; walk_at "h"))
local macro_rules | `(tactic| walk_at "ni") => `(tactic| first
  | exact ni_nil
  | assumption
  | (refine' ni_cons ?_ ?_; walk_at "ne"; walk_at "ni"))
local macro_rules | `(tactic| walk_at "ne") => `(tactic| first
  | assumption
  | exact Ne.symm (by assumption)
  | exact New.ne (by assumption) (by walk_at "h")
  | exact ne_none (by assumption) (by walk_at "h")
  | exact Ne.symm (ne_none (by assumption) (by walk_at "h"))
  | exact Ne.symm (New.ne (by assumption) (by walk_at "h")))
local macro_rules | `(tactic| walk_at "sm") => `(tactic| first
  | exact Same.refl _
  | assumption
  | (refine' Same.trans ?_ (New.same (by assumption)); walk_at "sm")
  | (refine' Same.trans ?_ (by assumption : Same _ _); walk_at "sm"))
local macro_rules | `(tactic| walk_at "z") => `(tactic| first
  | assumption
  | (rw [PySem.sizeLine_eq]; omega)
  | (rw [PySem.sizeLine_eq]; simp only [List.length_cons, List.length_nil, List.length_append, List.length_map, List.length_range, List.length_replicate, len_cut]; omega)
  | (rw [PySem.sizeLine_eq]; simp only [List.length_cons, List.length_nil, List.length_append, List.length_map, List.length_range, List.length_replicate, len_cut] at *; omega))
local macro_rules | `(tactic| walk_at "s") => `(tactic| first
  | ((with_reducible refine' go_var ?h ?_); (case h => exact rfl))
  | (with_reducible refine' go_c ?_)
  | (with_reducible refine' go_op ?_)
  | (with_reducible refine' go_un ?_)
  | (with_reducible refine' go_rU ?_)
  | (with_reducible refine' go_seq ?_)
  | (with_reducible refine' go_ret ?_)
  | (with_reducible refine' go_retN ?_)
  | (with_reducible refine' go_next ?_)
  | (with_reducible refine' go_drop ?_)
  | (with_reducible refine' go_asg ?_)
  | ((with_reducible refine' go_name2 ?h ?_); (case h => (simp only [List.set_cons_zero, List.set_cons_succ]; exact rfl)))
  | ((with_reducible refine' go_name2 ?h ?_); (case h => exact rfl))
  | (with_reducible refine' go_ifS ?_)
  | (with_reducible refine' go_blk ?_)
  | (with_reducible refine' go_test ?_)
  | (with_reducible refine' go_tB ?_)
  | (with_reducible refine' go_and ?_)
  | (with_reducible refine' go_or ?_)
  | (with_reducible refine' go_not ?_)
  | (with_reducible refine' go_andV ?_)
  | (with_reducible refine' go_orV ?_)
  | (with_reducible refine' go_notV ?_)
  | (with_reducible refine' go_if ?_)
  | (with_reducible refine' go_chain ?_)
  | (with_reducible refine' iteT ?_)
  | (with_reducible refine' iteF ?_)
  | ((with_reducible refine' go_Td ?h ?_); (case h => walk_at "pr"))
  | ((with_reducible refine' go_Fd ?h ?_); (case h => walk_at "pr"))
  | ((with_reducible refine' go_Tn ?h ?_); (case h => walk_at "pr"))
  | ((with_reducible refine' go_Fn ?h ?_); (case h => walk_at "pr"))
  | ((with_reducible refine' go_T ?h ?_); (case h => (first | decide | assumption | exact rfl)))
  | ((with_reducible refine' go_F ?h ?_); (case h => (first | decide | assumption | exact rfl)))
  | (with_reducible refine' go_nil ?_)
  | (with_reducible refine' go_cons ?_)
  | (with_reducible refine' go_tLst ?_)
  | (with_reducible refine' go_tTup ?_)
  | ((with_reducible refine' go_LstK ?h ?_); (case h => walk_at "z"); intro p H1 n1)
  | ((with_reducible refine' go_TupK ?h ?_); (case h => walk_at "z"); intro p H1 n1)
  | (with_reducible refine' go_addI ?_)
  | ((with_reducible refine' go_addL ?h ?k ?z ?_); (case h => walk_at "h"); (case k => walk_at "h"); (case z => walk_at "z"); intro p H1 n1)
  | (with_reducible refine' go_sub ?_)
  | ((with_reducible refine' go_mulI ?h ?_); (case h => (unfold CMul; omega)))
  | ((with_reducible refine' go_mulL ?h ?k ?_); (case h => walk_at "h"); (case k => (refine ⟨by omega, by omega, ?_⟩; walk_at "z")); intro p H1 n1)
  | ((with_reducible refine' go_div ?h ?_); (case h => (unfold CDiv; omega)))
  | ((with_reducible refine' go_mod ?h ?_); (case h => omega))
  | (with_reducible refine' go_p109 ?_)
  | (with_reducible refine' go_p1020 ?_)
  | ((with_reducible refine' go_pow ?h ?_); (case h => (unfold CPow; omega)))
  | (with_reducible refine' go_lt ?_)
  | (with_reducible refine' go_le ?_)
  | (with_reducible refine' go_gt ?_)
  | (with_reducible refine' go_ge ?_)
  | (with_reducible refine' go_eqI ?_)
  | (with_reducible refine' go_eqB ?_)
  | (with_reducible refine' go_eqS ?_)
  | (with_reducible refine' go_neI ?_)
  | (with_reducible refine' go_neB ?_)
  | (with_reducible refine' go_neS ?_)
  | (with_reducible refine' go_isN ?_)
  | (with_reducible refine' go_isNotN ?_)
  | (with_reducible refine' go_isB ?_)
  | (with_reducible refine' go_isNotB ?_)
  | (with_reducible refine' go_sl ?_)
  | (with_reducible refine' go_noPart ?_)
  | (with_reducible refine' go_part ?_)
  | (with_reducible refine' go_intK ?_)
  | ((with_reducible refine' go_slL ?h ?_); (case h => walk_at "h"); intro p H1 n1)
  | ((with_reducible refine' go_ixL ?h ?k ?_); (case h => walk_at "h"); (case k => exact rfl))
  | ((with_reducible refine' go_ixT ?h ?k ?_); (case h => walk_at "h"); (case k => exact rfl))
  | ((with_reducible refine' go_slW ?h ?_); (case h => walk_at "h"))
  | (with_reducible refine' go_bm ?_)
  | (with_reducible refine' go_bm0 ?_)
  | ((with_reducible refine' go_bmL ?h ?_); (case h => walk_at "h"))
  | ((with_reducible refine' go_append ?h ?k ?_); (case h => walk_at "h"); (case k => walk_at "z"); intro H1 n1)
  | ((with_reducible refine' go_extend ?h ?k ?z ?_); (case h => walk_at "h"); (case k => walk_at "h"); (case z => walk_at "z"); intro H1 n1)
  | ((with_reducible refine' go_clear ?h ?_); (case h => walk_at "h"); intro H1 n1)
  | ((with_reducible refine' go_dnew ?_); intro p H1 n1)
  | (with_reducible refine' go_cb ?_)
  | (with_reducible refine' go_callS ?_)
  | (with_reducible refine' go_call0 ?_)
  | ((with_reducible refine' go_lenL ?h ?_); (case h => walk_at "h"))
  | ((with_reducible refine' go_lenT ?h ?_); (case h => walk_at "h"))
  | ((with_reducible refine' go_lenK ?h ?_); (case h => walk_at "hk"))
  | ((with_reducible refine' go_listL ?h ?_); (case h => walk_at "h"); intro p H1 n1)
  | ((with_reducible refine' go_listT ?h ?_); (case h => walk_at "h"); intro p H1 n1)
  | ((with_reducible refine' go_tupleL ?h ?_); (case h => walk_at "h"); intro p H1 n1)
  | (with_reducible refine' go_intI ?_)
  | (with_reducible refine' go_intB ?_)
  | (with_reducible refine' go_abs ?_)
  | (with_reducible refine' go_min2 ?_)
  | (with_reducible refine' go_max2 ?_)
  | ((with_reducible refine' go_isi ?h ?k ?_); (case h => walk_at "ty"); (case k => exact kit_bb (by decide) (by decide)))
  | (with_reducible refine' go_lc ?_)
  | (with_reducible refine' go_for ?_)
  | (with_reducible refine' go_seqP ?_)
  | ((with_reducible refine' go_seqL ?h ?_); (case h => walk_at "h"))
  | ((with_reducible refine' go_seqT ?h ?_); (case h => walk_at "h"))
  | (with_reducible refine' go_seqS ?_)
  | (with_reducible refine' go_rng1 ?_)
  | (with_reducible refine' go_rng2 ?_)
  | ((with_reducible refine' go_rng1K ?h ?_); (case h => omega))
  | ((with_reducible refine' go_rng2K ?h ?_); (case h => omega))
  | (with_reducible refine' go_raise ?_)
  | ((with_reducible refine' go_tupG ?h ?k ?_); (case h => walk_at "h"); (case k => exact rfl))
  | ((with_reducible refine' go_lstG ?h ?k ?_); (case h => walk_at "h"); (case k => exact rfl))
  | (with_reducible refine' go_gNil ?_)
  | (with_reducible refine' go_tryAs ?_)
  | (with_reducible refine' go_tryMany1 ?_)
  | (with_reducible refine' go_tryMany2 ?_)
  | (with_reducible refine' go_WM ?_)
  | ((with_reducible refine' go_asT ?_); intro e he)
  | (with_reducible refine' go_asF ?_)
  | ((with_reducible refine' go_manyT ?_); intro e he)
  | (with_reducible refine' go_manyF ?_)
  | (with_reducible refine' go_manyN ?_)
  | (with_reducible refine' go_fld ?_)
  | ((with_reducible refine' go_FldK ?h ?c ?n ?l ?_); (case h => walk_at "h"); (case c => infer_instance); (case n => infer_instance); (case l => exact rfl))
  | (with_reducible refine' go_sfld ?_)
  | ((with_reducible refine' go_SFldK ?h ?c ?n ?l ?e ?_); (case h => walk_at "h"); (case c => infer_instance); (case n => infer_instance); (case l => exact Nat.le_of_ble_eq_true rfl); (case e => walk_at "pf"); intro H1 n1)
  | (with_reducible refine' go_meth ?_)
  | ((with_reducible refine' go_MethK 0 ?h ?l ?e ?_); (case h => walk_at "h"); (case l => exact rfl); (case e => exact rfl))
  | ((with_reducible refine' go_MethK 1 ?h ?l ?e ?_); (case h => walk_at "h"); (case l => exact rfl); (case e => exact rfl))
  | ((with_reducible refine' go_MethK 2 ?h ?l ?e ?_); (case h => walk_at "h"); (case l => exact rfl); (case e => exact rfl))
  | (with_reducible refine' go_make ?_)
  | (with_reducible refine' go_callX ?_)
  | (with_reducible refine' go_methX ?_)
  | ((with_reducible refine' go_MethXK ?h ?l ?_); (case h => walk_at "h"); (case l => exact rfl))
  | (with_reducible refine' go_dget ?_)
  | ((with_reducible refine' go_DGetS ?h ?l ?_); (case h => walk_at "h"); (case l => exact rfl))
  | (with_reducible refine' go_dput ?_)
  | ((with_reducible refine' go_DPutS ?h ?l ?e ?_); (case h => walk_at "h"); (case l => exact Nat.le_of_ble_eq_true rfl); (case e => walk_at "pk"); intro H1 n1)
  | ((with_reducible refine' go_disp ?_); intro p H1 n1)
  | (with_reducible refine' go_pairs ?_)
  | (with_reducible refine' go_pairs0 ?_)
  | ((with_reducible refine' go_DispS ?h ?e ?l ?k ?j ?m ?_); (case h => walk_at "h"); (case e => exact rfl); (case l => exact Nat.le_of_ble_eq_true rfl); (case k => (simp only [unS]; exact rfl)); (case j => (simp only [List.map_cons, List.map_nil]; exact rfl)); (case m => decide +kernel); intro H1 n1)
  | (with_reducible refine' go_par ?_)
  | ((with_reducible refine' go_ParK ?h ?_); (case h => (simp only [List.set_cons_zero, List.set_cons_succ]; exact rfl)))
  | (with_reducible refine' go_sub_ ?_)
  | ((with_reducible refine' go_setLi ?h ?k ?_); (case h => walk_at "h"); (case k => walk_at "ix"); intro H1 n1)
  | (with_reducible refine' go_listY ?_)
  | ((with_reducible refine' go_listYL ?h ?_); (case h => walk_at "h"))
  | (with_reducible refine' go_bmS ?_)
  | (with_reducible refine' go_ckw ?_)
  | ((with_reducible refine' go_maxD ?h ?_); (case h => walk_at "h"))
  | (with_reducible refine' go_listR ?_)
  | (with_reducible refine' go_rg2 ?_)
  | (with_reducible refine' go_Rg2K ?_)
  | (with_reducible refine' go_rg1 ?_)
  | (with_reducible refine' go_Rg1K ?_)
  | ((with_reducible refine' go_ListRK ?h ?_); (case h => omega); intro p H1 n1)
  | (with_reducible refine' go_enum ?_)
  | ((with_reducible refine' go_EnumL ?h ?_); (case h => walk_at "h"))
  | (with_reducible refine' go_isX ?_)
  | (with_reducible refine' go_isXt ?_)
  | (with_reducible refine' go_gCons ?_))
local macro_rules | `(tactic| walk_at "pf") => `(tactic| first
  | exact putF_nil
  | exact putF_hit
  | (refine' putF_miss ?h ?k; (case h => decide +kernel); (case k => walk_at "pf")))
local macro_rules | `(tactic| walk_at "pk") => `(tactic| first
  | exact putK_nil
  | exact putK_hit (by (simp only [List.map_cons, List.map_nil]; decide +kernel))
  | (refine' putK_miss ?h ?k; (case h => decide +kernel); (case k => walk_at "pk")))
local macro_rules | `(tactic| walk_at "ix") => `(tactic| first
  | assumption
  | omega
  | (simp only [List.length_cons, List.length_nil, List.length_append, List.length_map, List.length_range, List.length_replicate, List.length_set] at *; omega))
local macro_rules | `(tactic| walk_at "pr") => `(tactic| first
  | assumption
  | decide
  | omega
  | exact rfl
  | (intro z; cases z; done))
local macro_rules | `(tactic| walk_at "hk") => `(tactic| first
  | assumption
  | exact seq' (by assumption) (by walk_at "sm"))
local macro_rules | `(tactic| walk_at "ty") => `(tactic| first
  | exact rfl
  | assumption
  | exact tyN_L (by walk_at "h")
  | exact tyN_T (by walk_at "h")
  | exact tyN_D (by walk_at "h"))
local macro_rules | `(tactic| walk_at "go") => `(tactic| repeat (walk_at "s"))
/-! ### words, rows, disks: what the program's own defs do -/
def isW : V → Bool
  | .int i => decide (0 ≤ i) && decide (i ≤ 999999999)
  | _ => false
def isR (xs : List V) : Bool := decide ((xs.length : Int) = 16) && xs.all isW
/-- a row of sixteen words -/
def GoodRow (row : List Int) : Prop := row.length = 16 ∧ ∀ z ∈ row, 0 ≤ z ∧ z ≤ 999999999
theorem GoodRow.isR {row : List Int} (h : GoodRow row) : isR (row.map V.int) = true := by
  unfold Bk.isR
  rw [Bool.and_eq_true]
  refine ⟨decide_eq_true (by rw [List.length_map, h.1]; rfl), List.all_eq_true.mpr fun y hy => ?_⟩
  obtain ⟨z, hz, rfl⟩ := List.mem_map.mp hy
  have := h.2 z hz
  simp [isW, this.1, this.2]
theorem good_zero : GoodRow (List.replicate 16 0) := ⟨by simp, fun z hz => by rw [List.eq_of_mem_replicate hz]; omega⟩
section
variable {K : PySem.W.Frag} {a : Ac} {H : Hp} {Q : VK} {E : XK} [F : Fc K a]
omit F
theorem p_is_word {x : V} {n : String} (h : tyN H x = some n) (q : Q (.bl (isW x)) H) : sp_is_word K a [x] H Q E := by
  refine in_is_word ?_
  unfold t_is_word
  cases x with
  | int i =>
    walk_at "go"
    refine go_dec (fun c => ?_) (fun c => ?_)
    all_goals walk_at "go"
    all_goals (simpa [isW, c] using q)
  | bl b => walk_at "go"; exact q
  | non => walk_at "go"; exact q
  | str s => walk_at "go"; exact q
  | ref p =>
    rcases kindR h with ⟨rfl, xs, e⟩ | ⟨rfl, xs, e⟩ | ⟨rfl, kvs, e⟩
    all_goals (walk_at "go"; exact q)
  | _ => cases h
theorem all_bls (xs : List V) : (xs.map isW).all id = xs.all isW := by rw [List.all_map]; rfl
theorem p_is_rowL {p : Addr} {xs : List V} (h : H p = some (.lst xs)) (hk : ∀ y ∈ xs, ∃ n, tyN H y = some n) (hz : xs.length ≤ 1000) (q : ∀ H', Same H H' → Q (.bl (isR xs)) H') : sp_is_row K a [.ref p] H Q E := by
  refine in_is_row ?_
  unfold t_is_row
  walk_at "go"
  refine go_dec (fun c => ?_) (fun c => ?_)
  all_goals walk_at "go"
  · refine lc_mapL (f := fun y => .bl (isW y)) h (by rw [sizeLine_eq]; omega) (fun i x H' Q' hx s q' => ?_) (fun D H2 hD s hd => ?_)
    · obtain ⟨n, e⟩ := hk x (List.mem_of_getElem? hx)
      walk_at "go"
      exact p_is_word (tyN_same s e) (q' _ (Same.refl _))
    · refine go_all (bs := xs.map isW) (by rw [hd, List.map_map]; rfl) ?_
      rw [all_bls]
      have := q _ s
      rwa [isR, decide_eq_true c, Bool.true_and] at this
  · have := q _ (Same.refl _)
    rwa [isR, decide_eq_false c, Bool.false_and] at this
/-- what is no list is no row -/
theorem p_is_rowN {x : V} {n : String} (h : tyN H x = some n) (hn : n ≠ "list") (q : Q (.bl false) H) : sp_is_row K a [x] H Q E := by
  refine in_is_row ?_
  unfold t_is_row
  cases x with
  | int i => walk_at "go"; exact q
  | bl b => walk_at "go"; exact q
  | non => walk_at "go"; exact q
  | str s => walk_at "go"; exact q
  | ref p =>
    rcases kindR h with ⟨rfl, xs, e⟩ | ⟨rfl, xs, e⟩ | ⟨rfl, kvs, e⟩
    · exact absurd rfl hn
    all_goals (walk_at "go"; exact q)
  | _ => cases h
/-- what a thing says as a row -/
def RowIs (H : Hp) (x : V) (ok : Option (List Int)) : Prop := (∃ p xs, x = .ref p ∧ H p = some (.lst xs) ∧ (∀ y ∈ xs, ∃ n, tyN H y = some n) ∧ xs.length ≤ 1000 ∧ ((∃ row, GoodRow row ∧ xs = row.map V.int ∧ ok = some row) ∨ (isR xs = false ∧ ok = none))) ∨ (∃ n, tyN H x = some n ∧ n ≠ "list" ∧ ok = none)
theorem RowIs.same {H' : Hp} {x : V} {ok : Option (List Int)} (h : RowIs H x ok) (s : Same H H') : RowIs H' x ok := by
  rcases h with ⟨p, xs, rfl, h, k, z, e⟩ | ⟨n, h, k, e⟩
  · exact .inl ⟨p, xs, rfl, s _ _ h, fun y hy => let ⟨n, e⟩ := k y hy; ⟨n, tyN_same s e⟩, z, e⟩
  · exact .inr ⟨n, tyN_same s h, k, e⟩
theorem RowIs.good {p : Addr} {row : List Int} (h : H p = some (.lst (row.map V.int))) (g : GoodRow row) : RowIs H (.ref p) (some row) :=
  .inl ⟨p, _, rfl, h, fun y hy => by obtain ⟨z, _, rfl⟩ := List.mem_map.mp hy; exact ⟨_, rfl⟩, by rw [List.length_map, g.1]; omega, .inl ⟨row, g, rfl, rfl⟩⟩
/-- a list of ints that is no row -/
theorem RowIs.bad {p : Addr} {row : List Int} (h : H p = some (.lst (row.map V.int))) (hz : row.length ≤ 1000) (g : isR (row.map V.int) = false) : RowIs H (.ref p) none :=
  .inl ⟨p, _, rfl, h, fun y hy => by obtain ⟨z, _, rfl⟩ := List.mem_map.mp hy; exact ⟨_, rfl⟩, by rw [List.length_map]; exact hz, .inr ⟨g, rfl⟩⟩
theorem p_need_row {x : V} {ok : Option (List Int)} (h : RowIs H x ok) (q : ∀ row, ok = some row → GoodRow row → ∀ p H', Same H H' → H p = none → H' p = some (.lst (row.map V.int)) → Q (.ref p) H') (b : ok = none → ∀ H', Same H H' → E (.ref a.BadRow) none H') : sp_need_row K a [x] H Q E := by
  refine in_need_row ?_
  unfold t_need_row
  rcases h with ⟨p, xs, rfl, h, k, z, ⟨row, g, rfl, rfl⟩ | ⟨g, rfl⟩⟩ | ⟨n, h, k, rfl⟩
  · walk_at "go"
    refine p_is_rowL h k z fun H' s => ?_
    rw [g.isR]
    walk_at "go"
    rename_i p2 H2 n2
    exact q row rfl g p2 H2 (s.trans n2.same) (s.free n2.free) n2.at
  · walk_at "go"
    refine p_is_rowL h k z fun H' s => ?_
    rw [g]
    walk_at "go"
    exact b rfl H' s
  · walk_at "go"
    refine p_is_rowN h k ?_
    walk_at "go"
    exact b rfl H (Same.refl _)
theorem p_empty_row (q : ∀ p H1, Same H H1 → H p = none → H1 p = some (.lst ((List.replicate 16 (0 : Int)).map V.int)) → Q (.ref p) H1) : sp_empty_row K a [] H Q E := by
  refine in_empty_row ?_
  unfold t_empty_row
  walk_at "go"
  rename_i p H1 n1 p2 H2 n2
  exact q p2 H2 (n1.same.trans n2.same) (n1.same.free n2.free) n2.at
/-- a count of blocks, a block of n -/
def isMany : V → Bool
  | .int i => decide (24 ≤ i) && decide (i ≤ 96)
  | _ => false
def isBlk (n : Nat) : V → Bool
  | .int i => decide (0 ≤ i) && decide (i < n)
  | _ => false
theorem p_is_many {x : V} {n : String} (h : tyN H x = some n) (q : Q (.bl (isMany x)) H) : sp_is_many K a [x] H Q E := by
  refine in_is_many ?_
  unfold t_is_many
  cases x with
  | int i =>
    walk_at "go"
    refine go_dec (fun c => ?_) (fun c => ?_)
    all_goals walk_at "go"
    all_goals (simpa [isMany, c] using q)
  | bl b => walk_at "go"; exact q
  | non => walk_at "go"; exact q
  | str s => walk_at "go"; exact q
  | ref p =>
    rcases kindR h with ⟨rfl, xs, e⟩ | ⟨rfl, xs, e⟩ | ⟨rfl, kvs, e⟩
    all_goals (walk_at "go"; exact q)
  | _ => cases h
/-- a disk as it stands -/
structure DiskAt (a : Ac) (H : Hp) (d r : Addr) (ps : List Addr) (R : List (List Int)) (done : Int) (left : V) : Prop where
  dd : ∃ dx, H d = some (.ins a.Disk dx [("rows", .ref r), ("done", .int done), ("left", left)])
  rr : H r = some (.lst (ps.map V.ref))
  len : ps.length = R.length
  row : ∀ (i : Nat) (p : Addr), ps[i]? = some p → ∃ row, R[i]? = some row ∧ H p = some (.lst (row.map V.int))
  many : 24 ≤ R.length ∧ R.length ≤ 96
  good : ∀ row ∈ R, GoodRow row
  left : left = .non ∨ ∃ k : Int, left = .int k
variable {d r : Addr} {ps : List Addr} {R : List (List Int)} {done : Int} {left : V}
theorem DiskAt.chg {H' : Hp} {S : List Addr} (h : DiskAt a H d r ps R done left) (c : Chg S H H') (hd : d ∉ S) (hr : r ∉ S) (hp : ∀ p ∈ ps, p ∉ S) : DiskAt a H' d r ps R done left :=
  ⟨let ⟨dx, e⟩ := h.dd; ⟨dx, c.at hd e⟩, c.at hr h.rr, h.len, fun i p e => let ⟨row, e1, e2⟩ := h.row i p e; ⟨row, e1, c.at (hp p (List.mem_of_getElem? e)) e2⟩, h.many, h.good, h.left⟩
theorem DiskAt.same {H' : Hp} (h : DiskAt a H d r ps R done left) (s : Same H H') : DiskAt a H' d r ps R done left := h.chg (S := []) (.of s) ni_nil ni_nil fun _ _ => ni_nil
/-- the row of a block -/
theorem DiskAt.at {i : Nat} (h : DiskAt a H d r ps R done left) (hi : i < R.length) : ∃ p row, ps[i]? = some p ∧ R[i]? = some row ∧ H p = some (.lst (row.map V.int)) ∧ GoodRow row := by
  have e : ps[i]? = some (ps[i]'(by rw [h.len]; exact hi)) := List.getElem?_eq_getElem _
  obtain ⟨row, e1, e2⟩ := h.row i _ e
  exact ⟨_, row, e, e1, e2, h.good row (List.mem_of_getElem? e1)⟩
/-- no place of the disk's rows is one of its own two -/
theorem DiskAt.apart (h : DiskAt a H d r ps R done left) : d ≠ r ∧ ∀ p ∈ ps, p ≠ d ∧ p ≠ r := by
  obtain ⟨dx, e⟩ := h.dd
  have hm := h.many
  refine ⟨ne_obj e h.rr (by simp), fun p hp => ?_⟩
  obtain ⟨i, hi⟩ := List.mem_iff_getElem?.mp hp
  obtain ⟨row, e1, e2⟩ := h.row i p hi
  have g := h.good row (List.mem_of_getElem? e1)
  refine ⟨ne_obj e2 e (by simp), ne_obj e2 h.rr fun z => ?_⟩
  have z1 : row.map V.int = ps.map V.ref := by injection z
  cases row with
  | nil => have := g.1; simp at this
  | cons x t =>
    cases ps with
    | nil => simp at z1
    | cons y u => simp at z1
/-- a list of ints is none of a disk's two places; an object that is no list of a row's kind is none of its rows -/
theorem DiskAt.neRow {p : Addr} {ns : List Int} (h : DiskAt a H d r ps R done left) (e : H p = some (.lst (ns.map V.int))) : p ≠ d ∧ p ≠ r := by
  obtain ⟨dx, e1⟩ := h.dd
  have hm := h.many
  refine ⟨ne_obj e e1 (by simp), ne_obj e h.rr fun z => ?_⟩
  have z1 : ns.map V.int = ps.map V.ref := by injection z
  have hl := h.len
  cases ps with
  | nil => simp at hl; omega
  | cons y u => cases ns <;> simp at z1
def NotInts (H : Hp) (b : Addr) : Prop := ∀ ns : List Int, ns ≠ [] → H b ≠ some (.lst (ns.map V.int))
theorem DiskAt.chg2 {H' : Hp} {S : List Addr} (h : DiskAt a H d r ps R done left) (c : Chg S H H') (hd : d ∉ S) (hr : r ∉ S) (hS : ∀ b ∈ S, NotInts H b) : DiskAt a H' d r ps R done left :=
  h.chg c hd hr fun p hp z => by
    obtain ⟨i, hi⟩ := List.mem_iff_getElem?.mp hp
    obtain ⟨row, e1, e2⟩ := h.row i p hi
    have g := (h.good row (List.mem_of_getElem? e1)).1
    exact hS p z row (by intro z; rw [z] at g; simp at g) e2
theorem NotInts.ins {b C dx : Addr} {fs : List (Str × V)} (h : H b = some (.ins C dx fs)) : NotInts H b := fun ns _ e => by rw [h] at e; simp at e
theorem NotInts.refs {b : Addr} {ps : List Addr} (h : H b = some (.lst (ps.map V.ref))) : NotInts H b := fun ns hn e => by
  rw [h] at e
  have z : ps.map V.ref = ns.map V.int := by injection e with e; injection e
  cases ns with
  | nil => exact hn rfl
  | cons x t => cases ps <;> simp at z
theorem NotInts.dict {b : Addr} {kvs : List (Key × V)} (h : H b = some (.dK kvs)) : NotInts H b := fun ns _ e => by rw [h] at e; simp at e
def NotTup (H : Hp) (b : Addr) : Prop := ∀ xs, H b ≠ some (.tup xs)
theorem NotTup.ins {b C dx : Addr} {fs : List (Str × V)} (h : H b = some (.ins C dx fs)) : NotTup H b := fun xs e => by rw [h] at e; simp at e
theorem NotTup.lst {b : Addr} {ys : List V} (h : H b = some (.lst ys)) : NotTup H b := fun xs e => by rw [h] at e; simp at e
theorem NotTup.dict {b : Addr} {kvs : List (Key × V)} (h : H b = some (.dK kvs)) : NotTup H b := fun xs e => by rw [h] at e; simp at e
theorem DiskAt.ownT (h : DiskAt a H d r ps R done left) : ∀ b ∈ [d, r], NotTup H b := fun b hb => by
  obtain ⟨dx, e⟩ := h.dd
  rcases List.mem_cons.mp hb with rfl | hb
  · exact .ins e
  · rw [List.mem_singleton.mp hb]; exact .lst h.rr
theorem DiskAt.own (h : DiskAt a H d r ps R done left) : ∀ b ∈ [d, r], NotInts H b := fun b hb => by
  obtain ⟨dx, e⟩ := h.dd
  rcases List.mem_cons.mp hb with rfl | hb
  · exact .ins e
  · rw [List.mem_singleton.mp hb]; exact .refs h.rr
end
section
variable {K : PySem.W.Frag} {a : Ac} {H : Hp} {Q : VK} {E : XK} [F : Fc K a] {d r : Addr} {ps : List Addr} {R : List (List Int)} {done : Int} {left : V}
theorem mk_Disk {n : Int} (hn : 24 ≤ n ∧ n ≤ 96) (q : ∀ d r ps H', Same H H' → H d = none → H r = none → (∀ p ∈ ps, H p = none) → DiskAt a H' d r ps (List.replicate n.toNat (List.replicate 16 0)) 0 .non → Q (.ref d) H') : MakeK a.Disk (sp_Disk_init K a) E Q [.int n] H := by
  refine go_MakeK fun dx H1 x H2 n1 n2 => ?_
  refine in_Disk_init ?_
  unfold t_Disk_init
  walk_at "go"
  refine p_is_many rfl ?_
  rw [show isMany (.int n) = true by simp [isMany, hn.1, hn.2]]
  walk_at "go"
  refine lc_newR (o := fun _ => .lst ((List.replicate 16 (0 : Int)).map V.int)) (by rw [sizeLine_eq]; omega) (fun i H' Q' hi s q' => ?_) (fun D ps H3 hD s hl w hd => ?_)
  · walk_at "go"
    exact p_empty_row fun p H1 s2 hp hp2 => q' p H1 s2 hp hp2
  · walk_at "go"
    rename_i H4 w4 H5 w5 H6 w6
    have sx : Same H H3 := n1.same.trans (n2.same.trans s)
    have xf : H x = none := n1.same.free n2.free
    have c6 : Chg [x] H3 H6 := ((Chg.wr w4 (by simp)).trans (Chg.wr w5 (by simp))).trans (Chg.wr w6 (by simp))
    have Df : H D = none := (n1.same.trans n2.same).free hD
    have xD : x ≠ D := ne_none hD n2.at
    have pf : ∀ p ∈ ps, H p = none := fun p hp => (n1.same.trans n2.same).free (w.free p hp)
    have px : ∀ p ∈ ps, p ≠ x := fun p hp e => by have := w.free p hp; rw [e, n2.at] at this; cases this
    refine ⟨rfl, q x D ps H6 (Chg.same (Chg.drop ((Chg.of sx).trans c6) xf)) xf Df pf ⟨⟨dx, w6.at⟩, c6.at (by simpa using Ne.symm xD) hd, by rw [hl]; simp, fun i p e => ?_, by simp; omega, fun row hr => ?_, .inl rfl⟩⟩
    · have hi : i < n.toNat := by have := (List.getElem?_eq_some_iff.mp e).1; omega
      exact ⟨_, by rw [List.getElem?_replicate, if_pos hi], c6.at (by simpa using px p (List.mem_of_getElem? e)) (w.at_ i p e)⟩
    · rw [List.eq_of_mem_replicate hr]; exact good_zero
theorem mk_DiskBad {x : V} {n : String} (h : tyN H x = some n) (hx : isMany x = false) (b : ∀ H', Same H H' → E (.ref a.BadDisk) none H') : MakeK a.Disk (sp_Disk_init K a) E Q [x] H := by
  refine go_MakeK fun dx H1 y H2 n1 n2 => ?_
  refine in_Disk_init ?_
  unfold t_Disk_init
  walk_at "go"
  refine p_is_many (tyN_same (n1.same.trans n2.same) h) ?_
  rw [hx]
  walk_at "go"
  exact b _ (n1.same.trans n2.same)
theorem p_blocks (h : DiskAt a H d r ps R done left) (q : Q (.int R.length) H) : sp_Disk_blocks K a [.ref d] H Q E := by
  refine in_Disk_blocks ?_
  unfold t_Disk_blocks
  obtain ⟨dx, e⟩ := h.dd
  have e2 := h.rr
  walk_at "go"
  rw [List.length_map, h.len]
  exact q
theorem p_writes (h : DiskAt a H d r ps R done left) (q : Q (.int done) H) : sp_Disk_writes K a [.ref d] H Q E := by
  refine in_Disk_writes ?_
  unfold t_Disk_writes
  obtain ⟨dx, e⟩ := h.dd
  walk_at "go"
  exact q
theorem p_need {x : V} {n : String} (h : DiskAt a H d r ps R done left) (hx : tyN H x = some n) (q : isBlk R.length x = true → Q .non H) (b : isBlk R.length x = false → E (.ref a.NoBlock) none H) : sp_Disk_need K a [.ref d, x] H Q E := by
  refine in_Disk_need ?_
  unfold t_Disk_need
  obtain ⟨dx, e⟩ := h.dd
  have e2 := h.rr
  have hl := h.len
  cases x with
  | int i =>
    walk_at "go"
    refine go_dec (fun c => ?_) (fun c => ?_)
    all_goals walk_at "go"
    · rw [List.length_map, hl]
      refine go_decN (fun c2 => ?_) (fun c2 => ?_)
      all_goals walk_at "go"
      · exact b (by simp [isBlk, c, c2])
      · exact q (by simp [isBlk, c, c2])
    · exact b (by simp [isBlk, c])
  | bl v => walk_at "go"; exact b rfl
  | non => walk_at "go"; exact b rfl
  | str s => walk_at "go"; exact b rfl
  | ref p =>
    rcases kindR hx with ⟨rfl, xs, e⟩ | ⟨rfl, xs, e⟩ | ⟨rfl, kvs, e⟩
    all_goals (walk_at "go"; exact b rfl)
  | _ => cases hx
theorem isBlk_of {n : Nat} {i : Int} (h : 0 ≤ i) (k : i < n) : isBlk n (.int i) = true := by simp [isBlk, h, k]
theorem isBlk_int {n : Nat} {x : V} (h : isBlk n x = true) : ∃ i : Int, x = .int i ∧ 0 ≤ i ∧ i < n := by
  cases x with
  | int i => exact ⟨i, rfl, by simpa [isBlk] using h⟩
  | _ => cases h
theorem p_read {i : Int} {row : List Int} (h : DiskAt a H d r ps R done left) (hi : 0 ≤ i) (hr : R[i.toNat]? = some row) (q : ∀ p H', Same H H' → H p = none → H' p = some (.lst (row.map V.int)) → Q (.ref p) H') : sp_Disk_read K a [.ref d, .int i] H Q E := by
  refine in_Disk_read ?_
  unfold t_Disk_read
  obtain ⟨dx, e⟩ := h.dd
  have e2 := h.rr
  have hlt : i.toNat < R.length := (List.getElem?_eq_some_iff.mp hr).1
  obtain ⟨p, row', f1, f2, f3, f4⟩ := h.at hlt
  rw [hr] at f2; cases f2
  walk_at "go"
  refine p_need h rfl (fun _ => ?_) (fun c => ?_)
  · walk_at "go"
    refine go_ixAt e2 hi (v := .ref p) (by rw [List.getElem?_map, f1]; rfl) ?_
    walk_at "go"
    rename_i p2 H2 n2
    exact q p2 H2 n2.same n2.free n2.at
  · have : isBlk R.length (.int i) = true := by simp [isBlk, hi]; omega
    rw [this] at c; cases c
theorem p_readBad {x : V} {n : String} (h : DiskAt a H d r ps R done left) (hx : tyN H x = some n) (hb : isBlk R.length x = false) (b : E (.ref a.NoBlock) none H) : sp_Disk_read K a [.ref d, x] H Q E := by
  refine in_Disk_read ?_
  unfold t_Disk_read
  obtain ⟨dx, e⟩ := h.dd
  walk_at "go"
  refine p_need h hx (fun c => ?_) (fun c => b)
  rw [hb] at c; cases c
/-- what is left behind a write -/
def lessV : V → V
  | .int k => .int (k - 1)
  | x => x
theorem p_write {x y : V} {n : String} {ok : Option (List Int)} (h : DiskAt a H d r ps R done left) (hx : tyN H x = some n) (hy : RowIs H y ok)
    (q : ∀ i row, x = .int i → 0 ≤ i → i < R.length → ok = some row → left ≠ .int 0 → ∀ p H', Chg [d, r] H H' → H p = none → DiskAt a H' d r (ps.set i.toNat p) (R.set i.toNat row) (done + 1) (lessV left) → Q .non H')
    (b1 : isBlk R.length x = false → E (.ref a.NoBlock) none H) (b2 : isBlk R.length x = true → ok = none → ∀ H', Same H H' → E (.ref a.BadRow) none H')
    (b3 : isBlk R.length x = true → ok ≠ none → left = .int 0 → ∀ H', Same H H' → E (.ref a.Stopped) none H') : sp_Disk_write K a [.ref d, x, y] H Q E := by
  refine in_Disk_write ?_
  unfold t_Disk_write
  have hap := h.apart
  obtain ⟨dx, e⟩ := h.dd
  have e2 := h.rr
  have hl := h.len
  walk_at "go"
  refine p_need h hx (fun c => ?_) b1
  obtain ⟨i, rfl, i0, i1⟩ := isBlk_int c
  have ndr := hap.1
  have hix : 0 ≤ i ∧ i < ((ps.map V.ref).length : Nat) := ⟨i0, by rw [List.length_map]; omega⟩
  walk_at "go"
  refine p_need_row hy (fun row eo g p H1 s1 hp hp1 => ?_) (fun eo H1 s1 => b2 c eo H1 s1)
  have h1 := h.same s1
  have fin : ∀ {H2 : Hp} (left2 : V), left2 = lessV left → H2 d = some (.ins a.Disk dx [("rows", .ref r), ("done", .int done), ("left", left2)]) → Chg [d, r] H1 H2 → H2 r = some (.lst (ps.map V.ref)) → left ≠ .int 0 →
      (∀ H3, Wr H2 r (.lst ((ps.map V.ref).set i.toNat (.ref p))) H3 → ∀ H4, Wr H3 d (.ins a.Disk dx [("rows", .ref r), ("done", .int (done + 1)), ("left", left2)]) H4 → Q .non H4) := by
    intro H2 left2 el hd2 c2 hr2 nl H3 w3 H4 w4
    subst el
    have c4 : Chg [d, r] H1 H4 := (c2.trans (Chg.wr w3 (by simp))).trans (Chg.wr w4 (by simp))
    have pd : p ≠ d := fun z => by rw [z, e] at hp; cases hp
    have pr : p ≠ r := fun z => by rw [z, e2] at hp; cases hp
    refine q i row rfl i0 i1 eo nl p H4 ((Chg.of s1).trans c4) hp ⟨⟨dx, w4.at⟩, w4.old (Ne.symm hap.1) (by rw [w3.at, List.map_set]), by simp [hl], fun j p' ej => ?_, by simpa using h.many, fun row' hr' => ?_, ?_⟩
    · by_cases hj : i.toNat = j
      · subst hj
        rw [List.getElem?_set_self (by omega)] at ej
        cases ej
        exact ⟨row, by rw [List.getElem?_set_self (by omega)], c4.at (by simp [pd, pr]) hp1⟩
      · rw [List.getElem?_set_ne hj] at ej
        obtain ⟨row', f1, f2⟩ := h1.row j p' ej
        have z := hap.2 p' (List.mem_of_getElem? ej)
        exact ⟨row', by rw [List.getElem?_set_ne hj]; exact f1, c4.at (by simp [z.1, z.2]) f2⟩
    · rcases List.mem_or_eq_of_mem_set hr' with z | z
      · exact h.good _ z
      · rw [z]; exact g
    · rcases h.left with z | ⟨k, z⟩
      · rw [z]; exact .inl rfl
      · rw [z]; exact .inr ⟨_, rfl⟩
  rcases h.left with z | ⟨k, z⟩
  · subst z
    walk_at "go"
    refine go_eqSc rfl ?_
    walk_at "go"
    rename_i H2 w2 H3 w3
    exact fin .non rfl (s1 _ _ e) Chg.refl (s1 _ _ e2) (by simp) H2 w2 H3 w3
  · subst z
    walk_at "go"
    refine go_dec (fun c0 => ?_) (fun c0 => ?_)
    · walk_at "go"
      exact b3 c (by rw [eo]; simp) (by rw [c0]) H1 s1
    · walk_at "go"
      rename_i H2 w2 H3 w3 H4 w4
      exact fin (.int (k - 1)) rfl w2.at (Chg.wr w2 (by simp)) (w2.old (Ne.symm hap.1) (s1 _ _ e2)) (by simpa using c0) H3 w3 H4 w4
end
theorem tyN_chg {H H' : Hp} {S : List Addr} {x : V} {n : String} (h : tyN H x = some n) (c : Chg S H H') (k : ∀ p, x = .ref p → p ∉ S) : tyN H' x = some n := by
  cases x with
  | ref p =>
    rcases kindR h with ⟨rfl, xs, e⟩ | ⟨rfl, xs, e⟩ | ⟨rfl, kvs, e⟩
    · exact tyN_L (c.at (k p rfl) e)
    · exact tyN_T (c.at (k p rfl) e)
    · exact tyN_D (c.at (k p rfl) e)
  | _ => exact h
/-! ### the law's own rows -/
structure RowsAt (H : Hp) (L : Addr) (ls : List Addr) (R : List (List Int)) : Prop where
  rr : H L = some (.lst (ls.map V.ref))
  len : ls.length = R.length
  row : ∀ (i : Nat) (p : Addr), ls[i]? = some p → ∃ row, R[i]? = some row ∧ row ≠ [] ∧ H p = some (.lst (row.map V.int))
section
variable {H H' : Hp} {L : Addr} {ls : List Addr} {R : List (List Int)}
theorem RowsAt.chg {S : List Addr} (h : RowsAt H L ls R) (c : Chg S H H') (hd : L ∉ S) (hS : ∀ b ∈ S, NotInts H b) : RowsAt H' L ls R :=
  ⟨c.at hd h.rr, h.len, fun i p e => let ⟨row, e1, e2, e3⟩ := h.row i p e; ⟨row, e1, e2, c.at (fun z => hS p z row e2 e3) e3⟩⟩
theorem RowsAt.same (h : RowsAt H L ls R) (s : Same H H') : RowsAt H' L ls R := h.chg (S := []) (.of s) ni_nil fun _ z => absurd z ni_nil
theorem RowsAt.at {i : Nat} (h : RowsAt H L ls R) (hi : i < R.length) : ∃ p row, ls[i]? = some p ∧ R[i]? = some row ∧ row ≠ [] ∧ H p = some (.lst (row.map V.int)) := by
  have e : ls[i]? = some (ls[i]'(by rw [h.len]; exact hi)) := List.getElem?_eq_getElem _
  obtain ⟨row, e1, e2, e3⟩ := h.row i _ e
  exact ⟨_, row, e, e1, e2, e3⟩
/-- a row of it replaced by another list -/
theorem RowsAt.put {i : Nat} {p : Addr} {row : List Int} (h : RowsAt H L ls R) (w : Wr H L (.lst ((ls.map V.ref).set i (.ref p))) H') (hp : H p = some (.lst (row.map V.int))) (hr : row ≠ []) : RowsAt H' L (ls.set i p) (R.set i row) := by
  have no : ∀ {q : Addr} {ns : List Int}, ns ≠ [] → H q = some (.lst (ns.map V.int)) → q ≠ L := fun hn e z => by rw [z] at e; exact NotInts.refs h.rr _ hn e
  refine ⟨by rw [w.at, List.map_set], by simp [h.len], fun j q ej => ?_⟩
  by_cases hj : i = j
  · subst hj
    have hlt : i < ls.length := by have := (List.getElem?_eq_some_iff.mp ej).1; simpa using this
    rw [List.getElem?_set_self hlt] at ej
    cases ej
    exact ⟨row, by rw [List.getElem?_set_self (by rw [← h.len]; exact hlt)], hr, w.old (no hr hp) hp⟩
  · rw [List.getElem?_set_ne hj] at ej
    obtain ⟨row', f1, f2, f3⟩ := h.row j q ej
    exact ⟨row', by rw [List.getElem?_set_ne hj]; exact f1, f2, w.old (no f2 f3) f3⟩
end
end Bk

namespace Bk
open PySem L2 PyProof.Rows
/-! our own short tactics: h: what stands at a place; ne: two places; sm: what stood stands; z: a size; s: a step; go: steps -/
local macro_rules | `(tactic| walk_at "h") => `(tactic| first
  | assumption
  | exact New.at (by assumption)
  | exact Wr.at (by assumption)
  | (refine' New.old (by assumption) ?_; walk_at "h")
  | (refine' Same.at (by assumption) ?_; walk_at "h")
  | (refine' Wr.old (by assumption) ?_ ?_; walk_at "ne"; walk_at "h")
  | (refine' Chg.at (by assumption) ?_ ?_; walk_at "ni"; walk_at "h"))
local macro_rules | `(tactic| walk_at "ni") => `(tactic| first
  | exact ni_nil
  | assumption
  | (refine' ni_cons ?_ ?_; walk_at "ne"; walk_at "ni"))
local macro_rules | `(tactic| walk_at "ne") => `(tactic| first
  | assumption
  | exact Ne.symm (by assumption)
  | exact New.ne (by assumption) (by walk_at "h")
  | exact ne_none (by assumption) (by walk_at "h")
  | exact Ne.symm (ne_none (by assumption) (by walk_at "h"))
  | exact Ne.symm (New.ne (by assumption) (by walk_at "h")))
local macro_rules | `(tactic| walk_at "sm") => `(tactic| first
  | exact Same.refl _
  | assumption
  | (refine' Same.trans ?_ (New.same (by assumption)); walk_at "sm")
  | (refine' Same.trans ?_ (by assumption : Same _ _); walk_at "sm"))
local macro_rules | `(tactic| walk_at "z") => `(tactic| first
  | assumption
  | (rw [PySem.sizeLine_eq]; omega)
  | (rw [PySem.sizeLine_eq]; simp only [List.length_cons, List.length_nil, List.length_append, List.length_map, List.length_range, List.length_replicate, len_cut]; omega)
  | (rw [PySem.sizeLine_eq]; simp only [List.length_cons, List.length_nil, List.length_append, List.length_map, List.length_range, List.length_replicate, len_cut] at *; omega))
local macro_rules | `(tactic| walk_at "s") => `(tactic| first
  | ((with_reducible refine' go_var ?h ?_); (case h => exact rfl))
  | (with_reducible refine' go_c ?_)
  | (with_reducible refine' go_op ?_)
  | (with_reducible refine' go_un ?_)
  | (with_reducible refine' go_rU ?_)
  | (with_reducible refine' go_seq ?_)
  | (with_reducible refine' go_ret ?_)
  | (with_reducible refine' go_retN ?_)
  | (with_reducible refine' go_next ?_)
  | (with_reducible refine' go_drop ?_)
  | (with_reducible refine' go_asg ?_)
  | ((with_reducible refine' go_name2 ?h ?_); (case h => (simp only [List.set_cons_zero, List.set_cons_succ]; exact rfl)))
  | ((with_reducible refine' go_name2 ?h ?_); (case h => exact rfl))
  | (with_reducible refine' go_ifS ?_)
  | (with_reducible refine' go_blk ?_)
  | (with_reducible refine' go_test ?_)
  | (with_reducible refine' go_tB ?_)
  | (with_reducible refine' go_and ?_)
  | (with_reducible refine' go_or ?_)
  | (with_reducible refine' go_not ?_)
  | (with_reducible refine' go_andV ?_)
  | (with_reducible refine' go_orV ?_)
  | (with_reducible refine' go_notV ?_)
  | (with_reducible refine' go_if ?_)
  | (with_reducible refine' go_chain ?_)
  | (with_reducible refine' iteT ?_)
  | (with_reducible refine' iteF ?_)
  | ((with_reducible refine' go_Td ?h ?_); (case h => walk_at "pr"))
  | ((with_reducible refine' go_Fd ?h ?_); (case h => walk_at "pr"))
  | ((with_reducible refine' go_Tn ?h ?_); (case h => walk_at "pr"))
  | ((with_reducible refine' go_Fn ?h ?_); (case h => walk_at "pr"))
  | ((with_reducible refine' go_T ?h ?_); (case h => (first | decide | assumption | exact rfl)))
  | ((with_reducible refine' go_F ?h ?_); (case h => (first | decide | assumption | exact rfl)))
  | (with_reducible refine' go_nil ?_)
  | (with_reducible refine' go_cons ?_)
  | (with_reducible refine' go_tLst ?_)
  | (with_reducible refine' go_tTup ?_)
  | ((with_reducible refine' go_LstK ?h ?_); (case h => walk_at "z"); intro p H1 n1)
  | ((with_reducible refine' go_TupK ?h ?_); (case h => walk_at "z"); intro p H1 n1)
  | (with_reducible refine' go_addI ?_)
  | ((with_reducible refine' go_addL ?h ?k ?z ?_); (case h => walk_at "h"); (case k => walk_at "h"); (case z => walk_at "z"); intro p H1 n1)
  | (with_reducible refine' go_sub ?_)
  | ((with_reducible refine' go_mulI ?h ?_); (case h => (unfold CMul; omega)))
  | ((with_reducible refine' go_mulL ?h ?k ?_); (case h => walk_at "h"); (case k => (refine ⟨by omega, by omega, ?_⟩; walk_at "z")); intro p H1 n1)
  | ((with_reducible refine' go_div ?h ?_); (case h => (unfold CDiv; omega)))
  | ((with_reducible refine' go_mod ?h ?_); (case h => omega))
  | (with_reducible refine' go_p109 ?_)
  | (with_reducible refine' go_p1020 ?_)
  | ((with_reducible refine' go_pow ?h ?_); (case h => (unfold CPow; omega)))
  | (with_reducible refine' go_lt ?_)
  | (with_reducible refine' go_le ?_)
  | (with_reducible refine' go_gt ?_)
  | (with_reducible refine' go_ge ?_)
  | (with_reducible refine' go_eqI ?_)
  | (with_reducible refine' go_eqB ?_)
  | (with_reducible refine' go_eqS ?_)
  | (with_reducible refine' go_neI ?_)
  | (with_reducible refine' go_neB ?_)
  | (with_reducible refine' go_neS ?_)
  | (with_reducible refine' go_isN ?_)
  | (with_reducible refine' go_isNotN ?_)
  | (with_reducible refine' go_isB ?_)
  | (with_reducible refine' go_isNotB ?_)
  | (with_reducible refine' go_sl ?_)
  | (with_reducible refine' go_noPart ?_)
  | (with_reducible refine' go_part ?_)
  | (with_reducible refine' go_intK ?_)
  | ((with_reducible refine' go_slL ?h ?_); (case h => walk_at "h"); intro p H1 n1)
  | ((with_reducible refine' go_ixL ?h ?k ?_); (case h => walk_at "h"); (case k => exact rfl))
  | ((with_reducible refine' go_ixT ?h ?k ?_); (case h => walk_at "h"); (case k => exact rfl))
  | ((with_reducible refine' go_slW ?h ?_); (case h => walk_at "h"))
  | (with_reducible refine' go_bm ?_)
  | (with_reducible refine' go_bm0 ?_)
  | ((with_reducible refine' go_bmL ?h ?_); (case h => walk_at "h"))
  | ((with_reducible refine' go_append ?h ?k ?_); (case h => walk_at "h"); (case k => walk_at "z"); intro H1 n1)
  | ((with_reducible refine' go_extend ?h ?k ?z ?_); (case h => walk_at "h"); (case k => walk_at "h"); (case z => walk_at "z"); intro H1 n1)
  | ((with_reducible refine' go_clear ?h ?_); (case h => walk_at "h"); intro H1 n1)
  | ((with_reducible refine' go_dnew ?_); intro p H1 n1)
  | (with_reducible refine' go_cb ?_)
  | (with_reducible refine' go_callS ?_)
  | (with_reducible refine' go_call0 ?_)
  | ((with_reducible refine' go_lenL ?h ?_); (case h => walk_at "h"))
  | ((with_reducible refine' go_lenT ?h ?_); (case h => walk_at "h"))
  | ((with_reducible refine' go_lenK ?h ?_); (case h => walk_at "hk"))
  | ((with_reducible refine' go_listL ?h ?_); (case h => walk_at "h"); intro p H1 n1)
  | ((with_reducible refine' go_listT ?h ?_); (case h => walk_at "h"); intro p H1 n1)
  | ((with_reducible refine' go_tupleL ?h ?_); (case h => walk_at "h"); intro p H1 n1)
  | (with_reducible refine' go_intI ?_)
  | (with_reducible refine' go_intB ?_)
  | (with_reducible refine' go_abs ?_)
  | (with_reducible refine' go_min2 ?_)
  | (with_reducible refine' go_max2 ?_)
  | ((with_reducible refine' go_isi ?h ?k ?_); (case h => walk_at "ty"); (case k => exact kit_bb (by decide) (by decide)))
  | (with_reducible refine' go_lc ?_)
  | (with_reducible refine' go_for ?_)
  | (with_reducible refine' go_seqP ?_)
  | ((with_reducible refine' go_seqL ?h ?_); (case h => walk_at "h"))
  | ((with_reducible refine' go_seqT ?h ?_); (case h => walk_at "h"))
  | (with_reducible refine' go_seqS ?_)
  | (with_reducible refine' go_rng1 ?_)
  | (with_reducible refine' go_rng2 ?_)
  | ((with_reducible refine' go_rng1K ?h ?_); (case h => omega))
  | ((with_reducible refine' go_rng2K ?h ?_); (case h => omega))
  | (with_reducible refine' go_raise ?_)
  | ((with_reducible refine' go_tupG ?h ?k ?_); (case h => walk_at "h"); (case k => exact rfl))
  | ((with_reducible refine' go_lstG ?h ?k ?_); (case h => walk_at "h"); (case k => exact rfl))
  | (with_reducible refine' go_gNil ?_)
  | (with_reducible refine' go_tryAs ?_)
  | (with_reducible refine' go_tryMany1 ?_)
  | (with_reducible refine' go_tryMany2 ?_)
  | (with_reducible refine' go_WM ?_)
  | ((with_reducible refine' go_asT ?_); intro e he)
  | (with_reducible refine' go_asF ?_)
  | ((with_reducible refine' go_manyT ?_); intro e he)
  | (with_reducible refine' go_manyF ?_)
  | (with_reducible refine' go_manyN ?_)
  | (with_reducible refine' go_fld ?_)
  | ((with_reducible refine' go_FldK ?h ?c ?n ?l ?_); (case h => walk_at "h"); (case c => infer_instance); (case n => infer_instance); (case l => exact rfl))
  | (with_reducible refine' go_sfld ?_)
  | ((with_reducible refine' go_SFldK ?h ?c ?n ?l ?e ?_); (case h => walk_at "h"); (case c => infer_instance); (case n => infer_instance); (case l => exact Nat.le_of_ble_eq_true rfl); (case e => walk_at "pf"); intro H1 n1)
  | (with_reducible refine' go_meth ?_)
  | ((with_reducible refine' go_MethK 0 ?h ?l ?e ?_); (case h => walk_at "h"); (case l => exact rfl); (case e => exact rfl))
  | ((with_reducible refine' go_MethK 1 ?h ?l ?e ?_); (case h => walk_at "h"); (case l => exact rfl); (case e => exact rfl))
  | ((with_reducible refine' go_MethK 2 ?h ?l ?e ?_); (case h => walk_at "h"); (case l => exact rfl); (case e => exact rfl))
  | (with_reducible refine' go_make ?_)
  | (with_reducible refine' go_callX ?_)
  | (with_reducible refine' go_methX ?_)
  | ((with_reducible refine' go_MethXK ?h ?l ?_); (case h => walk_at "h"); (case l => exact rfl))
  | (with_reducible refine' go_dget ?_)
  | ((with_reducible refine' go_DGetS ?h ?l ?_); (case h => walk_at "h"); (case l => exact rfl))
  | (with_reducible refine' go_dput ?_)
  | ((with_reducible refine' go_DPutS ?h ?l ?e ?_); (case h => walk_at "h"); (case l => exact Nat.le_of_ble_eq_true rfl); (case e => walk_at "pk"); intro H1 n1)
  | ((with_reducible refine' go_disp ?_); intro p H1 n1)
  | (with_reducible refine' go_pairs ?_)
  | (with_reducible refine' go_pairs0 ?_)
  | ((with_reducible refine' go_DispS ?h ?e ?l ?k ?j ?m ?_); (case h => walk_at "h"); (case e => exact rfl); (case l => exact Nat.le_of_ble_eq_true rfl); (case k => (simp only [unS]; exact rfl)); (case j => (simp only [List.map_cons, List.map_nil]; exact rfl)); (case m => decide +kernel); intro H1 n1)
  | (with_reducible refine' go_par ?_)
  | ((with_reducible refine' go_ParK ?h ?_); (case h => (simp only [List.set_cons_zero, List.set_cons_succ]; exact rfl)))
  | (with_reducible refine' go_sub_ ?_)
  | ((with_reducible refine' go_setLi ?h ?k ?_); (case h => walk_at "h"); (case k => walk_at "ix"); intro H1 n1)
  | (with_reducible refine' go_listY ?_)
  | ((with_reducible refine' go_listYL ?h ?_); (case h => walk_at "h"))
  | (with_reducible refine' go_bmS ?_)
  | (with_reducible refine' go_ckw ?_)
  | ((with_reducible refine' go_maxD ?h ?_); (case h => walk_at "h"))
  | (with_reducible refine' go_listR ?_)
  | (with_reducible refine' go_rg2 ?_)
  | (with_reducible refine' go_Rg2K ?_)
  | (with_reducible refine' go_rg1 ?_)
  | (with_reducible refine' go_Rg1K ?_)
  | ((with_reducible refine' go_ListRK ?h ?_); (case h => omega); intro p H1 n1)
  | (with_reducible refine' go_enum ?_)
  | ((with_reducible refine' go_EnumL ?h ?_); (case h => walk_at "h"))
  | (with_reducible refine' go_isX ?_)
  | (with_reducible refine' go_isXt ?_)
  | (with_reducible refine' go_gCons ?_))
local macro_rules | `(tactic| walk_at "pf") => `(tactic| first
  | exact putF_nil
  | exact putF_hit
  | (refine' putF_miss ?h ?k; (case h => decide +kernel); (case k => walk_at "pf")))
local macro_rules | `(tactic| walk_at "pk") => `(tactic| first
  | exact putK_nil
  | exact putK_hit (by (simp only [List.map_cons, List.map_nil]; decide +kernel))
  | (refine' putK_miss ?h ?k; (case h => decide +kernel); (case k => walk_at "pk")))
local macro_rules | `(tactic| walk_at "ix") => `(tactic| first
  | assumption
  | omega
  | (simp only [List.length_cons, List.length_nil, List.length_append, List.length_map, List.length_range, List.length_replicate, List.length_set] at *; omega))
local macro_rules | `(tactic| walk_at "pr") => `(tactic| first
  | assumption
  | decide
  | omega
  | exact rfl
  | (intro z; cases z; done))
local macro_rules | `(tactic| walk_at "hk") => `(tactic| first
  | assumption
  | exact seq' (by assumption) (by walk_at "sm"))
local macro_rules | `(tactic| walk_at "ty") => `(tactic| first
  | exact rfl
  | assumption
  | exact tyN_L (by walk_at "h")
  | exact tyN_T (by walk_at "h")
  | exact tyN_D (by walk_at "h"))
local macro_rules | `(tactic| walk_at "go") => `(tactic| repeat (walk_at "s"))
theorem Ent.chg {H H' : Hp} {S : List Addr} {ts qs : List Addr} {prs : List (Int × List Int)} (h : Ent H ts qs prs) (c : Chg S H H') (hS : ∀ b ∈ S, NotInts H b ∧ NotTup H b) (hr : ∀ p ∈ prs, p.2 ≠ []) : Ent H' ts qs prs :=
  ⟨h.lt, h.lq, fun i b row e => let ⟨t, q, e1, e2, e3, e4⟩ := h.at_ i b row e; ⟨t, q, e1, e2, c.at (fun z => (hS t z).2 _ e3) e3, c.at (fun z => (hS q z).1 row (hr _ (List.mem_of_getElem? e)) e4) e4⟩⟩
/-! ### writes, one behind the other -/
def lv : Option Nat → V
  | none => .non
  | some k => .int k
def less (k : Option Nat) (n : Nat) : Option Nat := k.map (· - n)
def applyW (ws : List (Nat × List Int)) (R : List (List Int)) : List (List Int) := ws.foldl (fun R w => R.set w.1 w.2) R
theorem applyW_len (ws : List (Nat × List Int)) : ∀ R, (applyW ws R).length = R.length := by
  induction ws with
  | nil => intro R; rfl
  | cons w ws ih => intro R; show (applyW ws _).length = _; rw [ih, List.length_set]
theorem applyW_app (ws vs : List (Nat × List Int)) (R : List (List Int)) : applyW (ws ++ vs) R = applyW vs (applyW ws R) := List.foldl_append ..
theorem applyW_ne {n : Nat} (ws : List (Nat × List Int)) : ∀ (R : List (List Int)), (∀ w ∈ ws, w.1 ≠ n) → (applyW ws R)[n]? = R[n]? := by
  induction ws with
  | nil => intro R _; rfl
  | cons w ws ih =>
    intro R h
    show (applyW ws _)[n]? = _
    rw [ih _ fun v hv => h v (List.mem_cons_of_mem _ hv), List.getElem?_set_ne (h w List.mem_cons_self)]
/-- a disk, none of whose rows stands at a place of T -/
structure DkT (a : Ac) (T : List Addr) (H : Hp) (d r : Addr) (ps : List Addr) (R : List (List Int)) (done : Int) (k : Option Nat) : Prop extends DiskAt a H d r ps R done (lv k) where
  out : ∀ p ∈ ps, p ∉ T
  ex : ∀ t ∈ T, t ∉ [d, r] ∧ ∃ u, H t = some u
def DkEx (a : Ac) (T : List Addr) (H : Hp) (d r : Addr) (R : List (List Int)) (done : Int) (k : Option Nat) : Prop := ∃ ps, DkT a T H d r ps R done k
theorem DkT.chg' {a : Ac} {T : List Addr} {H H' : Hp} {d r : Addr} {ps ps' : List Addr} {R R' : List (List Int)} {done done' : Int} {k k' : Option Nat} (h : DkT a T H d r ps R done k) (c : Chg [d, r] H H') (e : DiskAt a H' d r ps' R' done' (lv k')) (o : ∀ p ∈ ps', p ∉ T) : DkT a T H' d r ps' R' done' k' :=
  ⟨e, o, fun t ht => let ⟨n, u, e⟩ := h.ex t ht; ⟨n, u, c.at n e⟩⟩
structure DoesW (a : Ac) (T : List Addr) (d r : Addr) (ws : List (Nat × List Int)) (k : Option Nat) (R : List (List Int)) (done : Int) (H : Hp) (ok stop : Hp → Prop) : Prop where
  ok : (∀ n, k = some n → ws.length ≤ n) → ∀ H', Chg [d, r] H H' → DkEx a T H' d r (applyW ws R) (done + ws.length) (less k ws.length) → ok H'
  stop : ∀ n, k = some n → n < ws.length → ∀ H', Chg [d, r] H H' → DkEx a T H' d r (applyW (ws.take n) R) (done + n) (some 0) → stop H'
section
variable {a : Ac} {T : List Addr} {d r : Addr} {ws vs : List (Nat × List Int)} {k : Option Nat} {R : List (List Int)} {done : Int} {H H' : Hp} {ok stop : Hp → Prop}
theorem DoesW.chg (h : DoesW a T d r ws k R done H ok stop) (c : Chg [d, r] H H') : DoesW a T d r ws k R done H' ok stop := ⟨fun q H2 c2 => h.ok q H2 (c.trans c2), fun n e hn H2 c2 => h.stop n e hn H2 (c.trans c2)⟩
theorem DoesW.same (h : DoesW a T d r ws k R done H ok stop) (s : Same H H') : DoesW a T d r ws k R done H' ok stop := h.chg (.of s)
theorem DoesW.imp {ok' stop' : Hp → Prop} (h : DoesW a T d r ws k R done H ok stop) (f : ∀ H, ok H → ok' H) (g : ∀ H, stop H → stop' H) : DoesW a T d r ws k R done H ok' stop' := ⟨fun q H2 c2 e => f _ (h.ok q H2 c2 e), fun n e hn H2 c2 e2 => g _ (h.stop n e hn H2 c2 e2)⟩
theorem DoesW.nil (h : DoesW a T d r [] k R done H ok stop) (e : DkEx a T H d r R done k) : ok H := by
  refine h.ok (fun n _ => Nat.zero_le _) H .refl ?_
  have e1 : less k 0 = k := by cases k <;> rfl
  simpa [applyW, e1] using e
theorem DoesW.cons {b : Nat} {row : List Int} (h : DoesW a T d r ((b, row) :: ws) k R done H ok stop) (nk : k ≠ some 0) (c : Chg [d, r] H H') : DoesW a T d r ws (less k 1) (R.set b row) (done + 1) H' ok stop := by
  refine ⟨fun q H2 c2 e => h.ok (fun n en => ?_) H2 (c.trans c2) ?_, fun n en hn H2 c2 e => ?_⟩
  · subst en
    have := q (n - 1) rfl
    have n0 : n ≠ 0 := fun z => nk (by rw [z])
    simp; omega
  · have e1 : less (less k 1) ws.length = less k ((b, row) :: ws).length := by
      cases k with
      | none => rfl
      | some n => show some (n - 1 - ws.length) = some (n - (ws.length + 1)); congr 1; omega
    have e2 : done + 1 + (ws.length : Int) = done + (((b, row) :: ws).length : Nat) := by simp; omega
    rw [← e1, ← e2]
    exact e
  · cases k with
    | none => cases en
    | some m =>
      have em : m - 1 = n := Option.some.inj en
      have m0 : m ≠ 0 := fun z => nk (by rw [z])
      refine h.stop m rfl (by simp; omega) H2 (c.trans c2) ?_
      rw [show m = n + 1 by omega]
      show DkEx a T H2 d r (applyW (ws.take n) (R.set b row)) (done + ((n + 1 : Nat) : Int)) (some 0)
      rw [show done + ((n + 1 : Nat) : Int) = done + 1 + (n : Int) by omega]
      exact e
theorem DoesW.now (h : DoesW a T d r ws k R done H ok stop) (hk : k = some 0) (hw : ws ≠ []) (e : DkEx a T H d r R done k) : stop H := by
  subst hk
  refine h.stop 0 rfl ?_ H .refl ?_
  · cases ws with
    | nil => exact absurd rfl hw
    | cons _ _ => simp
  · simpa [applyW] using e
/-- a first part, then a second -/
theorem DoesW.split (h : DoesW a T d r (ws ++ vs) k R done H ok stop) : DoesW a T d r ws k R done H (fun H1 => DoesW a T d r vs (less k ws.length) (applyW ws R) (done + ws.length) H1 ok stop ∧ DkEx a T H1 d r (applyW ws R) (done + ws.length) (less k ws.length)) stop := by
  refine ⟨fun q H1 c1 e1 => ⟨⟨fun q2 H2 c2 e2 => h.ok (fun n en => ?_) H2 (c1.trans c2) ?_, fun n en hn H2 c2 e2 => ?_⟩, e1⟩, fun n en hn H1 c1 e1 => h.stop n en (by simp; omega) H1 c1 ?_⟩
  · have := q n en
    subst en
    have := q2 (n - ws.length) rfl
    simp; omega
  · have e3 : less (less k ws.length) vs.length = less k (ws ++ vs).length := by
      cases k with
      | none => rfl
      | some n => show some (n - ws.length - vs.length) = some (n - (ws ++ vs).length); congr 1; simp; omega
    rw [← e3, applyW_app, show done + (((ws ++ vs).length : Nat) : Int) = done + ws.length + vs.length by simp; omega]
    exact e2
  · cases k with
    | none => cases en
    | some m =>
      have em : m - ws.length = n := Option.some.inj en
      have := q m rfl
      refine h.stop m rfl (by simp; omega) H2 (c1.trans c2) ?_
      rw [show m = ws.length + n by omega, List.take_length_add_append, applyW_app, show done + ((ws.length + n : Nat) : Int) = done + ws.length + n by omega]
      exact e2
  · rw [List.take_append_of_le_length (by omega)]
    exact e1
end
section
variable {K : PySem.W.Frag} {a : Ac} {T : List Addr} {H : Hp} {Q : VK} {E : XK} [F : Fc K a] {d r : Addr} {ps : List Addr} {R : List (List Int)} {done : Int} {k : Option Nat} {ws : List (Nat × List Int)} {ok stop : Hp → Prop}
omit F in
theorem lv_less {k : Option Nat} (h : k ≠ some 0) : lessV (lv k) = lv (less k 1) := by
  cases k with
  | none => rfl
  | some n =>
    have n0 : n ≠ 0 := fun z => h (by rw [z])
    show V.int ((n : Int) - 1) = V.int ((n - 1 : Nat) : Int)
    congr 1; omega
omit F in
theorem DkEx.dd (h : DkEx a T H d r R done k) : ∃ dx fs, H d = some (.ins a.Disk dx fs) := by obtain ⟨ps, h⟩ := h; obtain ⟨dx, e⟩ := h.dd; exact ⟨dx, _, e⟩
omit F in
theorem DkEx.same {H' : Hp} (h : DkEx a T H d r R done k) (s : Same H H') : DkEx a T H' d r R done k := by obtain ⟨ps, h⟩ := h; exact ⟨ps, h.chg' (.of s) (h.toDiskAt.same s) h.out⟩
theorem p_blocksE (h : DkEx a T H d r R done k) (q : Q (.int R.length) H) : sp_Disk_blocks K a [.ref d] H Q E := by obtain ⟨ps, h⟩ := h; exact p_blocks h.toDiskAt q
theorem p_readE {i : Int} {row : List Int} (h : DkEx a T H d r R done k) (hi : 0 ≤ i) (hr : R[i.toNat]? = some row) (q : ∀ p H', Same H H' → H p = none → H' p = some (.lst (row.map V.int)) → Q (.ref p) H') : sp_Disk_read K a [.ref d, .int i] H Q E := by obtain ⟨ps, h⟩ := h; exact p_read h.toDiskAt hi hr q
omit F in
theorem out_set {ps : List Addr} {p : Addr} {i : Nat} (ex : ∀ t ∈ T, t ∉ [d, r] ∧ ∃ u, H t = some u) (out : ∀ q ∈ ps, q ∉ T) (pn : H p = none) : ∀ q ∈ ps.set i p, q ∉ T := fun q hq z => by
  rcases List.mem_or_eq_of_mem_set hq with y | y
  · exact out q y z
  · obtain ⟨_, u, e⟩ := ex q z
    rw [y, pn] at e; cases e
/-- one write of a run -/
theorem p_writeE {i : Int} {p : Addr} {row : List Int} (h : DkEx a T H d r R done k) (i0 : 0 ≤ i) (i1 : i < R.length) (hp : H p = some (.lst (row.map V.int))) (g : GoodRow row) (D : DoesW a T d r ((i.toNat, row) :: ws) k R done H ok stop)
    (q : ∀ H', Chg [d, r] H H' → k ≠ some 0 → DkEx a T H' d r (R.set i.toNat row) (done + 1) (less k 1) → DoesW a T d r ws (less k 1) (R.set i.toNat row) (done + 1) H' ok stop → Q .non H') (b : ∀ H', stop H' → E (.ref a.Stopped) none H') : sp_Disk_write K a [.ref d, .int i, .ref p] H Q E := by
  obtain ⟨ps, h⟩ := h
  refine p_write h.toDiskAt (n := "int") rfl (.good hp g) (fun i' row' ei _ _ er nl p' H' c pn h' => ?_) (fun z => ?_) (fun _ z => by cases z) (fun _ _ el H' s => ?_)
  · cases ei; cases er
    have nk : k ≠ some 0 := fun z => nl (by rw [z]; rfl)
    rw [lv_less nk] at h'
    exact q H' c nk ⟨_, h.chg' c h' (out_set h.ex h.out pn)⟩ (D.cons nk c)
  · rw [isBlk_of i0 i1] at z; cases z
  · have hk : k = some 0 := by
      cases k with
      | none => cases el
      | some n =>
        have : (n : Int) = 0 := V.int.inj el
        congr 1; omega
    exact b H' ((D.same s).now hk (by simp) ⟨ps, h.chg' (.of s) (h.toDiskAt.same s) h.out⟩)
/-- homes: whole numbers of blocks behind the log -/
def isHome (n : Nat) : V → Bool
  | .int i => decide (17 ≤ i) && decide (i < n)
  | _ => false
theorem p_is_home {x : V} {n : String} (h : DkEx a T H d r R done k) (hx : tyN H x = some n) (q : Q (.bl (isHome R.length x)) H) : sp_is_home K a [.ref d, x] H Q E := by
  refine in_is_home ?_
  unfold t_is_home
  obtain ⟨ps, h⟩ := h
  obtain ⟨dx, e⟩ := h.dd
  cases x with
  | int i =>
    walk_at "go"
    refine go_dec (fun c => ?_) (fun c => ?_)
    · walk_at "go"
      refine p_blocks h.toDiskAt ?_
      walk_at "go"
      simpa [isHome, c] using q
    · walk_at "go"
      simpa [isHome, c] using q
  | bl b => walk_at "go"; exact q
  | non => walk_at "go"; exact q
  | str s => walk_at "go"; exact q
  | ref p =>
    rcases kindR hx with ⟨rfl, xs, e⟩ | ⟨rfl, xs, e⟩ | ⟨rfl, kvs, e⟩
    all_goals (walk_at "go"; exact q)
  | _ => cases hx
omit F in
theorem isHome_of {n : Nat} {i : Int} (h : 17 ≤ i) (k : i < n) : isHome n (.int i) = true := by simp [isHome, h, k]
/-- pairs that a commit may take -/
structure GoodPrs (n : Nat) (prs : List (Int × List Int)) : Prop where
  few : prs.length ≤ 15
  row : ∀ p ∈ prs, 17 ≤ p.1 ∧ p.1 < n ∧ GoodRow p.2
  up : prs.Pairwise fun p q => p.1 < q.1
theorem p_need_pairs {P : Addr} {ts qs : List Addr} {prs : List (Int × List Int)} (h : DkEx a T H d r R done k) (hP : PrsAt H P ts qs prs) (g : GoodPrs R.length prs)
    (q : ∀ P2 ts2 qs2 H', Same H H' → H P2 = none → PrsAt H' P2 ts2 qs2 prs → Q (.ref P2) H') : sp_need_pairs K a [.ref d, .ref P] H Q E := by
  refine in_need_pairs ?_
  unfold t_need_pairs
  have hr := hP.rr
  have lt := hP.lt
  have few := g.few
  walk_at "go"
  rw [List.length_map, lt]
  refine go_Fd (by omega) ?_
  walk_at "go"
  rename_i P2 H1 n1
  refine for_Lg (xs := ts.map V.ref) (fun i σ' H' => ∃ (last : Int) (v4 v5 : Option V) (ts2 qs2 : List Addr), σ' = [some (.ref d), some (.ref P), some (.ref P2), some (.int last), v4, v5] ∧ Same H H' ∧ H' P2 = some (.lst (ts2.map V.ref)) ∧ PrsNew H P2 ts2 qs2 prs H' ∧ ts2.length = i ∧ (∀ b row, prs[i]? = some (b, row) → last < b)) (fun i σ' H' ⟨_, _, _, _, _, _, s, _⟩ => s _ _ hr)
    ⟨0, none, none, [], [], rfl, n1.same, n1.at, .nil, rfl, fun b row e => by have := (g.row _ (List.mem_of_getElem? e)).1; omega⟩ ?_ ?_
  · rintro i x σ' H2 hx ⟨last, v4, v5, ts2, qs2, rfl, s2, hP2, w, hl, up⟩
    rw [List.getElem?_map] at hx
    have hi : i < prs.length := by
      cases e : ts[i]? with
      | none => rw [e] at hx; cases hx
      | some t => have := (List.getElem?_eq_some_iff.mp e).1; omega
    have e : prs[i]? = some (prs[i].1, prs[i].2) := List.getElem?_eq_getElem hi
    obtain ⟨t, q0, e1, e2, e3, e4⟩ := hP.at_ i _ _ e
    rw [e1] at hx; cases hx
    obtain ⟨b1, b2, gr⟩ := g.row _ (List.getElem_mem hi)
    have up1 := up _ _ e
    have e3' := s2 _ _ e3
    walk_at "go"
    refine p_is_home (h.same s2) (n := "int") rfl ?_
    rw [isHome_of b1 b2]
    walk_at "go"
    refine p_need_row (.good (s2 _ _ e4) gr) (fun row er _ p H3 s3 pn hp => ?_) (fun z => by cases z)
    cases er
    have hP3 := s3 _ _ hP2
    have hz : ts2.length < 1000 := by omega
    walk_at "go"
    rename_i T H4 n4 H5 w5
    have hP4 := n4.old hP3
    have c5 : Chg [P2] H4 H5 := .wr w5 (by simp)
    refine ⟨_, _, _, ts2 ++ [T], qs2 ++ [p], rfl, ?_, by rw [w5.at]; simp, (w.snoc hP2 (s3.trans n4.same) s2 n1.free (by rw [hl]; exact e) (s3.free n4.free) n4.at (.inr pn) (n4.old hp)).chg c5, by simp [hl], fun b row e' => ?_⟩
    · exact Same.chg ((s2.trans s3).trans n4.same) c5 (by simpa using n1.free)
    · have hj := List.pairwise_iff_getElem.mp g.up i (i + 1) hi (List.getElem?_eq_some_iff.mp e').1 (by omega)
      have e6 := List.getElem?_eq_some_iff.mp e'
      rw [e6.2] at hj
      exact hj
  · rintro σ' H2 ⟨last, v4, v5, ts2, qs2, rfl, s2, hP2, w, hl, up⟩
    walk_at "go"
    rw [List.length_map] at hl
    exact q P2 ts2 qs2 H2 s2 n1.free (w.prs (by omega) hP2)
/-- the rows that are brought home -/
def homeW (homes : List Int) (R : List (List Int)) : List (Nat × List Int) := (List.range homes.length).map fun j => ((homes.getD j 0).toNat, R.getD (2 + j) [])
def carryW (homes : List Int) (R : List (List Int)) : List (Nat × List Int) := homeW homes R ++ [(1, List.replicate 16 0)]
theorem p_carry_home {P : Addr} {homes : List Int} (h : DkEx a T H d r R done k) (hP : H P = some (.lst (homes.map V.int))) (few : homes.length ≤ 15) (hm : ∀ b ∈ homes, 17 ≤ b ∧ b < R.length)
    (D : DoesW a T d r (carryW homes R) k R done H (fun H' => Q .non H') (fun H' => E (.ref a.Stopped) none H')) : sp_carry_home K a [.ref d, .ref P] H Q E := by
  refine in_carry_home ?_
  unfold t_carry_home
  have Pd : P ≠ d ∧ P ≠ r := by obtain ⟨ps, h⟩ := id h; exact h.neRow hP
  have many : 24 ≤ R.length := by obtain ⟨ps, h⟩ := id h; exact h.many.1
  have gR : ∀ row ∈ R, GoodRow row := by obtain ⟨ps, h⟩ := id h; exact h.good
  walk_at "go"
  refine for_E (xs := homes.map V.int) (fun i σ' H' => ∃ (v2 v3 : Option V) (R' : List (List Int)) (done' : Int) (k' : Option Nat), σ' = [some (.ref d), some (.ref P), v2, v3] ∧ H' P = some (.lst (homes.map V.int)) ∧ DkEx a T H' d r R' done' k' ∧ R'.length = R.length ∧ (∀ j, j < 15 → R'[2 + j]? = R[2 + j]?) ∧
      DoesW a T d r ((carryW homes R).drop i) k' R' done' H' (fun H' => Q .non H') (fun H' => E (.ref a.Stopped) none H')) (fun i σ' H' ⟨_, _, _, _, _, _, e, _⟩ => e)
    ⟨none, none, R, done, k, rfl, hP, h, rfl, fun _ _ => rfl, D⟩ ?_ ?_
  · rintro i x σ' H1 T H2 hx ⟨v2, v3, R', done', k', rfl, hP1, h1, hl, h2j, D1⟩ n2
    rw [List.getElem?_map] at hx
    cases e : homes[i]? with
    | none => rw [e] at hx; cases hx
    | some b =>
      rw [e] at hx; cases hx
      have hi : i < homes.length := (List.getElem?_eq_some_iff.mp e).1
      obtain ⟨b1, b2⟩ := hm b (List.mem_of_getElem? e)
      have hrow : R[2 + i]? = some (R.getD (2 + i) []) := by rw [List.getD_eq_getElem?_getD, List.getElem?_eq_getElem (by omega)]; rfl
      have gr := gR _ (List.mem_of_getElem? hrow)
      have e0 : (carryW homes R).drop i = (b.toNat, R.getD (2 + i) []) :: (carryW homes R).drop (i + 1) := by
        have hlen : i < (carryW homes R).length := by simp [carryW, homeW]; omega
        rw [List.drop_eq_getElem_cons hlen]
        congr 1
        simp only [carryW]
        rw [List.getElem_append_left (by simp [homeW]; exact hi)]
        simp [homeW, List.getD_eq_getElem?_getD, e]
      rw [e0] at D1
      have h1' := h1.same n2.same
      obtain ⟨dx, fs, hd⟩ := h1'.dd
      walk_at "go"
      refine go_MethK 0 hd (by obtain ⟨ps, z⟩ := h1'; obtain ⟨dx', z⟩ := z.dd; rw [hd] at z; cases z; rfl) rfl ?_
      walk_at "go"
      refine go_MethK 0 hd (by obtain ⟨ps, z⟩ := h1'; obtain ⟨dx', z⟩ := z.dd; rw [hd] at z; cases z; rfl) rfl ?_
      walk_at "go"
      have ei : ((1 : Int) + 1 + (i : Int)).toNat = 2 + i := by omega
      refine p_readE h1' (by omega) (row := R.getD (2 + i) []) (by rw [ei, h2j i (by omega)]; exact hrow) fun p H3 s3 pn hp => ?_
      walk_at "go"
      refine p_writeE (h1'.same s3) (by omega) (by omega) hp gr ((D1.same n2.same).same s3) (fun H4 c4 nk h4 D4 => ?_) (fun H4 z => z)
      walk_at "go"
      exact ⟨_, _, _, _, _, rfl, c4.at (by simp [Pd.1, Pd.2]) (s3 _ _ (n2.old hP1)), h4, by simp [hl], fun j hj => by rw [List.getElem?_set_ne (by omega)]; exact h2j j hj, D4⟩
  · rintro σ' H1 ⟨v2, v3, R', done', k', rfl, hP1, h1, hl, h2j, D1⟩
    have e0 : (carryW homes R).drop (homes.map V.int).length = [(1, List.replicate 16 0)] := by
      rw [carryW, List.length_map]
      exact List.drop_left' (by simp [homeW])
    rw [e0] at D1
    obtain ⟨dx, fs, hd⟩ := h1.dd
    walk_at "go"
    refine go_MethK 0 hd (by obtain ⟨ps, z⟩ := h1; obtain ⟨dx', z⟩ := z.dd; rw [hd] at z; cases z; rfl) rfl ?_
    walk_at "go"
    refine p_empty_row fun p H2 s2 pn hp => ?_
    walk_at "go"
    refine p_writeE (h1.same s2) (i := 1) (by omega) (by omega) hp good_zero (D1.same s2) (fun H4 c4 nk h4 D4 => ?_) (fun H4 z => z)
    walk_at "go"
    exact D4.nil h4
end
/-! ### commit -/
def logW (prs : List (Int × List Int)) : List (Nat × List Int) := (List.range prs.length).map fun j => (2 + j, (prs.getD j (0, [])).2)
def headRow (prs : List (Int × List Int)) : List Int := (prs.length : Int) :: prs.map (·.1) ++ List.replicate (15 - prs.length) 0
def homesW (prs : List (Int × List Int)) : List (Nat × List Int) := prs.map fun p => (p.1.toNat, p.2)
def commitW (prs : List (Int × List Int)) : List (Nat × List Int) := if prs = [] then [] else (logW prs ++ [(1, headRow prs)]) ++ (homesW prs ++ [(1, List.replicate 16 0)])
theorem applyW_range {f : Nat → Nat × List Int} (hf : ∀ j, (f j).1 = 2 + j) {R : List (List Int)} : ∀ m j, j < m → 2 + j < R.length → (applyW ((List.range m).map f) R)[2 + j]? = some (f j).2
  | 0, j, h, _ => by omega
  | m + 1, j, h, hR => by
    rw [List.range_succ, List.map_append, applyW_app]
    show ((applyW ((List.range m).map f) R).set (f m).1 (f m).2)[2 + j]? = _
    rw [hf m]
    by_cases e : j = m
    · subst e
      rw [List.getElem?_set_self (by rw [applyW_len]; exact hR)]
    · rw [List.getElem?_set_ne (by omega)]
      exact applyW_range hf m j (by omega) hR
theorem GoodPrs.head {n : Nat} {prs : List (Int × List Int)} (g : GoodPrs n prs) (hn : n ≤ 1000) : GoodRow (headRow prs) := by
  have := g.few
  refine ⟨by simp [headRow]; omega, fun z hz => ?_⟩
  simp only [headRow, List.cons_append, List.mem_cons, List.mem_append] at hz
  rcases hz with rfl | hz | hz
  · omega
  · obtain ⟨p, hp, rfl⟩ := List.mem_map.mp hz
    have := g.row p hp
    omega
  · rw [List.eq_of_mem_replicate hz]; omega
section
variable {K : PySem.W.Frag} {a : Ac} {T : List Addr} {H : Hp} {Q : VK} {E : XK} [F : Fc K a] {d r : Addr} {ps : List Addr} {R : List (List Int)} {done : Int} {k : Option Nat} {ws : List (Nat × List Int)} {ok stop : Hp → Prop}
omit F in
theorem p_changed {r w : Addr} {xs ys : List V} {k : Int} (h : H r = some (.lst xs)) (hw : H w = some (.lst ys)) (hk : 0 ≤ k) (hx : xs.length ≤ 1000) (hy : ys.length ≤ 1000)
    (q : ∀ p H1, Same H H1 → H p = none → H1 p = some (.lst (xs.take k.toNat ++ ys ++ xs.drop (k.toNat + ys.length))) → Q (.ref p) H1) : sp_changed K a [.ref r, .int k, .ref w] H Q E := by
  refine in_changed ?_
  unfold t_changed
  walk_at "go"
  rename_i p1 H1 n1 p2 H2 n2 p3 H3 n3 p4 H4 n4
  refine q p4 H4 (by walk_at "sm") ?_ ?_
  · exact (((n1.same.trans n2.same).trans n3.same)).free n4.free
  · rw [n4.at, cut_take xs hk, cut_drop xs (by omega)]
    have e : (k + (ys.length : Int)).toNat = k.toNat + ys.length := by omega
    rw [e]
omit F in
/-- a pair's places are none of the disk's own -/
theorem PrsAt.out {P : Addr} {ts qs : List Addr} {prs : List (Int × List Int)} (h : DkEx a T H d r R done k) (hP : PrsAt H P ts qs prs) : (∀ t ∈ ts, t ∉ [d, r]) ∧ ∀ q ∈ qs, q ∉ [d, r] := by
  obtain ⟨ps, h⟩ := h
  obtain ⟨dx, e⟩ := h.dd
  refine ⟨fun t ht => ?_, fun q hq => ?_⟩
  · obtain ⟨i, hi⟩ := List.mem_iff_getElem?.mp ht
    have hl : i < prs.length := by have := (List.getElem?_eq_some_iff.mp hi).1; have := hP.lt; omega
    obtain ⟨t', q', e1, e2, e3, e4⟩ := hP.at_ i _ _ (List.getElem?_eq_getElem hl : prs[i]? = some (prs[i].1, prs[i].2))
    rw [hi] at e1; cases e1
    have n1 := ne_obj e3 e (by simp)
    have n2 := ne_obj e3 h.rr (by simp)
    simp [n1, n2]
  · obtain ⟨i, hi⟩ := List.mem_iff_getElem?.mp hq
    have hl : i < prs.length := by have := (List.getElem?_eq_some_iff.mp hi).1; have := hP.lq; omega
    obtain ⟨t', q', e1, e2, e3, e4⟩ := hP.at_ i _ _ (List.getElem?_eq_getElem hl : prs[i]? = some (prs[i].1, prs[i].2))
    rw [hi] at e2; cases e2
    have := h.neRow e4
    simp [this.1, this.2]
theorem go_methD {m : Str} {sp : Sp} {E : Bk.St → XK} {t : TA} {σ : Bk.St} (h : DkEx a T H d r R done k) (hm : ∀ r done left, ([("rows", r), ("done", done), ("left", left)] : List (Str × V)).lookup m = none) (q : t σ H fun vs H2 => sp (.ref d :: vs) H2 Q (E σ)) : MethK m [(a.Disk, sp)] E t σ Q (.ref d) H := by
  obtain ⟨ps, h⟩ := h
  obtain ⟨dx, e⟩ := h.dd
  exact go_MethK 0 e (hm _ _ _) rfl q
theorem p_commit {P : Addr} {ts qs : List Addr} {prs : List (Int × List Int)} (h : DkEx a T H d r R done k) (hP : PrsAt H P ts qs prs) (g : GoodPrs R.length prs)
    (D : DoesW a T d r (commitW prs) k R done H (fun H' => Q .non H') (fun H' => E (.ref a.Stopped) none H')) : sp_commit K a [.ref d, .ref P] H Q E := by
  refine in_commit ?_
  unfold t_commit
  have many : 24 ≤ R.length ∧ R.length ≤ 96 := by obtain ⟨ps, h⟩ := id h; exact h.many
  have few := g.few
  walk_at "go"
  refine p_need_pairs h hP g fun P2 ts2 qs2 H1 s1 pn hP2 => ?_
  have h1 := h.same s1
  have D1 := D.same s1
  walk_at "go"
  rename_i p0 H2 n2
  refine go_eqD (d := .list (prsD prs)) (e := .list []) (hP2.same n2.same).dp (.lst (SqL.of n2.at) .nil) (shaped_prs prs) (by decide) ?_
  by_cases hne : prs = []
  · subst hne
    refine go_blk ?_
    refine go_T rfl ?_
    walk_at "go"
    exact (D1.same n2.same).nil (h1.same n2.same)
  have ef : PyData.eqv (.list (prsD prs)) (.list []) = false := by
    cases prs with
    | nil => exact absurd rfl hne
    | cons p prs => simp [prsD, PyData.eqv, PyData.eqvAll]
  rw [ef]
  walk_at "go"
  have hP3 := hP2.same n2.same
  have h2 := h1.same n2.same
  have D2 := D1.same n2.same
  have pr2 : P2 ≠ r := fun z => by
    obtain ⟨ps, h⟩ := id h
    rw [z, h.rr] at pn; cases pn
  have pd2 : P2 ≠ d := fun z => by
    obtain ⟨ps, h⟩ := id h
    obtain ⟨dx, e⟩ := h.dd
    rw [z, e] at pn; cases pn
  have out := hP3.out h2
  have rr3 := hP3.rr
  have e1 : commitW prs = (logW prs ++ [(1, headRow prs)]) ++ (homesW prs ++ [(1, List.replicate 16 0)]) := by rw [commitW, if_neg hne]
  rw [e1] at D2
  walk_at "go"
  have D3 := D2.split
  have lt2 := hP2.lt
  refine for_E (xs := ts2.map V.ref) (fun i σ' H' => ∃ (v3 v4 : Option V) (R' : List (List Int)) (done' : Int) (k' : Option Nat), σ' = [some (.ref d), some (.ref P), some (.ref P2), v3, v4, none] ∧ PrsAt H' P2 ts2 qs2 prs ∧ DkEx a T H' d r R' done' k' ∧ R'.length = R.length ∧
      DoesW a T d r ((logW prs ++ [(1, headRow prs)]).drop i) k' R' done' H' (fun H1 => DoesW a T d r (homesW prs ++ [(1, List.replicate 16 0)]) (less k (logW prs ++ [(1, headRow prs)]).length) (applyW (logW prs ++ [(1, headRow prs)]) R) (done + (logW prs ++ [(1, headRow prs)]).length) H1 (fun H' => Q .non H') (fun H' => E (.ref a.Stopped) none H') ∧
        DkEx a T H1 d r (applyW (logW prs ++ [(1, headRow prs)]) R) (done + (logW prs ++ [(1, headRow prs)]).length) (less k (logW prs ++ [(1, headRow prs)]).length)) (fun H' => E (.ref a.Stopped) none H')) (fun i σ' H' ⟨_, _, _, _, _, _, e, _⟩ => e.rr)
    ⟨none, none, R, done, k, rfl, hP3, h2, rfl, D3⟩ ?_ ?_
  · rintro i x σ' H3 T H4 hx ⟨v3, v4, R', done', k', rfl, hP4, h4, hl, D4⟩ n4
    rw [List.getElem?_map] at hx
    have hi : i < prs.length := by
      cases e : ts2[i]? with
      | none => rw [e] at hx; cases hx
      | some t => have := (List.getElem?_eq_some_iff.mp e).1; omega
    have e : prs[i]? = some (prs[i].1, prs[i].2) := List.getElem?_eq_getElem hi
    obtain ⟨t, q0, f1, f2, f3, f4⟩ := hP4.at_ i _ _ e
    rw [f1] at hx; cases hx
    obtain ⟨b1, b2, gr⟩ := g.row _ (List.getElem_mem hi)
    have e0 : (logW prs ++ [(1, headRow prs)]).drop i = (2 + i, prs[i].2) :: (logW prs ++ [(1, headRow prs)]).drop (i + 1) := by
      have hlen : i < (logW prs ++ [(1, headRow prs)]).length := by simp [logW]; omega
      rw [List.drop_eq_getElem_cons hlen]
      congr 1
      rw [List.getElem_append_left (by simp [logW]; exact hi)]
      simp [logW, List.getD_eq_getElem?_getD, e]
    rw [e0] at D4
    have h5 := h4.same n4.same
    have f3' := n4.old f3
    walk_at "go"
    refine go_methD h5 (fun _ _ _ => rfl) ?_
    walk_at "go"
    have ei : ((1 : Int) + 1 + (i : Int)).toNat = 2 + i := by omega
    refine p_writeE h5 (by omega) (by omega) (n4.old f4) gr (ws := (logW prs ++ [(1, headRow prs)]).drop (i + 1)) (by rw [ei]; exact D4.same n4.same) (fun H6 c6 nk h6 D6 => ?_) (fun H6 z => z)
    walk_at "go"
    exact ⟨_, _, _, _, _, rfl, (hP4.same n4.same).chg c6 (by simp [pr2, pd2]) out.1 out.2, h6, by simp [hl], D6⟩
  · rintro σ' H3 ⟨v3, v4, R', done', k', rfl, hP4, h4, hl, D4⟩
    have e0 : (logW prs ++ [(1, headRow prs)]).drop (ts2.map V.ref).length = [(1, headRow prs)] := by
      rw [List.length_map]
      exact List.drop_left' (by simp [logW]; omega)
    rw [e0] at D4
    have rr4 := hP4.rr
    walk_at "go"
    refine lc_idxL (fun j => .int (prs.getD j (0, [])).1) rr4 (by rw [sizeLine_eq, List.length_map]; omega) (fun i x H' Q' hx s q' => ?_) (fun hm H5 hmn s5 h5m => ?_)
    · rw [List.getElem?_map] at hx
      have hi : i < prs.length := by
        cases e : ts2[i]? with
        | none => rw [e] at hx; cases hx
        | some t => have := (List.getElem?_eq_some_iff.mp e).1; omega
      have e : prs[i]? = some (prs[i].1, prs[i].2) := List.getElem?_eq_getElem hi
      obtain ⟨t, q0, f1, f2, f3, f4⟩ := hP4.at_ i _ _ e
      rw [f1] at hx; cases hx
      have f3' := s _ _ f3
      walk_at "go"
      have := q' _ (Same.refl _)
      simpa [List.getD_eq_getElem?_getD, e] using this
    have h5m' : H5 hm = some (.lst ((prs.map (·.1)).map V.int)) := by
      rw [h5m, List.length_map, lt2, List.map_map]
      congr 2
      refine List.ext_getElem (by simp) fun i h1 h2 => ?_
      have hi : i < prs.length := by simpa using h1
      simp [List.getD_eq_getElem?_getD, List.getElem?_eq_getElem hi]
    have h6 := h4.same s5
    have D5 := D4.same s5
    walk_at "go"
    refine go_methD h6 (fun _ _ _ => rfl) ?_
    walk_at "go"
    refine p_empty_row fun er H6 s6 ern er6 => ?_
    have hm6 := s6 _ _ h5m'
    have hml : (prs.map (·.1)).length ≤ 15 := by simpa using few
    walk_at "go"
    rename_i p7 H7 n7 p8 H8 n8
    refine p_changed (n8.old (n7.old er6)) n8.at (by omega) (by simp) (by simp; omega) fun hr H9 s9 hrn hr9 => ?_
    have hr9' : H9 hr = some (.lst ((headRow prs).map V.int)) := by
      rw [hr9]
      congr 2
      simp [headRow]
      exact (List.drop_replicate : (List.replicate 15 (V.int 0)).drop prs.length = List.replicate (15 - prs.length) (V.int 0))
    have s59 : Same H5 H9 := ((s6.trans n7.same).trans n8.same).trans s9
    walk_at "go"
    refine p_writeE (h6.same s59) (i := 1) (by omega) (by omega) hr9' (g.head (by omega)) (D5.same s59) (fun H10 c10 nk h10 D10 => ?_) (fun H10 z => z)
    obtain ⟨D11, h11⟩ := D10.nil h10
    have hmd : hm ≠ d ∧ hm ≠ r := by obtain ⟨ps, z⟩ := id h6; exact z.neRow h5m'
    have hm10 : H10 hm = some (.lst ((prs.map (·.1)).map V.int)) := c10.at (by simp [hmd.1, hmd.2]) (s59 _ _ h5m')
    walk_at "go"
    refine p_carry_home h11 hm10 hml (fun b hb => ?_) ?_
    · obtain ⟨p, hp, rfl⟩ := List.mem_map.mp hb
      have := g.row p hp
      rw [applyW_len]; exact ⟨this.1, this.2.1⟩
    · have ec : carryW (prs.map (·.1)) (applyW (logW prs ++ [(1, headRow prs)]) R) = homesW prs ++ [(1, List.replicate 16 0)] := by
        rw [carryW]
        congr 1
        refine List.ext_getElem (by simp [homeW, homesW]) fun i h1 h2 => ?_
        have hi : i < prs.length := by simpa [homesW] using h2
        have : (applyW (logW prs ++ [(1, headRow prs)]) R)[2 + i]? = some prs[i].2 := by
          rw [applyW_app]
          show ((applyW (logW prs) R).set 1 _)[2 + i]? = _
          rw [List.getElem?_set_ne (by omega), logW, applyW_range (fun j => rfl) prs.length i hi (by omega)]
          simp [List.getD_eq_getElem?_getD, List.getElem?_eq_getElem hi]
        simp [homeW, homesW, List.getD_eq_getElem?_getD, List.getElem?_eq_getElem hi, this]
      rw [ec]
      refine D11.imp (fun H' z => ?_) fun H' z => z
      walk_at "go"
      exact z
end
end Bk

namespace Bk
open PySem L2 PyProof.Rows
/-! our own short tactics: h: what stands at a place; ne: two places; sm: what stood stands; z: a size; s: a step; go: steps -/
local macro_rules | `(tactic| walk_at "h") => `(tactic| first
  | assumption
  | exact New.at (by assumption)
  | exact Wr.at (by assumption)
  | (refine' New.old (by assumption) ?_; walk_at "h")
  | (refine' Same.at (by assumption) ?_; walk_at "h")
  | (refine' Wr.old (by assumption) ?_ ?_; walk_at "ne"; walk_at "h")
  | (refine' Chg.at (by assumption) ?_ ?_; walk_at "ni"; walk_at "h"))
local macro_rules | `(tactic| walk_at "ni") => `(tactic| first
  | exact ni_nil
  | assumption
  | (refine' ni_cons ?_ ?_; walk_at "ne"; walk_at "ni"))
local macro_rules | `(tactic| walk_at "ne") => `(tactic| first
  | assumption
  | exact Ne.symm (by assumption)
  | exact New.ne (by assumption) (by walk_at "h")
  | exact ne_none (by assumption) (by walk_at "h")
  | exact Ne.symm (ne_none (by assumption) (by walk_at "h"))
  | exact Ne.symm (New.ne (by assumption) (by walk_at "h")))
local macro_rules | `(tactic| walk_at "sm") => `(tactic| first
  | exact Same.refl _
  | assumption
  | (refine' Same.trans ?_ (New.same (by assumption)); walk_at "sm")
  | (refine' Same.trans ?_ (by assumption : Same _ _); walk_at "sm"))
local macro_rules | `(tactic| walk_at "z") => `(tactic| first
  | assumption
  | (rw [PySem.sizeLine_eq]; omega)
  | (rw [PySem.sizeLine_eq]; simp only [List.length_cons, List.length_nil, List.length_append, List.length_map, List.length_range, List.length_replicate, len_cut]; omega)
  | (rw [PySem.sizeLine_eq]; simp only [List.length_cons, List.length_nil, List.length_append, List.length_map, List.length_range, List.length_replicate, len_cut] at *; omega))
local macro_rules | `(tactic| walk_at "s") => `(tactic| first
  | ((with_reducible refine' go_var ?h ?_); (case h => exact rfl))
  | (with_reducible refine' go_c ?_)
  | (with_reducible refine' go_op ?_)
  | (with_reducible refine' go_un ?_)
  | (with_reducible refine' go_rU ?_)
  | (with_reducible refine' go_seq ?_)
  | (with_reducible refine' go_ret ?_)
  | (with_reducible refine' go_retN ?_)
  | (with_reducible refine' go_next ?_)
  | (with_reducible refine' go_drop ?_)
  | (with_reducible refine' go_asg ?_)
  | ((with_reducible refine' go_name2 ?h ?_); (case h => (simp only [List.set_cons_zero, List.set_cons_succ]; exact rfl)))
  | ((with_reducible refine' go_name2 ?h ?_); (case h => exact rfl))
  | (with_reducible refine' go_ifS ?_)
  | (with_reducible refine' go_blk ?_)
  | (with_reducible refine' go_test ?_)
  | (with_reducible refine' go_tB ?_)
  | (with_reducible refine' go_and ?_)
  | (with_reducible refine' go_or ?_)
  | (with_reducible refine' go_not ?_)
  | (with_reducible refine' go_andV ?_)
  | (with_reducible refine' go_orV ?_)
  | (with_reducible refine' go_notV ?_)
  | (with_reducible refine' go_if ?_)
  | (with_reducible refine' go_chain ?_)
  | (with_reducible refine' iteT ?_)
  | (with_reducible refine' iteF ?_)
  | ((with_reducible refine' go_Td ?h ?_); (case h => walk_at "pr"))
  | ((with_reducible refine' go_Fd ?h ?_); (case h => walk_at "pr"))
  | ((with_reducible refine' go_Tn ?h ?_); (case h => walk_at "pr"))
  | ((with_reducible refine' go_Fn ?h ?_); (case h => walk_at "pr"))
  | ((with_reducible refine' go_T ?h ?_); (case h => (first | decide | assumption | exact rfl)))
  | ((with_reducible refine' go_F ?h ?_); (case h => (first | decide | assumption | exact rfl)))
  | (with_reducible refine' go_nil ?_)
  | (with_reducible refine' go_cons ?_)
  | (with_reducible refine' go_tLst ?_)
  | (with_reducible refine' go_tTup ?_)
  | ((with_reducible refine' go_LstK ?h ?_); (case h => walk_at "z"); intro p H1 n1)
  | ((with_reducible refine' go_TupK ?h ?_); (case h => walk_at "z"); intro p H1 n1)
  | (with_reducible refine' go_addI ?_)
  | ((with_reducible refine' go_addL ?h ?k ?z ?_); (case h => walk_at "h"); (case k => walk_at "h"); (case z => walk_at "z"); intro p H1 n1)
  | (with_reducible refine' go_sub ?_)
  | ((with_reducible refine' go_mulI ?h ?_); (case h => (unfold CMul; omega)))
  | ((with_reducible refine' go_mulL ?h ?k ?_); (case h => walk_at "h"); (case k => (refine ⟨by omega, by omega, ?_⟩; walk_at "z")); intro p H1 n1)
  | ((with_reducible refine' go_div ?h ?_); (case h => (unfold CDiv; omega)))
  | ((with_reducible refine' go_mod ?h ?_); (case h => omega))
  | (with_reducible refine' go_p109 ?_)
  | (with_reducible refine' go_p1020 ?_)
  | ((with_reducible refine' go_pow ?h ?_); (case h => (unfold CPow; omega)))
  | (with_reducible refine' go_lt ?_)
  | (with_reducible refine' go_le ?_)
  | (with_reducible refine' go_gt ?_)
  | (with_reducible refine' go_ge ?_)
  | (with_reducible refine' go_eqI ?_)
  | (with_reducible refine' go_eqB ?_)
  | (with_reducible refine' go_eqS ?_)
  | (with_reducible refine' go_neI ?_)
  | (with_reducible refine' go_neB ?_)
  | (with_reducible refine' go_neS ?_)
  | (with_reducible refine' go_isN ?_)
  | (with_reducible refine' go_isNotN ?_)
  | (with_reducible refine' go_isB ?_)
  | (with_reducible refine' go_isNotB ?_)
  | (with_reducible refine' go_sl ?_)
  | (with_reducible refine' go_noPart ?_)
  | (with_reducible refine' go_part ?_)
  | (with_reducible refine' go_intK ?_)
  | ((with_reducible refine' go_slL ?h ?_); (case h => walk_at "h"); intro p H1 n1)
  | ((with_reducible refine' go_ixL ?h ?k ?_); (case h => walk_at "h"); (case k => exact rfl))
  | ((with_reducible refine' go_ixT ?h ?k ?_); (case h => walk_at "h"); (case k => exact rfl))
  | ((with_reducible refine' go_slW ?h ?_); (case h => walk_at "h"))
  | (with_reducible refine' go_bm ?_)
  | (with_reducible refine' go_bm0 ?_)
  | ((with_reducible refine' go_bmL ?h ?_); (case h => walk_at "h"))
  | ((with_reducible refine' go_append ?h ?k ?_); (case h => walk_at "h"); (case k => walk_at "z"); intro H1 n1)
  | ((with_reducible refine' go_extend ?h ?k ?z ?_); (case h => walk_at "h"); (case k => walk_at "h"); (case z => walk_at "z"); intro H1 n1)
  | ((with_reducible refine' go_clear ?h ?_); (case h => walk_at "h"); intro H1 n1)
  | ((with_reducible refine' go_dnew ?_); intro p H1 n1)
  | (with_reducible refine' go_cb ?_)
  | (with_reducible refine' go_callS ?_)
  | (with_reducible refine' go_call0 ?_)
  | ((with_reducible refine' go_lenL ?h ?_); (case h => walk_at "h"))
  | ((with_reducible refine' go_lenT ?h ?_); (case h => walk_at "h"))
  | ((with_reducible refine' go_lenK ?h ?_); (case h => walk_at "hk"))
  | ((with_reducible refine' go_listL ?h ?_); (case h => walk_at "h"); intro p H1 n1)
  | ((with_reducible refine' go_listT ?h ?_); (case h => walk_at "h"); intro p H1 n1)
  | ((with_reducible refine' go_tupleL ?h ?_); (case h => walk_at "h"); intro p H1 n1)
  | (with_reducible refine' go_intI ?_)
  | (with_reducible refine' go_intB ?_)
  | (with_reducible refine' go_abs ?_)
  | (with_reducible refine' go_min2 ?_)
  | (with_reducible refine' go_max2 ?_)
  | ((with_reducible refine' go_isi ?h ?k ?_); (case h => walk_at "ty"); (case k => exact kit_bb (by decide) (by decide)))
  | (with_reducible refine' go_lc ?_)
  | (with_reducible refine' go_for ?_)
  | (with_reducible refine' go_seqP ?_)
  | ((with_reducible refine' go_seqL ?h ?_); (case h => walk_at "h"))
  | ((with_reducible refine' go_seqT ?h ?_); (case h => walk_at "h"))
  | (with_reducible refine' go_seqS ?_)
  | (with_reducible refine' go_rng1 ?_)
  | (with_reducible refine' go_rng2 ?_)
  | ((with_reducible refine' go_rng1K ?h ?_); (case h => omega))
  | ((with_reducible refine' go_rng2K ?h ?_); (case h => omega))
  | (with_reducible refine' go_raise ?_)
  | ((with_reducible refine' go_tupG ?h ?k ?_); (case h => walk_at "h"); (case k => exact rfl))
  | ((with_reducible refine' go_lstG ?h ?k ?_); (case h => walk_at "h"); (case k => exact rfl))
  | (with_reducible refine' go_gNil ?_)
  | (with_reducible refine' go_tryAs ?_)
  | (with_reducible refine' go_tryMany1 ?_)
  | (with_reducible refine' go_tryMany2 ?_)
  | (with_reducible refine' go_WM ?_)
  | ((with_reducible refine' go_asT ?_); intro e he)
  | (with_reducible refine' go_asF ?_)
  | ((with_reducible refine' go_manyT ?_); intro e he)
  | (with_reducible refine' go_manyF ?_)
  | (with_reducible refine' go_manyN ?_)
  | (with_reducible refine' go_fld ?_)
  | ((with_reducible refine' go_FldK ?h ?c ?n ?l ?_); (case h => walk_at "h"); (case c => infer_instance); (case n => infer_instance); (case l => exact rfl))
  | (with_reducible refine' go_sfld ?_)
  | ((with_reducible refine' go_SFldK ?h ?c ?n ?l ?e ?_); (case h => walk_at "h"); (case c => infer_instance); (case n => infer_instance); (case l => exact Nat.le_of_ble_eq_true rfl); (case e => walk_at "pf"); intro H1 n1)
  | (with_reducible refine' go_meth ?_)
  | ((with_reducible refine' go_MethK 0 ?h ?l ?e ?_); (case h => walk_at "h"); (case l => exact rfl); (case e => exact rfl))
  | ((with_reducible refine' go_MethK 1 ?h ?l ?e ?_); (case h => walk_at "h"); (case l => exact rfl); (case e => exact rfl))
  | ((with_reducible refine' go_MethK 2 ?h ?l ?e ?_); (case h => walk_at "h"); (case l => exact rfl); (case e => exact rfl))
  | (with_reducible refine' go_make ?_)
  | (with_reducible refine' go_callX ?_)
  | (with_reducible refine' go_methX ?_)
  | ((with_reducible refine' go_MethXK ?h ?l ?_); (case h => walk_at "h"); (case l => exact rfl))
  | (with_reducible refine' go_dget ?_)
  | ((with_reducible refine' go_DGetS ?h ?l ?_); (case h => walk_at "h"); (case l => exact rfl))
  | (with_reducible refine' go_dput ?_)
  | ((with_reducible refine' go_DPutS ?h ?l ?e ?_); (case h => walk_at "h"); (case l => exact Nat.le_of_ble_eq_true rfl); (case e => walk_at "pk"); intro H1 n1)
  | ((with_reducible refine' go_disp ?_); intro p H1 n1)
  | (with_reducible refine' go_pairs ?_)
  | (with_reducible refine' go_pairs0 ?_)
  | ((with_reducible refine' go_DispS ?h ?e ?l ?k ?j ?m ?_); (case h => walk_at "h"); (case e => exact rfl); (case l => exact Nat.le_of_ble_eq_true rfl); (case k => (simp only [unS]; exact rfl)); (case j => (simp only [List.map_cons, List.map_nil]; exact rfl)); (case m => decide +kernel); intro H1 n1)
  | (with_reducible refine' go_par ?_)
  | ((with_reducible refine' go_ParK ?h ?_); (case h => (simp only [List.set_cons_zero, List.set_cons_succ]; exact rfl)))
  | (with_reducible refine' go_sub_ ?_)
  | ((with_reducible refine' go_setLi ?h ?k ?_); (case h => walk_at "h"); (case k => walk_at "ix"); intro H1 n1)
  | (with_reducible refine' go_listY ?_)
  | ((with_reducible refine' go_listYL ?h ?_); (case h => walk_at "h"))
  | (with_reducible refine' go_bmS ?_)
  | (with_reducible refine' go_ckw ?_)
  | ((with_reducible refine' go_maxD ?h ?_); (case h => walk_at "h"))
  | (with_reducible refine' go_listR ?_)
  | (with_reducible refine' go_rg2 ?_)
  | (with_reducible refine' go_Rg2K ?_)
  | (with_reducible refine' go_rg1 ?_)
  | (with_reducible refine' go_Rg1K ?_)
  | ((with_reducible refine' go_ListRK ?h ?_); (case h => omega); intro p H1 n1)
  | (with_reducible refine' go_enum ?_)
  | ((with_reducible refine' go_EnumL ?h ?_); (case h => walk_at "h"))
  | (with_reducible refine' go_isX ?_)
  | (with_reducible refine' go_isXt ?_)
  | (with_reducible refine' go_gCons ?_))
local macro_rules | `(tactic| walk_at "pf") => `(tactic| first
  | exact putF_nil
  | exact putF_hit
  | (refine' putF_miss ?h ?k; (case h => decide +kernel); (case k => walk_at "pf")))
local macro_rules | `(tactic| walk_at "pk") => `(tactic| first
  | exact putK_nil
  | exact putK_hit (by (simp only [List.map_cons, List.map_nil]; decide +kernel))
  | (refine' putK_miss ?h ?k; (case h => decide +kernel); (case k => walk_at "pk")))
local macro_rules | `(tactic| walk_at "ix") => `(tactic| first
  | assumption
  | omega
  | (simp only [List.length_cons, List.length_nil, List.length_append, List.length_map, List.length_range, List.length_replicate, List.length_set] at *; omega))
local macro_rules | `(tactic| walk_at "pr") => `(tactic| first
  | assumption
  | decide
  | omega
  | exact rfl
  | (intro z; cases z; done))
local macro_rules | `(tactic| walk_at "hk") => `(tactic| first
  | assumption
  | exact seq' (by assumption) (by walk_at "sm"))
local macro_rules | `(tactic| walk_at "ty") => `(tactic| first
  | exact rfl
  | assumption
  | exact tyN_L (by walk_at "h")
  | exact tyN_T (by walk_at "h")
  | exact tyN_D (by walk_at "h"))
local macro_rules | `(tactic| walk_at "go") => `(tactic| repeat (walk_at "s"))
/-! ### coming back -/
/-- rising homes behind last -/
def upTo (n : Nat) : Int → List Int → Bool
  | _, [] => true
  | last, x :: r => isHome n (.int x) && decide (last < x) && upTo n x r
/-- the homes that a head tells -/
def headHomes (n : Nat) (h : List Int) : Option (List Int) :=
  if 15 < h.getD 0 0 then none else if (h.drop (1 + (h.getD 0 0).toNat)).any (fun x => decide (0 < x)) = true then none else if upTo n 0 ((h.drop 1).take (h.getD 0 0).toNat) = true then some ((h.drop 1).take (h.getD 0 0).toNat) else none
theorem upTo_home {n : Nat} : ∀ (xs : List Int) (last : Int), upTo n last xs = true → ∀ x ∈ xs, 17 ≤ x ∧ x < n
  | [], _, _, _, h => by cases h
  | y :: r, last, e, x, h => by
    rw [upTo, Bool.and_eq_true, Bool.and_eq_true] at e
    rcases List.mem_cons.mp h with rfl | h
    · simpa [isHome] using e.1.1
    · exact upTo_home r y e.2 x h
theorem headHomes_some {n : Nat} {h hs : List Int} (g : GoodRow h) (e : headHomes n h = some hs) : hs.length ≤ 15 ∧ (∀ x ∈ hs, 17 ≤ x ∧ x < n) := by
  unfold headHomes at e
  split at e
  · cases e
  · split at e
    · cases e
    · split at e
      · rename_i c1 c2 c3
        cases e
        exact ⟨by rw [List.length_take]; omega, upTo_home _ _ c3⟩
      · cases e
section
variable {K : PySem.W.Frag} {a : Ac} {T : List Addr} {H : Hp} {Q : VK} {E : XK} [F : Fc K a] {d r : Addr} {ps : List Addr} {R : List (List Int)} {done : Int} {k : Option Nat} {ws : List (Nat × List Int)} {ok stop : Hp → Prop}
theorem p_homes_told {head : List Int} (h : DkEx a T H d r R done k) (hr : R[1]? = some head) (q : ∀ hs, headHomes R.length head = some hs → ∀ p H', Same H H' → H p = none → H' p = some (.lst (hs.map V.int)) → Q (.ref p) H')
    (b : headHomes R.length head = none → ∀ H', Same H H' → E (.ref a.BadLog) none H') : sp_homes_told K a [.ref d] H Q E := by
  refine in_homes_told ?_
  unfold t_homes_told
  have g : GoodRow head := by obtain ⟨ps, h⟩ := id h; exact h.good _ (List.mem_of_getElem? hr)
  have e0 : head[0]? = some (head.getD 0 0) := by rw [List.getD_eq_getElem?_getD, List.getElem?_eq_getElem (by rw [g.1]; omega)]; rfl
  have c0 : 0 ≤ head.getD 0 0 := (g.2 _ (List.mem_of_getElem? e0)).1
  generalize hc : head.getD 0 0 = c at e0 c0
  walk_at "go"
  refine go_methD h (fun _ _ _ => rfl) ?_
  walk_at "go"
  refine p_readE h (by omega) hr fun p H1 s1 pn hp => ?_
  have h1 := h.same s1
  walk_at "go"
  refine go_ixAt hp (by omega) (v := .int c) (by rw [List.getElem?_map]; simp [e0]) ?_
  walk_at "go"
  refine go_dec (fun c1 => ?_) (fun c1 => ?_)
  · walk_at "go"
    exact b (by rw [headHomes, hc, if_pos c1]) H1 s1
  walk_at "go"
  rename_i p2 H2 n2
  rw [cut_drop _ (by omega)] at n2
  have n2' : H2 p2 = some (.lst ((head.drop (1 + c.toNat)).map V.int)) := by rw [n2.at, List.map_drop]; congr 3; omega
  refine go_maxD n2' fun m m0 m1 => ?_
  have any : ((head.drop (1 + c.toNat)).any fun x => decide (0 < x)) = decide (0 < m) := by
    by_cases z : head.drop (1 + c.toNat) = []
    · rw [z, m0 z]; rfl
    · obtain ⟨a1, a2⟩ := m1 z
      by_cases y : 0 < m
      · rw [decide_eq_true y]
        exact List.any_eq_true.mpr ⟨m, a1, decide_eq_true y⟩
      · rw [decide_eq_false y]
        refine Bool.eq_false_iff.mpr fun x => ?_
        obtain ⟨w, hw, e⟩ := List.any_eq_true.mp x
        have := a2 w hw
        have := of_decide_eq_true e
        omega
  walk_at "go"
  refine go_dec (fun c2 => ?_) (fun c2 => ?_)
  · walk_at "go"
    exact b (by rw [headHomes, hc, if_neg c1, any, decide_eq_true c2, if_pos rfl]) H2 (s1.trans n2.same)
  have hp2 := n2.old hp
  walk_at "go"
  rename_i p3 H3 n3
  have ecut : cutV (head.map V.int) (some 1) (some (1 + c)) = ((head.drop 1).take c.toNat).map V.int := by
    rw [cut_mid _ (by omega) (by omega), List.map_take, List.map_drop]
    congr 2; omega
  rw [ecut] at n3
  generalize hhs : (head.drop 1).take c.toNat = hs at n3 ecut
  have fin : ∀ b', upTo R.length 0 hs = b' → headHomes R.length head = if b' = true then some hs else none := fun b' e => by
    rw [headHomes, hc, if_neg c1, any, decide_eq_false c2, if_neg Bool.false_ne_true, hhs, e]
  have h3 : DkEx a T H3 d r R done k := (h1.same n2.same).same n3.same
  have hp3 := n3.old hp2
  have s3 : Same H H3 := (s1.trans n2.same).trans n3.same
  refine for_L (xs := hs.map V.int) (fun i σ' H' => ∃ (last : Int) (v4 : Option V), σ' = [some (.ref d), some (.ref p), some (.int c), some (.int last), v4] ∧ Same H3 H' ∧ upTo R.length 0 hs = upTo R.length last (hs.drop i)) (fun i σ' H' ⟨_, _, _, s, _⟩ => s _ _ n3.at) ⟨0, none, rfl, Same.refl _, by simp⟩ ?_ ?_
  · rintro i x σ' H4 hx ⟨last, v4, rfl, s4, hu⟩
    rw [List.getElem?_map] at hx
    cases e : hs[i]? with
    | none => rw [e] at hx; cases hx
    | some y =>
      rw [e] at hx
      obtain rfl : V.int y = x := Option.some.inj hx
      have hi := (List.getElem?_eq_some_iff.mp e).1
      have ed : hs.drop i = y :: hs.drop (i + 1) := by rw [List.drop_eq_getElem_cons hi]; congr 1; exact (List.getElem?_eq_some_iff.mp e).2
      rw [ed, upTo] at hu
      simp only [List.set_cons_zero, List.set_cons_succ]
      walk_at "go"
      refine p_is_home (h3.same s4) (n := "int") rfl ?_
      cases hh : isHome R.length (.int y) with
      | false =>
        rw [hh, Bool.false_and, Bool.false_and] at hu
        walk_at "go"
        exact b (by rw [fin _ hu]; rfl) H4 (s3.trans s4)
      | true =>
        rw [hh, Bool.true_and] at hu
        walk_at "go"
        refine go_dec (fun c5 => ?_) (fun c5 => ?_)
        · rw [decide_eq_false (by omega), Bool.false_and] at hu
          walk_at "go"
          exact b (by rw [fin _ hu]; rfl) H4 (s3.trans s4)
        · rw [decide_eq_true (by omega), Bool.true_and] at hu
          walk_at "go"
          exact ⟨_, _, rfl, s4, hu⟩
  · rintro σ' H4 ⟨last, v4, rfl, s4, hu⟩
    rw [List.length_map, List.drop_length, upTo] at hu
    have hp4 := s4 _ _ hp3
    walk_at "go"
    rename_i p5 H5 n5
    rw [ecut] at n5
    exact q hs (by rw [fin _ hu]; rfl) p5 H5 ((s3.trans s4).trans n5.same) ((s3.trans s4).free n5.free) n5.at
theorem p_come_back {head : List Int} (h : DkEx a T H d r R done k) (hr : R[1]? = some head) (b : headHomes R.length head = none → ∀ H', Same H H' → E (.ref a.BadLog) none H')
    (q : headHomes R.length head = some [] → ∀ H', Same H H' → Q (.int 0) H')
    (D : ∀ hs, headHomes R.length head = some hs → hs ≠ [] → DoesW a T d r (carryW hs R) k R done H (fun H' => Q (.int hs.length) H') (fun H' => E (.ref a.Stopped) none H')) : sp_come_back K a [.ref d] H Q E := by
  refine in_come_back ?_
  unfold t_come_back
  have g : GoodRow head := by obtain ⟨ps, h⟩ := id h; exact h.good _ (List.mem_of_getElem? hr)
  walk_at "go"
  refine p_homes_told h hr (fun hs e p H1 s1 pn hp => ?_) (fun e H1 s1 => b e H1 s1)
  have hh := headHomes_some g e
  walk_at "go"
  rename_i p2 H2 n2
  have hp2 := n2.old hp
  refine go_neIs (ms := []) hp2 n2.at ?_
  by_cases z : hs = []
  · subst z
    rw [decide_eq_true rfl]
    walk_at "go"
    exact q e H2 (s1.trans n2.same)
  · rw [decide_eq_false z]
    have s2 := s1.trans n2.same
    have pdr : p ≠ d ∧ p ≠ r := by obtain ⟨ps, y⟩ := id (h.same s2); exact y.neRow hp2
    walk_at "go"
    refine p_carry_home (h.same s2) hp2 hh.1 hh.2 ?_
    refine ⟨fun hk H3 c3 d3 => ?_, fun n hn hlt H3 c3 d3 => ((D hs e z).same s2).stop n hn hlt H3 c3 d3⟩
    have hp3 := c3.at (by simp [pdr.1, pdr.2]) hp2
    walk_at "go"
    rw [List.length_map]
    exact ((D hs e z).same s2).ok hk H3 c3 d3
end
end Bk

namespace Bk
open PySem L2 PyProof.Rows
/-! our own short tactics: h: what stands at a place; ne: two places; sm: what stood stands; z: a size; s: a step; go: steps -/
local macro_rules | `(tactic| walk_at "h") => `(tactic| first
  | assumption
  | exact New.at (by assumption)
  | exact Wr.at (by assumption)
  | (refine' New.old (by assumption) ?_; walk_at "h")
  | (refine' Same.at (by assumption) ?_; walk_at "h")
  | (refine' Wr.old (by assumption) ?_ ?_; walk_at "ne"; walk_at "h")
  | (refine' Chg.at (by assumption) ?_ ?_; walk_at "ni"; walk_at "h"))
local macro_rules | `(tactic| walk_at "ni") => `(tactic| first
  | exact ni_nil
  | assumption
  | (refine' ni_cons ?_ ?_; walk_at "ne"; walk_at "ni"))
local macro_rules | `(tactic| walk_at "ne") => `(tactic| first
  | assumption
  | exact Ne.symm (by assumption)
  | exact New.ne (by assumption) (by walk_at "h")
  | exact ne_none (by assumption) (by walk_at "h")
  | exact Ne.symm (ne_none (by assumption) (by walk_at "h"))
  | exact Ne.symm (New.ne (by assumption) (by walk_at "h")))
local macro_rules | `(tactic| walk_at "sm") => `(tactic| first
  | exact Same.refl _
  | assumption
  | (refine' Same.trans ?_ (New.same (by assumption)); walk_at "sm")
  | (refine' Same.trans ?_ (by assumption : Same _ _); walk_at "sm"))
local macro_rules | `(tactic| walk_at "z") => `(tactic| first
  | assumption
  | (rw [PySem.sizeLine_eq]; omega)
  | (rw [PySem.sizeLine_eq]; simp only [List.length_cons, List.length_nil, List.length_append, List.length_map, List.length_range, List.length_replicate, len_cut]; omega)
  | (rw [PySem.sizeLine_eq]; simp only [List.length_cons, List.length_nil, List.length_append, List.length_map, List.length_range, List.length_replicate, len_cut] at *; omega))
local macro_rules | `(tactic| walk_at "s") => `(tactic| first
  | ((with_reducible refine' go_var ?h ?_); (case h => exact rfl))
  | (with_reducible refine' go_c ?_)
  | (with_reducible refine' go_op ?_)
  | (with_reducible refine' go_un ?_)
  | (with_reducible refine' go_rU ?_)
  | (with_reducible refine' go_seq ?_)
  | (with_reducible refine' go_ret ?_)
  | (with_reducible refine' go_retN ?_)
  | (with_reducible refine' go_next ?_)
  | (with_reducible refine' go_drop ?_)
  | (with_reducible refine' go_asg ?_)
  | ((with_reducible refine' go_name2 ?h ?_); (case h => (simp only [List.set_cons_zero, List.set_cons_succ]; exact rfl)))
  | ((with_reducible refine' go_name2 ?h ?_); (case h => exact rfl))
  | (with_reducible refine' go_ifS ?_)
  | (with_reducible refine' go_blk ?_)
  | (with_reducible refine' go_test ?_)
  | (with_reducible refine' go_tB ?_)
  | (with_reducible refine' go_and ?_)
  | (with_reducible refine' go_or ?_)
  | (with_reducible refine' go_not ?_)
  | (with_reducible refine' go_andV ?_)
  | (with_reducible refine' go_orV ?_)
  | (with_reducible refine' go_notV ?_)
  | (with_reducible refine' go_if ?_)
  | (with_reducible refine' go_chain ?_)
  | (with_reducible refine' iteT ?_)
  | (with_reducible refine' iteF ?_)
  | ((with_reducible refine' go_Td ?h ?_); (case h => walk_at "pr"))
  | ((with_reducible refine' go_Fd ?h ?_); (case h => walk_at "pr"))
  | ((with_reducible refine' go_Tn ?h ?_); (case h => walk_at "pr"))
  | ((with_reducible refine' go_Fn ?h ?_); (case h => walk_at "pr"))
  | ((with_reducible refine' go_T ?h ?_); (case h => (first | decide | assumption | exact rfl)))
  | ((with_reducible refine' go_F ?h ?_); (case h => (first | decide | assumption | exact rfl)))
  | (with_reducible refine' go_nil ?_)
  | (with_reducible refine' go_cons ?_)
  | (with_reducible refine' go_tLst ?_)
  | (with_reducible refine' go_tTup ?_)
  | ((with_reducible refine' go_LstK ?h ?_); (case h => walk_at "z"); intro p H1 n1)
  | ((with_reducible refine' go_TupK ?h ?_); (case h => walk_at "z"); intro p H1 n1)
  | (with_reducible refine' go_addI ?_)
  | ((with_reducible refine' go_addL ?h ?k ?z ?_); (case h => walk_at "h"); (case k => walk_at "h"); (case z => walk_at "z"); intro p H1 n1)
  | (with_reducible refine' go_sub ?_)
  | ((with_reducible refine' go_mulI ?h ?_); (case h => (unfold CMul; omega)))
  | ((with_reducible refine' go_mulL ?h ?k ?_); (case h => walk_at "h"); (case k => (refine ⟨by omega, by omega, ?_⟩; walk_at "z")); intro p H1 n1)
  | ((with_reducible refine' go_div ?h ?_); (case h => (unfold CDiv; omega)))
  | ((with_reducible refine' go_mod ?h ?_); (case h => omega))
  | (with_reducible refine' go_p109 ?_)
  | (with_reducible refine' go_p1020 ?_)
  | ((with_reducible refine' go_pow ?h ?_); (case h => (unfold CPow; omega)))
  | (with_reducible refine' go_lt ?_)
  | (with_reducible refine' go_le ?_)
  | (with_reducible refine' go_gt ?_)
  | (with_reducible refine' go_ge ?_)
  | (with_reducible refine' go_eqI ?_)
  | (with_reducible refine' go_eqB ?_)
  | (with_reducible refine' go_eqS ?_)
  | (with_reducible refine' go_neI ?_)
  | (with_reducible refine' go_neB ?_)
  | (with_reducible refine' go_neS ?_)
  | (with_reducible refine' go_isN ?_)
  | (with_reducible refine' go_isNotN ?_)
  | (with_reducible refine' go_isB ?_)
  | (with_reducible refine' go_isNotB ?_)
  | (with_reducible refine' go_sl ?_)
  | (with_reducible refine' go_noPart ?_)
  | (with_reducible refine' go_part ?_)
  | (with_reducible refine' go_intK ?_)
  | ((with_reducible refine' go_slL ?h ?_); (case h => walk_at "h"); intro p H1 n1)
  | ((with_reducible refine' go_ixL ?h ?k ?_); (case h => walk_at "h"); (case k => exact rfl))
  | ((with_reducible refine' go_ixT ?h ?k ?_); (case h => walk_at "h"); (case k => exact rfl))
  | ((with_reducible refine' go_slW ?h ?_); (case h => walk_at "h"))
  | (with_reducible refine' go_bm ?_)
  | (with_reducible refine' go_bm0 ?_)
  | ((with_reducible refine' go_bmL ?h ?_); (case h => walk_at "h"))
  | ((with_reducible refine' go_append ?h ?k ?_); (case h => walk_at "h"); (case k => walk_at "z"); intro H1 n1)
  | ((with_reducible refine' go_extend ?h ?k ?z ?_); (case h => walk_at "h"); (case k => walk_at "h"); (case z => walk_at "z"); intro H1 n1)
  | ((with_reducible refine' go_clear ?h ?_); (case h => walk_at "h"); intro H1 n1)
  | ((with_reducible refine' go_dnew ?_); intro p H1 n1)
  | (with_reducible refine' go_cb ?_)
  | (with_reducible refine' go_callS ?_)
  | (with_reducible refine' go_call0 ?_)
  | ((with_reducible refine' go_lenL ?h ?_); (case h => walk_at "h"))
  | ((with_reducible refine' go_lenT ?h ?_); (case h => walk_at "h"))
  | ((with_reducible refine' go_lenK ?h ?_); (case h => walk_at "hk"))
  | ((with_reducible refine' go_listL ?h ?_); (case h => walk_at "h"); intro p H1 n1)
  | ((with_reducible refine' go_listT ?h ?_); (case h => walk_at "h"); intro p H1 n1)
  | ((with_reducible refine' go_tupleL ?h ?_); (case h => walk_at "h"); intro p H1 n1)
  | (with_reducible refine' go_intI ?_)
  | (with_reducible refine' go_intB ?_)
  | (with_reducible refine' go_abs ?_)
  | (with_reducible refine' go_min2 ?_)
  | (with_reducible refine' go_max2 ?_)
  | ((with_reducible refine' go_isi ?h ?k ?_); (case h => walk_at "ty"); (case k => exact kit_bb (by decide) (by decide)))
  | (with_reducible refine' go_lc ?_)
  | (with_reducible refine' go_for ?_)
  | (with_reducible refine' go_seqP ?_)
  | ((with_reducible refine' go_seqL ?h ?_); (case h => walk_at "h"))
  | ((with_reducible refine' go_seqT ?h ?_); (case h => walk_at "h"))
  | (with_reducible refine' go_seqS ?_)
  | (with_reducible refine' go_rng1 ?_)
  | (with_reducible refine' go_rng2 ?_)
  | ((with_reducible refine' go_rng1K ?h ?_); (case h => omega))
  | ((with_reducible refine' go_rng2K ?h ?_); (case h => omega))
  | (with_reducible refine' go_raise ?_)
  | ((with_reducible refine' go_tupG ?h ?k ?_); (case h => walk_at "h"); (case k => exact rfl))
  | ((with_reducible refine' go_lstG ?h ?k ?_); (case h => walk_at "h"); (case k => exact rfl))
  | (with_reducible refine' go_gNil ?_)
  | (with_reducible refine' go_tryAs ?_)
  | (with_reducible refine' go_tryMany1 ?_)
  | (with_reducible refine' go_tryMany2 ?_)
  | (with_reducible refine' go_WM ?_)
  | ((with_reducible refine' go_asT ?_); intro e he)
  | (with_reducible refine' go_asF ?_)
  | ((with_reducible refine' go_manyT ?_); intro e he)
  | (with_reducible refine' go_manyF ?_)
  | (with_reducible refine' go_manyN ?_)
  | (with_reducible refine' go_fld ?_)
  | ((with_reducible refine' go_FldK ?h ?c ?n ?l ?_); (case h => walk_at "h"); (case c => infer_instance); (case n => infer_instance); (case l => exact rfl))
  | (with_reducible refine' go_sfld ?_)
  | ((with_reducible refine' go_SFldK ?h ?c ?n ?l ?e ?_); (case h => walk_at "h"); (case c => infer_instance); (case n => infer_instance); (case l => exact Nat.le_of_ble_eq_true rfl); (case e => walk_at "pf"); intro H1 n1)
  | (with_reducible refine' go_meth ?_)
  | ((with_reducible refine' go_MethK 0 ?h ?l ?e ?_); (case h => walk_at "h"); (case l => exact rfl); (case e => exact rfl))
  | ((with_reducible refine' go_MethK 1 ?h ?l ?e ?_); (case h => walk_at "h"); (case l => exact rfl); (case e => exact rfl))
  | ((with_reducible refine' go_MethK 2 ?h ?l ?e ?_); (case h => walk_at "h"); (case l => exact rfl); (case e => exact rfl))
  | (with_reducible refine' go_make ?_)
  | (with_reducible refine' go_callX ?_)
  | (with_reducible refine' go_methX ?_)
  | ((with_reducible refine' go_MethXK ?h ?l ?_); (case h => walk_at "h"); (case l => exact rfl))
  | (with_reducible refine' go_dget ?_)
  | ((with_reducible refine' go_DGetS ?h ?l ?_); (case h => walk_at "h"); (case l => exact rfl))
  | (with_reducible refine' go_dput ?_)
  | ((with_reducible refine' go_DPutS ?h ?l ?e ?_); (case h => walk_at "h"); (case l => exact Nat.le_of_ble_eq_true rfl); (case e => walk_at "pk"); intro H1 n1)
  | ((with_reducible refine' go_disp ?_); intro p H1 n1)
  | (with_reducible refine' go_pairs ?_)
  | (with_reducible refine' go_pairs0 ?_)
  | ((with_reducible refine' go_DispS ?h ?e ?l ?k ?j ?m ?_); (case h => walk_at "h"); (case e => exact rfl); (case l => exact Nat.le_of_ble_eq_true rfl); (case k => (simp only [unS]; exact rfl)); (case j => (simp only [List.map_cons, List.map_nil]; exact rfl)); (case m => decide +kernel); intro H1 n1)
  | (with_reducible refine' go_par ?_)
  | ((with_reducible refine' go_ParK ?h ?_); (case h => (simp only [List.set_cons_zero, List.set_cons_succ]; exact rfl)))
  | (with_reducible refine' go_sub_ ?_)
  | ((with_reducible refine' go_setLi ?h ?k ?_); (case h => walk_at "h"); (case k => walk_at "ix"); intro H1 n1)
  | (with_reducible refine' go_listY ?_)
  | ((with_reducible refine' go_listYL ?h ?_); (case h => walk_at "h"))
  | (with_reducible refine' go_bmS ?_)
  | (with_reducible refine' go_ckw ?_)
  | ((with_reducible refine' go_maxD ?h ?_); (case h => walk_at "h"))
  | (with_reducible refine' go_listR ?_)
  | (with_reducible refine' go_rg2 ?_)
  | (with_reducible refine' go_Rg2K ?_)
  | (with_reducible refine' go_rg1 ?_)
  | (with_reducible refine' go_Rg1K ?_)
  | ((with_reducible refine' go_ListRK ?h ?_); (case h => omega); intro p H1 n1)
  | (with_reducible refine' go_enum ?_)
  | ((with_reducible refine' go_EnumL ?h ?_); (case h => walk_at "h"))
  | (with_reducible refine' go_isX ?_)
  | (with_reducible refine' go_isXt ?_)
  | (with_reducible refine' go_gCons ?_))
local macro_rules | `(tactic| walk_at "pf") => `(tactic| first
  | exact putF_nil
  | exact putF_hit
  | (refine' putF_miss ?h ?k; (case h => decide +kernel); (case k => walk_at "pf")))
local macro_rules | `(tactic| walk_at "pk") => `(tactic| first
  | exact putK_nil
  | exact putK_hit (by (simp only [List.map_cons, List.map_nil]; decide +kernel))
  | (refine' putK_miss ?h ?k; (case h => decide +kernel); (case k => walk_at "pk")))
local macro_rules | `(tactic| walk_at "ix") => `(tactic| first
  | assumption
  | omega
  | (simp only [List.length_cons, List.length_nil, List.length_append, List.length_map, List.length_range, List.length_replicate, List.length_set] at *; omega))
local macro_rules | `(tactic| walk_at "pr") => `(tactic| first
  | assumption
  | decide
  | omega
  | exact rfl
  | (intro z; cases z; done))
local macro_rules | `(tactic| walk_at "hk") => `(tactic| first
  | assumption
  | exact seq' (by assumption) (by walk_at "sm"))
local macro_rules | `(tactic| walk_at "ty") => `(tactic| first
  | exact rfl
  | assumption
  | exact tyN_L (by walk_at "h")
  | exact tyN_T (by walk_at "h")
  | exact tyN_D (by walk_at "h"))
local macro_rules | `(tactic| walk_at "go") => `(tactic| repeat (walk_at "s"))
/-! ### the law's own defs -/
def spLaw (K : PySem.W.Frag) : Sp := fun vs H Q _ => ∃ (a : Addr) (ns : List Int), vs = [.ref a] ∧ SqL K H a (ns.map V.int) ∧ ns.length ≤ 63 ∧ ∀ H', Q (.bl true) H'
section
variable {K : PySem.W.Frag} {a : Ac} {H : Hp} {Q : VK} {E : XK}
theorem p_cell_at {p : Addr} {ns : List Int} {k : Int} (h : SqL K H p (ns.map V.int)) (hk : 0 ≤ k) (q : Q (.int (cellI ns k)) H) : sp_L_cell_at K a [.ref p, .int k] H Q E := by
  refine in_L_cell_at ?_
  unfold t_L_cell_at
  walk_at "go"
  rw [List.length_map]
  refine go_dec (fun c => ?_) (fun c => ?_)
  all_goals walk_at "go"
  · exact go_ixK h (cell_in hk c) q
  · rwa [cell_out c] at q
end
/-! ### the law's rows and pairs -/
def rowOf (c : Int) : List Int := if c % 5 = 0 then List.replicate 16 (c / 5 % 2 * 999999999) else (List.range 16).map fun k : Nat => (c / 5 % 1000000000 + c / 35 % 1009 * k + 7919 * k * k) % 1000000000
theorem good_rowOf (c : Int) : GoodRow (rowOf c) := by
  unfold rowOf
  split
  · refine ⟨by simp, fun z hz => ?_⟩
    rw [List.eq_of_mem_replicate hz]
    omega
  · refine ⟨by simp, fun z hz => ?_⟩
    obtain ⟨k, _, rfl⟩ := List.mem_map.mp hz
    omega
section
variable {K : PySem.W.Frag} {a : Ac} {H : Hp} {Q : VK} {E : XK}
theorem p_rowOf {c : Int} (q : ∀ p H', Same H H' → H p = none → H' p = some (.lst ((rowOf c).map V.int)) → Q (.ref p) H') : sp_L_row K a [.int c] H Q E := by
  refine in_L_row ?_
  unfold t_L_row
  walk_at "go"
  refine go_dec (fun c1 => ?_) (fun c1 => ?_)
  · walk_at "go"
    rename_i p1 H1 n1 p2 H2 n2
    refine q p2 H2 (n1.same.trans n2.same) (n1.same.free n2.free) ?_
    rw [n2.at, rowOf, if_pos c1]
    rfl
  · walk_at "go"
    refine lc_mapR (f := fun k : Nat => .int ((c / 5 % 1000000000 + c / 35 % 1009 * k + 7919 * k * k) % 1000000000)) (by rw [sizeLine_eq]; decide) (fun i H' Q' hi s q' => ?_) (fun D H2 hD s hd => ?_)
    · walk_at "go"
      simp only [Int.zero_add]
      exact q' _ (Same.refl _)
    · refine q D H2 s hD ?_
      rw [hd, rowOf, if_neg c1]
      simp
end
/-! ### refusals' words, heads -/
theorem ixN_some {n : Nat} {i : Int} (h : -(n : Int) ≤ i ∧ i < n) : ∃ j, ixN n i = some j ∧ j < n := by
  unfold ixN
  by_cases c : 0 ≤ i
  · rw [if_pos c, if_pos h.2]; exact ⟨_, rfl, by omega⟩
  · rw [if_neg c, if_pos h.1]; exact ⟨_, rfl, by omega⟩
theorem atI_mem {α : Type} {xs : List α} {i : Int} (h : -(xs.length : Int) ≤ i ∧ i < xs.length) : ∃ v, atI xs i = some v ∧ v ∈ xs := by
  obtain ⟨j, e, hj⟩ := ixN_some h
  unfold atI
  rw [e]
  exact ⟨xs[j], List.getElem?_eq_getElem hj, List.getElem_mem hj⟩
section
variable {K : PySem.W.Frag} {a : Ac} {H : Hp} {Q : VK} {E : XK} [F : Fc K a] {e : Addr}
def wds : List Str := ["block", "row", "much", "log", "stopped", "disk"]
omit F in
theorem word_lc {j : Nat} {bs : List V} {p : Addr} {Q' : VK} {v0 : Option V} (hp : H p = some (.lst bs)) (hb : bs = (List.range 6).map (fun i => V.bl (decide (i = j)))) (j4 : j < 6) (q' : ∀ D2 H2, Same H H2 → H2 D2 = some (.lst [.str (wds.getD j "")]) → Q' (.ref D2) H2) :
    LcK (gName 2) (tB (tOp (rIxP K) (tVar 1) (tVar 2))) (tOp (rIxP K) (tLst (tCons (tC (.str "block")) (tCons (tC (.str "row")) (tCons (tC (.str "much")) (tCons (tC (.str "log")) (tCons (tC (.str "stopped")) (tCons (tC (.str "disk")) (tNil)))))))) (tVar 2)) [2] [v0, some (.ref p), none] Q' (Itr 0 (Int.toNat 6)) H := by
  refine lc_filtR (pp := fun i => decide (i = j)) (f := fun i => .str (wds.getD i "")) (by rw [sizeLine_eq]; decide) (fun i H' QB hi s k => ?_) (fun i H' Q' hi hpi s k => ?_) (fun D2 H2 hD s2 hd => ?_)
  · simp only [List.set_cons_zero, List.set_cons_succ, Int.zero_add]
    have hp' := s _ _ hp
    have h6 : i < 6 := by omega
    walk_at "go"
    refine go_ixAt hp' (by omega) (v := .bl (decide (i = j))) (by rw [hb, List.getElem?_map, List.getElem?_range (by omega)]; simp) ?_
    exact go_blk (k H' (Same.refl _))
  · simp only [List.set_cons_zero, List.set_cons_succ, Int.zero_add]
    have h6 : i < 6 := by omega
    walk_at "go"
    rename_i p3 H3 n3
    refine go_ixAt n3.at (by omega) (v := .str (wds.getD i "")) ?_ (k H3 n3.same)
    rcases (show i = 0 ∨ i = 1 ∨ i = 2 ∨ i = 3 ∨ i = 4 ∨ i = 5 by omega) with rfl | rfl | rfl | rfl | rfl | rfl <;> rfl
  · have e1 : ((List.range (Int.toNat 6)).filter fun i => decide (i = j)) = [j] := by
      rcases (show j = 0 ∨ j = 1 ∨ j = 2 ∨ j = 3 ∨ j = 4 ∨ j = 5 by omega) with rfl | rfl | rfl | rfl | rfl | rfl <;> decide
    rw [e1] at hd
    exact q' D2 H2 s2 hd
omit F in
theorem wds_len {j : Nat} (h : j < 6) : (wds.getD j "").length ≤ 1000 := by
  rcases (show j = 0 ∨ j = 1 ∨ j = 2 ∨ j = 3 ∨ j = 4 ∨ j = 5 by omega) with rfl | rfl | rfl | rfl | rfl | rfl <;> decide
theorem p_word (D : Addr) (j : Nat) (hj : (D = a.NoBlock ∧ j = 0) ∨ (D = a.BadRow ∧ j = 1) ∨ (D = a.TooMuch ∧ j = 2) ∨ (D = a.BadLog ∧ j = 3)) (q : ∀ H', Same H H' → Q (.str (wds.getD j "")) H') : sph_L_word K a e D [.ref e] H Q E := by
  refine inh_L_word ?_
  unfold th_L_word
  rcases hj with ⟨rfl, rfl⟩ | ⟨rfl, rfl⟩ | ⟨rfl, rfl⟩ | ⟨rfl, rfl⟩
  all_goals
    walk_at "go"
    rename_i p1 H1 n1 p2 H2 n2 p3 H3 n3
    first
      | refine word_lc (j := 0) n3.at rfl (by decide) fun D2 H4 s4 h4 => ?_
      | refine word_lc (j := 1) n3.at rfl (by decide) fun D2 H4 s4 h4 => ?_
      | refine word_lc (j := 2) n3.at rfl (by decide) fun D2 H4 s4 h4 => ?_
      | refine word_lc (j := 3) n3.at rfl (by decide) fun D2 H4 s4 h4 => ?_
    walk_at "go"
    refine go_join1 h4 (wds_len (by decide)) (by decide) ?_
    exact q _ (((n1.same.trans n2.same).trans n3.same).trans s4)
end
section
variable {K : PySem.W.Frag} {a : Ac} {H : Hp} {Q : VK} {E : XK}
theorem p_homes {script : Addr} {ns : List Int} {m c : Int} (hS : SqL K H script (ns.map V.int)) (hm : 24 ≤ m ∧ m ≤ 96) (hc : 0 ≤ c ∧ c ≤ 17)
    (q : ∀ (p : Addr) (ys : List Int) (H' : Hp), Same H H' → H p = none → H' p = some (.lst (ys.map V.int)) → ys.length ≤ c.toNat → ys.Pairwise (· < ·) → (∀ y ∈ ys, 17 ≤ y ∧ y < m) → Q (.ref p) H') : sp_L_homes K a [.ref script, .int m, .int c] H Q E := by
  refine in_L_homes ?_
  unfold t_L_homes
  walk_at "go"
  rename_i D H1 n1
  refine for_R (fun i σ' H' => ∃ v4 psl, σ' = [some (.ref script), some (.int m), some (.int c), some (.ref D), v4] ∧ Same H H' ∧ H' D = some (.dK (dI psl)) ∧ (psl.map (·.1)).Nodup ∧ psl.length ≤ i ∧ ∀ p ∈ psl, 17 ≤ p.1 ∧ p.1 < m) ⟨none, [], rfl, n1.same, n1.at, by simp, Nat.le_refl _, by simp⟩ ?_ ?_
  · rintro i σ' H2 hi ⟨v4, psl, rfl, s2, hd, nd, hl, hr⟩
    simp only [List.set_cons_zero, List.set_cons_succ, Int.zero_add]
    walk_at "go"
    refine p_cell_at (ns := ns) (s2.seq hS) (by omega) ?_
    generalize cellI ns (8 + (i : Int)) = c1
    walk_at "go"
    have b1 := Int.emod_nonneg (c1 / 3 + 5 * (i : Int)) (show m - 17 ≠ 0 by omega)
    have b2 := Int.emod_lt_of_pos (c1 / 3 + 5 * (i : Int)) (show 0 < m - 17 by omega)
    refine go_DPutI hd (by simp [dI]; omega) rfl fun H4 w4 => ?_
    refine ⟨_, putI psl _ (.bl true), rfl, Same.chg s2 (.wr w4 (by simp) : Chg [D] _ _) (by simpa using n1.free), by rw [w4.at, putK_dI], keys_putI nd, ?_, fun p hp => ?_⟩
    · have := putI_len psl (17 + (c1 / 3 + 5 * (i : Int)) % (m - 17)) (.bl true); omega
    · rcases mem_putI hp with rfl | ⟨hp, _⟩
      · exact ⟨by show 17 ≤ 17 + _; omega, by show 17 + _ < m; omega⟩
      · exact hr p hp
  · rintro σ' H2 ⟨v4, psl, rfl, s2, hd, nd, hl, hr⟩
    walk_at "go"
    refine go_sortDI (ks := psl.map (·.1)) hd (keys_dI _) (by simp; omega) fun ys sl H3 hp hs n3 => ?_
    refine q sl ys H3 (s2.trans n3.same) (s2.free n3.free) n3.at ?_ (rising hs ((hp.nodup_iff).mpr nd)) fun y hy => ?_
    · rw [hp.length_eq, List.length_map]; omega
    · obtain ⟨p, hp2, rfl⟩ := List.mem_map.mp (hp.subset hy)
      exact hr p hp2
def rest7 (K : PySem.W.Frag) (a : Ac) (E : XK) : TS :=
  tSeq (tAsg (tOp rModP (tOp rDivP (tVar 4) (tC (.int 4096))) (tOp rPowP (tC (.int 10)) (tC (.int 9)))) (gName 6)) (tSeq (tAsg (tLst (tCons (tOp (rIxP K) (tVar 3) (tVar 5)) (tCons (tOp rAddP (tOp (rIxP K) (tVar 3) (tVar 5)) (tC (.int 1))) (tCons (tCB rMax2 (tCons (tC (.int 0)) (tCons (tOp rSubP (tOp (rIxP K) (tVar 3) (tVar 5)) (tC (.int 1))) (tNil)))) (tCons (tC (.int 0)) (tCons (tC (.int 16)) (tCons (tVar 1) (tCons (tVar 6) (tCons (tOp (rIxP K) (tVar 3) (tOp rSubP (tVar 5) (tC (.int 1)))) (tNil)))))))))) (gName 7)) (tSeq (tAsg (tOp (rIxP K) (tVar 7) (tOp rModP (tVar 4) (tC (.int 8)))) (gSub (tVar 3) (tVar 5) rSetL)) (tSeq (tIfS (tTest (tOp (rEqP K) (tOp rModP (tVar 4) (tC (.int 16))) (tC (.int 15)))) (tAsg (tOp rModP (tOp rDivP (tVar 4) (tC (.int 16))) (tC (.int 100))) (gSub (tVar 3) (tOp rSubP (tVar 5) (tC (.int 1))) rSetL)) (tNext)) (tRet (tVar 3)))))
theorem p_head {script : Addr} {ns : List Int} {m : Int} (hS : SqL K H script (ns.map V.int)) (hm : 24 ≤ m ∧ m ≤ 96) (q : ∀ (p : Addr) (h : List Int) (H' : Hp), Same H H' → H' p = some (.lst (h.map V.int)) → GoodRow h → Q (.ref p) H') : sp_L_head K a [.ref script, .int m] H Q E := by
  refine in_L_head ?_
  unfold t_L_head
  walk_at "go"
  refine p_cell_at (ns := ns) hS (by omega) ?_
  generalize cellI ns 2 = c2
  walk_at "go"
  refine p_homes hS hm (by omega) fun p ys H1 s1 pn hp hl _ hr => ?_
  have hy : (ys.map V.int).length ≤ 15 := by rw [List.length_map]; omega
  walk_at "go"
  rename_i p1 H2 n2 p3 H3 n3 p4 H4 n4 p5 H5 n5
  have hl15 : ys.length ≤ 15 := by omega
  have n5' : H5 p5 = some (.lst ((List.replicate (15 - ys.length) (0 : Int)).map V.int)) := by
    rw [n5.at]
    congr 2
    rw [show ((15 : Int) - ((ys.map V.int).length : Nat)).toNat = 15 - ys.length by simp]
    simp
  have z5 : ([V.int ↑(ys.map V.int).length] ++ ys.map V.int).length + ((List.replicate (15 - ys.length) (0 : Int)).map V.int).length ≤ sizeLine := by rw [sizeLine_eq]; simp; omega
  refine go_addL (n5.old (n4.old n3.at)) n5' z5 fun hd H6 n6 => ?_
  obtain ⟨h0, e0⟩ : ∃ h0 : List Int, h0 = (ys.length : Int) :: ys ++ List.replicate (15 - ys.length) 0 := ⟨_, rfl⟩
  have n6' : H6 hd = some (.lst (h0.map V.int)) := by rw [n6.at, e0]; congr 2; simp
  have l0 : h0.length = 16 := by rw [e0]; simp; omega
  have r0 : ∀ z ∈ h0, 0 ≤ z ∧ z ≤ 1000 := fun z hz => by
    rw [e0] at hz
    simp only [List.cons_append, List.mem_cons, List.mem_append] at hz
    rcases hz with rfl | hz | hz
    · omega
    · have := hr z hz; omega
    · rw [List.eq_of_mem_replicate hz]; omega
  have s5 : Same H H5 := (((s1.trans n2.same).trans n3.same).trans n4.same).trans n5.same
  have s6 : Same H H6 := s5.trans n6.same
  have hdn : H hd = none := s5.free n6.free
  have hp6 : H6 p = some (.lst (ys.map V.int)) := n6.old (n5.old (n4.old (n3.old (n2.old hp))))
  clear n6 n5' z5
  walk_at "go"
  refine p_cell_at (ns := ns) (s6.seq hS) (by omega) ?_
  generalize cellI ns 3 = c3
  -- the place
  have main : ∀ at_ : Int, 0 ≤ at_ ∧ at_ ≤ 15 → ∀ H7, Same H6 H7 → rest7 K a E ⟨fun _ H' => Q .non H', Q, F0, F0⟩ [some (.ref script), some (.int m), some (.ref p), some (.ref hd), some (.int c3), some (.int at_), none, none] H7 := by
    intro at_ h7 H7 s7
    unfold rest7
    have hd7 := s7 _ _ n6'
    obtain ⟨v1, a1, m1⟩ := atI_mem (xs := h0.map V.int) (i := at_) (by rw [List.length_map]; omega)
    obtain ⟨v2, a2, m2⟩ := atI_mem (xs := h0.map V.int) (i := at_ - 1) (by rw [List.length_map]; omega)
    obtain ⟨x1, y1, rfl⟩ := List.mem_map.mp m1
    obtain ⟨x2, y2, rfl⟩ := List.mem_map.mp m2
    have r1 := r0 x1 y1
    have r2 := r0 x2 y2
    walk_at "go"
    refine go_ixL hd7 a1 ?_
    walk_at "go"
    refine go_ixL hd7 a1 ?_
    walk_at "go"
    refine go_ixL hd7 a1 ?_
    walk_at "go"
    refine go_ixL hd7 a2 ?_
    walk_at "go"
    rename_i w H8 n8
    refine go_ixLo n8.at ⟨by omega, by show _ < (8 : Int); omega⟩ fun v hv hi => ?_
    have gv : ∃ z : Int, v = .int z ∧ 0 ≤ z ∧ z ≤ 999999999 := by
      simp only [List.mem_cons, List.not_mem_nil, or_false] at hv
      rcases hv with rfl | rfl | rfl | rfl | rfl | rfl | rfl | rfl
      · exact ⟨_, rfl, by omega, by omega⟩
      · exact ⟨_, rfl, by omega, by omega⟩
      · exact ⟨_, rfl, by split <;> omega, by split <;> omega⟩
      · exact ⟨_, rfl, by omega, by omega⟩
      · exact ⟨_, rfl, by omega, by omega⟩
      · exact ⟨_, rfl, by omega, by omega⟩
      · exact ⟨_, rfl, by omega, by omega⟩
      · exact ⟨_, rfl, by omega, by omega⟩
    obtain ⟨z, rfl, z0, z1⟩ := gv
    have hd8 := n8.old hd7
    have ix : 0 ≤ at_ ∧ at_ < ((h0.map V.int).length : Nat) := ⟨h7.1, by rw [List.length_map]; omega⟩
    walk_at "go"
    rename_i H9 w9
    have w9' : H9 hd = some (.lst ((h0.set at_.toNat z).map V.int)) := by rw [w9.at, List.map_set]
    have s9 : Same H H9 := Same.chg ((s6.trans s7).trans n8.same) (.wr w9 (by simp) : Chg [hd] _ _) (by simpa using hdn)
    have g9 : GoodRow (h0.set at_.toNat z) := ⟨by simp [l0], fun y hy => by
      rcases List.mem_or_eq_of_mem_set hy with y1 | rfl
      · have := r0 y y1; omega
      · exact ⟨z0, z1⟩⟩
    refine go_dec (fun c4 => ?_) (fun c4 => ?_)
    · walk_at "go"
      obtain ⟨j, ej, hj⟩ := ixN_some (n := ((h0.set at_.toNat z).map V.int).length) (i := at_ - 1) (by rw [List.length_map, List.length_set]; omega)
      refine go_setL w9' ej fun H10 w10 => ?_
      walk_at "go"
      refine q hd ((h0.set at_.toNat z).set j (c3 / 16 % 100)) H10 (Same.chg s9 (.wr w10 (by simp) : Chg [hd] _ _) (by simpa using hdn)) (by rw [w10.at]; simp only [List.map_set]) ⟨by simp [l0], fun y hy => ?_⟩
      rcases List.mem_or_eq_of_mem_set hy with y1 | rfl
      · exact g9.2 y y1
      · omega
    · walk_at "go"
      exact q hd _ H9 s9 w9' g9
  iterate 11 walk_at "s"
  refine go_seq (u := rest7 K a E) ?_
  walk_at "go"
  refine go_dec (fun c4 => ?_) (fun c4 => ?_)
  · walk_at "go"
    have b0 := Int.emod_nonneg (c3 / 256) (show ((ys.map V.int).length : Int) + 1 ≠ 0 by omega)
    have b1 := Int.emod_lt_of_pos (c3 / 256) (show 0 < ((ys.map V.int).length : Int) + 1 by omega)
    exact main _ ⟨b0, by omega⟩ H6 (Same.refl _)
  · walk_at "go"
    exact main _ (by omega) H6 (Same.refl _)
/-- the law's own look -/
theorem any_filter (l : List Int) (h : ∀ z ∈ l, 0 ≤ z) : (l.any fun x => decide (0 < x)) = decide (l.filter (fun x => decide (x ≠ 0)) ≠ []) := by
  induction l with
  | nil => rfl
  | cons x l ih =>
    have hx := h x List.mem_cons_self
    have ih := ih fun z hz => h z (List.mem_cons_of_mem _ hz)
    by_cases z : x = 0
    · subst z
      rw [List.any_cons, List.filter_cons_of_neg (by simp), ← ih]
      simp
    · rw [List.any_cons, List.filter_cons_of_pos (by simpa using z), decide_eq_true (show 0 < x by omega), Bool.true_or]
      simp
theorem p_is_right {hp_ : Addr} {h : List Int} {n : Nat} (hh : H hp_ = some (.lst (h.map V.int))) (g : GoodRow h) (q : ∀ H', Same H H' → Q (.bl (headHomes n h).isSome) H') : sp_L_is_right K a [.ref hp_, .int n] H Q E := by
  refine in_L_is_right ?_
  unfold t_L_is_right
  have e0 : h[0]? = some (h.getD 0 0) := by rw [List.getD_eq_getElem?_getD, List.getElem?_eq_getElem (by rw [g.1]; omega)]; rfl
  have c0 : 0 ≤ h.getD 0 0 := (g.2 _ (List.mem_of_getElem? e0)).1
  generalize hc : h.getD 0 0 = c at e0 c0
  have at0 : atI (h.map V.int) 0 = some (.int c) := by rw [atI_in (by omega), List.getElem?_map]; simp [e0]
  walk_at "go"
  refine go_ixL hh at0 ?_
  walk_at "go"
  refine go_dec (fun c1 => ?_) (fun c1 => ?_)
  · walk_at "go"
    have := q H (Same.refl _)
    rwa [headHomes, hc, if_pos c1] at this
  walk_at "go"
  refine go_ixL hh at0 ?_
  walk_at "go"
  rename_i p2 H2 n2
  have n2' : H2 p2 = some (.lst ((h.drop (1 + c.toNat)).map V.int)) := by rw [n2.at, cut_drop _ (by omega), List.map_drop]; congr 3; omega
  have nn : ∀ z ∈ h.drop (1 + c.toNat), 0 ≤ z := fun z hz => (g.2 z (List.mem_of_mem_drop hz)).1
  refine lc_L (f := id) (p := fun x => decide (x ≠ .int 0)) n2' (by rw [sizeLine_eq, List.length_map, List.length_drop, g.1]; omega) (fun i x H' QB hx s k => ?_) (fun i x H' Q' hx hpp s k => ?_) (fun D H3 hD s3 hd => ?_)
  · obtain ⟨z, _, rfl⟩ := List.mem_map.mp (List.mem_of_getElem? hx)
    simp only [List.set_cons_zero, List.set_cons_succ]
    walk_at "go"
    have := k H' (Same.refl _)
    simpa using this
  · simp only [List.set_cons_zero, List.set_cons_succ]
    walk_at "go"
    exact k H' (Same.refl _)
  · have hd' : H3 D = some (.lst (((h.drop (1 + c.toNat)).filter fun x => decide (x ≠ 0)).map V.int)) := by
      rw [hd, List.map_id, List.filter_map]
      congr 2
      congr 1
      refine List.filter_congr fun b _ => ?_
      simp
    walk_at "go"
    rename_i p4 H4 n4
    refine go_neIs (ms := []) (n4.old hd') n4.at ?_
    have an := any_filter _ nn
    have s4 : Same H H4 := (n2.same.trans s3).trans n4.same
    by_cases c2 : (h.drop (1 + c.toNat)).filter (fun x => decide (x ≠ 0)) = []
    · rw [decide_eq_true c2]
      rw [decide_eq_false (by simpa using c2)] at an
      have hh4 := s4 _ _ hh
      walk_at "go"
      refine go_ixL hh4 at0 ?_
      walk_at "go"
      rename_i p5 H5 n5
      have ecut : cutV (h.map V.int) (some 1) (some (1 + c)) = ((h.drop 1).take c.toNat).map V.int := by
        rw [cut_mid _ (by omega) (by omega), List.map_take, List.map_drop]
        congr 2; omega
      rw [ecut] at n5
      generalize hhs : (h.drop 1).take c.toNat = hs at n5 ecut
      have fin : ∀ b', upTo n 0 hs = b' → (headHomes n h).isSome = b' := fun b' e => by
        rw [headHomes, hc, if_neg c1, an, if_neg Bool.false_ne_true, hhs, e]
        cases b' <;> rfl
      have s5 := s4.trans n5.same
      refine for_L (xs := hs.map V.int) (fun i σ' H' => ∃ (last : Int) (v4 : Option V), σ' = [some (.ref hp_), some (.int n), some (.int last), v4, none] ∧ Same H5 H' ∧ upTo n 0 hs = upTo n last (hs.drop i) ∧ (16 ≤ last)) (fun i σ' H' ⟨_, _, _, s, _⟩ => s _ _ n5.at) ⟨16, none, rfl, Same.refl _, ?_, by omega⟩ ?_ ?_
      · cases hs with
        | nil => rfl
        | cons x r =>
          rw [List.drop_zero, upTo, upTo]
          cases e : isHome n (.int x) with
          | false => rw [Bool.false_and, Bool.false_and, Bool.false_and, Bool.false_and]
          | true =>
            have : 17 ≤ x ∧ x < n := by simpa [isHome] using e
            rw [decide_eq_true (show (0:Int) < x by omega), decide_eq_true (show (16:Int) < x by omega)]
      · rintro i x σ' H6 hx ⟨last, v4, rfl, s6, hu, hl16⟩
        rw [List.getElem?_map] at hx
        cases e : hs[i]? with
        | none => rw [e] at hx; cases hx
        | some y =>
          rw [e] at hx
          obtain rfl : V.int y = x := Option.some.inj hx
          have hi := (List.getElem?_eq_some_iff.mp e).1
          have ed : hs.drop i = y :: hs.drop (i + 1) := by rw [List.drop_eq_getElem_cons hi]; congr 1; exact (List.getElem?_eq_some_iff.mp e).2
          rw [ed, upTo] at hu
          simp only [List.set_cons_zero, List.set_cons_succ]
          walk_at "go"
          refine go_dec (fun c5 => ?_) (fun c5 => ?_)
          · walk_at "go"
            refine go_decN (fun c6 => ?_) (fun c6 => ?_)
            · rw [show isHome n (.int y) = false by simp [isHome]; omega, Bool.false_and, Bool.false_and] at hu
              walk_at "go"
              have := q H6 (s5.trans s6)
              rwa [fin _ hu] at this
            · rw [isHome_of (by omega) c6, decide_eq_true c5, Bool.true_and, Bool.true_and] at hu
              walk_at "go"
              exact ⟨_, _, rfl, s6, hu, by omega⟩
          · rw [decide_eq_false c5, Bool.and_false, Bool.false_and] at hu
            walk_at "go"
            have := q H6 (s5.trans s6)
            rwa [fin _ hu] at this
      · rintro σ' H6 ⟨last, v4, rfl, s6, hu, _⟩
        rw [List.length_map, List.drop_length, upTo] at hu
        walk_at "go"
        have := q H6 (s5.trans s6)
        rwa [fin _ hu] at this
    · rw [decide_eq_false c2]
      rw [decide_eq_true (by simpa using c2)] at an
      walk_at "go"
      have := q H4 s4
      rwa [headHomes, hc, if_neg c1, an, if_pos rfl] at this
end
end Bk

namespace Bk
open PySem L2 PyProof.Rows
/-! our own short tactics: h: what stands at a place; ne: two places; sm: what stood stands; z: a size; s: a step; go: steps -/
local macro_rules | `(tactic| walk_at "h") => `(tactic| first
  | assumption
  | exact New.at (by assumption)
  | exact Wr.at (by assumption)
  | (refine' New.old (by assumption) ?_; walk_at "h")
  | (refine' Same.at (by assumption) ?_; walk_at "h")
  | (refine' Wr.old (by assumption) ?_ ?_; walk_at "ne"; walk_at "h")
  | (refine' Chg.at (by assumption) ?_ ?_; walk_at "ni"; walk_at "h"))
local macro_rules | `(tactic| walk_at "ni") => `(tactic| first
  | exact ni_nil
  | assumption
  | (refine' ni_cons ?_ ?_; walk_at "ne"; walk_at "ni"))
local macro_rules | `(tactic| walk_at "ne") => `(tactic| first
  | assumption
  | exact Ne.symm (by assumption)
  | exact New.ne (by assumption) (by walk_at "h")
  | exact ne_none (by assumption) (by walk_at "h")
  | exact Ne.symm (ne_none (by assumption) (by walk_at "h"))
  | exact Ne.symm (New.ne (by assumption) (by walk_at "h")))
local macro_rules | `(tactic| walk_at "sm") => `(tactic| first
  | exact Same.refl _
  | assumption
  | (refine' Same.trans ?_ (New.same (by assumption)); walk_at "sm")
  | (refine' Same.trans ?_ (by assumption : Same _ _); walk_at "sm"))
local macro_rules | `(tactic| walk_at "z") => `(tactic| first
  | assumption
  | (rw [PySem.sizeLine_eq]; omega)
  | (rw [PySem.sizeLine_eq]; simp only [List.length_cons, List.length_nil, List.length_append, List.length_map, List.length_range, List.length_replicate, len_cut]; omega)
  | (rw [PySem.sizeLine_eq]; simp only [List.length_cons, List.length_nil, List.length_append, List.length_map, List.length_range, List.length_replicate, len_cut] at *; omega))
local macro_rules | `(tactic| walk_at "s") => `(tactic| first
  | ((with_reducible refine' go_var ?h ?_); (case h => exact rfl))
  | (with_reducible refine' go_c ?_)
  | (with_reducible refine' go_op ?_)
  | (with_reducible refine' go_un ?_)
  | (with_reducible refine' go_rU ?_)
  | (with_reducible refine' go_seq ?_)
  | (with_reducible refine' go_ret ?_)
  | (with_reducible refine' go_retN ?_)
  | (with_reducible refine' go_next ?_)
  | (with_reducible refine' go_drop ?_)
  | (with_reducible refine' go_asg ?_)
  | ((with_reducible refine' go_name2 ?h ?_); (case h => (simp only [List.set_cons_zero, List.set_cons_succ]; exact rfl)))
  | ((with_reducible refine' go_name2 ?h ?_); (case h => exact rfl))
  | (with_reducible refine' go_ifS ?_)
  | (with_reducible refine' go_blk ?_)
  | (with_reducible refine' go_test ?_)
  | (with_reducible refine' go_tB ?_)
  | (with_reducible refine' go_and ?_)
  | (with_reducible refine' go_or ?_)
  | (with_reducible refine' go_not ?_)
  | (with_reducible refine' go_andV ?_)
  | (with_reducible refine' go_orV ?_)
  | (with_reducible refine' go_notV ?_)
  | (with_reducible refine' go_if ?_)
  | (with_reducible refine' go_chain ?_)
  | (with_reducible refine' iteT ?_)
  | (with_reducible refine' iteF ?_)
  | ((with_reducible refine' go_Td ?h ?_); (case h => walk_at "pr"))
  | ((with_reducible refine' go_Fd ?h ?_); (case h => walk_at "pr"))
  | ((with_reducible refine' go_Tn ?h ?_); (case h => walk_at "pr"))
  | ((with_reducible refine' go_Fn ?h ?_); (case h => walk_at "pr"))
  | ((with_reducible refine' go_T ?h ?_); (case h => (first | decide | assumption | exact rfl)))
  | ((with_reducible refine' go_F ?h ?_); (case h => (first | decide | assumption | exact rfl)))
  | (with_reducible refine' go_nil ?_)
  | (with_reducible refine' go_cons ?_)
  | (with_reducible refine' go_tLst ?_)
  | (with_reducible refine' go_tTup ?_)
  | ((with_reducible refine' go_LstK ?h ?_); (case h => walk_at "z"); intro p H1 n1)
  | ((with_reducible refine' go_TupK ?h ?_); (case h => walk_at "z"); intro p H1 n1)
  | (with_reducible refine' go_addI ?_)
  | ((with_reducible refine' go_addL ?h ?k ?z ?_); (case h => walk_at "h"); (case k => walk_at "h"); (case z => walk_at "z"); intro p H1 n1)
  | (with_reducible refine' go_sub ?_)
  | ((with_reducible refine' go_mulI ?h ?_); (case h => (unfold CMul; omega)))
  | ((with_reducible refine' go_mulL ?h ?k ?_); (case h => walk_at "h"); (case k => (refine ⟨by omega, by omega, ?_⟩; walk_at "z")); intro p H1 n1)
  | ((with_reducible refine' go_div ?h ?_); (case h => (unfold CDiv; omega)))
  | ((with_reducible refine' go_mod ?h ?_); (case h => omega))
  | (with_reducible refine' go_p109 ?_)
  | (with_reducible refine' go_p1020 ?_)
  | ((with_reducible refine' go_pow ?h ?_); (case h => (unfold CPow; omega)))
  | (with_reducible refine' go_lt ?_)
  | (with_reducible refine' go_le ?_)
  | (with_reducible refine' go_gt ?_)
  | (with_reducible refine' go_ge ?_)
  | (with_reducible refine' go_eqI ?_)
  | (with_reducible refine' go_eqB ?_)
  | (with_reducible refine' go_eqS ?_)
  | (with_reducible refine' go_neI ?_)
  | (with_reducible refine' go_neB ?_)
  | (with_reducible refine' go_neS ?_)
  | (with_reducible refine' go_isN ?_)
  | (with_reducible refine' go_isNotN ?_)
  | (with_reducible refine' go_isB ?_)
  | (with_reducible refine' go_isNotB ?_)
  | (with_reducible refine' go_sl ?_)
  | (with_reducible refine' go_noPart ?_)
  | (with_reducible refine' go_part ?_)
  | (with_reducible refine' go_intK ?_)
  | ((with_reducible refine' go_slL ?h ?_); (case h => walk_at "h"); intro p H1 n1)
  | ((with_reducible refine' go_ixL ?h ?k ?_); (case h => walk_at "h"); (case k => exact rfl))
  | ((with_reducible refine' go_ixT ?h ?k ?_); (case h => walk_at "h"); (case k => exact rfl))
  | ((with_reducible refine' go_slW ?h ?_); (case h => walk_at "h"))
  | (with_reducible refine' go_bm ?_)
  | (with_reducible refine' go_bm0 ?_)
  | ((with_reducible refine' go_bmL ?h ?_); (case h => walk_at "h"))
  | ((with_reducible refine' go_append ?h ?k ?_); (case h => walk_at "h"); (case k => walk_at "z"); intro H1 n1)
  | ((with_reducible refine' go_extend ?h ?k ?z ?_); (case h => walk_at "h"); (case k => walk_at "h"); (case z => walk_at "z"); intro H1 n1)
  | ((with_reducible refine' go_clear ?h ?_); (case h => walk_at "h"); intro H1 n1)
  | ((with_reducible refine' go_dnew ?_); intro p H1 n1)
  | (with_reducible refine' go_cb ?_)
  | (with_reducible refine' go_callS ?_)
  | (with_reducible refine' go_call0 ?_)
  | ((with_reducible refine' go_lenL ?h ?_); (case h => walk_at "h"))
  | ((with_reducible refine' go_lenT ?h ?_); (case h => walk_at "h"))
  | ((with_reducible refine' go_lenK ?h ?_); (case h => walk_at "hk"))
  | ((with_reducible refine' go_listL ?h ?_); (case h => walk_at "h"); intro p H1 n1)
  | ((with_reducible refine' go_listT ?h ?_); (case h => walk_at "h"); intro p H1 n1)
  | ((with_reducible refine' go_tupleL ?h ?_); (case h => walk_at "h"); intro p H1 n1)
  | (with_reducible refine' go_intI ?_)
  | (with_reducible refine' go_intB ?_)
  | (with_reducible refine' go_abs ?_)
  | (with_reducible refine' go_min2 ?_)
  | (with_reducible refine' go_max2 ?_)
  | ((with_reducible refine' go_isi ?h ?k ?_); (case h => walk_at "ty"); (case k => exact kit_bb (by decide) (by decide)))
  | (with_reducible refine' go_lc ?_)
  | (with_reducible refine' go_for ?_)
  | (with_reducible refine' go_seqP ?_)
  | ((with_reducible refine' go_seqL ?h ?_); (case h => walk_at "h"))
  | ((with_reducible refine' go_seqT ?h ?_); (case h => walk_at "h"))
  | (with_reducible refine' go_seqS ?_)
  | (with_reducible refine' go_rng1 ?_)
  | (with_reducible refine' go_rng2 ?_)
  | ((with_reducible refine' go_rng1K ?h ?_); (case h => omega))
  | ((with_reducible refine' go_rng2K ?h ?_); (case h => omega))
  | (with_reducible refine' go_raise ?_)
  | ((with_reducible refine' go_tupG ?h ?k ?_); (case h => walk_at "h"); (case k => exact rfl))
  | ((with_reducible refine' go_lstG ?h ?k ?_); (case h => walk_at "h"); (case k => exact rfl))
  | (with_reducible refine' go_gNil ?_)
  | (with_reducible refine' go_tryAs ?_)
  | (with_reducible refine' go_tryMany1 ?_)
  | (with_reducible refine' go_tryMany2 ?_)
  | (with_reducible refine' go_WM ?_)
  | ((with_reducible refine' go_asT ?_); intro e he)
  | (with_reducible refine' go_asF ?_)
  | ((with_reducible refine' go_manyT ?_); intro e he)
  | (with_reducible refine' go_manyF ?_)
  | (with_reducible refine' go_manyN ?_)
  | (with_reducible refine' go_fld ?_)
  | ((with_reducible refine' go_FldK ?h ?c ?n ?l ?_); (case h => walk_at "h"); (case c => infer_instance); (case n => infer_instance); (case l => exact rfl))
  | (with_reducible refine' go_sfld ?_)
  | ((with_reducible refine' go_SFldK ?h ?c ?n ?l ?e ?_); (case h => walk_at "h"); (case c => infer_instance); (case n => infer_instance); (case l => exact Nat.le_of_ble_eq_true rfl); (case e => walk_at "pf"); intro H1 n1)
  | (with_reducible refine' go_meth ?_)
  | ((with_reducible refine' go_MethK 0 ?h ?l ?e ?_); (case h => walk_at "h"); (case l => exact rfl); (case e => exact rfl))
  | ((with_reducible refine' go_MethK 1 ?h ?l ?e ?_); (case h => walk_at "h"); (case l => exact rfl); (case e => exact rfl))
  | ((with_reducible refine' go_MethK 2 ?h ?l ?e ?_); (case h => walk_at "h"); (case l => exact rfl); (case e => exact rfl))
  | (with_reducible refine' go_make ?_)
  | (with_reducible refine' go_callX ?_)
  | (with_reducible refine' go_methX ?_)
  | ((with_reducible refine' go_MethXK ?h ?l ?_); (case h => walk_at "h"); (case l => exact rfl))
  | (with_reducible refine' go_dget ?_)
  | ((with_reducible refine' go_DGetS ?h ?l ?_); (case h => walk_at "h"); (case l => exact rfl))
  | (with_reducible refine' go_dput ?_)
  | ((with_reducible refine' go_DPutS ?h ?l ?e ?_); (case h => walk_at "h"); (case l => exact Nat.le_of_ble_eq_true rfl); (case e => walk_at "pk"); intro H1 n1)
  | ((with_reducible refine' go_disp ?_); intro p H1 n1)
  | (with_reducible refine' go_pairs ?_)
  | (with_reducible refine' go_pairs0 ?_)
  | ((with_reducible refine' go_DispS ?h ?e ?l ?k ?j ?m ?_); (case h => walk_at "h"); (case e => exact rfl); (case l => exact Nat.le_of_ble_eq_true rfl); (case k => (simp only [unS]; exact rfl)); (case j => (simp only [List.map_cons, List.map_nil]; exact rfl)); (case m => decide +kernel); intro H1 n1)
  | (with_reducible refine' go_par ?_)
  | ((with_reducible refine' go_ParK ?h ?_); (case h => (simp only [List.set_cons_zero, List.set_cons_succ]; exact rfl)))
  | (with_reducible refine' go_sub_ ?_)
  | ((with_reducible refine' go_setLi ?h ?k ?_); (case h => walk_at "h"); (case k => walk_at "ix"); intro H1 n1)
  | (with_reducible refine' go_listY ?_)
  | ((with_reducible refine' go_listYL ?h ?_); (case h => walk_at "h"))
  | (with_reducible refine' go_bmS ?_)
  | (with_reducible refine' go_ckw ?_)
  | ((with_reducible refine' go_maxD ?h ?_); (case h => walk_at "h"))
  | (with_reducible refine' go_listR ?_)
  | (with_reducible refine' go_rg2 ?_)
  | (with_reducible refine' go_Rg2K ?_)
  | (with_reducible refine' go_rg1 ?_)
  | (with_reducible refine' go_Rg1K ?_)
  | ((with_reducible refine' go_ListRK ?h ?_); (case h => omega); intro p H1 n1)
  | (with_reducible refine' go_enum ?_)
  | ((with_reducible refine' go_EnumL ?h ?_); (case h => walk_at "h"))
  | (with_reducible refine' go_isX ?_)
  | (with_reducible refine' go_isXt ?_)
  | (with_reducible refine' go_gCons ?_))
local macro_rules | `(tactic| walk_at "pf") => `(tactic| first
  | exact putF_nil
  | exact putF_hit
  | (refine' putF_miss ?h ?k; (case h => decide +kernel); (case k => walk_at "pf")))
local macro_rules | `(tactic| walk_at "pk") => `(tactic| first
  | exact putK_nil
  | exact putK_hit (by (simp only [List.map_cons, List.map_nil]; decide +kernel))
  | (refine' putK_miss ?h ?k; (case h => decide +kernel); (case k => walk_at "pk")))
local macro_rules | `(tactic| walk_at "ix") => `(tactic| first
  | assumption
  | omega
  | (simp only [List.length_cons, List.length_nil, List.length_append, List.length_map, List.length_range, List.length_replicate, List.length_set] at *; omega))
local macro_rules | `(tactic| walk_at "pr") => `(tactic| first
  | assumption
  | decide
  | omega
  | exact rfl
  | (intro z; cases z; done))
local macro_rules | `(tactic| walk_at "hk") => `(tactic| first
  | assumption
  | exact seq' (by assumption) (by walk_at "sm"))
local macro_rules | `(tactic| walk_at "ty") => `(tactic| first
  | exact rfl
  | assumption
  | exact tyN_L (by walk_at "h")
  | exact tyN_T (by walk_at "h")
  | exact tyN_D (by walk_at "h"))
local macro_rules | `(tactic| walk_at "go") => `(tactic| repeat (walk_at "s"))
section
variable {K : PySem.W.Frag} {a : Ac} {H : Hp} {Q : VK} {E : XK} [F : Fc K a] {d r : Addr} {R : List (List Int)} {done : Int} {k : Option Nat}
theorem p_writesE (h : DkEx a [] H d r R done k) (q : Q (.int done) H) : sp_Disk_writes K a [.ref d] H Q E := by obtain ⟨ps, h⟩ := h; exact p_writes h.toDiskAt q
theorem p_writeF {i : Int} {p : Addr} {row : List Int} (h : DkEx a [] H d r R done none) (i0 : 0 ≤ i) (i1 : i < R.length) (hp : H p = some (.lst (row.map V.int))) (g : GoodRow row)
    (q : ∀ H', Chg [d, r] H H' → DkEx a [] H' d r (R.set i.toNat row) (done + 1) none → Q .non H') : sp_Disk_write K a [.ref d, .int i, .ref p] H Q E := by
  obtain ⟨ps, h⟩ := h
  refine p_write h.toDiskAt (n := "int") rfl (.good hp g) (fun i' row' ei _ _ er nl p' H' c pn h' => ?_) (fun z => ?_) (fun _ z => by cases z) (fun _ _ el H' s => by cases el)
  · cases ei; cases er
    exact q H' c ⟨_, h.chg' c h' (out_set h.ex h.out pn)⟩
  · rw [isBlk_of i0 i1] at z; cases z
omit F in
theorem DkEx.own (h : DkEx a [] H d r R done k) : ∀ b ∈ [d, r], NotInts H b ∧ NotTup H b := by obtain ⟨ps, h⟩ := h; exact fun b hb => ⟨h.toDiskAt.own b hb, h.toDiskAt.ownT b hb⟩
omit F in
theorem DkEx.ne {x : Addr} {xs : List V} (h : DkEx a [] H d r R done k) (e : H x = some (.lst xs)) : x ≠ d := by obtain ⟨ps, h⟩ := h; obtain ⟨dx, e2⟩ := h.dd; exact ne_obj e e2 (by simp)
omit F in
theorem DkEx.fresh {x : Addr} (h : DkEx a [] H d r R done k) (e : H x = none) : x ≠ r := fun z => by obtain ⟨ps, h⟩ := h; rw [z, h.rr] at e; cases e
omit F in
theorem DkEx.many (h : DkEx a [] H d r R done k) : 24 ≤ R.length ∧ R.length ≤ 96 := by obtain ⟨ps, h⟩ := h; exact h.toDiskAt.many
omit F in
theorem DkEx.good (h : DkEx a [] H d r R done k) : ∀ row ∈ R, GoodRow row := by obtain ⟨ps, h⟩ := h; exact h.toDiskAt.good
omit F in
theorem DkEx.neRow {p : Addr} {ns : List Int} (h : DkEx a [] H d r R done k) (e : H p = some (.lst (ns.map V.int))) : p ≠ d ∧ p ≠ r := by obtain ⟨ps, h⟩ := h; exact h.toDiskAt.neRow e
/-- all rows of the disk, told anew -/
theorem lc_rows {σ : Bk.St} {m j : Nat} {n : Int} (h : DkEx a [] H d r R done k) (hn : n = R.length) (hσ : σ[j]? = some (some (.ref d))) (hm : m < σ.length) (hj : m ≠ j) (q : ∀ L ls H', Same H H' → H L = none → RowsAt H' L ls R → Q (.ref L) H') :
    LcK (gName m) tYes (tCB (rListP K) (tCons (tMethP "read" [(a.Disk, sp_Disk_read K a)] (WE W0) (tVar j) (tCons (tVar m) tNil)) tNil)) [m] σ Q (Itr 0 n.toNat) H := by
  have many := h.many
  have gR := h.good
  refine lc_newR (o := fun i => .lst ((R.getD i []).map V.int)) (by rw [sizeLine_eq]; omega) (fun i H' Q' hi s q' => ?_) (fun D qs H2 hD s2 hq w2 hd2 => ?_)
  · have h2 := h.same s
    have hi2 : i < R.length := by omega
    have sj : ((σ.set m none).set m (some (.int (0 + (i : Int)))))[j]? = some (some (.ref d)) := by rw [List.getElem?_set_ne hj, List.getElem?_set_ne hj]; exact hσ
    have sm : ((σ.set m none).set m (some (.int (0 + (i : Int)))))[m]? = some (some (.int (0 + (i : Int)))) := List.getElem?_set_self (by simpa using hm)
    refine go_cb (go_cons (go_meth (go_var sj ?_)))
    refine go_methD h2 (fun _ _ _ => rfl) ?_
    refine go_cons (go_var sm (go_nil ?_))
    refine p_readE h2 (by omega) (row := R[i]) (by simp [hi2]) fun p3 H3 s3 p3n p33 => ?_
    walk_at "go"
    rename_i p4 H4 n4
    refine q' p4 H4 (s3.trans n4.same) (s3.free n4.free) ?_
    rw [n4.at, List.getD_eq_getElem?_getD, List.getElem?_eq_getElem hi2]; rfl
  · refine q D qs H2 s2 hD ⟨hd2, by omega, fun i p e => ?_⟩
    have hi : i < R.length := by have := (List.getElem?_eq_some_iff.mp e).1; omega
    refine ⟨R[i], List.getElem?_eq_getElem hi, fun z => ?_, ?_⟩
    · have := (gR R[i] (List.getElem_mem hi)).1
      rw [z] at this; cases this
    · rw [w2.at_ i p e, List.getD_eq_getElem?_getD, List.getElem?_eq_getElem hi]; rfl
omit F in
theorem rows_eq {L L2 : Addr} {ls ls2 : List Addr} {Z : List (List Int)} (h : RowsAt H L ls Z) (h2 : RowsAt H L2 ls2 Z) (q : Q (.bl true) H) : rEqP K (.ref L) (.ref L2) H Q :=
  go_eqSame (d := .list (rowsD Z)) (.lst (SqL.of h.rr) (dp_rows h.len fun i p e => let ⟨row, a, _, b⟩ := h.row i p e; ⟨row, a, b⟩)) (.lst (SqL.of h2.rr) (dp_rows h2.len fun i p e => let ⟨row, a, _, b⟩ := h2.row i p e; ⟨row, a, b⟩)) (shaped_rows Z) q
omit F in
theorem headHomes_take {n : Nat} {h hs : List Int} (e : headHomes n h = some hs) : hs = (h.drop 1).take (h.getD 0 0).toNat ∧ h.getD 0 0 ≤ 15 := by
  unfold headHomes at e
  split at e
  · cases e
  · split at e
    · cases e
    · split at e
      · cases e; exact ⟨rfl, by omega⟩
      · cases e
omit F in
theorem applyW_take (ws : List (Nat × List Int)) (i : Nat) (w : Nat × List Int) (h : ws[i]? = some w) (R : List (List Int)) : applyW (ws.take (i + 1)) R = (applyW (ws.take i) R).set w.1 w.2 := by
  rw [take_succ_of h, applyW_app]; rfl
omit F in
/-- a right head that tells no homes is all noughts -/
theorem head_nil {n : Nat} {h : List Int} (g : GoodRow h) (e : headHomes n h = some []) : h = List.replicate 16 0 := by
  obtain ⟨e1, e2⟩ := headHomes_take e
  have l := g.1
  have c0 : 0 ≤ h.getD 0 0 := by
    rw [List.getD_eq_getElem?_getD, List.getElem?_eq_getElem (by omega)]
    exact (g.2 _ (List.getElem_mem _)).1
  have ez : (h.getD 0 0).toNat = 0 := by
    have := congrArg List.length e1
    rw [List.length_nil, List.length_take, List.length_drop, l] at this
    omega
  have c : h.getD 0 0 = 0 := by omega
  unfold headHomes at e
  rw [c, if_neg (by omega)] at e
  split at e
  · cases e
  · rename_i c2
    refine List.ext_getElem (by simp [l]) fun i h1 h2 => ?_
    rw [List.getElem_replicate]
    have r := (g.2 _ (List.getElem_mem h1)).1
    cases i with
    | zero =>
      rw [List.getD_eq_getElem?_getD, List.getElem?_eq_getElem (by omega)] at c
      exact c
    | succ i =>
      by_cases z : 0 < h[i + 1]
      · refine absurd (List.any_eq_true.mpr ⟨h[i + 1], ?_, decide_eq_true z⟩) c2
        rw [List.mem_iff_getElem?]
        refine ⟨i, ?_⟩
        rw [List.getElem?_drop, show 1 + (0 : Int).toNat + i = i + 1 by rw [Int.toNat_zero]; omega]
        exact List.getElem?_eq_getElem h1
      · omega
def rest5 (K : PySem.W.Frag) (a : Ac) (E : XK) : TS :=
  tSeq (tAsg (tLc (iRng1 (tCons (tMethP "blocks" [(a.Disk, sp_Disk_blocks K a)] (WE (WM E)) (tVar 0) tNil) (tNil))) (gName 10) (tYes) (tCB ((rListP K)) (tCons (tMethP "read" [(a.Disk, sp_Disk_read K a)] (WE W0) (tVar 0) (tCons (tVar 10) (tNil))) (tNil))) [10]) (gName 8)) (tSeq (tIfS (tNot (tB (tCallS (sp_L_is_right K a) (WE (WM E)) (tCons (tVar 1) (tCons (tMethP "blocks" [(a.Disk, sp_Disk_blocks K a)] (WE (WM E)) (tVar 0) tNil) (tNil)))))) (tRet (tAndV (tOp (rEqP K) (tVar 5) (tC (.str "log"))) (tAndV (tOp (rEqP K) (tMethP "writes" [(a.Disk, sp_Disk_writes K a)] (WE (WM E)) (tVar 0) tNil) (tVar 4)) (tOp (rEqP K) (tVar 8) (tVar 3))))) (tNext)) (tSeq (tFor (iRng1 (tCons (tOp (rIxP K) (tVar 1) (tC (.int 0))) (tNil))) (gName 2) (tAsg (tOp (rIxP K) (tVar 3) (tOp rAddP (tC (.int 2)) (tVar 2))) (gSub (tVar 3) (tOp (rIxP K) (tVar 1) (tOp rAddP (tC (.int 1)) (tVar 2))) rSetL))) (tSeq (tAsg (tOp rMulP (tLst (tCons (tC (.int 0)) (tNil))) (tC (.int 16))) (gSub (tVar 3) (tC (.int 1)) rSetL)) (tSeq (tIfS (tOr (tTest (tOp (rNeP K) (tVar 5) (tC (.str "")))) (tOr (tNot (tB (tCB ((rIsi K)) (tCons (tVar 6) (tCons (tC (.ty "int")) (tNil)))))) (tOr (tB (tCB ((rIsi K)) (tCons (tVar 6) (tCons (tC (.ty "bool")) (tNil))))) (tTest (tOp (rNeP K) (tVar 6) (tOp (rIxP K) (tVar 1) (tC (.int 0)))))))) (tRet (tC (.bl false))) (tNext)) (tSeq (tAsg (tOp rMulP (tOp rAddP (tOp (rIxP K) (tVar 1) (tC (.int 0))) (tC (.int 1))) (tCB (rIntP) (tCons (tOp rGtP (tOp (rIxP K) (tVar 1) (tC (.int 0))) (tC (.int 0))) (tNil)))) (gName 9)) (tRet (tAndV (tOp (rEqP K) (tMethP "writes" [(a.Disk, sp_Disk_writes K a)] (WE (WM E)) (tVar 0) tNil) (tOp rAddP (tVar 4) (tVar 9))) (tOp (rEqP K) (tVar 8) (tVar 3)))))))))
theorem comes_back_5 {hp L : Addr} {ls : List Addr} {head : List Int} {v2 : Option V} (h : DkEx a [] H d r R done none) (hr : R[1]? = some head) (hh : H hp = some (.lst (head.map V.int))) (lr : RowsAt H L ls R) (Lr : L ≠ r) (q : ∀ H', Q (.bl true) H') :
    t_L_comes_back_5 K a E ⟨fun _ H' => Q .non H', Q, F0, F0⟩ [some (.ref d), some (.ref hp), v2, some (.ref L), some (.int done), some (.str ""), none, none, none, none, none] H := by
  unfold t_L_comes_back_5
  have g : GoodRow head := h.good _ (List.mem_of_getElem? hr)
  have many := h.many
  have hpn := h.neRow hh
  have e0 : head[0]? = some (head.getD 0 0) := by rw [List.getD_eq_getElem?_getD, List.getElem?_eq_getElem (by rw [g.1]; omega)]; rfl
  have c0 : 0 ≤ head.getD 0 0 := (g.2 _ (List.mem_of_getElem? e0)).1
  obtain ⟨c, hc⟩ : ∃ c, head.getD 0 0 = c := ⟨_, rfl⟩
  rw [hc] at e0 c0
  have at0 : atI (head.map V.int) 0 = some (.int c) := by rw [atI_in (by omega), List.getElem?_map, show (0 : Int).toNat = 0 from rfl, e0]; rfl
  -- the homes are right
  have good : ∀ (hs : List Int) (H1 : Hp), headHomes R.length head = some hs → Chg [d, r] H H1 → DkEx a [] H1 d r (applyW (carryW hs R) R) (done + (hs.length + 1) * (if decide (0 < (hs.length : Int)) = true then 1 else 0)) none →
      rest5 K a E ⟨fun _ H' => Q .non H', Q, F0, F0⟩ [some (.ref d), some (.ref hp), v2, some (.ref L), some (.int done), some (.str ""), some (.int hs.length), none, none, none, none] H1 := by
    intro hs H1 e c1 h1
    unfold rest5
    obtain ⟨e1, e2⟩ := headHomes_take e
    rw [hc] at e1 e2
    have hh1 := headHomes_some g e
    have lc : (hs.length : Int) = c := by
      have := congrArg List.length e1
      rw [List.length_take, List.length_drop, g.1] at this
      omega
    have hhp : H1 hp = some (.lst (head.map V.int)) := c1.at (by simp [hpn.1, hpn.2]) hh
    have lr1 := lr.chg c1 (by simp [Lr, h.ne lr.rr]) (fun b hb => (h.own b hb).1)
    walk_at "go"
    refine go_methD h1 (fun _ _ _ => rfl) ?_
    walk_at "go"
    refine p_blocksE h1 ?_
    walk_at "go"
    refine go_rng1K (by rw [applyW_len]; omega) ?_
    refine lc_rows (j := 0) h1 rfl rfl (by show _ < 11; decide) (by decide) fun L2 ls2 H2 s2 L2n lr2 => ?_
    have h2 := h1.same s2
    have lr12 := lr1.same s2
    have hhp2 := s2 _ _ hhp
    walk_at "go"
    refine go_methD h2 (fun _ _ _ => rfl) ?_
    walk_at "go"
    refine p_blocksE h2 ?_
    rw [applyW_len]
    walk_at "go"
    refine p_is_right hhp2 g fun H3 s3 => ?_
    rw [e]
    have h3 := h2.same s3
    have lr3 := lr12.same s3
    have lr23 := lr2.same s3
    have hhp3 := s3 _ _ hhp2
    have L2L : L2 ≠ L := Ne.symm (ne_none L2n lr1.rr)
    walk_at "go"
    refine go_ixL hhp3 at0 ?_
    walk_at "go"
    have hpL : hp ≠ L := fun z => by
      rw [z] at hhp3
      exact NotInts.refs lr3.rr head (by intro y; have := g.1; rw [y] at this; cases this) hhp3
    have dkL : ∀ {H' H'' : Hp} {xs : List Addr} {ys : List V} {done' : Int} {R' : List (List Int)}, DkEx a [] H' d r R' done' none → H' L = some (.lst (xs.map V.ref)) → Wr H' L (.lst ys) H'' → DkEx a [] H'' d r R' done' none := fun dk e w => by
      have nd := dk.ne e
      obtain ⟨ps, dk⟩ := dk
      exact ⟨ps, dk.toDiskAt.chg2 (S := [L]) (.wr w (by simp)) (by simpa using Ne.symm nd) (by simpa using Ne.symm Lr) (fun b hb => by rw [List.mem_singleton.mp hb]; exact .refs e), fun _ _ => by simp, fun t ht => by cases ht⟩
    refine for_R (fun i σ' H' => ∃ (v2 : Option V) (ls' : List Addr), σ' = [some (.ref d), some (.ref hp), v2, some (.ref L), some (.int done), some (.str ""), some (.int hs.length), none, some (.ref L2), none, none] ∧ RowsAt H' L ls' (applyW ((homeW hs R).take i) R) ∧ RowsAt H' L2 ls2 (applyW (carryW hs R) R) ∧
      DkEx a [] H' d r (applyW (carryW hs R) R) (done + (hs.length + 1) * (if decide (0 < (hs.length : Int)) = true then 1 else 0)) none ∧ H' hp = some (.lst (head.map V.int))) ⟨v2, ls, rfl, lr3, lr23, h3, hhp3⟩ ?_ ?_
    · rintro i σ' H4 hi ⟨v2, ls', rfl, lr4, lr24, h4, hhp4⟩
      have hi2 : i < hs.length := by omega
      obtain ⟨b1, b2⟩ := hh1.2 _ (List.getElem_mem hi2)
      have ew : (homeW hs R)[i]? = some ((hs[i]).toNat, R.getD (2 + i) []) := by simp [homeW, hi2, List.getD_eq_getElem?_getD]
      have hwne : ∀ w ∈ (homeW hs R).take i, w.1 ≠ 2 + i := fun w hw => by
        obtain ⟨j, hj, rfl⟩ := List.mem_map.mp (List.mem_of_mem_take hw)
        have hj := List.mem_range.mp hj
        have := hh1.2 _ (List.getElem_mem hj)
        have few := hh1.1
        simp only [List.getD_eq_getElem?_getD, List.getElem?_eq_getElem hj, Option.getD_some]
        omega
      have hrow : R[2 + i]? = some (R.getD (2 + i) []) := by rw [List.getD_eq_getElem?_getD, List.getElem?_eq_getElem (by have := hh1.1; omega)]; rfl
      obtain ⟨p0, row, f1, f2, f3, f4⟩ := lr4.at (i := 2 + i) (by rw [applyW_len]; have := hh1.1; omega)
      rw [applyW_ne _ _ hwne, hrow] at f2
      obtain rfl := Option.some.inj f2
      have hat : head[1 + i]? = some (hs[i]) := by
        have e3 : hs[i]? = some hs[i] := List.getElem?_eq_getElem hi2
        have e4 : ((head.drop 1).take c.toNat)[i]? = some hs[i] := by rw [← e1]; exact e3
        rw [List.getElem?_take_of_lt (by omega), List.getElem?_drop] at e4
        exact e4
      have rr4 := lr4.rr
      have ll := lr4.len
      rw [applyW_len] at ll
      simp only [List.set_cons_zero, List.set_cons_succ, Int.zero_add]
      walk_at "go"
      refine go_ixAt rr4 (by omega) (v := .ref p0) (by rw [show (2 + (i : Int)).toNat = 2 + i by omega, List.getElem?_map, f1]; rfl) ?_
      walk_at "go"
      refine go_ixAt hhp4 (by omega) (v := .int hs[i]) (by rw [show (1 + (i : Int)).toNat = 1 + i by omega, List.getElem?_map, hat]; rfl) ?_
      have hix : 0 ≤ hs[i] ∧ hs[i] < ((ls'.map V.ref).length : Nat) := ⟨by omega, by rw [List.length_map, ll]; omega⟩
      refine go_setLi rr4 hix fun H5 w5 => ?_
      have c5 : Chg [L] H4 H5 := .wr w5 (by simp)
      refine ⟨_, ls'.set (hs[i]).toNat p0, rfl, ?_, lr24.chg c5 (by simpa using L2L) (fun b hb => by rw [List.mem_singleton.mp hb]; exact .refs rr4), dkL h4 rr4 w5, c5.at (by simpa using hpL) hhp4⟩
      rw [applyW_take _ i _ ew]
      exact lr4.put w5 f4 f3
    · rintro σ' H4 ⟨v2, ls', rfl, lr4, lr24, h4, hhp4⟩
      rw [List.take_of_length_le (by simp [homeW]; omega)] at lr4
      walk_at "go"
      rename_i p5 H5 n5 p6 H6 n6
      have s6 := n5.same.trans n6.same
      have lr6 := lr4.same s6
      have n6' : H6 p6 = some (.lst ((List.replicate 16 (0 : Int)).map V.int)) := n6.at
      have rr6 := lr6.rr
      have ll6 := lr6.len
      rw [applyW_len] at ll6
      refine go_setLi rr6 ⟨by omega, by rw [List.length_map, ll6]; omega⟩ fun H7 w7 => ?_
      have c7 : Chg [L] H6 H7 := .wr w7 (by simp)
      have lr7 : RowsAt H7 L (ls'.set 1 p6) (applyW (carryW hs R) R) := by
        rw [carryW, applyW_app]
        exact lr6.put w7 n6' (by simp)
      have lr27 := (lr24.same s6).chg c7 (by simpa using L2L) (fun b hb => by rw [List.mem_singleton.mp hb]; exact .refs rr6)
      have h7 := dkL (h4.same s6) rr6 w7
      have hhp7 : H7 hp = some (.lst (head.map V.int)) := c7.at (by simpa using hpL) (s6 _ _ hhp4)
      walk_at "go"
      refine go_ixL hhp7 at0 ?_
      walk_at "go"
      refine go_ixL hhp7 at0 ?_
      walk_at "go"
      refine go_ixL hhp7 at0 ?_
      walk_at "go"
      refine go_methD h7 (fun _ _ _ => rfl) ?_
      walk_at "go"
      refine p_writesE h7 ?_
      rw [lc]
      walk_at "go"
      exact rows_eq lr27 lr7 (q _)
  refine go_seq (u := rest5 K a E) ?_
  walk_at "go"
  refine p_come_back h hr (fun e H1 s1 => ?_) (fun e H1 s1 => ?_) (fun hs e hne => ⟨fun _ H1 c1 h1 => ?_, fun n en => nomatch en⟩)
  · walk_at "go"
    refine p_word a.BadLog 3 (.inr (.inr (.inr ⟨rfl, rfl⟩))) fun H2 s2 => ?_
    have s02 := s1.trans s2
    have h2 := h.same s02
    have hh2 := s02 _ _ hh
    have lr2 := lr.same s02
    walk_at "go"
    unfold rest5
    walk_at "go"
    refine go_methD h2 (fun _ _ _ => rfl) ?_
    walk_at "go"
    refine p_blocksE h2 ?_
    walk_at "go"
    refine lc_rows (j := 0) h2 rfl rfl (by show _ < 11; decide) (by decide) fun L2 ls2 H3 s3 L2n lr3 => ?_
    have h3 := h2.same s3
    walk_at "go"
    refine go_methD h3 (fun _ _ _ => rfl) ?_
    walk_at "go"
    refine p_blocksE h3 ?_
    walk_at "go"
    refine p_is_right (s3 _ _ hh2) g fun H4 s4 => ?_
    rw [e]
    have h4 := h3.same s4
    walk_at "go"
    refine go_methD h4 (fun _ _ _ => rfl) ?_
    walk_at "go"
    refine p_writesE h4 ?_
    walk_at "go"
    exact rows_eq (lr3.same s4) ((lr2.same s3).same s4) (q _)
  · walk_at "go"
    have ez := head_nil g e
    have eR : applyW (carryW [] R) R = R := by
      show R.set 1 (List.replicate 16 0) = R
      refine List.ext_getElem? fun j => ?_
      by_cases z : 1 = j
      · subst z
        rw [List.getElem?_set_self (by omega), hr, ez]
      · rw [List.getElem?_set_ne z]
    exact good [] H1 e (.of s1) (by rw [eR]; simpa using h.same s1)
  · walk_at "go"
    have l1 : (carryW hs R).length = hs.length + 1 := by simp [carryW, homeW]
    have l0 : 0 < hs.length := List.length_pos_iff.mpr hne
    refine good hs H1 e c1 ?_
    rw [decide_eq_true (by omega), if_pos rfl]
    rw [l1] at h1
    have e3 : done + ((hs.length : Int) + 1) * 1 = done + ((hs.length + 1 : Nat) : Int) := by omega
    rw [e3]
    exact h1
theorem p_comes_back {hp : Addr} {head : List Int} (h : DkEx a [] H d r R done none) (hh : H hp = some (.lst (head.map V.int))) (g : GoodRow head) (q : ∀ H', Q (.bl true) H') : sp_L_comes_back K a [.ref d, .ref hp] H Q E := by
  refine in_L_comes_back ?_
  unfold t_L_comes_back
  have many := h.many
  have hpn := h.neRow hh
  have e0 : head[0]? = some (head.getD 0 0) := by rw [List.getD_eq_getElem?_getD, List.getElem?_eq_getElem (by rw [g.1]; omega)]; rfl
  have at0 : atI (head.map V.int) 0 = some (.int (head.getD 0 0)) := by rw [atI_in (by omega), List.getElem?_map, show (0 : Int).toNat = 0 from rfl, e0]; rfl
  generalize head.getD 0 0 = c at at0
  walk_at "go"
  refine for_R (fun i σ' H' => ∃ v2 R' done', σ' = [some (.ref d), some (.ref hp), v2, none, none, none, none, none, none, none, none] ∧ DkEx a [] H' d r R' done' none ∧ R'.length = R.length ∧ H' hp = some (.lst (head.map V.int))) ⟨_, R, done, rfl, h, rfl, hh⟩ ?_ ?_
  · rintro i σ' H1 hi ⟨v2, R', done', rfl, h1, hl, hh1⟩
    simp only [List.set_cons_zero, List.set_cons_succ, Int.zero_add]
    walk_at "go"
    refine go_methD h1 (fun _ _ _ => rfl) ?_
    walk_at "go"
    refine go_ixL hh1 at0 ?_
    walk_at "go"
    refine p_rowOf fun p H2 s2 pn hp2 => ?_
    have hi2 : i < 15 := by omega
    walk_at "go"
    refine p_writeF (h1.same s2) (by omega) (by omega) hp2 (good_rowOf _) fun H3 c3 h3 => ?_
    walk_at "go"
    exact ⟨_, _, _, rfl, h3, by simp [hl], c3.at (by simp [hpn.1, hpn.2]) (s2 _ _ hh1)⟩
  · rintro σ' H1 ⟨v2, R', done', rfl, h1, hl, hh1⟩
    walk_at "go"
    refine go_methD h1 (fun _ _ _ => rfl) ?_
    walk_at "go"
    refine p_writeF h1 (by omega) (by omega) hh1 g fun H3 c3 h3 => ?_
    have hh3 := c3.at (by simp [hpn.1, hpn.2]) hh1
    walk_at "go"
    refine go_methD h3 (fun _ _ _ => rfl) ?_
    walk_at "go"
    refine p_blocksE h3 ?_
    rw [List.length_set, hl]
    walk_at "go"
    refine lc_rows (j := 0) h3 (by rw [List.length_set, hl]) rfl (by show _ < 11; decide) (by decide) fun L ls H4 s4 Ln lr => ?_
    have h4 := h3.same s4
    walk_at "go"
    refine go_methD h4 (fun _ _ _ => rfl) ?_
    walk_at "go"
    refine p_writesE h4 ?_
    walk_at "go"
    exact comes_back_5 h4 (by rw [show (1 : Int).toNat = 1 from rfl, List.getElem?_set_self (by omega)]) (s4 _ _ hh3) lr (h3.fresh Ln) q
end
end Bk

namespace Bk
open PySem L2 PyProof.Rows
/-! our own short tactics: h: what stands at a place; ne: two places; sm: what stood stands; z: a size; s: a step; go: steps -/
local macro_rules | `(tactic| walk_at "h") => `(tactic| first
  | assumption
  | exact New.at (by assumption)
  | exact Wr.at (by assumption)
  | (refine' New.old (by assumption) ?_; walk_at "h")
  | (refine' Same.at (by assumption) ?_; walk_at "h")
  | (refine' Wr.old (by assumption) ?_ ?_; walk_at "ne"; walk_at "h")
  | (refine' Chg.at (by assumption) ?_ ?_; walk_at "ni"; walk_at "h"))
local macro_rules | `(tactic| walk_at "ni") => `(tactic| first
  | exact ni_nil
  | assumption
  | (refine' ni_cons ?_ ?_; walk_at "ne"; walk_at "ni"))
local macro_rules | `(tactic| walk_at "ne") => `(tactic| first
  | assumption
  | exact Ne.symm (by assumption)
  | exact New.ne (by assumption) (by walk_at "h")
  | exact ne_none (by assumption) (by walk_at "h")
  | exact Ne.symm (ne_none (by assumption) (by walk_at "h"))
  | exact Ne.symm (New.ne (by assumption) (by walk_at "h")))
local macro_rules | `(tactic| walk_at "sm") => `(tactic| first
  | exact Same.refl _
  | assumption
  | (refine' Same.trans ?_ (New.same (by assumption)); walk_at "sm")
  | (refine' Same.trans ?_ (by assumption : Same _ _); walk_at "sm"))
local macro_rules | `(tactic| walk_at "z") => `(tactic| first
  | assumption
  | (rw [PySem.sizeLine_eq]; omega)
  | (rw [PySem.sizeLine_eq]; simp only [List.length_cons, List.length_nil, List.length_append, List.length_map, List.length_range, List.length_replicate, len_cut]; omega)
  | (rw [PySem.sizeLine_eq]; simp only [List.length_cons, List.length_nil, List.length_append, List.length_map, List.length_range, List.length_replicate, len_cut] at *; omega))
local macro_rules | `(tactic| walk_at "s") => `(tactic| first
  | ((with_reducible refine' go_var ?h ?_); (case h => exact rfl))
  | (with_reducible refine' go_c ?_)
  | (with_reducible refine' go_op ?_)
  | (with_reducible refine' go_un ?_)
  | (with_reducible refine' go_rU ?_)
  | (with_reducible refine' go_seq ?_)
  | (with_reducible refine' go_ret ?_)
  | (with_reducible refine' go_retN ?_)
  | (with_reducible refine' go_next ?_)
  | (with_reducible refine' go_drop ?_)
  | (with_reducible refine' go_asg ?_)
  | ((with_reducible refine' go_name2 ?h ?_); (case h => (simp only [List.set_cons_zero, List.set_cons_succ]; exact rfl)))
  | ((with_reducible refine' go_name2 ?h ?_); (case h => exact rfl))
  | (with_reducible refine' go_ifS ?_)
  | (with_reducible refine' go_blk ?_)
  | (with_reducible refine' go_test ?_)
  | (with_reducible refine' go_tB ?_)
  | (with_reducible refine' go_and ?_)
  | (with_reducible refine' go_or ?_)
  | (with_reducible refine' go_not ?_)
  | (with_reducible refine' go_andV ?_)
  | (with_reducible refine' go_orV ?_)
  | (with_reducible refine' go_notV ?_)
  | (with_reducible refine' go_if ?_)
  | (with_reducible refine' go_chain ?_)
  | (with_reducible refine' iteT ?_)
  | (with_reducible refine' iteF ?_)
  | ((with_reducible refine' go_Td ?h ?_); (case h => walk_at "pr"))
  | ((with_reducible refine' go_Fd ?h ?_); (case h => walk_at "pr"))
  | ((with_reducible refine' go_Tn ?h ?_); (case h => walk_at "pr"))
  | ((with_reducible refine' go_Fn ?h ?_); (case h => walk_at "pr"))
  | ((with_reducible refine' go_T ?h ?_); (case h => (first | decide | assumption | exact rfl)))
  | ((with_reducible refine' go_F ?h ?_); (case h => (first | decide | assumption | exact rfl)))
  | (with_reducible refine' go_nil ?_)
  | (with_reducible refine' go_cons ?_)
  | (with_reducible refine' go_tLst ?_)
  | (with_reducible refine' go_tTup ?_)
  | ((with_reducible refine' go_LstK ?h ?_); (case h => walk_at "z"); intro p H1 n1)
  | ((with_reducible refine' go_TupK ?h ?_); (case h => walk_at "z"); intro p H1 n1)
  | (with_reducible refine' go_addI ?_)
  | ((with_reducible refine' go_addL ?h ?k ?z ?_); (case h => walk_at "h"); (case k => walk_at "h"); (case z => walk_at "z"); intro p H1 n1)
  | (with_reducible refine' go_sub ?_)
  | ((with_reducible refine' go_mulI ?h ?_); (case h => (unfold CMul; omega)))
  | ((with_reducible refine' go_mulL ?h ?k ?_); (case h => walk_at "h"); (case k => (refine ⟨by omega, by omega, ?_⟩; walk_at "z")); intro p H1 n1)
  | ((with_reducible refine' go_div ?h ?_); (case h => (unfold CDiv; omega)))
  | ((with_reducible refine' go_mod ?h ?_); (case h => omega))
  | (with_reducible refine' go_p109 ?_)
  | (with_reducible refine' go_p1020 ?_)
  | ((with_reducible refine' go_pow ?h ?_); (case h => (unfold CPow; omega)))
  | (with_reducible refine' go_lt ?_)
  | (with_reducible refine' go_le ?_)
  | (with_reducible refine' go_gt ?_)
  | (with_reducible refine' go_ge ?_)
  | (with_reducible refine' go_eqI ?_)
  | (with_reducible refine' go_eqB ?_)
  | (with_reducible refine' go_eqS ?_)
  | (with_reducible refine' go_neI ?_)
  | (with_reducible refine' go_neB ?_)
  | (with_reducible refine' go_neS ?_)
  | (with_reducible refine' go_isN ?_)
  | (with_reducible refine' go_isNotN ?_)
  | (with_reducible refine' go_isB ?_)
  | (with_reducible refine' go_isNotB ?_)
  | (with_reducible refine' go_sl ?_)
  | (with_reducible refine' go_noPart ?_)
  | (with_reducible refine' go_part ?_)
  | (with_reducible refine' go_intK ?_)
  | ((with_reducible refine' go_slL ?h ?_); (case h => walk_at "h"); intro p H1 n1)
  | ((with_reducible refine' go_ixL ?h ?k ?_); (case h => walk_at "h"); (case k => exact rfl))
  | ((with_reducible refine' go_ixT ?h ?k ?_); (case h => walk_at "h"); (case k => exact rfl))
  | ((with_reducible refine' go_slW ?h ?_); (case h => walk_at "h"))
  | (with_reducible refine' go_bm ?_)
  | (with_reducible refine' go_bm0 ?_)
  | ((with_reducible refine' go_bmL ?h ?_); (case h => walk_at "h"))
  | ((with_reducible refine' go_append ?h ?k ?_); (case h => walk_at "h"); (case k => walk_at "z"); intro H1 n1)
  | ((with_reducible refine' go_extend ?h ?k ?z ?_); (case h => walk_at "h"); (case k => walk_at "h"); (case z => walk_at "z"); intro H1 n1)
  | ((with_reducible refine' go_clear ?h ?_); (case h => walk_at "h"); intro H1 n1)
  | ((with_reducible refine' go_dnew ?_); intro p H1 n1)
  | (with_reducible refine' go_cb ?_)
  | (with_reducible refine' go_callS ?_)
  | (with_reducible refine' go_call0 ?_)
  | ((with_reducible refine' go_lenL ?h ?_); (case h => walk_at "h"))
  | ((with_reducible refine' go_lenT ?h ?_); (case h => walk_at "h"))
  | ((with_reducible refine' go_lenK ?h ?_); (case h => walk_at "hk"))
  | ((with_reducible refine' go_listL ?h ?_); (case h => walk_at "h"); intro p H1 n1)
  | ((with_reducible refine' go_listT ?h ?_); (case h => walk_at "h"); intro p H1 n1)
  | ((with_reducible refine' go_tupleL ?h ?_); (case h => walk_at "h"); intro p H1 n1)
  | (with_reducible refine' go_intI ?_)
  | (with_reducible refine' go_intB ?_)
  | (with_reducible refine' go_abs ?_)
  | (with_reducible refine' go_min2 ?_)
  | (with_reducible refine' go_max2 ?_)
  | ((with_reducible refine' go_isi ?h ?k ?_); (case h => walk_at "ty"); (case k => exact kit_bb (by decide) (by decide)))
  | (with_reducible refine' go_lc ?_)
  | (with_reducible refine' go_for ?_)
  | (with_reducible refine' go_seqP ?_)
  | ((with_reducible refine' go_seqL ?h ?_); (case h => walk_at "h"))
  | ((with_reducible refine' go_seqT ?h ?_); (case h => walk_at "h"))
  | (with_reducible refine' go_seqS ?_)
  | (with_reducible refine' go_rng1 ?_)
  | (with_reducible refine' go_rng2 ?_)
  | ((with_reducible refine' go_rng1K ?h ?_); (case h => omega))
  | ((with_reducible refine' go_rng2K ?h ?_); (case h => omega))
  | (with_reducible refine' go_raise ?_)
  | ((with_reducible refine' go_tupG ?h ?k ?_); (case h => walk_at "h"); (case k => exact rfl))
  | ((with_reducible refine' go_lstG ?h ?k ?_); (case h => walk_at "h"); (case k => exact rfl))
  | (with_reducible refine' go_gNil ?_)
  | (with_reducible refine' go_tryAs ?_)
  | (with_reducible refine' go_tryMany1 ?_)
  | (with_reducible refine' go_tryMany2 ?_)
  | (with_reducible refine' go_WM ?_)
  | ((with_reducible refine' go_asT ?_); intro e he)
  | (with_reducible refine' go_asF ?_)
  | ((with_reducible refine' go_manyT ?_); intro e he)
  | (with_reducible refine' go_manyF ?_)
  | (with_reducible refine' go_manyN ?_)
  | (with_reducible refine' go_fld ?_)
  | ((with_reducible refine' go_FldK ?h ?c ?n ?l ?_); (case h => walk_at "h"); (case c => infer_instance); (case n => infer_instance); (case l => exact rfl))
  | (with_reducible refine' go_sfld ?_)
  | ((with_reducible refine' go_SFldK ?h ?c ?n ?l ?e ?_); (case h => walk_at "h"); (case c => infer_instance); (case n => infer_instance); (case l => exact Nat.le_of_ble_eq_true rfl); (case e => walk_at "pf"); intro H1 n1)
  | (with_reducible refine' go_meth ?_)
  | ((with_reducible refine' go_MethK 0 ?h ?l ?e ?_); (case h => walk_at "h"); (case l => exact rfl); (case e => exact rfl))
  | ((with_reducible refine' go_MethK 1 ?h ?l ?e ?_); (case h => walk_at "h"); (case l => exact rfl); (case e => exact rfl))
  | ((with_reducible refine' go_MethK 2 ?h ?l ?e ?_); (case h => walk_at "h"); (case l => exact rfl); (case e => exact rfl))
  | (with_reducible refine' go_make ?_)
  | (with_reducible refine' go_callX ?_)
  | (with_reducible refine' go_methX ?_)
  | ((with_reducible refine' go_MethXK ?h ?l ?_); (case h => walk_at "h"); (case l => exact rfl))
  | (with_reducible refine' go_dget ?_)
  | ((with_reducible refine' go_DGetS ?h ?l ?_); (case h => walk_at "h"); (case l => exact rfl))
  | (with_reducible refine' go_dput ?_)
  | ((with_reducible refine' go_DPutS ?h ?l ?e ?_); (case h => walk_at "h"); (case l => exact Nat.le_of_ble_eq_true rfl); (case e => walk_at "pk"); intro H1 n1)
  | ((with_reducible refine' go_disp ?_); intro p H1 n1)
  | (with_reducible refine' go_pairs ?_)
  | (with_reducible refine' go_pairs0 ?_)
  | ((with_reducible refine' go_DispS ?h ?e ?l ?k ?j ?m ?_); (case h => walk_at "h"); (case e => exact rfl); (case l => exact Nat.le_of_ble_eq_true rfl); (case k => (simp only [unS]; exact rfl)); (case j => (simp only [List.map_cons, List.map_nil]; exact rfl)); (case m => decide +kernel); intro H1 n1)
  | (with_reducible refine' go_par ?_)
  | ((with_reducible refine' go_ParK ?h ?_); (case h => (simp only [List.set_cons_zero, List.set_cons_succ]; exact rfl)))
  | (with_reducible refine' go_sub_ ?_)
  | ((with_reducible refine' go_setLi ?h ?k ?_); (case h => walk_at "h"); (case k => walk_at "ix"); intro H1 n1)
  | (with_reducible refine' go_listY ?_)
  | ((with_reducible refine' go_listYL ?h ?_); (case h => walk_at "h"))
  | (with_reducible refine' go_bmS ?_)
  | (with_reducible refine' go_ckw ?_)
  | ((with_reducible refine' go_maxD ?h ?_); (case h => walk_at "h"))
  | (with_reducible refine' go_listR ?_)
  | (with_reducible refine' go_rg2 ?_)
  | (with_reducible refine' go_Rg2K ?_)
  | (with_reducible refine' go_rg1 ?_)
  | (with_reducible refine' go_Rg1K ?_)
  | ((with_reducible refine' go_ListRK ?h ?_); (case h => omega); intro p H1 n1)
  | (with_reducible refine' go_enum ?_)
  | ((with_reducible refine' go_EnumL ?h ?_); (case h => walk_at "h"))
  | (with_reducible refine' go_isX ?_)
  | (with_reducible refine' go_isXt ?_)
  | (with_reducible refine' go_gCons ?_))
local macro_rules | `(tactic| walk_at "pf") => `(tactic| first
  | exact putF_nil
  | exact putF_hit
  | (refine' putF_miss ?h ?k; (case h => decide +kernel); (case k => walk_at "pf")))
local macro_rules | `(tactic| walk_at "pk") => `(tactic| first
  | exact putK_nil
  | exact putK_hit (by (simp only [List.map_cons, List.map_nil]; decide +kernel))
  | (refine' putK_miss ?h ?k; (case h => decide +kernel); (case k => walk_at "pk")))
local macro_rules | `(tactic| walk_at "ix") => `(tactic| first
  | assumption
  | omega
  | (simp only [List.length_cons, List.length_nil, List.length_append, List.length_map, List.length_range, List.length_replicate, List.length_set] at *; omega))
local macro_rules | `(tactic| walk_at "pr") => `(tactic| first
  | assumption
  | decide
  | omega
  | exact rfl
  | (intro z; cases z; done))
local macro_rules | `(tactic| walk_at "hk") => `(tactic| first
  | assumption
  | exact seq' (by assumption) (by walk_at "sm"))
local macro_rules | `(tactic| walk_at "ty") => `(tactic| first
  | exact rfl
  | assumption
  | exact tyN_L (by walk_at "h")
  | exact tyN_T (by walk_at "h")
  | exact tyN_D (by walk_at "h"))
local macro_rules | `(tactic| walk_at "go") => `(tactic| repeat (walk_at "s"))
/-! ### pairs of any kind -/
def DpB (K : PySem.W.Frag) (H : Hp) (y : V) (n : Nat) : Prop := ∃ d, Dp K H y d ∧ d.canLay0 = true ∧ d.depth ≤ n
theorem DpB.same {K : PySem.W.Frag} {H H' : Hp} {y : V} {n : Nat} (h : DpB K H y n) (s : Same H H') : DpB K H' y n := let ⟨d, a, b, c⟩ := h; ⟨d, Dp.same s a, b, c⟩
theorem dpbs {K : PySem.W.Frag} {H : Hp} {n : Nat} : ∀ {xs : List V}, (∀ y ∈ xs, DpB K H y n) → ∃ ds, DpAll K H xs ds ∧ PyData.canLayAll0 ds = true ∧ PyData.depthAll ds ≤ n
  | [], _ => ⟨[], .nil, by simp [PyData.canLayAll0], by simp [PyData.depthAll]⟩
  | x :: r, h => by
    obtain ⟨ds, h1, h2, h3⟩ := dpbs fun y hy => h y (List.mem_cons_of_mem _ hy)
    obtain ⟨d, k1, k2, k3⟩ := h x List.mem_cons_self
    exact ⟨d :: ds, .cons k1 h1, by simp [PyData.canLayAll0, k2, h2], by simp only [PyData.depthAll]; omega⟩
theorem DpB.lst {K : PySem.W.Frag} {H : Hp} {n : Nat} {p : Addr} {xs : List V} (e : H p = some (.lst xs)) (h : ∀ y ∈ xs, DpB K H y n) : DpB K H (.ref p) (n + 1) := by
  obtain ⟨ds, h1, h2, h3⟩ := dpbs h
  exact ⟨.list ds, .lst (SqL.of e) h1, by simp only [PyData.canLay0]; exact h2, by simp only [PyData.depth]; omega⟩
theorem DpB.tup {K : PySem.W.Frag} {H : Hp} {n : Nat} {p : Addr} {xs : List V} (e : H p = some (.tup xs)) (h : ∀ y ∈ xs, DpB K H y n) : DpB K H (.ref p) (n + 1) := by
  obtain ⟨ds, h1, h2, h3⟩ := dpbs h
  exact ⟨.tuple ds, .tup (SqT.of e) h1, by simp only [PyData.canLay0]; exact h2, by simp only [PyData.depth]; omega⟩
theorem DpB.mono {K : PySem.W.Frag} {H : Hp} {n m : Nat} {y : V} (h : DpB K H y n) (l : n ≤ m) : DpB K H y m := let ⟨d, a, b, c⟩ := h; ⟨d, a, b, Nat.le_trans c l⟩
theorem Itm.dp {K : PySem.W.Frag} {H : Hp} {y : V} (h : Itm K H y) : DpB K H y 2 := h.2
theorem shaped_of {d : PyData} {n : Nat} (h : d.canLay0 = true) (k : d.depth ≤ n) (hn : n ≤ 64) : SeqAt.shaped d = true := by
  unfold SeqAt.shaped
  rw [Bool.and_eq_true]
  exact ⟨h, decide_eq_true (by omega)⟩
/-- against the empty list -/
theorem go_neNil {K : PySem.W.Frag} {H : Hp} {Q : VK} {p p0 : Addr} {xs : List V} {n : Nat} (e : H p = some (.lst xs)) (e0 : H p0 = some (.lst [])) (h : ∀ y ∈ xs, DpB K H y n) (hn : n ≤ 60) (q : Q (.bl (decide (xs ≠ []))) H) : rNeP K (.ref p) (.ref p0) H Q := by
  obtain ⟨ds, h1, h2, h3⟩ := dpbs h
  refine go_neD (d := .list ds) (e := .list []) (.lst (SqL.of e) h1) (.lst (SqL.of e0) .nil) (shaped_of (n := n + 1) (by simp only [PyData.canLay0]; exact h2) (by simp only [PyData.depth]; omega) (by omega)) (by decide) ?_
  have : (!PyData.eqv (.list ds) (.list [])) = decide (xs ≠ []) := by
    cases h1 with
    | nil => rfl
    | cons _ _ => simp [PyData.eqv, PyData.eqvAll]
  rw [this]; exact q
/-- a row, or what is none; and what it is made of -/
def RowV (K : PySem.W.Frag) (H : Hp) (y : V) (ok : Option (List Int)) : Prop := RowIs H y ok ∧ DpB K H y 3 ∧ ∀ p xs, y = .ref p → H p = some (.lst xs) → ∀ z ∈ xs, Itm K H z
theorem Itm.w (z : Int) {K : PySem.W.Frag} {H : Hp} : Itm K H (.int z) := .int z
theorem RowV.lst {K : PySem.W.Frag} {H : Hp} {p : Addr} {xs : List V} (e : H p = some (.lst xs)) (h : ∀ z ∈ xs, Itm K H z) (hz : xs.length ≤ 1000) (g : isR xs = false) : RowV K H (.ref p) none :=
  ⟨.inl ⟨p, xs, rfl, e, fun y hy => (h y hy).1, hz, .inr ⟨g, rfl⟩⟩, .lst e fun y hy => (h y hy).dp, fun p' xs' e1 e2 => by cases e1; rw [e] at e2; cases e2; exact h⟩
theorem RowV.good {K : PySem.W.Frag} {H : Hp} {p : Addr} {row : List Int} (e : H p = some (.lst (row.map V.int))) (g : GoodRow row) : RowV K H (.ref p) (some row) := by
  have h : ∀ z ∈ row.map V.int, Itm K H z := fun z hz => by obtain ⟨i, _, rfl⟩ := List.mem_map.mp hz; exact .int i
  exact ⟨.good e g, .lst e fun y hy => (h y hy).dp, fun p' xs' e1 e2 => by cases e1; rw [e] at e2; cases e2; exact h⟩
theorem RowIs.same' {H H' : Hp} {x : V} {ok : Option (List Int)} (h : RowIs H x ok) (s : Same H H') : RowIs H' x ok := h.same s
theorem RowV.same {K : PySem.W.Frag} {H H' : Hp} {y : V} {ok : Option (List Int)} (h : RowV K H y ok) (s : Same H H') : RowV K H' y ok := by
  obtain ⟨h1, h2, h3⟩ := h
  refine ⟨h1.same s, h2.same s, fun p xs e1 e2 z hz => ?_⟩
  subst e1
  rcases h1 with ⟨p', xs', e3, e4, _⟩ | ⟨n, e3, e4, _⟩
  · cases e3
    rw [s _ _ e4] at e2; cases e2
    exact (h3 _ _ rfl e4 z hz).same s
  · rcases kindR e3 with ⟨rfl, ys, e⟩ | ⟨rfl, ys, e⟩ | ⟨rfl, ys, e⟩
    · exact absurd rfl e4
    · rw [s _ _ e] at e2; cases e2
    · rw [s _ _ e] at e2; cases e2
structure PrV (K : PySem.W.Frag) (H : Hp) (t : Addr) (x : V) (ok : Option (List Int)) : Prop where
  ex : ∃ y, H t = some (.tup [x, y]) ∧ RowV K H y ok
  kx : Itm K H x
theorem PrV.same {K : PySem.W.Frag} {H H' : Hp} {t : Addr} {x : V} {ok : Option (List Int)} (h : PrV K H t x ok) (s : Same H H') : PrV K H' t x ok := ⟨let ⟨y, a, b⟩ := h.ex; ⟨y, s _ _ a, b.same s⟩, h.kx.same s⟩
theorem PrV.dp {K : PySem.W.Frag} {H : Hp} {t : Addr} {x : V} {ok : Option (List Int)} (h : PrV K H t x ok) : DpB K H (.ref t) 4 := by
  obtain ⟨y, a, b⟩ := h.ex
  refine .tup a fun z hz => ?_
  simp only [List.mem_cons, List.not_mem_nil, or_false] at hz
  rcases hz with rfl | rfl
  · exact h.kx.dp.mono (by omega)
  · exact b.2.1
/-- a list of such pairs -/
structure PsV (K : PySem.W.Frag) (H : Hp) (P : Addr) (ts : List Addr) (sp : List (V × Option (List Int))) : Prop where
  rr : H P = some (.lst (ts.map V.ref))
  len : ts.length = sp.length
  at_ : ∀ (i : Nat) (t : Addr), ts[i]? = some t → ∃ x ok, sp[i]? = some (x, ok) ∧ PrV K H t x ok
theorem PsV.same {K : PySem.W.Frag} {H H' : Hp} {P : Addr} {ts : List Addr} {sp : List (V × Option (List Int))} (h : PsV K H P ts sp) (s : Same H H') : PsV K H' P ts sp := ⟨s _ _ h.rr, h.len, fun i t e => let ⟨x, ok, a, b⟩ := h.at_ i t e; ⟨x, ok, a, b.same s⟩⟩
theorem PsV.dp {K : PySem.W.Frag} {H : Hp} {P : Addr} {ts : List Addr} {sp : List (V × Option (List Int))} (h : PsV K H P ts sp) : ∀ y ∈ ts.map V.ref, DpB K H y 4 := fun y hy => by
  obtain ⟨t, ht, rfl⟩ := List.mem_map.mp hy
  obtain ⟨i, hi⟩ := List.mem_iff_getElem?.mp ht
  obtain ⟨x, ok, _, b⟩ := h.at_ i t hi
  exact b.dp
/-- the first pair that is wrong -/
def chk (n : Nat) : Int → List (V × Option (List Int)) → Str
  | _, [] => ""
  | last, (.int b, ok) :: r => if (isHome n (.int b) && decide (last < b)) = true then (match ok with | none => "row" | some _ => chk n b r) else "block"
  | _, (_, _) :: _ => "block"
theorem chk_int {n : Nat} {last b : Int} {ok : Option (List Int)} {r : List (V × Option (List Int))} : chk n last ((.int b, ok) :: r) = (if (isHome n (.int b) && decide (last < b)) = true then (match ok with | none => ("row" : Str) | some _ => chk n b r) else ("block" : Str) : Str) := by conv => lhs; unfold chk
theorem chk_non {n : Nat} {last : Int} {x : V} {ok : Option (List Int)} {r : List (V × Option (List Int))} (h : ∀ b, x ≠ .int b) : chk n last ((x, ok) :: r) = "block" := by
  cases x with
  | int b => exact absurd rfl (h b)
  | _ => rfl
theorem chk_16 {n : Nat} : ∀ sp, chk n 0 sp = chk n 16 sp
  | [] => rfl
  | (x, ok) :: r => by
    cases x with
    | int b =>
      unfold chk
      cases e : isHome n (.int b) with
      | false => simp
      | true =>
        have : 17 ≤ b ∧ b < n := by simpa [isHome] using e
        rw [decide_eq_true (show (0:Int) < b by omega), decide_eq_true (show (16:Int) < b by omega)]
    | _ => rfl
section
variable {K : PySem.W.Frag} {a : Ac} {H : Hp} {Q : VK} {E : XK} [F : Fc K a] {d r : Addr} {R : List (List Int)} {done : Int} {k : Option Nat}
/-- pairs that are wrong are refused -/
theorem p_need_bad {P : Addr} {ts : List Addr} {sp : List (V × Option (List Int))} (h : DkEx a [] H d r R done k) (hP : PsV K H P ts sp) (hz : sp.length ≤ 100) (b1 : 15 < sp.length → ∀ H', Same H H' → E (.ref a.TooMuch) none H')
    (hbad : 15 < sp.length ∨ chk R.length 0 sp ≠ "") (b2 : sp.length ≤ 15 → chk R.length 0 sp = "block" → ∀ H', Same H H' → E (.ref a.NoBlock) none H') (b3 : sp.length ≤ 15 → chk R.length 0 sp = "row" → ∀ H', Same H H' → E (.ref a.BadRow) none H') : sp_need_pairs K a [.ref d, .ref P] H Q E := by
  refine in_need_pairs ?_
  unfold t_need_pairs
  have hr := hP.rr
  have lt := hP.len
  walk_at "go"
  rw [List.length_map, lt]
  refine go_dec (fun c1 => ?_) (fun c1 => ?_)
  · walk_at "go"
    exact b1 (by omega) H (Same.refl _)
  have l15 : sp.length ≤ 15 := by omega
  have hbad : chk R.length 0 sp ≠ "" := hbad.resolve_left (by omega)
  walk_at "go"
  rename_i P2 H1 n1
  refine for_Lg (xs := ts.map V.ref) (fun i σ' H' => ∃ (last : Int) (v4 v5 : Option V) (ts2 : List Addr), σ' = [some (.ref d), some (.ref P), some (.ref P2), some (.int last), v4, v5] ∧ Same H H' ∧ H' P2 = some (.lst (ts2.map V.ref)) ∧ ts2.length = i ∧ chk R.length 0 sp = chk R.length last (sp.drop i)) (fun i σ' H' ⟨_, _, _, _, _, s, _⟩ => s _ _ hr)
    ⟨0, none, none, [], rfl, n1.same, n1.at, rfl, by simp⟩ ?_ ?_
  · rintro i x σ' H2 hx ⟨last, v4, v5, ts2, rfl, s2, hP2, hl, hc⟩
    rw [List.getElem?_map] at hx
    cases e : ts[i]? with
    | none => rw [e] at hx; cases hx
    | some t =>
      rw [e] at hx
      obtain rfl : V.ref t = x := Option.some.inj hx
      obtain ⟨x, ok, f1, f2⟩ := hP.at_ i t e
      obtain ⟨y, f3, f4, _⟩ := f2.ex
      have hi := (List.getElem?_eq_some_iff.mp f1).1
      have ed : sp.drop i = (x, ok) :: sp.drop (i + 1) := by rw [List.drop_eq_getElem_cons hi]; congr 1; exact (List.getElem?_eq_some_iff.mp f1).2
      rw [ed] at hc
      have f3' := s2 _ _ f3
      obtain ⟨n, kx⟩ := f2.kx.1
      walk_at "go"
      refine p_is_home (h.same s2) (tyN_same s2 kx) ?_
      cases x with
      | int b =>
        rw [chk_int] at hc
        cases eh : isHome R.length (.int b) with
        | false =>
          rw [eh, Bool.false_and, if_neg Bool.false_ne_true] at hc
          walk_at "go"
          exact b2 l15 hc H2 s2
        | true =>
          rw [eh, Bool.true_and] at hc
          walk_at "go"
          refine go_dec (fun c2 => ?_) (fun c2 => ?_)
          · rw [decide_eq_false (by omega), if_neg Bool.false_ne_true] at hc
            walk_at "go"
            exact b2 l15 hc H2 s2
          · rw [decide_eq_true (by omega), if_pos rfl] at hc
            walk_at "go"
            refine p_need_row (f4.same s2) (fun row er _ p H3 s3 pn hp => ?_) (fun z H3 s3 => ?_)
            · rw [er] at hc
              have hP3 := s3 _ _ hP2
              have hz2 : (ts2.map V.ref).length < 1000 := by rw [List.length_map]; omega
              walk_at "go"
              rename_i T H4 n4 H5 w5
              exact ⟨_, _, _, ts2 ++ [T], rfl, Same.chg ((s2.trans s3).trans n4.same) (.wr w5 (by simp) : Chg [P2] _ _) (by simpa using n1.free), by rw [w5.at]; simp, by simp [hl], hc⟩
            · rw [z] at hc
              exact b3 l15 hc H3 (s2.trans s3)
      | _ =>
        walk_at "go"
        exact b2 l15 hc H2 s2
  · rintro σ' H2 ⟨last, v4, v5, ts2, rfl, s2, hP2, hl, hc⟩
    rw [List.length_map, lt, List.drop_length] at hc
    exact absurd hc hbad
end
end Bk

namespace Bk
open PySem L2 PyProof.Rows
/-! our own short tactics: h: what stands at a place; ne: two places; sm: what stood stands; z: a size; s: a step; go: steps -/
local macro_rules | `(tactic| walk_at "h") => `(tactic| first
  | assumption
  | exact New.at (by assumption)
  | exact Wr.at (by assumption)
  | (refine' New.old (by assumption) ?_; walk_at "h")
  | (refine' Same.at (by assumption) ?_; walk_at "h")
  | (refine' Wr.old (by assumption) ?_ ?_; walk_at "ne"; walk_at "h")
  | (refine' Chg.at (by assumption) ?_ ?_; walk_at "ni"; walk_at "h"))
local macro_rules | `(tactic| walk_at "ni") => `(tactic| first
  | exact ni_nil
  | assumption
  | (refine' ni_cons ?_ ?_; walk_at "ne"; walk_at "ni"))
local macro_rules | `(tactic| walk_at "ne") => `(tactic| first
  | assumption
  | exact Ne.symm (by assumption)
  | exact New.ne (by assumption) (by walk_at "h")
  | exact ne_none (by assumption) (by walk_at "h")
  | exact Ne.symm (ne_none (by assumption) (by walk_at "h"))
  | exact Ne.symm (New.ne (by assumption) (by walk_at "h")))
local macro_rules | `(tactic| walk_at "sm") => `(tactic| first
  | exact Same.refl _
  | assumption
  | (refine' Same.trans ?_ (New.same (by assumption)); walk_at "sm")
  | (refine' Same.trans ?_ (by assumption : Same _ _); walk_at "sm"))
local macro_rules | `(tactic| walk_at "z") => `(tactic| first
  | assumption
  | (rw [PySem.sizeLine_eq]; omega)
  | (rw [PySem.sizeLine_eq]; simp only [List.length_cons, List.length_nil, List.length_append, List.length_map, List.length_range, List.length_replicate, len_cut]; omega)
  | (rw [PySem.sizeLine_eq]; simp only [List.length_cons, List.length_nil, List.length_append, List.length_map, List.length_range, List.length_replicate, len_cut] at *; omega))
local macro_rules | `(tactic| walk_at "s") => `(tactic| first
  | ((with_reducible refine' go_var ?h ?_); (case h => exact rfl))
  | (with_reducible refine' go_c ?_)
  | (with_reducible refine' go_op ?_)
  | (with_reducible refine' go_un ?_)
  | (with_reducible refine' go_rU ?_)
  | (with_reducible refine' go_seq ?_)
  | (with_reducible refine' go_ret ?_)
  | (with_reducible refine' go_retN ?_)
  | (with_reducible refine' go_next ?_)
  | (with_reducible refine' go_drop ?_)
  | (with_reducible refine' go_asg ?_)
  | ((with_reducible refine' go_name2 ?h ?_); (case h => (simp only [List.set_cons_zero, List.set_cons_succ]; exact rfl)))
  | ((with_reducible refine' go_name2 ?h ?_); (case h => exact rfl))
  | (with_reducible refine' go_ifS ?_)
  | (with_reducible refine' go_blk ?_)
  | (with_reducible refine' go_test ?_)
  | (with_reducible refine' go_tB ?_)
  | (with_reducible refine' go_and ?_)
  | (with_reducible refine' go_or ?_)
  | (with_reducible refine' go_not ?_)
  | (with_reducible refine' go_andV ?_)
  | (with_reducible refine' go_orV ?_)
  | (with_reducible refine' go_notV ?_)
  | (with_reducible refine' go_if ?_)
  | (with_reducible refine' go_chain ?_)
  | (with_reducible refine' iteT ?_)
  | (with_reducible refine' iteF ?_)
  | ((with_reducible refine' go_Td ?h ?_); (case h => walk_at "pr"))
  | ((with_reducible refine' go_Fd ?h ?_); (case h => walk_at "pr"))
  | ((with_reducible refine' go_Tn ?h ?_); (case h => walk_at "pr"))
  | ((with_reducible refine' go_Fn ?h ?_); (case h => walk_at "pr"))
  | ((with_reducible refine' go_T ?h ?_); (case h => (first | decide | assumption | exact rfl)))
  | ((with_reducible refine' go_F ?h ?_); (case h => (first | decide | assumption | exact rfl)))
  | (with_reducible refine' go_nil ?_)
  | (with_reducible refine' go_cons ?_)
  | (with_reducible refine' go_tLst ?_)
  | (with_reducible refine' go_tTup ?_)
  | ((with_reducible refine' go_LstK ?h ?_); (case h => walk_at "z"); intro p H1 n1)
  | ((with_reducible refine' go_TupK ?h ?_); (case h => walk_at "z"); intro p H1 n1)
  | (with_reducible refine' go_addI ?_)
  | ((with_reducible refine' go_addL ?h ?k ?z ?_); (case h => walk_at "h"); (case k => walk_at "h"); (case z => walk_at "z"); intro p H1 n1)
  | (with_reducible refine' go_sub ?_)
  | ((with_reducible refine' go_mulI ?h ?_); (case h => (unfold CMul; omega)))
  | ((with_reducible refine' go_mulL ?h ?k ?_); (case h => walk_at "h"); (case k => (refine ⟨by omega, by omega, ?_⟩; walk_at "z")); intro p H1 n1)
  | ((with_reducible refine' go_div ?h ?_); (case h => (unfold CDiv; omega)))
  | ((with_reducible refine' go_mod ?h ?_); (case h => omega))
  | (with_reducible refine' go_p109 ?_)
  | (with_reducible refine' go_p1020 ?_)
  | ((with_reducible refine' go_pow ?h ?_); (case h => (unfold CPow; omega)))
  | (with_reducible refine' go_lt ?_)
  | (with_reducible refine' go_le ?_)
  | (with_reducible refine' go_gt ?_)
  | (with_reducible refine' go_ge ?_)
  | (with_reducible refine' go_eqI ?_)
  | (with_reducible refine' go_eqB ?_)
  | (with_reducible refine' go_eqS ?_)
  | (with_reducible refine' go_neI ?_)
  | (with_reducible refine' go_neB ?_)
  | (with_reducible refine' go_neS ?_)
  | (with_reducible refine' go_isN ?_)
  | (with_reducible refine' go_isNotN ?_)
  | (with_reducible refine' go_isB ?_)
  | (with_reducible refine' go_isNotB ?_)
  | (with_reducible refine' go_sl ?_)
  | (with_reducible refine' go_noPart ?_)
  | (with_reducible refine' go_part ?_)
  | (with_reducible refine' go_intK ?_)
  | ((with_reducible refine' go_slL ?h ?_); (case h => walk_at "h"); intro p H1 n1)
  | ((with_reducible refine' go_ixL ?h ?k ?_); (case h => walk_at "h"); (case k => exact rfl))
  | ((with_reducible refine' go_ixT ?h ?k ?_); (case h => walk_at "h"); (case k => exact rfl))
  | ((with_reducible refine' go_slW ?h ?_); (case h => walk_at "h"))
  | (with_reducible refine' go_bm ?_)
  | (with_reducible refine' go_bm0 ?_)
  | ((with_reducible refine' go_bmL ?h ?_); (case h => walk_at "h"))
  | ((with_reducible refine' go_append ?h ?k ?_); (case h => walk_at "h"); (case k => walk_at "z"); intro H1 n1)
  | ((with_reducible refine' go_extend ?h ?k ?z ?_); (case h => walk_at "h"); (case k => walk_at "h"); (case z => walk_at "z"); intro H1 n1)
  | ((with_reducible refine' go_clear ?h ?_); (case h => walk_at "h"); intro H1 n1)
  | ((with_reducible refine' go_dnew ?_); intro p H1 n1)
  | (with_reducible refine' go_cb ?_)
  | (with_reducible refine' go_callS ?_)
  | (with_reducible refine' go_call0 ?_)
  | ((with_reducible refine' go_lenL ?h ?_); (case h => walk_at "h"))
  | ((with_reducible refine' go_lenT ?h ?_); (case h => walk_at "h"))
  | ((with_reducible refine' go_lenK ?h ?_); (case h => walk_at "hk"))
  | ((with_reducible refine' go_listL ?h ?_); (case h => walk_at "h"); intro p H1 n1)
  | ((with_reducible refine' go_listT ?h ?_); (case h => walk_at "h"); intro p H1 n1)
  | ((with_reducible refine' go_tupleL ?h ?_); (case h => walk_at "h"); intro p H1 n1)
  | (with_reducible refine' go_intI ?_)
  | (with_reducible refine' go_intB ?_)
  | (with_reducible refine' go_abs ?_)
  | (with_reducible refine' go_min2 ?_)
  | (with_reducible refine' go_max2 ?_)
  | ((with_reducible refine' go_isi ?h ?k ?_); (case h => walk_at "ty"); (case k => exact kit_bb (by decide) (by decide)))
  | (with_reducible refine' go_lc ?_)
  | (with_reducible refine' go_for ?_)
  | (with_reducible refine' go_seqP ?_)
  | ((with_reducible refine' go_seqL ?h ?_); (case h => walk_at "h"))
  | ((with_reducible refine' go_seqT ?h ?_); (case h => walk_at "h"))
  | (with_reducible refine' go_seqS ?_)
  | (with_reducible refine' go_rng1 ?_)
  | (with_reducible refine' go_rng2 ?_)
  | ((with_reducible refine' go_rng1K ?h ?_); (case h => omega))
  | ((with_reducible refine' go_rng2K ?h ?_); (case h => omega))
  | (with_reducible refine' go_raise ?_)
  | ((with_reducible refine' go_tupG ?h ?k ?_); (case h => walk_at "h"); (case k => exact rfl))
  | ((with_reducible refine' go_lstG ?h ?k ?_); (case h => walk_at "h"); (case k => exact rfl))
  | (with_reducible refine' go_gNil ?_)
  | (with_reducible refine' go_tryAs ?_)
  | (with_reducible refine' go_tryMany1 ?_)
  | (with_reducible refine' go_tryMany2 ?_)
  | (with_reducible refine' go_WM ?_)
  | ((with_reducible refine' go_asT ?_); intro e he)
  | (with_reducible refine' go_asF ?_)
  | ((with_reducible refine' go_manyT ?_); intro e he)
  | (with_reducible refine' go_manyF ?_)
  | (with_reducible refine' go_manyN ?_)
  | (with_reducible refine' go_fld ?_)
  | ((with_reducible refine' go_FldK ?h ?c ?n ?l ?_); (case h => walk_at "h"); (case c => infer_instance); (case n => infer_instance); (case l => exact rfl))
  | (with_reducible refine' go_sfld ?_)
  | ((with_reducible refine' go_SFldK ?h ?c ?n ?l ?e ?_); (case h => walk_at "h"); (case c => infer_instance); (case n => infer_instance); (case l => exact Nat.le_of_ble_eq_true rfl); (case e => walk_at "pf"); intro H1 n1)
  | (with_reducible refine' go_meth ?_)
  | ((with_reducible refine' go_MethK 0 ?h ?l ?e ?_); (case h => walk_at "h"); (case l => exact rfl); (case e => exact rfl))
  | ((with_reducible refine' go_MethK 1 ?h ?l ?e ?_); (case h => walk_at "h"); (case l => exact rfl); (case e => exact rfl))
  | ((with_reducible refine' go_MethK 2 ?h ?l ?e ?_); (case h => walk_at "h"); (case l => exact rfl); (case e => exact rfl))
  | (with_reducible refine' go_make ?_)
  | (with_reducible refine' go_callX ?_)
  | (with_reducible refine' go_methX ?_)
  | ((with_reducible refine' go_MethXK ?h ?l ?_); (case h => walk_at "h"); (case l => exact rfl))
  | (with_reducible refine' go_dget ?_)
  | ((with_reducible refine' go_DGetS ?h ?l ?_); (case h => walk_at "h"); (case l => exact rfl))
  | (with_reducible refine' go_dput ?_)
  | ((with_reducible refine' go_DPutS ?h ?l ?e ?_); (case h => walk_at "h"); (case l => exact Nat.le_of_ble_eq_true rfl); (case e => walk_at "pk"); intro H1 n1)
  | ((with_reducible refine' go_disp ?_); intro p H1 n1)
  | (with_reducible refine' go_pairs ?_)
  | (with_reducible refine' go_pairs0 ?_)
  | ((with_reducible refine' go_DispS ?h ?e ?l ?k ?j ?m ?_); (case h => walk_at "h"); (case e => exact rfl); (case l => exact Nat.le_of_ble_eq_true rfl); (case k => (simp only [unS]; exact rfl)); (case j => (simp only [List.map_cons, List.map_nil]; exact rfl)); (case m => decide +kernel); intro H1 n1)
  | (with_reducible refine' go_par ?_)
  | ((with_reducible refine' go_ParK ?h ?_); (case h => (simp only [List.set_cons_zero, List.set_cons_succ]; exact rfl)))
  | (with_reducible refine' go_sub_ ?_)
  | ((with_reducible refine' go_setLi ?h ?k ?_); (case h => walk_at "h"); (case k => walk_at "ix"); intro H1 n1)
  | (with_reducible refine' go_listY ?_)
  | ((with_reducible refine' go_listYL ?h ?_); (case h => walk_at "h"))
  | (with_reducible refine' go_bmS ?_)
  | (with_reducible refine' go_ckw ?_)
  | ((with_reducible refine' go_maxD ?h ?_); (case h => walk_at "h"))
  | (with_reducible refine' go_listR ?_)
  | (with_reducible refine' go_rg2 ?_)
  | (with_reducible refine' go_Rg2K ?_)
  | (with_reducible refine' go_rg1 ?_)
  | (with_reducible refine' go_Rg1K ?_)
  | ((with_reducible refine' go_ListRK ?h ?_); (case h => omega); intro p H1 n1)
  | (with_reducible refine' go_enum ?_)
  | ((with_reducible refine' go_EnumL ?h ?_); (case h => walk_at "h"))
  | (with_reducible refine' go_isX ?_)
  | (with_reducible refine' go_isXt ?_)
  | (with_reducible refine' go_gCons ?_))
local macro_rules | `(tactic| walk_at "pf") => `(tactic| first
  | exact putF_nil
  | exact putF_hit
  | (refine' putF_miss ?h ?k; (case h => decide +kernel); (case k => walk_at "pf")))
local macro_rules | `(tactic| walk_at "pk") => `(tactic| first
  | exact putK_nil
  | exact putK_hit (by (simp only [List.map_cons, List.map_nil]; decide +kernel))
  | (refine' putK_miss ?h ?k; (case h => decide +kernel); (case k => walk_at "pk")))
local macro_rules | `(tactic| walk_at "ix") => `(tactic| first
  | assumption
  | omega
  | (simp only [List.length_cons, List.length_nil, List.length_append, List.length_map, List.length_range, List.length_replicate, List.length_set] at *; omega))
local macro_rules | `(tactic| walk_at "pr") => `(tactic| first
  | assumption
  | decide
  | omega
  | exact rfl
  | (intro z; cases z; done))
local macro_rules | `(tactic| walk_at "hk") => `(tactic| first
  | assumption
  | exact seq' (by assumption) (by walk_at "sm"))
local macro_rules | `(tactic| walk_at "ty") => `(tactic| first
  | exact rfl
  | assumption
  | exact tyN_L (by walk_at "h")
  | exact tyN_T (by walk_at "h")
  | exact tyN_D (by walk_at "h"))
local macro_rules | `(tactic| walk_at "go") => `(tactic| repeat (walk_at "s"))
theorem isR_len {xs : List V} (h : xs.length ≠ 16) : isR xs = false := by
  unfold isR
  rw [decide_eq_false (by omega), Bool.false_and]
theorem isR_bad {xs : List V} {y : V} (h : y ∈ xs) (k : isW y = false) : isR xs = false := by
  unfold isR
  rw [Bool.and_eq_false_iff]
  exact .inr (Bool.eq_false_iff.mpr fun z => by rw [List.all_eq_true.mp z y h] at k; cases k)
/-! ### pairs that are good; commit; what is due -/
theorem chk_good {n : Nat} : ∀ {sp : List (V × Option (List Int))} {last : Int}, chk n last sp = "" → ∃ prs : List (Int × List Int), sp = prs.map (fun p => (V.int p.1, some p.2)) ∧ (∀ p ∈ prs, last < p.1 ∧ 17 ≤ p.1 ∧ p.1 < n) ∧ prs.Pairwise (fun p q => p.1 < q.1)
  | [], _, _ => ⟨[], rfl, by simp, .nil⟩
  | (x, ok) :: r, last, h => by
    by_cases hx : ∀ b, x ≠ .int b
    · rw [chk_non hx] at h; exact absurd h (by decide)
    have ⟨b, hb⟩ := Classical.not_forall.mp hx
    have hb := Classical.not_not.mp hb
    subst hb
    rw [chk_int] at h
    split at h
    · rename_i c
      cases ok with
      | none => exact absurd (show ("row" : Str) = "" from h) (by decide)
      | some row =>
        obtain ⟨prs, e1, e2, e3⟩ := chk_good h
        have c : (17 ≤ b ∧ b < n) ∧ last < b := by simpa [isHome] using c
        exact ⟨(b, row) :: prs, by rw [e1]; rfl, fun p hp => by
          rcases List.mem_cons.mp hp with rfl | hp
          · exact ⟨c.2, c.1⟩
          · have := e2 p hp; exact ⟨by omega, this.2⟩, List.pairwise_cons.mpr ⟨fun p hp => (e2 p hp).1, e3⟩⟩
    · exact absurd h (by decide)
theorem pick {n : Nat} {φ : Nat → Addr → Prop} (h : ∀ i, i < n → ∃ q, φ i q) : ∃ qs : List Addr, qs.length = n ∧ ∀ i q, qs[i]? = some q → φ i q := by
  induction n with
  | zero => exact ⟨[], rfl, by simp⟩
  | succ n ih =>
    obtain ⟨qs, e1, e2⟩ := ih fun i hi => h i (by omega)
    obtain ⟨q, hq⟩ := h n (by omega)
    refine ⟨qs ++ [q], by simp [e1], fun i q' e => ?_⟩
    by_cases c : i < qs.length
    · rw [List.getElem?_append_left c] at e
      exact e2 i q' e
    · rw [List.getElem?_append_right (by omega)] at e
      have : i = n := by
        have := (List.getElem?_eq_some_iff.mp e).1
        simp at this; omega
      subst this
      rw [e1, Nat.sub_self] at e
      cases e
      exact hq
theorem PsV.good {K : PySem.W.Frag} {H : Hp} {P : Addr} {ts : List Addr} {prs : List (Int × List Int)} (h : PsV K H P ts (prs.map fun p => (V.int p.1, some p.2))) : (∃ qs, PrsAt H P ts qs prs) ∧ ∀ p ∈ prs, GoodRow p.2 := by
  have len := h.len
  rw [List.length_map] at len
  have key : ∀ i, i < prs.length → ∃ q, ∃ t b row, ts[i]? = some t ∧ prs[i]? = some (b, row) ∧ H t = some (.tup [.int b, .ref q]) ∧ H q = some (.lst (row.map V.int)) ∧ GoodRow row := by
    intro i hi
    have e : ts[i]? = some ts[i] := List.getElem?_eq_getElem (by omega)
    obtain ⟨x, ok, e1, e2⟩ := h.at_ i _ e
    rw [List.getElem?_map, List.getElem?_eq_getElem hi] at e1
    cases e1
    obtain ⟨y, f1, f2, _⟩ := e2.ex
    rcases f2 with ⟨q, xs, rfl, g1, _, _, ⟨row, g2, rfl, g3⟩ | ⟨_, g3⟩⟩ | ⟨n, _, _, g3⟩
    · cases g3
      exact ⟨q, _, _, _, e, List.getElem?_eq_getElem hi, f1, g1, g2⟩
    · cases g3
    · cases g3
  refine ⟨?_, fun p hp => ?_⟩
  · obtain ⟨qs, e1, e2⟩ := pick key
    refine ⟨qs, h.rr, len, e1, fun i b row e => ?_⟩
    have hi := (List.getElem?_eq_some_iff.mp e).1
    have eq : qs[i]? = some (qs[i]'(by omega)) := List.getElem?_eq_getElem (by omega)
    obtain ⟨t, b', row', f1, f2, f3, f4, _⟩ := e2 i _ eq
    rw [e] at f2; cases f2
    exact ⟨t, _, f1, eq, f3, f4⟩
  · obtain ⟨i, hi⟩ := List.mem_iff_getElem?.mp hp
    have hl := (List.getElem?_eq_some_iff.mp hi).1
    obtain ⟨q, t, b, row, _, f2, _, _, f5⟩ := key i hl
    rw [hi] at f2; cases f2
    exact f5
section
variable {K : PySem.W.Frag} {a : Ac} {H : Hp} {Q : VK} {E : XK} [F : Fc K a] {d r : Addr} {R : List (List Int)} {done : Int} {k : Option Nat}
theorem p_commit_bad {P : Addr} {ts : List Addr} {sp : List (V × Option (List Int))} (h : DkEx a [] H d r R done k) (hP : PsV K H P ts sp) (hz : sp.length ≤ 100) (b1 : 15 < sp.length → ∀ H', Same H H' → E (.ref a.TooMuch) none H')
    (hbad : 15 < sp.length ∨ chk R.length 0 sp ≠ "") (b2 : sp.length ≤ 15 → chk R.length 0 sp = "block" → ∀ H', Same H H' → E (.ref a.NoBlock) none H') (b3 : sp.length ≤ 15 → chk R.length 0 sp = "row" → ∀ H', Same H H' → E (.ref a.BadRow) none H') : sp_commit K a [.ref d, .ref P] H Q E := by
  refine in_commit ?_
  unfold t_commit
  walk_at "go"
  refine p_need_bad h hP hz (fun c H1 s1 => ?_) hbad (fun c c2 H1 s1 => ?_) (fun c c2 H1 s1 => ?_)
  · walk_at "go"
    exact b1 c H1 s1
  · walk_at "go"
    exact b2 c c2 H1 s1
  · walk_at "go"
    exact b3 c c2 H1 s1
omit F in
theorem p_is_number {x : V} {n : String} (h : tyN H x = some n) (q : Q (.bl (isW x)) H) : sp_L_is_number K a [x] H Q E := by
  refine in_L_is_number ?_
  unfold t_L_is_number
  cases x with
  | int i =>
    walk_at "go"
    refine go_dec (fun c => ?_) (fun c => ?_)
    · walk_at "go"
      have e : isW (.int i) = decide (i < 1000000000) := by simp only [isW, decide_eq_true c, Bool.true_and]; exact decide_eq_decide.mpr (by omega)
      rw [e] at q
      exact q
    · walk_at "go"
      have e : isW (.int i) = false := by simp only [isW, decide_eq_false c, Bool.false_and]
      rw [e] at q
      exact q
  | bl b => walk_at "go"; exact q
  | non => walk_at "go"; exact q
  | str s => walk_at "go"; exact q
  | ref p =>
    rcases kindR h with ⟨rfl, xs, e⟩ | ⟨rfl, xs, e⟩ | ⟨rfl, kvs, e⟩
    all_goals (walk_at "go"; exact q)
  | _ => cases h
def due (n : Nat) (sp : List (V × Option (List Int))) : Str := if 15 < sp.length then "much" else chk n 16 sp
omit F in
theorem p_due {P : Addr} {ts : List Addr} {sp : List (V × Option (List Int))} {n : Nat} (hP : PsV K H P ts sp) (hz : sp.length ≤ 100) (q : ∀ H', Same H H' → Q (.str (due n sp)) H') : sp_L_due K a [.ref P, .int n] H Q E := by
  refine in_L_due ?_
  unfold t_L_due
  have hr := hP.rr
  have lt := hP.len
  walk_at "go"
  rw [List.length_map, lt]
  refine go_dec (fun c1 => ?_) (fun c1 => ?_)
  · walk_at "go"
    have := q H (Same.refl _)
    rwa [due, if_pos (by omega)] at this
  have fin : ∀ w, chk n 16 sp = w → ∀ H', Same H H' → Q (.str w) H' := fun w e H' s => by
    have := q H' s
    rwa [due, if_neg (by omega), e] at this
  walk_at "go"
  refine for_Lg (xs := ts.map V.ref) (fun i σ' H' => ∃ (last : Int) (v3 v4 : Option V), σ' = [some (.ref P), some (.int n), some (.int last), v3, v4, none] ∧ Same H H' ∧ 16 ≤ last ∧ chk n 16 sp = chk n last (sp.drop i)) (fun i σ' H' ⟨_, _, _, _, s, _⟩ => s _ _ hr)
    ⟨16, none, none, rfl, Same.refl _, by omega, by simp⟩ ?_ ?_
  · rintro i x σ' H2 hx ⟨last, v3, v4, rfl, s2, l16, hc⟩
    rw [List.getElem?_map] at hx
    cases e : ts[i]? with
    | none => rw [e] at hx; cases hx
    | some t =>
      rw [e] at hx
      obtain rfl : V.ref t = x := Option.some.inj hx
      obtain ⟨x, ok, f1, f2⟩ := hP.at_ i t e
      obtain ⟨y, f3, fv⟩ := f2.ex
      obtain ⟨f4, _, f5⟩ := fv.same s2
      have hi := (List.getElem?_eq_some_iff.mp f1).1
      have ed : sp.drop i = (x, ok) :: sp.drop (i + 1) := by rw [List.drop_eq_getElem_cons hi]; congr 1; exact (List.getElem?_eq_some_iff.mp f1).2
      rw [ed] at hc
      have f3' := s2 _ _ f3
      obtain ⟨nx, kx⟩ := f2.kx.1
      have kx := tyN_same s2 kx
      cases x with
      | int b =>
        rw [chk_int] at hc
        walk_at "go"
        refine go_dec (fun c2 => ?_) (fun c2 => ?_)
        · walk_at "go"
          refine go_decN (fun c3 => ?_) (fun c3 => ?_)
          · rw [show isHome n (.int b) = false by simp [isHome]; omega, Bool.false_and, if_neg Bool.false_ne_true] at hc
            walk_at "go"
            exact fin _ hc _ s2
          · rw [isHome_of (by omega) c3, decide_eq_true c2, Bool.true_and, if_pos rfl] at hc
            walk_at "go"
            rcases f4 with ⟨p, xs, rfl, g1, g2, g3, g4⟩ | ⟨m, g1, g2, rfl⟩
            · walk_at "go"
              refine go_decN (fun c4 => ?_) (fun c4 => ?_)
              · have eb : isR xs = false := isR_len (by omega)
                have : ok = none := by
                  rcases g4 with ⟨row, h1, h2, _⟩ | ⟨_, h2⟩
                  · rw [h2, h1.isR] at eb; cases eb
                  · exact h2
                subst this
                walk_at "go"
                exact fin _ hc _ s2
              · walk_at "go"
                refine lc_L (f := id) (p := fun x => !isW x) g1 (by rw [sizeLine_eq]; omega) (fun i x H' QB hx s k => ?_) (fun i x H' Q' hx hpp s k => ?_) (fun D H3 hD s3 hd => ?_)
                · obtain ⟨m, e⟩ := g2 x (List.mem_of_getElem? hx)
                  simp only [List.set_cons_zero, List.set_cons_succ]
                  walk_at "go"
                  refine p_is_number (tyN_same s e) ?_
                  have := k H' (Same.refl _)
                  cases hw : isW x
                  all_goals (rw [hw] at this; walk_at "go"; exact this)
                · simp only [List.set_cons_zero, List.set_cons_succ]
                  walk_at "go"
                  exact k H' (Same.refl _)
                · walk_at "go"
                  rename_i p4 H4 n4
                  rw [List.map_id] at hd
                  have s24 := s3.trans n4.same
                  refine go_neNil (n := 2) (n4.old hd) n4.at (fun z hz => ((f5 p xs rfl g1 z ((List.mem_filter.mp hz).1)).same s24).dp) (by omega) ?_
                  have s04 := s2.trans s24
                  rcases g4 with ⟨row, h1, rfl, rfl⟩ | ⟨h1, rfl⟩
                  · have h1 := h1.isR
                    unfold isR at h1
                    rw [Bool.and_eq_true, List.all_eq_true] at h1
                    rw [decide_eq_false (by
                      rw [Classical.not_not, List.filter_eq_nil_iff]
                      intro z hz
                      rw [h1.2 z hz]; decide)]
                    walk_at "go"
                    exact ⟨_, _, _, rfl, s04, by omega, hc⟩
                  · unfold isR at h1
                    rw [decide_eq_true (by omega), Bool.true_and] at h1
                    rw [decide_eq_true (by
                      intro z
                      rw [List.filter_eq_nil_iff] at z
                      refine Bool.eq_false_iff.mp h1 (List.all_eq_true.mpr fun y hy => ?_)
                      have := z y hy
                      cases e : isW y
                      · rw [e] at this; exact absurd rfl this
                      · rfl)]
                    walk_at "go"
                    exact fin _ hc _ s04
            · cases y with
              | ref p =>
                rcases kindR g1 with ⟨rfl, xs, e⟩ | ⟨rfl, xs, e⟩ | ⟨rfl, kvs, e⟩
                · exact absurd rfl g2
                all_goals (walk_at "go"; exact fin _ hc _ s2)
              | int b => walk_at "go"; exact fin _ hc _ s2
              | bl b => walk_at "go"; exact fin _ hc _ s2
              | non => walk_at "go"; exact fin _ hc _ s2
              | str s => walk_at "go"; exact fin _ hc _ s2
              | _ => cases g1
        · rw [decide_eq_false c2, Bool.and_false, if_neg Bool.false_ne_true] at hc
          walk_at "go"
          exact fin _ hc _ s2
      | ref p =>
        rcases kindR kx with ⟨rfl, xs, e⟩ | ⟨rfl, xs, e⟩ | ⟨rfl, kvs, e⟩
        all_goals (walk_at "go"; exact fin _ hc _ s2)
      | bl b => walk_at "go"; exact fin _ hc _ s2
      | non => walk_at "go"; exact fin _ hc _ s2
      | str s => walk_at "go"; exact fin _ hc _ s2
      | _ => cases kx
  · rintro σ' H2 ⟨last, v3, v4, rfl, s2, l16, hc⟩
    rw [List.length_map, lt, List.drop_length] at hc
    walk_at "go"
    exact fin _ hc _ s2
end
end Bk

namespace Bk
open PySem L2 PyProof.Rows
/-! our own short tactics: h: what stands at a place; ne: two places; sm: what stood stands; z: a size; s: a step; go: steps -/
local macro_rules | `(tactic| walk_at "h") => `(tactic| first
  | assumption
  | exact New.at (by assumption)
  | exact Wr.at (by assumption)
  | (refine' New.old (by assumption) ?_; walk_at "h")
  | (refine' Same.at (by assumption) ?_; walk_at "h")
  | (refine' Wr.old (by assumption) ?_ ?_; walk_at "ne"; walk_at "h")
  | (refine' Chg.at (by assumption) ?_ ?_; walk_at "ni"; walk_at "h"))
local macro_rules | `(tactic| walk_at "ni") => `(tactic| first
  | exact ni_nil
  | assumption
  | (refine' ni_cons ?_ ?_; walk_at "ne"; walk_at "ni"))
local macro_rules | `(tactic| walk_at "ne") => `(tactic| first
  | assumption
  | exact Ne.symm (by assumption)
  | exact New.ne (by assumption) (by walk_at "h")
  | exact ne_none (by assumption) (by walk_at "h")
  | exact Ne.symm (ne_none (by assumption) (by walk_at "h"))
  | exact Ne.symm (New.ne (by assumption) (by walk_at "h")))
local macro_rules | `(tactic| walk_at "sm") => `(tactic| first
  | exact Same.refl _
  | assumption
  | (refine' Same.trans ?_ (New.same (by assumption)); walk_at "sm")
  | (refine' Same.trans ?_ (by assumption : Same _ _); walk_at "sm"))
local macro_rules | `(tactic| walk_at "z") => `(tactic| first
  | assumption
  | (rw [PySem.sizeLine_eq]; omega)
  | (rw [PySem.sizeLine_eq]; simp only [List.length_cons, List.length_nil, List.length_append, List.length_map, List.length_range, List.length_replicate, len_cut]; omega)
  | (rw [PySem.sizeLine_eq]; simp only [List.length_cons, List.length_nil, List.length_append, List.length_map, List.length_range, List.length_replicate, len_cut] at *; omega))
local macro_rules | `(tactic| walk_at "s") => `(tactic| first
  | ((with_reducible refine' go_var ?h ?_); (case h => exact rfl))
  | (with_reducible refine' go_c ?_)
  | (with_reducible refine' go_op ?_)
  | (with_reducible refine' go_un ?_)
  | (with_reducible refine' go_rU ?_)
  | (with_reducible refine' go_seq ?_)
  | (with_reducible refine' go_ret ?_)
  | (with_reducible refine' go_retN ?_)
  | (with_reducible refine' go_next ?_)
  | (with_reducible refine' go_drop ?_)
  | (with_reducible refine' go_asg ?_)
  | ((with_reducible refine' go_name2 ?h ?_); (case h => (simp only [List.set_cons_zero, List.set_cons_succ]; exact rfl)))
  | ((with_reducible refine' go_name2 ?h ?_); (case h => exact rfl))
  | (with_reducible refine' go_ifS ?_)
  | (with_reducible refine' go_blk ?_)
  | (with_reducible refine' go_test ?_)
  | (with_reducible refine' go_tB ?_)
  | (with_reducible refine' go_and ?_)
  | (with_reducible refine' go_or ?_)
  | (with_reducible refine' go_not ?_)
  | (with_reducible refine' go_andV ?_)
  | (with_reducible refine' go_orV ?_)
  | (with_reducible refine' go_notV ?_)
  | (with_reducible refine' go_if ?_)
  | (with_reducible refine' go_chain ?_)
  | (with_reducible refine' iteT ?_)
  | (with_reducible refine' iteF ?_)
  | ((with_reducible refine' go_Td ?h ?_); (case h => walk_at "pr"))
  | ((with_reducible refine' go_Fd ?h ?_); (case h => walk_at "pr"))
  | ((with_reducible refine' go_Tn ?h ?_); (case h => walk_at "pr"))
  | ((with_reducible refine' go_Fn ?h ?_); (case h => walk_at "pr"))
  | ((with_reducible refine' go_T ?h ?_); (case h => (first | decide | assumption | exact rfl)))
  | ((with_reducible refine' go_F ?h ?_); (case h => (first | decide | assumption | exact rfl)))
  | (with_reducible refine' go_nil ?_)
  | (with_reducible refine' go_cons ?_)
  | (with_reducible refine' go_tLst ?_)
  | (with_reducible refine' go_tTup ?_)
  | ((with_reducible refine' go_LstK ?h ?_); (case h => walk_at "z"); intro p H1 n1)
  | ((with_reducible refine' go_TupK ?h ?_); (case h => walk_at "z"); intro p H1 n1)
  | (with_reducible refine' go_addI ?_)
  | ((with_reducible refine' go_addL ?h ?k ?z ?_); (case h => walk_at "h"); (case k => walk_at "h"); (case z => walk_at "z"); intro p H1 n1)
  | (with_reducible refine' go_sub ?_)
  | ((with_reducible refine' go_mulI ?h ?_); (case h => (unfold CMul; omega)))
  | ((with_reducible refine' go_mulL ?h ?k ?_); (case h => walk_at "h"); (case k => (refine ⟨by omega, by omega, ?_⟩; walk_at "z")); intro p H1 n1)
  | ((with_reducible refine' go_div ?h ?_); (case h => (unfold CDiv; omega)))
  | ((with_reducible refine' go_mod ?h ?_); (case h => omega))
  | (with_reducible refine' go_p109 ?_)
  | (with_reducible refine' go_p1020 ?_)
  | ((with_reducible refine' go_pow ?h ?_); (case h => (unfold CPow; omega)))
  | (with_reducible refine' go_lt ?_)
  | (with_reducible refine' go_le ?_)
  | (with_reducible refine' go_gt ?_)
  | (with_reducible refine' go_ge ?_)
  | (with_reducible refine' go_eqI ?_)
  | (with_reducible refine' go_eqB ?_)
  | (with_reducible refine' go_eqS ?_)
  | (with_reducible refine' go_neI ?_)
  | (with_reducible refine' go_neB ?_)
  | (with_reducible refine' go_neS ?_)
  | (with_reducible refine' go_isN ?_)
  | (with_reducible refine' go_isNotN ?_)
  | (with_reducible refine' go_isB ?_)
  | (with_reducible refine' go_isNotB ?_)
  | (with_reducible refine' go_sl ?_)
  | (with_reducible refine' go_noPart ?_)
  | (with_reducible refine' go_part ?_)
  | (with_reducible refine' go_intK ?_)
  | ((with_reducible refine' go_slL ?h ?_); (case h => walk_at "h"); intro p H1 n1)
  | ((with_reducible refine' go_ixL ?h ?k ?_); (case h => walk_at "h"); (case k => exact rfl))
  | ((with_reducible refine' go_ixT ?h ?k ?_); (case h => walk_at "h"); (case k => exact rfl))
  | ((with_reducible refine' go_slW ?h ?_); (case h => walk_at "h"))
  | (with_reducible refine' go_bm ?_)
  | (with_reducible refine' go_bm0 ?_)
  | ((with_reducible refine' go_bmL ?h ?_); (case h => walk_at "h"))
  | ((with_reducible refine' go_append ?h ?k ?_); (case h => walk_at "h"); (case k => walk_at "z"); intro H1 n1)
  | ((with_reducible refine' go_extend ?h ?k ?z ?_); (case h => walk_at "h"); (case k => walk_at "h"); (case z => walk_at "z"); intro H1 n1)
  | ((with_reducible refine' go_clear ?h ?_); (case h => walk_at "h"); intro H1 n1)
  | ((with_reducible refine' go_dnew ?_); intro p H1 n1)
  | (with_reducible refine' go_cb ?_)
  | (with_reducible refine' go_callS ?_)
  | (with_reducible refine' go_call0 ?_)
  | ((with_reducible refine' go_lenL ?h ?_); (case h => walk_at "h"))
  | ((with_reducible refine' go_lenT ?h ?_); (case h => walk_at "h"))
  | ((with_reducible refine' go_lenK ?h ?_); (case h => walk_at "hk"))
  | ((with_reducible refine' go_listL ?h ?_); (case h => walk_at "h"); intro p H1 n1)
  | ((with_reducible refine' go_listT ?h ?_); (case h => walk_at "h"); intro p H1 n1)
  | ((with_reducible refine' go_tupleL ?h ?_); (case h => walk_at "h"); intro p H1 n1)
  | (with_reducible refine' go_intI ?_)
  | (with_reducible refine' go_intB ?_)
  | (with_reducible refine' go_abs ?_)
  | (with_reducible refine' go_min2 ?_)
  | (with_reducible refine' go_max2 ?_)
  | ((with_reducible refine' go_isi ?h ?k ?_); (case h => walk_at "ty"); (case k => exact kit_bb (by decide) (by decide)))
  | (with_reducible refine' go_lc ?_)
  | (with_reducible refine' go_for ?_)
  | (with_reducible refine' go_seqP ?_)
  | ((with_reducible refine' go_seqL ?h ?_); (case h => walk_at "h"))
  | ((with_reducible refine' go_seqT ?h ?_); (case h => walk_at "h"))
  | (with_reducible refine' go_seqS ?_)
  | (with_reducible refine' go_rng1 ?_)
  | (with_reducible refine' go_rng2 ?_)
  | ((with_reducible refine' go_rng1K ?h ?_); (case h => omega))
  | ((with_reducible refine' go_rng2K ?h ?_); (case h => omega))
  | (with_reducible refine' go_raise ?_)
  | ((with_reducible refine' go_tupG ?h ?k ?_); (case h => walk_at "h"); (case k => exact rfl))
  | ((with_reducible refine' go_lstG ?h ?k ?_); (case h => walk_at "h"); (case k => exact rfl))
  | (with_reducible refine' go_gNil ?_)
  | (with_reducible refine' go_tryAs ?_)
  | (with_reducible refine' go_tryMany1 ?_)
  | (with_reducible refine' go_tryMany2 ?_)
  | (with_reducible refine' go_WM ?_)
  | ((with_reducible refine' go_asT ?_); intro e he)
  | (with_reducible refine' go_asF ?_)
  | ((with_reducible refine' go_manyT ?_); intro e he)
  | (with_reducible refine' go_manyF ?_)
  | (with_reducible refine' go_manyN ?_)
  | (with_reducible refine' go_fld ?_)
  | ((with_reducible refine' go_FldK ?h ?c ?n ?l ?_); (case h => walk_at "h"); (case c => infer_instance); (case n => infer_instance); (case l => exact rfl))
  | (with_reducible refine' go_sfld ?_)
  | ((with_reducible refine' go_SFldK ?h ?c ?n ?l ?e ?_); (case h => walk_at "h"); (case c => infer_instance); (case n => infer_instance); (case l => exact Nat.le_of_ble_eq_true rfl); (case e => walk_at "pf"); intro H1 n1)
  | (with_reducible refine' go_meth ?_)
  | ((with_reducible refine' go_MethK 0 ?h ?l ?e ?_); (case h => walk_at "h"); (case l => exact rfl); (case e => exact rfl))
  | ((with_reducible refine' go_MethK 1 ?h ?l ?e ?_); (case h => walk_at "h"); (case l => exact rfl); (case e => exact rfl))
  | ((with_reducible refine' go_MethK 2 ?h ?l ?e ?_); (case h => walk_at "h"); (case l => exact rfl); (case e => exact rfl))
  | (with_reducible refine' go_make ?_)
  | (with_reducible refine' go_callX ?_)
  | (with_reducible refine' go_methX ?_)
  | ((with_reducible refine' go_MethXK ?h ?l ?_); (case h => walk_at "h"); (case l => exact rfl))
  | (with_reducible refine' go_dget ?_)
  | ((with_reducible refine' go_DGetS ?h ?l ?_); (case h => walk_at "h"); (case l => exact rfl))
  | (with_reducible refine' go_dput ?_)
  | ((with_reducible refine' go_DPutS ?h ?l ?e ?_); (case h => walk_at "h"); (case l => exact Nat.le_of_ble_eq_true rfl); (case e => walk_at "pk"); intro H1 n1)
  | ((with_reducible refine' go_disp ?_); intro p H1 n1)
  | (with_reducible refine' go_pairs ?_)
  | (with_reducible refine' go_pairs0 ?_)
  | ((with_reducible refine' go_DispS ?h ?e ?l ?k ?j ?m ?_); (case h => walk_at "h"); (case e => exact rfl); (case l => exact Nat.le_of_ble_eq_true rfl); (case k => (simp only [unS]; exact rfl)); (case j => (simp only [List.map_cons, List.map_nil]; exact rfl)); (case m => decide +kernel); intro H1 n1)
  | (with_reducible refine' go_par ?_)
  | ((with_reducible refine' go_ParK ?h ?_); (case h => (simp only [List.set_cons_zero, List.set_cons_succ]; exact rfl)))
  | (with_reducible refine' go_sub_ ?_)
  | ((with_reducible refine' go_setLi ?h ?k ?_); (case h => walk_at "h"); (case k => walk_at "ix"); intro H1 n1)
  | (with_reducible refine' go_listY ?_)
  | ((with_reducible refine' go_listYL ?h ?_); (case h => walk_at "h"))
  | (with_reducible refine' go_bmS ?_)
  | (with_reducible refine' go_ckw ?_)
  | ((with_reducible refine' go_maxD ?h ?_); (case h => walk_at "h"))
  | (with_reducible refine' go_listR ?_)
  | (with_reducible refine' go_rg2 ?_)
  | (with_reducible refine' go_Rg2K ?_)
  | (with_reducible refine' go_rg1 ?_)
  | (with_reducible refine' go_Rg1K ?_)
  | ((with_reducible refine' go_ListRK ?h ?_); (case h => omega); intro p H1 n1)
  | (with_reducible refine' go_enum ?_)
  | ((with_reducible refine' go_EnumL ?h ?_); (case h => walk_at "h"))
  | (with_reducible refine' go_isX ?_)
  | (with_reducible refine' go_isXt ?_)
  | (with_reducible refine' go_gCons ?_))
local macro_rules | `(tactic| walk_at "pf") => `(tactic| first
  | exact putF_nil
  | exact putF_hit
  | (refine' putF_miss ?h ?k; (case h => decide +kernel); (case k => walk_at "pf")))
local macro_rules | `(tactic| walk_at "pk") => `(tactic| first
  | exact putK_nil
  | exact putK_hit (by (simp only [List.map_cons, List.map_nil]; decide +kernel))
  | (refine' putK_miss ?h ?k; (case h => decide +kernel); (case k => walk_at "pk")))
local macro_rules | `(tactic| walk_at "ix") => `(tactic| first
  | assumption
  | omega
  | (simp only [List.length_cons, List.length_nil, List.length_append, List.length_map, List.length_range, List.length_replicate, List.length_set] at *; omega))
local macro_rules | `(tactic| walk_at "pr") => `(tactic| first
  | assumption
  | decide
  | omega
  | exact rfl
  | (intro z; cases z; done))
local macro_rules | `(tactic| walk_at "hk") => `(tactic| first
  | assumption
  | exact seq' (by assumption) (by walk_at "sm"))
local macro_rules | `(tactic| walk_at "ty") => `(tactic| first
  | exact rfl
  | assumption
  | exact tyN_L (by walk_at "h")
  | exact tyN_T (by walk_at "h")
  | exact tyN_D (by walk_at "h"))
local macro_rules | `(tactic| walk_at "go") => `(tactic| repeat (walk_at "s"))
/-! ### a pair that is odd -/
theorem RowV.tup {K : PySem.W.Frag} {H : Hp} {p : Addr} {row : List Int} (e : H p = some (.tup (row.map V.int))) : RowV K H (.ref p) none :=
  ⟨.inr ⟨"tuple", tyN_T e, by decide, rfl⟩, .tup e fun y hy => by obtain ⟨i, _, rfl⟩ := List.mem_map.mp hy; exact (Itm.int i).dp, fun p' xs' e1 e2 => by cases e1; rw [e] at e2; cases e2⟩
theorem RowV.non {K : PySem.W.Frag} {H : Hp} : RowV K H .non none := ⟨.inr ⟨"NoneType", rfl, by decide, rfl⟩, Itm.non.dp.mono (by omega), fun p' xs' e1 e2 => by cases e1⟩
section
variable {K : PySem.W.Frag} {a : Ac} {H : Hp} {Q : VK} {E : XK} [F : Fc K a]
omit F in
theorem p_odd_pair {t q0 : Addr} {b c m a0 : Int} {row : List Int} (ht : H t = some (.tup [.int b, .ref q0])) (hq : H q0 = some (.lst (row.map V.int))) (g : GoodRow row)
    (q : ∀ t2 x ok H', Same H H' → H t2 = none → PrV K H' t2 x ok → Q (.ref t2) H') : sp_L_odd_pair K a [.ref t, .int c, .int m, .int a0] H Q E := by
  refine in_L_odd_pair ?_
  unfold t_L_odd_pair
  have g1 := g.1
  walk_at "go"
  refine go_ixLo (by walk_at "h") ⟨by omega, by show _ < (10 : Int); omega⟩ fun v hv hi => ?_
  rename_i p1 H1 n1 p2 H2 n2
  have hx : Itm K H2 v := by
    simp only [List.mem_cons, List.not_mem_nil, or_false] at hv
    rcases hv with rfl | rfl | rfl | rfl | rfl | rfl | rfl | rfl | rfl | rfl
    · exact .int _
    · exact .int _
    · exact .int _
    · exact .int _
    · exact .int _
    · exact .int _
    · exact .bl _
    · exact .non
    · exact .ints (ns := [17]) (by walk_at "h")
    · exact .int _
  walk_at "go"
  rename_i p3 H3 n3 p4 H4 n4 p5 H5 n5 p6 H6 n6 p7 H7 n7 p8 H8 n8 p9 H9 n9 p10 H10 n10 p11 H11 n11 p12 H12 n12 p13 H13 n13 p14 H14 n14 p15 H15 n15 p16 H16 n16 p17 H17 n17 p18 H18 n18 p19 H19 n19 p20 H20 n20 p21 H21 n21 p22 H22 n22 p23 H23 n23 p24 H24 n24 p25 H25 n25 p26 H26 n26
  refine go_ixLo (by walk_at "h") ⟨by omega, by show _ < (9 : Int); omega⟩ fun w hw hi2 => ?_
  have ki : ∀ (H' : Hp) (y : V), y ∈ row.map V.int → Itm K H' y := fun H' y hy => by
    obtain ⟨z, _, rfl⟩ := List.mem_map.mp hy
    exact .int _
  have kc : ∀ (H' : Hp) (lo hi : Option Int) (y : V), y ∈ cutV (row.map V.int) lo hi → Itm K H' y := fun H' lo hi y hy => ki H' y (List.mem_of_mem_drop (List.mem_of_mem_take hy))
  have ka : ∀ (H' : Hp) (xs ys : List V), (∀ y ∈ xs, Itm K H' y) → (∀ y ∈ ys, Itm K H' y) → ∀ y ∈ xs ++ ys, Itm K H' y := fun H' xs ys h1 h2 y hy => (List.mem_append.mp hy).elim (h1 y) (h2 y)
  have k1 : ∀ (H' : Hp) (z : V), Itm K H' z → ∀ y ∈ [z], Itm K H' y := fun H' z h y hy => by rw [List.mem_singleton.mp hy]; exact h
  have lc : (cutV (row.map V.int) none (some 15)).length = 15 := by rw [cut_take _ (by omega), List.length_take, List.length_map, g1]; rfl
  have ld : (cutV (row.map V.int) (some 1) none).length = 15 := by rw [cut_drop _ (by omega), List.length_drop, List.length_map, g1]; rfl
  have bad : RowV K H26 w none := by
    simp only [List.mem_append, List.mem_cons, List.not_mem_nil, or_false] at hw
    rcases hw with ((rfl | rfl | rfl | rfl) | rfl | rfl) | rfl | rfl | rfl
    · exact .lst (by walk_at "h") (kc _ _ _) (by omega) (isR_len (by omega))
    · exact .lst (by walk_at "h") (ka _ _ _ (ki _) (k1 _ _ (.int _))) (by simp [g1]) (isR_len (by simp [g1]))
    · exact .tup (by walk_at "h")
    · exact .non
    · exact .lst (by walk_at "h") (ka _ _ _ (k1 _ _ (.int _)) (kc _ _ _)) (by simp [ld]) (isR_bad (y := .int (-1)) (by simp) rfl)
    · exact .lst (by walk_at "h") (ka _ _ _ (kc _ _ _) (k1 _ _ (.int _))) (by simp [lc]) (isR_bad (y := .int 1000000000) (by simp) rfl)
    · exact .lst (by walk_at "h") (ka _ _ _ (k1 _ _ (.bl _)) (kc _ _ _)) (by simp [ld]) (isR_bad (y := .bl true) (by simp) rfl)
    · exact .lst (by walk_at "h") (ka _ _ _ (kc _ _ _) (k1 _ _ (.str _ (by decide +kernel)))) (by simp [lc]) (isR_bad (y := .str "1") (by simp) rfl)
    · exact .lst (by walk_at "h") (ka _ _ _ (kc _ _ _) (k1 _ _ .non)) (by simp [lc]) (isR_bad (y := .non) (by simp) rfl)
  have s26 : Same H H26 := by walk_at "sm"
  have s226 : Same H2 H26 := by walk_at "sm"
  have hx26 := hx.same s226
  have hq26 := s26 _ _ hq
  have ht26 := s26 _ _ ht
  clear hw hv hi hi2 n1 n2 n3 n4 n5 n6 n7 n8 n9 n10 n11 n12 n13 n14 n15 n16 n17 n18 n19 n20 n21 n22 n23 n24 n25 n26
  walk_at "go"
  refine go_dec (fun c1 => ?_) (fun c1 => ?_)
  · walk_at "go"
    rename_i p H27 n27
    exact q p _ _ H27 (s26.trans n27.same) (s26.free n27.free) ⟨⟨_, n27.at, (RowV.good hq26 g).same n27.same⟩, hx26.same n27.same⟩
  · walk_at "go"
    refine go_dec (fun c2 => ?_) (fun c2 => ?_)
    · walk_at "go"
      rename_i p H27 n27
      exact q p _ _ H27 (s26.trans n27.same) (s26.free n27.free) ⟨⟨_, n27.at, bad.same n27.same⟩, .int _⟩
    · walk_at "go"
      rename_i p H27 n27
      exact q p _ _ H27 (s26.trans n27.same) (s26.free n27.free) ⟨⟨_, n27.at, bad.same n27.same⟩, hx26.same n27.same⟩
end
end Bk

namespace Bk
open PySem L2 PyProof.Rows
/-! our own short tactics: h: what stands at a place; ne: two places; sm: what stood stands; z: a size; s: a step; go: steps -/
local macro_rules | `(tactic| walk_at "h") => `(tactic| first
  | assumption
  | exact New.at (by assumption)
  | exact Wr.at (by assumption)
  | (refine' New.old (by assumption) ?_; walk_at "h")
  | (refine' Same.at (by assumption) ?_; walk_at "h")
  | (refine' Wr.old (by assumption) ?_ ?_; walk_at "ne"; walk_at "h")
  | (refine' Chg.at (by assumption) ?_ ?_; walk_at "ni"; walk_at "h"))
local macro_rules | `(tactic| walk_at "ni") => `(tactic| first
  | exact ni_nil
  | assumption
  | (refine' ni_cons ?_ ?_; walk_at "ne"; walk_at "ni"))
local macro_rules | `(tactic| walk_at "ne") => `(tactic| first
  | assumption
  | exact Ne.symm (by assumption)
  | exact New.ne (by assumption) (by walk_at "h")
  | exact ne_none (by assumption) (by walk_at "h")
  | exact Ne.symm (ne_none (by assumption) (by walk_at "h"))
  | exact Ne.symm (New.ne (by assumption) (by walk_at "h")))
local macro_rules | `(tactic| walk_at "sm") => `(tactic| first
  | exact Same.refl _
  | assumption
  | (refine' Same.trans ?_ (New.same (by assumption)); walk_at "sm")
  | (refine' Same.trans ?_ (by assumption : Same _ _); walk_at "sm"))
local macro_rules | `(tactic| walk_at "z") => `(tactic| first
  | assumption
  | (rw [PySem.sizeLine_eq]; omega)
  | (rw [PySem.sizeLine_eq]; simp only [List.length_cons, List.length_nil, List.length_append, List.length_map, List.length_range, List.length_replicate, len_cut]; omega)
  | (rw [PySem.sizeLine_eq]; simp only [List.length_cons, List.length_nil, List.length_append, List.length_map, List.length_range, List.length_replicate, len_cut] at *; omega))
local macro_rules | `(tactic| walk_at "s") => `(tactic| first
  | ((with_reducible refine' go_var ?h ?_); (case h => exact rfl))
  | (with_reducible refine' go_c ?_)
  | (with_reducible refine' go_op ?_)
  | (with_reducible refine' go_un ?_)
  | (with_reducible refine' go_rU ?_)
  | (with_reducible refine' go_seq ?_)
  | (with_reducible refine' go_ret ?_)
  | (with_reducible refine' go_retN ?_)
  | (with_reducible refine' go_next ?_)
  | (with_reducible refine' go_drop ?_)
  | (with_reducible refine' go_asg ?_)
  | ((with_reducible refine' go_name2 ?h ?_); (case h => (simp only [List.set_cons_zero, List.set_cons_succ]; exact rfl)))
  | ((with_reducible refine' go_name2 ?h ?_); (case h => exact rfl))
  | (with_reducible refine' go_ifS ?_)
  | (with_reducible refine' go_blk ?_)
  | (with_reducible refine' go_test ?_)
  | (with_reducible refine' go_tB ?_)
  | (with_reducible refine' go_and ?_)
  | (with_reducible refine' go_or ?_)
  | (with_reducible refine' go_not ?_)
  | (with_reducible refine' go_andV ?_)
  | (with_reducible refine' go_orV ?_)
  | (with_reducible refine' go_notV ?_)
  | (with_reducible refine' go_if ?_)
  | (with_reducible refine' go_chain ?_)
  | (with_reducible refine' iteT ?_)
  | (with_reducible refine' iteF ?_)
  | ((with_reducible refine' go_Td ?h ?_); (case h => walk_at "pr"))
  | ((with_reducible refine' go_Fd ?h ?_); (case h => walk_at "pr"))
  | ((with_reducible refine' go_Tn ?h ?_); (case h => walk_at "pr"))
  | ((with_reducible refine' go_Fn ?h ?_); (case h => walk_at "pr"))
  | ((with_reducible refine' go_T ?h ?_); (case h => (first | decide | assumption | exact rfl)))
  | ((with_reducible refine' go_F ?h ?_); (case h => (first | decide | assumption | exact rfl)))
  | (with_reducible refine' go_nil ?_)
  | (with_reducible refine' go_cons ?_)
  | (with_reducible refine' go_tLst ?_)
  | (with_reducible refine' go_tTup ?_)
  | ((with_reducible refine' go_LstK ?h ?_); (case h => walk_at "z"); intro p H1 n1)
  | ((with_reducible refine' go_TupK ?h ?_); (case h => walk_at "z"); intro p H1 n1)
  | (with_reducible refine' go_addI ?_)
  | ((with_reducible refine' go_addL ?h ?k ?z ?_); (case h => walk_at "h"); (case k => walk_at "h"); (case z => walk_at "z"); intro p H1 n1)
  | (with_reducible refine' go_sub ?_)
  | ((with_reducible refine' go_mulI ?h ?_); (case h => (unfold CMul; omega)))
  | ((with_reducible refine' go_mulL ?h ?k ?_); (case h => walk_at "h"); (case k => (refine ⟨by omega, by omega, ?_⟩; walk_at "z")); intro p H1 n1)
  | ((with_reducible refine' go_div ?h ?_); (case h => (unfold CDiv; omega)))
  | ((with_reducible refine' go_mod ?h ?_); (case h => omega))
  | (with_reducible refine' go_p109 ?_)
  | (with_reducible refine' go_p1020 ?_)
  | ((with_reducible refine' go_pow ?h ?_); (case h => (unfold CPow; omega)))
  | (with_reducible refine' go_lt ?_)
  | (with_reducible refine' go_le ?_)
  | (with_reducible refine' go_gt ?_)
  | (with_reducible refine' go_ge ?_)
  | (with_reducible refine' go_eqI ?_)
  | (with_reducible refine' go_eqB ?_)
  | (with_reducible refine' go_eqS ?_)
  | (with_reducible refine' go_neI ?_)
  | (with_reducible refine' go_neB ?_)
  | (with_reducible refine' go_neS ?_)
  | (with_reducible refine' go_isN ?_)
  | (with_reducible refine' go_isNotN ?_)
  | (with_reducible refine' go_isB ?_)
  | (with_reducible refine' go_isNotB ?_)
  | (with_reducible refine' go_sl ?_)
  | (with_reducible refine' go_noPart ?_)
  | (with_reducible refine' go_part ?_)
  | (with_reducible refine' go_intK ?_)
  | ((with_reducible refine' go_slL ?h ?_); (case h => walk_at "h"); intro p H1 n1)
  | ((with_reducible refine' go_ixL ?h ?k ?_); (case h => walk_at "h"); (case k => exact rfl))
  | ((with_reducible refine' go_ixT ?h ?k ?_); (case h => walk_at "h"); (case k => exact rfl))
  | ((with_reducible refine' go_slW ?h ?_); (case h => walk_at "h"))
  | (with_reducible refine' go_bm ?_)
  | (with_reducible refine' go_bm0 ?_)
  | ((with_reducible refine' go_bmL ?h ?_); (case h => walk_at "h"))
  | ((with_reducible refine' go_append ?h ?k ?_); (case h => walk_at "h"); (case k => walk_at "z"); intro H1 n1)
  | ((with_reducible refine' go_extend ?h ?k ?z ?_); (case h => walk_at "h"); (case k => walk_at "h"); (case z => walk_at "z"); intro H1 n1)
  | ((with_reducible refine' go_clear ?h ?_); (case h => walk_at "h"); intro H1 n1)
  | ((with_reducible refine' go_dnew ?_); intro p H1 n1)
  | (with_reducible refine' go_cb ?_)
  | (with_reducible refine' go_callS ?_)
  | (with_reducible refine' go_call0 ?_)
  | ((with_reducible refine' go_lenL ?h ?_); (case h => walk_at "h"))
  | ((with_reducible refine' go_lenT ?h ?_); (case h => walk_at "h"))
  | ((with_reducible refine' go_lenK ?h ?_); (case h => walk_at "hk"))
  | ((with_reducible refine' go_listL ?h ?_); (case h => walk_at "h"); intro p H1 n1)
  | ((with_reducible refine' go_listT ?h ?_); (case h => walk_at "h"); intro p H1 n1)
  | ((with_reducible refine' go_tupleL ?h ?_); (case h => walk_at "h"); intro p H1 n1)
  | (with_reducible refine' go_intI ?_)
  | (with_reducible refine' go_intB ?_)
  | (with_reducible refine' go_abs ?_)
  | (with_reducible refine' go_min2 ?_)
  | (with_reducible refine' go_max2 ?_)
  | ((with_reducible refine' go_isi ?h ?k ?_); (case h => walk_at "ty"); (case k => exact kit_bb (by decide) (by decide)))
  | (with_reducible refine' go_lc ?_)
  | (with_reducible refine' go_for ?_)
  | (with_reducible refine' go_seqP ?_)
  | ((with_reducible refine' go_seqL ?h ?_); (case h => walk_at "h"))
  | ((with_reducible refine' go_seqT ?h ?_); (case h => walk_at "h"))
  | (with_reducible refine' go_seqS ?_)
  | (with_reducible refine' go_rng1 ?_)
  | (with_reducible refine' go_rng2 ?_)
  | ((with_reducible refine' go_rng1K ?h ?_); (case h => omega))
  | ((with_reducible refine' go_rng2K ?h ?_); (case h => omega))
  | (with_reducible refine' go_raise ?_)
  | ((with_reducible refine' go_tupG ?h ?k ?_); (case h => walk_at "h"); (case k => exact rfl))
  | ((with_reducible refine' go_lstG ?h ?k ?_); (case h => walk_at "h"); (case k => exact rfl))
  | (with_reducible refine' go_gNil ?_)
  | (with_reducible refine' go_tryAs ?_)
  | (with_reducible refine' go_tryMany1 ?_)
  | (with_reducible refine' go_tryMany2 ?_)
  | (with_reducible refine' go_WM ?_)
  | ((with_reducible refine' go_asT ?_); intro e he)
  | (with_reducible refine' go_asF ?_)
  | ((with_reducible refine' go_manyT ?_); intro e he)
  | (with_reducible refine' go_manyF ?_)
  | (with_reducible refine' go_manyN ?_)
  | (with_reducible refine' go_fld ?_)
  | ((with_reducible refine' go_FldK ?h ?c ?n ?l ?_); (case h => walk_at "h"); (case c => infer_instance); (case n => infer_instance); (case l => exact rfl))
  | (with_reducible refine' go_sfld ?_)
  | ((with_reducible refine' go_SFldK ?h ?c ?n ?l ?e ?_); (case h => walk_at "h"); (case c => infer_instance); (case n => infer_instance); (case l => exact Nat.le_of_ble_eq_true rfl); (case e => walk_at "pf"); intro H1 n1)
  | (with_reducible refine' go_meth ?_)
  | ((with_reducible refine' go_MethK 0 ?h ?l ?e ?_); (case h => walk_at "h"); (case l => exact rfl); (case e => exact rfl))
  | ((with_reducible refine' go_MethK 1 ?h ?l ?e ?_); (case h => walk_at "h"); (case l => exact rfl); (case e => exact rfl))
  | ((with_reducible refine' go_MethK 2 ?h ?l ?e ?_); (case h => walk_at "h"); (case l => exact rfl); (case e => exact rfl))
  | (with_reducible refine' go_make ?_)
  | (with_reducible refine' go_callX ?_)
  | (with_reducible refine' go_methX ?_)
  | ((with_reducible refine' go_MethXK ?h ?l ?_); (case h => walk_at "h"); (case l => exact rfl))
  | (with_reducible refine' go_dget ?_)
  | ((with_reducible refine' go_DGetS ?h ?l ?_); (case h => walk_at "h"); (case l => exact rfl))
  | (with_reducible refine' go_dput ?_)
  | ((with_reducible refine' go_DPutS ?h ?l ?e ?_); (case h => walk_at "h"); (case l => exact Nat.le_of_ble_eq_true rfl); (case e => walk_at "pk"); intro H1 n1)
  | ((with_reducible refine' go_disp ?_); intro p H1 n1)
  | (with_reducible refine' go_pairs ?_)
  | (with_reducible refine' go_pairs0 ?_)
  | ((with_reducible refine' go_DispS ?h ?e ?l ?k ?j ?m ?_); (case h => walk_at "h"); (case e => exact rfl); (case l => exact Nat.le_of_ble_eq_true rfl); (case k => (simp only [unS]; exact rfl)); (case j => (simp only [List.map_cons, List.map_nil]; exact rfl)); (case m => decide +kernel); intro H1 n1)
  | (with_reducible refine' go_par ?_)
  | ((with_reducible refine' go_ParK ?h ?_); (case h => (simp only [List.set_cons_zero, List.set_cons_succ]; exact rfl)))
  | (with_reducible refine' go_sub_ ?_)
  | ((with_reducible refine' go_setLi ?h ?k ?_); (case h => walk_at "h"); (case k => walk_at "ix"); intro H1 n1)
  | (with_reducible refine' go_listY ?_)
  | ((with_reducible refine' go_listYL ?h ?_); (case h => walk_at "h"))
  | (with_reducible refine' go_bmS ?_)
  | (with_reducible refine' go_ckw ?_)
  | ((with_reducible refine' go_maxD ?h ?_); (case h => walk_at "h"))
  | (with_reducible refine' go_listR ?_)
  | (with_reducible refine' go_rg2 ?_)
  | (with_reducible refine' go_Rg2K ?_)
  | (with_reducible refine' go_rg1 ?_)
  | (with_reducible refine' go_Rg1K ?_)
  | ((with_reducible refine' go_ListRK ?h ?_); (case h => omega); intro p H1 n1)
  | (with_reducible refine' go_enum ?_)
  | ((with_reducible refine' go_EnumL ?h ?_); (case h => walk_at "h"))
  | (with_reducible refine' go_isX ?_)
  | (with_reducible refine' go_isXt ?_)
  | (with_reducible refine' go_gCons ?_))
local macro_rules | `(tactic| walk_at "pf") => `(tactic| first
  | exact putF_nil
  | exact putF_hit
  | (refine' putF_miss ?h ?k; (case h => decide +kernel); (case k => walk_at "pf")))
local macro_rules | `(tactic| walk_at "pk") => `(tactic| first
  | exact putK_nil
  | exact putK_hit (by (simp only [List.map_cons, List.map_nil]; decide +kernel))
  | (refine' putK_miss ?h ?k; (case h => decide +kernel); (case k => walk_at "pk")))
local macro_rules | `(tactic| walk_at "ix") => `(tactic| first
  | assumption
  | omega
  | (simp only [List.length_cons, List.length_nil, List.length_append, List.length_map, List.length_range, List.length_replicate, List.length_set] at *; omega))
local macro_rules | `(tactic| walk_at "pr") => `(tactic| first
  | assumption
  | decide
  | omega
  | exact rfl
  | (intro z; cases z; done))
local macro_rules | `(tactic| walk_at "hk") => `(tactic| first
  | assumption
  | exact seq' (by assumption) (by walk_at "sm"))
local macro_rules | `(tactic| walk_at "ty") => `(tactic| first
  | exact rfl
  | assumption
  | exact tyN_L (by walk_at "h")
  | exact tyN_T (by walk_at "h")
  | exact tyN_D (by walk_at "h"))
local macro_rules | `(tactic| walk_at "go") => `(tactic| repeat (walk_at "s"))
/-! ### commits -/
section
variable {K : PySem.W.Frag} {a : Ac} {H : Hp} {Q : VK} {E : XK} [F : Fc K a] {d r : Addr} {R : List (List Int)} {done : Int} {k : Option Nat}
/-- one pair is another one -/
theorem PsV.put {H' : Hp} {P P2 t2 : Addr} {ts : List Addr} {sp : List (V × Option (List Int))} {x : V} {ok : Option (List Int)} {i : Nat} (h : PsV K H P ts sp) (s : Same H H') (k : PrV K H' t2 x ok) (e : H' P2 = some (.lst ((ts.set i t2).map V.ref))) : PsV K H' P2 (ts.set i t2) (sp.set i (x, ok)) := by
  refine ⟨e, by simp [h.len], fun j t ej => ?_⟩
  by_cases c : i = j
  · subst c
    have hi : i < ts.length := by have := (List.getElem?_eq_some_iff.mp ej).1; simpa using this
    rw [List.getElem?_set_self hi] at ej
    cases ej
    exact ⟨x, ok, List.getElem?_set_self (by rw [← h.len]; exact hi), k⟩
  · rw [List.getElem?_set_ne c] at ej
    obtain ⟨x', ok', e1, e2⟩ := h.at_ j t ej
    exact ⟨x', ok', by rw [List.getElem?_set_ne c]; exact e1, e2.same s⟩
theorem PsV.of {P : Addr} {ts qs : List Addr} {prs : List (Int × List Int)} (h : PrsAt H P ts qs prs) (g : ∀ p ∈ prs, GoodRow p.2) : PsV K H P ts (prs.map fun p => (V.int p.1, some p.2)) := by
  refine ⟨h.rr, by simp [h.lt], fun i t e => ?_⟩
  have hi : i < prs.length := by have := (List.getElem?_eq_some_iff.mp e).1; have := h.lt; omega
  obtain ⟨t', q, e1, e2, e3, e4⟩ := h.at_ i _ _ (List.getElem?_eq_getElem hi)
  rw [e] at e1; cases e1
  exact ⟨_, _, by rw [List.getElem?_map, List.getElem?_eq_getElem hi]; rfl, ⟨_, e3, .good e4 (g _ (List.getElem_mem hi))⟩, .int _⟩
theorem setP {ts : List Addr} {t2 : Addr} {i : Int} (h0 : 0 ≤ i) (h1 : i < ts.length) : cutV (ts.map V.ref) none (some i) ++ [V.ref t2] ++ cutV (ts.map V.ref) (some (i + 1)) none = (ts.set i.toNat t2).map V.ref := by
  rw [cut_take _ h0, cut_drop _ (by omega), List.set_eq_take_append_cons_drop, if_pos (by omega), List.map_append, List.map_cons, List.map_take, List.map_drop]
  have : (i + 1).toNat = i.toNat + 1 := by omega
  rw [this]
  simp
theorem commitW_len {prs : List (Int × List Int)} : ((commitW prs).length : Int) = if prs = [] then 0 else 2 * prs.length + 2 := by
  unfold commitW
  split
  · rfl
  · simp [logW, homesW]; omega
/-- all rows of the disk, as they are read -/
theorem lc_rows2 {σ : Bk.St} {m j : Nat} {n : Int} (h : DkEx a [] H d r R done k) (hn : n = R.length) (hσ : σ[j]? = some (some (.ref d))) (hm : m < σ.length) (hj : m ≠ j) (q : ∀ L ls H', Same H H' → H L = none → RowsAt H' L ls R → Q (.ref L) H') :
    LcK (gName m) tYes (tMethP "read" [(a.Disk, sp_Disk_read K a)] (WE W0) (tVar j) (tCons (tVar m) tNil)) [m] σ Q (Itr 0 n.toNat) H := by
  have many := h.many
  have gR := h.good
  refine lc_newR (o := fun i => .lst ((R.getD i []).map V.int)) (by rw [sizeLine_eq]; omega) (fun i H' Q' hi s q' => ?_) (fun D qs H2 hD s2 hq w2 hd2 => ?_)
  · have h2 := h.same s
    have hi2 : i < R.length := by omega
    have sj : ((σ.set m none).set m (some (.int (0 + (i : Int)))))[j]? = some (some (.ref d)) := by rw [List.getElem?_set_ne hj, List.getElem?_set_ne hj]; exact hσ
    have sm : ((σ.set m none).set m (some (.int (0 + (i : Int)))))[m]? = some (some (.int (0 + (i : Int)))) := List.getElem?_set_self (by simpa using hm)
    refine go_meth (go_var sj ?_)
    refine go_methD h2 (fun _ _ _ => rfl) ?_
    refine go_cons (go_var sm (go_nil ?_))
    refine p_readE h2 (by omega) (row := R[i]) (by simp [hi2]) fun p3 H3 s3 p3n p33 => ?_
    refine q' p3 H3 s3 p3n ?_
    rw [p33, List.getD_eq_getElem?_getD, List.getElem?_eq_getElem hi2]; rfl
  · refine q D qs H2 s2 hD ⟨hd2, by omega, fun i p e => ?_⟩
    have hi : i < R.length := by have := (List.getElem?_eq_some_iff.mp e).1; omega
    refine ⟨R[i], List.getElem?_eq_getElem hi, fun z => ?_, ?_⟩
    · have := (gR R[i] (List.getElem_mem hi)).1
      rw [z] at this; cases this
    · rw [w2.at_ i p e, List.getD_eq_getElem?_getD, List.getElem?_eq_getElem hi]; rfl
theorem commits_6 {P L : Addr} {ts ls : List Addr} {sp : List (V × Option (List Int))} {v0 v3 v5 v6 v7 v8 v9 : Option V} (h : DkEx a [] H d r R 0 none) (hP : PsV K H P ts sp) (hz : sp.length ≤ 17) (Pr : P ≠ r) (lr : RowsAt H L ls R) (q : ∀ H', Q (.bl true) H') :
    t_L_commits_6 K a E ⟨fun _ H' => Q .non H', Q, F0, F0⟩ [v0, some (.ref d), some (.int R.length), v3, some (.ref P), v5, v6, v7, v8, v9, some (.ref L), none, none, none, none, none] H := by
  unfold t_L_commits_6
  have many := h.many
  walk_at "go"
  refine p_due hP (by omega) fun H1 s1 => ?_
  have h1 := h.same s1
  have hP1 := hP.same s1
  have lr1 := lr.same s1
  have rr1 := hP1.rr
  walk_at "go"
  rename_i P2 H2 n2
  have h2 := h1.same n2.same
  have hP2 : PsV K H2 P2 ts sp := ⟨n2.at, hP1.len, (hP1.same n2.same).at_⟩
  have hP22 := hP1.same n2.same
  have lr2 := lr1.same n2.same
  by_cases hd : due R.length sp = ""
  · have few : sp.length ≤ 15 := by
      by_cases c : 15 < sp.length
      · rw [due, if_pos c] at hd; exact absurd hd (by decide)
      · omega
    have hc : chk R.length 16 sp = "" := by rw [due, if_neg (by omega)] at hd; exact hd
    obtain ⟨prs, rfl, b1, b2⟩ := chk_good hc
    obtain ⟨⟨qs, hA⟩, gr⟩ := hP2.good
    obtain ⟨⟨qs2, hA2⟩, _⟩ := hP22.good
    have g : GoodPrs R.length prs := ⟨by simpa using few, fun p hp => ⟨(b1 p hp).2.1, (b1 p hp).2.2, gr p hp⟩, b2⟩
    refine p_commit h2 hA g ⟨fun _ H3 c3 h3 => ?_, fun n e => nomatch e⟩
    have o := hA2.out h2
    have hA3 := hA2.chg c3 (by simp [Pr, h2.ne hA2.rr]) o.1 o.2
    have rr3 := hA3.rr
    have lt3 := hA3.lt
    rw [hd]
    walk_at "go"
    refine go_methD h3 (fun _ _ _ => rfl) ?_
    walk_at "go"
    refine p_writesE h3 ?_
    rw [commitW_len]
    walk_at "go"
    rename_i p4 H4 n4
    refine go_neD (d := .list (prsD prs)) (e := .list []) (hA3.same n4.same).dp (.lst (SqL.of n4.at) .nil) (shaped_prs prs) (by decide) ?_
    cases prs with
    | nil =>
      walk_at "go"
      refine cast (congrArg (fun b => Q (.bl b) H4) (Eq.symm (decide_eq_true ?_))) (q H4)
      rw [if_pos rfl, if_neg (by decide)]; omega
    | cons p prs =>
      walk_at "go"
      have ef : PyData.eqv (.list (prsD (p :: prs))) (.list []) = false := by simp [prsD, PyData.eqv, PyData.eqvAll]
      refine cast (congrArg (fun b => Q (.bl b) H4) (Eq.symm (decide_eq_true ?_))) (q H4)
      rw [if_neg (by simp), ef, if_pos (by decide), List.length_map, lt3]; omega
  · have few : 15 < sp.length ∨ chk R.length 0 sp ≠ "" := by
      by_cases c : 15 < sp.length
      · exact .inl c
      · refine .inr fun z => hd ?_
        rw [due, if_neg c, ← chk_16, z]
    have small : sp.length ≤ 15 → ∀ w, chk R.length 0 sp = w → due R.length sp = w := fun c w z => by rw [due, if_neg (by omega), ← chk_16, z]
    refine p_commit_bad h2 hP2 (by omega) (fun c H3 s3 => ?_) few (fun c e H3 s3 => ?_) (fun c e H3 s3 => ?_)
    · have ed : due R.length sp = "much" := by rw [due, if_pos c]
      walk_at "go"
      refine p_word a.TooMuch 2 (.inr (.inr (.inl ⟨rfl, rfl⟩))) fun H4 s4 => ?_
      have s24 := s3.trans s4
      have h4 := h2.same s24
      have lr4 := lr2.same s24
      rw [ed]
      walk_at "go"
      refine go_methD h4 (fun _ _ _ => rfl) ?_
      walk_at "go"
      refine p_writesE h4 ?_
      walk_at "go"
      refine lc_rows2 (j := 1) h4 rfl rfl (by show _ < 16; decide) (by decide) fun L2 ls2 H5 s5 L2n lr5 => ?_
      walk_at "go"
      exact rows_eq lr5 (lr4.same s5) (q _)
    · have ed := small c _ e
      walk_at "go"
      refine p_word a.NoBlock 0 (.inl ⟨rfl, rfl⟩) fun H4 s4 => ?_
      have s24 := s3.trans s4
      have h4 := h2.same s24
      have lr4 := lr2.same s24
      rw [ed]
      walk_at "go"
      refine go_methD h4 (fun _ _ _ => rfl) ?_
      walk_at "go"
      refine p_writesE h4 ?_
      walk_at "go"
      refine lc_rows2 (j := 1) h4 rfl rfl (by show _ < 16; decide) (by decide) fun L2 ls2 H5 s5 L2n lr5 => ?_
      walk_at "go"
      exact rows_eq lr5 (lr4.same s5) (q _)
    · have ed := small c _ e
      walk_at "go"
      refine p_word a.BadRow 1 (.inr (.inl ⟨rfl, rfl⟩)) fun H4 s4 => ?_
      have s24 := s3.trans s4
      have h4 := h2.same s24
      have lr4 := lr2.same s24
      rw [ed]
      walk_at "go"
      refine go_methD h4 (fun _ _ _ => rfl) ?_
      walk_at "go"
      refine p_writesE h4 ?_
      walk_at "go"
      refine lc_rows2 (j := 1) h4 rfl rfl (by show _ < 16; decide) (by decide) fun L2 ls2 H5 s5 L2n lr5 => ?_
      walk_at "go"
      exact rows_eq lr5 (lr4.same s5) (q _)
theorem p_commits {script : Addr} {ns : List Int} (hS : SqL K H script (ns.map V.int)) (h : DkEx a [] H d r R 0 none) (q : ∀ H', Q (.bl true) H') : sp_L_commits K a [.ref script, .ref d] H Q E := by
  refine in_L_commits ?_
  unfold t_L_commits
  have many := h.many
  walk_at "go"
  refine go_methD h (fun _ _ _ => rfl) ?_
  walk_at "go"
  refine p_blocksE h ?_
  walk_at "go"
  refine p_cell_at (ns := ns) hS (by omega) ?_
  generalize cellI ns 2 = c2
  walk_at "go"
  refine p_homes hS (by omega) (by omega) fun p hs H1 s1 pn hp few up hb => ?_
  have hS1 := s1.seq hS
  walk_at "go"
  refine lc_prsN (prs := hs.map fun y => (y, rowOf (cellI ns (26 + y % 20)))) hp (by simp) (by simp; omega) (fun i x b row H' Q' hx hpr s q' => ?_) (fun P ts qs H2 Pn s2 hP hts hqs => ?_)
  · rw [List.getElem?_map] at hx hpr
    cases e : hs[i]? with
    | none => rw [e] at hx; cases hx
    | some y =>
      rw [e] at hx hpr
      cases hx; cases hpr
      simp only [List.set_cons_zero, List.set_cons_succ]
      walk_at "go"
      refine p_cell_at (ns := ns) (s.seq hS1) (by omega) ?_
      walk_at "go"
      refine p_rowOf fun q3 H3 s3 q3n hq3 => ?_
      walk_at "go"
      rename_i t4 H4 n4
      exact q' t4 q3 H4 (s3.trans n4.same) (s3.free n4.free) n4.at q3n (n4.old hq3)
  · generalize hprs : hs.map (fun y => (y, rowOf (cellI ns (26 + y % 20)))) = prs at hP
    have gr : ∀ p ∈ prs, GoodRow p.2 := fun p hp => by
      rw [← hprs] at hp
      obtain ⟨y, _, rfl⟩ := List.mem_map.mp hp
      exact good_rowOf _
    have lp : prs.length ≤ 17 := by rw [← hprs, List.length_map]; omega
    have s02 := s1.trans s2
    have h2 := h.same s02
    have rr := hP.rr
    walk_at "go"
    rename_i G H3 n3
    have hG : PrsAt H3 G ts qs prs := ⟨by have := hP.rr; exact n3.at, (hP.same n3.same).lt, (hP.same n3.same).lq, (hP.same n3.same).at_⟩
    have hP3 := PsV.of (K := K) (hP.same n3.same) gr
    have h3 := h2.same n3.same
    have Pr : P ≠ r := (h.same s1).fresh Pn
    have s03 := s02.trans n3.same
    have hS3 := s03.seq hS
    unfold t_L_commits_4
    walk_at "go"
    refine p_cell_at (ns := ns) hS3 (by omega) ?_
    generalize cellI ns 3 = c3
    walk_at "go"
    refine for_R (fun i σ' H' => ∃ P ts sp v6 v7 v8 v9, σ' = [some (.ref script), some (.ref d), some (.int R.length), some (.ref p), some (.ref P), some (.ref G), v6, v7, v8, v9, none, none, none, none, none, none] ∧ Same H3 H' ∧ PsV K H' P ts sp ∧ sp.length = prs.length ∧ P ≠ r) ⟨P, ts, _, _, _, _, _, rfl, Same.refl _, hP3, by simp, Pr⟩ ?_ ?_
    · rintro i σ' H4 hi ⟨P, ts', sp, v6, v7, v8, v9, rfl, s4, hP4, lsp, Pr⟩
      simp only [List.set_cons_zero, List.set_cons_succ, Int.zero_add]
      have rr4 := hP4.rr
      have lt4 := hP4.len
      walk_at "go"
      rename_i p5 H5 n5
      refine go_neNil (n := 4) (n5.old rr4) n5.at (fun y hy => (hP4.dp y hy).same n5.same) (by omega) ?_
      have hP5 := hP4.same n5.same
      have s5 := s4.trans n5.same
      walk_at "go"
      refine go_dec (fun c => ?_) (fun c => ?_)
      · have l0 : 0 < sp.length := by
          rw [← lt4]
          cases ts' with
          | nil => exact absurd rfl c
          | cons _ _ => simp
        have hG5 := hG.same s5
        have rr5 := hP5.rr
        have gg5 := hG5.rr
        have ltG := hG5.lt
        have hlm : 0 < (ts'.map V.ref).length := by rw [List.length_map]; omega
        walk_at "go"
        refine p_cell_at (ns := ns) (s5.seq hS3) (by omega) ?_
        generalize cellI ns (4 + (i : Int)) = c4
        walk_at "go"
        have lm : (ts'.map V.ref).length = prs.length := by rw [List.length_map]; omega
        rw [lm]
        have l0 : 0 < prs.length := by omega
        have b1 := Int.emod_nonneg c4 (show (prs.length : Int) ≠ 0 by omega)
        have b2 := Int.emod_lt_of_pos c4 (show 0 < (prs.length : Int) by omega)
        generalize c4 % (prs.length : Int) = at_ at b1 b2
        have pick1 : ∀ j t1, ts[j]? = some t1 → ∃ b q1 row, H5 t1 = some (.tup [.int b, .ref q1]) ∧ H5 q1 = some (.lst (row.map V.int)) ∧ GoodRow row := fun j t1 hj => by
          have hj2 : j < prs.length := by have := (List.getElem?_eq_some_iff.mp hj).1; omega
          obtain ⟨t2, q1, f1, f2, f3, f4⟩ := hG5.at_ j _ _ (List.getElem?_eq_getElem hj2)
          rw [hj] at f1; cases f1
          exact ⟨_, _, _, f3, f4, gr _ (List.getElem_mem hj2)⟩
        obtain ⟨v, e1, e2⟩ := atI_mem (xs := ts.map V.ref) (i := at_ - 1) ⟨by rw [List.length_map]; omega, by rw [List.length_map]; omega⟩
        obtain ⟨t1, ht1, rfl⟩ := List.mem_map.mp e2
        obtain ⟨j, hj⟩ := List.mem_iff_getElem?.mp ht1
        obtain ⟨b1', q1, row1, f1, f2, f3⟩ := pick1 j t1 hj
        refine go_ixL gg5 e1 ?_
        walk_at "go"
        rename_i p6 H6 n6
        obtain ⟨t2, ht2⟩ : ∃ t2, ts[at_.toNat]? = some t2 := ⟨_, List.getElem?_eq_getElem (by omega)⟩
        obtain ⟨b2', q2, row2, g1, g2, g3⟩ := pick1 _ t2 ht2
        refine go_ixAt (n6.old gg5) (by omega) (v := .ref t2) (by rw [List.getElem?_map, ht2]; rfl) ?_
        walk_at "go"
        refine p_odd_pair (n6.old g1) (n6.old g2) g3 fun t3 x ok H7 s7 _ hp7 => ?_
        have rr7 := s7 _ _ (n6.old rr5)
        have n67 := s7 _ _ n6.at
        have hz1 : (cutV (ts'.map V.ref) none (some at_)).length ≤ 1000 := by rw [cut_take _ (by omega), List.length_take, List.length_map]; omega
        have hz2 : (cutV (ts'.map V.ref) (some (at_ + 1)) none).length ≤ 1000 := by rw [cut_drop _ (by omega), List.length_drop, List.length_map]; omega
        walk_at "go"
        rename_i p8 H8 n8 p9 H9 n9 p10 H10 n10 p11 H11 n11
        have s711 := ((n8.same.trans n9.same).trans n10.same).trans n11.same
        have s511 := (n6.same.trans s7).trans s711
        have e11 := n11.at
        rw [setP b1 (by omega)] at e11
        have s310 : Same H3 H10 := s5.trans ((n6.same.trans s7).trans ((n8.same.trans n9.same).trans n10.same))
        exact ⟨_, _, _, _, _, _, _, rfl, s5.trans s511, hP5.put s511 (hp7.same s711) e11, by simp [lsp], (h3.same s310).fresh n11.free⟩
      · walk_at "go"
        exact ⟨_, _, _, _, _, _, _, rfl, s5, hP5, lsp, Pr⟩
    · rintro σ' H4 ⟨P, ts', sp, v6, v7, v8, v9, rfl, s4, hP4, lsp, Pr⟩
      have h4 := h3.same s4
      walk_at "go"
      refine lc_rows (j := 1) h4 rfl rfl (by show _ < 16; decide) (by decide) fun L ls H5 s5 Ln lr => ?_
      walk_at "go"
      exact commits_6 (h4.same s5) (hP4.same s5) (by omega) Pr lr q
theorem law_pure {vs : List V} (h : spLaw K vs H Q E) : sp_law K a vs H Q E := by
  obtain ⟨script, ns, rfl, hS, hl, q⟩ := h
  refine in_law ?_
  unfold t_law
  walk_at "go"
  refine p_cell_at (ns := ns) hS (by omega) ?_
  walk_at "go"
  generalize hm : 24 + cellI ns 0 % 73 = m
  have hm2 : 24 ≤ m ∧ m ≤ 96 := by omega
  refine mk_Disk hm2 fun d r ps H1 s1 dn rn pn h1 => ?_
  have dk1 : DkEx a [] H1 d r (List.replicate m.toNat (List.replicate 16 0)) 0 none := ⟨ps, h1, fun _ _ => by simp, fun t ht => by cases ht⟩
  have hS1 := s1.seq hS
  walk_at "go"
  refine p_cell_at (ns := ns) hS1 (by omega) ?_
  generalize cellI ns 1 = c1
  walk_at "go"
  refine go_dec (fun c => ?_) (fun c => ?_)
  · walk_at "go"
    exact p_commits hS1 dk1 q
  · walk_at "go"
    refine go_methD dk1 (fun _ _ _ => rfl) ?_
    walk_at "go"
    refine p_blocksE dk1 ?_
    rw [List.length_replicate, show ((m.toNat : Nat) : Int) = m by omega]
    walk_at "go"
    refine p_head hS1 hm2 fun p h H2 s2 hp g => ?_
    walk_at "go"
    exact p_comes_back (dk1.same s2) hp g q
end
end Bk

namespace Bk
open PySem L2 PyProof.Rows
def topS (i : Nat) : Stmt := PySem.Challenge.pw_blockkeep_k07_logs_and_pairs_refused.main.body.getD i (.Pass ⟨0, 0, 0, 0⟩)
abbrev s__wall : Stmt := topS 0
abbrev s_is_word : Stmt := topS 12
abbrev s_is_row : Stmt := topS 13
abbrev s_need_row : Stmt := topS 14
abbrev s_empty_row : Stmt := topS 15
abbrev s_changed : Stmt := topS 16
abbrev s_is_many : Stmt := topS 20
abbrev s_Disk_init : Stmt := inClass (topS 21) 0
abbrev s_Disk_blocks : Stmt := inClass (topS 21) 1
abbrev s_Disk_need : Stmt := inClass (topS 21) 2
abbrev s_Disk_read : Stmt := inClass (topS 21) 3
abbrev s_Disk_write : Stmt := inClass (topS 21) 4
abbrev s_Disk_writes : Stmt := inClass (topS 21) 5
abbrev s_Disk_stop_after : Stmt := inClass (topS 21) 6
abbrev s_Disk_go_on : Stmt := inClass (topS 21) 7
abbrev s_Disk_twin : Stmt := inClass (topS 21) 8
abbrev s_is_home : Stmt := topS 26
abbrev s_need_pairs : Stmt := topS 27
abbrev s_carry_home : Stmt := topS 28
abbrev s_commit : Stmt := topS 29
abbrev s_homes_told : Stmt := topS 30
abbrev s_come_back : Stmt := topS 31
abbrev s_L_cell_at : Stmt := topS 33
abbrev s_L_row : Stmt := topS 34
abbrev s_L_word : Stmt := topS 35
abbrev s_L_homes : Stmt := topS 36
abbrev s_L_head : Stmt := topS 37
abbrev s_L_is_right : Stmt := topS 38
abbrev s_L_comes_back : Stmt := topS 39
abbrev s_L_odd_pair : Stmt := topS 40
abbrev s_L_is_number : Stmt := topS 41
abbrev s_L_due : Stmt := topS 42
abbrev s_L_commits : Stmt := topS 43
abbrev s_law : Stmt := topS 44
structure Ad where
  (f__wall f_is_word f_is_row f_need_row f_empty_row f_changed f_is_many f_Disk_init f_Disk_blocks f_Disk_need f_Disk_read f_Disk_write f_Disk_writes f_Disk_stop_after f_Disk_go_on f_Disk_twin f_is_home f_need_pairs f_carry_home f_commit f_homes_told f_come_back f_L_cell_at f_L_row f_L_word f_L_homes f_L_head f_L_is_right f_L_comes_back f_L_odd_pair f_L_is_number f_L_due f_L_commits f_law : Addr)
  (fd__wall fd_is_word fd_is_row fd_need_row fd_empty_row fd_changed fd_is_many fd_Disk_init fd_Disk_blocks fd_Disk_need fd_Disk_read fd_Disk_write fd_Disk_writes fd_Disk_stop_after fd_Disk_go_on fd_Disk_twin fd_is_home fd_need_pairs fd_carry_home fd_commit fd_homes_told fd_come_back fd_L_cell_at fd_L_row fd_L_word fd_L_homes fd_L_head fd_L_is_right fd_L_comes_back fd_L_odd_pair fd_L_is_number fd_L_due fd_L_commits fd_law : FuncData)
structure Tx (K : PySem.W.Frag) (mg : Str → Option Value) (a : Ac) (b : Ad) : Prop where
  g_WIDE : ∃ u, mg "WIDE" = some u ∧ RelV (.int 16) u
  g_MOST_WORD : ∃ u, mg "MOST_WORD" = some u ∧ RelV (.int 999999999) u
  g_LEAST_BLOCKS : ∃ u, mg "LEAST_BLOCKS" = some u ∧ RelV (.int 24) u
  g_MOST_BLOCKS : ∃ u, mg "MOST_BLOCKS" = some u ∧ RelV (.int 96) u
  g_LOG_AT : ∃ u, mg "LOG_AT" = some u ∧ RelV (.int 1) u
  g_MAPS_AT : ∃ u, mg "MAPS_AT" = some u ∧ RelV (.int 17) u
  g_MOST_HOMES : ∃ u, mg "MOST_HOMES" = some u ∧ RelV (.int 15) u
  n_ValueError : mg "ValueError" = none
  n_all : mg "all" = none
  n_bool : mg "bool" = none
  n_enumerate : mg "enumerate" = none
  n_int : mg "int" = none
  n_isinstance : mg "isinstance" = none
  n_len : mg "len" = none
  n_list : mg "list" = none
  n_max : mg "max" = none
  n_range : mg "range" = none
  n_sorted : mg "sorted" = none
  n_tuple : mg "tuple" = none
  g__wall : mg "_wall" = some (.ref b.f__wall)
  k__wall : PySem.W.keepIn K (.ref b.f__wall) = true
  F__wall : Fun K "_wall" "_wall" s__wall b.f__wall b.fd__wall
  b__wall : Binds K b.fd__wall ["k"] []
  g_is_word : mg "is_word" = some (.ref b.f_is_word)
  k_is_word : PySem.W.keepIn K (.ref b.f_is_word) = true
  F_is_word : Fun K "is_word" "is_word" s_is_word b.f_is_word b.fd_is_word
  b_is_word : Binds K b.fd_is_word ["thing"] []
  g_is_row : mg "is_row" = some (.ref b.f_is_row)
  k_is_row : PySem.W.keepIn K (.ref b.f_is_row) = true
  F_is_row : Fun K "is_row" "is_row" s_is_row b.f_is_row b.fd_is_row
  b_is_row : Binds K b.fd_is_row ["thing"] []
  g_need_row : mg "need_row" = some (.ref b.f_need_row)
  k_need_row : PySem.W.keepIn K (.ref b.f_need_row) = true
  F_need_row : Fun K "need_row" "need_row" s_need_row b.f_need_row b.fd_need_row
  b_need_row : Binds K b.fd_need_row ["thing"] []
  g_empty_row : mg "empty_row" = some (.ref b.f_empty_row)
  k_empty_row : PySem.W.keepIn K (.ref b.f_empty_row) = true
  F_empty_row : Fun K "empty_row" "empty_row" s_empty_row b.f_empty_row b.fd_empty_row
  b_empty_row : Binds K b.fd_empty_row [] []
  g_changed : mg "changed" = some (.ref b.f_changed)
  k_changed : PySem.W.keepIn K (.ref b.f_changed) = true
  F_changed : Fun K "changed" "changed" s_changed b.f_changed b.fd_changed
  b_changed : Binds K b.fd_changed ["row", "at", "words"] []
  g_is_many : mg "is_many" = some (.ref b.f_is_many)
  k_is_many : PySem.W.keepIn K (.ref b.f_is_many) = true
  F_is_many : Fun K "is_many" "is_many" s_is_many b.f_is_many b.fd_is_many
  b_is_many : Binds K b.fd_is_many ["thing"] []
  F_Disk_init : Fun K "__init__" "Disk.__init__" s_Disk_init b.f_Disk_init b.fd_Disk_init
  b_Disk_init : Binds K b.fd_Disk_init ["self", "many"] []
  mt_Disk_blocks : Meth K a.Disk "blocks" b.f_Disk_blocks
  F_Disk_blocks : Fun K "blocks" "Disk.blocks" s_Disk_blocks b.f_Disk_blocks b.fd_Disk_blocks
  b_Disk_blocks : Binds K b.fd_Disk_blocks ["self"] []
  mt_Disk_need : Meth K a.Disk "need" b.f_Disk_need
  F_Disk_need : Fun K "need" "Disk.need" s_Disk_need b.f_Disk_need b.fd_Disk_need
  b_Disk_need : Binds K b.fd_Disk_need ["self", "block"] []
  mt_Disk_read : Meth K a.Disk "read" b.f_Disk_read
  F_Disk_read : Fun K "read" "Disk.read" s_Disk_read b.f_Disk_read b.fd_Disk_read
  b_Disk_read : Binds K b.fd_Disk_read ["self", "block"] []
  mt_Disk_write : Meth K a.Disk "write" b.f_Disk_write
  F_Disk_write : Fun K "write" "Disk.write" s_Disk_write b.f_Disk_write b.fd_Disk_write
  b_Disk_write : Binds K b.fd_Disk_write ["self", "block", "row"] []
  mt_Disk_writes : Meth K a.Disk "writes" b.f_Disk_writes
  F_Disk_writes : Fun K "writes" "Disk.writes" s_Disk_writes b.f_Disk_writes b.fd_Disk_writes
  b_Disk_writes : Binds K b.fd_Disk_writes ["self"] []
  mt_Disk_stop_after : Meth K a.Disk "stop_after" b.f_Disk_stop_after
  F_Disk_stop_after : Fun K "stop_after" "Disk.stop_after" s_Disk_stop_after b.f_Disk_stop_after b.fd_Disk_stop_after
  b_Disk_stop_after : Binds K b.fd_Disk_stop_after ["self", "count"] []
  mt_Disk_go_on : Meth K a.Disk "go_on" b.f_Disk_go_on
  F_Disk_go_on : Fun K "go_on" "Disk.go_on" s_Disk_go_on b.f_Disk_go_on b.fd_Disk_go_on
  b_Disk_go_on : Binds K b.fd_Disk_go_on ["self"] []
  mt_Disk_twin : Meth K a.Disk "twin" b.f_Disk_twin
  F_Disk_twin : Fun K "twin" "Disk.twin" s_Disk_twin b.f_Disk_twin b.fd_Disk_twin
  b_Disk_twin : Binds K b.fd_Disk_twin ["self"] []
  g_is_home : mg "is_home" = some (.ref b.f_is_home)
  k_is_home : PySem.W.keepIn K (.ref b.f_is_home) = true
  F_is_home : Fun K "is_home" "is_home" s_is_home b.f_is_home b.fd_is_home
  b_is_home : Binds K b.fd_is_home ["disk", "block"] []
  g_need_pairs : mg "need_pairs" = some (.ref b.f_need_pairs)
  k_need_pairs : PySem.W.keepIn K (.ref b.f_need_pairs) = true
  F_need_pairs : Fun K "need_pairs" "need_pairs" s_need_pairs b.f_need_pairs b.fd_need_pairs
  b_need_pairs : Binds K b.fd_need_pairs ["disk", "pairs"] []
  g_carry_home : mg "carry_home" = some (.ref b.f_carry_home)
  k_carry_home : PySem.W.keepIn K (.ref b.f_carry_home) = true
  F_carry_home : Fun K "carry_home" "carry_home" s_carry_home b.f_carry_home b.fd_carry_home
  b_carry_home : Binds K b.fd_carry_home ["disk", "homes"] []
  g_commit : mg "commit" = some (.ref b.f_commit)
  k_commit : PySem.W.keepIn K (.ref b.f_commit) = true
  F_commit : Fun K "commit" "commit" s_commit b.f_commit b.fd_commit
  b_commit : Binds K b.fd_commit ["disk", "pairs"] []
  g_homes_told : mg "homes_told" = some (.ref b.f_homes_told)
  k_homes_told : PySem.W.keepIn K (.ref b.f_homes_told) = true
  F_homes_told : Fun K "homes_told" "homes_told" s_homes_told b.f_homes_told b.fd_homes_told
  b_homes_told : Binds K b.fd_homes_told ["disk"] []
  g_come_back : mg "come_back" = some (.ref b.f_come_back)
  k_come_back : PySem.W.keepIn K (.ref b.f_come_back) = true
  F_come_back : Fun K "come_back" "come_back" s_come_back b.f_come_back b.fd_come_back
  b_come_back : Binds K b.fd_come_back ["disk"] []
  g_L_cell_at : mg "_law_cell_at" = some (.ref b.f_L_cell_at)
  k_L_cell_at : PySem.W.keepIn K (.ref b.f_L_cell_at) = true
  F_L_cell_at : Fun K "_law_cell_at" "_law_cell_at" s_L_cell_at b.f_L_cell_at b.fd_L_cell_at
  b_L_cell_at : Binds K b.fd_L_cell_at ["_law_script", "_law_k"] []
  g_L_row : mg "_law_row" = some (.ref b.f_L_row)
  k_L_row : PySem.W.keepIn K (.ref b.f_L_row) = true
  F_L_row : Fun K "_law_row" "_law_row" s_L_row b.f_L_row b.fd_L_row
  b_L_row : Binds K b.fd_L_row ["_law_cell"] []
  g_L_word : mg "_law_word" = some (.ref b.f_L_word)
  k_L_word : PySem.W.keepIn K (.ref b.f_L_word) = true
  F_L_word : Fun K "_law_word" "_law_word" s_L_word b.f_L_word b.fd_L_word
  b_L_word : Binds K b.fd_L_word ["_law_e"] []
  g_L_homes : mg "_law_homes" = some (.ref b.f_L_homes)
  k_L_homes : PySem.W.keepIn K (.ref b.f_L_homes) = true
  F_L_homes : Fun K "_law_homes" "_law_homes" s_L_homes b.f_L_homes b.fd_L_homes
  b_L_homes : Binds K b.fd_L_homes ["_law_script", "_law_many", "_law_count"] []
  g_L_head : mg "_law_head" = some (.ref b.f_L_head)
  k_L_head : PySem.W.keepIn K (.ref b.f_L_head) = true
  F_L_head : Fun K "_law_head" "_law_head" s_L_head b.f_L_head b.fd_L_head
  b_L_head : Binds K b.fd_L_head ["_law_script", "_law_many"] []
  g_L_is_right : mg "_law_is_right" = some (.ref b.f_L_is_right)
  k_L_is_right : PySem.W.keepIn K (.ref b.f_L_is_right) = true
  F_L_is_right : Fun K "_law_is_right" "_law_is_right" s_L_is_right b.f_L_is_right b.fd_L_is_right
  b_L_is_right : Binds K b.fd_L_is_right ["_law_head_here", "_law_many"] []
  g_L_comes_back : mg "_law_comes_back" = some (.ref b.f_L_comes_back)
  k_L_comes_back : PySem.W.keepIn K (.ref b.f_L_comes_back) = true
  F_L_comes_back : Fun K "_law_comes_back" "_law_comes_back" s_L_comes_back b.f_L_comes_back b.fd_L_comes_back
  b_L_comes_back : Binds K b.fd_L_comes_back ["_law_disk", "_law_head_here"] []
  g_L_odd_pair : mg "_law_odd_pair" = some (.ref b.f_L_odd_pair)
  k_L_odd_pair : PySem.W.keepIn K (.ref b.f_L_odd_pair) = true
  F_L_odd_pair : Fun K "_law_odd_pair" "_law_odd_pair" s_L_odd_pair b.f_L_odd_pair b.fd_L_odd_pair
  b_L_odd_pair : Binds K b.fd_L_odd_pair ["_law_pair", "_law_cell", "_law_many", "_law_ahead"] []
  g_L_is_number : mg "_law_is_number" = some (.ref b.f_L_is_number)
  k_L_is_number : PySem.W.keepIn K (.ref b.f_L_is_number) = true
  F_L_is_number : Fun K "_law_is_number" "_law_is_number" s_L_is_number b.f_L_is_number b.fd_L_is_number
  b_L_is_number : Binds K b.fd_L_is_number ["_law_word_here"] []
  g_L_due : mg "_law_due" = some (.ref b.f_L_due)
  k_L_due : PySem.W.keepIn K (.ref b.f_L_due) = true
  F_L_due : Fun K "_law_due" "_law_due" s_L_due b.f_L_due b.fd_L_due
  b_L_due : Binds K b.fd_L_due ["_law_pairs", "_law_many"] []
  g_L_commits : mg "_law_commits" = some (.ref b.f_L_commits)
  k_L_commits : PySem.W.keepIn K (.ref b.f_L_commits) = true
  F_L_commits : Fun K "_law_commits" "_law_commits" s_L_commits b.f_L_commits b.fd_L_commits
  b_L_commits : Binds K b.fd_L_commits ["_law_script", "_law_disk"] []
  g_law : mg "law" = some (.ref b.f_law)
  k_law : PySem.W.keepIn K (.ref b.f_law) = true
  F_law : Fun K "law" "law" s_law b.f_law b.fd_law
  b_law : Binds K b.fd_law ["_law_script"] []
  g_Disk : mg "Disk" = some (.ref a.Disk)
  c_Disk : Cls K a.Disk
  m_Disk : Mk K a.Disk b.f_Disk_init
  na_Disk_done : NoAttr K a.Disk "done"
  na_Disk_left : NoAttr K a.Disk "left"
  na_Disk_rows : NoAttr K a.Disk "rows"
  g_KeepError : mg "KeepError" = some (.ref a.KeepError)
  x_KeepError : ExOk K a.KeepError
  g_BadRow : mg "BadRow" = some (.ref a.BadRow)
  x_BadRow : ExOk K a.BadRow
  g_NoBlock : mg "NoBlock" = some (.ref a.NoBlock)
  x_NoBlock : ExOk K a.NoBlock
  g_Stopped : mg "Stopped" = some (.ref a.Stopped)
  x_Stopped : ExOk K a.Stopped
  g_BadDisk : mg "BadDisk" = some (.ref a.BadDisk)
  x_BadDisk : ExOk K a.BadDisk
  g_TooMuch : mg "TooMuch" = some (.ref a.TooMuch)
  x_TooMuch : ExOk K a.TooMuch
  g_BadLog : mg "BadLog" = some (.ref a.BadLog)
  x_BadLog : ExOk K a.BadLog
section
variable {P : Program} {w : World} {K : PySem.W.Frag} {mg : Str → Option Value} {base : Heap} {a : Ac} {b : Ad}
theorem sc__wall : FnScope ["k"] ["k"] (defScope s__wall) := ⟨rfl, rfl, rfl, by decide +kernel, rfl, by decide +kernel, by decide +kernel⟩
theorem ok__wall (T : Tx K mg a b) : FnOk P w K mg base (L2N.CX P w) 2 b.f__wall b.fd__wall ["k"] (sp__wall K a) := by
  refine okN (k := 1) (t := t__wall K a) T.F__wall sc__wall (fun cdv A outer s H E hr => ?_)
  exact pss_one (ps_while (passes_of rfl) (pt_val (pe_bl)) (pss_one (ps_pass)))
theorem sc_is_word : FnScope ["thing"] ["thing"] (defScope s_is_word) := ⟨rfl, rfl, rfl, by decide +kernel, rfl, by decide +kernel, by decide +kernel⟩
theorem ok_is_word (T : Tx K mg a b) : FnOk P w K mg base (L2N.CX P w) 2 b.f_is_word b.fd_is_word ["thing"] (sp_is_word K a) := by
  refine okN (k := 1) (t := t_is_word K a) T.F_is_word sc_is_word (fun cdv A outer s H E hr => ?_)
  exact pss_one (ps_ret (pe_and (pe_callB call_isi (by rfl) T.n_isinstance (by decide +kernel) (pa_cons (pv 0) (pa_cons (pe_bltn (by rfl) T.n_int (by decide +kernel) rfl) (pa_nil)))) (pe_and (pe_not (pe_callB call_isi (by rfl) T.n_isinstance (by decide +kernel) (pa_cons (pv 0) (pa_cons (pe_bltn (by rfl) T.n_bool (by decide +kernel) rfl) (pa_nil))))) (pe_one (pe_chain op_leP op_leP (pe_int) (pv 0) (pe_gl rfl T.g_MOST_WORD))))))
theorem sc_empty_row : FnScope [] [] (defScope s_empty_row) := ⟨rfl, rfl, rfl, by decide +kernel, rfl, by decide +kernel, by decide +kernel⟩
theorem ok_empty_row (T : Tx K mg a b) : FnOk P w K mg base (L2N.CX P w) 2 b.f_empty_row b.fd_empty_row [] (sp_empty_row K a) := by
  refine okN (k := 1) (t := t_empty_row K a) T.F_empty_row sc_empty_row (fun cdv A outer s H E hr => ?_)
  exact pss_one (ps_ret (pe_op op_mulP (pe_lst (pa_cons (pe_int) (pa_nil))) (pe_gl rfl T.g_WIDE)))
theorem sc_changed : FnScope ["row", "at", "words"] ["row", "at", "words"] (defScope s_changed) := ⟨rfl, rfl, rfl, by decide +kernel, rfl, by decide +kernel, by decide +kernel⟩
theorem ok_changed (T : Tx K mg a b) : FnOk P w K mg base (L2N.CX P w) 2 b.f_changed b.fd_changed ["row", "at", "words"] (sp_changed K a) := by
  refine okN (k := 1) (t := t_changed K a) T.F_changed sc_changed (fun cdv A outer s H E hr => ?_)
  exact pss_one (ps_ret (pe_op op_addP (pe_op op_addP (pe_slice sl_P (pv 0) (po_none) (po_some (pv 1))) (pv 2)) (pe_slice sl_P (pv 0) (po_some (pe_op op_addP (pv 1) (pe_callB call_lenP (by rfl) T.n_len (by decide +kernel) (pa_cons (pv 2) (pa_nil))))) (po_none))))
theorem sc_is_many : FnScope ["thing"] ["thing"] (defScope s_is_many) := ⟨rfl, rfl, rfl, by decide +kernel, rfl, by decide +kernel, by decide +kernel⟩
theorem ok_is_many (T : Tx K mg a b) : FnOk P w K mg base (L2N.CX P w) 2 b.f_is_many b.fd_is_many ["thing"] (sp_is_many K a) := by
  refine okN (k := 1) (t := t_is_many K a) T.F_is_many sc_is_many (fun cdv A outer s H E hr => ?_)
  exact pss_one (ps_ret (pe_and (pe_callB call_isi (by rfl) T.n_isinstance (by decide +kernel) (pa_cons (pv 0) (pa_cons (pe_bltn (by rfl) T.n_int (by decide +kernel) rfl) (pa_nil)))) (pe_and (pe_not (pe_callB call_isi (by rfl) T.n_isinstance (by decide +kernel) (pa_cons (pv 0) (pa_cons (pe_bltn (by rfl) T.n_bool (by decide +kernel) rfl) (pa_nil))))) (pe_one (pe_chain op_leP op_leP (pe_gl rfl T.g_LEAST_BLOCKS) (pv 0) (pe_gl rfl T.g_MOST_BLOCKS))))))
theorem sc_Disk_blocks : FnScope ["self"] ["self"] (defScope s_Disk_blocks) := ⟨rfl, rfl, rfl, by decide +kernel, rfl, by decide +kernel, by decide +kernel⟩
theorem ok_Disk_blocks (T : Tx K mg a b) : FnOk P w K mg base (L2N.CX P w) 2 b.f_Disk_blocks b.fd_Disk_blocks ["self"] (sp_Disk_blocks K a) := by
  refine okN (k := 1) (t := t_Disk_blocks K a) T.F_Disk_blocks sc_Disk_blocks (fun cdv A outer s H E hr => ?_)
  exact pss_one (ps_ret (pe_callB call_lenP (by rfl) T.n_len (by decide +kernel) (pa_cons (pe_fld (pv 0) rfl) (pa_nil))))
theorem sc_Disk_need : FnScope ["self", "block"] ["self", "block"] (defScope s_Disk_need) := ⟨rfl, rfl, rfl, by decide +kernel, rfl, by decide +kernel, by decide +kernel⟩
theorem ok_Disk_need (T : Tx K mg a b) : FnOk P w K mg base (L2N.CX P w) 2 b.f_Disk_need b.fd_Disk_need ["self", "block"] (sp_Disk_need K a) := by
  refine okN (k := 1) (t := t_Disk_need K a) T.F_Disk_need sc_Disk_need (fun cdv A outer s H E hr => ?_)
  exact pss_one (ps_if (PW.pt (pw_or (pt_not (pt_val (pe_callB call_isi (by rfl) T.n_isinstance (by decide +kernel) (pa_cons (pv 1) (pa_cons (pe_bltn (by rfl) T.n_int (by decide +kernel) rfl) (pa_nil)))))) (pw_or (pt_val (pe_callB call_isi (by rfl) T.n_isinstance (by decide +kernel) (pa_cons (pv 1) (pa_cons (pe_bltn (by rfl) T.n_bool (by decide +kernel) rfl) (pa_nil))))) (pw_or1 (pt_not (pt_chain op_leP op_ltP (pe_int) (pv 1) (pe_callB call_lenP (by rfl) T.n_len (by decide +kernel) (pa_cons (pe_fld (pv 0) rfl) (pa_nil))))))))) (pss_one (raiseE rfl (takesM rfl rfl rfl rfl) T.x_NoBlock T.g_NoBlock)) (pss_nil))
theorem sc_Disk_writes : FnScope ["self"] ["self"] (defScope s_Disk_writes) := ⟨rfl, rfl, rfl, by decide +kernel, rfl, by decide +kernel, by decide +kernel⟩
theorem ok_Disk_writes (T : Tx K mg a b) : FnOk P w K mg base (L2N.CX P w) 2 b.f_Disk_writes b.fd_Disk_writes ["self"] (sp_Disk_writes K a) := by
  refine okN (k := 1) (t := t_Disk_writes K a) T.F_Disk_writes sc_Disk_writes (fun cdv A outer s H E hr => ?_)
  exact pss_one (ps_ret (pe_fld (pv 0) rfl))
theorem sc_L_cell_at : FnScope ["_law_script", "_law_k"] ["_law_script", "_law_k"] (defScope s_L_cell_at) := ⟨rfl, rfl, rfl, by decide +kernel, rfl, by decide +kernel, by decide +kernel⟩
theorem ok_L_cell_at (T : Tx K mg a b) : FnOk P w K mg base (L2N.CX P w) 2 b.f_L_cell_at b.fd_L_cell_at ["_law_script", "_law_k"] (sp_L_cell_at K a) := by
  refine okN (k := 1) (t := t_L_cell_at K a) T.F_L_cell_at sc_L_cell_at (fun cdv A outer s H E hr => ?_)
  exact pss_cons (ps_if (pt_cmpR op_ltP (pv 1) (pe_callB call_lenP (by rfl) T.n_len (by decide +kernel) (pa_cons (pv 0) (pa_nil))) (by first | exact nomark _ | rfl)) (pss_one (ps_ret (pe_ix ix_P (pv 0) (pv 1) (fun _ _ => rfl)))) (pss_nil)) (pss_one (ps_ret (pe_int)))
theorem sc_L_row : FnScope ["_law_cell", "_law_first", "_law_k"] ["_law_cell"] (defScope s_L_row) := ⟨rfl, rfl, rfl, by decide +kernel, rfl, by decide +kernel, by decide +kernel⟩
theorem ok_L_row (T : Tx K mg a b) : FnOk P w K mg base (L2N.CX P w) 2 b.f_L_row b.fd_L_row ["_law_cell"] (sp_L_row K a) := by
  refine okN (k := 1) (t := t_L_row K a) T.F_L_row sc_L_row (fun cdv A outer s H E hr => ?_)
  exact pss_cons (ps_if (pt_cmpR (op_eqP hr) (pe_op op_modP (pv 0) (pe_int)) (pe_int) (by first | exact nomark _ | rfl)) (pss_one (ps_ret (pe_op op_mulP (pe_lst (pa_cons (pe_op op_mulP (pe_op op_modP (pe_op op_divP (pv 0) (pe_int)) (pe_int)) (pe_int)) (pa_nil))) (pe_int)))) (pss_nil)) (pss_cons (ps_set (i := 1) sc_L_row.nd rfl (by first | exact Or.inl rfl | exact Or.inr rfl) (pe_op op_modP (pe_op op_divP (pv 0) (pe_int)) (pe_op op_powP (pe_int) (pe_int)))) (pss_one (ps_ret (pe_lc (own := [("_law_k", 2)]) (g := gName 2) (tt := tYes) (te := tOp rModP (tOp rAddP (tOp rAddP (tVar 1) (tOp rMulP (tOp rModP (tOp rDivP (tVar 0) (tC (.int 35))) (tC (.int 1009))) (tVar 2))) (tOp rMulP (tOp rMulP (tC (.int 7919)) (tVar 2)) (tVar 2))) (tOp rPowP (tC (.int 10)) (tC (.int 9)))) rfl sc_L_row.nd (pi_range1 (by rfl) T.n_range (pa_cons (pe_int) (pa_nil))) (blkOk_by (N := ["_law_cell", "_law_first", "_law_k"]) (sc := defScope s_L_row) (by decide +kernel)) (fun _ _ _ _ _ => pg_name (i := 2) sc_L_row.nd rfl (by first | exact Or.inl rfl | exact Or.inr rfl)) (fun _ _ _ _ _ => pts_nil) (fun _ _ _ _ _ => pe_op op_modP (pe_op op_addP (pe_op op_addP (pv 1) (pe_op op_mulP (pe_op op_modP (pe_op op_divP (pv 0) (pe_int)) (pe_int)) (pv 2))) (pe_op op_mulP (pe_op op_mulP (pe_int) (pv 2)) (pv 2))) (pe_op op_powP (pe_int) (pe_int)))))))
theorem sc_L_word : FnScope ["_law_e", "_law_some", "_law_k"] ["_law_e"] (defScope s_L_word) := ⟨rfl, rfl, rfl, by decide +kernel, rfl, by decide +kernel, by decide +kernel⟩
theorem okh_L_word (T : Tx K mg a b) : FnP P w K mg base 2 b.f_L_word b.fd_L_word ["_law_e"] (sph_L_word K a) := by
  refine okP (k := 1) (t := th_L_word K a) T.F_L_word sc_L_word (fun cdv A outer s H E p D hp hr => ?_)
  exact pss_cons (ps_set (i := 1) sc_L_word.nd rfl (by first | exact Or.inl rfl | exact Or.inr rfl) (pe_lst (pa_cons (pe_callB (call_isX hp) (by rfl) T.n_isinstance (by decide +kernel) (pa_cons (pv 0) (pa_cons (pe_gl rfl ⟨_, T.g_NoBlock, rfl⟩) (pa_nil)))) (pa_cons (pe_callB (call_isX hp) (by rfl) T.n_isinstance (by decide +kernel) (pa_cons (pv 0) (pa_cons (pe_gl rfl ⟨_, T.g_BadRow, rfl⟩) (pa_nil)))) (pa_cons (pe_callB (call_isX hp) (by rfl) T.n_isinstance (by decide +kernel) (pa_cons (pv 0) (pa_cons (pe_gl rfl ⟨_, T.g_TooMuch, rfl⟩) (pa_nil)))) (pa_cons (pe_callB (call_isX hp) (by rfl) T.n_isinstance (by decide +kernel) (pa_cons (pv 0) (pa_cons (pe_gl rfl ⟨_, T.g_BadLog, rfl⟩) (pa_nil)))) (pa_nil))))))) (pss_cons (ps_set (i := 1) sc_L_word.nd rfl (by first | exact Or.inl rfl | exact Or.inr rfl) (pe_op op_addP (pv 1) (pe_lst (pa_cons (pe_callB (call_isX hp) (by rfl) T.n_isinstance (by decide +kernel) (pa_cons (pv 0) (pa_cons (pe_gl rfl ⟨_, T.g_Stopped, rfl⟩) (pa_nil)))) (pa_cons (pe_callB (call_isX hp) (by rfl) T.n_isinstance (by decide +kernel) (pa_cons (pv 0) (pa_cons (pe_gl rfl ⟨_, T.g_BadDisk, rfl⟩) (pa_nil)))) (pa_nil)))))) (pss_cons (ps_if (pt_not (pt_val (pe_callB (call_isX hp) (by rfl) T.n_isinstance (by decide +kernel) (pa_cons (pv 0) (pa_cons (pe_bltn (by rfl) T.n_ValueError (by decide +kernel) rfl) (pa_nil)))))) (pss_one (ps_ret (pe_str))) (pss_nil)) (pss_one (ps_ret (pe_bm PySem.F.plainAttrs_str PySem.F.slot_str_join PySem.F.type_str_join mt_joinP (pe_str) (pa_cons (pe_lcY (own := [("_law_k", 2)]) (g := gName 2) (tt := tB (tOp (rIxP K) (tVar 1) (tVar 2))) (te := tOp (rIxP K) (tLst (tCons (tC (.str "block")) (tCons (tC (.str "row")) (tCons (tC (.str "much")) (tCons (tC (.str "log")) (tCons (tC (.str "stopped")) (tCons (tC (.str "disk")) (tNil)))))))) (tVar 2)) hp.co sc_L_word.nd (piy_range1 (by rfl) T.n_range (pa_cons (pe_int) (pa_nil))) (blkOk_by (N := ["_law_e", "_law_some", "_law_k"]) (sc := defScope s_L_word) (by decide +kernel)) (fun _ _ _ _ _ => pg_name (i := 2) sc_L_word.nd rfl (by first | exact Or.inl rfl | exact Or.inr rfl)) (fun _ _ _ _ _ => pts_one (pt_val (pe_ix ix_P (pv 1) (pv 2) (fun _ _ => rfl)))) (fun _ _ _ _ _ => pe_ix ix_P (pe_lst (pa_cons (pe_str) (pa_cons (pe_str) (pa_cons (pe_str) (pa_cons (pe_str) (pa_cons (pe_str) (pa_cons (pe_str) (pa_nil)))))))) (pv 2) (fun _ _ => rfl))) (pa_nil)))))))
theorem sc_L_is_right : FnScope ["_law_head_here", "_law_many", "_law_last", "_law_home", "_law_word_here"] ["_law_head_here", "_law_many"] (defScope s_L_is_right) := ⟨rfl, rfl, rfl, by decide +kernel, rfl, by decide +kernel, by decide +kernel⟩
theorem ok_L_is_right (T : Tx K mg a b) : FnOk P w K mg base (L2N.CX P w) 2 b.f_L_is_right b.fd_L_is_right ["_law_head_here", "_law_many"] (sp_L_is_right K a) := by
  refine okN (k := 1) (t := t_L_is_right K a) T.F_L_is_right sc_L_is_right (fun cdv A outer s H E hr => ?_)
  exact pss_cons (ps_if (pt_cmpR op_gtP (pe_ix ix_P (pv 0) (pe_int) (fun _ _ => rfl)) (pe_int) (by first | exact nomark _ | rfl)) (pss_one (ps_ret (pe_bl))) (pss_nil)) (pss_cons (ps_if (pt_cmpR (op_neP hr) (pe_lc (own := [("_law_word_here", 4)]) (g := gName 4) (tt := tTest (tOp (rNeP K) (tVar 4) (tC (.int 0)))) (te := tVar 4) rfl sc_L_is_right.nd (pi_seqP (pe_slice sl_P (pv 0) (po_some (pe_op op_addP (pe_int) (pe_ix ix_P (pv 0) (pe_int) (fun _ _ => rfl)))) (po_none))) (blkOk_by (N := ["_law_head_here", "_law_many", "_law_last", "_law_home", "_law_word_here"]) (sc := defScope s_L_is_right) (by decide +kernel)) (fun _ _ _ _ _ => pg_name (i := 4) sc_L_is_right.nd rfl (by first | exact Or.inl rfl | exact Or.inr rfl)) (fun _ _ _ _ _ => pts_one (pt_cmpR (op_neP hr) (pv 4) (pe_int) (by first | exact nomark _ | rfl))) (fun _ _ _ _ _ => pv 4)) (pe_lst (pa_nil)) (by first | exact nomark _ | rfl)) (pss_one (ps_ret (pe_bl))) (pss_nil)) (pss_cons (ps_set (i := 2) sc_L_is_right.nd rfl (by first | exact Or.inl rfl | exact Or.inr rfl) (pe_int)) (pss_cons (ps_for (passes_of rfl) rfl (pi_seqP (pe_slice sl_P (pv 0) (po_some (pe_int)) (po_some (pe_op op_addP (pe_int) (pe_ix ix_P (pv 0) (pe_int) (fun _ _ => rfl)))))) (pg_name (i := 3) sc_L_is_right.nd rfl (by first | exact Or.inl rfl | exact Or.inr rfl)) (pss_cons (ps_if (pt_not (pt_chain op_ltP op_ltP (pv 2) (pv 3) (pv 1))) (pss_one (ps_ret (pe_bl))) (pss_nil)) (pss_one (ps_set (i := 2) sc_L_is_right.nd rfl (by first | exact Or.inl rfl | exact Or.inr rfl) (pv 3))))) (pss_one (ps_ret (pe_bl))))))
theorem sc_L_odd_pair : FnScope ["_law_pair", "_law_cell", "_law_many", "_law_ahead", "_law_far", "_law_block", "_law_good", "_law_rows", "_law_row_here"] ["_law_pair", "_law_cell", "_law_many", "_law_ahead"] (defScope s_L_odd_pair) := ⟨rfl, rfl, rfl, by decide +kernel, rfl, by decide +kernel, by decide +kernel⟩
theorem ok_L_odd_pair (T : Tx K mg a b) : FnOk P w K mg base (L2N.CX P w) 2 b.f_L_odd_pair b.fd_L_odd_pair ["_law_pair", "_law_cell", "_law_many", "_law_ahead"] (sp_L_odd_pair K a) := by
  refine okN (k := 1) (t := t_L_odd_pair K a) T.F_L_odd_pair sc_L_odd_pair (fun cdv A outer s H E hr => ?_)
  exact pss_cons (ps_set (i := 4) sc_L_odd_pair.nd rfl (by first | exact Or.inl rfl | exact Or.inr rfl) (pe_op op_modP (pe_op op_divP (pv 1) (pe_int)) (pe_op op_powP (pe_int) (pe_int)))) (pss_cons (ps_set (i := 5) sc_L_odd_pair.nd rfl (by first | exact Or.inl rfl | exact Or.inr rfl) (pe_ix ix_P (pe_lst (pa_cons (pe_un un_neg (pe_int)) (pa_cons (pe_int) (pa_cons (pe_int) (pa_cons (pv 2) (pa_cons (pe_op op_addP (pv 2) (pv 4)) (pa_cons (pe_op op_subP (pe_un un_neg (pe_int)) (pv 4)) (pa_cons (pe_bl) (pa_cons (pe_non) (pa_cons (pe_lst (pa_cons (pe_int) (pa_nil))) (pa_cons (pv 3) (pa_nil)))))))))))) (pe_op op_modP (pe_op op_divP (pv 1) (pe_int)) (pe_int)) (fun _ _ => rfl))) (pss_cons (ps_set (i := 6) sc_L_odd_pair.nd rfl (by first | exact Or.inl rfl | exact Or.inr rfl) (pe_ix ix_P (pv 0) (pe_int) (fun _ _ => rfl))) (pss_cons (ps_set (i := 7) sc_L_odd_pair.nd rfl (by first | exact Or.inl rfl | exact Or.inr rfl) (pe_lst (pa_cons (pe_slice sl_P (pv 6) (po_none) (po_some (pe_int))) (pa_cons (pe_op op_addP (pv 6) (pe_lst (pa_cons (pe_int) (pa_nil)))) (pa_cons (pe_callTy call_tupleP (by rfl) T.n_tuple (by decide +kernel) (pa_cons (pv 6) (pa_nil))) (pa_cons (pe_non) (pa_nil))))))) (pss_cons (ps_set (i := 7) sc_L_odd_pair.nd rfl (by first | exact Or.inl rfl | exact Or.inr rfl) (pe_op op_addP (pv 7) (pe_lst (pa_cons (pe_op op_addP (pe_lst (pa_cons (pe_un un_neg (pe_int)) (pa_nil))) (pe_slice sl_P (pv 6) (po_some (pe_int)) (po_none))) (pa_cons (pe_op op_addP (pe_slice sl_P (pv 6) (po_none) (po_some (pe_int))) (pe_lst (pa_cons (pe_op op_powP (pe_int) (pe_int)) (pa_nil)))) (pa_nil)))))) (pss_cons (ps_set (i := 7) sc_L_odd_pair.nd rfl (by first | exact Or.inl rfl | exact Or.inr rfl) (pe_op op_addP (pv 7) (pe_lst (pa_cons (pe_op op_addP (pe_lst (pa_cons (pe_bl) (pa_nil))) (pe_slice sl_P (pv 6) (po_some (pe_int)) (po_none))) (pa_cons (pe_op op_addP (pe_slice sl_P (pv 6) (po_none) (po_some (pe_int))) (pe_lst (pa_cons (pe_str) (pa_nil)))) (pa_cons (pe_op op_addP (pe_slice sl_P (pv 6) (po_none) (po_some (pe_int))) (pe_lst (pa_cons (pe_non) (pa_nil)))) (pa_nil))))))) (pss_cons (ps_set (i := 8) sc_L_odd_pair.nd rfl (by first | exact Or.inl rfl | exact Or.inr rfl) (pe_ix ix_P (pv 7) (pe_op op_modP (pe_op op_divP (pv 1) (pe_int)) (pe_int)) (fun _ _ => rfl))) (pss_cons (ps_if (pt_cmpR (op_eqP hr) (pe_op op_modP (pv 1) (pe_int)) (pe_int) (by first | exact nomark _ | rfl)) (pss_one (ps_ret (pe_tup (pa_cons (pv 5) (pa_cons (pv 6) (pa_nil)))))) (pss_nil)) (pss_cons (ps_if (pt_cmpR (op_eqP hr) (pe_op op_modP (pv 1) (pe_int)) (pe_int) (by first | exact nomark _ | rfl)) (pss_one (ps_ret (pe_tup (pa_cons (pe_ix ix_P (pv 0) (pe_int) (fun _ _ => rfl)) (pa_cons (pv 8) (pa_nil)))))) (pss_nil)) (pss_one (ps_ret (pe_tup (pa_cons (pv 5) (pa_cons (pv 8) (pa_nil))))))))))))))
theorem sc_L_is_number : FnScope ["_law_word_here"] ["_law_word_here"] (defScope s_L_is_number) := ⟨rfl, rfl, rfl, by decide +kernel, rfl, by decide +kernel, by decide +kernel⟩
theorem ok_L_is_number (T : Tx K mg a b) : FnOk P w K mg base (L2N.CX P w) 2 b.f_L_is_number b.fd_L_is_number ["_law_word_here"] (sp_L_is_number K a) := by
  refine okN (k := 1) (t := t_L_is_number K a) T.F_L_is_number sc_L_is_number (fun cdv A outer s H E hr => ?_)
  exact pss_one (ps_ret (pe_and (pe_callB call_isi (by rfl) T.n_isinstance (by decide +kernel) (pa_cons (pv 0) (pa_cons (pe_bltn (by rfl) T.n_int (by decide +kernel) rfl) (pa_nil)))) (pe_and (pe_not (pe_callB call_isi (by rfl) T.n_isinstance (by decide +kernel) (pa_cons (pv 0) (pa_cons (pe_bltn (by rfl) T.n_bool (by decide +kernel) rfl) (pa_nil))))) (pe_one (pe_chain op_leP op_ltP (pe_int) (pv 0) (pe_op op_powP (pe_int) (pe_int)))))))
theorem sc_is_row : FnScope ["thing", "word"] ["thing"] (defScope s_is_row) := ⟨rfl, rfl, rfl, by decide +kernel, rfl, by decide +kernel, by decide +kernel⟩
theorem ok_is_row (T : Tx K mg a b) : FnOk P w K mg base (L2N.CX P w) 3 b.f_is_row b.fd_is_row ["thing"] (sp_is_row K a) := by
  have G_is_word := ok_is_word (P := P) (w := w) (base := base) T
  refine okN (k := 2) (t := t_is_row K a) T.F_is_row sc_is_row (fun cdv A outer s H E hr => ?_)
  exact pss_one (ps_ret (pe_and (pe_callB call_isi (by rfl) T.n_isinstance (by decide +kernel) (pa_cons (pv 0) (pa_cons (pe_bltn (by rfl) T.n_list (by decide +kernel) rfl) (pa_nil)))) (pe_and (pe_cmpR (op_eqP hr) (pe_callB call_lenP (by rfl) T.n_len (by decide +kernel) (pa_cons (pv 0) (pa_nil))) (pe_gl rfl T.g_WIDE) (by first | exact nomark _ | rfl)) (pe_one (pe_callB (cr_all rfl) (by rfl) T.n_all (by decide +kernel) (pa_cons (pe_lc (own := [("word", 1)]) (g := gName 1) (tt := tYes) (te := tCallS (sp_is_word K a) (WE W0) (tCons (tVar 1) (tNil))) rfl sc_is_row.nd (pi_seqP (pv 0)) (blkOk_by (N := ["thing", "word"]) (sc := defScope s_is_row) (by decide +kernel)) (fun _ _ _ _ _ => pg_name (i := 1) sc_is_row.nd rfl (by first | exact Or.inl rfl | exact Or.inr rfl)) (fun _ _ _ _ _ => pts_nil) (fun _ _ _ _ _ => callE G_is_word takesN hr (by decide) rfl T.g_is_word T.k_is_word T.b_is_word (pa_cons (pv 1) (pa_nil)))) (pa_nil)))))))
theorem sc_Disk_init : FnScope ["self", "many", "k"] ["self", "many"] (defScope s_Disk_init) := ⟨rfl, rfl, rfl, by decide +kernel, rfl, by decide +kernel, by decide +kernel⟩
theorem ok_Disk_init (T : Tx K mg a b) : FnOk P w K mg base (L2N.CX P w) 3 b.f_Disk_init b.fd_Disk_init ["self", "many"] (sp_Disk_init K a) := by
  have G_empty_row := ok_empty_row (P := P) (w := w) (base := base) T
  have G_is_many := ok_is_many (P := P) (w := w) (base := base) T
  refine okN (k := 2) (t := t_Disk_init K a) T.F_Disk_init sc_Disk_init (fun cdv A outer s H E hr => ?_)
  exact pss_cons (ps_if (pt_not (pt_val (callE G_is_many (takesM rfl rfl rfl rfl) hr (by decide) rfl T.g_is_many T.k_is_many T.b_is_many (pa_cons (pv 1) (pa_nil))))) (pss_one (raiseE rfl (takesM rfl rfl rfl rfl) T.x_BadDisk T.g_BadDisk)) (pss_nil)) (pss_cons (ps_fld (pv 0) (pe_lc (own := [("k", 2)]) (g := gName 2) (tt := tYes) (te := tCall0 (sp_empty_row K a) (WE W0)) rfl sc_Disk_init.nd (pi_range1 (by rfl) T.n_range (pa_cons (pv 1) (pa_nil))) (blkOk_by (N := ["self", "many", "k"]) (sc := defScope s_Disk_init) (by decide +kernel)) (fun _ _ _ _ _ => pg_name (i := 2) sc_Disk_init.nd rfl (by first | exact Or.inl rfl | exact Or.inr rfl)) (fun _ _ _ _ _ => pts_nil) (fun _ _ _ _ _ => callE0 G_empty_row takesN hr (by decide) rfl T.g_empty_row T.k_empty_row T.b_empty_row)) rfl) (pss_cons (ps_fld (pv 0) (pe_int) rfl) (pss_one (ps_fld (pv 0) (pe_non) rfl))))
theorem sc_Disk_read : FnScope ["self", "block"] ["self", "block"] (defScope s_Disk_read) := ⟨rfl, rfl, rfl, by decide +kernel, rfl, by decide +kernel, by decide +kernel⟩
theorem ok_Disk_read (T : Tx K mg a b) : FnOk P w K mg base (L2N.CX P w) 3 b.f_Disk_read b.fd_Disk_read ["self", "block"] (sp_Disk_read K a) := by
  have G_Disk_need := ok_Disk_need (P := P) (w := w) (base := base) T
  refine okN (k := 2) (t := t_Disk_read K a) T.F_Disk_read sc_Disk_read (fun cdv A outer s H E hr => ?_)
  exact pss_cons (ps_expr (methE (pv 0) (AltsOk.cons (MethOk.mk' (k := 2) T.c_Disk T.mt_Disk_need G_Disk_need T.b_Disk_need (by decide)) (AltsOk.nil)) (takesM rfl rfl rfl rfl) hr (by decide) (pa_cons (pv 1) (pa_nil)))) (pss_one (ps_ret (pe_callTy call_listP (by rfl) T.n_list (by decide +kernel) (pa_cons (pe_ix ix_P (pe_fld (pv 0) rfl) (pv 1) (fun _ _ => rfl)) (pa_nil)))))
theorem sc_Disk_stop_after : FnScope ["self", "count"] ["self", "count"] (defScope s_Disk_stop_after) := ⟨rfl, rfl, rfl, by decide +kernel, rfl, by decide +kernel, by decide +kernel⟩
theorem ok_Disk_stop_after (T : Tx K mg a b) : FnOk P w K mg base (L2N.CX P w) 3 b.f_Disk_stop_after b.fd_Disk_stop_after ["self", "count"] (sp_Disk_stop_after K a) := by
  have G__wall := ok__wall (P := P) (w := w) (base := base) T
  refine okN (k := 2) (t := t_Disk_stop_after K a) T.F_Disk_stop_after sc_Disk_stop_after (fun cdv A outer s H E hr => ?_)
  exact pss_one (ps_expr (callE G__wall (takesM rfl rfl rfl rfl) hr (by decide) rfl T.g__wall T.k__wall T.b__wall (pa_cons (pe_int) (pa_nil))))
theorem sc_Disk_go_on : FnScope ["self"] ["self"] (defScope s_Disk_go_on) := ⟨rfl, rfl, rfl, by decide +kernel, rfl, by decide +kernel, by decide +kernel⟩
theorem ok_Disk_go_on (T : Tx K mg a b) : FnOk P w K mg base (L2N.CX P w) 3 b.f_Disk_go_on b.fd_Disk_go_on ["self"] (sp_Disk_go_on K a) := by
  have G__wall := ok__wall (P := P) (w := w) (base := base) T
  refine okN (k := 2) (t := t_Disk_go_on K a) T.F_Disk_go_on sc_Disk_go_on (fun cdv A outer s H E hr => ?_)
  exact pss_one (ps_expr (callE G__wall (takesM rfl rfl rfl rfl) hr (by decide) rfl T.g__wall T.k__wall T.b__wall (pa_cons (pe_int) (pa_nil))))
theorem sc_Disk_twin : FnScope ["self"] ["self"] (defScope s_Disk_twin) := ⟨rfl, rfl, rfl, by decide +kernel, rfl, by decide +kernel, by decide +kernel⟩
theorem ok_Disk_twin (T : Tx K mg a b) : FnOk P w K mg base (L2N.CX P w) 3 b.f_Disk_twin b.fd_Disk_twin ["self"] (sp_Disk_twin K a) := by
  have G__wall := ok__wall (P := P) (w := w) (base := base) T
  refine okN (k := 2) (t := t_Disk_twin K a) T.F_Disk_twin sc_Disk_twin (fun cdv A outer s H E hr => ?_)
  exact pss_one (ps_expr (callE G__wall (takesM rfl rfl rfl rfl) hr (by decide) rfl T.g__wall T.k__wall T.b__wall (pa_cons (pe_int) (pa_nil))))
theorem sc_is_home : FnScope ["disk", "block"] ["disk", "block"] (defScope s_is_home) := ⟨rfl, rfl, rfl, by decide +kernel, rfl, by decide +kernel, by decide +kernel⟩
theorem ok_is_home (T : Tx K mg a b) : FnOk P w K mg base (L2N.CX P w) 3 b.f_is_home b.fd_is_home ["disk", "block"] (sp_is_home K a) := by
  have G_Disk_blocks := ok_Disk_blocks (P := P) (w := w) (base := base) T
  refine okN (k := 2) (t := t_is_home K a) T.F_is_home sc_is_home (fun cdv A outer s H E hr => ?_)
  exact pss_one (ps_ret (pe_and (pe_callB call_isi (by rfl) T.n_isinstance (by decide +kernel) (pa_cons (pv 1) (pa_cons (pe_bltn (by rfl) T.n_int (by decide +kernel) rfl) (pa_nil)))) (pe_and (pe_not (pe_callB call_isi (by rfl) T.n_isinstance (by decide +kernel) (pa_cons (pv 1) (pa_cons (pe_bltn (by rfl) T.n_bool (by decide +kernel) rfl) (pa_nil))))) (pe_one (pe_chain op_leP op_ltP (pe_gl rfl T.g_MAPS_AT) (pv 1) (methE0 (pv 0) (AltsOk.cons (MethOk.mk' (k := 2) T.c_Disk T.mt_Disk_blocks G_Disk_blocks T.b_Disk_blocks (by decide)) (AltsOk.nil)) (takesM rfl rfl rfl rfl) hr (by decide)))))))
theorem sc_L_homes : FnScope ["_law_script", "_law_many", "_law_count", "_law_homes_here", "_law_k"] ["_law_script", "_law_many", "_law_count"] (defScope s_L_homes) := ⟨rfl, rfl, rfl, by decide +kernel, rfl, by decide +kernel, by decide +kernel⟩
theorem ok_L_homes (T : Tx K mg a b) : FnOk P w K mg base (L2N.CX P w) 3 b.f_L_homes b.fd_L_homes ["_law_script", "_law_many", "_law_count"] (sp_L_homes K a) := by
  have G_L_cell_at := ok_L_cell_at (P := P) (w := w) (base := base) T
  refine okN (k := 2) (t := t_L_homes K a) T.F_L_homes sc_L_homes (fun cdv A outer s H E hr => ?_)
  exact pss_cons (ps_set (i := 3) sc_L_homes.nd rfl (by first | exact Or.inl rfl | exact Or.inr rfl) (pe_dnewK)) (pss_cons (ps_for (passes_of rfl) rfl (pi_range1 (by rfl) T.n_range (pa_cons (pv 2) (pa_nil))) (pg_name (i := 4) sc_L_homes.nd rfl (by first | exact Or.inl rfl | exact Or.inr rfl)) (pss_one (ps_dput (hu_of hr) (pv 3) (pe_op op_addP (pe_int) (pe_op op_modP (pe_op op_addP (pe_op op_divP (callE G_L_cell_at (takesM rfl rfl rfl rfl) hr (by decide) rfl T.g_L_cell_at T.k_L_cell_at T.b_L_cell_at (pa_cons (pv 0) (pa_cons (pe_op op_addP (pe_int) (pv 4)) (pa_nil)))) (pe_int)) (pe_op op_mulP (pe_int) (pv 4))) (pe_op op_subP (pv 1) (pe_int)))) (pe_bl) rfl))) (pss_one (ps_ret (pe_callB (call_sortedP rfl) (by rfl) T.n_sorted (by decide +kernel) (pa_cons (pv 3) (pa_nil))))))
theorem sc_L_due : FnScope ["_law_pairs", "_law_many", "_law_last", "_law_block", "_law_row_here", "_law_word_here"] ["_law_pairs", "_law_many"] (defScope s_L_due) := ⟨rfl, rfl, rfl, by decide +kernel, rfl, by decide +kernel, by decide +kernel⟩
theorem ok_L_due (T : Tx K mg a b) : FnOk P w K mg base (L2N.CX P w) 3 b.f_L_due b.fd_L_due ["_law_pairs", "_law_many"] (sp_L_due K a) := by
  have G_L_is_number := ok_L_is_number (P := P) (w := w) (base := base) T
  refine okN (k := 2) (t := t_L_due K a) T.F_L_due sc_L_due (fun cdv A outer s H E hr => ?_)
  exact pss_cons (ps_if (pt_cmpR op_gtP (pe_callB call_lenP (by rfl) T.n_len (by decide +kernel) (pa_cons (pv 0) (pa_nil))) (pe_int) (by first | exact nomark _ | rfl)) (pss_one (ps_ret (pe_str))) (pss_nil)) (pss_cons (ps_set (i := 2) sc_L_due.nd rfl (by first | exact Or.inl rfl | exact Or.inr rfl) (pe_int)) (pss_cons (ps_for (passes_of rfl) rfl (pi_seqP (pv 0)) (pg_tupP rfl (pgs_cons (pg_name (i := 3) sc_L_due.nd rfl (by first | exact Or.inl rfl | exact Or.inr rfl)) (pgs_cons (pg_name (i := 4) sc_L_due.nd rfl (by first | exact Or.inl rfl | exact Or.inr rfl)) (pgs_nil)))) (pss_cons (ps_if (PW.pt (pw_or (pt_not (pt_val (pe_callB call_isi (by rfl) T.n_isinstance (by decide +kernel) (pa_cons (pv 3) (pa_cons (pe_bltn (by rfl) T.n_int (by decide +kernel) rfl) (pa_nil)))))) (pw_or (pt_val (pe_callB call_isi (by rfl) T.n_isinstance (by decide +kernel) (pa_cons (pv 3) (pa_cons (pe_bltn (by rfl) T.n_bool (by decide +kernel) rfl) (pa_nil))))) (pw_or1 (pt_not (pt_chain op_ltP op_ltP (pv 2) (pv 3) (pv 1))))))) (pss_one (ps_ret (pe_str))) (pss_nil)) (pss_cons (ps_if (PW.pt (pw_or (pt_not (pt_val (pe_callB call_isi (by rfl) T.n_isinstance (by decide +kernel) (pa_cons (pv 4) (pa_cons (pe_bltn (by rfl) T.n_list (by decide +kernel) rfl) (pa_nil)))))) (pw_or1 (pt_cmpR (op_neP hr) (pe_callB call_lenP (by rfl) T.n_len (by decide +kernel) (pa_cons (pv 4) (pa_nil))) (pe_int) (by first | exact nomark _ | rfl))))) (pss_one (ps_ret (pe_str))) (pss_nil)) (pss_cons (ps_if (pt_cmpR (op_neP hr) (pe_lc (own := [("_law_word_here", 5)]) (g := gName 5) (tt := tNot (tB (tCallS (sp_L_is_number K a) (WE W0) (tCons (tVar 5) (tNil))))) (te := tVar 5) rfl sc_L_due.nd (pi_seqP (pv 4)) (blkOk_by (N := ["_law_pairs", "_law_many", "_law_last", "_law_block", "_law_row_here", "_law_word_here"]) (sc := defScope s_L_due) (by decide +kernel)) (fun _ _ _ _ _ => pg_name (i := 5) sc_L_due.nd rfl (by first | exact Or.inl rfl | exact Or.inr rfl)) (fun _ _ _ _ _ => pts_one (pt_not (pt_val (callE G_L_is_number takesN hr (by decide) rfl T.g_L_is_number T.k_L_is_number T.b_L_is_number (pa_cons (pv 5) (pa_nil)))))) (fun _ _ _ _ _ => pv 5)) (pe_lst (pa_nil)) (by first | exact nomark _ | rfl)) (pss_one (ps_ret (pe_str))) (pss_nil)) (pss_one (ps_set (i := 2) sc_L_due.nd rfl (by first | exact Or.inl rfl | exact Or.inr rfl) (pv 3))))))) (pss_one (ps_ret (pe_str)))))
theorem sc_need_row : FnScope ["thing"] ["thing"] (defScope s_need_row) := ⟨rfl, rfl, rfl, by decide +kernel, rfl, by decide +kernel, by decide +kernel⟩
theorem ok_need_row (T : Tx K mg a b) : FnOk P w K mg base (L2N.CX P w) 4 b.f_need_row b.fd_need_row ["thing"] (sp_need_row K a) := by
  have G_is_row := ok_is_row (P := P) (w := w) (base := base) T
  refine okN (k := 3) (t := t_need_row K a) T.F_need_row sc_need_row (fun cdv A outer s H E hr => ?_)
  exact pss_cons (ps_if (pt_not (pt_val (callE G_is_row (takesM rfl rfl rfl rfl) hr (by decide) rfl T.g_is_row T.k_is_row T.b_is_row (pa_cons (pv 0) (pa_nil))))) (pss_one (raiseE rfl (takesM rfl rfl rfl rfl) T.x_BadRow T.g_BadRow)) (pss_nil)) (pss_one (ps_ret (pe_callTy call_listP (by rfl) T.n_list (by decide +kernel) (pa_cons (pv 0) (pa_nil)))))
theorem sc_homes_told : FnScope ["disk", "head", "count", "last", "home"] ["disk"] (defScope s_homes_told) := ⟨rfl, rfl, rfl, by decide +kernel, rfl, by decide +kernel, by decide +kernel⟩
theorem ok_homes_told (T : Tx K mg a b) : FnOk P w K mg base (L2N.CX P w) 4 b.f_homes_told b.fd_homes_told ["disk"] (sp_homes_told K a) := by
  have G_Disk_read := ok_Disk_read (P := P) (w := w) (base := base) T
  have G_is_home := ok_is_home (P := P) (w := w) (base := base) T
  refine okN (k := 3) (t := t_homes_told K a) T.F_homes_told sc_homes_told (fun cdv A outer s H E hr => ?_)
  exact pss_cons (ps_set (i := 1) sc_homes_told.nd rfl (by first | exact Or.inl rfl | exact Or.inr rfl) (methE (pv 0) (AltsOk.cons (MethOk.mk' (k := 3) T.c_Disk T.mt_Disk_read G_Disk_read T.b_Disk_read (by decide)) (AltsOk.nil)) (takesM rfl rfl rfl rfl) hr (by decide) (pa_cons (pe_gl rfl T.g_LOG_AT) (pa_nil)))) (pss_cons (ps_set (i := 2) sc_homes_told.nd rfl (by first | exact Or.inl rfl | exact Or.inr rfl) (pe_ix ix_P (pv 1) (pe_int) (fun _ _ => rfl))) (pss_cons (ps_if (PW.pt (pw_or (pt_cmpR op_gtP (pv 2) (pe_gl rfl T.g_MOST_HOMES) (by first | exact nomark _ | rfl)) (pw_or1 (pt_cmpR op_gtP (pe_callBK (cr_maxD rfl) (by rfl) T.n_max (by decide +kernel) (pa_cons (pe_slice sl_P (pv 1) (po_some (pe_op op_addP (pe_int) (pv 2))) (po_none)) (pa_nil)) (pk_cons (pe_int) pk_nil)) (pe_int) (by first | exact nomark _ | rfl))))) (pss_one (raiseE rfl (takesM rfl rfl rfl rfl) T.x_BadLog T.g_BadLog)) (pss_nil)) (pss_cons (ps_set (i := 3) sc_homes_told.nd rfl (by first | exact Or.inl rfl | exact Or.inr rfl) (pe_int)) (pss_cons (ps_for (passes_of rfl) rfl (pi_seqP (pe_slice sl_P (pv 1) (po_some (pe_int)) (po_some (pe_op op_addP (pe_int) (pv 2))))) (pg_name (i := 4) sc_homes_told.nd rfl (by first | exact Or.inl rfl | exact Or.inr rfl)) (pss_cons (ps_if (PW.pt (pw_or (pt_not (pt_val (callE G_is_home (takesM rfl rfl rfl rfl) hr (by decide) rfl T.g_is_home T.k_is_home T.b_is_home (pa_cons (pv 0) (pa_cons (pv 4) (pa_nil)))))) (pw_or1 (pt_cmpR op_leP (pv 4) (pv 3) (by first | exact nomark _ | rfl))))) (pss_one (raiseE rfl (takesM rfl rfl rfl rfl) T.x_BadLog T.g_BadLog)) (pss_nil)) (pss_one (ps_set (i := 3) sc_homes_told.nd rfl (by first | exact Or.inl rfl | exact Or.inr rfl) (pv 4))))) (pss_one (ps_ret (pe_slice sl_P (pv 1) (po_some (pe_int)) (po_some (pe_op op_addP (pe_int) (pv 2))))))))))
theorem sc_L_head : FnScope ["_law_script", "_law_many", "_law_homes_here", "_law_head_here", "_law_cell", "_law_at", "_law_far", "_law_words"] ["_law_script", "_law_many"] (defScope s_L_head) := ⟨rfl, rfl, rfl, by decide +kernel, rfl, by decide +kernel, by decide +kernel⟩
theorem ok_L_head (T : Tx K mg a b) : FnOk P w K mg base (L2N.CX P w) 4 b.f_L_head b.fd_L_head ["_law_script", "_law_many"] (sp_L_head K a) := by
  have G_L_cell_at := ok_L_cell_at (P := P) (w := w) (base := base) T
  have G_L_homes := ok_L_homes (P := P) (w := w) (base := base) T
  refine okN (k := 3) (t := t_L_head K a) T.F_L_head sc_L_head (fun cdv A outer s H E hr => ?_)
  exact pss_cons (ps_set (i := 2) sc_L_head.nd rfl (by first | exact Or.inl rfl | exact Or.inr rfl) (callE G_L_homes (takesM rfl rfl rfl rfl) hr (by decide) rfl T.g_L_homes T.k_L_homes T.b_L_homes (pa_cons (pv 0) (pa_cons (pv 1) (pa_cons (pe_op op_modP (callE G_L_cell_at (takesM rfl rfl rfl rfl) hr (by decide) rfl T.g_L_cell_at T.k_L_cell_at T.b_L_cell_at (pa_cons (pv 0) (pa_cons (pe_int) (pa_nil)))) (pe_int)) (pa_nil)))))) (pss_cons (ps_set (i := 3) sc_L_head.nd rfl (by first | exact Or.inl rfl | exact Or.inr rfl) (pe_op op_addP (pe_op op_addP (pe_lst (pa_cons (pe_callB call_lenP (by rfl) T.n_len (by decide +kernel) (pa_cons (pv 2) (pa_nil))) (pa_nil))) (pv 2)) (pe_op op_mulP (pe_lst (pa_cons (pe_int) (pa_nil))) (pe_op op_subP (pe_int) (pe_callB call_lenP (by rfl) T.n_len (by decide +kernel) (pa_cons (pv 2) (pa_nil))))))) (pss_cons (ps_set (i := 4) sc_L_head.nd rfl (by first | exact Or.inl rfl | exact Or.inr rfl) (callE G_L_cell_at (takesM rfl rfl rfl rfl) hr (by decide) rfl T.g_L_cell_at T.k_L_cell_at T.b_L_cell_at (pa_cons (pv 0) (pa_cons (pe_int) (pa_nil))))) (pss_cons (ps_set (i := 5) sc_L_head.nd rfl (by first | exact Or.inl rfl | exact Or.inr rfl) (pe_op op_modP (pe_op op_divP (pv 4) (pe_int)) (pe_int))) (pss_cons (ps_if (pt_cmpR (op_eqP hr) (pe_op op_modP (pe_op op_divP (pv 4) (pe_int)) (pe_int)) (pe_int) (by first | exact nomark _ | rfl)) (pss_one (ps_set (i := 5) sc_L_head.nd rfl (by first | exact Or.inl rfl | exact Or.inr rfl) (pe_op op_modP (pe_op op_divP (pv 4) (pe_int)) (pe_op op_addP (pe_callB call_lenP (by rfl) T.n_len (by decide +kernel) (pa_cons (pv 2) (pa_nil))) (pe_int))))) (pss_nil)) (pss_cons (ps_set (i := 6) sc_L_head.nd rfl (by first | exact Or.inl rfl | exact Or.inr rfl) (pe_op op_modP (pe_op op_divP (pv 4) (pe_int)) (pe_op op_powP (pe_int) (pe_int)))) (pss_cons (ps_set (i := 7) sc_L_head.nd rfl (by first | exact Or.inl rfl | exact Or.inr rfl) (pe_lst (pa_cons (pe_ix ix_P (pv 3) (pv 5) (fun _ _ => rfl)) (pa_cons (pe_op op_addP (pe_ix ix_P (pv 3) (pv 5) (fun _ _ => rfl)) (pe_int)) (pa_cons (pe_callB (call_max2 rfl) (by rfl) T.n_max (by decide +kernel) (pa_cons (pe_int) (pa_cons (pe_op op_subP (pe_ix ix_P (pv 3) (pv 5) (fun _ _ => rfl)) (pe_int)) (pa_nil)))) (pa_cons (pe_int) (pa_cons (pe_int) (pa_cons (pv 1) (pa_cons (pv 6) (pa_cons (pe_ix ix_P (pv 3) (pe_op op_subP (pv 5) (pe_int)) (fun _ _ => rfl)) (pa_nil))))))))))) (pss_cons (ps_asg (pe_ix ix_P (pv 7) (pe_op op_modP (pv 4) (pe_int)) (fun _ _ => rfl)) (pg_sub (pv 3) (pv 5) set_list)) (pss_cons (ps_if (pt_cmpR (op_eqP hr) (pe_op op_modP (pv 4) (pe_int)) (pe_int) (by first | exact nomark _ | rfl)) (pss_one (ps_asg (pe_op op_modP (pe_op op_divP (pv 4) (pe_int)) (pe_int)) (pg_sub (pv 3) (pe_op op_subP (pv 5) (pe_int)) set_list))) (pss_nil)) (pss_one (ps_ret (pv 3)))))))))))
theorem sc_Disk_write : FnScope ["self", "block", "row", "kept"] ["self", "block", "row"] (defScope s_Disk_write) := ⟨rfl, rfl, rfl, by decide +kernel, rfl, by decide +kernel, by decide +kernel⟩
theorem ok_Disk_write (T : Tx K mg a b) : FnOk P w K mg base (L2N.CX P w) 5 b.f_Disk_write b.fd_Disk_write ["self", "block", "row"] (sp_Disk_write K a) := by
  have G_Disk_need := ok_Disk_need (P := P) (w := w) (base := base) T
  have G_need_row := ok_need_row (P := P) (w := w) (base := base) T
  refine okN (k := 4) (t := t_Disk_write K a) T.F_Disk_write sc_Disk_write (fun cdv A outer s H E hr => ?_)
  exact pss_cons (ps_expr (methE (pv 0) (AltsOk.cons (MethOk.mk' (k := 2) T.c_Disk T.mt_Disk_need G_Disk_need T.b_Disk_need (by decide)) (AltsOk.nil)) (takesM rfl rfl rfl rfl) hr (by decide) (pa_cons (pv 1) (pa_nil)))) (pss_cons (ps_set (i := 3) sc_Disk_write.nd rfl (by first | exact Or.inl rfl | exact Or.inr rfl) (callE G_need_row (takesM rfl rfl rfl rfl) hr (by decide) rfl T.g_need_row T.k_need_row T.b_need_row (pa_cons (pv 2) (pa_nil)))) (pss_cons (ps_if (pt_cmpR (op_eqP hr) (pe_fld (pv 0) rfl) (pe_int) (by first | exact nomark _ | rfl)) (pss_one (raiseE rfl (takesM rfl rfl rfl rfl) T.x_Stopped T.g_Stopped)) (pss_nil)) (pss_cons (ps_if (pt_cmpR op_isNotP (pe_fld (pv 0) rfl) (pe_non) (by first | exact nomark _ | rfl)) (pss_one (ps_fld (pv 0) (pe_op op_subP (pe_fld (pv 0) rfl) (pe_int)) rfl)) (pss_nil)) (pss_cons (ps_asg (pv 3) (pg_sub (pe_fld (pv 0) rfl) (pv 1) set_list)) (pss_one (ps_fld (pv 0) (pe_op op_addP (pe_fld (pv 0) rfl) (pe_int)) rfl))))))
theorem sc_need_pairs : FnScope ["disk", "pairs", "found", "last", "block", "row"] ["disk", "pairs"] (defScope s_need_pairs) := ⟨rfl, rfl, rfl, by decide +kernel, rfl, by decide +kernel, by decide +kernel⟩
theorem ok_need_pairs (T : Tx K mg a b) : FnOk P w K mg base (L2N.CX P w) 5 b.f_need_pairs b.fd_need_pairs ["disk", "pairs"] (sp_need_pairs K a) := by
  have G_is_home := ok_is_home (P := P) (w := w) (base := base) T
  have G_need_row := ok_need_row (P := P) (w := w) (base := base) T
  refine okN (k := 4) (t := t_need_pairs K a) T.F_need_pairs sc_need_pairs (fun cdv A outer s H E hr => ?_)
  exact pss_cons (ps_if (pt_cmpR op_gtP (pe_callB call_lenP (by rfl) T.n_len (by decide +kernel) (pa_cons (pv 1) (pa_nil))) (pe_gl rfl T.g_MOST_HOMES) (by first | exact nomark _ | rfl)) (pss_one (raiseE rfl (takesM rfl rfl rfl rfl) T.x_TooMuch T.g_TooMuch)) (pss_nil)) (pss_cons (ps_set (i := 2) sc_need_pairs.nd rfl (by first | exact Or.inl rfl | exact Or.inr rfl) (pe_lst (pa_nil))) (pss_cons (ps_set (i := 3) sc_need_pairs.nd rfl (by first | exact Or.inl rfl | exact Or.inr rfl) (pe_int)) (pss_cons (ps_for (passes_of rfl) rfl (pi_seqP (pv 1)) (pg_tupP rfl (pgs_cons (pg_name (i := 4) sc_need_pairs.nd rfl (by first | exact Or.inl rfl | exact Or.inr rfl)) (pgs_cons (pg_name (i := 5) sc_need_pairs.nd rfl (by first | exact Or.inl rfl | exact Or.inr rfl)) (pgs_nil)))) (pss_cons (ps_if (PW.pt (pw_or (pt_not (pt_val (callE G_is_home (takesM rfl rfl rfl rfl) hr (by decide) rfl T.g_is_home T.k_is_home T.b_is_home (pa_cons (pv 0) (pa_cons (pv 4) (pa_nil)))))) (pw_or1 (pt_cmpR op_leP (pv 4) (pv 3) (by first | exact nomark _ | rfl))))) (pss_one (raiseE rfl (takesM rfl rfl rfl rfl) T.x_NoBlock T.g_NoBlock)) (pss_nil)) (pss_cons (ps_expr (pe_bm PySem.F.plainAttrs_list PySem.F.slot_list_append PySem.F.type_list_append mt_append (pv 2) (pa_cons (pe_tup (pa_cons (pv 4) (pa_cons (callE G_need_row (takesM rfl rfl rfl rfl) hr (by decide) rfl T.g_need_row T.k_need_row T.b_need_row (pa_cons (pv 5) (pa_nil))) (pa_nil)))) (pa_nil)))) (pss_one (ps_set (i := 3) sc_need_pairs.nd rfl (by first | exact Or.inl rfl | exact Or.inr rfl) (pv 4)))))) (pss_one (ps_ret (pv 2))))))
theorem sc_carry_home : FnScope ["disk", "homes", "place", "home"] ["disk", "homes"] (defScope s_carry_home) := ⟨rfl, rfl, rfl, by decide +kernel, rfl, by decide +kernel, by decide +kernel⟩
theorem ok_carry_home (T : Tx K mg a b) : FnOk P w K mg base (L2N.CX P w) 6 b.f_carry_home b.fd_carry_home ["disk", "homes"] (sp_carry_home K a) := by
  have G_Disk_read := ok_Disk_read (P := P) (w := w) (base := base) T
  have G_Disk_write := ok_Disk_write (P := P) (w := w) (base := base) T
  have G_empty_row := ok_empty_row (P := P) (w := w) (base := base) T
  refine okN (k := 5) (t := t_carry_home K a) T.F_carry_home sc_carry_home (fun cdv A outer s H E hr => ?_)
  exact pss_cons (ps_for (passes_of rfl) rfl (pi_enum (by rfl) T.n_enumerate (pa_cons (pv 1) (pa_nil))) (pg_tupP rfl (pgs_cons (pg_name (i := 2) sc_carry_home.nd rfl (by first | exact Or.inl rfl | exact Or.inr rfl)) (pgs_cons (pg_name (i := 3) sc_carry_home.nd rfl (by first | exact Or.inl rfl | exact Or.inr rfl)) (pgs_nil)))) (pss_one (ps_expr (methE (pv 0) (AltsOk.cons (MethOk.mk' (k := 5) T.c_Disk T.mt_Disk_write G_Disk_write T.b_Disk_write (by decide)) (AltsOk.nil)) (takesM rfl rfl rfl rfl) hr (by decide) (pa_cons (pv 3) (pa_cons (methE (pv 0) (AltsOk.cons (MethOk.mk' (k := 3) T.c_Disk T.mt_Disk_read G_Disk_read T.b_Disk_read (by decide)) (AltsOk.nil)) (takesM rfl rfl rfl rfl) hr (by decide) (pa_cons (pe_op op_addP (pe_op op_addP (pe_gl rfl T.g_LOG_AT) (pe_int)) (pv 2)) (pa_nil))) (pa_nil))))))) (pss_one (ps_expr (methE (pv 0) (AltsOk.cons (MethOk.mk' (k := 5) T.c_Disk T.mt_Disk_write G_Disk_write T.b_Disk_write (by decide)) (AltsOk.nil)) (takesM rfl rfl rfl rfl) hr (by decide) (pa_cons (pe_gl rfl T.g_LOG_AT) (pa_cons (callE0 G_empty_row (takesM rfl rfl rfl rfl) hr (by decide) rfl T.g_empty_row T.k_empty_row T.b_empty_row) (pa_nil))))))
theorem sc_commit : FnScope ["disk", "pairs", "kept", "place", "pair", "homes"] ["disk", "pairs"] (defScope s_commit) := ⟨rfl, rfl, rfl, by decide +kernel, rfl, by decide +kernel, by decide +kernel⟩
theorem ok_commit (T : Tx K mg a b) : FnOk P w K mg base (L2N.CX P w) 7 b.f_commit b.fd_commit ["disk", "pairs"] (sp_commit K a) := by
  have G_Disk_write := ok_Disk_write (P := P) (w := w) (base := base) T
  have G_carry_home := ok_carry_home (P := P) (w := w) (base := base) T
  have G_changed := ok_changed (P := P) (w := w) (base := base) T
  have G_empty_row := ok_empty_row (P := P) (w := w) (base := base) T
  have G_need_pairs := ok_need_pairs (P := P) (w := w) (base := base) T
  refine okN (k := 6) (t := t_commit K a) T.F_commit sc_commit (fun cdv A outer s H E hr => ?_)
  exact pss_cons (ps_set (i := 2) sc_commit.nd rfl (by first | exact Or.inl rfl | exact Or.inr rfl) (callE G_need_pairs (takesM rfl rfl rfl rfl) hr (by decide) rfl T.g_need_pairs T.k_need_pairs T.b_need_pairs (pa_cons (pv 0) (pa_cons (pv 1) (pa_nil))))) (pss_cons (ps_if (pt_cmpR (op_eqP hr) (pv 2) (pe_lst (pa_nil)) (by first | exact nomark _ | rfl)) (pss_one (ps_retN)) (pss_nil)) (pss_cons (ps_for (passes_of rfl) rfl (pi_enum (by rfl) T.n_enumerate (pa_cons (pv 2) (pa_nil))) (pg_tupP rfl (pgs_cons (pg_name (i := 3) sc_commit.nd rfl (by first | exact Or.inl rfl | exact Or.inr rfl)) (pgs_cons (pg_name (i := 4) sc_commit.nd rfl (by first | exact Or.inl rfl | exact Or.inr rfl)) (pgs_nil)))) (pss_one (ps_expr (methE (pv 0) (AltsOk.cons (MethOk.mk' (k := 5) T.c_Disk T.mt_Disk_write G_Disk_write T.b_Disk_write (by decide)) (AltsOk.nil)) (takesM rfl rfl rfl rfl) hr (by decide) (pa_cons (pe_op op_addP (pe_op op_addP (pe_gl rfl T.g_LOG_AT) (pe_int)) (pv 3)) (pa_cons (pe_ix ix_P (pv 4) (pe_int) (fun _ _ => rfl)) (pa_nil))))))) (pss_cons (ps_setLc (i := 5) rfl sc_commit.nd rfl rfl (sw_true rfl rfl rfl (by decide +kernel)) (own := [("pair", 4)]) (g := gName 4) (tt := tYes) (te := tOp (rIxP K) (tVar 4) (tC (.int 0))) (pi_seqP (pv 2)) (blkOk_by (N := ["disk", "pairs", "kept", "place", "pair", "homes"]) (sc := defScope s_commit) (by decide +kernel)) (fun _ _ _ _ _ => pg_name (i := 4) sc_commit.nd rfl (by first | exact Or.inl rfl | exact Or.inr rfl)) (fun _ _ _ _ _ => pts_nil) (fun _ _ _ _ _ => pe_ix ix_P (pv 4) (pe_int) (fun _ _ => rfl))) (pss_cons (ps_expr (methE (pv 0) (AltsOk.cons (MethOk.mk' (k := 5) T.c_Disk T.mt_Disk_write G_Disk_write T.b_Disk_write (by decide)) (AltsOk.nil)) (takesM rfl rfl rfl rfl) hr (by decide) (pa_cons (pe_gl rfl T.g_LOG_AT) (pa_cons (callE G_changed (takesM rfl rfl rfl rfl) hr (by decide) rfl T.g_changed T.k_changed T.b_changed (pa_cons (callE0 G_empty_row (takesM rfl rfl rfl rfl) hr (by decide) rfl T.g_empty_row T.k_empty_row T.b_empty_row) (pa_cons (pe_int) (pa_cons (pe_op op_addP (pe_lst (pa_cons (pe_callB call_lenP (by rfl) T.n_len (by decide +kernel) (pa_cons (pv 5) (pa_nil))) (pa_nil))) (pv 5)) (pa_nil))))) (pa_nil))))) (pss_one (ps_expr (callE G_carry_home (takesM rfl rfl rfl rfl) hr (by decide) rfl T.g_carry_home T.k_carry_home T.b_carry_home (pa_cons (pv 0) (pa_cons (pv 5) (pa_nil))))))))))
theorem sc_come_back : FnScope ["disk", "homes"] ["disk"] (defScope s_come_back) := ⟨rfl, rfl, rfl, by decide +kernel, rfl, by decide +kernel, by decide +kernel⟩
theorem ok_come_back (T : Tx K mg a b) : FnOk P w K mg base (L2N.CX P w) 7 b.f_come_back b.fd_come_back ["disk"] (sp_come_back K a) := by
  have G_carry_home := ok_carry_home (P := P) (w := w) (base := base) T
  have G_homes_told := ok_homes_told (P := P) (w := w) (base := base) T
  refine okN (k := 6) (t := t_come_back K a) T.F_come_back sc_come_back (fun cdv A outer s H E hr => ?_)
  exact pss_cons (ps_set (i := 1) sc_come_back.nd rfl (by first | exact Or.inl rfl | exact Or.inr rfl) (callE G_homes_told (takesM rfl rfl rfl rfl) hr (by decide) rfl T.g_homes_told T.k_homes_told T.b_homes_told (pa_cons (pv 0) (pa_nil)))) (pss_cons (ps_if (pt_cmpR (op_neP hr) (pv 1) (pe_lst (pa_nil)) (by first | exact nomark _ | rfl)) (pss_one (ps_expr (callE G_carry_home (takesM rfl rfl rfl rfl) hr (by decide) rfl T.g_carry_home T.k_carry_home T.b_carry_home (pa_cons (pv 0) (pa_cons (pv 1) (pa_nil)))))) (pss_nil)) (pss_one (ps_ret (pe_callB call_lenP (by rfl) T.n_len (by decide +kernel) (pa_cons (pv 1) (pa_nil))))))
theorem sc_L_comes_back : FnScope ["_law_disk", "_law_head_here", "_law_k", "_law_rows", "_law_before", "_law_word_here", "_law_found", "_law_e", "_law_now", "_law_count", "_law_block"] ["_law_disk", "_law_head_here"] (defScope s_L_comes_back) := ⟨rfl, rfl, rfl, by decide +kernel, rfl, by decide +kernel, by decide +kernel⟩
theorem ok_L_comes_back (T : Tx K mg a b) : FnOk P w K mg base (L2N.CX P w) 8 b.f_L_comes_back b.fd_L_comes_back ["_law_disk", "_law_head_here"] (sp_L_comes_back K a) := by
  have G_Disk_blocks := ok_Disk_blocks (P := P) (w := w) (base := base) T
  have G_Disk_read := ok_Disk_read (P := P) (w := w) (base := base) T
  have G_Disk_write := ok_Disk_write (P := P) (w := w) (base := base) T
  have G_Disk_writes := ok_Disk_writes (P := P) (w := w) (base := base) T
  have G_L_is_right := ok_L_is_right (P := P) (w := w) (base := base) T
  have G_L_row := ok_L_row (P := P) (w := w) (base := base) T
  have G_come_back := ok_come_back (P := P) (w := w) (base := base) T
  have Gh_L_word := okh_L_word (P := P) (w := w) (base := base) T
  refine okN (k := 7) (t := t_L_comes_back K a) T.F_L_comes_back sc_L_comes_back (fun cdv A outer s H E hr => ?_)
  exact pss_cons (ps_for (passes_of rfl) rfl (pi_range1 (by rfl) T.n_range (pa_cons (pe_int) (pa_nil))) (pg_name (i := 2) sc_L_comes_back.nd rfl (by first | exact Or.inl rfl | exact Or.inr rfl)) (pss_one (ps_expr (methE (pv 0) (AltsOk.cons (MethOk.mk' (k := 5) T.c_Disk T.mt_Disk_write G_Disk_write T.b_Disk_write (by decide)) (AltsOk.nil)) (takesM rfl rfl rfl rfl) hr (by decide) (pa_cons (pe_op op_addP (pe_int) (pv 2)) (pa_cons (callE G_L_row (takesM rfl rfl rfl rfl) hr (by decide) rfl T.g_L_row T.k_L_row T.b_L_row (pa_cons (pe_op op_addP (pe_op op_addP (pe_ix ix_P (pv 1) (pe_int) (fun _ _ => rfl)) (pe_op op_mulP (pe_int) (pv 2))) (pe_int)) (pa_nil))) (pa_nil))))))) (pss_cons (ps_expr (methE (pv 0) (AltsOk.cons (MethOk.mk' (k := 5) T.c_Disk T.mt_Disk_write G_Disk_write T.b_Disk_write (by decide)) (AltsOk.nil)) (takesM rfl rfl rfl rfl) hr (by decide) (pa_cons (pe_int) (pa_cons (pv 1) (pa_nil))))) (pss_cons (ps_setLc (i := 3) rfl sc_L_comes_back.nd rfl rfl (sw_true rfl rfl rfl (by decide +kernel)) (own := [("_law_block", 10)]) (g := gName 10) (tt := tYes) (te := tCB ((rListP K)) (tCons (tMethP "read" [(a.Disk, sp_Disk_read K a)] (WE W0) (tVar 0) (tCons (tVar 10) (tNil))) (tNil))) (pi_range1 (by rfl) T.n_range (pa_cons (methE0 (pv 0) (AltsOk.cons (MethOk.mk' (k := 2) T.c_Disk T.mt_Disk_blocks G_Disk_blocks T.b_Disk_blocks (by decide)) (AltsOk.nil)) (takesM rfl rfl rfl rfl) hr (by decide)) (pa_nil))) (blkOk_by (N := ["_law_disk", "_law_head_here", "_law_k", "_law_rows", "_law_before", "_law_word_here", "_law_found", "_law_e", "_law_now", "_law_count", "_law_block"]) (sc := defScope s_L_comes_back) (by decide +kernel)) (fun _ _ _ _ _ => pg_name (i := 10) sc_L_comes_back.nd rfl (by first | exact Or.inl rfl | exact Or.inr rfl)) (fun _ _ _ _ _ => pts_nil) (fun _ _ _ _ _ => pe_callTy call_listP (by rfl) T.n_list (by decide +kernel) (pa_cons (methE (pv 0) (AltsOk.cons (MethOk.mk' (k := 3) T.c_Disk T.mt_Disk_read G_Disk_read T.b_Disk_read (by decide)) (AltsOk.nil)) takesN hr (by decide) (pa_cons (pv 10) (pa_nil))) (pa_nil)))) (pss_cons (ps_set (i := 4) sc_L_comes_back.nd rfl (by first | exact Or.inl rfl | exact Or.inr rfl) (methE0 (pv 0) (AltsOk.cons (MethOk.mk' (k := 2) T.c_Disk T.mt_Disk_writes G_Disk_writes T.b_Disk_writes (by decide)) (AltsOk.nil)) (takesM rfl rfl rfl rfl) hr (by decide))) (pss_cons (ps_set (i := 5) sc_L_comes_back.nd rfl (by first | exact Or.inl rfl | exact Or.inr rfl) (pe_str)) (pss_cons (tryAs (i := 7) sc_L_comes_back.nd rfl rfl ⟨rfl, by decide, .inl T.g_KeepError⟩ (takesM rfl rfl rfl rfl) (fun W pn xe tk po => pss_one (ps_set (i := 6) sc_L_comes_back.nd rfl (by first | exact Or.inl rfl | exact Or.inr rfl) (callE G_come_back tk hr (by decide) rfl T.g_come_back T.k_come_back T.b_come_back (pa_cons (pv 0) (pa_nil))))) (fun e D oe pn hp => pss_one (ps_set (i := 5) sc_L_comes_back.nd rfl (by first | exact Or.inl rfl | exact Or.inr rfl) (callX Gh_L_word hp takesN (roomS hr) (by decide) rfl T.g_L_word T.k_L_word T.b_L_word (pa_cons (pv 7) (pa_nil)))))) (pss_cons (ps_setLc (i := 8) rfl sc_L_comes_back.nd rfl rfl (sw_true rfl rfl rfl (by decide +kernel)) (own := [("_law_block", 10)]) (g := gName 10) (tt := tYes) (te := tCB ((rListP K)) (tCons (tMethP "read" [(a.Disk, sp_Disk_read K a)] (WE W0) (tVar 0) (tCons (tVar 10) (tNil))) (tNil))) (pi_range1 (by rfl) T.n_range (pa_cons (methE0 (pv 0) (AltsOk.cons (MethOk.mk' (k := 2) T.c_Disk T.mt_Disk_blocks G_Disk_blocks T.b_Disk_blocks (by decide)) (AltsOk.nil)) (takesM rfl rfl rfl rfl) hr (by decide)) (pa_nil))) (blkOk_by (N := ["_law_disk", "_law_head_here", "_law_k", "_law_rows", "_law_before", "_law_word_here", "_law_found", "_law_e", "_law_now", "_law_count", "_law_block"]) (sc := defScope s_L_comes_back) (by decide +kernel)) (fun _ _ _ _ _ => pg_name (i := 10) sc_L_comes_back.nd rfl (by first | exact Or.inl rfl | exact Or.inr rfl)) (fun _ _ _ _ _ => pts_nil) (fun _ _ _ _ _ => pe_callTy call_listP (by rfl) T.n_list (by decide +kernel) (pa_cons (methE (pv 0) (AltsOk.cons (MethOk.mk' (k := 3) T.c_Disk T.mt_Disk_read G_Disk_read T.b_Disk_read (by decide)) (AltsOk.nil)) takesN hr (by decide) (pa_cons (pv 10) (pa_nil))) (pa_nil)))) (pss_cons (ps_if (pt_not (pt_val (callE G_L_is_right (takesM rfl rfl rfl rfl) hr (by decide) rfl T.g_L_is_right T.k_L_is_right T.b_L_is_right (pa_cons (pv 1) (pa_cons (methE0 (pv 0) (AltsOk.cons (MethOk.mk' (k := 2) T.c_Disk T.mt_Disk_blocks G_Disk_blocks T.b_Disk_blocks (by decide)) (AltsOk.nil)) (takesM rfl rfl rfl rfl) hr (by decide)) (pa_nil)))))) (pss_one (ps_ret (pe_and (pe_cmpR (op_eqP hr) (pv 5) (pe_str) (by first | exact nomark _ | rfl)) (pe_and (pe_cmpR (op_eqP hr) (methE0 (pv 0) (AltsOk.cons (MethOk.mk' (k := 2) T.c_Disk T.mt_Disk_writes G_Disk_writes T.b_Disk_writes (by decide)) (AltsOk.nil)) (takesM rfl rfl rfl rfl) hr (by decide)) (pv 4) (by first | exact nomark _ | rfl)) (pe_one (pe_cmpR (op_eqP hr) (pv 8) (pv 3) (by first | exact nomark _ | rfl))))))) (pss_nil)) (pss_cons (ps_for (passes_of rfl) rfl (pi_range1 (by rfl) T.n_range (pa_cons (pe_ix ix_P (pv 1) (pe_int) (fun _ _ => rfl)) (pa_nil))) (pg_name (i := 2) sc_L_comes_back.nd rfl (by first | exact Or.inl rfl | exact Or.inr rfl)) (pss_one (ps_asg (pe_ix ix_P (pv 3) (pe_op op_addP (pe_int) (pv 2)) (fun _ _ => rfl)) (pg_sub (pv 3) (pe_ix ix_P (pv 1) (pe_op op_addP (pe_int) (pv 2)) (fun _ _ => rfl)) set_list)))) (pss_cons (ps_asg (pe_op op_mulP (pe_lst (pa_cons (pe_int) (pa_nil))) (pe_int)) (pg_sub (pv 3) (pe_int) set_list)) (pss_cons (ps_if (PW.pt (pw_or (pt_cmpR (op_neP hr) (pv 5) (pe_str) (by first | exact nomark _ | rfl)) (pw_or (pt_not (pt_val (pe_callB call_isi (by rfl) T.n_isinstance (by decide +kernel) (pa_cons (pv 6) (pa_cons (pe_bltn (by rfl) T.n_int (by decide +kernel) rfl) (pa_nil)))))) (pw_or (pt_val (pe_callB call_isi (by rfl) T.n_isinstance (by decide +kernel) (pa_cons (pv 6) (pa_cons (pe_bltn (by rfl) T.n_bool (by decide +kernel) rfl) (pa_nil))))) (pw_or1 (pt_cmpR (op_neP hr) (pv 6) (pe_ix ix_P (pv 1) (pe_int) (fun _ _ => rfl)) (by first | exact nomark _ | rfl))))))) (pss_one (ps_ret (pe_bl))) (pss_nil)) (pss_cons (ps_set (i := 9) sc_L_comes_back.nd rfl (by first | exact Or.inl rfl | exact Or.inr rfl) (pe_op op_mulP (pe_op op_addP (pe_ix ix_P (pv 1) (pe_int) (fun _ _ => rfl)) (pe_int)) (pe_callTy call_intP (by rfl) T.n_int (by decide +kernel) (pa_cons (pe_cmpR op_gtP (pe_ix ix_P (pv 1) (pe_int) (fun _ _ => rfl)) (pe_int) (by first | exact nomark _ | rfl)) (pa_nil))))) (pss_one (ps_ret (pe_and (pe_cmpR (op_eqP hr) (methE0 (pv 0) (AltsOk.cons (MethOk.mk' (k := 2) T.c_Disk T.mt_Disk_writes G_Disk_writes T.b_Disk_writes (by decide)) (AltsOk.nil)) (takesM rfl rfl rfl rfl) hr (by decide)) (pe_op op_addP (pv 4) (pv 9)) (by first | exact nomark _ | rfl)) (pe_one (pe_cmpR (op_eqP hr) (pv 8) (pv 3) (by first | exact nomark _ | rfl)))))))))))))))))
theorem sc_L_commits : FnScope ["_law_script", "_law_disk", "_law_many", "_law_homes_here", "_law_pairs", "_law_goods", "_law_k", "_law_cell", "_law_at", "_law_ahead", "_law_rows", "_law_due_here", "_law_word_here", "_law_e", "_law_home", "_law_block"] ["_law_script", "_law_disk"] (defScope s_L_commits) := ⟨rfl, rfl, rfl, by decide +kernel, rfl, by decide +kernel, by decide +kernel⟩
theorem ok_L_commits (T : Tx K mg a b) : FnOk P w K mg base (L2N.CX P w) 8 b.f_L_commits b.fd_L_commits ["_law_script", "_law_disk"] (sp_L_commits K a) := by
  have G_Disk_blocks := ok_Disk_blocks (P := P) (w := w) (base := base) T
  have G_Disk_read := ok_Disk_read (P := P) (w := w) (base := base) T
  have G_Disk_writes := ok_Disk_writes (P := P) (w := w) (base := base) T
  have G_L_cell_at := ok_L_cell_at (P := P) (w := w) (base := base) T
  have G_L_due := ok_L_due (P := P) (w := w) (base := base) T
  have G_L_homes := ok_L_homes (P := P) (w := w) (base := base) T
  have G_L_odd_pair := ok_L_odd_pair (P := P) (w := w) (base := base) T
  have G_L_row := ok_L_row (P := P) (w := w) (base := base) T
  have G_commit := ok_commit (P := P) (w := w) (base := base) T
  have Gh_L_word := okh_L_word (P := P) (w := w) (base := base) T
  refine okN (k := 7) (t := t_L_commits K a) T.F_L_commits sc_L_commits (fun cdv A outer s H E hr => ?_)
  exact pss_cons (ps_set (i := 2) sc_L_commits.nd rfl (by first | exact Or.inl rfl | exact Or.inr rfl) (methE0 (pv 1) (AltsOk.cons (MethOk.mk' (k := 2) T.c_Disk T.mt_Disk_blocks G_Disk_blocks T.b_Disk_blocks (by decide)) (AltsOk.nil)) (takesM rfl rfl rfl rfl) hr (by decide))) (pss_cons (ps_set (i := 3) sc_L_commits.nd rfl (by first | exact Or.inl rfl | exact Or.inr rfl) (callE G_L_homes (takesM rfl rfl rfl rfl) hr (by decide) rfl T.g_L_homes T.k_L_homes T.b_L_homes (pa_cons (pv 0) (pa_cons (pv 2) (pa_cons (pe_op op_modP (callE G_L_cell_at (takesM rfl rfl rfl rfl) hr (by decide) rfl T.g_L_cell_at T.k_L_cell_at T.b_L_cell_at (pa_cons (pv 0) (pa_cons (pe_int) (pa_nil)))) (pe_int)) (pa_nil)))))) (pss_cons (ps_setLc (i := 4) rfl sc_L_commits.nd rfl rfl (sw_true rfl rfl rfl (by decide +kernel)) (own := [("_law_home", 14)]) (g := gName 14) (tt := tYes) (te := tTup (tCons (tVar 14) (tCons (tCallS (sp_L_row K a) (WE W0) (tCons (tCallS (sp_L_cell_at K a) (WE W0) (tCons (tVar 0) (tCons (tOp rAddP (tC (.int 26)) (tOp rModP (tVar 14) (tC (.int 20)))) (tNil)))) (tNil))) (tNil)))) (pi_seqP (pv 3)) (blkOk_by (N := ["_law_script", "_law_disk", "_law_many", "_law_homes_here", "_law_pairs", "_law_goods", "_law_k", "_law_cell", "_law_at", "_law_ahead", "_law_rows", "_law_due_here", "_law_word_here", "_law_e", "_law_home", "_law_block"]) (sc := defScope s_L_commits) (by decide +kernel)) (fun _ _ _ _ _ => pg_name (i := 14) sc_L_commits.nd rfl (by first | exact Or.inl rfl | exact Or.inr rfl)) (fun _ _ _ _ _ => pts_nil) (fun _ _ _ _ _ => pe_tup (pa_cons (pv 14) (pa_cons (callE G_L_row takesN hr (by decide) rfl T.g_L_row T.k_L_row T.b_L_row (pa_cons (callE G_L_cell_at takesN hr (by decide) rfl T.g_L_cell_at T.k_L_cell_at T.b_L_cell_at (pa_cons (pv 0) (pa_cons (pe_op op_addP (pe_int) (pe_op op_modP (pv 14) (pe_int))) (pa_nil)))) (pa_nil))) (pa_nil))))) (pss_cons (ps_set (i := 5) sc_L_commits.nd rfl (by first | exact Or.inl rfl | exact Or.inr rfl) (pe_callTy call_listP (by rfl) T.n_list (by decide +kernel) (pa_cons (pv 4) (pa_nil)))) (pss_cons (ps_for (passes_of rfl) rfl (pi_range1 (by rfl) T.n_range (pa_cons (pe_op op_modP (callE G_L_cell_at (takesM rfl rfl rfl rfl) hr (by decide) rfl T.g_L_cell_at T.k_L_cell_at T.b_L_cell_at (pa_cons (pv 0) (pa_cons (pe_int) (pa_nil)))) (pe_int)) (pa_nil))) (pg_name (i := 6) sc_L_commits.nd rfl (by first | exact Or.inl rfl | exact Or.inr rfl)) (pss_one (ps_if (pt_cmpR (op_neP hr) (pv 4) (pe_lst (pa_nil)) (by first | exact nomark _ | rfl)) (pss_cons (ps_set (i := 7) sc_L_commits.nd rfl (by first | exact Or.inl rfl | exact Or.inr rfl) (callE G_L_cell_at (takesM rfl rfl rfl rfl) hr (by decide) rfl T.g_L_cell_at T.k_L_cell_at T.b_L_cell_at (pa_cons (pv 0) (pa_cons (pe_op op_addP (pe_int) (pv 6)) (pa_nil))))) (pss_cons (ps_set (i := 8) sc_L_commits.nd rfl (by first | exact Or.inl rfl | exact Or.inr rfl) (pe_op op_modP (pv 7) (pe_callB call_lenP (by rfl) T.n_len (by decide +kernel) (pa_cons (pv 4) (pa_nil))))) (pss_cons (ps_set (i := 9) sc_L_commits.nd rfl (by first | exact Or.inl rfl | exact Or.inr rfl) (pe_ix ix_P (pe_ix ix_P (pv 5) (pe_op op_subP (pv 8) (pe_int)) (fun _ _ => rfl)) (pe_int) (fun _ _ => rfl))) (pss_one (ps_set (i := 4) sc_L_commits.nd rfl (by first | exact Or.inl rfl | exact Or.inr rfl) (pe_op op_addP (pe_op op_addP (pe_slice sl_P (pv 4) (po_none) (po_some (pv 8))) (pe_lst (pa_cons (callE G_L_odd_pair (takesM rfl rfl rfl rfl) hr (by decide) rfl T.g_L_odd_pair T.k_L_odd_pair T.b_L_odd_pair (pa_cons (pe_ix ix_P (pv 5) (pv 8) (fun _ _ => rfl)) (pa_cons (pe_op op_divP (pv 7) (pe_int)) (pa_cons (pv 2) (pa_cons (pv 9) (pa_nil)))))) (pa_nil)))) (pe_slice sl_P (pv 4) (po_some (pe_op op_addP (pv 8) (pe_int))) (po_none)))))))) (pss_nil)))) (pss_cons (ps_setLc (i := 10) rfl sc_L_commits.nd rfl rfl (sw_true rfl rfl rfl (by decide +kernel)) (own := [("_law_block", 15)]) (g := gName 15) (tt := tYes) (te := tCB ((rListP K)) (tCons (tMethP "read" [(a.Disk, sp_Disk_read K a)] (WE W0) (tVar 1) (tCons (tVar 15) (tNil))) (tNil))) (pi_range1 (by rfl) T.n_range (pa_cons (pv 2) (pa_nil))) (blkOk_by (N := ["_law_script", "_law_disk", "_law_many", "_law_homes_here", "_law_pairs", "_law_goods", "_law_k", "_law_cell", "_law_at", "_law_ahead", "_law_rows", "_law_due_here", "_law_word_here", "_law_e", "_law_home", "_law_block"]) (sc := defScope s_L_commits) (by decide +kernel)) (fun _ _ _ _ _ => pg_name (i := 15) sc_L_commits.nd rfl (by first | exact Or.inl rfl | exact Or.inr rfl)) (fun _ _ _ _ _ => pts_nil) (fun _ _ _ _ _ => pe_callTy call_listP (by rfl) T.n_list (by decide +kernel) (pa_cons (methE (pv 1) (AltsOk.cons (MethOk.mk' (k := 3) T.c_Disk T.mt_Disk_read G_Disk_read T.b_Disk_read (by decide)) (AltsOk.nil)) takesN hr (by decide) (pa_cons (pv 15) (pa_nil))) (pa_nil)))) (pss_cons (ps_set (i := 11) sc_L_commits.nd rfl (by first | exact Or.inl rfl | exact Or.inr rfl) (callE G_L_due (takesM rfl rfl rfl rfl) hr (by decide) rfl T.g_L_due T.k_L_due T.b_L_due (pa_cons (pv 4) (pa_cons (pv 2) (pa_nil))))) (pss_cons (ps_set (i := 12) sc_L_commits.nd rfl (by first | exact Or.inl rfl | exact Or.inr rfl) (pe_str)) (pss_cons (tryAs (i := 13) sc_L_commits.nd rfl rfl ⟨rfl, by decide, .inl T.g_KeepError⟩ (takesM rfl rfl rfl rfl) (fun W pn xe tk po => pss_one (ps_expr (callE G_commit tk hr (by decide) rfl T.g_commit T.k_commit T.b_commit (pa_cons (pv 1) (pa_cons (pe_callTy call_listP (by rfl) T.n_list (by decide +kernel) (pa_cons (pv 4) (pa_nil))) (pa_nil)))))) (fun e D oe pn hp => pss_one (ps_set (i := 12) sc_L_commits.nd rfl (by first | exact Or.inl rfl | exact Or.inr rfl) (callX Gh_L_word hp takesN (roomS hr) (by decide) rfl T.g_L_word T.k_L_word T.b_L_word (pa_cons (pv 13) (pa_nil)))))) (pss_cons (ps_if (pt_cmpR (op_eqP hr) (pv 11) (pe_str) (by first | exact nomark _ | rfl)) (pss_one (ps_ret (pe_and (pe_cmpR (op_eqP hr) (pv 12) (pe_str) (by first | exact nomark _ | rfl)) (pe_one (pe_cmpR (op_eqP hr) (methE0 (pv 1) (AltsOk.cons (MethOk.mk' (k := 2) T.c_Disk T.mt_Disk_writes G_Disk_writes T.b_Disk_writes (by decide)) (AltsOk.nil)) (takesM rfl rfl rfl rfl) hr (by decide)) (pe_op op_mulP (pe_op op_addP (pe_op op_mulP (pe_int) (pe_callB call_lenP (by rfl) T.n_len (by decide +kernel) (pa_cons (pv 4) (pa_nil)))) (pe_int)) (pe_callTy call_intP (by rfl) T.n_int (by decide +kernel) (pa_cons (pe_cmpR (op_neP hr) (pv 4) (pe_lst (pa_nil)) (by first | exact nomark _ | rfl)) (pa_nil)))) (by first | exact nomark _ | rfl)))))) (pss_nil)) (pss_one (ps_ret (pe_and (pe_cmpR (op_eqP hr) (pv 12) (pv 11) (by first | exact nomark _ | rfl)) (pe_and (pe_cmpR (op_eqP hr) (methE0 (pv 1) (AltsOk.cons (MethOk.mk' (k := 2) T.c_Disk T.mt_Disk_writes G_Disk_writes T.b_Disk_writes (by decide)) (AltsOk.nil)) (takesM rfl rfl rfl rfl) hr (by decide)) (pe_int) (by first | exact nomark _ | rfl)) (pe_one (pe_cmpR (op_eqP hr) (pe_lc (own := [("_law_block", 15)]) (g := gName 15) (tt := tYes) (te := tMethP "read" [(a.Disk, sp_Disk_read K a)] (WE W0) (tVar 1) (tCons (tVar 15) (tNil))) rfl sc_L_commits.nd (pi_range1 (by rfl) T.n_range (pa_cons (pv 2) (pa_nil))) (blkOk_by (N := ["_law_script", "_law_disk", "_law_many", "_law_homes_here", "_law_pairs", "_law_goods", "_law_k", "_law_cell", "_law_at", "_law_ahead", "_law_rows", "_law_due_here", "_law_word_here", "_law_e", "_law_home", "_law_block"]) (sc := defScope s_L_commits) (by decide +kernel)) (fun _ _ _ _ _ => pg_name (i := 15) sc_L_commits.nd rfl (by first | exact Or.inl rfl | exact Or.inr rfl)) (fun _ _ _ _ _ => pts_nil) (fun _ _ _ _ _ => methE (pv 1) (AltsOk.cons (MethOk.mk' (k := 3) T.c_Disk T.mt_Disk_read G_Disk_read T.b_Disk_read (by decide)) (AltsOk.nil)) takesN hr (by decide) (pa_cons (pv 15) (pa_nil)))) (pv 10) (by first | exact nomark _ | rfl))))))))))))))))
theorem sc_law : FnScope ["_law_script", "_law_disk"] ["_law_script"] (defScope s_law) := ⟨rfl, rfl, rfl, by decide +kernel, rfl, by decide +kernel, by decide +kernel⟩
theorem ok_law (T : Tx K mg a b) : FnOk P w K mg base (L2N.CX P w) 9 b.f_law b.fd_law ["_law_script"] (sp_law K a) := by
  have G_Disk_init := ok_Disk_init (P := P) (w := w) (base := base) T
  have G_Disk_blocks := ok_Disk_blocks (P := P) (w := w) (base := base) T
  have G_L_cell_at := ok_L_cell_at (P := P) (w := w) (base := base) T
  have G_L_comes_back := ok_L_comes_back (P := P) (w := w) (base := base) T
  have G_L_commits := ok_L_commits (P := P) (w := w) (base := base) T
  have G_L_head := ok_L_head (P := P) (w := w) (base := base) T
  refine okN (k := 8) (t := t_law K a) T.F_law sc_law (fun cdv A outer s H E hr => ?_)
  exact pss_cons (ps_set (i := 1) sc_law.nd rfl (by first | exact Or.inl rfl | exact Or.inr rfl) (makeE T.m_Disk G_Disk_init (takesM rfl rfl rfl rfl) hr (by decide) rfl T.g_Disk T.b_Disk_init (pa_cons (pe_op op_addP (pe_int) (pe_op op_modP (callE G_L_cell_at (takesM rfl rfl rfl rfl) hr (by decide) rfl T.g_L_cell_at T.k_L_cell_at T.b_L_cell_at (pa_cons (pv 0) (pa_cons (pe_int) (pa_nil)))) (pe_int))) (pa_nil)))) (pss_cons (ps_if (pt_cmpR (op_eqP hr) (pe_op op_modP (callE G_L_cell_at (takesM rfl rfl rfl rfl) hr (by decide) rfl T.g_L_cell_at T.k_L_cell_at T.b_L_cell_at (pa_cons (pv 0) (pa_cons (pe_int) (pa_nil)))) (pe_int)) (pe_int) (by first | exact nomark _ | rfl)) (pss_one (ps_ret (callE G_L_commits (takesM rfl rfl rfl rfl) hr (by decide) rfl T.g_L_commits T.k_L_commits T.b_L_commits (pa_cons (pv 0) (pa_cons (pv 1) (pa_nil)))))) (pss_nil)) (pss_one (ps_ret (callE G_L_comes_back (takesM rfl rfl rfl rfl) hr (by decide) rfl T.g_L_comes_back T.k_L_comes_back T.b_L_comes_back (pa_cons (pv 1) (pa_cons (callE G_L_head (takesM rfl rfl rfl rfl) hr (by decide) rfl T.g_L_head T.k_L_head T.b_L_head (pa_cons (pv 0) (pa_cons (methE0 (pv 1) (AltsOk.cons (MethOk.mk' (k := 2) T.c_Disk T.mt_Disk_blocks G_Disk_blocks T.b_Disk_blocks (by decide)) (AltsOk.nil)) (takesM rfl rfl rfl rfl) hr (by decide)) (pa_nil)))) (pa_nil)))))))
end
theorem all_mk {l : PySem.W.OpenLaw} {w : World} {K : PySem.W.Frag} {h : Heap} {mg : Str → Option Value} {fa : Addr} (X : K.In h) (G : h.Ns mainGlobals mg) (hfa : mg "law" = some (.ref fa))
    {u_WIDE : Tok}
    {u_MOST_WORD : Tok}
    {u_LEAST_BLOCKS : Tok}
    {u_MOST_BLOCKS : Tok}
    {u_LOG_AT : Tok}
    {u_MAPS_AT : Tok}
    {u_MOST_HOMES : Tok}
    {C_Disk : Addr}
    {C_KeepError : Addr}
    {C_BadRow : Addr}
    {C_NoBlock : Addr}
    {C_Stopped : Addr}
    {C_BadDisk : Addr}
    {C_TooMuch : Addr}
    {C_BadLog : Addr}
    {f__wall : Addr} {od__wall an__wall : Option Addr} {sl__wall : Array (Option Value)} {oc__wall kV__wall dc__wall pm__wall cd__wall ct__wall : Value}
    {f_is_word : Addr} {od_is_word an_is_word : Option Addr} {sl_is_word : Array (Option Value)} {oc_is_word kV_is_word dc_is_word pm_is_word cd_is_word ct_is_word : Value}
    {f_is_row : Addr} {od_is_row an_is_row : Option Addr} {sl_is_row : Array (Option Value)} {oc_is_row kV_is_row dc_is_row pm_is_row cd_is_row ct_is_row : Value}
    {f_need_row : Addr} {od_need_row an_need_row : Option Addr} {sl_need_row : Array (Option Value)} {oc_need_row kV_need_row dc_need_row pm_need_row cd_need_row ct_need_row : Value}
    {f_empty_row : Addr} {od_empty_row an_empty_row : Option Addr} {sl_empty_row : Array (Option Value)} {oc_empty_row kV_empty_row dc_empty_row pm_empty_row cd_empty_row ct_empty_row : Value}
    {f_changed : Addr} {od_changed an_changed : Option Addr} {sl_changed : Array (Option Value)} {oc_changed kV_changed dc_changed pm_changed cd_changed ct_changed : Value}
    {f_is_many : Addr} {od_is_many an_is_many : Option Addr} {sl_is_many : Array (Option Value)} {oc_is_many kV_is_many dc_is_many pm_is_many cd_is_many ct_is_many : Value}
    {f_Disk_init : Addr} {od_Disk_init an_Disk_init : Option Addr} {sl_Disk_init : Array (Option Value)} {oc_Disk_init kV_Disk_init dc_Disk_init pm_Disk_init cd_Disk_init ct_Disk_init : Value}
    {f_Disk_blocks : Addr} {od_Disk_blocks an_Disk_blocks : Option Addr} {sl_Disk_blocks : Array (Option Value)} {oc_Disk_blocks kV_Disk_blocks dc_Disk_blocks pm_Disk_blocks cd_Disk_blocks ct_Disk_blocks : Value}
    {f_Disk_need : Addr} {od_Disk_need an_Disk_need : Option Addr} {sl_Disk_need : Array (Option Value)} {oc_Disk_need kV_Disk_need dc_Disk_need pm_Disk_need cd_Disk_need ct_Disk_need : Value}
    {f_Disk_read : Addr} {od_Disk_read an_Disk_read : Option Addr} {sl_Disk_read : Array (Option Value)} {oc_Disk_read kV_Disk_read dc_Disk_read pm_Disk_read cd_Disk_read ct_Disk_read : Value}
    {f_Disk_write : Addr} {od_Disk_write an_Disk_write : Option Addr} {sl_Disk_write : Array (Option Value)} {oc_Disk_write kV_Disk_write dc_Disk_write pm_Disk_write cd_Disk_write ct_Disk_write : Value}
    {f_Disk_writes : Addr} {od_Disk_writes an_Disk_writes : Option Addr} {sl_Disk_writes : Array (Option Value)} {oc_Disk_writes kV_Disk_writes dc_Disk_writes pm_Disk_writes cd_Disk_writes ct_Disk_writes : Value}
    {f_Disk_stop_after : Addr} {od_Disk_stop_after an_Disk_stop_after : Option Addr} {sl_Disk_stop_after : Array (Option Value)} {oc_Disk_stop_after kV_Disk_stop_after dc_Disk_stop_after pm_Disk_stop_after cd_Disk_stop_after ct_Disk_stop_after : Value}
    {f_Disk_go_on : Addr} {od_Disk_go_on an_Disk_go_on : Option Addr} {sl_Disk_go_on : Array (Option Value)} {oc_Disk_go_on kV_Disk_go_on dc_Disk_go_on pm_Disk_go_on cd_Disk_go_on ct_Disk_go_on : Value}
    {f_Disk_twin : Addr} {od_Disk_twin an_Disk_twin : Option Addr} {sl_Disk_twin : Array (Option Value)} {oc_Disk_twin kV_Disk_twin dc_Disk_twin pm_Disk_twin cd_Disk_twin ct_Disk_twin : Value}
    {f_is_home : Addr} {od_is_home an_is_home : Option Addr} {sl_is_home : Array (Option Value)} {oc_is_home kV_is_home dc_is_home pm_is_home cd_is_home ct_is_home : Value}
    {f_need_pairs : Addr} {od_need_pairs an_need_pairs : Option Addr} {sl_need_pairs : Array (Option Value)} {oc_need_pairs kV_need_pairs dc_need_pairs pm_need_pairs cd_need_pairs ct_need_pairs : Value}
    {f_carry_home : Addr} {od_carry_home an_carry_home : Option Addr} {sl_carry_home : Array (Option Value)} {oc_carry_home kV_carry_home dc_carry_home pm_carry_home cd_carry_home ct_carry_home : Value}
    {f_commit : Addr} {od_commit an_commit : Option Addr} {sl_commit : Array (Option Value)} {oc_commit kV_commit dc_commit pm_commit cd_commit ct_commit : Value}
    {f_homes_told : Addr} {od_homes_told an_homes_told : Option Addr} {sl_homes_told : Array (Option Value)} {oc_homes_told kV_homes_told dc_homes_told pm_homes_told cd_homes_told ct_homes_told : Value}
    {f_come_back : Addr} {od_come_back an_come_back : Option Addr} {sl_come_back : Array (Option Value)} {oc_come_back kV_come_back dc_come_back pm_come_back cd_come_back ct_come_back : Value}
    {f_L_cell_at : Addr} {od_L_cell_at an_L_cell_at : Option Addr} {sl_L_cell_at : Array (Option Value)} {oc_L_cell_at kV_L_cell_at dc_L_cell_at pm_L_cell_at cd_L_cell_at ct_L_cell_at : Value}
    {f_L_row : Addr} {od_L_row an_L_row : Option Addr} {sl_L_row : Array (Option Value)} {oc_L_row kV_L_row dc_L_row pm_L_row cd_L_row ct_L_row : Value}
    {f_L_word : Addr} {od_L_word an_L_word : Option Addr} {sl_L_word : Array (Option Value)} {oc_L_word kV_L_word dc_L_word pm_L_word cd_L_word ct_L_word : Value}
    {f_L_homes : Addr} {od_L_homes an_L_homes : Option Addr} {sl_L_homes : Array (Option Value)} {oc_L_homes kV_L_homes dc_L_homes pm_L_homes cd_L_homes ct_L_homes : Value}
    {f_L_head : Addr} {od_L_head an_L_head : Option Addr} {sl_L_head : Array (Option Value)} {oc_L_head kV_L_head dc_L_head pm_L_head cd_L_head ct_L_head : Value}
    {f_L_is_right : Addr} {od_L_is_right an_L_is_right : Option Addr} {sl_L_is_right : Array (Option Value)} {oc_L_is_right kV_L_is_right dc_L_is_right pm_L_is_right cd_L_is_right ct_L_is_right : Value}
    {f_L_comes_back : Addr} {od_L_comes_back an_L_comes_back : Option Addr} {sl_L_comes_back : Array (Option Value)} {oc_L_comes_back kV_L_comes_back dc_L_comes_back pm_L_comes_back cd_L_comes_back ct_L_comes_back : Value}
    {f_L_odd_pair : Addr} {od_L_odd_pair an_L_odd_pair : Option Addr} {sl_L_odd_pair : Array (Option Value)} {oc_L_odd_pair kV_L_odd_pair dc_L_odd_pair pm_L_odd_pair cd_L_odd_pair ct_L_odd_pair : Value}
    {f_L_is_number : Addr} {od_L_is_number an_L_is_number : Option Addr} {sl_L_is_number : Array (Option Value)} {oc_L_is_number kV_L_is_number dc_L_is_number pm_L_is_number cd_L_is_number ct_L_is_number : Value}
    {f_L_due : Addr} {od_L_due an_L_due : Option Addr} {sl_L_due : Array (Option Value)} {oc_L_due kV_L_due dc_L_due pm_L_due cd_L_due ct_L_due : Value}
    {f_L_commits : Addr} {od_L_commits an_L_commits : Option Addr} {sl_L_commits : Array (Option Value)} {oc_L_commits kV_L_commits dc_L_commits pm_L_commits cd_L_commits ct_L_commits : Value}
    {f_law : Addr} {od_law an_law : Option Addr} {sl_law : Array (Option Value)} {oc_law kV_law dc_law pm_law cd_law ct_law : Value}
    (a_WIDE : PySem.W.nsIn K mainGlobals "WIDE" = some (some (.int 16 u_WIDE)))
    (a_MOST_WORD : PySem.W.nsIn K mainGlobals "MOST_WORD" = some (some (.int 999999999 u_MOST_WORD)))
    (a_LEAST_BLOCKS : PySem.W.nsIn K mainGlobals "LEAST_BLOCKS" = some (some (.int 24 u_LEAST_BLOCKS)))
    (a_MOST_BLOCKS : PySem.W.nsIn K mainGlobals "MOST_BLOCKS" = some (some (.int 96 u_MOST_BLOCKS)))
    (a_LOG_AT : PySem.W.nsIn K mainGlobals "LOG_AT" = some (some (.int 1 u_LOG_AT)))
    (a_MAPS_AT : PySem.W.nsIn K mainGlobals "MAPS_AT" = some (some (.int 17 u_MAPS_AT)))
    (a_MOST_HOMES : PySem.W.nsIn K mainGlobals "MOST_HOMES" = some (some (.int 15 u_MOST_HOMES)))
    (z_ValueError : PySem.W.nsIn K mainGlobals "ValueError" = some none)
    (z_all : PySem.W.nsIn K mainGlobals "all" = some none)
    (z_bool : PySem.W.nsIn K mainGlobals "bool" = some none)
    (z_enumerate : PySem.W.nsIn K mainGlobals "enumerate" = some none)
    (z_int : PySem.W.nsIn K mainGlobals "int" = some none)
    (z_isinstance : PySem.W.nsIn K mainGlobals "isinstance" = some none)
    (z_len : PySem.W.nsIn K mainGlobals "len" = some none)
    (z_list : PySem.W.nsIn K mainGlobals "list" = some none)
    (z_max : PySem.W.nsIn K mainGlobals "max" = some none)
    (z_range : PySem.W.nsIn K mainGlobals "range" = some none)
    (z_sorted : PySem.W.nsIn K mainGlobals "sorted" = some none)
    (z_tuple : PySem.W.nsIn K mainGlobals "tuple" = some none)
    (a_Disk : PySem.W.nsIn K mainGlobals "Disk" = some (some (.ref C_Disk)))
    (a_KeepError : PySem.W.nsIn K mainGlobals "KeepError" = some (some (.ref C_KeepError)))
    (a_BadRow : PySem.W.nsIn K mainGlobals "BadRow" = some (some (.ref C_BadRow)))
    (a_NoBlock : PySem.W.nsIn K mainGlobals "NoBlock" = some (some (.ref C_NoBlock)))
    (a_Stopped : PySem.W.nsIn K mainGlobals "Stopped" = some (some (.ref C_Stopped)))
    (a_BadDisk : PySem.W.nsIn K mainGlobals "BadDisk" = some (some (.ref C_BadDisk)))
    (a_TooMuch : PySem.W.nsIn K mainGlobals "TooMuch" = some (some (.ref C_TooMuch)))
    (a_BadLog : PySem.W.nsIn K mainGlobals "BadLog" = some (some (.ref C_BadLog)))
    (a__wall : PySem.W.nsIn K mainGlobals "_wall" = some (some (.ref f__wall)))
    (l__wall : K.lookup f__wall = some ⟨oc__wall, od__wall, .func (PySem.W.fnOf "_wall" "_wall" (defArgs s__wall) (defBody s__wall) (defScope s__wall) .none kV__wall dc__wall pm__wall an__wall cd__wall ct__wall), sl__wall⟩)
    (c__wall : PySem.W.codeIn K cd__wall "_wall" = true)
    (k__wall : PySem.W.keepIn K (.ref f__wall) = true)
    (a_is_word : PySem.W.nsIn K mainGlobals "is_word" = some (some (.ref f_is_word)))
    (l_is_word : K.lookup f_is_word = some ⟨oc_is_word, od_is_word, .func (PySem.W.fnOf "is_word" "is_word" (defArgs s_is_word) (defBody s_is_word) (defScope s_is_word) .none kV_is_word dc_is_word pm_is_word an_is_word cd_is_word ct_is_word), sl_is_word⟩)
    (c_is_word : PySem.W.codeIn K cd_is_word "is_word" = true)
    (k_is_word : PySem.W.keepIn K (.ref f_is_word) = true)
    (a_is_row : PySem.W.nsIn K mainGlobals "is_row" = some (some (.ref f_is_row)))
    (l_is_row : K.lookup f_is_row = some ⟨oc_is_row, od_is_row, .func (PySem.W.fnOf "is_row" "is_row" (defArgs s_is_row) (defBody s_is_row) (defScope s_is_row) .none kV_is_row dc_is_row pm_is_row an_is_row cd_is_row ct_is_row), sl_is_row⟩)
    (c_is_row : PySem.W.codeIn K cd_is_row "is_row" = true)
    (k_is_row : PySem.W.keepIn K (.ref f_is_row) = true)
    (a_need_row : PySem.W.nsIn K mainGlobals "need_row" = some (some (.ref f_need_row)))
    (l_need_row : K.lookup f_need_row = some ⟨oc_need_row, od_need_row, .func (PySem.W.fnOf "need_row" "need_row" (defArgs s_need_row) (defBody s_need_row) (defScope s_need_row) .none kV_need_row dc_need_row pm_need_row an_need_row cd_need_row ct_need_row), sl_need_row⟩)
    (c_need_row : PySem.W.codeIn K cd_need_row "need_row" = true)
    (k_need_row : PySem.W.keepIn K (.ref f_need_row) = true)
    (a_empty_row : PySem.W.nsIn K mainGlobals "empty_row" = some (some (.ref f_empty_row)))
    (l_empty_row : K.lookup f_empty_row = some ⟨oc_empty_row, od_empty_row, .func (PySem.W.fnOf "empty_row" "empty_row" (defArgs s_empty_row) (defBody s_empty_row) (defScope s_empty_row) .none kV_empty_row dc_empty_row pm_empty_row an_empty_row cd_empty_row ct_empty_row), sl_empty_row⟩)
    (c_empty_row : PySem.W.codeIn K cd_empty_row "empty_row" = true)
    (k_empty_row : PySem.W.keepIn K (.ref f_empty_row) = true)
    (a_changed : PySem.W.nsIn K mainGlobals "changed" = some (some (.ref f_changed)))
    (l_changed : K.lookup f_changed = some ⟨oc_changed, od_changed, .func (PySem.W.fnOf "changed" "changed" (defArgs s_changed) (defBody s_changed) (defScope s_changed) .none kV_changed dc_changed pm_changed an_changed cd_changed ct_changed), sl_changed⟩)
    (c_changed : PySem.W.codeIn K cd_changed "changed" = true)
    (k_changed : PySem.W.keepIn K (.ref f_changed) = true)
    (a_is_many : PySem.W.nsIn K mainGlobals "is_many" = some (some (.ref f_is_many)))
    (l_is_many : K.lookup f_is_many = some ⟨oc_is_many, od_is_many, .func (PySem.W.fnOf "is_many" "is_many" (defArgs s_is_many) (defBody s_is_many) (defScope s_is_many) .none kV_is_many dc_is_many pm_is_many an_is_many cd_is_many ct_is_many), sl_is_many⟩)
    (c_is_many : PySem.W.codeIn K cd_is_many "is_many" = true)
    (k_is_many : PySem.W.keepIn K (.ref f_is_many) = true)
    (a_Disk_init : PySem.W.findIn K (.ref C_Disk) "__init__" = some (some (.ref f_Disk_init)))
    (i_Disk_init : PySem.W.isFn K (.ref f_Disk_init) = true)
    (l_Disk_init : K.lookup f_Disk_init = some ⟨oc_Disk_init, od_Disk_init, .func (PySem.W.fnOf "__init__" "Disk.__init__" (defArgs s_Disk_init) (defBody s_Disk_init) (defScope s_Disk_init) .none kV_Disk_init dc_Disk_init pm_Disk_init an_Disk_init cd_Disk_init ct_Disk_init), sl_Disk_init⟩)
    (c_Disk_init : PySem.W.codeIn K cd_Disk_init "Disk.__init__" = true)
    (k_Disk_init : PySem.W.keepIn K (.ref f_Disk_init) = true)
    (a_Disk_blocks : PySem.W.findIn K (.ref C_Disk) "blocks" = some (some (.ref f_Disk_blocks)))
    (i_Disk_blocks : PySem.W.isFn K (.ref f_Disk_blocks) = true)
    (l_Disk_blocks : K.lookup f_Disk_blocks = some ⟨oc_Disk_blocks, od_Disk_blocks, .func (PySem.W.fnOf "blocks" "Disk.blocks" (defArgs s_Disk_blocks) (defBody s_Disk_blocks) (defScope s_Disk_blocks) .none kV_Disk_blocks dc_Disk_blocks pm_Disk_blocks an_Disk_blocks cd_Disk_blocks ct_Disk_blocks), sl_Disk_blocks⟩)
    (c_Disk_blocks : PySem.W.codeIn K cd_Disk_blocks "Disk.blocks" = true)
    (k_Disk_blocks : PySem.W.keepIn K (.ref f_Disk_blocks) = true)
    (a_Disk_need : PySem.W.findIn K (.ref C_Disk) "need" = some (some (.ref f_Disk_need)))
    (i_Disk_need : PySem.W.isFn K (.ref f_Disk_need) = true)
    (l_Disk_need : K.lookup f_Disk_need = some ⟨oc_Disk_need, od_Disk_need, .func (PySem.W.fnOf "need" "Disk.need" (defArgs s_Disk_need) (defBody s_Disk_need) (defScope s_Disk_need) .none kV_Disk_need dc_Disk_need pm_Disk_need an_Disk_need cd_Disk_need ct_Disk_need), sl_Disk_need⟩)
    (c_Disk_need : PySem.W.codeIn K cd_Disk_need "Disk.need" = true)
    (k_Disk_need : PySem.W.keepIn K (.ref f_Disk_need) = true)
    (a_Disk_read : PySem.W.findIn K (.ref C_Disk) "read" = some (some (.ref f_Disk_read)))
    (i_Disk_read : PySem.W.isFn K (.ref f_Disk_read) = true)
    (l_Disk_read : K.lookup f_Disk_read = some ⟨oc_Disk_read, od_Disk_read, .func (PySem.W.fnOf "read" "Disk.read" (defArgs s_Disk_read) (defBody s_Disk_read) (defScope s_Disk_read) .none kV_Disk_read dc_Disk_read pm_Disk_read an_Disk_read cd_Disk_read ct_Disk_read), sl_Disk_read⟩)
    (c_Disk_read : PySem.W.codeIn K cd_Disk_read "Disk.read" = true)
    (k_Disk_read : PySem.W.keepIn K (.ref f_Disk_read) = true)
    (a_Disk_write : PySem.W.findIn K (.ref C_Disk) "write" = some (some (.ref f_Disk_write)))
    (i_Disk_write : PySem.W.isFn K (.ref f_Disk_write) = true)
    (l_Disk_write : K.lookup f_Disk_write = some ⟨oc_Disk_write, od_Disk_write, .func (PySem.W.fnOf "write" "Disk.write" (defArgs s_Disk_write) (defBody s_Disk_write) (defScope s_Disk_write) .none kV_Disk_write dc_Disk_write pm_Disk_write an_Disk_write cd_Disk_write ct_Disk_write), sl_Disk_write⟩)
    (c_Disk_write : PySem.W.codeIn K cd_Disk_write "Disk.write" = true)
    (k_Disk_write : PySem.W.keepIn K (.ref f_Disk_write) = true)
    (a_Disk_writes : PySem.W.findIn K (.ref C_Disk) "writes" = some (some (.ref f_Disk_writes)))
    (i_Disk_writes : PySem.W.isFn K (.ref f_Disk_writes) = true)
    (l_Disk_writes : K.lookup f_Disk_writes = some ⟨oc_Disk_writes, od_Disk_writes, .func (PySem.W.fnOf "writes" "Disk.writes" (defArgs s_Disk_writes) (defBody s_Disk_writes) (defScope s_Disk_writes) .none kV_Disk_writes dc_Disk_writes pm_Disk_writes an_Disk_writes cd_Disk_writes ct_Disk_writes), sl_Disk_writes⟩)
    (c_Disk_writes : PySem.W.codeIn K cd_Disk_writes "Disk.writes" = true)
    (k_Disk_writes : PySem.W.keepIn K (.ref f_Disk_writes) = true)
    (a_Disk_stop_after : PySem.W.findIn K (.ref C_Disk) "stop_after" = some (some (.ref f_Disk_stop_after)))
    (i_Disk_stop_after : PySem.W.isFn K (.ref f_Disk_stop_after) = true)
    (l_Disk_stop_after : K.lookup f_Disk_stop_after = some ⟨oc_Disk_stop_after, od_Disk_stop_after, .func (PySem.W.fnOf "stop_after" "Disk.stop_after" (defArgs s_Disk_stop_after) (defBody s_Disk_stop_after) (defScope s_Disk_stop_after) .none kV_Disk_stop_after dc_Disk_stop_after pm_Disk_stop_after an_Disk_stop_after cd_Disk_stop_after ct_Disk_stop_after), sl_Disk_stop_after⟩)
    (c_Disk_stop_after : PySem.W.codeIn K cd_Disk_stop_after "Disk.stop_after" = true)
    (k_Disk_stop_after : PySem.W.keepIn K (.ref f_Disk_stop_after) = true)
    (a_Disk_go_on : PySem.W.findIn K (.ref C_Disk) "go_on" = some (some (.ref f_Disk_go_on)))
    (i_Disk_go_on : PySem.W.isFn K (.ref f_Disk_go_on) = true)
    (l_Disk_go_on : K.lookup f_Disk_go_on = some ⟨oc_Disk_go_on, od_Disk_go_on, .func (PySem.W.fnOf "go_on" "Disk.go_on" (defArgs s_Disk_go_on) (defBody s_Disk_go_on) (defScope s_Disk_go_on) .none kV_Disk_go_on dc_Disk_go_on pm_Disk_go_on an_Disk_go_on cd_Disk_go_on ct_Disk_go_on), sl_Disk_go_on⟩)
    (c_Disk_go_on : PySem.W.codeIn K cd_Disk_go_on "Disk.go_on" = true)
    (k_Disk_go_on : PySem.W.keepIn K (.ref f_Disk_go_on) = true)
    (a_Disk_twin : PySem.W.findIn K (.ref C_Disk) "twin" = some (some (.ref f_Disk_twin)))
    (i_Disk_twin : PySem.W.isFn K (.ref f_Disk_twin) = true)
    (l_Disk_twin : K.lookup f_Disk_twin = some ⟨oc_Disk_twin, od_Disk_twin, .func (PySem.W.fnOf "twin" "Disk.twin" (defArgs s_Disk_twin) (defBody s_Disk_twin) (defScope s_Disk_twin) .none kV_Disk_twin dc_Disk_twin pm_Disk_twin an_Disk_twin cd_Disk_twin ct_Disk_twin), sl_Disk_twin⟩)
    (c_Disk_twin : PySem.W.codeIn K cd_Disk_twin "Disk.twin" = true)
    (k_Disk_twin : PySem.W.keepIn K (.ref f_Disk_twin) = true)
    (a_is_home : PySem.W.nsIn K mainGlobals "is_home" = some (some (.ref f_is_home)))
    (l_is_home : K.lookup f_is_home = some ⟨oc_is_home, od_is_home, .func (PySem.W.fnOf "is_home" "is_home" (defArgs s_is_home) (defBody s_is_home) (defScope s_is_home) .none kV_is_home dc_is_home pm_is_home an_is_home cd_is_home ct_is_home), sl_is_home⟩)
    (c_is_home : PySem.W.codeIn K cd_is_home "is_home" = true)
    (k_is_home : PySem.W.keepIn K (.ref f_is_home) = true)
    (a_need_pairs : PySem.W.nsIn K mainGlobals "need_pairs" = some (some (.ref f_need_pairs)))
    (l_need_pairs : K.lookup f_need_pairs = some ⟨oc_need_pairs, od_need_pairs, .func (PySem.W.fnOf "need_pairs" "need_pairs" (defArgs s_need_pairs) (defBody s_need_pairs) (defScope s_need_pairs) .none kV_need_pairs dc_need_pairs pm_need_pairs an_need_pairs cd_need_pairs ct_need_pairs), sl_need_pairs⟩)
    (c_need_pairs : PySem.W.codeIn K cd_need_pairs "need_pairs" = true)
    (k_need_pairs : PySem.W.keepIn K (.ref f_need_pairs) = true)
    (a_carry_home : PySem.W.nsIn K mainGlobals "carry_home" = some (some (.ref f_carry_home)))
    (l_carry_home : K.lookup f_carry_home = some ⟨oc_carry_home, od_carry_home, .func (PySem.W.fnOf "carry_home" "carry_home" (defArgs s_carry_home) (defBody s_carry_home) (defScope s_carry_home) .none kV_carry_home dc_carry_home pm_carry_home an_carry_home cd_carry_home ct_carry_home), sl_carry_home⟩)
    (c_carry_home : PySem.W.codeIn K cd_carry_home "carry_home" = true)
    (k_carry_home : PySem.W.keepIn K (.ref f_carry_home) = true)
    (a_commit : PySem.W.nsIn K mainGlobals "commit" = some (some (.ref f_commit)))
    (l_commit : K.lookup f_commit = some ⟨oc_commit, od_commit, .func (PySem.W.fnOf "commit" "commit" (defArgs s_commit) (defBody s_commit) (defScope s_commit) .none kV_commit dc_commit pm_commit an_commit cd_commit ct_commit), sl_commit⟩)
    (c_commit : PySem.W.codeIn K cd_commit "commit" = true)
    (k_commit : PySem.W.keepIn K (.ref f_commit) = true)
    (a_homes_told : PySem.W.nsIn K mainGlobals "homes_told" = some (some (.ref f_homes_told)))
    (l_homes_told : K.lookup f_homes_told = some ⟨oc_homes_told, od_homes_told, .func (PySem.W.fnOf "homes_told" "homes_told" (defArgs s_homes_told) (defBody s_homes_told) (defScope s_homes_told) .none kV_homes_told dc_homes_told pm_homes_told an_homes_told cd_homes_told ct_homes_told), sl_homes_told⟩)
    (c_homes_told : PySem.W.codeIn K cd_homes_told "homes_told" = true)
    (k_homes_told : PySem.W.keepIn K (.ref f_homes_told) = true)
    (a_come_back : PySem.W.nsIn K mainGlobals "come_back" = some (some (.ref f_come_back)))
    (l_come_back : K.lookup f_come_back = some ⟨oc_come_back, od_come_back, .func (PySem.W.fnOf "come_back" "come_back" (defArgs s_come_back) (defBody s_come_back) (defScope s_come_back) .none kV_come_back dc_come_back pm_come_back an_come_back cd_come_back ct_come_back), sl_come_back⟩)
    (c_come_back : PySem.W.codeIn K cd_come_back "come_back" = true)
    (k_come_back : PySem.W.keepIn K (.ref f_come_back) = true)
    (a_L_cell_at : PySem.W.nsIn K mainGlobals "_law_cell_at" = some (some (.ref f_L_cell_at)))
    (l_L_cell_at : K.lookup f_L_cell_at = some ⟨oc_L_cell_at, od_L_cell_at, .func (PySem.W.fnOf "_law_cell_at" "_law_cell_at" (defArgs s_L_cell_at) (defBody s_L_cell_at) (defScope s_L_cell_at) .none kV_L_cell_at dc_L_cell_at pm_L_cell_at an_L_cell_at cd_L_cell_at ct_L_cell_at), sl_L_cell_at⟩)
    (c_L_cell_at : PySem.W.codeIn K cd_L_cell_at "_law_cell_at" = true)
    (k_L_cell_at : PySem.W.keepIn K (.ref f_L_cell_at) = true)
    (a_L_row : PySem.W.nsIn K mainGlobals "_law_row" = some (some (.ref f_L_row)))
    (l_L_row : K.lookup f_L_row = some ⟨oc_L_row, od_L_row, .func (PySem.W.fnOf "_law_row" "_law_row" (defArgs s_L_row) (defBody s_L_row) (defScope s_L_row) .none kV_L_row dc_L_row pm_L_row an_L_row cd_L_row ct_L_row), sl_L_row⟩)
    (c_L_row : PySem.W.codeIn K cd_L_row "_law_row" = true)
    (k_L_row : PySem.W.keepIn K (.ref f_L_row) = true)
    (a_L_word : PySem.W.nsIn K mainGlobals "_law_word" = some (some (.ref f_L_word)))
    (l_L_word : K.lookup f_L_word = some ⟨oc_L_word, od_L_word, .func (PySem.W.fnOf "_law_word" "_law_word" (defArgs s_L_word) (defBody s_L_word) (defScope s_L_word) .none kV_L_word dc_L_word pm_L_word an_L_word cd_L_word ct_L_word), sl_L_word⟩)
    (c_L_word : PySem.W.codeIn K cd_L_word "_law_word" = true)
    (k_L_word : PySem.W.keepIn K (.ref f_L_word) = true)
    (a_L_homes : PySem.W.nsIn K mainGlobals "_law_homes" = some (some (.ref f_L_homes)))
    (l_L_homes : K.lookup f_L_homes = some ⟨oc_L_homes, od_L_homes, .func (PySem.W.fnOf "_law_homes" "_law_homes" (defArgs s_L_homes) (defBody s_L_homes) (defScope s_L_homes) .none kV_L_homes dc_L_homes pm_L_homes an_L_homes cd_L_homes ct_L_homes), sl_L_homes⟩)
    (c_L_homes : PySem.W.codeIn K cd_L_homes "_law_homes" = true)
    (k_L_homes : PySem.W.keepIn K (.ref f_L_homes) = true)
    (a_L_head : PySem.W.nsIn K mainGlobals "_law_head" = some (some (.ref f_L_head)))
    (l_L_head : K.lookup f_L_head = some ⟨oc_L_head, od_L_head, .func (PySem.W.fnOf "_law_head" "_law_head" (defArgs s_L_head) (defBody s_L_head) (defScope s_L_head) .none kV_L_head dc_L_head pm_L_head an_L_head cd_L_head ct_L_head), sl_L_head⟩)
    (c_L_head : PySem.W.codeIn K cd_L_head "_law_head" = true)
    (k_L_head : PySem.W.keepIn K (.ref f_L_head) = true)
    (a_L_is_right : PySem.W.nsIn K mainGlobals "_law_is_right" = some (some (.ref f_L_is_right)))
    (l_L_is_right : K.lookup f_L_is_right = some ⟨oc_L_is_right, od_L_is_right, .func (PySem.W.fnOf "_law_is_right" "_law_is_right" (defArgs s_L_is_right) (defBody s_L_is_right) (defScope s_L_is_right) .none kV_L_is_right dc_L_is_right pm_L_is_right an_L_is_right cd_L_is_right ct_L_is_right), sl_L_is_right⟩)
    (c_L_is_right : PySem.W.codeIn K cd_L_is_right "_law_is_right" = true)
    (k_L_is_right : PySem.W.keepIn K (.ref f_L_is_right) = true)
    (a_L_comes_back : PySem.W.nsIn K mainGlobals "_law_comes_back" = some (some (.ref f_L_comes_back)))
    (l_L_comes_back : K.lookup f_L_comes_back = some ⟨oc_L_comes_back, od_L_comes_back, .func (PySem.W.fnOf "_law_comes_back" "_law_comes_back" (defArgs s_L_comes_back) (defBody s_L_comes_back) (defScope s_L_comes_back) .none kV_L_comes_back dc_L_comes_back pm_L_comes_back an_L_comes_back cd_L_comes_back ct_L_comes_back), sl_L_comes_back⟩)
    (c_L_comes_back : PySem.W.codeIn K cd_L_comes_back "_law_comes_back" = true)
    (k_L_comes_back : PySem.W.keepIn K (.ref f_L_comes_back) = true)
    (a_L_odd_pair : PySem.W.nsIn K mainGlobals "_law_odd_pair" = some (some (.ref f_L_odd_pair)))
    (l_L_odd_pair : K.lookup f_L_odd_pair = some ⟨oc_L_odd_pair, od_L_odd_pair, .func (PySem.W.fnOf "_law_odd_pair" "_law_odd_pair" (defArgs s_L_odd_pair) (defBody s_L_odd_pair) (defScope s_L_odd_pair) .none kV_L_odd_pair dc_L_odd_pair pm_L_odd_pair an_L_odd_pair cd_L_odd_pair ct_L_odd_pair), sl_L_odd_pair⟩)
    (c_L_odd_pair : PySem.W.codeIn K cd_L_odd_pair "_law_odd_pair" = true)
    (k_L_odd_pair : PySem.W.keepIn K (.ref f_L_odd_pair) = true)
    (a_L_is_number : PySem.W.nsIn K mainGlobals "_law_is_number" = some (some (.ref f_L_is_number)))
    (l_L_is_number : K.lookup f_L_is_number = some ⟨oc_L_is_number, od_L_is_number, .func (PySem.W.fnOf "_law_is_number" "_law_is_number" (defArgs s_L_is_number) (defBody s_L_is_number) (defScope s_L_is_number) .none kV_L_is_number dc_L_is_number pm_L_is_number an_L_is_number cd_L_is_number ct_L_is_number), sl_L_is_number⟩)
    (c_L_is_number : PySem.W.codeIn K cd_L_is_number "_law_is_number" = true)
    (k_L_is_number : PySem.W.keepIn K (.ref f_L_is_number) = true)
    (a_L_due : PySem.W.nsIn K mainGlobals "_law_due" = some (some (.ref f_L_due)))
    (l_L_due : K.lookup f_L_due = some ⟨oc_L_due, od_L_due, .func (PySem.W.fnOf "_law_due" "_law_due" (defArgs s_L_due) (defBody s_L_due) (defScope s_L_due) .none kV_L_due dc_L_due pm_L_due an_L_due cd_L_due ct_L_due), sl_L_due⟩)
    (c_L_due : PySem.W.codeIn K cd_L_due "_law_due" = true)
    (k_L_due : PySem.W.keepIn K (.ref f_L_due) = true)
    (a_L_commits : PySem.W.nsIn K mainGlobals "_law_commits" = some (some (.ref f_L_commits)))
    (l_L_commits : K.lookup f_L_commits = some ⟨oc_L_commits, od_L_commits, .func (PySem.W.fnOf "_law_commits" "_law_commits" (defArgs s_L_commits) (defBody s_L_commits) (defScope s_L_commits) .none kV_L_commits dc_L_commits pm_L_commits an_L_commits cd_L_commits ct_L_commits), sl_L_commits⟩)
    (c_L_commits : PySem.W.codeIn K cd_L_commits "_law_commits" = true)
    (k_L_commits : PySem.W.keepIn K (.ref f_L_commits) = true)
    (a_law : PySem.W.nsIn K mainGlobals "law" = some (some (.ref f_law)))
    (l_law : K.lookup f_law = some ⟨oc_law, od_law, .func (PySem.W.fnOf "law" "law" (defArgs s_law) (defBody s_law) (defScope s_law) .none kV_law dc_law pm_law an_law cd_law ct_law), sl_law⟩)
    (c_law : PySem.W.codeIn K cd_law "law" = true)
    (k_law : PySem.W.keepIn K (.ref f_law) = true)
    (pg_Disk : PySem.W.plainGet K C_Disk Str.empty = true)
    (hd_Disk : PySem.W.hasDictIn K C_Disk = true)
    (po_Disk : PySem.W.plainOver K C_Disk = true)
    (sa_Disk : PySem.W.findIn K (.ref C_Disk) "__setattr__" = some (some (.builtin "object.__setattr__")))
    (mk_Disk : PySem.W.makesIn K C_Disk = true)
    (kc_Disk : PySem.W.keepIn K (.ref C_Disk) = true)
    (na_Disk_done : PySem.W.findIn K (.ref C_Disk) "done" = some none)
    (na_Disk_left : PySem.W.findIn K (.ref C_Disk) "left" = some none)
    (na_Disk_rows : PySem.W.findIn K (.ref C_Disk) "rows" = some none)
    (xq_KeepError : PySem.W.excIn K C_KeepError [.type "ValueError", .type "Exception", .type "BaseException", .type "object"] "ValueError.__new__" = true)
    (xk_KeepError : PySem.W.keepIn K (.ref C_KeepError) = true)
    (xs_KeepError : PySem.W.subIn K (.ref C_KeepError) (.type "BaseException") = some true)
    (xt_KeepError : PySem.W.typeIn K (.ref C_KeepError) = some (.type "type"))
    (xq_BadRow : PySem.W.excIn K C_BadRow [.type "ValueError", .type "Exception", .type "BaseException", .type "object"] "ValueError.__new__" = true)
    (xk_BadRow : PySem.W.keepIn K (.ref C_BadRow) = true)
    (xs_BadRow : PySem.W.subIn K (.ref C_BadRow) (.type "BaseException") = some true)
    (xt_BadRow : PySem.W.typeIn K (.ref C_BadRow) = some (.type "type"))
    (xq_NoBlock : PySem.W.excIn K C_NoBlock [.type "ValueError", .type "Exception", .type "BaseException", .type "object"] "ValueError.__new__" = true)
    (xk_NoBlock : PySem.W.keepIn K (.ref C_NoBlock) = true)
    (xs_NoBlock : PySem.W.subIn K (.ref C_NoBlock) (.type "BaseException") = some true)
    (xt_NoBlock : PySem.W.typeIn K (.ref C_NoBlock) = some (.type "type"))
    (xq_Stopped : PySem.W.excIn K C_Stopped [.type "ValueError", .type "Exception", .type "BaseException", .type "object"] "ValueError.__new__" = true)
    (xk_Stopped : PySem.W.keepIn K (.ref C_Stopped) = true)
    (xs_Stopped : PySem.W.subIn K (.ref C_Stopped) (.type "BaseException") = some true)
    (xt_Stopped : PySem.W.typeIn K (.ref C_Stopped) = some (.type "type"))
    (xq_BadDisk : PySem.W.excIn K C_BadDisk [.type "ValueError", .type "Exception", .type "BaseException", .type "object"] "ValueError.__new__" = true)
    (xk_BadDisk : PySem.W.keepIn K (.ref C_BadDisk) = true)
    (xs_BadDisk : PySem.W.subIn K (.ref C_BadDisk) (.type "BaseException") = some true)
    (xt_BadDisk : PySem.W.typeIn K (.ref C_BadDisk) = some (.type "type"))
    (xq_TooMuch : PySem.W.excIn K C_TooMuch [.type "ValueError", .type "Exception", .type "BaseException", .type "object"] "ValueError.__new__" = true)
    (xk_TooMuch : PySem.W.keepIn K (.ref C_TooMuch) = true)
    (xs_TooMuch : PySem.W.subIn K (.ref C_TooMuch) (.type "BaseException") = some true)
    (xt_TooMuch : PySem.W.typeIn K (.ref C_TooMuch) = some (.type "type"))
    (xq_BadLog : PySem.W.excIn K C_BadLog [.type "ValueError", .type "Exception", .type "BaseException", .type "object"] "ValueError.__new__" = true)
    (xk_BadLog : PySem.W.keepIn K (.ref C_BadLog) = true)
    (xs_BadLog : PySem.W.subIn K (.ref C_BadLog) (.type "BaseException") = some true)
    (xt_BadLog : PySem.W.typeIn K (.ref C_BadLog) = some (.type "type"))
    (xc_hg_BadDisk : PySem.W.findIn K (.ref C_BadDisk) "__getattribute__" = some (some (.builtin "BaseException.__getattribute__")))
    (xc_hk_BadDisk : PySem.W.findIn K (.ref C_BadDisk) "__getattr__" = some none)
    (xc_hd_BadDisk : PySem.W.hasDictIn K C_BadDisk = true)
    (xc_ha_BadDisk : PySem.W.findIn K (.ref C_BadDisk) "__class__" = some (some (.builtin "object.__class__")))
    (xc_hm_BadDisk : PySem.W.mroIn K C_BadDisk (.type "object") = some true)
    (xc_hg_BadLog : PySem.W.findIn K (.ref C_BadLog) "__getattribute__" = some (some (.builtin "BaseException.__getattribute__")))
    (xc_hk_BadLog : PySem.W.findIn K (.ref C_BadLog) "__getattr__" = some none)
    (xc_hd_BadLog : PySem.W.hasDictIn K C_BadLog = true)
    (xc_ha_BadLog : PySem.W.findIn K (.ref C_BadLog) "__class__" = some (some (.builtin "object.__class__")))
    (xc_hm_BadLog : PySem.W.mroIn K C_BadLog (.type "object") = some true)
    (xc_hg_BadRow : PySem.W.findIn K (.ref C_BadRow) "__getattribute__" = some (some (.builtin "BaseException.__getattribute__")))
    (xc_hk_BadRow : PySem.W.findIn K (.ref C_BadRow) "__getattr__" = some none)
    (xc_hd_BadRow : PySem.W.hasDictIn K C_BadRow = true)
    (xc_ha_BadRow : PySem.W.findIn K (.ref C_BadRow) "__class__" = some (some (.builtin "object.__class__")))
    (xc_hm_BadRow : PySem.W.mroIn K C_BadRow (.type "object") = some true)
    (xc_hg_NoBlock : PySem.W.findIn K (.ref C_NoBlock) "__getattribute__" = some (some (.builtin "BaseException.__getattribute__")))
    (xc_hk_NoBlock : PySem.W.findIn K (.ref C_NoBlock) "__getattr__" = some none)
    (xc_hd_NoBlock : PySem.W.hasDictIn K C_NoBlock = true)
    (xc_ha_NoBlock : PySem.W.findIn K (.ref C_NoBlock) "__class__" = some (some (.builtin "object.__class__")))
    (xc_hm_NoBlock : PySem.W.mroIn K C_NoBlock (.type "object") = some true)
    (xc_hg_Stopped : PySem.W.findIn K (.ref C_Stopped) "__getattribute__" = some (some (.builtin "BaseException.__getattribute__")))
    (xc_hk_Stopped : PySem.W.findIn K (.ref C_Stopped) "__getattr__" = some none)
    (xc_hd_Stopped : PySem.W.hasDictIn K C_Stopped = true)
    (xc_ha_Stopped : PySem.W.findIn K (.ref C_Stopped) "__class__" = some (some (.builtin "object.__class__")))
    (xc_hm_Stopped : PySem.W.mroIn K C_Stopped (.type "object") = some true)
    (xc_hg_TooMuch : PySem.W.findIn K (.ref C_TooMuch) "__getattribute__" = some (some (.builtin "BaseException.__getattribute__")))
    (xc_hk_TooMuch : PySem.W.findIn K (.ref C_TooMuch) "__getattr__" = some none)
    (xc_hd_TooMuch : PySem.W.hasDictIn K C_TooMuch = true)
    (xc_ha_TooMuch : PySem.W.findIn K (.ref C_TooMuch) "__class__" = some (some (.builtin "object.__class__")))
    (xc_hm_TooMuch : PySem.W.mroIn K C_TooMuch (.type "object") = some true)
    (ic_BadDisk : PySem.W.isClsIn K C_BadDisk = true)
    (ic_BadLog : PySem.W.isClsIn K C_BadLog = true)
    (ic_BadRow : PySem.W.isClsIn K C_BadRow = true)
    (ic_KeepError : PySem.W.isClsIn K C_KeepError = true)
    (ic_NoBlock : PySem.W.isClsIn K C_NoBlock = true)
    (ic_Stopped : PySem.W.isClsIn K C_Stopped = true)
    (ic_TooMuch : PySem.W.isClsIn K C_TooMuch = true)
    (su_BadDisk_BadDisk : PySem.W.subIn K (.ref C_BadDisk) (.ref C_BadDisk) = some true)
    (su_BadDisk_BadLog : PySem.W.subIn K (.ref C_BadDisk) (.ref C_BadLog) = some false)
    (su_BadDisk_BadRow : PySem.W.subIn K (.ref C_BadDisk) (.ref C_BadRow) = some false)
    (su_BadDisk_KeepError : PySem.W.subIn K (.ref C_BadDisk) (.ref C_KeepError) = some true)
    (su_BadDisk_NoBlock : PySem.W.subIn K (.ref C_BadDisk) (.ref C_NoBlock) = some false)
    (su_BadDisk_Stopped : PySem.W.subIn K (.ref C_BadDisk) (.ref C_Stopped) = some false)
    (su_BadDisk_TooMuch : PySem.W.subIn K (.ref C_BadDisk) (.ref C_TooMuch) = some false)
    (su_BadLog_BadDisk : PySem.W.subIn K (.ref C_BadLog) (.ref C_BadDisk) = some false)
    (su_BadLog_BadLog : PySem.W.subIn K (.ref C_BadLog) (.ref C_BadLog) = some true)
    (su_BadLog_BadRow : PySem.W.subIn K (.ref C_BadLog) (.ref C_BadRow) = some false)
    (su_BadLog_KeepError : PySem.W.subIn K (.ref C_BadLog) (.ref C_KeepError) = some true)
    (su_BadLog_NoBlock : PySem.W.subIn K (.ref C_BadLog) (.ref C_NoBlock) = some false)
    (su_BadLog_Stopped : PySem.W.subIn K (.ref C_BadLog) (.ref C_Stopped) = some false)
    (su_BadLog_TooMuch : PySem.W.subIn K (.ref C_BadLog) (.ref C_TooMuch) = some false)
    (su_BadRow_BadDisk : PySem.W.subIn K (.ref C_BadRow) (.ref C_BadDisk) = some false)
    (su_BadRow_BadLog : PySem.W.subIn K (.ref C_BadRow) (.ref C_BadLog) = some false)
    (su_BadRow_BadRow : PySem.W.subIn K (.ref C_BadRow) (.ref C_BadRow) = some true)
    (su_BadRow_KeepError : PySem.W.subIn K (.ref C_BadRow) (.ref C_KeepError) = some true)
    (su_BadRow_NoBlock : PySem.W.subIn K (.ref C_BadRow) (.ref C_NoBlock) = some false)
    (su_BadRow_Stopped : PySem.W.subIn K (.ref C_BadRow) (.ref C_Stopped) = some false)
    (su_BadRow_TooMuch : PySem.W.subIn K (.ref C_BadRow) (.ref C_TooMuch) = some false)
    (su_KeepError_KeepError : PySem.W.subIn K (.ref C_KeepError) (.ref C_KeepError) = some true)
    (su_NoBlock_BadDisk : PySem.W.subIn K (.ref C_NoBlock) (.ref C_BadDisk) = some false)
    (su_NoBlock_BadLog : PySem.W.subIn K (.ref C_NoBlock) (.ref C_BadLog) = some false)
    (su_NoBlock_BadRow : PySem.W.subIn K (.ref C_NoBlock) (.ref C_BadRow) = some false)
    (su_NoBlock_KeepError : PySem.W.subIn K (.ref C_NoBlock) (.ref C_KeepError) = some true)
    (su_NoBlock_NoBlock : PySem.W.subIn K (.ref C_NoBlock) (.ref C_NoBlock) = some true)
    (su_NoBlock_Stopped : PySem.W.subIn K (.ref C_NoBlock) (.ref C_Stopped) = some false)
    (su_NoBlock_TooMuch : PySem.W.subIn K (.ref C_NoBlock) (.ref C_TooMuch) = some false)
    (su_Stopped_BadDisk : PySem.W.subIn K (.ref C_Stopped) (.ref C_BadDisk) = some false)
    (su_Stopped_BadLog : PySem.W.subIn K (.ref C_Stopped) (.ref C_BadLog) = some false)
    (su_Stopped_BadRow : PySem.W.subIn K (.ref C_Stopped) (.ref C_BadRow) = some false)
    (su_Stopped_KeepError : PySem.W.subIn K (.ref C_Stopped) (.ref C_KeepError) = some true)
    (su_Stopped_NoBlock : PySem.W.subIn K (.ref C_Stopped) (.ref C_NoBlock) = some false)
    (su_Stopped_Stopped : PySem.W.subIn K (.ref C_Stopped) (.ref C_Stopped) = some true)
    (su_Stopped_TooMuch : PySem.W.subIn K (.ref C_Stopped) (.ref C_TooMuch) = some false)
    (su_TooMuch_BadDisk : PySem.W.subIn K (.ref C_TooMuch) (.ref C_BadDisk) = some false)
    (su_TooMuch_BadLog : PySem.W.subIn K (.ref C_TooMuch) (.ref C_BadLog) = some false)
    (su_TooMuch_BadRow : PySem.W.subIn K (.ref C_TooMuch) (.ref C_BadRow) = some false)
    (su_TooMuch_KeepError : PySem.W.subIn K (.ref C_TooMuch) (.ref C_KeepError) = some true)
    (su_TooMuch_NoBlock : PySem.W.subIn K (.ref C_TooMuch) (.ref C_NoBlock) = some false)
    (su_TooMuch_Stopped : PySem.W.subIn K (.ref C_TooMuch) (.ref C_Stopped) = some false)
    (su_TooMuch_TooMuch : PySem.W.subIn K (.ref C_TooMuch) (.ref C_TooMuch) = some true)
    (sv_BadDisk : PySem.W.subIn K (.ref C_BadDisk) (.type "ValueError") = some true)
    (sv_BadLog : PySem.W.subIn K (.ref C_BadLog) (.type "ValueError") = some true)
    (sv_BadRow : PySem.W.subIn K (.ref C_BadRow) (.type "ValueError") = some true)
    (sv_NoBlock : PySem.W.subIn K (.ref C_NoBlock) (.type "ValueError") = some true)
    (sv_Stopped : PySem.W.subIn K (.ref C_Stopped) (.type "ValueError") = some true)
    (sv_TooMuch : PySem.W.subIn K (.ref C_TooMuch) (.type "ValueError") = some true)
    (xc_hn : PySem.W.specialIn K (.builtin "object.__class__") "__get__" = some (some (.builtin "getset_descriptor.__get__")))
    (xc_ht : PySem.W.takesIn K (.builtin "object.__class__") = some true) :
    ∃ fd : FuncData, (∀ (s : Shared) (v : Value), BindsTo s fd ⟨[v], []⟩ [("_law_script", v)]) ∧ ∀ base : Heap, K.In base → base.Ns mainGlobals mg → FnOk l.prog w K mg base (L2N.CX l.prog w) 9 fa fd ["_law_script"] (spLaw K) := by
  have e : fa = f_law := Value.ref.inj (Option.some.inj (hfa.symm.trans (PySem.W.mg_of X G a_law)))
  rw [e]
  have T : Tx K mg { KeepError := C_KeepError, BadRow := C_BadRow, NoBlock := C_NoBlock, Stopped := C_Stopped, BadDisk := C_BadDisk, NoRoom := 0, TooMuch := C_TooMuch, BadLog := C_BadLog, NoNode := 0, NoNodes := 0, TooLong := 0, OutOfPlace := 0, BadName := 0, BadPath := 0, NotFolder := 0, NotFile := 0, NoName := 0, NameThere := 0, NotEmpty := 0, Within := 0, BadOrder := 0, Disk := C_Disk, Layout := 0, Batch := 0, Keeper := 0 } { f__wall := f__wall, f_is_word := f_is_word, f_is_row := f_is_row, f_need_row := f_need_row, f_empty_row := f_empty_row, f_changed := f_changed, f_is_many := f_is_many, f_Disk_init := f_Disk_init, f_Disk_blocks := f_Disk_blocks, f_Disk_need := f_Disk_need, f_Disk_read := f_Disk_read, f_Disk_write := f_Disk_write, f_Disk_writes := f_Disk_writes, f_Disk_stop_after := f_Disk_stop_after, f_Disk_go_on := f_Disk_go_on, f_Disk_twin := f_Disk_twin, f_is_home := f_is_home, f_need_pairs := f_need_pairs, f_carry_home := f_carry_home, f_commit := f_commit, f_homes_told := f_homes_told, f_come_back := f_come_back, f_L_cell_at := f_L_cell_at, f_L_row := f_L_row, f_L_word := f_L_word, f_L_homes := f_L_homes, f_L_head := f_L_head, f_L_is_right := f_L_is_right, f_L_comes_back := f_L_comes_back, f_L_odd_pair := f_L_odd_pair, f_L_is_number := f_L_is_number, f_L_due := f_L_due, f_L_commits := f_L_commits, f_law := f_law, fd__wall := _, fd_is_word := _, fd_is_row := _, fd_need_row := _, fd_empty_row := _, fd_changed := _, fd_is_many := _, fd_Disk_init := _, fd_Disk_blocks := _, fd_Disk_need := _, fd_Disk_read := _, fd_Disk_write := _, fd_Disk_writes := _, fd_Disk_stop_after := _, fd_Disk_go_on := _, fd_Disk_twin := _, fd_is_home := _, fd_need_pairs := _, fd_carry_home := _, fd_commit := _, fd_homes_told := _, fd_come_back := _, fd_L_cell_at := _, fd_L_row := _, fd_L_word := _, fd_L_homes := _, fd_L_head := _, fd_L_is_right := _, fd_L_comes_back := _, fd_L_odd_pair := _, fd_L_is_number := _, fd_L_due := _, fd_L_commits := _, fd_law := _ } := {
    g_WIDE := ⟨_, PySem.W.mg_of X G a_WIDE, _, rfl⟩,
    g_MOST_WORD := ⟨_, PySem.W.mg_of X G a_MOST_WORD, _, rfl⟩,
    g_LEAST_BLOCKS := ⟨_, PySem.W.mg_of X G a_LEAST_BLOCKS, _, rfl⟩,
    g_MOST_BLOCKS := ⟨_, PySem.W.mg_of X G a_MOST_BLOCKS, _, rfl⟩,
    g_LOG_AT := ⟨_, PySem.W.mg_of X G a_LOG_AT, _, rfl⟩,
    g_MAPS_AT := ⟨_, PySem.W.mg_of X G a_MAPS_AT, _, rfl⟩,
    g_MOST_HOMES := ⟨_, PySem.W.mg_of X G a_MOST_HOMES, _, rfl⟩,
    n_ValueError := PySem.W.mg_none_of X G z_ValueError,
    n_all := PySem.W.mg_none_of X G z_all,
    n_bool := PySem.W.mg_none_of X G z_bool,
    n_enumerate := PySem.W.mg_none_of X G z_enumerate,
    n_int := PySem.W.mg_none_of X G z_int,
    n_isinstance := PySem.W.mg_none_of X G z_isinstance,
    n_len := PySem.W.mg_none_of X G z_len,
    n_list := PySem.W.mg_none_of X G z_list,
    n_max := PySem.W.mg_none_of X G z_max,
    n_range := PySem.W.mg_none_of X G z_range,
    n_sorted := PySem.W.mg_none_of X G z_sorted,
    n_tuple := PySem.W.mg_none_of X G z_tuple,
    g_Disk := PySem.W.mg_of X G a_Disk,
    g_KeepError := PySem.W.mg_of X G a_KeepError,
    g_BadRow := PySem.W.mg_of X G a_BadRow,
    g_NoBlock := PySem.W.mg_of X G a_NoBlock,
    g_Stopped := PySem.W.mg_of X G a_Stopped,
    g_BadDisk := PySem.W.mg_of X G a_BadDisk,
    g_TooMuch := PySem.W.mg_of X G a_TooMuch,
    g_BadLog := PySem.W.mg_of X G a_BadLog,
    g__wall := PySem.W.mg_of X G a__wall,
    k__wall := k__wall,
    F__wall := fun_mk l__wall c__wall k__wall,
    b__wall := (fun_mk (st := s__wall) l__wall c__wall k__wall).binds (ps := ["k"]) fun _ _ _ _ _ _ us hl => match us, hl with | [_], _ => rfl,
    g_is_word := PySem.W.mg_of X G a_is_word,
    k_is_word := k_is_word,
    F_is_word := fun_mk l_is_word c_is_word k_is_word,
    b_is_word := (fun_mk (st := s_is_word) l_is_word c_is_word k_is_word).binds (ps := ["thing"]) fun _ _ _ _ _ _ us hl => match us, hl with | [_], _ => rfl,
    g_is_row := PySem.W.mg_of X G a_is_row,
    k_is_row := k_is_row,
    F_is_row := fun_mk l_is_row c_is_row k_is_row,
    b_is_row := (fun_mk (st := s_is_row) l_is_row c_is_row k_is_row).binds (ps := ["thing"]) fun _ _ _ _ _ _ us hl => match us, hl with | [_], _ => rfl,
    g_need_row := PySem.W.mg_of X G a_need_row,
    k_need_row := k_need_row,
    F_need_row := fun_mk l_need_row c_need_row k_need_row,
    b_need_row := (fun_mk (st := s_need_row) l_need_row c_need_row k_need_row).binds (ps := ["thing"]) fun _ _ _ _ _ _ us hl => match us, hl with | [_], _ => rfl,
    g_empty_row := PySem.W.mg_of X G a_empty_row,
    k_empty_row := k_empty_row,
    F_empty_row := fun_mk l_empty_row c_empty_row k_empty_row,
    b_empty_row := (fun_mk (st := s_empty_row) l_empty_row c_empty_row k_empty_row).binds (ps := []) fun _ _ _ _ _ _ us hl => match us, hl with | [], _ => rfl,
    g_changed := PySem.W.mg_of X G a_changed,
    k_changed := k_changed,
    F_changed := fun_mk l_changed c_changed k_changed,
    b_changed := (fun_mk (st := s_changed) l_changed c_changed k_changed).binds (ps := ["row", "at", "words"]) fun _ _ _ _ _ _ us hl => match us, hl with | [_, _, _], _ => rfl,
    g_is_many := PySem.W.mg_of X G a_is_many,
    k_is_many := k_is_many,
    F_is_many := fun_mk l_is_many c_is_many k_is_many,
    b_is_many := (fun_mk (st := s_is_many) l_is_many c_is_many k_is_many).binds (ps := ["thing"]) fun _ _ _ _ _ _ us hl => match us, hl with | [_], _ => rfl,
    F_Disk_init := fun_mk l_Disk_init c_Disk_init k_Disk_init,
    b_Disk_init := (fun_mk (st := s_Disk_init) l_Disk_init c_Disk_init k_Disk_init).binds (ps := ["self", "many"]) fun _ _ _ _ _ _ us hl => match us, hl with | [_, _], _ => rfl,
    mt_Disk_blocks := ⟨a_Disk_blocks, i_Disk_blocks, k_Disk_blocks⟩,
    F_Disk_blocks := fun_mk l_Disk_blocks c_Disk_blocks k_Disk_blocks,
    b_Disk_blocks := (fun_mk (st := s_Disk_blocks) l_Disk_blocks c_Disk_blocks k_Disk_blocks).binds (ps := ["self"]) fun _ _ _ _ _ _ us hl => match us, hl with | [_], _ => rfl,
    mt_Disk_need := ⟨a_Disk_need, i_Disk_need, k_Disk_need⟩,
    F_Disk_need := fun_mk l_Disk_need c_Disk_need k_Disk_need,
    b_Disk_need := (fun_mk (st := s_Disk_need) l_Disk_need c_Disk_need k_Disk_need).binds (ps := ["self", "block"]) fun _ _ _ _ _ _ us hl => match us, hl with | [_, _], _ => rfl,
    mt_Disk_read := ⟨a_Disk_read, i_Disk_read, k_Disk_read⟩,
    F_Disk_read := fun_mk l_Disk_read c_Disk_read k_Disk_read,
    b_Disk_read := (fun_mk (st := s_Disk_read) l_Disk_read c_Disk_read k_Disk_read).binds (ps := ["self", "block"]) fun _ _ _ _ _ _ us hl => match us, hl with | [_, _], _ => rfl,
    mt_Disk_write := ⟨a_Disk_write, i_Disk_write, k_Disk_write⟩,
    F_Disk_write := fun_mk l_Disk_write c_Disk_write k_Disk_write,
    b_Disk_write := (fun_mk (st := s_Disk_write) l_Disk_write c_Disk_write k_Disk_write).binds (ps := ["self", "block", "row"]) fun _ _ _ _ _ _ us hl => match us, hl with | [_, _, _], _ => rfl,
    mt_Disk_writes := ⟨a_Disk_writes, i_Disk_writes, k_Disk_writes⟩,
    F_Disk_writes := fun_mk l_Disk_writes c_Disk_writes k_Disk_writes,
    b_Disk_writes := (fun_mk (st := s_Disk_writes) l_Disk_writes c_Disk_writes k_Disk_writes).binds (ps := ["self"]) fun _ _ _ _ _ _ us hl => match us, hl with | [_], _ => rfl,
    mt_Disk_stop_after := ⟨a_Disk_stop_after, i_Disk_stop_after, k_Disk_stop_after⟩,
    F_Disk_stop_after := fun_mk l_Disk_stop_after c_Disk_stop_after k_Disk_stop_after,
    b_Disk_stop_after := (fun_mk (st := s_Disk_stop_after) l_Disk_stop_after c_Disk_stop_after k_Disk_stop_after).binds (ps := ["self", "count"]) fun _ _ _ _ _ _ us hl => match us, hl with | [_, _], _ => rfl,
    mt_Disk_go_on := ⟨a_Disk_go_on, i_Disk_go_on, k_Disk_go_on⟩,
    F_Disk_go_on := fun_mk l_Disk_go_on c_Disk_go_on k_Disk_go_on,
    b_Disk_go_on := (fun_mk (st := s_Disk_go_on) l_Disk_go_on c_Disk_go_on k_Disk_go_on).binds (ps := ["self"]) fun _ _ _ _ _ _ us hl => match us, hl with | [_], _ => rfl,
    mt_Disk_twin := ⟨a_Disk_twin, i_Disk_twin, k_Disk_twin⟩,
    F_Disk_twin := fun_mk l_Disk_twin c_Disk_twin k_Disk_twin,
    b_Disk_twin := (fun_mk (st := s_Disk_twin) l_Disk_twin c_Disk_twin k_Disk_twin).binds (ps := ["self"]) fun _ _ _ _ _ _ us hl => match us, hl with | [_], _ => rfl,
    g_is_home := PySem.W.mg_of X G a_is_home,
    k_is_home := k_is_home,
    F_is_home := fun_mk l_is_home c_is_home k_is_home,
    b_is_home := (fun_mk (st := s_is_home) l_is_home c_is_home k_is_home).binds (ps := ["disk", "block"]) fun _ _ _ _ _ _ us hl => match us, hl with | [_, _], _ => rfl,
    g_need_pairs := PySem.W.mg_of X G a_need_pairs,
    k_need_pairs := k_need_pairs,
    F_need_pairs := fun_mk l_need_pairs c_need_pairs k_need_pairs,
    b_need_pairs := (fun_mk (st := s_need_pairs) l_need_pairs c_need_pairs k_need_pairs).binds (ps := ["disk", "pairs"]) fun _ _ _ _ _ _ us hl => match us, hl with | [_, _], _ => rfl,
    g_carry_home := PySem.W.mg_of X G a_carry_home,
    k_carry_home := k_carry_home,
    F_carry_home := fun_mk l_carry_home c_carry_home k_carry_home,
    b_carry_home := (fun_mk (st := s_carry_home) l_carry_home c_carry_home k_carry_home).binds (ps := ["disk", "homes"]) fun _ _ _ _ _ _ us hl => match us, hl with | [_, _], _ => rfl,
    g_commit := PySem.W.mg_of X G a_commit,
    k_commit := k_commit,
    F_commit := fun_mk l_commit c_commit k_commit,
    b_commit := (fun_mk (st := s_commit) l_commit c_commit k_commit).binds (ps := ["disk", "pairs"]) fun _ _ _ _ _ _ us hl => match us, hl with | [_, _], _ => rfl,
    g_homes_told := PySem.W.mg_of X G a_homes_told,
    k_homes_told := k_homes_told,
    F_homes_told := fun_mk l_homes_told c_homes_told k_homes_told,
    b_homes_told := (fun_mk (st := s_homes_told) l_homes_told c_homes_told k_homes_told).binds (ps := ["disk"]) fun _ _ _ _ _ _ us hl => match us, hl with | [_], _ => rfl,
    g_come_back := PySem.W.mg_of X G a_come_back,
    k_come_back := k_come_back,
    F_come_back := fun_mk l_come_back c_come_back k_come_back,
    b_come_back := (fun_mk (st := s_come_back) l_come_back c_come_back k_come_back).binds (ps := ["disk"]) fun _ _ _ _ _ _ us hl => match us, hl with | [_], _ => rfl,
    g_L_cell_at := PySem.W.mg_of X G a_L_cell_at,
    k_L_cell_at := k_L_cell_at,
    F_L_cell_at := fun_mk l_L_cell_at c_L_cell_at k_L_cell_at,
    b_L_cell_at := (fun_mk (st := s_L_cell_at) l_L_cell_at c_L_cell_at k_L_cell_at).binds (ps := ["_law_script", "_law_k"]) fun _ _ _ _ _ _ us hl => match us, hl with | [_, _], _ => rfl,
    g_L_row := PySem.W.mg_of X G a_L_row,
    k_L_row := k_L_row,
    F_L_row := fun_mk l_L_row c_L_row k_L_row,
    b_L_row := (fun_mk (st := s_L_row) l_L_row c_L_row k_L_row).binds (ps := ["_law_cell"]) fun _ _ _ _ _ _ us hl => match us, hl with | [_], _ => rfl,
    g_L_word := PySem.W.mg_of X G a_L_word,
    k_L_word := k_L_word,
    F_L_word := fun_mk l_L_word c_L_word k_L_word,
    b_L_word := (fun_mk (st := s_L_word) l_L_word c_L_word k_L_word).binds (ps := ["_law_e"]) fun _ _ _ _ _ _ us hl => match us, hl with | [_], _ => rfl,
    g_L_homes := PySem.W.mg_of X G a_L_homes,
    k_L_homes := k_L_homes,
    F_L_homes := fun_mk l_L_homes c_L_homes k_L_homes,
    b_L_homes := (fun_mk (st := s_L_homes) l_L_homes c_L_homes k_L_homes).binds (ps := ["_law_script", "_law_many", "_law_count"]) fun _ _ _ _ _ _ us hl => match us, hl with | [_, _, _], _ => rfl,
    g_L_head := PySem.W.mg_of X G a_L_head,
    k_L_head := k_L_head,
    F_L_head := fun_mk l_L_head c_L_head k_L_head,
    b_L_head := (fun_mk (st := s_L_head) l_L_head c_L_head k_L_head).binds (ps := ["_law_script", "_law_many"]) fun _ _ _ _ _ _ us hl => match us, hl with | [_, _], _ => rfl,
    g_L_is_right := PySem.W.mg_of X G a_L_is_right,
    k_L_is_right := k_L_is_right,
    F_L_is_right := fun_mk l_L_is_right c_L_is_right k_L_is_right,
    b_L_is_right := (fun_mk (st := s_L_is_right) l_L_is_right c_L_is_right k_L_is_right).binds (ps := ["_law_head_here", "_law_many"]) fun _ _ _ _ _ _ us hl => match us, hl with | [_, _], _ => rfl,
    g_L_comes_back := PySem.W.mg_of X G a_L_comes_back,
    k_L_comes_back := k_L_comes_back,
    F_L_comes_back := fun_mk l_L_comes_back c_L_comes_back k_L_comes_back,
    b_L_comes_back := (fun_mk (st := s_L_comes_back) l_L_comes_back c_L_comes_back k_L_comes_back).binds (ps := ["_law_disk", "_law_head_here"]) fun _ _ _ _ _ _ us hl => match us, hl with | [_, _], _ => rfl,
    g_L_odd_pair := PySem.W.mg_of X G a_L_odd_pair,
    k_L_odd_pair := k_L_odd_pair,
    F_L_odd_pair := fun_mk l_L_odd_pair c_L_odd_pair k_L_odd_pair,
    b_L_odd_pair := (fun_mk (st := s_L_odd_pair) l_L_odd_pair c_L_odd_pair k_L_odd_pair).binds (ps := ["_law_pair", "_law_cell", "_law_many", "_law_ahead"]) fun _ _ _ _ _ _ us hl => match us, hl with | [_, _, _, _], _ => rfl,
    g_L_is_number := PySem.W.mg_of X G a_L_is_number,
    k_L_is_number := k_L_is_number,
    F_L_is_number := fun_mk l_L_is_number c_L_is_number k_L_is_number,
    b_L_is_number := (fun_mk (st := s_L_is_number) l_L_is_number c_L_is_number k_L_is_number).binds (ps := ["_law_word_here"]) fun _ _ _ _ _ _ us hl => match us, hl with | [_], _ => rfl,
    g_L_due := PySem.W.mg_of X G a_L_due,
    k_L_due := k_L_due,
    F_L_due := fun_mk l_L_due c_L_due k_L_due,
    b_L_due := (fun_mk (st := s_L_due) l_L_due c_L_due k_L_due).binds (ps := ["_law_pairs", "_law_many"]) fun _ _ _ _ _ _ us hl => match us, hl with | [_, _], _ => rfl,
    g_L_commits := PySem.W.mg_of X G a_L_commits,
    k_L_commits := k_L_commits,
    F_L_commits := fun_mk l_L_commits c_L_commits k_L_commits,
    b_L_commits := (fun_mk (st := s_L_commits) l_L_commits c_L_commits k_L_commits).binds (ps := ["_law_script", "_law_disk"]) fun _ _ _ _ _ _ us hl => match us, hl with | [_, _], _ => rfl,
    g_law := PySem.W.mg_of X G a_law,
    k_law := k_law,
    F_law := fun_mk l_law c_law k_law,
    b_law := (fun_mk (st := s_law) l_law c_law k_law).binds (ps := ["_law_script"]) fun _ _ _ _ _ _ us hl => match us, hl with | [_], _ => rfl,
    c_Disk := ⟨pg_Disk, hd_Disk, po_Disk, sa_Disk⟩,
    m_Disk := ⟨mk_Disk, a_Disk_init, i_Disk_init, kc_Disk⟩,
    na_Disk_done := na_Disk_done,
    na_Disk_left := na_Disk_left,
    na_Disk_rows := na_Disk_rows,
    x_KeepError := ⟨xq_KeepError, xk_KeepError, xs_KeepError, xt_KeepError⟩,
    x_BadRow := ⟨xq_BadRow, xk_BadRow, xs_BadRow, xt_BadRow⟩,
    x_NoBlock := ⟨xq_NoBlock, xk_NoBlock, xs_NoBlock, xt_NoBlock⟩,
    x_Stopped := ⟨xq_Stopped, xk_Stopped, xs_Stopped, xt_Stopped⟩,
    x_BadDisk := ⟨xq_BadDisk, xk_BadDisk, xs_BadDisk, xt_BadDisk⟩,
    x_TooMuch := ⟨xq_TooMuch, xk_TooMuch, xs_TooMuch, xt_TooMuch⟩,
    x_BadLog := ⟨xq_BadLog, xk_BadLog, xs_BadLog, xt_BadLog⟩ }
  haveI Fx : Fc K { KeepError := C_KeepError, BadRow := C_BadRow, NoBlock := C_NoBlock, Stopped := C_Stopped, BadDisk := C_BadDisk, NoRoom := 0, TooMuch := C_TooMuch, BadLog := C_BadLog, NoNode := 0, NoNodes := 0, TooLong := 0, OutOfPlace := 0, BadName := 0, BadPath := 0, NotFolder := 0, NotFile := 0, NoName := 0, NameThere := 0, NotEmpty := 0, Within := 0, BadOrder := 0, Disk := C_Disk, Layout := 0, Batch := 0, Keeper := 0 } := {
    c_Disk := ⟨pg_Disk, hd_Disk, po_Disk, sa_Disk⟩,
    na_Disk_done := na_Disk_done,
    na_Disk_left := na_Disk_left,
    na_Disk_rows := na_Disk_rows,
    xc_BadDisk := ⟨xc_hg_BadDisk, xc_hk_BadDisk, xs_BadDisk, xc_hd_BadDisk, xc_ha_BadDisk, xc_hn, xc_ht, xc_hm_BadDisk⟩,
    xc_BadLog := ⟨xc_hg_BadLog, xc_hk_BadLog, xs_BadLog, xc_hd_BadLog, xc_ha_BadLog, xc_hn, xc_ht, xc_hm_BadLog⟩,
    xc_BadRow := ⟨xc_hg_BadRow, xc_hk_BadRow, xs_BadRow, xc_hd_BadRow, xc_ha_BadRow, xc_hn, xc_ht, xc_hm_BadRow⟩,
    xc_NoBlock := ⟨xc_hg_NoBlock, xc_hk_NoBlock, xs_NoBlock, xc_hd_NoBlock, xc_ha_NoBlock, xc_hn, xc_ht, xc_hm_NoBlock⟩,
    xc_Stopped := ⟨xc_hg_Stopped, xc_hk_Stopped, xs_Stopped, xc_hd_Stopped, xc_ha_Stopped, xc_hn, xc_ht, xc_hm_Stopped⟩,
    xc_TooMuch := ⟨xc_hg_TooMuch, xc_hk_TooMuch, xs_TooMuch, xc_hd_TooMuch, xc_ha_TooMuch, xc_hn, xc_ht, xc_hm_TooMuch⟩,
    ki_BadDisk_BadDisk := kit_of_own ic_BadDisk xt_BadDisk su_BadDisk_BadDisk su_BadDisk_BadDisk,
    ki_BadDisk_BadLog := kit_of_own ic_BadLog xt_BadLog su_BadDisk_BadLog su_BadLog_BadLog,
    ki_BadDisk_BadRow := kit_of_own ic_BadRow xt_BadRow su_BadDisk_BadRow su_BadRow_BadRow,
    ki_BadDisk_NoBlock := kit_of_own ic_NoBlock xt_NoBlock su_BadDisk_NoBlock su_NoBlock_NoBlock,
    ki_BadDisk_Stopped := kit_of_own ic_Stopped xt_Stopped su_BadDisk_Stopped su_Stopped_Stopped,
    ki_BadDisk_TooMuch := kit_of_own ic_TooMuch xt_TooMuch su_BadDisk_TooMuch su_TooMuch_TooMuch,
    ki_BadDisk_ValueError := kit_of_VE sv_BadDisk,
    ki_BadLog_BadDisk := kit_of_own ic_BadDisk xt_BadDisk su_BadLog_BadDisk su_BadDisk_BadDisk,
    ki_BadLog_BadLog := kit_of_own ic_BadLog xt_BadLog su_BadLog_BadLog su_BadLog_BadLog,
    ki_BadLog_BadRow := kit_of_own ic_BadRow xt_BadRow su_BadLog_BadRow su_BadRow_BadRow,
    ki_BadLog_NoBlock := kit_of_own ic_NoBlock xt_NoBlock su_BadLog_NoBlock su_NoBlock_NoBlock,
    ki_BadLog_Stopped := kit_of_own ic_Stopped xt_Stopped su_BadLog_Stopped su_Stopped_Stopped,
    ki_BadLog_TooMuch := kit_of_own ic_TooMuch xt_TooMuch su_BadLog_TooMuch su_TooMuch_TooMuch,
    ki_BadLog_ValueError := kit_of_VE sv_BadLog,
    ki_BadRow_BadDisk := kit_of_own ic_BadDisk xt_BadDisk su_BadRow_BadDisk su_BadDisk_BadDisk,
    ki_BadRow_BadLog := kit_of_own ic_BadLog xt_BadLog su_BadRow_BadLog su_BadLog_BadLog,
    ki_BadRow_BadRow := kit_of_own ic_BadRow xt_BadRow su_BadRow_BadRow su_BadRow_BadRow,
    ki_BadRow_NoBlock := kit_of_own ic_NoBlock xt_NoBlock su_BadRow_NoBlock su_NoBlock_NoBlock,
    ki_BadRow_Stopped := kit_of_own ic_Stopped xt_Stopped su_BadRow_Stopped su_Stopped_Stopped,
    ki_BadRow_TooMuch := kit_of_own ic_TooMuch xt_TooMuch su_BadRow_TooMuch su_TooMuch_TooMuch,
    ki_BadRow_ValueError := kit_of_VE sv_BadRow,
    ki_NoBlock_BadDisk := kit_of_own ic_BadDisk xt_BadDisk su_NoBlock_BadDisk su_BadDisk_BadDisk,
    ki_NoBlock_BadLog := kit_of_own ic_BadLog xt_BadLog su_NoBlock_BadLog su_BadLog_BadLog,
    ki_NoBlock_BadRow := kit_of_own ic_BadRow xt_BadRow su_NoBlock_BadRow su_BadRow_BadRow,
    ki_NoBlock_NoBlock := kit_of_own ic_NoBlock xt_NoBlock su_NoBlock_NoBlock su_NoBlock_NoBlock,
    ki_NoBlock_Stopped := kit_of_own ic_Stopped xt_Stopped su_NoBlock_Stopped su_Stopped_Stopped,
    ki_NoBlock_TooMuch := kit_of_own ic_TooMuch xt_TooMuch su_NoBlock_TooMuch su_TooMuch_TooMuch,
    ki_NoBlock_ValueError := kit_of_VE sv_NoBlock,
    ki_Stopped_BadDisk := kit_of_own ic_BadDisk xt_BadDisk su_Stopped_BadDisk su_BadDisk_BadDisk,
    ki_Stopped_BadLog := kit_of_own ic_BadLog xt_BadLog su_Stopped_BadLog su_BadLog_BadLog,
    ki_Stopped_BadRow := kit_of_own ic_BadRow xt_BadRow su_Stopped_BadRow su_BadRow_BadRow,
    ki_Stopped_NoBlock := kit_of_own ic_NoBlock xt_NoBlock su_Stopped_NoBlock su_NoBlock_NoBlock,
    ki_Stopped_Stopped := kit_of_own ic_Stopped xt_Stopped su_Stopped_Stopped su_Stopped_Stopped,
    ki_Stopped_TooMuch := kit_of_own ic_TooMuch xt_TooMuch su_Stopped_TooMuch su_TooMuch_TooMuch,
    ki_Stopped_ValueError := kit_of_VE sv_Stopped,
    ki_TooMuch_BadDisk := kit_of_own ic_BadDisk xt_BadDisk su_TooMuch_BadDisk su_BadDisk_BadDisk,
    ki_TooMuch_BadLog := kit_of_own ic_BadLog xt_BadLog su_TooMuch_BadLog su_BadLog_BadLog,
    ki_TooMuch_BadRow := kit_of_own ic_BadRow xt_BadRow su_TooMuch_BadRow su_BadRow_BadRow,
    ki_TooMuch_NoBlock := kit_of_own ic_NoBlock xt_NoBlock su_TooMuch_NoBlock su_NoBlock_NoBlock,
    ki_TooMuch_Stopped := kit_of_own ic_Stopped xt_Stopped su_TooMuch_Stopped su_Stopped_Stopped,
    ki_TooMuch_TooMuch := kit_of_own ic_TooMuch xt_TooMuch su_TooMuch_TooMuch su_TooMuch_TooMuch,
    ki_TooMuch_ValueError := kit_of_VE sv_TooMuch,
    em_BadDisk_KeepError := exm_of_own xs_KeepError ic_KeepError xt_KeepError su_BadDisk_KeepError,
    em_BadLog_KeepError := exm_of_own xs_KeepError ic_KeepError xt_KeepError su_BadLog_KeepError,
    em_BadRow_KeepError := exm_of_own xs_KeepError ic_KeepError xt_KeepError su_BadRow_KeepError,
    em_NoBlock_KeepError := exm_of_own xs_KeepError ic_KeepError xt_KeepError su_NoBlock_KeepError,
    em_Stopped_KeepError := exm_of_own xs_KeepError ic_KeepError xt_KeepError su_Stopped_KeepError,
    em_TooMuch_KeepError := exm_of_own xs_KeepError ic_KeepError xt_KeepError su_TooMuch_KeepError }
  exact ⟨_, fun s v => .of_eq rfl, fun base _ _ => (ok_law T).imp fun vs H Q E q => law_pure  q⟩
theorem walk {l : PySem.W.OpenLaw} {q : Program} {loose : List Str} {XP : (Str → Option Value) → Heap → Prop} {YP : World → Heap → Prop} {d : DefRec} {K : Params → PySem.W.Frag} (hn : l.most = some 63) (hdf : d.params.defaults = [])
    (hY : ∀ (w : World) (h : Heap), YP w h → (K w.params).In h)
    (F : ∀ (w : World) (mg : Str → Option Value) (fa : Addr) (h : Heap), (K w.params).In h → h.Ns mainGlobals mg → mg d.name = some (.ref fa) →
      ∃ fd : FuncData, (∀ (s : Shared) (u : Value), BindsTo s fd ⟨[u], []⟩ [("_law_script", u)]) ∧ ∀ base : Heap, (K w.params).In base → base.Ns mainGlobals mg → FnOk l.prog w (K w.params) mg base (L2N.CX l.prog w) 9 fa fd ["_law_script"] (spLaw (K w.params))) :
    PySem.W.WalkO q loose XP YP l.row.toRowW d [] (fun f vs => PySem.call f vs) :=
  L2.walk_of (n := 63) (k := 9) (x := "_law_script") (CX := fun w => L2N.CX l.prog w) (sp := fun w => spLaw (K w.params)) hn (by decide) hdf ⟨rfl, by decide, by decide⟩ hY F (fun _ _ a ns hl _ hS => ⟨a, ns, rfl, hS, hl, fun _ => rfl⟩) fun _ _ _ _ _ z => by
    obtain ⟨_, _, _, _, _, _, _, _, _, _, _, _, z⟩ := z
    exact z
end Bk
open PySem PySem.W PyProof.Rows
set_option maxRecDepth 100000 in
set_option maxHeartbeats 0 in
theorem PySem.Challenge.cw_blockkeep_k07_logs_and_pairs_refused_holds : PySem.Challenge.rw_blockkeep_k07_logs_and_pairs_refused.Holds := by
  w_on; o_law; k_head; (case hw => w_witness2)
  k_fill
  refine Bk.walk (l := PySem.Challenge.rw_blockkeep_k07_logs_and_pairs_refused) rfl rfl (fun w h Y => PySem.W.kIn_of Y) ?F
  case F =>
    intro w mg fa h KX G hmg
    refine' Bk.all_mk KX G hmg ?a_WIDE ?a_MOST_WORD ?a_LEAST_BLOCKS ?a_MOST_BLOCKS ?a_LOG_AT ?a_MAPS_AT ?a_MOST_HOMES ?z_ValueError ?z_all ?z_bool ?z_enumerate ?z_int ?z_isinstance ?z_len ?z_list ?z_max ?z_range ?z_sorted ?z_tuple ?a_Disk ?a_KeepError ?a_BadRow ?a_NoBlock ?a_Stopped ?a_BadDisk ?a_TooMuch ?a_BadLog ?a__wall ?l__wall ?c__wall ?k__wall ?a_is_word ?l_is_word ?c_is_word ?k_is_word ?a_is_row ?l_is_row ?c_is_row ?k_is_row ?a_need_row ?l_need_row ?c_need_row ?k_need_row ?a_empty_row ?l_empty_row ?c_empty_row ?k_empty_row ?a_changed ?l_changed ?c_changed ?k_changed ?a_is_many ?l_is_many ?c_is_many ?k_is_many ?a_Disk_init ?i_Disk_init ?l_Disk_init ?c_Disk_init ?k_Disk_init ?a_Disk_blocks ?i_Disk_blocks ?l_Disk_blocks ?c_Disk_blocks ?k_Disk_blocks ?a_Disk_need ?i_Disk_need ?l_Disk_need ?c_Disk_need ?k_Disk_need ?a_Disk_read ?i_Disk_read ?l_Disk_read ?c_Disk_read ?k_Disk_read ?a_Disk_write ?i_Disk_write ?l_Disk_write ?c_Disk_write ?k_Disk_write ?a_Disk_writes ?i_Disk_writes ?l_Disk_writes ?c_Disk_writes ?k_Disk_writes ?a_Disk_stop_after ?i_Disk_stop_after ?l_Disk_stop_after ?c_Disk_stop_after ?k_Disk_stop_after ?a_Disk_go_on ?i_Disk_go_on ?l_Disk_go_on ?c_Disk_go_on ?k_Disk_go_on ?a_Disk_twin ?i_Disk_twin ?l_Disk_twin ?c_Disk_twin ?k_Disk_twin ?a_is_home ?l_is_home ?c_is_home ?k_is_home ?a_need_pairs ?l_need_pairs ?c_need_pairs ?k_need_pairs ?a_carry_home ?l_carry_home ?c_carry_home ?k_carry_home ?a_commit ?l_commit ?c_commit ?k_commit ?a_homes_told ?l_homes_told ?c_homes_told ?k_homes_told ?a_come_back ?l_come_back ?c_come_back ?k_come_back ?a_L_cell_at ?l_L_cell_at ?c_L_cell_at ?k_L_cell_at ?a_L_row ?l_L_row ?c_L_row ?k_L_row ?a_L_word ?l_L_word ?c_L_word ?k_L_word ?a_L_homes ?l_L_homes ?c_L_homes ?k_L_homes ?a_L_head ?l_L_head ?c_L_head ?k_L_head ?a_L_is_right ?l_L_is_right ?c_L_is_right ?k_L_is_right ?a_L_comes_back ?l_L_comes_back ?c_L_comes_back ?k_L_comes_back ?a_L_odd_pair ?l_L_odd_pair ?c_L_odd_pair ?k_L_odd_pair ?a_L_is_number ?l_L_is_number ?c_L_is_number ?k_L_is_number ?a_L_due ?l_L_due ?c_L_due ?k_L_due ?a_L_commits ?l_L_commits ?c_L_commits ?k_L_commits ?a_law ?l_law ?c_law ?k_law ?pg_Disk ?hd_Disk ?po_Disk ?sa_Disk ?mk_Disk ?kc_Disk ?na_Disk_done ?na_Disk_left ?na_Disk_rows ?xq_KeepError ?xk_KeepError ?xs_KeepError ?xt_KeepError ?xq_BadRow ?xk_BadRow ?xs_BadRow ?xt_BadRow ?xq_NoBlock ?xk_NoBlock ?xs_NoBlock ?xt_NoBlock ?xq_Stopped ?xk_Stopped ?xs_Stopped ?xt_Stopped ?xq_BadDisk ?xk_BadDisk ?xs_BadDisk ?xt_BadDisk ?xq_TooMuch ?xk_TooMuch ?xs_TooMuch ?xt_TooMuch ?xq_BadLog ?xk_BadLog ?xs_BadLog ?xt_BadLog ?xc_hg_BadDisk ?xc_hk_BadDisk ?xc_hd_BadDisk ?xc_ha_BadDisk ?xc_hm_BadDisk ?xc_hg_BadLog ?xc_hk_BadLog ?xc_hd_BadLog ?xc_ha_BadLog ?xc_hm_BadLog ?xc_hg_BadRow ?xc_hk_BadRow ?xc_hd_BadRow ?xc_ha_BadRow ?xc_hm_BadRow ?xc_hg_NoBlock ?xc_hk_NoBlock ?xc_hd_NoBlock ?xc_ha_NoBlock ?xc_hm_NoBlock ?xc_hg_Stopped ?xc_hk_Stopped ?xc_hd_Stopped ?xc_ha_Stopped ?xc_hm_Stopped ?xc_hg_TooMuch ?xc_hk_TooMuch ?xc_hd_TooMuch ?xc_ha_TooMuch ?xc_hm_TooMuch ?ic_BadDisk ?ic_BadLog ?ic_BadRow ?ic_KeepError ?ic_NoBlock ?ic_Stopped ?ic_TooMuch ?su_BadDisk_BadDisk ?su_BadDisk_BadLog ?su_BadDisk_BadRow ?su_BadDisk_KeepError ?su_BadDisk_NoBlock ?su_BadDisk_Stopped ?su_BadDisk_TooMuch ?su_BadLog_BadDisk ?su_BadLog_BadLog ?su_BadLog_BadRow ?su_BadLog_KeepError ?su_BadLog_NoBlock ?su_BadLog_Stopped ?su_BadLog_TooMuch ?su_BadRow_BadDisk ?su_BadRow_BadLog ?su_BadRow_BadRow ?su_BadRow_KeepError ?su_BadRow_NoBlock ?su_BadRow_Stopped ?su_BadRow_TooMuch ?su_KeepError_KeepError ?su_NoBlock_BadDisk ?su_NoBlock_BadLog ?su_NoBlock_BadRow ?su_NoBlock_KeepError ?su_NoBlock_NoBlock ?su_NoBlock_Stopped ?su_NoBlock_TooMuch ?su_Stopped_BadDisk ?su_Stopped_BadLog ?su_Stopped_BadRow ?su_Stopped_KeepError ?su_Stopped_NoBlock ?su_Stopped_Stopped ?su_Stopped_TooMuch ?su_TooMuch_BadDisk ?su_TooMuch_BadLog ?su_TooMuch_BadRow ?su_TooMuch_KeepError ?su_TooMuch_NoBlock ?su_TooMuch_Stopped ?su_TooMuch_TooMuch ?sv_BadDisk ?sv_BadLog ?sv_BadRow ?sv_NoBlock ?sv_Stopped ?sv_TooMuch ?xc_hn ?xc_ht
    (case a_WIDE => k_is)
    (case a_MOST_WORD => k_is)
    (case a_LEAST_BLOCKS => k_is)
    (case a_MOST_BLOCKS => k_is)
    (case a_LOG_AT => k_is)
    (case a_MAPS_AT => k_is)
    (case a_MOST_HOMES => k_is)
    (case z_ValueError => k_is)
    (case z_all => k_is)
    (case z_bool => k_is)
    (case z_enumerate => k_is)
    (case z_int => k_is)
    (case z_isinstance => k_is)
    (case z_len => k_is)
    (case z_list => k_is)
    (case z_max => k_is)
    (case z_range => k_is)
    (case z_sorted => k_is)
    (case z_tuple => k_is)
    (case a_Disk => k_is)
    (case a_KeepError => k_is)
    (case a_BadRow => k_is)
    (case a_NoBlock => k_is)
    (case a_Stopped => k_is)
    (case a_BadDisk => k_is)
    (case a_TooMuch => k_is)
    (case a_BadLog => k_is)
    (case a__wall => k_is)
    (case l__wall => k_is)
    (case c__wall => k_is)
    (case k__wall => k_is)
    (case a_is_word => k_is)
    (case l_is_word => k_is)
    (case c_is_word => k_is)
    (case k_is_word => k_is)
    (case a_is_row => k_is)
    (case l_is_row => k_is)
    (case c_is_row => k_is)
    (case k_is_row => k_is)
    (case a_need_row => k_is)
    (case l_need_row => k_is)
    (case c_need_row => k_is)
    (case k_need_row => k_is)
    (case a_empty_row => k_is)
    (case l_empty_row => k_is)
    (case c_empty_row => k_is)
    (case k_empty_row => k_is)
    (case a_changed => k_is)
    (case l_changed => k_is)
    (case c_changed => k_is)
    (case k_changed => k_is)
    (case a_is_many => k_is)
    (case l_is_many => k_is)
    (case c_is_many => k_is)
    (case k_is_many => k_is)
    (case a_Disk_init => k_is)
    (case i_Disk_init => k_is)
    (case l_Disk_init => k_is)
    (case c_Disk_init => k_is)
    (case k_Disk_init => k_is)
    (case a_Disk_blocks => k_is)
    (case i_Disk_blocks => k_is)
    (case l_Disk_blocks => k_is)
    (case c_Disk_blocks => k_is)
    (case k_Disk_blocks => k_is)
    (case a_Disk_need => k_is)
    (case i_Disk_need => k_is)
    (case l_Disk_need => k_is)
    (case c_Disk_need => k_is)
    (case k_Disk_need => k_is)
    (case a_Disk_read => k_is)
    (case i_Disk_read => k_is)
    (case l_Disk_read => k_is)
    (case c_Disk_read => k_is)
    (case k_Disk_read => k_is)
    (case a_Disk_write => k_is)
    (case i_Disk_write => k_is)
    (case l_Disk_write => k_is)
    (case c_Disk_write => k_is)
    (case k_Disk_write => k_is)
    (case a_Disk_writes => k_is)
    (case i_Disk_writes => k_is)
    (case l_Disk_writes => k_is)
    (case c_Disk_writes => k_is)
    (case k_Disk_writes => k_is)
    (case a_Disk_stop_after => k_is)
    (case i_Disk_stop_after => k_is)
    (case l_Disk_stop_after => k_is)
    (case c_Disk_stop_after => k_is)
    (case k_Disk_stop_after => k_is)
    (case a_Disk_go_on => k_is)
    (case i_Disk_go_on => k_is)
    (case l_Disk_go_on => k_is)
    (case c_Disk_go_on => k_is)
    (case k_Disk_go_on => k_is)
    (case a_Disk_twin => k_is)
    (case i_Disk_twin => k_is)
    (case l_Disk_twin => k_is)
    (case c_Disk_twin => k_is)
    (case k_Disk_twin => k_is)
    (case a_is_home => k_is)
    (case l_is_home => k_is)
    (case c_is_home => k_is)
    (case k_is_home => k_is)
    (case a_need_pairs => k_is)
    (case l_need_pairs => k_is)
    (case c_need_pairs => k_is)
    (case k_need_pairs => k_is)
    (case a_carry_home => k_is)
    (case l_carry_home => k_is)
    (case c_carry_home => k_is)
    (case k_carry_home => k_is)
    (case a_commit => k_is)
    (case l_commit => k_is)
    (case c_commit => k_is)
    (case k_commit => k_is)
    (case a_homes_told => k_is)
    (case l_homes_told => k_is)
    (case c_homes_told => k_is)
    (case k_homes_told => k_is)
    (case a_come_back => k_is)
    (case l_come_back => k_is)
    (case c_come_back => k_is)
    (case k_come_back => k_is)
    (case a_L_cell_at => k_is)
    (case l_L_cell_at => k_is)
    (case c_L_cell_at => k_is)
    (case k_L_cell_at => k_is)
    (case a_L_row => k_is)
    (case l_L_row => k_is)
    (case c_L_row => k_is)
    (case k_L_row => k_is)
    (case a_L_word => k_is)
    (case l_L_word => k_is)
    (case c_L_word => k_is)
    (case k_L_word => k_is)
    (case a_L_homes => k_is)
    (case l_L_homes => k_is)
    (case c_L_homes => k_is)
    (case k_L_homes => k_is)
    (case a_L_head => k_is)
    (case l_L_head => k_is)
    (case c_L_head => k_is)
    (case k_L_head => k_is)
    (case a_L_is_right => k_is)
    (case l_L_is_right => k_is)
    (case c_L_is_right => k_is)
    (case k_L_is_right => k_is)
    (case a_L_comes_back => k_is)
    (case l_L_comes_back => k_is)
    (case c_L_comes_back => k_is)
    (case k_L_comes_back => k_is)
    (case a_L_odd_pair => k_is)
    (case l_L_odd_pair => k_is)
    (case c_L_odd_pair => k_is)
    (case k_L_odd_pair => k_is)
    (case a_L_is_number => k_is)
    (case l_L_is_number => k_is)
    (case c_L_is_number => k_is)
    (case k_L_is_number => k_is)
    (case a_L_due => k_is)
    (case l_L_due => k_is)
    (case c_L_due => k_is)
    (case k_L_due => k_is)
    (case a_L_commits => k_is)
    (case l_L_commits => k_is)
    (case c_L_commits => k_is)
    (case k_L_commits => k_is)
    (case a_law => k_is)
    (case l_law => k_is)
    (case c_law => k_is)
    (case k_law => k_is)
    (case pg_Disk => k_is)
    (case hd_Disk => k_is)
    (case po_Disk => k_is)
    (case sa_Disk => k_is)
    (case mk_Disk => k_is)
    (case kc_Disk => k_is)
    (case na_Disk_done => k_is)
    (case na_Disk_left => k_is)
    (case na_Disk_rows => k_is)
    (case xq_KeepError => k_exc)
    (case xk_KeepError => k_is)
    (case xs_KeepError => k_is)
    (case xt_KeepError => k_is)
    (case xq_BadRow => k_exc)
    (case xk_BadRow => k_is)
    (case xs_BadRow => k_is)
    (case xt_BadRow => k_is)
    (case xq_NoBlock => k_exc)
    (case xk_NoBlock => k_is)
    (case xs_NoBlock => k_is)
    (case xt_NoBlock => k_is)
    (case xq_Stopped => k_exc)
    (case xk_Stopped => k_is)
    (case xs_Stopped => k_is)
    (case xt_Stopped => k_is)
    (case xq_BadDisk => k_exc)
    (case xk_BadDisk => k_is)
    (case xs_BadDisk => k_is)
    (case xt_BadDisk => k_is)
    (case xq_TooMuch => k_exc)
    (case xk_TooMuch => k_is)
    (case xs_TooMuch => k_is)
    (case xt_TooMuch => k_is)
    (case xq_BadLog => k_exc)
    (case xk_BadLog => k_is)
    (case xs_BadLog => k_is)
    (case xt_BadLog => k_is)
    (case xc_hg_BadDisk => k_is)
    (case xc_hk_BadDisk => k_is)
    (case xc_hd_BadDisk => k_is)
    (case xc_ha_BadDisk => k_is)
    (case xc_hm_BadDisk => k_is)
    (case xc_hg_BadLog => k_is)
    (case xc_hk_BadLog => k_is)
    (case xc_hd_BadLog => k_is)
    (case xc_ha_BadLog => k_is)
    (case xc_hm_BadLog => k_is)
    (case xc_hg_BadRow => k_is)
    (case xc_hk_BadRow => k_is)
    (case xc_hd_BadRow => k_is)
    (case xc_ha_BadRow => k_is)
    (case xc_hm_BadRow => k_is)
    (case xc_hg_NoBlock => k_is)
    (case xc_hk_NoBlock => k_is)
    (case xc_hd_NoBlock => k_is)
    (case xc_ha_NoBlock => k_is)
    (case xc_hm_NoBlock => k_is)
    (case xc_hg_Stopped => k_is)
    (case xc_hk_Stopped => k_is)
    (case xc_hd_Stopped => k_is)
    (case xc_ha_Stopped => k_is)
    (case xc_hm_Stopped => k_is)
    (case xc_hg_TooMuch => k_is)
    (case xc_hk_TooMuch => k_is)
    (case xc_hd_TooMuch => k_is)
    (case xc_ha_TooMuch => k_is)
    (case xc_hm_TooMuch => k_is)
    (case ic_BadDisk => k_is)
    (case ic_BadLog => k_is)
    (case ic_BadRow => k_is)
    (case ic_KeepError => k_is)
    (case ic_NoBlock => k_is)
    (case ic_Stopped => k_is)
    (case ic_TooMuch => k_is)
    (case su_BadDisk_BadDisk => k_is)
    (case su_BadDisk_BadLog => k_is)
    (case su_BadDisk_BadRow => k_is)
    (case su_BadDisk_KeepError => k_is)
    (case su_BadDisk_NoBlock => k_is)
    (case su_BadDisk_Stopped => k_is)
    (case su_BadDisk_TooMuch => k_is)
    (case su_BadLog_BadDisk => k_is)
    (case su_BadLog_BadLog => k_is)
    (case su_BadLog_BadRow => k_is)
    (case su_BadLog_KeepError => k_is)
    (case su_BadLog_NoBlock => k_is)
    (case su_BadLog_Stopped => k_is)
    (case su_BadLog_TooMuch => k_is)
    (case su_BadRow_BadDisk => k_is)
    (case su_BadRow_BadLog => k_is)
    (case su_BadRow_BadRow => k_is)
    (case su_BadRow_KeepError => k_is)
    (case su_BadRow_NoBlock => k_is)
    (case su_BadRow_Stopped => k_is)
    (case su_BadRow_TooMuch => k_is)
    (case su_KeepError_KeepError => k_is)
    (case su_NoBlock_BadDisk => k_is)
    (case su_NoBlock_BadLog => k_is)
    (case su_NoBlock_BadRow => k_is)
    (case su_NoBlock_KeepError => k_is)
    (case su_NoBlock_NoBlock => k_is)
    (case su_NoBlock_Stopped => k_is)
    (case su_NoBlock_TooMuch => k_is)
    (case su_Stopped_BadDisk => k_is)
    (case su_Stopped_BadLog => k_is)
    (case su_Stopped_BadRow => k_is)
    (case su_Stopped_KeepError => k_is)
    (case su_Stopped_NoBlock => k_is)
    (case su_Stopped_Stopped => k_is)
    (case su_Stopped_TooMuch => k_is)
    (case su_TooMuch_BadDisk => k_is)
    (case su_TooMuch_BadLog => k_is)
    (case su_TooMuch_BadRow => k_is)
    (case su_TooMuch_KeepError => k_is)
    (case su_TooMuch_NoBlock => k_is)
    (case su_TooMuch_Stopped => k_is)
    (case su_TooMuch_TooMuch => k_is)
    (case sv_BadDisk => k_is)
    (case sv_BadLog => k_is)
    (case sv_BadRow => k_is)
    (case sv_NoBlock => k_is)
    (case sv_Stopped => k_is)
    (case sv_TooMuch => k_is)
    (case xc_hn => k_is)
    (case xc_ht => k_is)
