import PyProof.Rows.All
import Wide.All
import OpenK.AllK
import Wide.FinOn
import HandS.ForMost
import HandS.ForExc
import HandS.More
import HandS.Small
import HandS.IsInst
import HandS.Style
import HandS.Flow
import HandS.HotCalls
import PySem.Challenge.RW_blockkeep_k01_words_and_rows
set_option Elab.async false
set_option linter.all false
set_option maxRecDepth 100000
set_option maxHeartbeats 4000000
namespace Bk
abbrev St := L2.St
open PySem L2 PyProof.Rows

/-! ### any of two rules -/
theorem peor {X : Cx} {e : Expr} {t u : TE} (h : PE X e t) (k : PE X e u) : PE X e (fun σ H Q => t σ H Q ∨ u σ H Q) :=
  ⟨fun pins s σ H Q I q => q.elim (fun q => h.run pins s σ H Q I q) fun q => k.run pins s σ H Q I q⟩
def tOr2 (t u : TE) : TE := fun σ H Q => t σ H Q ∨ u σ H Q
theorem pe_or2 {X : Cx} {e : Expr} {t u : TE} (h : PE X e t) (k : PE X e u) : PE X e (tOr2 t u) := peor h k
theorem call_or {X : Cx} {f : Value} {r r' : List V → Hp → VK → Prop} (h : CallR X f r) (k : CallR X f r') : CallR X f (fun xs H Q => r xs H Q ∨ r' xs H Q) :=
  fun pins s σ H xs us Q I r1 q => q.elim (fun q => h pins s σ H xs us Q I r1 q) fun q => k pins s σ H xs us Q I r1 q
theorem op_imp {X : Cx} {f : Value → Value → Sem Value} {r r' : R2} (h : OpR X f r) (i : ∀ x y H Q, r' x y H Q → r x y H Q) : OpR X f r' :=
  fun pins s σ H x y v u Q I rx ry q => h pins s σ H x y v u Q I rx ry (i _ _ _ _ q)
theorem pi_or {X : Cx} {tg l : Expr} {a b : TI} (h : PI X tg l a) (k : PI X tg l b) : PI X tg l (fun σ H R => a σ H R ∨ b σ H R) :=
  ⟨fun pins s σ H R I q => q.elim (fun q => h.run pins s σ H R I q) fun q => k.run pins s σ H R I q⟩
/-- a global name whose value stands -/
theorem pe_gl {X : Cx} {x : Str} {v : V} {pos : Pos} (hg : Gl X x) (h : ∃ u, X.mg x = some u ∧ RelV v u) (hd : (x == ("__debug__" : Str)) = false := by decide) : PE X (.Name x pos) (tC v) := by
  obtain ⟨u, hm, r⟩ := h
  exact pe_glob hg hm r hd

/-! ### the operators, of any kinds -/
def rAddP : R2 := fun x y H Q => rI0 (fun i j => .int (i + j)) x y H Q ∨ rCat x y H Q ∨ (∃ i j, x = .str i ∧ y = .str j ∧ i.length + j.length ≤ sizeLine ∧ Q (.str (i ++ j)) H)
def rSubP : R2 := rI0 fun i j => .int (i - j)
def rMulP : R2 := fun x y H Q => rI CMul (fun i j => .int (i * j)) x y H Q ∨ rRep x y H Q
def rDivP : R2 := rI CDiv fun i j => .int (i / j)
def rModP : R2 := rI (fun _ j => 0 < j) fun i j => .int (i % j)
def rPowP : R2 := rI CPow fun i j => .int (i ^ j.toNat)
def rEqP (K : PySem.W.Frag) : R2 := fun x y H Q => rEq x y H Q ∨ rEqD K x y H Q
def rNeP (K : PySem.W.Frag) : R2 := fun x y H Q => rNe x y H Q ∨ rNeD K x y H Q
def rLtP : R2 := rI0 fun i j => .bl (decide (i < j))
def rLeP : R2 := rI0 fun i j => .bl (decide (i ≤ j))
def rGtP : R2 := rI0 fun i j => .bl (decide (j < i))
def rGeP : R2 := rI0 fun i j => .bl (decide (j ≤ i))
def rIsP : R2 := fun x y H Q => (y = .non ∧ Q (.bl (decide (x = .non))) H) ∨ rIsB x y H Q
def rIsNotP : R2 := fun x y H Q => (y = .non ∧ Q (.bl (!decide (x = .non))) H) ∨ rNotB x y H Q
section
variable {X : Cx}
theorem op_addP : OpR X (binaryOp .Add) rAddP := op_add.or (op_cat.or op_add_str)
theorem op_subP : OpR X (binaryOp .Sub) rSubP := op_sub
theorem op_mulP : OpR X (binaryOp .Mult) rMulP := op_mul.or op_rep
theorem op_divP : OpR X (binaryOp .FloorDiv) rDivP := op_fdiv
theorem op_modP : OpR X (binaryOp .Mod) rModP := op_mod
theorem op_powP : OpR X (binaryOp .Pow) rPowP := op_pow
theorem op_eqP {k : Nat} (hr : Room k X.A) : OpR X (compareOp .Eq) (rEqP X.K) := op_eq.or (op_eqD hr.units)
theorem op_neP {k : Nat} (hr : Room k X.A) : OpR X (compareOp .NotEq) (rNeP X.K) := op_ne.or (op_neD hr.units)
theorem op_ltP : OpR X (compareOp .Lt) rLtP := op_lt
theorem op_leP : OpR X (compareOp .LtE) rLeP := op_le
theorem op_gtP : OpR X (compareOp .Gt) rGtP := op_gt
theorem op_geP : OpR X (compareOp .GtE) rGeP := op_ge
theorem op_isP : OpR X (compareOp .Is) rIsP := op_isN.or op_isBl
theorem op_isNotP : OpR X (compareOp .IsNot) rIsNotP := op_notN.or op_notBl
end
def rIxP (K : PySem.W.Frag) : R2 := rIx K
theorem ix_P {X : Cx} : IxR X (rIxP X.K) := ix_seq
section
variable {prog : Program} {w : World} {A : Around} {E : Value → Shared → Prop} {s : Shared}
theorem tup_whole {t sl : Addr} {items : Array Value} {vl vu : Value} {lo hi : Option Int} {Q : Value → Shared → Prop} (ht : IsTup s.heap t items) (hs : s.heap.IsSliceOf sl vl vu .none) (pl : IsPart vl lo) (pu : IsPart vu hi)
    (hw : HT.sIx items.size 0 lo = 0 ∧ HT.sIx items.size items.size hi = items.size) (h : Q (.ref t) s) : wpAny (model prog w) A (getItem (.ref t) (.ref sl)) Q E s := by
  obtain ⟨os, hos, hcs, hds⟩ := id hs
  have hTs : s.TypeIs (.ref sl) "slice" := ⟨os, hos, hcs⟩
  unfold getItem
  try with_reducible refine wpAny_holding ?_
  first | refine wpAny_bind (wpAny_pure ?_) | skip
  refine wpAny_bind (wpAny_sequenceKey ht.typeIs (by decide) ?_)
  refine wpAny_bind (wpAny_callSpecial?_slot (name := Str.ofString "__getitem__") ht.typeIs PyProof.Rows.slot_tuple_getitem (wpAny_call_entry PyProof.Rows.slot_tuple_getitem ht.typeIs entry_tuple_getitem ?_ (args_tuple_getitem _ _)))
  show wpAny _ _ (Builtin.Tuple.tupleItemsOf (.ref t) >>= _) _ _ s
  refine wpAny_bind (tupleItemsOf_ ht (wpAny_bind (wpAny_typeOf hTs ?_)))
  rw [if_pos (by decide)]
  refine wpAny_bind (HT.sliceApplied_gen hs pl pu ?_)
  have yes : ((((HT.sIx items.size 0 lo : Nat) : Int) == 0 && (1 : Int) == 1 && (HT.sIx items.size items.size hi - HT.sIx items.size 0 lo) == items.size) = true) := by
    rw [hw.1, hw.2]; simp
  show wpAny _ _ (if (((HT.sIx items.size 0 lo : Nat) : Int) == 0 && (1 : Int) == 1 && (HT.sIx items.size items.size hi - HT.sIx items.size 0 lo) == items.size) = true then _ else _) _ _ s
  rw [if_pos yes]
  refine wpAny_bind (m := Builtin.Tuple.tupleIsExact _) (wpAny_bind (wpAny_typeOf ht.typeIs (wpAny_pure ?_)))
  show wpAny _ _ (if (Value.type "tuple" == Value.type "tuple") = true then _ else _) _ _ s
  rw [if_pos (by decide)]
  first
    | exact wpAny_bind (wpAny_rule (wpAny_bind (wpAny_pure (wpAny_pure ⟨_, rfl, wpAny_pure h⟩))))
    | exact wpAny_bind (wpAny_rule (wpAny_pure ⟨_, rfl, wpAny_pure h⟩))
    | exact wpAny_bind (wpAny_rule (wpAny_bind (wpAny_pure ⟨_, rfl, wpAny_pure h⟩)))
end
def rSlW (K : PySem.W.Frag) : V → Option Int → Option Int → Hp → VK → Prop := fun x lo hi H Q => ∃ a xs, x = .ref a ∧ SqT K H a xs ∧ (HT.sIx xs.length 0 lo = 0 ∧ HT.sIx xs.length xs.length hi = xs.length) ∧ Q (.ref a) H
theorem sl_tupW {X : Cx} : SlR X (rSlW X.K) := by
  intro pins s σ H x v vl vu lo hi sl Q I rx hs pl pu h
  obtain ⟨a, xs, rfl, hx, hw, q⟩ := h
  cases rx
  obtain ⟨its, r, ht, hz⟩ := I.tuple hx
  have e : its.toArray.size = xs.length := r.length.symm
  exact ⟨"tuple", _, PyProof.Rows.slot_tuple_getitem.lookup, ht.typeIs, tup_whole ht hs pl pu (by rw [e]; exact hw) ⟨.ref a, H, I, rfl, q⟩⟩

def rSlP (K : PySem.W.Frag) : V → Option Int → Option Int → Hp → VK → Prop := fun x lo hi H Q => rSlL K x lo hi H Q ∨ rSlT K x lo hi H Q ∨ rSlS x lo hi H Q ∨ rSlW K x lo hi H Q
theorem sl_P {X : Cx} : SlR X (rSlP X.K) := sl_list.or (sl_tup.or (sl_str.or sl_tupW))
def rInP (K : PySem.W.Frag) : R2 := fun x y H Q => rIn K false x y H Q ∨ (∃ (c : Nat) (z : Str), x = .str ⟨#[c]⟩ ∧ y = .str z ∧ Q (.bl (decide (c ∈ z.cps.toList))) H)
def rNotInP (K : PySem.W.Frag) : R2 := fun x y H Q => rIn K true x y H Q ∨ (∃ (c : Nat) (z : Str), x = .str ⟨#[c]⟩ ∧ y = .str z ∧ Q (.bl (!decide (c ∈ z.cps.toList))) H)
theorem op_inP {X : Cx} : OpR X (compareOp .In) (rInP X.K) := op_in_seq.or op_in_sign
theorem op_notInP {X : Cx} : OpR X (compareOp .NotIn) (rNotInP X.K) := op_notIn_seq.or op_notIn_sign

/-! ### heaps -/
/-- a new object -/
structure New (H : Hp) (p : Addr) (o : HO) (H1 : Hp) : Prop where
  free : H p = none
  eq : H1 = upd H p o
/-- an object written -/
structure Wr (H : Hp) (a : Addr) (o : HO) (H1 : Hp) : Prop where
  was : ∃ u, H a = some u
  eq : H1 = upd H a o
section
variable {H H1 H2 : Hp} {p a b : Addr} {o u : HO}
theorem New.at (n : New H p o H1) : H1 p = some o := by rw [n.eq]; exact upd_same
theorem New.ne (n : New H p o H1) (h : H a = some u) : a ≠ p := ne_of_none h n.free
theorem New.old (n : New H p o H1) (h : H a = some u) : H1 a = some u := by rw [n.eq, upd_ne (n.ne h)]; exact h
theorem New.same (n : New H p o H1) : Same H H1 := fun _ _ h => n.old h
theorem Wr.at (n : Wr H a o H1) : H1 a = some o := by rw [n.eq]; exact upd_same
theorem Wr.old (n : Wr H a o H1) (hn : b ≠ a) (h : H b = some u) : H1 b = some u := by rw [n.eq, upd_ne hn]; exact h
theorem Same.at (s : Same H H1) (h : H a = some u) : H1 a = some u := s _ _ h
/-- what was new is written: what stood ahead stands -/
theorem Same.wr (s : Same H H1) (n : H a = none) (w : Wr H1 a o H2) : Same H H2 := fun b u h => w.old (ne_of_none h n) (s _ _ h)
theorem new_of {R : Addr → Hp → Prop} (h : ∀ p H1, New H p o H1 → R p H1) : ∀ p, H p = none → R p (upd H p o) := fun p n => h p _ ⟨n, rfl⟩
theorem wr_of {R : Hp → Prop} (hp : H a = some u) (h : ∀ H1, Wr H a o H1 → R H1) : R (upd H a o) := h _ ⟨⟨u, hp⟩, rfl⟩
end

/-! ### the steps -/
def BlK (Q : Bool → Hp → Prop) : VK := fun x H => ∃ k, x = .bl k ∧ Q k H
section
variable {σ : St} {H : Hp} {Q : VK} {QB : Bool → Hp → Prop} {QA : List V → Hp → Prop} {nx bk ct : St → Hp → Prop} {rt : VK} {ta tb tc te : TE} {t u : TS} {i j : Int} {v x y : V} {r r' : R2} {K : PySem.W.Frag} {tA tB' : TT} {l : TA}
theorem go_var {i : Nat} (h : σ[i]? = some (some v)) (q : Q v H) : tVar i σ H Q := ⟨v, h, q⟩
theorem go_c (q : Q v H) : tC v σ H Q := q
theorem go_op (q : ta σ H fun x H1 => tb σ H1 fun y H2 => r x y H2 Q) : tOp r ta tb σ H Q := q
theorem go_un {r : V → Hp → VK → Prop} (q : ta σ H fun x H1 => r x H1 Q) : tUn r ta σ H Q := q
theorem go_rU {g : Int → V} (q : Q (g i) H) : rU g (.int i) H Q := ⟨i, rfl, q⟩
theorem go_blk {k : Bool} (q : QB k H) : BlK QB (.bl k) H := ⟨k, rfl, q⟩
theorem go_blk' {k : Bool} (q : QB k H) : ∃ c, V.bl k = .bl c ∧ QB c H := ⟨k, rfl, q⟩
theorem go_test (q : te σ H (BlK QB)) : tTest te σ H QB := q
theorem go_tB (q : te σ H (BlK QB)) : tB te σ H QB := q
theorem go_and (q : tA σ H fun c H1 => if c = true then tB' σ H1 QB else QB false H1) : tAnd tA tB' σ H QB := q
theorem go_or (q : tA σ H fun c H1 => if c = true then QB true H1 else tB' σ H1 QB) : tOr tA tB' σ H QB := q
theorem go_not (q : tA σ H fun c H1 => QB (!c) H1) : tNot tA σ H QB := q
theorem go_andV (q : ta σ H (BlK fun c H1 => if c = true then tb σ H1 Q else Q (.bl false) H1)) : tAndV ta tb σ H Q := q
theorem go_orV (q : ta σ H (BlK fun c H1 => if c = true then Q (.bl true) H1 else tb σ H1 Q)) : tOrV ta tb σ H Q := q
theorem go_notV (q : ta σ H (BlK fun c H1 => Q (.bl (!c)) H1)) : tNotV ta σ H Q := q
theorem go_if (q : tA σ H fun c H1 => if c = true then ta σ H1 Q else tb σ H1 Q) : tIf tA ta tb σ H Q := q
theorem go_chain (q : ta σ H fun x H1 => tb σ H1 fun y H2 => r x y H2 (BlK fun k H3 => if k = true then tc σ H3 fun w' H4 => r' y w' H4 Q else Q (.bl false) H3)) : tChain r r' ta tb tc σ H Q := q
-- statements
theorem go_seq (q : t ⟨fun σ H => u ⟨nx, rt, bk, ct⟩ σ H, rt, bk, ct⟩ σ H) : tSeq t u ⟨nx, rt, bk, ct⟩ σ H := q
theorem go_ret (q : te σ H rt) : tRet te ⟨nx, rt, bk, ct⟩ σ H := q
theorem go_retN (q : rt .non H) : tRetN ⟨nx, rt, bk, ct⟩ σ H := q
theorem go_next (q : nx σ H) : tNext ⟨nx, rt, bk, ct⟩ σ H := q
theorem go_drop (q : te σ H fun _ H1 => nx σ H1) : tDrop te ⟨nx, rt, bk, ct⟩ σ H := q
theorem go_asg {g : TG} (q : te σ H fun x H1 => g x σ H1 nx) : tAsg te g ⟨nx, rt, bk, ct⟩ σ H := q
theorem go_name {i : Nat} {n : St → Hp → Prop} (q : n (σ.set i (some v)) H) : gName i v σ H n := q
theorem go_name2 {i : Nat} {n : St → Hp → Prop} {σ' : St} (h : σ.set i (some v) = σ') (q : n σ' H) : gName i v σ H n := by subst h; exact q
theorem go_ifS {c : TT} (q : c σ H fun b H1 => if b = true then t ⟨nx, rt, bk, ct⟩ σ H1 else u ⟨nx, rt, bk, ct⟩ σ H1) : tIfS c t u ⟨nx, rt, bk, ct⟩ σ H := q
theorem go_T {c : Bool} {A B : Prop} (h : c = true) (q : A) : if c = true then A else B := by rw [if_pos h]; exact q
theorem go_F {c : Bool} {A B : Prop} (h : c = false) (q : B) : if c = true then A else B := by rw [h, if_neg Bool.false_ne_true]; exact q
theorem go_ite {c : Bool} {A B : Prop} (h : c = true → A) (k : c = false → B) : if c = true then A else B := by
  cases c
  · exact iteF (k rfl)
  · exact iteT (h rfl)
theorem go_Td {p A B : Prop} [Decidable p] (h : p) (q : A) : if decide p = true then A else B := go_T (decide_eq_true h) q
theorem go_Fd {p A B : Prop} [Decidable p] (h : ¬ p) (q : B) : if decide p = true then A else B := go_F (decide_eq_false h) q
theorem go_Tn {p A B : Prop} [Decidable p] (h : ¬ p) (q : A) : if (!decide p) = true then A else B := go_T (by rw [decide_eq_false h]; rfl) q
theorem go_Fn {p A B : Prop} [Decidable p] (h : p) (q : B) : if (!decide p) = true then A else B := go_F (by rw [decide_eq_true h]; rfl) q
theorem go_dec {p A B : Prop} [Decidable p] (h : p → A) (k : ¬ p → B) : if decide p = true then A else B := by
  by_cases c : p
  · exact go_Td c (h c)
  · exact go_Fd c (k c)
-- operators
theorem go_addI (q : Q (.int (i + j)) H) : rAddP (.int i) (.int j) H Q := .inl ⟨i, j, rfl, rfl, q⟩
theorem go_addL {a b : Addr} {xs ys : List V} (h : H a = some (.lst xs)) (k : H b = some (.lst ys)) (hz : xs.length + ys.length ≤ sizeLine) (q : ∀ p H1, New H p (.lst (xs ++ ys)) H1 → Q (.ref p) H1) : rAddP (.ref a) (.ref b) H Q :=
  .inr (.inl ⟨a, b, xs, ys, rfl, rfl, h, k, hz, new_of q⟩)
theorem go_addS {z w : Str} (hz : z.length + w.length ≤ sizeLine) (q : Q (.str (z ++ w)) H) : rAddP (.str z) (.str w) H Q := .inr (.inr ⟨z, w, rfl, rfl, hz, q⟩)
theorem go_sub (q : Q (.int (i - j)) H) : rSubP (.int i) (.int j) H Q := ⟨i, j, rfl, rfl, q⟩
theorem go_mulI (h : CMul i j) (q : Q (.int (i * j)) H) : rMulP (.int i) (.int j) H Q := .inl ⟨i, j, rfl, rfl, h, q⟩
theorem go_mulL {a : Addr} {xs : List V} (h : H a = some (.lst xs)) (h1 : -(2 ^ 63) ≤ j ∧ j < 2 ^ 63 ∧ xs.length * j.toNat ≤ sizeLine) (q : ∀ p H1, New H p (.lst (List.replicate j.toNat xs).flatten) H1 → Q (.ref p) H1) : rMulP (.ref a) (.int j) H Q :=
  .inr ⟨a, j, xs, rfl, rfl, h, h1.1, h1.2.1, h1.2.2, new_of q⟩
theorem go_div (h : CDiv i j) (q : Q (.int (i / j)) H) : rDivP (.int i) (.int j) H Q := ⟨i, j, rfl, rfl, h, q⟩
theorem go_mod (h : 0 < j) (q : Q (.int (i % j)) H) : rModP (.int i) (.int j) H Q := ⟨i, j, rfl, rfl, h, q⟩
theorem go_pow (h : CPow i j) (q : Q (.int (i ^ j.toNat)) H) : rPowP (.int i) (.int j) H Q := ⟨i, j, rfl, rfl, h, q⟩
theorem go_lt (q : Q (.bl (decide (i < j))) H) : rLtP (.int i) (.int j) H Q := ⟨i, j, rfl, rfl, q⟩
theorem go_le (q : Q (.bl (decide (i ≤ j))) H) : rLeP (.int i) (.int j) H Q := ⟨i, j, rfl, rfl, q⟩
theorem go_gt (q : Q (.bl (decide (j < i))) H) : rGtP (.int i) (.int j) H Q := ⟨i, j, rfl, rfl, q⟩
theorem go_ge (q : Q (.bl (decide (j ≤ i))) H) : rGeP (.int i) (.int j) H Q := ⟨i, j, rfl, rfl, q⟩
theorem decI {i j : Int} : decide (V.int i = V.int j) = decide (i = j) := by by_cases h : i = j <;> simp [h]
theorem decB {i j : Bool} : decide (V.bl i = V.bl j) = decide (i = j) := by by_cases h : i = j <;> simp [h]
theorem decS {i j : Str} : decide (V.str i = V.str j) = decide (i = j) := by by_cases h : i = j <;> simp [h]
theorem go_eqI (q : Q (.bl (decide (i = j))) H) : rEqP K (.int i) (.int j) H Q := .inl ⟨rfl, by rw [decI]; exact q⟩
theorem go_eqB {i j : Bool} (q : Q (.bl (decide (i = j))) H) : rEqP K (.bl i) (.bl j) H Q := .inl ⟨rfl, by rw [decB]; exact q⟩
theorem go_eqS {i j : Str} (q : Q (.bl (decide (i = j))) H) : rEqP K (.str i) (.str j) H Q := .inl ⟨rfl, by rw [decS]; exact q⟩
theorem go_neI (q : Q (.bl (!decide (i = j))) H) : rNeP K (.int i) (.int j) H Q := .inl ⟨rfl, by rw [decI]; exact q⟩
theorem go_neB {i j : Bool} (q : Q (.bl (!decide (i = j))) H) : rNeP K (.bl i) (.bl j) H Q := .inl ⟨rfl, by rw [decB]; exact q⟩
theorem go_neS {i j : Str} (q : Q (.bl (!decide (i = j))) H) : rNeP K (.str i) (.str j) H Q := .inl ⟨rfl, by rw [decS]; exact q⟩
theorem go_eqSc (h : scal x y = true) (q : Q (.bl (decide (x = y))) H) : rEqP K x y H Q := .inl ⟨h, q⟩
theorem go_neSc (h : scal x y = true) (q : Q (.bl (!decide (x = y))) H) : rNeP K x y H Q := .inl ⟨h, q⟩
theorem go_isN (q : Q (.bl (decide (x = .non))) H) : rIsP x .non H Q := .inl ⟨rfl, q⟩
theorem go_isNotN (q : Q (.bl (!decide (x = .non))) H) : rIsNotP x .non H Q := .inl ⟨rfl, q⟩
theorem go_isB {i j : Bool} (q : Q (.bl (decide (i = j))) H) : rIsP (.bl i) (.bl j) H Q := .inr ⟨i, j, rfl, rfl, q⟩
theorem go_isNotB {i j : Bool} (q : Q (.bl (!decide (i = j))) H) : rIsNotP (.bl i) (.bl j) H Q := .inr ⟨i, j, rfl, rfl, q⟩
-- lists of arguments, displays
theorem go_nil (q : QA [] H) : tNil σ H QA := q
theorem go_cons (q : ta σ H fun x H1 => l σ H1 fun xs H2 => QA (x :: xs) H2) : tCons ta l σ H QA := q
theorem go_lst {xs : List V} (hz : xs.length ≤ sizeLine) (q : ∀ p H1, New H p (.lst xs) H1 → Q (.ref p) H1) : (fun xs H1 => xs.length ≤ sizeLine ∧ ∀ p, H1 p = none → Q (.ref p) (upd H1 p (.lst xs))) xs H := ⟨hz, new_of q⟩
def LstK (Q : VK) : List V → Hp → Prop := fun xs H1 => xs.length ≤ sizeLine ∧ ∀ p, H1 p = none → Q (.ref p) (upd H1 p (.lst xs))
def TupK (Q : VK) : List V → Hp → Prop := fun xs H1 => xs.length ≤ sizeLine ∧ ∀ p, H1 p = none → Q (.ref p) (upd H1 p (.tup xs))
theorem go_tLst (q : l σ H (LstK Q)) : tLst l σ H Q := q
theorem go_tTup (q : l σ H (TupK Q)) : tTup l σ H Q := q
theorem go_LstK {xs : List V} (hz : xs.length ≤ sizeLine) (q : ∀ p H1, New H p (.lst xs) H1 → Q (.ref p) H1) : LstK Q xs H := ⟨hz, new_of q⟩
theorem go_TupK {xs : List V} (hz : xs.length ≤ sizeLine) (q : ∀ p H1, New H p (.tup xs) H1 → Q (.ref p) H1) : TupK Q xs H := ⟨hz, new_of q⟩
-- slices, places
theorem go_sl {rs : V → Option Int → Option Int → Hp → VK → Prop} {tl th : TO} (q : te σ H fun x H1 => tl σ H1 fun l H2 => th σ H2 fun u H3 => rs x l u H3 Q) : tSl rs te tl th σ H Q := q
theorem go_noPart {QO : Option Int → Hp → Prop} (q : QO none H) : tNoPart σ H QO := q
def IntK (QO : Option Int → Hp → Prop) : VK := fun x H1 => ∃ i, x = .int i ∧ QO (some i) H1
theorem go_part {QO : Option Int → Hp → Prop} (q : te σ H (IntK QO)) : tPart te σ H QO := q
theorem go_intK {QO : Option Int → Hp → Prop} (q : QO (some i) H) : IntK QO (.int i) H := ⟨i, rfl, q⟩
theorem go_slL {a : Addr} {xs : List V} {lo hi : Option Int} (h : H a = some (.lst xs)) (q : ∀ p H1, New H p (.lst (cutV xs lo hi)) H1 → Q (.ref p) H1) : rSlP K (.ref a) lo hi H Q := .inl ⟨a, xs, rfl, SqL.of h, new_of q⟩
theorem go_slW {a : Addr} {xs : List V} (h : H a = some (.tup xs)) (q : Q (.ref a) H) : rSlP K (.ref a) none none H Q := .inr (.inr (.inr ⟨a, xs, rfl, SqT.of h, ⟨rfl, rfl⟩, q⟩))
theorem go_ixL {a : Addr} {xs : List V} (h : H a = some (.lst xs)) (hv : atI xs i = some v) (q : Q v H) : rIxP K (.ref a) (.int i) H Q := .inl ⟨a, xs, i, v, rfl, rfl, SqL.of h, hv, q⟩
theorem go_ixT {a : Addr} {xs : List V} (h : H a = some (.tup xs)) (hv : atI xs i = some v) (q : Q v H) : rIxP K (.ref a) (.int i) H Q := .inr (.inl ⟨a, xs, i, v, rfl, rfl, SqT.of h, hv, q⟩)
theorem go_ixS {z : Str} {c : Nat} (hz : z.length ≤ sizeLine) (hv : atI z.cps.toList i = some c) (q : Q (.str ⟨#[c]⟩) H) : rIxP K (.str z) (.int i) H Q := .inr (.inr ⟨z, i, c, rfl, rfl, hz, hv, q⟩)
-- calls
theorem go_cb {r : List V → Hp → VK → Prop} (q : l σ H fun vs H1 => r vs H1 Q) : tCB r l σ H Q := q
theorem go_callS {sp : Sp} {E : St → XK} (q : l σ H fun vs H1 => sp vs H1 Q (E σ)) : tCallS sp E l σ H Q := q
end
end Bk

/-! ### calls of the text's own defs, in any context; defs by their own readings -/
namespace Bk
open PySem L2 PyProof.Rows
/-- what is wanted of what is raised: at a def's body; where nothing may be -/
def WM (E : XK) : WX := fun cls d _ H => E cls d H
def W0 : WX := fun _ _ _ _ => False
def F0 : St → Hp → Prop := fun _ _ => False
theorem takesM {X : Cx} {E : XK} (hs : X.stack = X.env :: X.outer) (hf : X.env.frame = some X.env.locals) (hex : X.ex = []) {E₁ : Value → Shared → Prop}
    (hx : X.xe = fun e s' => wpAny (model X.prog X.w) X.A (leaving X.env e) (fun _ s'' => L2N.CX X.prog X.w X.outer X.H_0 X.s_0 E e s'') E₁ s') : L2N.Takes X (WM E) := L2N.takes_of hs hf hex hx
theorem takesN {X : Cx} : L2N.Takes X W0 := fun _ _ x => by
  obtain ⟨_, _, _, _, _, _, _, _, _, _, _, _, _, _, _, _, z⟩ := x
  exact z.elim
theorem okN {P : Program} {w : World} {K : PySem.W.Frag} {mg : Str → Option Value} {base : Heap} {x qual : Str} {st : Stmt} {f : Addr} {fd : FuncData} {N ps : List Str} {k : Nat} {t : XK → TS}
    (F : Fun K x qual st f fd) (S : FnScope N ps (defScope st))
    (hbody : ∀ (cdv : Value) (A : Around) (outer : List Env) (s : Shared) (H : Hp) (E : XK), Room k (A.deeper (envOfC qual (defScope st) s.heap.objs.size f cdv)) →
      PSs (cxOf (L2N.CX P w) P w K mg base N qual (defScope st) f cdv A outer s H E) (defBody st) (t E)) :
    FnOk P w K mg base (L2N.CX P w) (k + 1) f fd ps (fun vs H Q E => vs.length = ps.length ∧ t E ⟨fun _ H' => Q .non H', Q, F0, F0⟩ (start N vs) H) := by
  obtain ⟨oc, od, kV, doc, pm, an, cdv, ct, osl, rfl, lk, hcd⟩ := F.ex
  refine fn_of lk hcd S (fun _ _ _ _ h => h.1) fun A outer s H vs Q E hr h => ⟨t E, hbody cdv A outer s H E hr, h.2⟩
section
variable {X : Cx} {k j : Nat} {f C : Addr} {fd : FuncData} {ps : List Str} {sp : Sp} {W : WX} {x m : Str} {p pos apos : Pos} {e o : Expr} {es : List Expr} {ta : TE} {t : TA}
theorem callE (F : FnOk X.prog X.w X.K X.mg X.base (L2N.CX X.prog X.w) k f fd ps sp) (tk : L2N.Takes X W) (hr : Room j X.A) (hj : k ≤ j) (hg : Gl X x) (hm : X.mg x = some (.ref f)) (hk : PySem.W.keepIn X.K (.ref f) = true) (hb : Binds X.K fd ps [])
    (ha : PA X (e :: es) t) (hdb : (x == ("__debug__" : Str)) = false := by decide) (he : starEach (e :: es) X.env = (false, eval e X.env) :: starEach es X.env := by rfl) (hpl : (backTo pos (starEach es X.env)).any (·.1) = false := by rfl) :
    PE X (.Call (.Name x p) (e :: es) [] pos) (tCallS sp (WE W) t) := pe_callS F (hr.mono hj) hg hm hk hb (fun σ => L2N.passAt tk σ) ha hdb he hpl
def tCall0 (sp : Sp) (E : St → XK) : TE := fun σ H Q => sp [] H Q (E σ)
theorem callE0 (F : FnOk X.prog X.w X.K X.mg X.base (L2N.CX X.prog X.w) k f fd ps sp) (tk : L2N.Takes X W) (hr : Room j X.A) (hj : k ≤ j) (hg : Gl X x) (hm : X.mg x = some (.ref f)) (hk : PySem.W.keepIn X.K (.ref f) = true) (hb : Binds X.K fd ps [])
    (hdb : (x == ("__debug__" : Str)) = false := by decide) : PE X (.Call (.Name x p) [] [] pos) (tCall0 sp (WE W)) := by
  refine ⟨fun pins s σ H Q I h => ?_⟩
  refine wpAny_Call_Name_kw (ld_glob I hg hm ?_ hdb)
  exact PySem.W.callWith_K0 I.kIn hk (run_fnS (us := []) F (hr.mono hj) hb (L2N.passAt tk σ) I .nil h)
end
end Bk

/-! ### methods of own classes, makings -/
namespace Bk
open PySem L2 PyProof.Rows
/-- an own method that stands for the class at C -/
structure MethOk (X : Cx) (m : Str) (k : Nat) (C : Addr) (sp : Sp) : Prop where
  c : Cls X.K C
  ex : ∃ f fd ps, Meth X.K C m f ∧ FnOk X.prog X.w X.K X.mg X.base (L2N.CX X.prog X.w) k f fd ps sp ∧ Binds X.K fd ps []
inductive AltsOk (X : Cx) (m : Str) (k : Nat) : List (Addr × Sp) → Prop
  | nil : AltsOk X m k []
  | cons {C : Addr} {sp : Sp} {l : List (Addr × Sp)} (h : MethOk X m k C sp) (r : AltsOk X m k l) : AltsOk X m k ((C, sp) :: l)
theorem AltsOk.get {X : Cx} {m : Str} {k : Nat} : ∀ {l : List (Addr × Sp)}, AltsOk X m k l → ∀ {C : Addr} {sp : Sp}, (C, sp) ∈ l → MethOk X m k C sp
  | _, .nil, _, _, h => by cases h
  | _, .cons h r, _, _, q => by
    rcases List.mem_cons.mp q with e | q
    · cases e; exact h
    · exact r.get q
theorem MethOk.mk' {X : Cx} {m : Str} {k j : Nat} {C f : Addr} {sp : Sp} {fd : FuncData} {ps : List Str} (c : Cls X.K C) (hm : Meth X.K C m f) (F : FnOk X.prog X.w X.K X.mg X.base (L2N.CX X.prog X.w) j f fd ps sp) (hb : Binds X.K fd ps []) (hj : j ≤ k) : MethOk X m k C sp :=
  ⟨c, f, fd, ps, hm, F.mono hj, hb⟩
def tMethP (m : Str) (alts : List (Addr × Sp)) (E : St → XK) (ta : TE) (t : TA) : TE := fun σ H Q => ta σ H fun x H1 => ∃ a dx fs C sp, x = .ref a ∧ H1 a = some (.ins C dx fs) ∧ fs.lookup m = none ∧ (C, sp) ∈ alts ∧
  t σ H1 fun vs H2 => sp (x :: vs) H2 Q (E σ)
section
variable {X : Cx} {k j : Nat} {f C : Addr} {fd : FuncData} {ps : List Str} {sp : Sp} {W : WX} {x m : Str} {p pos apos : Pos} {e o : Expr} {es : List Expr} {ta : TE} {t : TA} {alts : List (Addr × Sp)}
theorem methE {pl : Sem Bool} (he : PE X o ta) (al : AltsOk X m k alts) (tk : L2N.Takes X W) (hr : Room j X.A) (hj : k ≤ j) (ha : PA X (e :: es) t)
    (hst : starEach (e :: es) X.env = (false, eval e X.env) :: starEach es X.env := by rfl) (hpl : (backTo pos (starEach es X.env)).any (·.1) = false := by rfl)
    (ht : eval (.Call (.Attribute o m apos) (e :: es) [] pos) X.env = (do
      let ov ← eval o X.env
      standAt apos.atName
      let (f, first) ← holding [ov] (getMethod ov m pl)
      callWith pos f first (backTo pos (starEach (e :: es) X.env)) (backToKw pos (keywordEach [] X.env))) := by rfl) :
    PE X (.Call (.Attribute o m apos) (e :: es) [] pos) (tMethP m alts (WE W) ta t) := by
  refine ⟨fun pins s σ H Q I h => ?_⟩
  refine PySem.W.methodCall_KW (pl := pl) (thn (he.run pins s σ H _ I h) fun u s1 ⟨x, H1, I1, rx, a, dx, fs, C, sp, ex, ea, l, hin, q⟩ => ?_) ht
  subst ex
  obtain rfl : u = Value.ref a := rx
  obtain ⟨c, f, fd, ps, hm, F, hb⟩ := al.get hin
  refine getmeth_ok I1 ea c hm l ?_
  refine PySem.W.callWith_K (first := [.ref a]) (h₀ := X.base) I.ok.mod.kin hm.kp (thn (ha.run pos pins s1 σ H1 _ I1 q) fun us s2 ⟨vs, H2, I2, r, q2⟩ => ⟨I2.kIn, ?_⟩) hst hpl
  exact run_fnS (us := .ref a :: us) (vs := .ref a :: vs) F (hr.mono hj) hb (L2N.passAt tk σ) I2 (.cons rfl r) q2
theorem methE0 {pl : Sem Bool} (he : PE X o ta) (al : AltsOk X m k alts) (tk : L2N.Takes X W) (hr : Room j X.A) (hj : k ≤ j)
    (ht : eval (.Call (.Attribute o m apos) [] [] pos) X.env = (do
      let ov ← eval o X.env
      standAt apos.atName
      let (f, first) ← holding [ov] (getMethod ov m pl)
      callWith pos f first (backTo pos (starEach [] X.env)) (backToKw pos (keywordEach [] X.env))) := by rfl) :
    PE X (.Call (.Attribute o m apos) [] [] pos) (tMethP m alts (WE W) ta tNil) := by
  refine ⟨fun pins s σ H Q I h => ?_⟩
  refine PySem.W.methodCall_KW (pl := pl) (thn (he.run pins s σ H _ I h) fun u s1 ⟨x, H1, I1, rx, a, dx, fs, C, sp, ex, ea, l, hin, q⟩ => ?_) ht
  subst ex
  obtain rfl : u = Value.ref a := rx
  obtain ⟨c, f, fd, ps, hm, F, hb⟩ := al.get hin
  refine getmeth_ok I1 ea c hm l ?_
  exact PySem.W.callWith_K0 (first := [.ref a]) I1.kIn hm.kp (run_fnS (us := [.ref a]) (vs := [.ref a]) F (hr.mono hj) hb (L2N.passAt tk σ) I1 (.cons rfl .nil) q)
def tMakeE (C : Addr) (sp : Sp) (E : St → XK) (t : TA) : TE := fun σ H Q => t σ H fun vs H1 => ∀ x dx, H1 x = none → H1 dx = none → dx ≠ x → sp (.ref x :: vs) (upd (upd H1 dx (.own x)) x (.ins C dx [])) (fun v H2 => v = .non ∧ Q (.ref x) H2) (E σ)
theorem run_makeS {pins : List (Addr × Obj)} {σ : St} {H : Hp} {s : Shared} {Q : VK} {us : List Value} {vs : List V} {E : St → XK} (M : Mk X.K C f) (F : FnOk X.prog X.w X.K X.mg X.base (L2N.CX X.prog X.w) k f fd ps sp) (hr : Room (k + 1) X.A) (hb : Binds X.K fd ps [])
    (hx : ∀ σ, PassesAt (L2N.CX X.prog X.w) X σ (E σ)) (I : Inv X pins σ H s) (r : Vals vs us)
    (h : ∀ x dx, H x = none → H dx = none → dx ≠ x → sp (.ref x :: vs) (upd (upd H dx (.own x)) x (.ins C dx [])) (fun v H2 => v = .non ∧ Q (.ref x) H2) (E σ)) :
    wpAny (model X.prog X.w) X.A (call (.ref C) us) (EP X pins σ Q) X.xe s := by
  have hq := h (s.heap.objs.size + 1) s.heap.objs.size (I.hok.fresh (Nat.le_succ _)) (I.hok.fresh (Nat.le_refl _)) (Nat.ne_of_lt (Nat.lt_succ_self _))
  have I2 := Inv.made (C := C) I
  have r2 : Vals (V.ref (s.heap.objs.size + 1) :: vs) (Value.ref (s.heap.objs.size + 1) :: us) := .cons rfl r
  have hl : (Value.ref (s.heap.objs.size + 1) :: us ++ []).length = ps.length := by
    have e := r2.length
    rw [F.len _ _ _ _ hq] at e
    rw [List.append_nil]
    exact e.symm
  have b := hb { s with heap := (s.heap.push { cls := .type "dict", data := .dict #[] }).push (PySem.W.instObj C s.heap.objs.size) } (Value.ref (s.heap.objs.size + 1) :: us) I2.kIn hl
  rw [List.append_nil] at b
  refine wpAny_call (make_map (f := f) I.kIn M.makes M.init (beq_iff_eq.mp M.fn) (codeAny_mono (F.run _ X.stack _ _ ⟨Value.ref (s.heap.objs.size + 1) :: us, []⟩ (Value.ref (s.heap.objs.size + 1) :: us) _ _ (E σ) (hr.make C us [])
    (I2.env0.make C us []) b r2 hq) fun r s' hq' => ?_))
  cases r with
  | error e => exact hx σ pins _ _ e s' I2 hq'
  | ok fl =>
    cases fl with
    | ret u =>
      obtain ⟨v, H', I3, rv, ev, q3⟩ := I2.after hq'
      subst ev
      exact ⟨rv, ⟨V.ref (s.heap.objs.size + 1), H', I3, rfl, q3⟩⟩
    | next => exact False.elim hq'
    | brk => exact False.elim hq'
    | cont => exact False.elim hq'
theorem makeE (M : Mk X.K C f) (F : FnOk X.prog X.w X.K X.mg X.base (L2N.CX X.prog X.w) k f fd ps sp) (tk : L2N.Takes X W) (hr : Room j X.A) (hj : k + 1 ≤ j) (hg : Gl X x) (hm : X.mg x = some (.ref C)) (hb : Binds X.K fd ps [])
    (ha : PA X (e :: es) t) (hdb : (x == ("__debug__" : Str)) = false := by decide) (he : starEach (e :: es) X.env = (false, eval e X.env) :: starEach es X.env := by rfl) (hpl : (backTo pos (starEach es X.env)).any (·.1) = false := by rfl) :
    PE X (.Call (.Name x p) (e :: es) [] pos) (tMakeE C sp (WE W) t) := by
  refine ⟨fun pins s σ H Q I h => ?_⟩
  refine wpAny_Call_Name_kw (ld_glob I hg hm ?_ hdb)
  refine PySem.W.callWith_K (h₀ := X.base) I.ok.mod.kin M.kp (thn (ha.run pos pins s σ H _ I h) fun us s1 ⟨vs, H1, I1, r, q⟩ => ⟨I1.kIn, ?_⟩) he hpl
  exact run_makeS M F (hr.mono hj) hb (fun σ => L2N.passAt tk σ) I1 r q
end
end Bk

/-! ### built-ins, of any kinds -/
namespace Bk
open PySem L2 PyProof.Rows
def rLenP (K : PySem.W.Frag) : List V → Hp → VK → Prop := fun xs H Q => (∃ x n, xs = [x] ∧ LenV K x H n ∧ Q (.int n) H) ∨ ∃ a kvs, xs = [V.ref a] ∧ H a = some (.dK kvs) ∧ Q (.int kvs.length) H
def rListP (K : PySem.W.Frag) : List V → Hp → VK → Prop := fun xs H Q => ∃ p ys, xs = [.ref p] ∧ (SqL K H p ys ∨ SqT K H p ys) ∧ ∀ l, H l = none → Q (.ref l) (upd H l (.lst ys))
def rTupleP (K : PySem.W.Frag) : List V → Hp → VK → Prop := fun xs H Q => ∃ p ys, xs = [.ref p] ∧ ((SqL K H p ys ∧ ∀ l, H l = none → Q (.ref l) (upd H l (.tup ys))) ∨ (SqT K H p ys ∧ Q (.ref p) H))
def rIntB : List V → Hp → VK → Prop := fun xs H Q => (∃ i, xs = [.int i] ∧ Q (.int i) H) ∨ ∃ k, xs = [.bl k] ∧ Q (.int (if k then 1 else 0)) H
def rIntP : List V → Hp → VK → Prop := fun xs H Q => rIntB xs H Q ∨ ∃ a n, xs = [.str a] ∧ PySem.intText? a = some n ∧ a.length ≤ 640 ∧ Q (.int n) H
def rAbsP : List V → Hp → VK → Prop := fun xs H Q => ∃ i, xs = [.int i] ∧ Q (.int (if i < 0 then -i else i)) H
def rMin2 : List V → Hp → VK → Prop := fun xs H Q => ∃ i j, xs = [.int i, .int j] ∧ Q (.int (if j < i then j else i)) H
def rMax2 : List V → Hp → VK → Prop := fun xs H Q => ∃ i j, xs = [.int i, .int j] ∧ Q (.int (if j > i then j else i)) H
section
variable {X : Cx}
theorem call_lenP : CallR X (.builtin "len") (rLenP X.K) := call_or call_len call_lenD
theorem call_listP : CallR X (.type "list") (rListP X.K) := call_list_of
theorem call_tupleP : CallR X (.type "tuple") (rTupleP X.K) := call_tuple_of
theorem call_intP : CallR X (.type "int") rIntP := call_or call_int1 call_int_str
/-- what is walked: a list, a tuple, a text; told when its value is known -/
def SeqC (K : PySem.W.Frag) (R : It → Hp → Prop) : VK := fun x H1 => (∃ a, x = .ref a ∧ ∃ xs, SqL K H1 a xs ∧ R (Itl K a) H1) ∨ (∃ a, x = .ref a ∧ ∃ xs, SqT K H1 a xs ∧ R (Itt K a) H1) ∨ ∃ z, x = .str z ∧ R (Its z) H1
def iSeqP (K : PySem.W.Frag) (tl : TE) : TI := fun σ H R => tl σ H (SeqC K R)
theorem pi_seqP {tg l : Expr} {tl : TE} (hl : PE X l tl) : PI X tg l (iSeqP X.K tl) := by
  refine ⟨fun pins s σ H R I h => thn (hl.run pins s σ H _ I h) ?_⟩
  rintro v s1 ⟨x, H1, I1, r1, ⟨a, rfl, xs, hq, q⟩ | ⟨a, rfl, xs, hq, q⟩ | ⟨z, rfl, q⟩⟩
  · cases r1
    obtain ⟨its, rv, p, hz⟩ := I1.list hq
    exact wpAny_pyIter_list p.isList (pi_one (tk := s1.toks) I1 _ (turn_list a _) ⟨_, Heap.get?_push_size _ rfl, rfl, rfl⟩ q)
  · cases r1
    obtain ⟨its, rv, p, hz⟩ := I1.tuple hq
    exact wpAny_pyIter_tuple p (pi_one (tk := s1.toks) I1 _ (turn_tuple a _) ⟨_, Heap.get?_push_size _ rfl, rfl, rfl⟩ q)
  · obtain ⟨t, rfl⟩ := r1
    cases ha : z.cps.all (· < 128)
    · exact wpAny_pyIter_wide ha (pi_one (tk := s1.toks) I1 _ (turn_str _ z t "str_iterator" (.inr rfl)) ⟨_, Heap.get?_push_size _ rfl, rfl, rfl⟩ q)
    · exact wpAny_pyIter_ascii ha (pi_one (tk := s1.toks) I1 _ (turn_str _ z t "str_ascii_iterator" (.inl rfl)) ⟨_, Heap.get?_push_size _ rfl, rfl, rfl⟩ q)
end
section
variable {H : Hp} {Q : VK} {K : PySem.W.Frag} {a : Addr} {xs : List V} {i j : Int} {z : Str}
theorem go_lenL (h : H a = some (.lst xs)) (q : Q (.int xs.length) H) : rLenP K [.ref a] H Q := .inl ⟨.ref a, xs.length, rfl, .inl ⟨xs, SqL.of h, rfl⟩, q⟩
theorem go_lenT (h : H a = some (.tup xs)) (q : Q (.int xs.length) H) : rLenP K [.ref a] H Q := .inl ⟨.ref a, xs.length, rfl, .inr ⟨xs, SqT.of h, rfl⟩, q⟩
theorem go_lenS (h : z.length ≤ sizeLine) (q : Q (.int z.length) H) : rLenP K [.str z] H Q := .inl ⟨.str z, z.length, rfl, ⟨h, rfl⟩, q⟩
theorem go_lenD {kvs : List (Key × V)} (h : H a = some (.dK kvs)) (q : Q (.int kvs.length) H) : rLenP K [.ref a] H Q := .inr ⟨a, kvs, rfl, h, q⟩
/-- the script's list, however it stands -/
theorem go_lenK (h : SqL K H a xs) (q : Q (.int xs.length) H) : rLenP K [.ref a] H Q := .inl ⟨.ref a, xs.length, rfl, .inl ⟨xs, h, rfl⟩, q⟩
theorem go_ixK {v : V} (h : SqL K H a xs) (hv : atI xs i = some v) (q : Q v H) : rIxP K (.ref a) (.int i) H Q := .inl ⟨a, xs, i, v, rfl, rfl, h, hv, q⟩
theorem go_listL (h : H a = some (.lst xs)) (q : ∀ p H1, New H p (.lst xs) H1 → Q (.ref p) H1) : rListP K [.ref a] H Q := ⟨a, xs, rfl, .inl (SqL.of h), new_of q⟩
theorem go_listT (h : H a = some (.tup xs)) (q : ∀ p H1, New H p (.lst xs) H1 → Q (.ref p) H1) : rListP K [.ref a] H Q := ⟨a, xs, rfl, .inr (SqT.of h), new_of q⟩
theorem go_tupleL (h : H a = some (.lst xs)) (q : ∀ p H1, New H p (.tup xs) H1 → Q (.ref p) H1) : rTupleP K [.ref a] H Q := ⟨a, xs, rfl, .inl ⟨SqL.of h, new_of q⟩⟩
theorem go_tupleT (h : H a = some (.tup xs)) (q : Q (.ref a) H) : rTupleP K [.ref a] H Q := ⟨a, xs, rfl, .inr ⟨SqT.of h, q⟩⟩
theorem go_intI (q : Q (.int i) H) : rIntP [.int i] H Q := .inl (.inl ⟨i, rfl, q⟩)
theorem go_intB {k : Bool} (q : Q (.int (if k then 1 else 0)) H) : rIntP [.bl k] H Q := .inl (.inr ⟨k, rfl, q⟩)
theorem go_abs (q : Q (.int (if i < 0 then -i else i)) H) : rAbsP [.int i] H Q := ⟨i, rfl, q⟩
theorem go_min2 (q : Q (.int (if j < i then j else i)) H) : rMin2 [.int i, .int j] H Q := ⟨i, j, rfl, q⟩
theorem go_max2 (q : Q (.int (if j > i then j else i)) H) : rMax2 [.int i, .int j] H Q := ⟨i, j, rfl, q⟩
theorem go_all {bs : List Bool} (h : H a = some (.lst (bs.map V.bl))) (q : Q (.bl (bs.all id)) H) : rAll K [.ref a] H Q := ⟨a, bs, rfl, SqL.of h, q⟩
theorem go_sum {ns : List Int} (h : H a = some (.lst (ns.map V.int))) (q : Q (.int ns.sum) H) : rSum K [.ref a] H Q := ⟨a, ns, rfl, SqL.of h, q⟩

/-! ### isinstance with a built-in class -/
/-- the kind of a value by its name -/
def tyN (H : Hp) : V → Option String
  | .non => some "NoneType"
  | .bl _ => some "bool"
  | .int _ => some "int"
  | .str _ => some "str"
  | .ref a => match H a with
    | some (.lst _) => some "list"
    | some (.tup _) => some "tuple"
    | some (.dK _) => some "dict"
    | _ => none
  | _ => none
theorem tyN_ok {x : V} {n : String} (h : tyN H x = some n) : TyX K H x (.type n) := by
  cases x with
  | non => cases h; exact .base .non
  | bl b => cases h; exact .base (.bl b)
  | int i => cases h; exact .base (.int i)
  | str s => cases h; exact .base (.str s)
  | byt b => cases h
  | flt b => cases h
  | ty n => cases h
  | ref a =>
    have h' : (match H a with | some (.lst _) => some "list" | some (.tup _) => some "tuple" | some (.dK _) => some "dict" | _ => none) = some n := h
    split at h'
    · rename_i e; cases h'; exact .base (.lst e)
    · rename_i e; cases h'; exact .base (.tup e)
    · rename_i e; cases h'; exact .base (.dK e)
    · cases h'
theorem tyN_L (h : H a = some (.lst xs)) : tyN H (.ref a) = some "list" := by simp [tyN, h]
theorem tyN_T (h : H a = some (.tup xs)) : tyN H (.ref a) = some "tuple" := by simp [tyN, h]
theorem tyN_D {kvs : List (Key × V)} (h : H a = some (.dK kvs)) : tyN H (.ref a) = some "dict" := by simp [tyN, h]
/-- isinstance(x, T), x of kind n -/
theorem go_isi {x : V} {n T : String} {r : Bool} (h : tyN H x = some n) (hr : kitB n T = some r) (q : Q (.bl r) H) : rIsi K [x, .ty T] H Q := ⟨x, .ty T, .type n, .type T, r, rfl, .ty T, tyN_ok h, kit_ty hr, q⟩
def isiB (n T : String) : Bool := (kitB n T).getD false
theorem kit_b' : ∀ n ∈ ["NoneType", "bool", "int", "str", "list", "tuple", "dict"], ∀ T ∈ ["bool", "int", "str", "list", "tuple", "dict"], kitB n T = some (n == T || (n == "bool" && T == "int")) := by decide +kernel
theorem kit_bb {n T : String} (h : n ∈ ["NoneType", "bool", "int", "str", "list", "tuple", "dict"]) (k : T ∈ ["bool", "int", "str", "list", "tuple", "dict"]) : kitB n T = some (n == T || (n == "bool" && T == "int")) := kit_b' n h T k
end
end Bk

/-! ### comprehensions and loops, by what each turn makes -/
namespace Bk
open PySem L2 PyProof.Rows
def LcK (g : TG) (tt : TT) (te : TE) (vs : List Nat) (σ : St) (Q : VK) : It → Hp → Prop := fun J H1 => tLc (fun _ H R => R J H) g tt te vs σ H1 Q
def ForK (g : TG) (tb : TS) (D : Ends) (σ : St) : It → Hp → Prop := fun J H1 => tFor (fun _ H R => R J H) g tb D σ H1
/-- one range's ends -/
def Rng1K (R : It → Hp → Prop) : List V → Hp → Prop := fun vs H1 => ∃ j : Int, vs = [.int j] ∧ -(2 ^ 62) ≤ j ∧ j < 2 ^ 62 ∧ R (Itr 0 j.toNat) H1
def Rng2K (R : It → Hp → Prop) : List V → Hp → Prop := fun vs H1 => ∃ i j : Int, vs = [.int i, .int j] ∧ (-(2 ^ 62) ≤ i ∧ i < 2 ^ 62 ∧ -(2 ^ 62) ≤ j ∧ j < 2 ^ 62) ∧ R (Itr i (j - i).toNat) H1
section
variable {σ : St} {H H1 : Hp} {Q : VK} {K : PySem.W.Frag} {wi : TI} {g : TG} {tt : TT} {te tl : TE} {vs : List Nat} {tb : TS} {D : Ends} {ta : TA} {R : It → Hp → Prop} {a : Addr} {xs : List V} {i j : Int} {z : Str} {nx bk ct : St → Hp → Prop} {rt : VK}
theorem go_lc (q : wi σ H (LcK g tt te vs σ Q)) : tLc wi g tt te vs σ H Q := q
theorem go_for (q : wi σ H (ForK g tb D σ)) : tFor wi g tb D σ H := q
theorem go_seqP (q : tl σ H (SeqC K R)) : iSeqP K tl σ H R := q
theorem go_seqL (h : H a = some (.lst xs)) (q : R (Itl K a) H) : SeqC K R (.ref a) H := .inl ⟨a, rfl, xs, SqL.of h, q⟩
theorem go_seqK (h : SqL K H a xs) (q : R (Itl K a) H) : SeqC K R (.ref a) H := .inl ⟨a, rfl, xs, h, q⟩
theorem go_seqT (h : H a = some (.tup xs)) (q : R (Itt K a) H) : SeqC K R (.ref a) H := .inr (.inl ⟨a, rfl, xs, SqT.of h, q⟩)
theorem go_seqS (q : R (Its z) H) : SeqC K R (.str z) H := .inr (.inr ⟨z, rfl, q⟩)
theorem go_rng1 (q : ta σ H (Rng1K R)) : iRng1 ta σ H R := q
theorem go_rng2 (q : ta σ H (Rng2K R)) : iRng2 ta σ H R := q
theorem go_rng1K (h : -(2 ^ 62) ≤ j ∧ j < 2 ^ 62) (q : R (Itr 0 j.toNat) H) : Rng1K R [.int j] H := ⟨j, rfl, h.1, h.2, q⟩
theorem go_rng2K (h : -(2 ^ 62) ≤ i ∧ i < 2 ^ 62 ∧ -(2 ^ 62) ≤ j ∧ j < 2 ^ 62) (q : R (Itr i (j - i).toNat) H) : Rng2K R [.int i, .int j] H := ⟨i, j, rfl, h, q⟩

theorem take_succ_of {α : Type} {l : List α} {i : Nat} {x : α} (h : l[i]? = some x) : l.take (i + 1) = l.take i ++ [x] := by rw [List.take_add_one, h]; rfl
/-- a list with tests and elements that leave what stands -/
theorem lc_L {m : Nat} {f : V → V} {p : V → Bool} (h : H1 a = some (.lst xs)) (hz : xs.length ≤ sizeLine)
    (test : ∀ (i : Nat) (x : V) (H' : Hp) (QB : Bool → Hp → Prop), xs[i]? = some x → Same H1 H' → (∀ H'', Same H' H'' → QB (p x) H'') → tt ((σ.set m none).set m (some x)) H' QB)
    (step : ∀ (i : Nat) (x : V) (H' : Hp) (Q' : VK), xs[i]? = some x → p x = true → Same H1 H' → (∀ H'', Same H' H'' → Q' (f x) H'') → te ((σ.set m none).set m (some x)) H' Q')
    (q : ∀ D H2, H1 D = none → Same H1 H2 → H2 D = some (.lst ((xs.filter p).map f)) → Q (.ref D) H2) : LcK (gName m) tt te [m] σ Q (Itl K a) H1 := by
  intro D hD
  refine lc_list (K := K) (a := a) (xs := xs) (fun i H => H D = some (.lst (((xs.take i).filter p).map f)) ∧ Same H1 H) ⟨upd_same, fun b o e => by rw [upd_ne (ne_of_none e hD)]; exact e⟩ (fun i H _ ⟨_, s⟩ => SqL.of (s _ _ h)) ?_ ?_
  · rintro i x H' hx ⟨hd, s⟩
    refine ⟨?_, test i x H' _ hx s ?_⟩
    · show ((σ.set m none).set m (some x)).set m none = σ.set m none
      rw [List.set_set, List.set_set]
    · rintro H'' s2
      have hd2 := s2 _ _ hd
      cases hb : p x with
      | false =>
        rw [if_neg Bool.false_ne_true]
        refine ⟨?_, s.trans s2⟩
        rw [take_succ_of hx, List.filter_append, List.filter_cons_of_neg (by rw [hb]; decide), List.filter_nil, List.append_nil]
        exact hd2
      | true =>
        rw [if_pos rfl]
        refine step i x H'' _ hx hb (s.trans s2) fun H3 s3 => ?_
        refine ⟨_, s3 _ _ hd2, ?_, ?_, fun b o e => ?_⟩
        · rw [List.length_map]
          have h1 := List.length_filter_le p (xs.take i)
          have h2 : (xs.take i).length ≤ i := by rw [List.length_take]; omega
          have h3 : i < xs.length := (List.getElem?_eq_some_iff.mp hx).1
          omega
        · rw [upd_same, take_succ_of hx, List.filter_append, List.filter_cons_of_pos hb, List.filter_nil, List.map_append]
          rfl
        · rw [upd_ne (ne_of_none e hD)]
          exact s3 _ _ (s2 _ _ (s _ _ e))
  · rintro H2 ⟨hd, s⟩
    rw [List.take_length] at hd
    exact q D H2 hD s hd
/-- no test -/
theorem yes_if {σ : St} {H : Hp} {A B : Hp → Prop} (h : A H) : tYes σ H (fun b H3 => if b = true then A H3 else B H3) := (iteT (B := B H) h : if true = true then A H else B H)
theorem monoYes : ∀ (σ : St) (H : Hp) (Q Q' : Bool → Hp → Prop), (∀ b H', Q b H' → Q' b H') → tYes σ H Q → tYes σ H Q' := fun _ _ _ _ h q => h _ _ q
theorem lc_mapL {m : Nat} {f : V → V} (h : H1 a = some (.lst xs)) (hz : xs.length ≤ sizeLine)
    (step : ∀ (i : Nat) (x : V) (H' : Hp) (Q' : VK), xs[i]? = some x → Same H1 H' → (∀ H'', Same H' H'' → Q' (f x) H'') → te ((σ.set m none).set m (some x)) H' Q')
    (q : ∀ D H2, H1 D = none → Same H1 H2 → H2 D = some (.lst (xs.map f)) → Q (.ref D) H2) : LcK (gName m) tYes te [m] σ Q (Itl K a) H1 := by
  intro D hD
  refine lc_list (K := K) (a := a) (xs := xs) (fun i H => H D = some (.lst ((xs.take i).map f)) ∧ Same H1 H) ⟨upd_same, fun b o e => by rw [upd_ne (ne_of_none e hD)]; exact e⟩ (fun i H _ ⟨_, s⟩ => SqL.of (s _ _ h)) ?_ ?_
  · rintro i x H' hx ⟨hd, s⟩
    refine ⟨?_, ?_⟩
    · show ((σ.set m none).set m (some x)).set m none = σ.set m none
      rw [List.set_set, List.set_set]
    · refine yes_if (step i x H' _ hx s fun H3 s3 => ?_)
      refine ⟨_, s3 _ _ hd, ?_, ?_, fun b o e => ?_⟩
      · rw [List.length_map]
        have h2 : (xs.take i).length ≤ i := by rw [List.length_take]; omega
        have h3 : i < xs.length := (List.getElem?_eq_some_iff.mp hx).1
        omega
      · rw [upd_same, take_succ_of hx, List.map_append]
        rfl
      · rw [upd_ne (ne_of_none e hD)]
        exact s3 _ _ (s _ _ e)
  · rintro H2 ⟨hd, s⟩
    rw [List.take_length] at hd
    exact q D H2 hD s hd
theorem lc_mapR {m n : Nat} {lo : Int} {f : Nat → V} (hz : n ≤ sizeLine)
    (step : ∀ i H' Q', i < n → Same H1 H' → (∀ H'', Same H' H'' → Q' (f i) H'') → te ((σ.set m none).set m (some (.int (lo + i)))) H' Q')
    (q : ∀ D H2, H1 D = none → Same H1 H2 → H2 D = some (.lst ((List.range n).map f)) → Q (.ref D) H2) : LcK (gName m) tYes te [m] σ Q (Itr lo n) H1 := by
  intro D hD
  refine lc_range (fun i H => H D = some (.lst ((List.range i).map f)) ∧ Same H1 H) ⟨upd_same, fun b o e => by rw [upd_ne (ne_of_none e hD)]; exact e⟩ ?_ ?_
  · rintro i H' hi ⟨hd, s⟩
    refine ⟨?_, ?_⟩
    · show ((σ.set m none).set m (some (.int (lo + i)))).set m none = σ.set m none
      rw [List.set_set, List.set_set]
    · refine yes_if (step i H' _ hi s fun H3 s3 => ?_)
      refine ⟨_, s3 _ _ hd, ?_, ?_, fun b o e => ?_⟩
      · rw [List.length_map, List.length_range]
        omega
      · rw [upd_same, List.range_succ, List.map_append]
        rfl
      · rw [upd_ne (ne_of_none e hD)]
        exact s3 _ _ (s _ _ e)
  · rintro H2 ⟨hd, s⟩
    exact q D H2 hD s hd

theorem len_cut (xs : List V) (lo hi : Option Int) : (cutV xs lo hi).length = min (HT.sIx xs.length xs.length hi - HT.sIx xs.length 0 lo) (xs.length - HT.sIx xs.length 0 lo) := by
  unfold cutV
  rw [List.length_take, List.length_drop]
/-! loops -/
theorem for_L {m : Nat} (INV : Nat → St → Hp → Prop) (h : ∀ i σ H, INV i σ H → H a = some (.lst xs)) (h0 : INV 0 σ H1)
    (hs : ∀ i x σ H, xs[i]? = some x → INV i σ H → tb ⟨INV (i + 1), rt, nx, INV (i + 1)⟩ (σ.set m (some x)) H) (hd : ∀ σ H, INV xs.length σ H → nx σ H) : ForK (gName m) tb ⟨nx, rt, bk, ct⟩ σ (Itl K a) H1 :=
  for_list (K := K) (a := a) (xs := xs) INV h0 (fun i σ H _ q => SqL.of (h i σ H q)) hs hd
theorem for_T {m : Nat} (INV : Nat → St → Hp → Prop) (h : ∀ i σ H, INV i σ H → H a = some (.tup xs)) (h0 : INV 0 σ H1)
    (hs : ∀ i x σ H, xs[i]? = some x → INV i σ H → tb ⟨INV (i + 1), rt, nx, INV (i + 1)⟩ (σ.set m (some x)) H) (hd : ∀ σ H, INV xs.length σ H → nx σ H) : ForK (gName m) tb ⟨nx, rt, bk, ct⟩ σ (Itt K a) H1 :=
  for_tup (K := K) (a := a) (xs := xs) INV h0 (fun i σ H _ q => SqT.of (h i σ H q)) hs hd
theorem for_R {m n : Nat} {lo : Int} (INV : Nat → St → Hp → Prop) (h0 : INV 0 σ H1)
    (hs : ∀ i σ H, i < n → INV i σ H → tb ⟨INV (i + 1), rt, nx, INV (i + 1)⟩ (σ.set m (some (.int (lo + i)))) H) (hd : ∀ σ H, INV n σ H → nx σ H) : ForK (gName m) tb ⟨nx, rt, bk, ct⟩ σ (Itr lo n) H1 :=
  for_range INV h0 hs hd
end
/-! what is raised -/
def tRaiseE (C : Addr) (W : WX) : TS := fun _ σ H => W (.ref C) none σ H
structure ExOk (K : PySem.W.Frag) (C : Addr) : Prop where
  q : PySem.W.excIn K C [.type "ValueError", .type "Exception", .type "BaseException", .type "object"] "ValueError.__new__" = true
  k : PySem.W.keepIn K (.ref C) = true
  s : PySem.W.subIn K (.ref C) (.type "BaseException") = some true
  t : PySem.W.typeIn K (.ref C) = some (.type "type")
theorem raiseE {X : Cx} {C : Addr} {W : WX} {x m : Str} {j : Nat} {p p2 pos pos' : Pos} (hc : X.calm = true) (tk : L2N.Takes X W) (e : ExOk X.K C) (hm : X.mg x = some (.ref C)) (hg : Gl X x := by rfl) (hdb : (x == ("__debug__" : Str)) = false := by decide) :
    PS X (.Raise (some (.Call (.Name x p) [.Constant (.str m) j p2] [] pos)) none pos') (tRaiseE C W) :=
  L2N.ps_raise hc tk (L2N.pmk_own PySem.F.excBase_ValueError e.q hm e.k (raises_own e.s e.t) hg hdb)
theorem go_raise {C : Addr} {W : WX} {D : Ends} {σ : St} {H : Hp} (q : W (.ref C) none σ H) : tRaiseE C W D σ H := q
/-! targets of several names -/
theorem pg_or {X : Cx} {tg : Expr} {g h : TG} (a : PG X tg g) (b : PG X tg h) : PG X tg (fun v σ H Q => g v σ H Q ∨ h v σ H Q) :=
  ⟨fun pins s σ H v u Q I r q => q.elim (fun q => a.run pins s σ H v u Q I r q) fun q => b.run pins s σ H v u Q I r q⟩
def gTupP (K : PySem.W.Frag) (n : Nat) (t : TGs) : TG := fun v σ H Q => gTup K n t v σ H Q ∨ gLst K n t v σ H Q
theorem pg_tupP {X : Cx} {pos : Pos} {es : List Expr} {k : Nat} {t : TGs} {n : Nat} (hc : X.calm = true) (h : PGs X es t) (hn : (assignEach es X.env).length = n := by rfl) (hst : (assignEach es X.env).findIdx? (·.1) = none := by rfl) :
    PG X (.Tuple es k pos) (gTupP X.K n t) := pg_or (pg_tup hc h hn hst) (pg_lst hc h hn hst)
section
variable {σ : St} {H : Hp} {K : PySem.W.Frag} {n : Nat} {t : TG} {u : TGs} {v : V} {a : Addr} {xs : List V} {Q : St → Hp → Prop}
theorem go_tupG (h : H a = some (.tup xs)) (hl : xs.length = n) (q : u xs σ H Q) : gTupP K n u (.ref a) σ H Q := .inl ⟨a, xs, rfl, SqT.of h, hl, q⟩
theorem go_lstG (h : H a = some (.lst xs)) (hl : xs.length = n) (q : u xs σ H Q) : gTupP K n u (.ref a) σ H Q := .inr ⟨a, xs, rfl, SqL.of h, hl, q⟩
theorem go_gNil (q : Q σ H) : gNil [] σ H Q := ⟨rfl, q⟩
theorem go_gCons {r : List V} (q : t v σ H fun σ' H' => u r σ' H' Q) : gCons t u (v :: r) σ H Q := ⟨v, r, rfl, q⟩
end
/-- the classes' places -/
structure Ac where
  (KeepError BadRow NoBlock Stopped BadDisk NoRoom TooMuch BadLog NoNode NoNodes TooLong OutOfPlace BadName BadPath NotFolder NotFile NoName NameThere NotEmpty Within BadOrder Disk Layout Batch Keeper : Addr)
end Bk

namespace Bk
open PySem L2 PyProof.Rows
/-! ### data -/
section
variable {K : PySem.W.Frag} {H H' : Hp} {Q : VK} {x y : V} {d e : PyData} {a b : Addr}
mutual
theorem Dp.same (s : Same H H') : ∀ {d : PyData} {v : V}, Dp K H v d → Dp K H' v d
  | _, _, .non => .non
  | _, _, .bl b => .bl b
  | _, _, .int i => .int i
  | _, _, .str x => .str x
  | _, _, .lst h k => .lst (s.seq h) (DpAll.same s k)
  | _, _, .tup h k => .tup (by rcases h with (h | ⟨o, h⟩) | h; exact .inl (.inl (s _ _ h)); exact .inl (.inr ⟨o, s _ _ h⟩); exact .inr h) (DpAll.same s k)
theorem DpAll.same (s : Same H H') : ∀ {ds : List PyData} {vs : List V}, DpAll K H vs ds → DpAll K H' vs ds
  | _, _, .nil => .nil
  | _, _, .cons h k => .cons (Dp.same s h) (DpAll.same s k)
end
theorem DpAll.ints : ∀ ns : List Int, DpAll K H (ns.map V.int) (ns.map PyData.int)
  | [] => .nil
  | n :: r => .cons (.int n) (DpAll.ints r)
theorem DpAll.bls : ∀ ns : List Bool, DpAll K H (ns.map V.bl) (ns.map PyData.bool)
  | [] => .nil
  | n :: r => .cons (.bl n) (DpAll.bls r)
theorem dp_ints {ns : List Int} (h : H a = some (.lst (ns.map V.int))) : Dp K H (.ref a) (.list (ns.map PyData.int)) := .lst (SqL.of h) (DpAll.ints ns)
theorem dp_bls {ns : List Bool} (h : H a = some (.lst (ns.map V.bl))) : Dp K H (.ref a) (.list (ns.map PyData.bool)) := .lst (SqL.of h) (DpAll.bls ns)
theorem eqv_ints : ∀ ns ms : List Int, PyData.eqvAll (ns.map PyData.int) (ms.map PyData.int) = decide (ns = ms)
  | [], [] => by simp [PyData.eqvAll]
  | [], _ :: _ => by simp [PyData.eqvAll]
  | _ :: _, [] => by simp [PyData.eqvAll]
  | n :: r, m :: q => by
    simp only [List.map_cons, PyData.eqvAll, PyData.eqv, eqv_ints r q, List.cons.injEq, Bool.decide_and]
    rfl
theorem eqv_bls : ∀ ns ms : List Bool, PyData.eqvAll (ns.map PyData.bool) (ms.map PyData.bool) = decide (ns = ms)
  | [], [] => by simp [PyData.eqvAll]
  | [], _ :: _ => by simp [PyData.eqvAll]
  | _ :: _, [] => by simp [PyData.eqvAll]
  | n :: r, m :: q => by
    simp only [List.map_cons, PyData.eqvAll, PyData.eqv, eqv_bls r q, List.cons.injEq, Bool.decide_and]
    cases n <;> cases m <;> rfl
theorem shaped_bls (ns : List Bool) : SeqAt.shaped (.list (ns.map PyData.bool)) = true := by
  have h1 : ∀ ns : List Bool, PyData.canLayAll0 (ns.map PyData.bool) = true := fun ns => by induction ns with
    | nil => simp [PyData.canLayAll0]
    | cons n r ih => simp [PyData.canLayAll0, PyData.canLay0, ih]
  have h2 : ∀ ns : List Bool, PyData.depthAll (ns.map PyData.bool) ≤ 1 := fun ns => by induction ns with
    | nil => simp [PyData.depthAll]
    | cons n r ih => simp only [List.map_cons, PyData.depthAll, PyData.depth]; omega
  have h3 := h2 ns
  unfold SeqAt.shaped
  rw [Bool.and_eq_true]
  exact ⟨by simp only [PyData.canLay0]; exact h1 ns, decide_eq_true (by simp only [PyData.depth]; omega)⟩
theorem go_eqD (h : Dp K H x d) (k : Dp K H y e) (hd : SeqAt.shaped d = true) (he : SeqAt.shaped e = true) (q : Q (.bl (PyData.eqv d e)) H) : rEqP K x y H Q := .inr ⟨d, e, h, k, hd, he, q⟩
theorem go_neD (h : Dp K H x d) (k : Dp K H y e) (hd : SeqAt.shaped d = true) (he : SeqAt.shaped e = true) (q : Q (.bl (!PyData.eqv d e)) H) : rNeP K x y H Q := .inr ⟨d, e, h, k, hd, he, q⟩
theorem go_eqIs {ns ms : List Int} (h : H a = some (.lst (ns.map V.int))) (k : H b = some (.lst (ms.map V.int))) (q : Q (.bl (decide (ns = ms))) H) : rEqP K (.ref a) (.ref b) H Q :=
  go_eqD (dp_ints h) (dp_ints k) (PySem.W.shaped_ints ns) (PySem.W.shaped_ints ms) (by rw [PyData.eqv, eqv_ints]; exact q)
theorem go_neIs {ns ms : List Int} (h : H a = some (.lst (ns.map V.int))) (k : H b = some (.lst (ms.map V.int))) (q : Q (.bl (!decide (ns = ms))) H) : rNeP K (.ref a) (.ref b) H Q :=
  go_neD (dp_ints h) (dp_ints k) (PySem.W.shaped_ints ns) (PySem.W.shaped_ints ms) (by rw [PyData.eqv, eqv_ints]; exact q)
theorem go_eqBs {ns ms : List Bool} (h : H a = some (.lst (ns.map V.bl))) (k : H b = some (.lst (ms.map V.bl))) (q : Q (.bl (decide (ns = ms))) H) : rEqP K (.ref a) (.ref b) H Q :=
  go_eqD (dp_bls h) (dp_bls k) (shaped_bls ns) (shaped_bls ms) (by rw [PyData.eqv, eqv_bls]; exact q)
/-- two that hold the same data -/
theorem go_neSame (h : Dp K H x d) (k : Dp K H y d) (hd : SeqAt.shaped d = true) (q : Q (.bl false) H) : rNeP K x y H Q :=
  go_neD h k hd hd (by rw [PySem.SeqAt.eqv_refl d (SeqAt.canLay_of_shaped hd)]; exact q)
theorem go_eqSame (h : Dp K H x d) (k : Dp K H y d) (hd : SeqAt.shaped d = true) (q : Q (.bl true) H) : rEqP K x y H Q :=
  go_eqD h k hd hd (by rw [PySem.SeqAt.eqv_refl d (SeqAt.canLay_of_shaped hd)]; exact q)
theorem tyN_same {n : String} (s : Same H H') (h : tyN H x = some n) : tyN H' x = some n := by
  cases x with
  | ref a =>
    have h' : (match H a with | some (.lst _) => some "list" | some (.tup _) => some "tuple" | some (.dK _) => some "dict" | _ => none) = some n := h
    split at h'
    · rename_i e; rw [← h']; exact tyN_L (s _ _ e)
    · rename_i e; rw [← h']; exact tyN_T (s _ _ e)
    · rename_i e; rw [← h']; exact tyN_D (s _ _ e)
    · cases h'
  | _ => exact h
end
end Bk

/-! ### a script's cells; items at open places; known things -/
namespace Bk
open PySem L2 PyProof.Rows
section
variable {K : PySem.W.Frag} {H H' : Hp} {Q : VK}
theorem atI_some {α : Type} {xs : List α} {j : Int} (h0 : 0 ≤ j) (h1 : j < xs.length) : ∃ v, atI xs j = some v ∧ v ∈ xs ∧ xs[j.toNat]? = some v := by
  have h2 : j.toNat < xs.length := by omega
  refine ⟨xs[j.toNat], ?_, List.getElem_mem h2, List.getElem?_eq_getElem h2⟩
  have := atI_nat (xs := xs) (j := j.toNat) (List.getElem?_eq_getElem h2)
  rwa [Int.toNat_of_nonneg h0] at this
theorem go_ixLo {a : Addr} {xs : List V} {j : Int} (h : H a = some (.lst xs)) (hj : 0 ≤ j ∧ j < xs.length) (q : ∀ v, v ∈ xs → xs[j.toNat]? = some v → Q v H) : rIxP K (.ref a) (.int j) H Q := by
  obtain ⟨v, h1, h2, h3⟩ := atI_some hj.1 hj.2
  exact go_ixL h h1 (q v h2 h3)
/-- the k-th cell of a script, nought behind its end -/
def cellI (ns : List Int) (k : Int) : Int := ns.getD k.toNat 0
theorem cell_in {ns : List Int} {k : Int} (h : 0 ≤ k) (h2 : k < ns.length) : atI (ns.map V.int) k = some (.int (cellI ns k)) := by
  obtain ⟨v, e, _, e2⟩ := atI_some (xs := ns.map V.int) h (by simpa using h2)
  rw [e]
  rw [List.getElem?_map] at e2
  unfold cellI
  cases q : ns[k.toNat]? with
  | none => rw [q] at e2; cases e2
  | some z => rw [q] at e2; cases e2; rw [List.getD_eq_getElem?_getD, q]; rfl
theorem cell_out {ns : List Int} {k : Int} (h : ¬ k < ns.length) : cellI ns k = 0 := by
  unfold cellI
  rw [List.getD_eq_getElem?_getD, List.getElem?_eq_none (by omega)]
  rfl
/-- a thing whose kind and data are known, no deeper than a list of plain things -/
def Itm (K : PySem.W.Frag) (H : Hp) (y : V) : Prop := (∃ n, tyN H y = some n) ∧ ∃ d, Dp K H y d ∧ d.canLay0 = true ∧ d.depth ≤ 2
theorem Itm.same {y : V} (s : Same H H') (h : Itm K H y) : Itm K H' y := ⟨let ⟨n, e⟩ := h.1; ⟨n, tyN_same s e⟩, let ⟨d, e, c⟩ := h.2; ⟨d, Dp.same s e, c⟩⟩
theorem Itm.int (i : Int) : Itm K H (.int i) := ⟨⟨_, rfl⟩, _, .int i, by simp [PyData.canLay0], by simp [PyData.depth]⟩
theorem Itm.str (i : Str) (h : PyData.strOk i = true) : Itm K H (.str i) := ⟨⟨_, rfl⟩, _, .str i, by simp [PyData.canLay0, h], by simp [PyData.depth]⟩
theorem Itm.bl (i : Bool) : Itm K H (.bl i) := ⟨⟨_, rfl⟩, _, .bl i, by simp [PyData.canLay0], by simp [PyData.depth]⟩
theorem Itm.non : Itm K H .non := ⟨⟨_, rfl⟩, _, .non, by simp [PyData.canLay0], by simp [PyData.depth]⟩
theorem Itm.ints {a : Addr} {ns : List Int} (h : H a = some (.lst (ns.map V.int))) : Itm K H (.ref a) := by
  have h1 := PySem.W.shaped_ints ns
  have h2 := PySem.W.depthAll_ints ns
  exact ⟨⟨_, tyN_L h⟩, _, dp_ints h, SeqAt.canLay_of_shaped h1, by simp only [PyData.depth]; omega⟩
theorem Itm.tup0 {a : Addr} (h : H a = some (.tup [])) : Itm K H (.ref a) := ⟨⟨_, tyN_T h⟩, .tuple [], .tup (SqT.of h) .nil, by simp [PyData.canLay0, PyData.canLayAll0], by simp [PyData.depth, PyData.depthAll]⟩
theorem itms {xs : List V} (h : ∀ y ∈ xs, Itm K H y) : ∃ ds, DpAll K H xs ds ∧ PyData.canLayAll0 ds = true ∧ PyData.depthAll ds ≤ 2 := by
  induction xs with
  | nil => exact ⟨[], .nil, by simp [PyData.canLayAll0], by simp [PyData.depthAll]⟩
  | cons x r ih =>
    obtain ⟨ds, h1, h2, h3⟩ := ih fun y hy => h y (List.mem_cons_of_mem _ hy)
    obtain ⟨_, d, k1, k2, k3⟩ := h x List.mem_cons_self
    exact ⟨d :: ds, .cons k1 h1, by simp [PyData.canLayAll0, k2, h2], by simp only [PyData.depthAll]; omega⟩
theorem shapedL {ds : List PyData} (h : PyData.canLayAll0 ds = true) (k : PyData.depthAll ds ≤ 2) : SeqAt.shaped (.list ds) = true := by
  unfold SeqAt.shaped
  rw [Bool.and_eq_true]
  exact ⟨by simp only [PyData.canLay0]; exact h, decide_eq_true (by simp only [PyData.depth]; omega)⟩
theorem shapedT {ds : List PyData} (h : PyData.canLayAll0 ds = true) (k : PyData.depthAll ds ≤ 2) : SeqAt.shaped (.tuple ds) = true := by
  unfold SeqAt.shaped
  rw [Bool.and_eq_true]
  exact ⟨by simp only [PyData.canLay0]; exact h, decide_eq_true (by simp only [PyData.depth]; omega)⟩
end
end Bk

namespace Bk
open PySem L2 PyProof.Rows
theorem kindR {H : Hp} {p : Addr} {n : String} (h : tyN H (.ref p) = some n) : (n = "list" ∧ ∃ xs, H p = some (.lst xs)) ∨ (n = "tuple" ∧ ∃ xs, H p = some (.tup xs)) ∨ (n = "dict" ∧ ∃ kvs, H p = some (.dK kvs)) := by
  have h' : (match H p with | some (.lst _) => some "list" | some (.tup _) => some "tuple" | some (.dK _) => some "dict" | _ => none) = some n := h
  split at h'
  · rename_i e; cases h'; exact .inl ⟨rfl, _, e⟩
  · rename_i e; cases h'; exact .inr (.inl ⟨rfl, _, e⟩)
  · rename_i e; cases h'; exact .inr (.inr ⟨rfl, _, e⟩)
  · cases h'
end Bk

/-! ### slices from and to a place -/
namespace Bk
open PySem L2 PyProof.Rows
theorem cut_take (xs : List V) {k : Int} (h : 0 ≤ k) : cutV xs none (some k) = xs.take k.toNat := by
  unfold cutV HT.sIx
  simp only [if_neg (show ¬ k < 0 by omega), Nat.sub_zero, List.drop_zero]
  by_cases c : k.toNat ≤ xs.length
  · rw [Nat.min_eq_left c]
  · rw [Nat.min_eq_right (by omega), List.take_length, List.take_of_length_le (by omega)]
theorem cut_drop (xs : List V) {k : Int} (h : 0 ≤ k) : cutV xs (some k) none = xs.drop k.toNat := by
  unfold cutV HT.sIx
  simp only [if_neg (show ¬ k < 0 by omega)]
  by_cases c : k.toNat ≤ xs.length
  · rw [Nat.min_eq_left c, List.take_of_length_le (by rw [List.length_drop]; omega)]
  · rw [Nat.min_eq_right (by omega), List.drop_length, List.drop_of_length_le (by omega)]
    simp
theorem cut_mid (xs : List V) {i k : Int} (h : 0 ≤ i) (h2 : 0 ≤ k) : cutV xs (some i) (some k) = (xs.drop i.toNat).take (k.toNat - i.toNat) := by
  unfold cutV HT.sIx
  simp only [if_neg (show ¬ k < 0 by omega), if_neg (show ¬ i < 0 by omega)]
  by_cases c : i.toNat ≤ xs.length
  · rw [Nat.min_eq_left c]
    by_cases c2 : k.toNat ≤ xs.length
    · rw [Nat.min_eq_left c2]
    · rw [Nat.min_eq_right (by omega), List.take_of_length_le (by rw [List.length_drop]; omega), List.take_of_length_le (by rw [List.length_drop]; omega)]
  · rw [Nat.min_eq_right (show xs.length ≤ i.toNat by omega), List.drop_length, List.drop_of_length_le (show xs.length ≤ i.toNat by omega)]
    simp
theorem cut_all (xs : List V) : cutV xs none none = xs := by
  unfold cutV HT.sIx
  simp
end Bk

/-! ### methods of lists; loops that only look -/
namespace Bk
open PySem L2 PyProof.Rows
def BmK (K : PySem.W.Frag) (T : String) (r : V → List V → Hp → VK → Prop) (t : TA) (σ : St) (Q : VK) : VK := fun x H1 => tyV K T x H1 ∧ t σ H1 fun xs H2 => r x xs H2 Q
section
variable {K : PySem.W.Frag} {H H1 : Hp} {Q : VK} {σ : St} {T : String} {r : V → List V → Hp → VK → Prop} {to : TE} {t : TA} {a b : Addr} {xs ys : List V} {y : V} {tb : TS} {nx bk ct : St → Hp → Prop} {rt : VK}
theorem go_bm (q : to σ H (BmK K T r t σ Q)) : tBM K T r to t σ H Q := q
theorem go_bm0 (q : to σ H (BmK K T r tNil σ Q)) : tBM0 K T r to σ H Q := q
theorem go_bmL (h : H a = some (.lst xs)) (q : t σ H fun xs H2 => r (.ref a) xs H2 Q) : BmK K "list" r t σ Q (.ref a) H := ⟨.inl ⟨rfl, _, SqL.of h⟩, q⟩
theorem go_append (h : H a = some (.lst xs)) (hz : xs.length < sizeLine) (q : ∀ H1, Wr H a (.lst (xs ++ [y])) H1 → Q .non H1) : rAppend (.ref a) [y] H Q := ⟨a, xs, y, rfl, rfl, h, hz, wr_of h q⟩
theorem go_extend (h : H a = some (.lst xs)) (k : H b = some (.lst ys)) (hz : xs.length + ys.length ≤ sizeLine) (q : ∀ H1, Wr H a (.lst (xs ++ ys)) H1 → Q .non H1) : rExtend (.ref a) [.ref b] H Q := ⟨a, b, xs, ys, rfl, rfl, h, k, hz, wr_of h q⟩
theorem go_clear (h : H a = some (.lst xs)) (q : ∀ H1, Wr H a (.lst []) H1 → Q .non H1) : rClear (.ref a) [] H Q := ⟨a, xs, rfl, rfl, h, wr_of h q⟩
theorem go_dnew (q : ∀ p H1, New H p (.dK []) H1 → Q (.ref p) H1) : tDNewK σ H Q := new_of q
theorem go_call0 {sp : Sp} {E : St → XK} (q : sp [] H Q (E σ)) : tCall0 sp E σ H Q := q
theorem seq' {K : PySem.W.Frag} {H H1 : Hp} {a : Addr} {xs : List V} (h : SqL K H a xs) (s : Same H H1) : SqL K H1 a xs := s.seq h
theorem ne_none {u : HO} (n : H b = none) (h : H a = some u) : a ≠ b := ne_of_none h n
/-- a loop whose turns let stand what stood -/
theorem for_lookL {m : Nat} (h : H1 a = some (.lst xs)) (h0 : ∃ v, σ = σ.set m v)
    (turn : ∀ (i : Nat) (x : V) (H' : Hp) (N : St → Hp → Prop), xs[i]? = some x → Same H1 H' → (∀ H'', Same H' H'' → N (σ.set m (some x)) H'') → tb ⟨N, rt, nx, N⟩ (σ.set m (some x)) H')
    (fin : ∀ v H', Same H1 H' → nx (σ.set m v) H') : ForK (gName m) tb ⟨nx, rt, bk, ct⟩ σ (Itl K a) H1 := by
  refine for_L (xs := xs) (fun i σ' H' => ∃ v, σ' = σ.set m v ∧ Same H1 H') (fun i σ' H' ⟨_, _, s⟩ => s _ _ h) (let ⟨v, e⟩ := h0; ⟨v, e, Same.refl _⟩) ?_ ?_
  · rintro i x σ' H' hx ⟨v, rfl, s⟩
    rw [List.set_set]
    exact turn i x H' _ hx s fun H'' s2 => ⟨_, rfl, s.trans s2⟩
  · rintro σ' H' ⟨v, rfl, s⟩
    exact fin v H' s
theorem for_lookT {m : Nat} (h : H1 a = some (.tup xs)) (h0 : ∃ v, σ = σ.set m v)
    (turn : ∀ (i : Nat) (x : V) (H' : Hp) (N : St → Hp → Prop), xs[i]? = some x → Same H1 H' → (∀ H'', Same H' H'' → N (σ.set m (some x)) H'') → tb ⟨N, rt, nx, N⟩ (σ.set m (some x)) H')
    (fin : ∀ v H', Same H1 H' → nx (σ.set m v) H') : ForK (gName m) tb ⟨nx, rt, bk, ct⟩ σ (Itt K a) H1 := by
  refine for_T (xs := xs) (fun i σ' H' => ∃ v, σ' = σ.set m v ∧ Same H1 H') (fun i σ' H' ⟨_, _, s⟩ => s _ _ h) (let ⟨v, e⟩ := h0; ⟨v, e, Same.refl _⟩) ?_ ?_
  · rintro i x σ' H' hx ⟨v, rfl, s⟩
    rw [List.set_set]
    exact turn i x H' _ hx s fun H'' s2 => ⟨_, rfl, s.trans s2⟩
  · rintro σ' H' ⟨v, rfl, s⟩
    exact fin v H' s
end
end Bk

namespace Bk
open PySem L2 PyProof.Rows
def t_is_word (K : PySem.W.Frag) (a : Ac) (E : XK) : TS :=
  tRet (tAndV (tCB ((rIsi K)) (tCons (tVar 0) (tCons (tC (.ty "int")) (tNil)))) (tAndV (tNotV (tCB ((rIsi K)) (tCons (tVar 0) (tCons (tC (.ty "bool")) (tNil))))) (tChain rLeP rLeP (tC (.int 0)) (tVar 0) (tC (.int 999999999)))))
def N_is_word : List Str := ["thing"]
def sp_is_word (K : PySem.W.Frag) (a : Ac) : Sp := fun vs H Q E => vs.length = (["thing"] : List Str).length ∧ t_is_word K a E ⟨fun _ H' => Q .non H', Q, F0, F0⟩ (start ["thing"] vs) H
theorem in_is_word {K : PySem.W.Frag} {a : Ac} {x0 : V} {H : Hp} {Q : VK} {E : XK} (q : t_is_word K a E ⟨fun _ H' => Q .non H', Q, F0, F0⟩ [some x0] H) : sp_is_word K a [x0] H Q E := ⟨rfl, q⟩
def t_is_row (K : PySem.W.Frag) (a : Ac) (E : XK) : TS :=
  tRet (tAndV (tCB ((rIsi K)) (tCons (tVar 0) (tCons (tC (.ty "list")) (tNil)))) (tAndV (tOp (rEqP K) (tCB (rLenP K) (tCons (tVar 0) (tNil))) (tC (.int 16))) (tCB ((rAll K)) (tCons (tLc (iSeqP K (tVar 0)) (gName 1) (tYes) (tCallS (sp_is_word K a) (WE W0) (tCons (tVar 1) (tNil))) [1]) (tNil)))))
def N_is_row : List Str := ["thing", "word"]
def sp_is_row (K : PySem.W.Frag) (a : Ac) : Sp := fun vs H Q E => vs.length = (["thing"] : List Str).length ∧ t_is_row K a E ⟨fun _ H' => Q .non H', Q, F0, F0⟩ (start ["thing", "word"] vs) H
theorem in_is_row {K : PySem.W.Frag} {a : Ac} {x0 : V} {H : Hp} {Q : VK} {E : XK} (q : t_is_row K a E ⟨fun _ H' => Q .non H', Q, F0, F0⟩ [some x0, none] H) : sp_is_row K a [x0] H Q E := ⟨rfl, q⟩
def t_empty_row (K : PySem.W.Frag) (a : Ac) (E : XK) : TS :=
  tRet (tOp rMulP (tLst (tCons (tC (.int 0)) (tNil))) (tC (.int 16)))
def N_empty_row : List Str := []
def sp_empty_row (K : PySem.W.Frag) (a : Ac) : Sp := fun vs H Q E => vs.length = ([] : List Str).length ∧ t_empty_row K a E ⟨fun _ H' => Q .non H', Q, F0, F0⟩ (start [] vs) H
theorem in_empty_row {K : PySem.W.Frag} {a : Ac} {H : Hp} {Q : VK} {E : XK} (q : t_empty_row K a E ⟨fun _ H' => Q .non H', Q, F0, F0⟩ [] H) : sp_empty_row K a [] H Q E := ⟨rfl, q⟩
def t_changed (K : PySem.W.Frag) (a : Ac) (E : XK) : TS :=
  tRet (tOp rAddP (tOp rAddP (tSl (rSlP K) (tVar 0) (tNoPart) (tPart (tVar 1))) (tVar 2)) (tSl (rSlP K) (tVar 0) (tPart (tOp rAddP (tVar 1) (tCB (rLenP K) (tCons (tVar 2) (tNil))))) (tNoPart)))
def N_changed : List Str := ["row", "at", "words"]
def sp_changed (K : PySem.W.Frag) (a : Ac) : Sp := fun vs H Q E => vs.length = (["row", "at", "words"] : List Str).length ∧ t_changed K a E ⟨fun _ H' => Q .non H', Q, F0, F0⟩ (start ["row", "at", "words"] vs) H
theorem in_changed {K : PySem.W.Frag} {a : Ac} {x0 x1 x2 : V} {H : Hp} {Q : VK} {E : XK} (q : t_changed K a E ⟨fun _ H' => Q .non H', Q, F0, F0⟩ [some x0, some x1, some x2] H) : sp_changed K a [x0, x1, x2] H Q E := ⟨rfl, q⟩
def t_L_cell_at (K : PySem.W.Frag) (a : Ac) (E : XK) : TS :=
  tSeq (tIfS (tTest (tOp rLtP (tVar 1) (tCB (rLenP K) (tCons (tVar 0) (tNil))))) (tRet (tOp (rIxP K) (tVar 0) (tVar 1))) (tNext)) (tRet (tC (.int 0)))
def N_L_cell_at : List Str := ["_law_script", "_law_k"]
def sp_L_cell_at (K : PySem.W.Frag) (a : Ac) : Sp := fun vs H Q E => vs.length = (["_law_script", "_law_k"] : List Str).length ∧ t_L_cell_at K a E ⟨fun _ H' => Q .non H', Q, F0, F0⟩ (start ["_law_script", "_law_k"] vs) H
theorem in_L_cell_at {K : PySem.W.Frag} {a : Ac} {x0 x1 : V} {H : Hp} {Q : VK} {E : XK} (q : t_L_cell_at K a E ⟨fun _ H' => Q .non H', Q, F0, F0⟩ [some x0, some x1] H) : sp_L_cell_at K a [x0, x1] H Q E := ⟨rfl, q⟩
def t_L_word_by (K : PySem.W.Frag) (a : Ac) (E : XK) : TS :=
  tSeq (tIfS (tTest (tOp rLtP (tOp rModP (tVar 0) (tC (.int 5))) (tC (.int 2)))) (tRet (tOp (rIxP K) (tLst (tCons (tC (.int 0)) (tCons (tC (.int 999999999)) (tNil)))) (tOp rModP (tVar 0) (tC (.int 5))))) (tNext)) (tRet (tOp rModP (tOp rMulP (tVar 0) (tC (.int 48271))) (tC (.int 1000000000))))
def N_L_word_by : List Str := ["_law_cell"]
def sp_L_word_by (K : PySem.W.Frag) (a : Ac) : Sp := fun vs H Q E => vs.length = (["_law_cell"] : List Str).length ∧ t_L_word_by K a E ⟨fun _ H' => Q .non H', Q, F0, F0⟩ (start ["_law_cell"] vs) H
theorem in_L_word_by {K : PySem.W.Frag} {a : Ac} {x0 : V} {H : Hp} {Q : VK} {E : XK} (q : t_L_word_by K a E ⟨fun _ H' => Q .non H', Q, F0, F0⟩ [some x0] H) : sp_L_word_by K a [x0] H Q E := ⟨rfl, q⟩
def t_L_good (K : PySem.W.Frag) (a : Ac) (E : XK) : TS :=
  tRet (tAndV (tCB ((rIsi K)) (tCons (tVar 0) (tCons (tC (.ty "int")) (tNil)))) (tAndV (tNotV (tCB ((rIsi K)) (tCons (tVar 0) (tCons (tC (.ty "bool")) (tNil))))) (tAndV (tOp rLeP (tC (.int 0)) (tVar 0)) (tOp rLeP (tVar 0) (tC (.int 999999999))))))
def N_L_good : List Str := ["_law_thing"]
def sp_L_good (K : PySem.W.Frag) (a : Ac) : Sp := fun vs H Q E => vs.length = (["_law_thing"] : List Str).length ∧ t_L_good K a E ⟨fun _ H' => Q .non H', Q, F0, F0⟩ (start ["_law_thing"] vs) H
theorem in_L_good {K : PySem.W.Frag} {a : Ac} {x0 : V} {H : Hp} {Q : VK} {E : XK} (q : t_L_good K a E ⟨fun _ H' => Q .non H', Q, F0, F0⟩ [some x0] H) : sp_L_good K a [x0] H Q E := ⟨rfl, q⟩
def t_L_truth (K : PySem.W.Frag) (a : Ac) (E : XK) : TS :=
  tRet (tAndV (tOrV (tOp rIsP (tVar 0) (tC (.bl true))) (tOp rIsP (tVar 0) (tC (.bl false)))) (tOp (rEqP K) (tVar 0) (tVar 1)))
def N_L_truth : List Str := ["_law_found", "_law_due"]
def sp_L_truth (K : PySem.W.Frag) (a : Ac) : Sp := fun vs H Q E => vs.length = (["_law_found", "_law_due"] : List Str).length ∧ t_L_truth K a E ⟨fun _ H' => Q .non H', Q, F0, F0⟩ (start ["_law_found", "_law_due"] vs) H
theorem in_L_truth {K : PySem.W.Frag} {a : Ac} {x0 x1 : V} {H : Hp} {Q : VK} {E : XK} (q : t_L_truth K a E ⟨fun _ H' => Q .non H', Q, F0, F0⟩ [some x0, some x1] H) : sp_L_truth K a [x0, x1] H Q E := ⟨rfl, q⟩
def t_L_row (K : PySem.W.Frag) (a : Ac) (E : XK) : TS :=
  tRet (tAndV (tCB ((rIsi K)) (tCons (tVar 0) (tCons (tC (.ty "list")) (tNil)))) (tAndV (tOp (rEqP K) (tCB (rLenP K) (tCons (tVar 0) (tNil))) (tC (.int 16))) (tAndV (tCB ((rAll K)) (tCons (tLc (iSeqP K (tVar 0)) (gName 2) (tYes) (tCallS (sp_L_good K a) (WE W0) (tCons (tVar 2) (tNil))) [2]) (tNil))) (tOp (rEqP K) (tVar 0) (tVar 1)))))
def N_L_row : List Str := ["_law_found", "_law_due", "_law_word"]
def sp_L_row (K : PySem.W.Frag) (a : Ac) : Sp := fun vs H Q E => vs.length = (["_law_found", "_law_due"] : List Str).length ∧ t_L_row K a E ⟨fun _ H' => Q .non H', Q, F0, F0⟩ (start ["_law_found", "_law_due", "_law_word"] vs) H
theorem in_L_row {K : PySem.W.Frag} {a : Ac} {x0 x1 : V} {H : Hp} {Q : VK} {E : XK} (q : t_L_row K a E ⟨fun _ H' => Q .non H', Q, F0, F0⟩ [some x0, some x1, none] H) : sp_L_row K a [x0, x1] H Q E := ⟨rfl, q⟩
def t_L_spoilt (K : PySem.W.Frag) (a : Ac) (E : XK) : TS :=
  tSeq (tAsg (tLst (tCons (tUn (rU fun i => .int (-i)) (tC (.int 1))) (tCons (tC (.int 1000000000)) (tCons (tC (.bl true)) (tCons (tC (.str "1")) (tCons (tC .non) (tCons (tLst (tCons (tC (.int 1)) (tNil))) (tCons (tC (.bl false)) (tCons (tTup (tNil)) (tCons (tUn (rU fun i => .int (-i)) (tC (.int 999999999))) (tNil))))))))))) (gName 2)) (tSeq (tAsg (tOp rModP (tOp rDivP (tVar 1) (tC (.int 27))) (tC (.int 16))) (gName 3)) (tSeq (tIfS (tTest (tOp (rEqP K) (tOp rModP (tVar 1) (tC (.int 3))) (tC (.int 1)))) (tRet (tOp rAddP (tOp rAddP (tSl (rSlP K) (tVar 0) (tNoPart) (tPart (tVar 3))) (tLst (tCons (tOp (rIxP K) (tVar 2) (tOp rModP (tOp rDivP (tVar 1) (tC (.int 3))) (tC (.int 9)))) (tNil)))) (tSl (rSlP K) (tVar 0) (tPart (tOp rAddP (tVar 3) (tC (.int 1)))) (tNoPart)))) (tNext)) (tSeq (tIfS (tTest (tOp (rEqP K) (tOp rModP (tVar 1) (tC (.int 9))) (tC (.int 2)))) (tRet (tOp rAddP (tVar 0) (tLst (tCons (tC (.int 0)) (tNil))))) (tNext)) (tSeq (tIfS (tTest (tOp (rEqP K) (tOp rModP (tVar 1) (tC (.int 9))) (tC (.int 5)))) (tRet (tOp (rIxP K) (tLst (tCons (tSl (rSlP K) (tVar 0) (tNoPart) (tPart (tC (.int 15)))) (tCons (tLst (tNil)) (tNil)))) (tOp rModP (tOp rDivP (tVar 1) (tC (.int 9))) (tC (.int 2))))) (tNext)) (tSeq (tIfS (tTest (tOp (rEqP K) (tOp rModP (tVar 1) (tC (.int 9))) (tC (.int 8)))) (tRet (tCB ((rTupleP K)) (tCons (tVar 0) (tNil)))) (tNext)) (tRet (tCB ((rListP K)) (tCons (tVar 0) (tNil)))))))))
def N_L_spoilt : List Str := ["_law_row_here", "_law_cell", "_law_odd", "_law_at"]
def sp_L_spoilt (K : PySem.W.Frag) (a : Ac) : Sp := fun vs H Q E => vs.length = (["_law_row_here", "_law_cell"] : List Str).length ∧ t_L_spoilt K a E ⟨fun _ H' => Q .non H', Q, F0, F0⟩ (start ["_law_row_here", "_law_cell", "_law_odd", "_law_at"] vs) H
theorem in_L_spoilt {K : PySem.W.Frag} {a : Ac} {x0 x1 : V} {H : Hp} {Q : VK} {E : XK} (q : t_L_spoilt K a E ⟨fun _ H' => Q .non H', Q, F0, F0⟩ [some x0, some x1, none, none] H) : sp_L_spoilt K a [x0, x1] H Q E := ⟨rfl, q⟩
def t_law_6 (K : PySem.W.Frag) (a : Ac) (E : XK) : TS :=
  tSeq (tFor (iSeqP K (tLst (tCons (tC .non) (tCons (tC (.int 5)) (tCons (tC (.str "")) (tCons (tDNewK) (tCons (tSl (rSlP K) (tVar 1) (tNoPart) (tPart (tC (.int 1)))) (tNil)))))))) (gName 3) (tIfS (tNot (tB (tCallS (sp_L_truth K a) (WE (WM E)) (tCons (tCallS (sp_is_row K a) (WE (WM E)) (tCons (tVar 3) (tNil))) (tCons (tC (.bl false)) (tNil)))))) (tRet (tC (.bl false))) (tNext))) (tSeq (tAsg (tOp rModP (tCallS (sp_L_cell_at K a) (WE (WM E)) (tCons (tVar 0) (tCons (tC (.int 1)) (tNil)))) (tC (.int 17))) (gName 6)) (tSeq (tAsg (tCB rMin2 (tCons (tOp rSubP (tC (.int 16)) (tVar 6)) (tCons (tOp rModP (tOp rDivP (tCallS (sp_L_cell_at K a) (WE (WM E)) (tCons (tVar 0) (tCons (tC (.int 1)) (tNil)))) (tC (.int 17))) (tC (.int 6))) (tNil)))) (gName 7)) (tSeq (tAsg (tLc (iRng1 (tCons (tVar 7) (tNil))) (gName 11) (tYes) (tCallS (sp_L_word_by K a) (WE W0) (tCons (tOp rAddP (tCallS (sp_L_cell_at K a) (WE W0) (tCons (tVar 0) (tCons (tC (.int 2)) (tNil)))) (tOp rMulP (tC (.int 101)) (tVar 11))) (tNil))) [11]) (gName 8)) (tSeq (tAsg (tLst (tCons (tCB ((rListP K)) (tCons (tVar 1) (tNil))) (tCons (tCB ((rListP K)) (tCons (tVar 8) (tNil))) (tNil)))) (gName 9)) (tSeq (tAsg (tCallS (sp_changed K a) (WE (WM E)) (tCons (tOp (rIxP K) (tVar 9) (tC (.int 0))) (tCons (tVar 6) (tCons (tOp (rIxP K) (tVar 9) (tC (.int 1))) (tNil))))) (gName 10)) (tSeq (tIfS (tOr (tNot (tB (tCallS (sp_L_row K a) (WE (WM E)) (tCons (tVar 10) (tCons (tOp rAddP (tOp rAddP (tSl (rSlP K) (tVar 1) (tNoPart) (tPart (tVar 6))) (tVar 8)) (tSl (rSlP K) (tVar 1) (tPart (tOp rAddP (tVar 6) (tCB (rLenP K) (tCons (tVar 8) (tNil))))) (tNoPart))) (tNil)))))) (tTest (tOp (rNeP K) (tVar 9) (tLst (tCons (tVar 1) (tCons (tVar 8) (tNil))))))) (tRet (tC (.bl false))) (tNext)) (tSeq (tDrop (tBM0 K "list" rClear (tVar 10))) (tSeq (tDrop (tBM0 K "list" rClear (tCall0 (sp_empty_row K a) (WE (WM E))))) (tRet (tAndV (tOp (rEqP K) (tVar 9) (tLst (tCons (tVar 1) (tCons (tVar 8) (tNil))))) (tCallS (sp_L_row K a) (WE (WM E)) (tCons (tCall0 (sp_empty_row K a) (WE (WM E))) (tCons (tOp rMulP (tLst (tCons (tC (.int 0)) (tNil))) (tC (.int 16))) (tNil))))))))))))))
def t_law (K : PySem.W.Frag) (a : Ac) (E : XK) : TS :=
  tSeq (tAsg (tLc (iRng1 (tCons (tC (.int 16)) (tNil))) (gName 11) (tYes) (tCallS (sp_L_word_by K a) (WE W0) (tCons (tOp rAddP (tCallS (sp_L_cell_at K a) (WE W0) (tCons (tVar 0) (tCons (tOp rAddP (tC (.int 3)) (tVar 11)) (tNil)))) (tOp rMulP (tC (.int 7919)) (tVar 11))) (tNil))) [11]) (gName 1)) (tSeq (tAsg (tCallS (sp_L_spoilt K a) (WE (WM E)) (tCons (tVar 1) (tCons (tCallS (sp_L_cell_at K a) (WE (WM E)) (tCons (tVar 0) (tCons (tC (.int 0)) (tNil)))) (tNil)))) (gName 2)) (tSeq (tFor (iSeqP K (tVar 2)) (gName 3) (tIfS (tNot (tB (tCallS (sp_L_truth K a) (WE (WM E)) (tCons (tCallS (sp_is_word K a) (WE (WM E)) (tCons (tVar 3) (tNil))) (tCons (tCallS (sp_L_good K a) (WE (WM E)) (tCons (tVar 3) (tNil))) (tNil)))))) (tRet (tC (.bl false))) (tNext))) (tSeq (tAsg (tAndV (tCB ((rIsi K)) (tCons (tVar 2) (tCons (tC (.ty "list")) (tNil)))) (tAndV (tOp (rEqP K) (tCB (rLenP K) (tCons (tVar 2) (tNil))) (tC (.int 16))) (tCB ((rAll K)) (tCons (tLc (iSeqP K (tVar 2)) (gName 3) (tYes) (tCallS (sp_L_good K a) (WE W0) (tCons (tVar 3) (tNil))) [3]) (tNil))))) (gName 4)) (tSeq (tAsg (tSl (rSlP K) (tVar 2) (tNoPart) (tNoPart)) (gName 5)) (tSeq (tIfS (tOr (tNot (tB (tCallS (sp_L_truth K a) (WE (WM E)) (tCons (tCallS (sp_is_row K a) (WE (WM E)) (tCons (tVar 5) (tNil))) (tCons (tVar 4) (tNil)))))) (tTest (tOp (rNeP K) (tVar 5) (tVar 2)))) (tRet (tC (.bl false))) (tNext)) (t_law_6 K a E))))))
def N_law : List Str := ["_law_script", "_law_row_here", "_law_thing", "_law_one", "_law_due", "_law_handed", "_law_at", "_law_many", "_law_words", "_law_given", "_law_found", "_law_k"]
def sp_law (K : PySem.W.Frag) (a : Ac) : Sp := fun vs H Q E => vs.length = (["_law_script"] : List Str).length ∧ t_law K a E ⟨fun _ H' => Q .non H', Q, F0, F0⟩ (start ["_law_script", "_law_row_here", "_law_thing", "_law_one", "_law_due", "_law_handed", "_law_at", "_law_many", "_law_words", "_law_given", "_law_found", "_law_k"] vs) H
theorem in_law {K : PySem.W.Frag} {a : Ac} {x0 : V} {H : Hp} {Q : VK} {E : XK} (q : t_law K a E ⟨fun _ H' => Q .non H', Q, F0, F0⟩ [some x0, none, none, none, none, none, none, none, none, none, none, none] H) : sp_law K a [x0] H Q E := ⟨rfl, q⟩
end Bk

namespace Bk
open PySem L2 PyProof.Rows
/-! our own short tactics: h: what stands at a place; ne: two places; sm: what stood stands; z: a size; s: a step; go: steps -/
local macro_rules | `(tactic| walk_at "h") => `(tactic| first
  | assumption
  | exact New.at (by assumption)
  | exact Wr.at (by assumption)
  | (refine' New.old (by assumption) ?_; walk_at "h")
  | (refine' Same.at (by assumption) ?_; walk_at "h")
  | (refine' Wr.old (by assumption) ?_ ?_; walk_at "ne"; walk_at "h"))
local macro_rules | `(tactic| walk_at "ne") => `(tactic| first
  | assumption
  | exact Ne.symm (by assumption)
  | exact New.ne (by assumption) (by walk_at "h")
  | exact ne_none (by assumption) (by walk_at "h")
  | exact Ne.symm (ne_none (by assumption) (by walk_at "h"))
  | exact Ne.symm (New.ne (by assumption) (by walk_at "h")))
local macro_rules | `(tactic| walk_at "sm") => `(tactic| first
  | exact Same.refl _
  | assumption
  | (refine' Same.trans ?_ (New.same (by assumption)); walk_at "sm")
  | (refine' Same.trans ?_ (by assumption : Same _ _); walk_at "sm"))
local macro_rules | `(tactic| walk_at "z") => `(tactic| first
  | assumption
  | (rw [PySem.sizeLine_eq]; simp only [List.length_cons, List.length_nil, List.length_append, List.length_map, List.length_range, List.length_replicate, len_cut] at *; omega))
local macro_rules | `(tactic| walk_at "s") => `(tactic| first
  | ((with_reducible refine' go_var ?h ?_); (case h => exact rfl))
  | (with_reducible refine' go_c ?_)
  | (with_reducible refine' go_op ?_)
  | (with_reducible refine' go_un ?_)
  | (with_reducible refine' go_rU ?_)
  | (with_reducible refine' go_seq ?_)
  | (with_reducible refine' go_ret ?_)
  | (with_reducible refine' go_retN ?_)
  | (with_reducible refine' go_next ?_)
  | (with_reducible refine' go_drop ?_)
  | (with_reducible refine' go_asg ?_)
  | ((with_reducible refine' go_name2 ?h ?_); (case h => (simp only [List.set_cons_zero, List.set_cons_succ]; exact rfl)))
  | ((with_reducible refine' go_name2 ?h ?_); (case h => exact rfl))
  | (with_reducible refine' go_ifS ?_)
  | (with_reducible refine' go_blk ?_)
  | (with_reducible refine' go_test ?_)
  | (with_reducible refine' go_tB ?_)
  | (with_reducible refine' go_and ?_)
  | (with_reducible refine' go_or ?_)
  | (with_reducible refine' go_not ?_)
  | (with_reducible refine' go_andV ?_)
  | (with_reducible refine' go_orV ?_)
  | (with_reducible refine' go_notV ?_)
  | (with_reducible refine' go_if ?_)
  | (with_reducible refine' go_chain ?_)
  | (with_reducible refine' iteT ?_)
  | (with_reducible refine' iteF ?_)
  | ((with_reducible refine' go_Td ?h ?_); (case h => walk_at "pr"))
  | ((with_reducible refine' go_Fd ?h ?_); (case h => walk_at "pr"))
  | ((with_reducible refine' go_Tn ?h ?_); (case h => walk_at "pr"))
  | ((with_reducible refine' go_Fn ?h ?_); (case h => walk_at "pr"))
  | ((with_reducible refine' go_T ?h ?_); (case h => (first | decide | assumption)))
  | ((with_reducible refine' go_F ?h ?_); (case h => (first | decide | assumption)))
  | (with_reducible refine' go_nil ?_)
  | (with_reducible refine' go_cons ?_)
  | (with_reducible refine' go_tLst ?_)
  | (with_reducible refine' go_tTup ?_)
  | ((with_reducible refine' go_LstK ?h ?_); (case h => walk_at "z"); intro p H1 n1)
  | ((with_reducible refine' go_TupK ?h ?_); (case h => walk_at "z"); intro p H1 n1)
  | (with_reducible refine' go_addI ?_)
  | ((with_reducible refine' go_addL ?h ?k ?z ?_); (case h => walk_at "h"); (case k => walk_at "h"); (case z => walk_at "z"); intro p H1 n1)
  | (with_reducible refine' go_sub ?_)
  | ((with_reducible refine' go_mulI ?h ?_); (case h => (unfold CMul; omega)))
  | ((with_reducible refine' go_mulL ?h ?k ?_); (case h => walk_at "h"); (case k => (refine ⟨by omega, by omega, ?_⟩; walk_at "z")); intro p H1 n1)
  | ((with_reducible refine' go_div ?h ?_); (case h => (unfold CDiv; omega)))
  | ((with_reducible refine' go_mod ?h ?_); (case h => omega))
  | ((with_reducible refine' go_pow ?h ?_); (case h => (unfold CPow; omega)))
  | (with_reducible refine' go_lt ?_)
  | (with_reducible refine' go_le ?_)
  | (with_reducible refine' go_gt ?_)
  | (with_reducible refine' go_ge ?_)
  | (with_reducible refine' go_eqI ?_)
  | (with_reducible refine' go_eqB ?_)
  | (with_reducible refine' go_eqS ?_)
  | (with_reducible refine' go_neI ?_)
  | (with_reducible refine' go_neB ?_)
  | (with_reducible refine' go_neS ?_)
  | (with_reducible refine' go_isN ?_)
  | (with_reducible refine' go_isNotN ?_)
  | (with_reducible refine' go_isB ?_)
  | (with_reducible refine' go_isNotB ?_)
  | (with_reducible refine' go_sl ?_)
  | (with_reducible refine' go_noPart ?_)
  | (with_reducible refine' go_part ?_)
  | (with_reducible refine' go_intK ?_)
  | ((with_reducible refine' go_slL ?h ?_); (case h => walk_at "h"); intro p H1 n1)
  | ((with_reducible refine' go_ixL ?h ?k ?_); (case h => walk_at "h"); (case k => exact rfl))
  | ((with_reducible refine' go_ixT ?h ?k ?_); (case h => walk_at "h"); (case k => exact rfl))
  | ((with_reducible refine' go_slW ?h ?_); (case h => walk_at "h"))
  | (with_reducible refine' go_bm ?_)
  | (with_reducible refine' go_bm0 ?_)
  | ((with_reducible refine' go_bmL ?h ?_); (case h => walk_at "h"))
  | ((with_reducible refine' go_append ?h ?k ?_); (case h => walk_at "h"); (case k => walk_at "z"); intro H1 n1)
  | ((with_reducible refine' go_extend ?h ?k ?z ?_); (case h => walk_at "h"); (case k => walk_at "h"); (case z => walk_at "z"); intro H1 n1)
  | ((with_reducible refine' go_clear ?h ?_); (case h => walk_at "h"); intro H1 n1)
  | ((with_reducible refine' go_dnew ?_); intro p H1 n1)
  | (with_reducible refine' go_cb ?_)
  | (with_reducible refine' go_callS ?_)
  | (with_reducible refine' go_call0 ?_)
  | ((with_reducible refine' go_lenL ?h ?_); (case h => walk_at "h"))
  | ((with_reducible refine' go_lenT ?h ?_); (case h => walk_at "h"))
  | ((with_reducible refine' go_lenK ?h ?_); (case h => walk_at "hk"))
  | ((with_reducible refine' go_listL ?h ?_); (case h => walk_at "h"); intro p H1 n1)
  | ((with_reducible refine' go_listT ?h ?_); (case h => walk_at "h"); intro p H1 n1)
  | ((with_reducible refine' go_tupleL ?h ?_); (case h => walk_at "h"); intro p H1 n1)
  | (with_reducible refine' go_intI ?_)
  | (with_reducible refine' go_intB ?_)
  | (with_reducible refine' go_abs ?_)
  | (with_reducible refine' go_min2 ?_)
  | (with_reducible refine' go_max2 ?_)
  | ((with_reducible refine' go_isi ?h ?k ?_); (case h => walk_at "ty"); (case k => exact kit_bb (by decide) (by decide)))
  | (with_reducible refine' go_lc ?_)
  | (with_reducible refine' go_for ?_)
  | (with_reducible refine' go_seqP ?_)
  | ((with_reducible refine' go_seqL ?h ?_); (case h => walk_at "h"))
  | ((with_reducible refine' go_seqT ?h ?_); (case h => walk_at "h"))
  | (with_reducible refine' go_seqS ?_)
  | (with_reducible refine' go_rng1 ?_)
  | (with_reducible refine' go_rng2 ?_)
  | ((with_reducible refine' go_rng1K ?h ?_); (case h => omega))
  | ((with_reducible refine' go_rng2K ?h ?_); (case h => omega))
  | (with_reducible refine' go_raise ?_)
  | ((with_reducible refine' go_tupG ?h ?k ?_); (case h => walk_at "h"); (case k => exact rfl))
  | ((with_reducible refine' go_lstG ?h ?k ?_); (case h => walk_at "h"); (case k => exact rfl))
  | (with_reducible refine' go_gNil ?_)
  | (with_reducible refine' go_gCons ?_))
local macro_rules | `(tactic| walk_at "pr") => `(tactic| first
  | assumption
  | decide
  | omega)
local macro_rules | `(tactic| walk_at "hk") => `(tactic| first
  | assumption
  | exact seq' (by assumption) (by walk_at "sm"))
local macro_rules | `(tactic| walk_at "ty") => `(tactic| first
  | exact rfl
  | assumption
  | exact tyN_L (by walk_at "h")
  | exact tyN_T (by walk_at "h")
  | exact tyN_D (by walk_at "h"))
local macro_rules | `(tactic| walk_at "go") => `(tactic| repeat (walk_at "s"))
/-! ### the law of words and rows, in plain words -/
/-- a word, by its value -/
def isW : V → Bool
  | .int i => decide (0 ≤ i) && decide (i ≤ 999999999)
  | _ => false
def wordBy (c : Int) : Int := if c % 5 < 2 then (if c % 5 = 0 then 0 else 999999999) else c * 48271 % 1000000000
theorem wordBy_ok (c : Int) : 0 ≤ wordBy c ∧ wordBy c ≤ 999999999 := by
  unfold wordBy
  split
  · split <;> omega
  · omega
theorem isW_wordBy (c : Int) : isW (.int (wordBy c)) = true := by
  have h := wordBy_ok c
  simp [isW, h.1, h.2]
def spLaw (K : PySem.W.Frag) : Sp := fun vs H Q _ => ∃ (a : Addr) (ns : List Int), vs = [.ref a] ∧ SqL K H a (ns.map V.int) ∧ ns.length ≤ 63 ∧ ∀ H', Q (.bl true) H'
section
variable {K : PySem.W.Frag} {a : Ac} {H : Hp} {Q : VK} {E : XK}
theorem p_is_word {x : V} {n : String} (h : tyN H x = some n) (q : Q (.bl (isW x)) H) : sp_is_word K a [x] H Q E := by
  refine in_is_word ?_
  unfold t_is_word
  cases x with
  | int i =>
    walk_at "go"
    refine go_dec (fun c => ?_) (fun c => ?_)
    all_goals walk_at "go"
    all_goals (simpa [isW, c] using q)
  | bl b => walk_at "go"; exact q
  | non => walk_at "go"; exact q
  | str s => walk_at "go"; exact q
  | ref p =>
    rcases kindR h with ⟨rfl, xs, e⟩ | ⟨rfl, xs, e⟩ | ⟨rfl, kvs, e⟩
    all_goals (walk_at "go"; exact q)
  | _ => cases h
theorem p_good {x : V} {n : String} (h : tyN H x = some n) (q : Q (.bl (isW x)) H) : sp_L_good K a [x] H Q E := by
  refine in_L_good ?_
  unfold t_L_good
  cases x with
  | int i =>
    walk_at "go"
    refine go_dec (fun c => ?_) (fun c => ?_)
    all_goals walk_at "go"
    all_goals (simpa [isW, c] using q)
  | bl b => walk_at "go"; exact q
  | non => walk_at "go"; exact q
  | str s => walk_at "go"; exact q
  | ref p =>
    rcases kindR h with ⟨rfl, xs, e⟩ | ⟨rfl, xs, e⟩ | ⟨rfl, kvs, e⟩
    all_goals (walk_at "go"; exact q)
  | _ => cases h
/-- a row, told of a list -/
def isR (xs : List V) : Bool := decide ((xs.length : Int) = 16) && xs.all isW
theorem all_bls (xs : List V) : (xs.map isW).all id = xs.all isW := by rw [List.all_map]; rfl
theorem p_is_rowL {p : Addr} {xs : List V} (h : H p = some (.lst xs)) (hk : ∀ y ∈ xs, ∃ n, tyN H y = some n) (hz : xs.length ≤ 1000) (q : ∀ H', Same H H' → Q (.bl (isR xs)) H') : sp_is_row K a [.ref p] H Q E := by
  refine in_is_row ?_
  unfold t_is_row
  walk_at "go"
  refine go_dec (fun c => ?_) (fun c => ?_)
  all_goals walk_at "go"
  · refine lc_mapL (f := fun y => .bl (isW y)) h (by rw [sizeLine_eq]; omega) (fun i x H' Q' hx s q' => ?_) (fun D H2 hD s hd => ?_)
    · obtain ⟨n, e⟩ := hk x (List.mem_of_getElem? hx)
      walk_at "go"
      exact p_is_word (tyN_same s e) (q' _ (Same.refl _))
    · refine go_all (bs := xs.map isW) (by rw [hd, List.map_map]; rfl) ?_
      rw [all_bls]
      have := q _ s
      rwa [isR, decide_eq_true c, Bool.true_and] at this
  · have := q _ (Same.refl _)
    rwa [isR, decide_eq_false c, Bool.false_and] at this
/-- what is no list is no row -/
theorem p_is_rowN {x : V} {n : String} (h : tyN H x = some n) (hn : n ≠ "list") (q : Q (.bl false) H) : sp_is_row K a [x] H Q E := by
  refine in_is_row ?_
  unfold t_is_row
  cases x with
  | int i => walk_at "go"; exact q
  | bl b => walk_at "go"; exact q
  | non => walk_at "go"; exact q
  | str s => walk_at "go"; exact q
  | ref p =>
    rcases kindR h with ⟨rfl, xs, e⟩ | ⟨rfl, xs, e⟩ | ⟨rfl, kvs, e⟩
    · exact absurd rfl hn
    all_goals (walk_at "go"; exact q)
  | _ => cases h
theorem p_cell_at {p : Addr} {ns : List Int} {k : Int} (h : SqL K H p (ns.map V.int)) (hk : 0 ≤ k) (q : Q (.int (cellI ns k)) H) : sp_L_cell_at K a [.ref p, .int k] H Q E := by
  refine in_L_cell_at ?_
  unfold t_L_cell_at
  walk_at "go"
  rw [List.length_map]
  refine go_dec (fun c => ?_) (fun c => ?_)
  all_goals walk_at "go"
  · exact go_ixK h (cell_in hk c) q
  · rwa [cell_out c] at q
theorem p_word_by {c : Int} (q : ∀ H', Same H H' → Q (.int (wordBy c)) H') : sp_L_word_by K a [.int c] H Q E := by
  refine in_L_word_by ?_
  unfold t_L_word_by
  walk_at "go"
  have e := q
  unfold wordBy at e
  refine go_dec (fun k => ?_) (fun k => ?_)
  all_goals walk_at "go"
  · rename_i p H1 n1
    rw [if_pos k] at e
    refine go_ixLo (by walk_at "h") ⟨by omega, by show c % 5 < 2; exact k⟩ fun v hv hi => ?_
    have e := e _ n1.same
    by_cases z : c % 5 = 0
    · rw [if_pos z] at e
      rw [z] at hi
      cases hi
      exact e
    · rw [if_neg z] at e
      have z1 : c % 5 = 1 := by omega
      rw [z1] at hi
      cases hi
      exact e
  · rw [if_neg k] at e
    exact e _ (Same.refl _)
theorem p_truth {x y : Bool} (q : Q (.bl (decide (x = y))) H) : sp_L_truth K a [.bl x, .bl y] H Q E := by
  refine in_L_truth ?_
  unfold t_L_truth
  walk_at "go"
  cases x <;> walk_at "go" <;> exact q
theorem p_row {p r : Addr} {ns : List Int} (h : H p = some (.lst (ns.map V.int))) (k : H r = some (.lst (ns.map V.int))) (hn : ns.length = 16) (hw : ∀ z ∈ ns, isW (.int z) = true) (q : ∀ H', Same H H' → Q (.bl true) H') : sp_L_row K a [.ref p, .ref r] H Q E := by
  refine in_L_row ?_
  unfold t_L_row
  walk_at "go"
  rw [List.length_map]
  refine go_Td (by omega) ?_
  walk_at "go"
  refine lc_mapL (f := fun y => .bl (isW y)) h (by rw [sizeLine_eq, List.length_map]; omega) (fun i x H' Q' hx s q' => ?_) (fun D H2 hD s hd => ?_)
  · obtain ⟨z, hz, rfl⟩ := List.mem_map.mp (List.mem_of_getElem? hx)
    walk_at "go"
    exact p_good (x := .int z) rfl (q' _ (Same.refl _))
  · refine go_all (bs := (ns.map V.int).map isW) (by rw [hd]; simp only [List.map_map]; rfl) ?_
    rw [all_bls]
    walk_at "s"
    refine go_T (List.all_eq_true.mpr fun y hy => ?_) ?_
    · obtain ⟨z, hz, rfl⟩ := List.mem_map.mp hy
      exact hw z hz
    · walk_at "go"
      refine go_eqIs (by walk_at "h") (by walk_at "h") ?_
      rw [decide_eq_true rfl]
      exact q _ s
theorem p_empty_row (q : ∀ p H1, Same H H1 → H p = none → H1 p = some (.lst ((List.replicate 16 (0 : Int)).map V.int)) → Q (.ref p) H1) : sp_empty_row K a [] H Q E := by
  refine in_empty_row ?_
  unfold t_empty_row
  walk_at "go"
  rename_i p H1 n1 p2 H2 n2
  exact q p2 H2 (n1.same.trans n2.same) (n1.same.free n2.free) n2.at
theorem p_changed {r w : Addr} {xs ys : List V} {k : Int} (h : H r = some (.lst xs)) (hw : H w = some (.lst ys)) (hk : 0 ≤ k) (hx : xs.length ≤ 1000) (hy : ys.length ≤ 1000)
    (q : ∀ p H1, Same H H1 → H p = none → H1 p = some (.lst (xs.take k.toNat ++ ys ++ xs.drop (k.toNat + ys.length))) → Q (.ref p) H1) : sp_changed K a [.ref r, .int k, .ref w] H Q E := by
  refine in_changed ?_
  unfold t_changed
  walk_at "go"
  rename_i p1 H1 n1 p2 H2 n2 p3 H3 n3 p4 H4 n4
  refine q p4 H4 (by walk_at "sm") ?_ ?_
  · exact (((n1.same.trans n2.same).trans n3.same)).free n4.free
  · rw [n4.at, cut_take xs hk, cut_drop xs (by omega)]
    have e : (k + (ys.length : Int)).toNat = k.toNat + ys.length := by omega
    rw [e]
theorem p_spoilt {r : Addr} {ns : List Int} {c : Int} (h : H r = some (.lst (ns.map V.int))) (hl : ns.length = 16)
    (q : ∀ p xs H', Same H H' → (H' p = some (.lst xs) ∨ H' p = some (.tup xs)) → xs.length ≤ 17 → (∀ y ∈ xs, Itm K H' y) → Q (.ref p) H') : sp_L_spoilt K a [.ref r, .int c] H Q E := by
  have hl' : (ns.map V.int).length = 16 := by rw [List.length_map]; exact hl
  have hin : ∀ (H' : Hp) y, y ∈ ns.map V.int → Itm K H' y := fun H' y hy => by
    obtain ⟨z, _, rfl⟩ := List.mem_map.mp hy
    exact .int z
  refine in_L_spoilt ?_
  unfold t_L_spoilt
  walk_at "go"
  rename_i p1 H1 n1 p2 H2 n2 p3 H3 n3
  refine go_dec (fun c1 => ?_) (fun c1 => ?_)
  · walk_at "go"
    rename_i p4 H4 n4
    refine go_ixLo (by walk_at "h") ⟨by omega, by show _ < (9 : Int); omega⟩ fun v hv hi => ?_
    have iv : Itm K H4 v := by
      refine Itm.same n4.same ?_
      have z1 : H3 p1 = some (.lst ([1].map V.int)) := n3.old (n2.old n1.at)
      have z2 : H3 p2 = some (.tup []) := n3.old n2.at
      simp only [List.mem_cons, List.not_mem_nil, or_false] at hv
      rcases hv with rfl | rfl | rfl | rfl | rfl | rfl | rfl | rfl | rfl
      · exact .int _
      · exact .int _
      · exact .bl _
      · exact .str _ (by decide +kernel)
      · exact .non
      · exact .ints z1
      · exact .bl _
      · exact .tup0 z2
      · exact .int _
    walk_at "go"
    rename_i p5 H5 n5 p6 H6 n6 p7 H7 n7 p8 H8 n8
    refine q p8 _ H8 (by walk_at "sm") (.inl n8.at) ?_ fun y hy => ?_
    · rw [cut_take _ (by omega), cut_drop _ (by omega)]
      simp only [List.length_append, List.length_take, List.length_drop, List.length_cons, List.length_nil, hl']
      omega
    · rw [cut_take _ (by omega), cut_drop _ (by omega)] at hy
      rcases List.mem_append.mp hy with hy | hy
      · rcases List.mem_append.mp hy with hy | hy
        · exact hin _ _ (List.mem_of_mem_take hy)
        · rw [List.mem_singleton.mp hy]
          exact iv.same (by walk_at "sm")
      · exact hin _ _ (List.mem_of_mem_drop hy)
  · walk_at "go"
    refine go_dec (fun c2 => ?_) (fun c2 => ?_)
    · walk_at "go"
      rename_i p5 H5 n5 p6 H6 n6
      refine q p6 _ H6 (by walk_at "sm") (.inl n6.at) (by simp [hl]) fun y hy => ?_
      rcases List.mem_append.mp hy with hy | hy
      · exact hin _ _ hy
      · rw [List.mem_singleton.mp hy]
        exact .int 0
    · walk_at "go"
      refine go_dec (fun c3 => ?_) (fun c3 => ?_)
      · walk_at "go"
        rename_i p5 H5 n5 p6 H6 n6 p7 H7 n7
        refine go_ixLo (by walk_at "h") ⟨by omega, by show _ < (2 : Int); omega⟩ fun v hv hi => ?_
        have z5 : H7 p5 = some (.lst (cutV (ns.map V.int) none (some 15))) := by walk_at "h"
        have z6 : H7 p6 = some (.lst []) := by walk_at "h"
        rw [cut_take _ (by omega)] at z5
        simp only [List.mem_cons, List.not_mem_nil, or_false] at hv
        rcases hv with rfl | rfl
        · refine q p5 _ H7 (by walk_at "sm") (.inl z5) (by rw [List.length_take]; omega) fun y hy => hin _ _ (List.mem_of_mem_take hy)
        · exact q p6 _ H7 (by walk_at "sm") (.inl z6) (by simp) fun y hy => by cases hy
      · walk_at "go"
        refine go_dec (fun c4 => ?_) (fun c4 => ?_)
        · walk_at "go"
          rename_i p5 H5 n5
          exact q p5 _ H5 (by walk_at "sm") (.inr n5.at) (by omega) fun y hy => hin _ _ hy
        · walk_at "go"
          rename_i p5 H5 n5
          exact q p5 _ H5 (by walk_at "sm") (.inl n5.at) (by omega) fun y hy => hin _ _ hy
theorem law_rest {p D : Addr} {ns row : List Int} {v2 v3 v4 v5 : Option V} (hS : SqL K H p (ns.map V.int)) (hd : H D = some (.lst (row.map V.int))) (hrow : row.length = 16) (hw : ∀ z ∈ row, isW (.int z) = true) (q : ∀ H', Q (.bl true) H') :
    t_law_6 K a E ⟨fun _ H' => Q .non H', Q, F0, F0⟩ [some (.ref p), some (.ref D), v2, v3, v4, v5, none, none, none, none, none, none] H := by
  have hrow' : (row.map V.int).length = 16 := by rw [List.length_map]; exact hrow
  unfold t_law_6
  walk_at "go"
  rename_i pd H1 n1 pr H2 n2 pl H3 n3
  rw [cut_take _ (by omega)] at n2
  refine for_lookL n3.at ⟨v3, rfl⟩ (fun i x H' N hx s' k => ?_) (fun v H4 s4 => ?_)
  · simp only [List.set_cons_zero, List.set_cons_succ]
    have no : ∀ n, tyN H' x = some n → n ≠ "list" → sp_is_row K a [x] H' (fun y H4 => y = .bl false ∧ H4 = H') E := fun n e z => p_is_rowN e z ⟨rfl, rfl⟩
    have fin : tCallS (sp_L_truth K a) (WE (WM E)) (tCons (tC (.bl false)) (tCons (tC (.bl false)) tNil)) [] H' (fun y H4 => y = .bl true ∧ H4 = H') := by
      walk_at "go"
      exact p_truth ⟨rfl, rfl⟩
    have hx' := List.mem_of_getElem? hx
    simp only [List.mem_cons, List.not_mem_nil, or_false] at hx'
    walk_at "go"
    rcases hx' with rfl | rfl | rfl | rfl | rfl
    · refine p_is_rowN (n := "NoneType") rfl (by decide) ?_
      walk_at "go"
      refine p_truth ?_
      walk_at "go"
      exact k _ (Same.refl _)
    · refine p_is_rowN (n := "int") rfl (by decide) ?_
      walk_at "go"
      refine p_truth ?_
      walk_at "go"
      exact k _ (Same.refl _)
    · refine p_is_rowN (n := "str") rfl (by decide) ?_
      walk_at "go"
      refine p_truth ?_
      walk_at "go"
      exact k _ (Same.refl _)
    · refine p_is_rowN (n := "dict") (tyN_D (by walk_at "h")) (by decide) ?_
      walk_at "go"
      refine p_truth ?_
      walk_at "go"
      exact k _ (Same.refl _)
    · refine p_is_rowL (xs := (row.map V.int).take (Int.toNat 1)) (by walk_at "h") (fun y hy => ?_) (by rw [List.length_take]; omega) fun H5 s5 => ?_
      · obtain ⟨z, _, rfl⟩ := List.mem_map.mp (List.mem_of_mem_take hy)
        exact ⟨_, rfl⟩
      have e : isR ((row.map V.int).take (Int.toNat 1)) = false := by
        unfold isR
        rw [decide_eq_false (by rw [List.length_take]; omega), Bool.false_and]
      rw [e]
      walk_at "go"
      refine p_truth ?_
      walk_at "go"
      exact k _ s5
  simp only [List.set_cons_zero, List.set_cons_succ]
  walk_at "go"
  refine p_cell_at (ns := ns) (by walk_at "hk") (by omega) ?_
  generalize cellI ns 1 = c1
  walk_at "go"
  refine p_cell_at (ns := ns) (by walk_at "hk") (by omega) ?_
  generalize cellI ns 1 = c2
  walk_at "go"
  generalize hm : (if c2 / 17 % 6 < 16 - c1 % 17 then c2 / 17 % 6 else 16 - c1 % 17) = m
  have m0 : 0 ≤ m ∧ c1 % 17 + m ≤ 16 ∧ m ≤ 5 := by rw [← hm]; split <;> omega
  generalize hat : c1 % 17 = at0
  have a0 : 0 ≤ at0 ∧ at0 + m ≤ 16 := by omega
  refine lc_mapR (f := fun i => .int (wordBy (cellI ns 2 + 101 * i))) (by rw [sizeLine_eq]; omega) (fun i H' Q' hi s q' => ?_) (fun W H5 hW s5 hw5 => ?_)
  · walk_at "go"
    refine p_cell_at (ns := ns) (by walk_at "hk") (by omega) ?_
    walk_at "go"
    refine p_word_by fun H'' s2 => ?_
    have := q' _ s2
    simpa using this
  generalize hr : (List.range m.toNat).map (fun i : Nat => wordBy (cellI ns 2 + 101 * i)) = ws
  have hws : ws.length = m.toNat := by rw [← hr]; simp
  have hw5' : H5 W = some (.lst (ws.map V.int)) := by rw [hw5, ← hr, List.map_map]; rfl
  have hww : ∀ z ∈ ws, isW (.int z) = true := fun z hz => by
    rw [← hr] at hz
    obtain ⟨i, _, rfl⟩ := List.mem_map.mp hz
    exact isW_wordBy _
  clear hw5 hr
  walk_at "go"
  rename_i g1 H6 n6 g2 H7 n7 g H8 n8
  refine p_changed (by walk_at "h") (by walk_at "h") (by omega) (by omega) (by rw [List.length_map]; omega) fun f H9 s9 hf9 hf => ?_
  rw [List.length_map, ← List.map_take, ← List.map_drop, ← List.map_append, ← List.map_append] at hf
  walk_at "go"
  rename_i q1 J1 k1 q2 J2 k2 q3 J3 k3 q4 J4 k4
  rw [cut_take _ a0.1] at k1
  rw [cut_drop _ (by omega)] at k3
  have e3 : (at0 + ((ws.map V.int).length : Int)).toNat = at0.toNat + ws.length := by rw [List.length_map]; omega
  rw [e3] at k3
  generalize hres : row.take at0.toNat ++ ws ++ row.drop (at0.toNat + ws.length) = res at hf
  have k4' : J4 q4 = some (.lst (res.map V.int)) := by
    rw [k4.at, ← hres, cut_take _ a0.1, cut_drop _ (by omega), e3]
    simp only [List.map_append, List.map_take, List.map_drop]
  have rl : res.length = 16 := by
    rw [← hres]
    simp only [List.length_append, List.length_take, List.length_drop]
    omega
  have rw_ : ∀ z ∈ res, isW (.int z) = true := fun z hz => by
    rw [← hres] at hz
    rcases List.mem_append.mp hz with hz | hz
    · rcases List.mem_append.mp hz with hz | hz
      · exact hw z (List.mem_of_mem_take hz)
      · exact hww z hz
    · exact hw z (List.mem_of_mem_drop hz)
  refine p_row (ns := res) (by walk_at "h") k4' rl rw_ fun J5 s6 => ?_
  walk_at "go"
  rename_i q5 J6 k6
  have dat : ∀ {h : Hp} {l l1 l2 : Addr}, h l = some (.lst [.ref l1, .ref l2]) → h l1 = some (.lst (row.map V.int)) → h l2 = some (.lst (ws.map V.int)) → Dp K h (.ref l) (.list [.list (row.map PyData.int), .list (ws.map PyData.int)]) :=
    fun a1 a2 a3 => .lst (SqL.of a1) (.cons (dp_ints a2) (.cons (dp_ints a3) .nil))
  have sh : SeqAt.shaped (.list [.list (row.map PyData.int), .list (ws.map PyData.int)]) = true := by
    have h1 := PySem.W.shaped_ints row
    have h2 := PySem.W.shaped_ints ws
    have d1 := PySem.W.depthAll_ints row
    have d2 := PySem.W.depthAll_ints ws
    refine shapedL ?_ ?_
    · simp [PyData.canLayAll0, SeqAt.canLay_of_shaped h1, SeqAt.canLay_of_shaped h2]
    · simp only [PyData.depthAll, PyData.depth]; omega
  refine go_neSame (dat (l := g) (by walk_at "h") (by walk_at "h") (by walk_at "h")) (dat (l := q5) (by walk_at "h") (by walk_at "h") (by walk_at "h")) sh ?_
  walk_at "go"
  rename_i J7 w7
  have nf : ∀ {x : Addr} {o : HO}, H8 x = some o → x ≠ f := fun e => ne_of_none e hf9
  have D8 : H8 D = some (.lst (row.map V.int)) := by walk_at "h"
  have W8 : H8 W = some (.lst (ws.map V.int)) := by walk_at "h"
  have g8 : H8 g = some (.lst [.ref g1, .ref g2]) := by walk_at "h"
  have g18 : H8 g1 = some (.lst (row.map V.int)) := by walk_at "h"
  have g28 : H8 g2 = some (.lst (ws.map V.int)) := by walk_at "h"
  have s86 : Same H8 J6 := by walk_at "sm"
  have s87 : ∀ {x : Addr} {o : HO}, H8 x = some o → J7 x = some o := fun e => w7.old (nf e) (s86 _ _ e)
  refine p_empty_row fun z J8 s8 z0 z8 => ?_
  walk_at "go"
  rename_i J9 w9 q6 K1 l1
  have s89 : ∀ {x : Addr} {o : HO}, H8 x = some o → J9 x = some o := fun e => w9.old (ne_of_none (s87 e) z0) (s8 _ _ (s87 e))
  have D9 := s89 D8
  have W9 := s89 W8
  have G9 := s89 g8
  have G19 := s89 g18
  have G29 := s89 g28
  refine go_eqSame (dat (l := g) (by walk_at "h") (by walk_at "h") (by walk_at "h")) (dat (l := q6) (by walk_at "h") (by walk_at "h") (by walk_at "h")) sh ?_
  walk_at "go"
  refine p_empty_row fun y K2 s2 y0 y2 => ?_
  walk_at "go"
  rename_i q7 K3 l3 q8 K4 l4
  exact p_row (ns := List.replicate 16 (0 : Int)) (by walk_at "h") l4.at (by decide) (fun z hz => by rw [List.eq_of_mem_replicate hz]; decide) fun H' _ => q H'
theorem law_pure {vs : List V} (h : spLaw K vs H Q E) : sp_law K a vs H Q E := by
  obtain ⟨p, ns, rfl, hS, hl, q⟩ := h
  refine in_law ?_
  unfold t_law
  walk_at "go"
  refine lc_mapR (f := fun i => .int (wordBy (cellI ns (3 + i) + 7919 * i))) (by rw [sizeLine_eq]; decide) (fun i H' Q' hi s q' => ?_) (fun D H2 hD s hd => ?_)
  · walk_at "go"
    refine p_cell_at (ns := ns) (by walk_at "hk") (by omega) ?_
    walk_at "go"
    refine p_word_by fun H'' s2 => ?_
    have := q' _ s2
    simpa using this
  generalize hr : (List.range 16).map (fun i : Nat => wordBy (cellI ns (3 + i) + 7919 * i)) = row
  have hrow : row.length = 16 := by rw [← hr]; simp
  have hd' : H2 D = some (.lst (row.map V.int)) := by rw [hd, ← hr, List.map_map]; rfl
  have hw : ∀ z ∈ row, isW (.int z) = true := fun z hz => by
    rw [← hr] at hz
    obtain ⟨i, _, rfl⟩ := List.mem_map.mp hz
    exact isW_wordBy _
  clear hd hr
  walk_at "go"
  refine p_cell_at (ns := ns) (by walk_at "hk") (by omega) ?_
  walk_at "go"
  refine p_spoilt hd' hrow fun t xs H3 s3 ht hz hI => ?_
  walk_at "go"
  have tr : ∀ y ∈ xs, ∀ H', Same H3 H' → ∃ n, tyN H' y = some n := fun y hy H' s' => (Itm.same s' (hI y hy)).1
  rcases ht with ht | ht
  · refine go_seqL ht (for_lookL ht ⟨none, rfl⟩ (fun i x H' N hx s' k => ?_) (fun v H4 s4 => ?_))
    · obtain ⟨n, e⟩ := tr x (List.mem_of_getElem? hx) H' s'
      simp only [List.set_cons_zero, List.set_cons_succ]
      walk_at "go"
      refine p_is_word e ?_
      walk_at "go"
      refine p_good e ?_
      walk_at "go"
      refine p_truth ?_
      rw [decide_eq_true rfl]
      walk_at "go"
      exact k _ (Same.refl _)
    simp only [List.set_cons_zero, List.set_cons_succ]
    have ht4 := s4 _ _ ht
    have I4 : ∀ y ∈ xs, Itm K H4 y := fun y hy => (hI y hy).same s4
    obtain ⟨ds, dp, cl, dd⟩ := itms I4
    have due : ∀ (Q' : VK), (∀ H', Same H4 H' → Q' (.bl (isR xs)) H') → tAndV (tCB (rIsi K) (tCons (tVar 2) (tCons (tC (.ty "list")) tNil))) (tAndV (tOp (rEqP K) (tCB (rLenP K) (tCons (tVar 2) tNil)) (tC (.int 16)))
        (tCB (rAll K) (tCons (tLc (iSeqP K (tVar 2)) (gName 3) tYes (tCallS (sp_L_good K a) (WE W0) (tCons (tVar 3) tNil)) [3]) tNil))) [some (.ref p), some (.ref D), some (.ref t), v, none, none, none, none, none, none, none, none] H4 Q' := fun Q' k => by
      walk_at "go"
      refine go_dec (fun c => ?_) (fun c => ?_)
      all_goals walk_at "go"
      · refine lc_mapL (f := fun y => .bl (isW y)) ht4 (by rw [sizeLine_eq]; omega) (fun i x H' Q' hx s q' => ?_) (fun D2 H5 hD2 s5 hd5 => ?_)
        · obtain ⟨n, e⟩ := tr x (List.mem_of_getElem? hx) H' (s4.trans s)
          walk_at "go"
          exact p_good e (q' _ (Same.refl _))
        · refine go_all (bs := xs.map isW) (by rw [hd5, List.map_map]; rfl) ?_
          rw [all_bls]
          have := k _ s5
          rwa [isR, decide_eq_true c, Bool.true_and] at this
      · have := k _ (Same.refl _)
        rwa [isR, decide_eq_false c, Bool.false_and] at this
    walk_at "s"
    walk_at "s"
    refine due _ fun H5 s5 => ?_
    walk_at "go"
    rename_i p6 H6 n6
    rw [cut_all] at n6
    refine p_is_rowL n6.at (fun y hy => tr y hy _ (by walk_at "sm")) (by omega) fun H7 s7 => ?_
    walk_at "go"
    refine p_truth ?_
    rw [decide_eq_true rfl]
    walk_at "go"
    refine go_neSame (d := .list ds) (.lst (SqL.of (by walk_at "h")) (DpAll.same (by walk_at "sm") dp)) (.lst (SqL.of (by walk_at "h")) (DpAll.same (by walk_at "sm") dp)) (shapedL cl dd) ?_
    walk_at "go"
    exact law_rest (by walk_at "hk") (by walk_at "h") hrow hw q
  · refine go_seqT ht (for_lookT ht ⟨none, rfl⟩ (fun i x H' N hx s' k => ?_) (fun v H4 s4 => ?_))
    · obtain ⟨n, e⟩ := tr x (List.mem_of_getElem? hx) H' s'
      simp only [List.set_cons_zero, List.set_cons_succ]
      walk_at "go"
      refine p_is_word e ?_
      walk_at "go"
      refine p_good e ?_
      walk_at "go"
      refine p_truth ?_
      rw [decide_eq_true rfl]
      walk_at "go"
      exact k _ (Same.refl _)
    simp only [List.set_cons_zero, List.set_cons_succ]
    have ht4 := s4 _ _ ht
    obtain ⟨ds, dp, cl, dd⟩ := itms fun y hy => (hI y hy).same s4
    walk_at "go"
    refine p_is_rowN (n := "tuple") (tyN_T (by walk_at "h")) (by decide) ?_
    walk_at "go"
    refine p_truth ?_
    walk_at "go"
    refine go_neSame (d := .tuple ds) (.tup (SqT.of (by walk_at "h")) dp) (.tup (SqT.of (by walk_at "h")) dp) (shapedT cl dd) ?_
    walk_at "go"
    exact law_rest (by walk_at "hk") (by walk_at "h") hrow hw q
end
end Bk

namespace Bk
open PySem L2 PyProof.Rows
def topS (i : Nat) : Stmt := PySem.Challenge.pw_blockkeep_k01_words_and_rows.main.body.getD i (.Pass ⟨0, 0, 0, 0⟩)
abbrev s_is_word : Stmt := topS 3
abbrev s_is_row : Stmt := topS 4
abbrev s_empty_row : Stmt := topS 5
abbrev s_changed : Stmt := topS 6
abbrev s_L_cell_at : Stmt := topS 8
abbrev s_L_word_by : Stmt := topS 9
abbrev s_L_good : Stmt := topS 10
abbrev s_L_truth : Stmt := topS 11
abbrev s_L_row : Stmt := topS 12
abbrev s_L_spoilt : Stmt := topS 13
abbrev s_law : Stmt := topS 14
structure Ad where
  (f_is_word f_is_row f_empty_row f_changed f_L_cell_at f_L_word_by f_L_good f_L_truth f_L_row f_L_spoilt f_law : Addr)
  (fd_is_word fd_is_row fd_empty_row fd_changed fd_L_cell_at fd_L_word_by fd_L_good fd_L_truth fd_L_row fd_L_spoilt fd_law : FuncData)
structure Tx (K : PySem.W.Frag) (mg : Str → Option Value) (a : Ac) (b : Ad) : Prop where
  g_WIDE : ∃ u, mg "WIDE" = some u ∧ RelV (.int 16) u
  g_MOST_WORD : ∃ u, mg "MOST_WORD" = some u ∧ RelV (.int 999999999) u
  n_all : mg "all" = none
  n_bool : mg "bool" = none
  n_int : mg "int" = none
  n_isinstance : mg "isinstance" = none
  n_len : mg "len" = none
  n_list : mg "list" = none
  n_min : mg "min" = none
  n_range : mg "range" = none
  n_tuple : mg "tuple" = none
  g_is_word : mg "is_word" = some (.ref b.f_is_word)
  k_is_word : PySem.W.keepIn K (.ref b.f_is_word) = true
  F_is_word : Fun K "is_word" "is_word" s_is_word b.f_is_word b.fd_is_word
  b_is_word : Binds K b.fd_is_word ["thing"] []
  g_is_row : mg "is_row" = some (.ref b.f_is_row)
  k_is_row : PySem.W.keepIn K (.ref b.f_is_row) = true
  F_is_row : Fun K "is_row" "is_row" s_is_row b.f_is_row b.fd_is_row
  b_is_row : Binds K b.fd_is_row ["thing"] []
  g_empty_row : mg "empty_row" = some (.ref b.f_empty_row)
  k_empty_row : PySem.W.keepIn K (.ref b.f_empty_row) = true
  F_empty_row : Fun K "empty_row" "empty_row" s_empty_row b.f_empty_row b.fd_empty_row
  b_empty_row : Binds K b.fd_empty_row [] []
  g_changed : mg "changed" = some (.ref b.f_changed)
  k_changed : PySem.W.keepIn K (.ref b.f_changed) = true
  F_changed : Fun K "changed" "changed" s_changed b.f_changed b.fd_changed
  b_changed : Binds K b.fd_changed ["row", "at", "words"] []
  g_L_cell_at : mg "_law_cell_at" = some (.ref b.f_L_cell_at)
  k_L_cell_at : PySem.W.keepIn K (.ref b.f_L_cell_at) = true
  F_L_cell_at : Fun K "_law_cell_at" "_law_cell_at" s_L_cell_at b.f_L_cell_at b.fd_L_cell_at
  b_L_cell_at : Binds K b.fd_L_cell_at ["_law_script", "_law_k"] []
  g_L_word_by : mg "_law_word_by" = some (.ref b.f_L_word_by)
  k_L_word_by : PySem.W.keepIn K (.ref b.f_L_word_by) = true
  F_L_word_by : Fun K "_law_word_by" "_law_word_by" s_L_word_by b.f_L_word_by b.fd_L_word_by
  b_L_word_by : Binds K b.fd_L_word_by ["_law_cell"] []
  g_L_good : mg "_law_good" = some (.ref b.f_L_good)
  k_L_good : PySem.W.keepIn K (.ref b.f_L_good) = true
  F_L_good : Fun K "_law_good" "_law_good" s_L_good b.f_L_good b.fd_L_good
  b_L_good : Binds K b.fd_L_good ["_law_thing"] []
  g_L_truth : mg "_law_truth" = some (.ref b.f_L_truth)
  k_L_truth : PySem.W.keepIn K (.ref b.f_L_truth) = true
  F_L_truth : Fun K "_law_truth" "_law_truth" s_L_truth b.f_L_truth b.fd_L_truth
  b_L_truth : Binds K b.fd_L_truth ["_law_found", "_law_due"] []
  g_L_row : mg "_law_row" = some (.ref b.f_L_row)
  k_L_row : PySem.W.keepIn K (.ref b.f_L_row) = true
  F_L_row : Fun K "_law_row" "_law_row" s_L_row b.f_L_row b.fd_L_row
  b_L_row : Binds K b.fd_L_row ["_law_found", "_law_due"] []
  g_L_spoilt : mg "_law_spoilt" = some (.ref b.f_L_spoilt)
  k_L_spoilt : PySem.W.keepIn K (.ref b.f_L_spoilt) = true
  F_L_spoilt : Fun K "_law_spoilt" "_law_spoilt" s_L_spoilt b.f_L_spoilt b.fd_L_spoilt
  b_L_spoilt : Binds K b.fd_L_spoilt ["_law_row_here", "_law_cell"] []
  g_law : mg "law" = some (.ref b.f_law)
  k_law : PySem.W.keepIn K (.ref b.f_law) = true
  F_law : Fun K "law" "law" s_law b.f_law b.fd_law
  b_law : Binds K b.fd_law ["_law_script"] []
section
variable {P : Program} {w : World} {K : PySem.W.Frag} {mg : Str → Option Value} {base : Heap} {a : Ac} {b : Ad}
theorem sc_is_word : FnScope ["thing"] ["thing"] (defScope s_is_word) := ⟨rfl, rfl, rfl, by decide +kernel, rfl, by decide +kernel, by decide +kernel⟩
theorem ok_is_word (T : Tx K mg a b) : FnOk P w K mg base (L2N.CX P w) 2 b.f_is_word b.fd_is_word ["thing"] (sp_is_word K a) := by
  refine okN (k := 1) (t := t_is_word K a) T.F_is_word sc_is_word (fun cdv A outer s H E hr => ?_)
  exact pss_one (ps_ret (pe_and (pe_callB call_isi (by rfl) T.n_isinstance (by decide +kernel) (pa_cons (pv 0) (pa_cons (pe_bltn (by rfl) T.n_int (by decide +kernel) rfl) (pa_nil)))) (pe_and (pe_not (pe_callB call_isi (by rfl) T.n_isinstance (by decide +kernel) (pa_cons (pv 0) (pa_cons (pe_bltn (by rfl) T.n_bool (by decide +kernel) rfl) (pa_nil))))) (pe_one (pe_chain op_leP op_leP (pe_int) (pv 0) (pe_gl rfl T.g_MOST_WORD))))))
theorem sc_empty_row : FnScope [] [] (defScope s_empty_row) := ⟨rfl, rfl, rfl, by decide +kernel, rfl, by decide +kernel, by decide +kernel⟩
theorem ok_empty_row (T : Tx K mg a b) : FnOk P w K mg base (L2N.CX P w) 2 b.f_empty_row b.fd_empty_row [] (sp_empty_row K a) := by
  refine okN (k := 1) (t := t_empty_row K a) T.F_empty_row sc_empty_row (fun cdv A outer s H E hr => ?_)
  exact pss_one (ps_ret (pe_op op_mulP (pe_lst (pa_cons (pe_int) (pa_nil))) (pe_gl rfl T.g_WIDE)))
theorem sc_changed : FnScope ["row", "at", "words"] ["row", "at", "words"] (defScope s_changed) := ⟨rfl, rfl, rfl, by decide +kernel, rfl, by decide +kernel, by decide +kernel⟩
theorem ok_changed (T : Tx K mg a b) : FnOk P w K mg base (L2N.CX P w) 2 b.f_changed b.fd_changed ["row", "at", "words"] (sp_changed K a) := by
  refine okN (k := 1) (t := t_changed K a) T.F_changed sc_changed (fun cdv A outer s H E hr => ?_)
  exact pss_one (ps_ret (pe_op op_addP (pe_op op_addP (pe_slice sl_P (pv 0) (po_none) (po_some (pv 1))) (pv 2)) (pe_slice sl_P (pv 0) (po_some (pe_op op_addP (pv 1) (pe_callB call_lenP (by rfl) T.n_len (by decide +kernel) (pa_cons (pv 2) (pa_nil))))) (po_none))))
theorem sc_L_cell_at : FnScope ["_law_script", "_law_k"] ["_law_script", "_law_k"] (defScope s_L_cell_at) := ⟨rfl, rfl, rfl, by decide +kernel, rfl, by decide +kernel, by decide +kernel⟩
theorem ok_L_cell_at (T : Tx K mg a b) : FnOk P w K mg base (L2N.CX P w) 2 b.f_L_cell_at b.fd_L_cell_at ["_law_script", "_law_k"] (sp_L_cell_at K a) := by
  refine okN (k := 1) (t := t_L_cell_at K a) T.F_L_cell_at sc_L_cell_at (fun cdv A outer s H E hr => ?_)
  exact pss_cons (ps_if (pt_cmpR op_ltP (pv 1) (pe_callB call_lenP (by rfl) T.n_len (by decide +kernel) (pa_cons (pv 0) (pa_nil))) (by first | exact nomark _ | rfl)) (pss_one (ps_ret (pe_ix ix_P (pv 0) (pv 1) (fun _ _ => rfl)))) (pss_nil)) (pss_one (ps_ret (pe_int)))
theorem sc_L_word_by : FnScope ["_law_cell"] ["_law_cell"] (defScope s_L_word_by) := ⟨rfl, rfl, rfl, by decide +kernel, rfl, by decide +kernel, by decide +kernel⟩
theorem ok_L_word_by (T : Tx K mg a b) : FnOk P w K mg base (L2N.CX P w) 2 b.f_L_word_by b.fd_L_word_by ["_law_cell"] (sp_L_word_by K a) := by
  refine okN (k := 1) (t := t_L_word_by K a) T.F_L_word_by sc_L_word_by (fun cdv A outer s H E hr => ?_)
  exact pss_cons (ps_if (pt_cmpR op_ltP (pe_op op_modP (pv 0) (pe_int)) (pe_int) (by first | exact nomark _ | rfl)) (pss_one (ps_ret (pe_ix ix_P (pe_lst (pa_cons (pe_int) (pa_cons (pe_int) (pa_nil)))) (pe_op op_modP (pv 0) (pe_int)) (fun _ _ => rfl)))) (pss_nil)) (pss_one (ps_ret (pe_op op_modP (pe_op op_mulP (pv 0) (pe_int)) (pe_int))))
theorem sc_L_good : FnScope ["_law_thing"] ["_law_thing"] (defScope s_L_good) := ⟨rfl, rfl, rfl, by decide +kernel, rfl, by decide +kernel, by decide +kernel⟩
theorem ok_L_good (T : Tx K mg a b) : FnOk P w K mg base (L2N.CX P w) 2 b.f_L_good b.fd_L_good ["_law_thing"] (sp_L_good K a) := by
  refine okN (k := 1) (t := t_L_good K a) T.F_L_good sc_L_good (fun cdv A outer s H E hr => ?_)
  exact pss_one (ps_ret (pe_and (pe_callB call_isi (by rfl) T.n_isinstance (by decide +kernel) (pa_cons (pv 0) (pa_cons (pe_bltn (by rfl) T.n_int (by decide +kernel) rfl) (pa_nil)))) (pe_and (pe_not (pe_callB call_isi (by rfl) T.n_isinstance (by decide +kernel) (pa_cons (pv 0) (pa_cons (pe_bltn (by rfl) T.n_bool (by decide +kernel) rfl) (pa_nil))))) (pe_and (pe_cmpR op_leP (pe_int) (pv 0) (by first | exact nomark _ | rfl)) (pe_one (pe_cmpR op_leP (pv 0) (pe_int) (by first | exact nomark _ | rfl)))))))
theorem sc_L_truth : FnScope ["_law_found", "_law_due"] ["_law_found", "_law_due"] (defScope s_L_truth) := ⟨rfl, rfl, rfl, by decide +kernel, rfl, by decide +kernel, by decide +kernel⟩
theorem ok_L_truth (T : Tx K mg a b) : FnOk P w K mg base (L2N.CX P w) 2 b.f_L_truth b.fd_L_truth ["_law_found", "_law_due"] (sp_L_truth K a) := by
  refine okN (k := 1) (t := t_L_truth K a) T.F_L_truth sc_L_truth (fun cdv A outer s H E hr => ?_)
  exact pss_one (ps_ret (pe_and (pe_or (pe_cmpR op_isP (pv 0) (pe_bl) (by first | exact nomark _ | rfl)) (pe_one (pe_cmpR op_isP (pv 0) (pe_bl) (by first | exact nomark _ | rfl)))) (pe_one (pe_cmpR (op_eqP hr) (pv 0) (pv 1) (by first | exact nomark _ | rfl)))))
theorem sc_L_spoilt : FnScope ["_law_row_here", "_law_cell", "_law_odd", "_law_at"] ["_law_row_here", "_law_cell"] (defScope s_L_spoilt) := ⟨rfl, rfl, rfl, by decide +kernel, rfl, by decide +kernel, by decide +kernel⟩
theorem ok_L_spoilt (T : Tx K mg a b) : FnOk P w K mg base (L2N.CX P w) 2 b.f_L_spoilt b.fd_L_spoilt ["_law_row_here", "_law_cell"] (sp_L_spoilt K a) := by
  refine okN (k := 1) (t := t_L_spoilt K a) T.F_L_spoilt sc_L_spoilt (fun cdv A outer s H E hr => ?_)
  exact pss_cons (ps_set (i := 2) sc_L_spoilt.nd rfl (by first | exact Or.inl rfl | exact Or.inr rfl) (pe_lst (pa_cons (pe_un un_neg (pe_int)) (pa_cons (pe_int) (pa_cons (pe_bl) (pa_cons (pe_str) (pa_cons (pe_non) (pa_cons (pe_lst (pa_cons (pe_int) (pa_nil))) (pa_cons (pe_bl) (pa_cons (pe_tup (pa_nil)) (pa_cons (pe_un un_neg (pe_int)) (pa_nil)))))))))))) (pss_cons (ps_set (i := 3) sc_L_spoilt.nd rfl (by first | exact Or.inl rfl | exact Or.inr rfl) (pe_op op_modP (pe_op op_divP (pv 1) (pe_int)) (pe_int))) (pss_cons (ps_if (pt_cmpR (op_eqP hr) (pe_op op_modP (pv 1) (pe_int)) (pe_int) (by first | exact nomark _ | rfl)) (pss_one (ps_ret (pe_op op_addP (pe_op op_addP (pe_slice sl_P (pv 0) (po_none) (po_some (pv 3))) (pe_lst (pa_cons (pe_ix ix_P (pv 2) (pe_op op_modP (pe_op op_divP (pv 1) (pe_int)) (pe_int)) (fun _ _ => rfl)) (pa_nil)))) (pe_slice sl_P (pv 0) (po_some (pe_op op_addP (pv 3) (pe_int))) (po_none))))) (pss_nil)) (pss_cons (ps_if (pt_cmpR (op_eqP hr) (pe_op op_modP (pv 1) (pe_int)) (pe_int) (by first | exact nomark _ | rfl)) (pss_one (ps_ret (pe_op op_addP (pv 0) (pe_lst (pa_cons (pe_int) (pa_nil)))))) (pss_nil)) (pss_cons (ps_if (pt_cmpR (op_eqP hr) (pe_op op_modP (pv 1) (pe_int)) (pe_int) (by first | exact nomark _ | rfl)) (pss_one (ps_ret (pe_ix ix_P (pe_lst (pa_cons (pe_slice sl_P (pv 0) (po_none) (po_some (pe_int))) (pa_cons (pe_lst (pa_nil)) (pa_nil)))) (pe_op op_modP (pe_op op_divP (pv 1) (pe_int)) (pe_int)) (fun _ _ => rfl)))) (pss_nil)) (pss_cons (ps_if (pt_cmpR (op_eqP hr) (pe_op op_modP (pv 1) (pe_int)) (pe_int) (by first | exact nomark _ | rfl)) (pss_one (ps_ret (pe_callTy call_tupleP (by rfl) T.n_tuple (by decide +kernel) (pa_cons (pv 0) (pa_nil))))) (pss_nil)) (pss_one (ps_ret (pe_callTy call_listP (by rfl) T.n_list (by decide +kernel) (pa_cons (pv 0) (pa_nil))))))))))
theorem sc_is_row : FnScope ["thing", "word"] ["thing"] (defScope s_is_row) := ⟨rfl, rfl, rfl, by decide +kernel, rfl, by decide +kernel, by decide +kernel⟩
theorem ok_is_row (T : Tx K mg a b) : FnOk P w K mg base (L2N.CX P w) 3 b.f_is_row b.fd_is_row ["thing"] (sp_is_row K a) := by
  have G_is_word := ok_is_word (P := P) (w := w) (base := base) T
  refine okN (k := 2) (t := t_is_row K a) T.F_is_row sc_is_row (fun cdv A outer s H E hr => ?_)
  exact pss_one (ps_ret (pe_and (pe_callB call_isi (by rfl) T.n_isinstance (by decide +kernel) (pa_cons (pv 0) (pa_cons (pe_bltn (by rfl) T.n_list (by decide +kernel) rfl) (pa_nil)))) (pe_and (pe_cmpR (op_eqP hr) (pe_callB call_lenP (by rfl) T.n_len (by decide +kernel) (pa_cons (pv 0) (pa_nil))) (pe_gl rfl T.g_WIDE) (by first | exact nomark _ | rfl)) (pe_one (pe_callB (cr_all rfl) (by rfl) T.n_all (by decide +kernel) (pa_cons (pe_lc (own := [("word", 1)]) (g := gName 1) (tt := tYes) (te := tCallS (sp_is_word K a) (WE W0) (tCons (tVar 1) (tNil))) rfl sc_is_row.nd (pi_seqP (pv 0)) (blkOk_by (N := ["thing", "word"]) (sc := defScope s_is_row) (by decide +kernel)) (fun _ _ _ _ _ => pg_name (i := 1) sc_is_row.nd rfl (by first | exact Or.inl rfl | exact Or.inr rfl)) (fun _ _ _ _ _ => pts_nil) (fun _ _ _ _ _ => callE G_is_word takesN hr (by decide) rfl T.g_is_word T.k_is_word T.b_is_word (pa_cons (pv 1) (pa_nil)))) (pa_nil)))))))
theorem sc_L_row : FnScope ["_law_found", "_law_due", "_law_word"] ["_law_found", "_law_due"] (defScope s_L_row) := ⟨rfl, rfl, rfl, by decide +kernel, rfl, by decide +kernel, by decide +kernel⟩
theorem ok_L_row (T : Tx K mg a b) : FnOk P w K mg base (L2N.CX P w) 3 b.f_L_row b.fd_L_row ["_law_found", "_law_due"] (sp_L_row K a) := by
  have G_L_good := ok_L_good (P := P) (w := w) (base := base) T
  refine okN (k := 2) (t := t_L_row K a) T.F_L_row sc_L_row (fun cdv A outer s H E hr => ?_)
  exact pss_one (ps_ret (pe_and (pe_callB call_isi (by rfl) T.n_isinstance (by decide +kernel) (pa_cons (pv 0) (pa_cons (pe_bltn (by rfl) T.n_list (by decide +kernel) rfl) (pa_nil)))) (pe_and (pe_cmpR (op_eqP hr) (pe_callB call_lenP (by rfl) T.n_len (by decide +kernel) (pa_cons (pv 0) (pa_nil))) (pe_int) (by first | exact nomark _ | rfl)) (pe_and (pe_callB (cr_all rfl) (by rfl) T.n_all (by decide +kernel) (pa_cons (pe_lc (own := [("_law_word", 2)]) (g := gName 2) (tt := tYes) (te := tCallS (sp_L_good K a) (WE W0) (tCons (tVar 2) (tNil))) rfl sc_L_row.nd (pi_seqP (pv 0)) (blkOk_by (N := ["_law_found", "_law_due", "_law_word"]) (sc := defScope s_L_row) (by decide +kernel)) (fun _ _ _ _ _ => pg_name (i := 2) sc_L_row.nd rfl (by first | exact Or.inl rfl | exact Or.inr rfl)) (fun _ _ _ _ _ => pts_nil) (fun _ _ _ _ _ => callE G_L_good takesN hr (by decide) rfl T.g_L_good T.k_L_good T.b_L_good (pa_cons (pv 2) (pa_nil)))) (pa_nil))) (pe_one (pe_cmpR (op_eqP hr) (pv 0) (pv 1) (by first | exact nomark _ | rfl)))))))
theorem sc_law : FnScope ["_law_script", "_law_row_here", "_law_thing", "_law_one", "_law_due", "_law_handed", "_law_at", "_law_many", "_law_words", "_law_given", "_law_found", "_law_k"] ["_law_script"] (defScope s_law) := ⟨rfl, rfl, rfl, by decide +kernel, rfl, by decide +kernel, by decide +kernel⟩
theorem ok_law (T : Tx K mg a b) : FnOk P w K mg base (L2N.CX P w) 4 b.f_law b.fd_law ["_law_script"] (sp_law K a) := by
  have G_L_cell_at := ok_L_cell_at (P := P) (w := w) (base := base) T
  have G_L_good := ok_L_good (P := P) (w := w) (base := base) T
  have G_L_row := ok_L_row (P := P) (w := w) (base := base) T
  have G_L_spoilt := ok_L_spoilt (P := P) (w := w) (base := base) T
  have G_L_truth := ok_L_truth (P := P) (w := w) (base := base) T
  have G_L_word_by := ok_L_word_by (P := P) (w := w) (base := base) T
  have G_changed := ok_changed (P := P) (w := w) (base := base) T
  have G_empty_row := ok_empty_row (P := P) (w := w) (base := base) T
  have G_is_row := ok_is_row (P := P) (w := w) (base := base) T
  have G_is_word := ok_is_word (P := P) (w := w) (base := base) T
  refine okN (k := 3) (t := t_law K a) T.F_law sc_law (fun cdv A outer s H E hr => ?_)
  exact pss_cons (ps_setLc (i := 1) rfl sc_law.nd rfl rfl (sw_true rfl rfl rfl (by decide +kernel)) (own := [("_law_k", 11)]) (g := gName 11) (tt := tYes) (te := tCallS (sp_L_word_by K a) (WE W0) (tCons (tOp rAddP (tCallS (sp_L_cell_at K a) (WE W0) (tCons (tVar 0) (tCons (tOp rAddP (tC (.int 3)) (tVar 11)) (tNil)))) (tOp rMulP (tC (.int 7919)) (tVar 11))) (tNil))) (pi_range1 (by rfl) T.n_range (pa_cons (pe_int) (pa_nil))) (blkOk_by (N := ["_law_script", "_law_row_here", "_law_thing", "_law_one", "_law_due", "_law_handed", "_law_at", "_law_many", "_law_words", "_law_given", "_law_found", "_law_k"]) (sc := defScope s_law) (by decide +kernel)) (fun _ _ _ _ _ => pg_name (i := 11) sc_law.nd rfl (by first | exact Or.inl rfl | exact Or.inr rfl)) (fun _ _ _ _ _ => pts_nil) (fun _ _ _ _ _ => callE G_L_word_by takesN hr (by decide) rfl T.g_L_word_by T.k_L_word_by T.b_L_word_by (pa_cons (pe_op op_addP (callE G_L_cell_at takesN hr (by decide) rfl T.g_L_cell_at T.k_L_cell_at T.b_L_cell_at (pa_cons (pv 0) (pa_cons (pe_op op_addP (pe_int) (pv 11)) (pa_nil)))) (pe_op op_mulP (pe_int) (pv 11))) (pa_nil)))) (pss_cons (ps_set (i := 2) sc_law.nd rfl (by first | exact Or.inl rfl | exact Or.inr rfl) (callE G_L_spoilt (takesM rfl rfl rfl rfl) hr (by decide) rfl T.g_L_spoilt T.k_L_spoilt T.b_L_spoilt (pa_cons (pv 1) (pa_cons (callE G_L_cell_at (takesM rfl rfl rfl rfl) hr (by decide) rfl T.g_L_cell_at T.k_L_cell_at T.b_L_cell_at (pa_cons (pv 0) (pa_cons (pe_int) (pa_nil)))) (pa_nil))))) (pss_cons (ps_for (passes_of rfl) rfl (pi_seqP (pv 2)) (pg_name (i := 3) sc_law.nd rfl (by first | exact Or.inl rfl | exact Or.inr rfl)) (pss_one (ps_if (pt_not (pt_val (callE G_L_truth (takesM rfl rfl rfl rfl) hr (by decide) rfl T.g_L_truth T.k_L_truth T.b_L_truth (pa_cons (callE G_is_word (takesM rfl rfl rfl rfl) hr (by decide) rfl T.g_is_word T.k_is_word T.b_is_word (pa_cons (pv 3) (pa_nil))) (pa_cons (callE G_L_good (takesM rfl rfl rfl rfl) hr (by decide) rfl T.g_L_good T.k_L_good T.b_L_good (pa_cons (pv 3) (pa_nil))) (pa_nil)))))) (pss_one (ps_ret (pe_bl))) (pss_nil)))) (pss_cons (ps_set (i := 4) sc_law.nd rfl (by first | exact Or.inl rfl | exact Or.inr rfl) (pe_and (pe_callB call_isi (by rfl) T.n_isinstance (by decide +kernel) (pa_cons (pv 2) (pa_cons (pe_bltn (by rfl) T.n_list (by decide +kernel) rfl) (pa_nil)))) (pe_and (pe_cmpR (op_eqP hr) (pe_callB call_lenP (by rfl) T.n_len (by decide +kernel) (pa_cons (pv 2) (pa_nil))) (pe_int) (by first | exact nomark _ | rfl)) (pe_one (pe_callB (cr_all rfl) (by rfl) T.n_all (by decide +kernel) (pa_cons (pe_lc (own := [("_law_one", 3)]) (g := gName 3) (tt := tYes) (te := tCallS (sp_L_good K a) (WE W0) (tCons (tVar 3) (tNil))) rfl sc_law.nd (pi_seqP (pv 2)) (blkOk_by (N := ["_law_script", "_law_row_here", "_law_thing", "_law_one", "_law_due", "_law_handed", "_law_at", "_law_many", "_law_words", "_law_given", "_law_found", "_law_k"]) (sc := defScope s_law) (by decide +kernel)) (fun _ _ _ _ _ => pg_name (i := 3) sc_law.nd rfl (by first | exact Or.inl rfl | exact Or.inr rfl)) (fun _ _ _ _ _ => pts_nil) (fun _ _ _ _ _ => callE G_L_good takesN hr (by decide) rfl T.g_L_good T.k_L_good T.b_L_good (pa_cons (pv 3) (pa_nil)))) (pa_nil))))))) (pss_cons (ps_set (i := 5) sc_law.nd rfl (by first | exact Or.inl rfl | exact Or.inr rfl) (pe_slice sl_P (pv 2) (po_none) (po_none))) (pss_cons (ps_if (PW.pt (pw_or (pt_not (pt_val (callE G_L_truth (takesM rfl rfl rfl rfl) hr (by decide) rfl T.g_L_truth T.k_L_truth T.b_L_truth (pa_cons (callE G_is_row (takesM rfl rfl rfl rfl) hr (by decide) rfl T.g_is_row T.k_is_row T.b_is_row (pa_cons (pv 5) (pa_nil))) (pa_cons (pv 4) (pa_nil)))))) (pw_or1 (pt_cmpR (op_neP hr) (pv 5) (pv 2) (by first | exact nomark _ | rfl))))) (pss_one (ps_ret (pe_bl))) (pss_nil)) (pss_cons (ps_for (passes_of rfl) rfl (pi_seqP (pe_lst (pa_cons (pe_non) (pa_cons (pe_int) (pa_cons (pe_str) (pa_cons (pe_dnewK) (pa_cons (pe_slice sl_P (pv 1) (po_none) (po_some (pe_int))) (pa_nil)))))))) (pg_name (i := 3) sc_law.nd rfl (by first | exact Or.inl rfl | exact Or.inr rfl)) (pss_one (ps_if (pt_not (pt_val (callE G_L_truth (takesM rfl rfl rfl rfl) hr (by decide) rfl T.g_L_truth T.k_L_truth T.b_L_truth (pa_cons (callE G_is_row (takesM rfl rfl rfl rfl) hr (by decide) rfl T.g_is_row T.k_is_row T.b_is_row (pa_cons (pv 3) (pa_nil))) (pa_cons (pe_bl) (pa_nil)))))) (pss_one (ps_ret (pe_bl))) (pss_nil)))) (pss_cons (ps_set (i := 6) sc_law.nd rfl (by first | exact Or.inl rfl | exact Or.inr rfl) (pe_op op_modP (callE G_L_cell_at (takesM rfl rfl rfl rfl) hr (by decide) rfl T.g_L_cell_at T.k_L_cell_at T.b_L_cell_at (pa_cons (pv 0) (pa_cons (pe_int) (pa_nil)))) (pe_int))) (pss_cons (ps_set (i := 7) sc_law.nd rfl (by first | exact Or.inl rfl | exact Or.inr rfl) (pe_callB (call_min2 rfl) (by rfl) T.n_min (by decide +kernel) (pa_cons (pe_op op_subP (pe_int) (pv 6)) (pa_cons (pe_op op_modP (pe_op op_divP (callE G_L_cell_at (takesM rfl rfl rfl rfl) hr (by decide) rfl T.g_L_cell_at T.k_L_cell_at T.b_L_cell_at (pa_cons (pv 0) (pa_cons (pe_int) (pa_nil)))) (pe_int)) (pe_int)) (pa_nil))))) (pss_cons (ps_setLc (i := 8) rfl sc_law.nd rfl rfl (sw_true rfl rfl rfl (by decide +kernel)) (own := [("_law_k", 11)]) (g := gName 11) (tt := tYes) (te := tCallS (sp_L_word_by K a) (WE W0) (tCons (tOp rAddP (tCallS (sp_L_cell_at K a) (WE W0) (tCons (tVar 0) (tCons (tC (.int 2)) (tNil)))) (tOp rMulP (tC (.int 101)) (tVar 11))) (tNil))) (pi_range1 (by rfl) T.n_range (pa_cons (pv 7) (pa_nil))) (blkOk_by (N := ["_law_script", "_law_row_here", "_law_thing", "_law_one", "_law_due", "_law_handed", "_law_at", "_law_many", "_law_words", "_law_given", "_law_found", "_law_k"]) (sc := defScope s_law) (by decide +kernel)) (fun _ _ _ _ _ => pg_name (i := 11) sc_law.nd rfl (by first | exact Or.inl rfl | exact Or.inr rfl)) (fun _ _ _ _ _ => pts_nil) (fun _ _ _ _ _ => callE G_L_word_by takesN hr (by decide) rfl T.g_L_word_by T.k_L_word_by T.b_L_word_by (pa_cons (pe_op op_addP (callE G_L_cell_at takesN hr (by decide) rfl T.g_L_cell_at T.k_L_cell_at T.b_L_cell_at (pa_cons (pv 0) (pa_cons (pe_int) (pa_nil)))) (pe_op op_mulP (pe_int) (pv 11))) (pa_nil)))) (pss_cons (ps_set (i := 9) sc_law.nd rfl (by first | exact Or.inl rfl | exact Or.inr rfl) (pe_lst (pa_cons (pe_callTy call_listP (by rfl) T.n_list (by decide +kernel) (pa_cons (pv 1) (pa_nil))) (pa_cons (pe_callTy call_listP (by rfl) T.n_list (by decide +kernel) (pa_cons (pv 8) (pa_nil))) (pa_nil))))) (pss_cons (ps_set (i := 10) sc_law.nd rfl (by first | exact Or.inl rfl | exact Or.inr rfl) (callE G_changed (takesM rfl rfl rfl rfl) hr (by decide) rfl T.g_changed T.k_changed T.b_changed (pa_cons (pe_ix ix_P (pv 9) (pe_int) (fun _ _ => rfl)) (pa_cons (pv 6) (pa_cons (pe_ix ix_P (pv 9) (pe_int) (fun _ _ => rfl)) (pa_nil)))))) (pss_cons (ps_if (PW.pt (pw_or (pt_not (pt_val (callE G_L_row (takesM rfl rfl rfl rfl) hr (by decide) rfl T.g_L_row T.k_L_row T.b_L_row (pa_cons (pv 10) (pa_cons (pe_op op_addP (pe_op op_addP (pe_slice sl_P (pv 1) (po_none) (po_some (pv 6))) (pv 8)) (pe_slice sl_P (pv 1) (po_some (pe_op op_addP (pv 6) (pe_callB call_lenP (by rfl) T.n_len (by decide +kernel) (pa_cons (pv 8) (pa_nil))))) (po_none))) (pa_nil)))))) (pw_or1 (pt_cmpR (op_neP hr) (pv 9) (pe_lst (pa_cons (pv 1) (pa_cons (pv 8) (pa_nil)))) (by first | exact nomark _ | rfl))))) (pss_one (ps_ret (pe_bl))) (pss_nil)) (pss_cons (ps_expr (pe_bm0 PySem.F.plainAttrs_list PySem.F.slot_list_clear PySem.F.type_list_clear mt_clear (pv 10))) (pss_cons (ps_expr (pe_bm0 PySem.F.plainAttrs_list PySem.F.slot_list_clear PySem.F.type_list_clear mt_clear (callE0 G_empty_row (takesM rfl rfl rfl rfl) hr (by decide) rfl T.g_empty_row T.k_empty_row T.b_empty_row))) (pss_one (ps_ret (pe_and (pe_cmpR (op_eqP hr) (pv 9) (pe_lst (pa_cons (pv 1) (pa_cons (pv 8) (pa_nil)))) (by first | exact nomark _ | rfl)) (pe_one (callE G_L_row (takesM rfl rfl rfl rfl) hr (by decide) rfl T.g_L_row T.k_L_row T.b_L_row (pa_cons (callE0 G_empty_row (takesM rfl rfl rfl rfl) hr (by decide) rfl T.g_empty_row T.k_empty_row T.b_empty_row) (pa_cons (pe_op op_mulP (pe_lst (pa_cons (pe_int) (pa_nil))) (pe_int)) (pa_nil))))))))))))))))))))))
end
theorem all_mk {l : PySem.W.OpenLaw} {w : World} {K : PySem.W.Frag} {h : Heap} {mg : Str → Option Value} {fa : Addr} (X : K.In h) (G : h.Ns mainGlobals mg) (hfa : mg "law" = some (.ref fa))
    {u_WIDE : Tok}
    {u_MOST_WORD : Tok}
    {f_is_word : Addr} {od_is_word an_is_word : Option Addr} {sl_is_word : Array (Option Value)} {oc_is_word kV_is_word dc_is_word pm_is_word cd_is_word ct_is_word : Value}
    {f_is_row : Addr} {od_is_row an_is_row : Option Addr} {sl_is_row : Array (Option Value)} {oc_is_row kV_is_row dc_is_row pm_is_row cd_is_row ct_is_row : Value}
    {f_empty_row : Addr} {od_empty_row an_empty_row : Option Addr} {sl_empty_row : Array (Option Value)} {oc_empty_row kV_empty_row dc_empty_row pm_empty_row cd_empty_row ct_empty_row : Value}
    {f_changed : Addr} {od_changed an_changed : Option Addr} {sl_changed : Array (Option Value)} {oc_changed kV_changed dc_changed pm_changed cd_changed ct_changed : Value}
    {f_L_cell_at : Addr} {od_L_cell_at an_L_cell_at : Option Addr} {sl_L_cell_at : Array (Option Value)} {oc_L_cell_at kV_L_cell_at dc_L_cell_at pm_L_cell_at cd_L_cell_at ct_L_cell_at : Value}
    {f_L_word_by : Addr} {od_L_word_by an_L_word_by : Option Addr} {sl_L_word_by : Array (Option Value)} {oc_L_word_by kV_L_word_by dc_L_word_by pm_L_word_by cd_L_word_by ct_L_word_by : Value}
    {f_L_good : Addr} {od_L_good an_L_good : Option Addr} {sl_L_good : Array (Option Value)} {oc_L_good kV_L_good dc_L_good pm_L_good cd_L_good ct_L_good : Value}
    {f_L_truth : Addr} {od_L_truth an_L_truth : Option Addr} {sl_L_truth : Array (Option Value)} {oc_L_truth kV_L_truth dc_L_truth pm_L_truth cd_L_truth ct_L_truth : Value}
    {f_L_row : Addr} {od_L_row an_L_row : Option Addr} {sl_L_row : Array (Option Value)} {oc_L_row kV_L_row dc_L_row pm_L_row cd_L_row ct_L_row : Value}
    {f_L_spoilt : Addr} {od_L_spoilt an_L_spoilt : Option Addr} {sl_L_spoilt : Array (Option Value)} {oc_L_spoilt kV_L_spoilt dc_L_spoilt pm_L_spoilt cd_L_spoilt ct_L_spoilt : Value}
    {f_law : Addr} {od_law an_law : Option Addr} {sl_law : Array (Option Value)} {oc_law kV_law dc_law pm_law cd_law ct_law : Value}
    (a_WIDE : PySem.W.nsIn K mainGlobals "WIDE" = some (some (.int 16 u_WIDE)))
    (a_MOST_WORD : PySem.W.nsIn K mainGlobals "MOST_WORD" = some (some (.int 999999999 u_MOST_WORD)))
    (z_all : PySem.W.nsIn K mainGlobals "all" = some none)
    (z_bool : PySem.W.nsIn K mainGlobals "bool" = some none)
    (z_int : PySem.W.nsIn K mainGlobals "int" = some none)
    (z_isinstance : PySem.W.nsIn K mainGlobals "isinstance" = some none)
    (z_len : PySem.W.nsIn K mainGlobals "len" = some none)
    (z_list : PySem.W.nsIn K mainGlobals "list" = some none)
    (z_min : PySem.W.nsIn K mainGlobals "min" = some none)
    (z_range : PySem.W.nsIn K mainGlobals "range" = some none)
    (z_tuple : PySem.W.nsIn K mainGlobals "tuple" = some none)
    (a_is_word : PySem.W.nsIn K mainGlobals "is_word" = some (some (.ref f_is_word)))
    (l_is_word : K.lookup f_is_word = some ⟨oc_is_word, od_is_word, .func (PySem.W.fnOf "is_word" "is_word" (defArgs s_is_word) (defBody s_is_word) (defScope s_is_word) .none kV_is_word dc_is_word pm_is_word an_is_word cd_is_word ct_is_word), sl_is_word⟩)
    (c_is_word : PySem.W.codeIn K cd_is_word "is_word" = true)
    (k_is_word : PySem.W.keepIn K (.ref f_is_word) = true)
    (a_is_row : PySem.W.nsIn K mainGlobals "is_row" = some (some (.ref f_is_row)))
    (l_is_row : K.lookup f_is_row = some ⟨oc_is_row, od_is_row, .func (PySem.W.fnOf "is_row" "is_row" (defArgs s_is_row) (defBody s_is_row) (defScope s_is_row) .none kV_is_row dc_is_row pm_is_row an_is_row cd_is_row ct_is_row), sl_is_row⟩)
    (c_is_row : PySem.W.codeIn K cd_is_row "is_row" = true)
    (k_is_row : PySem.W.keepIn K (.ref f_is_row) = true)
    (a_empty_row : PySem.W.nsIn K mainGlobals "empty_row" = some (some (.ref f_empty_row)))
    (l_empty_row : K.lookup f_empty_row = some ⟨oc_empty_row, od_empty_row, .func (PySem.W.fnOf "empty_row" "empty_row" (defArgs s_empty_row) (defBody s_empty_row) (defScope s_empty_row) .none kV_empty_row dc_empty_row pm_empty_row an_empty_row cd_empty_row ct_empty_row), sl_empty_row⟩)
    (c_empty_row : PySem.W.codeIn K cd_empty_row "empty_row" = true)
    (k_empty_row : PySem.W.keepIn K (.ref f_empty_row) = true)
    (a_changed : PySem.W.nsIn K mainGlobals "changed" = some (some (.ref f_changed)))
    (l_changed : K.lookup f_changed = some ⟨oc_changed, od_changed, .func (PySem.W.fnOf "changed" "changed" (defArgs s_changed) (defBody s_changed) (defScope s_changed) .none kV_changed dc_changed pm_changed an_changed cd_changed ct_changed), sl_changed⟩)
    (c_changed : PySem.W.codeIn K cd_changed "changed" = true)
    (k_changed : PySem.W.keepIn K (.ref f_changed) = true)
    (a_L_cell_at : PySem.W.nsIn K mainGlobals "_law_cell_at" = some (some (.ref f_L_cell_at)))
    (l_L_cell_at : K.lookup f_L_cell_at = some ⟨oc_L_cell_at, od_L_cell_at, .func (PySem.W.fnOf "_law_cell_at" "_law_cell_at" (defArgs s_L_cell_at) (defBody s_L_cell_at) (defScope s_L_cell_at) .none kV_L_cell_at dc_L_cell_at pm_L_cell_at an_L_cell_at cd_L_cell_at ct_L_cell_at), sl_L_cell_at⟩)
    (c_L_cell_at : PySem.W.codeIn K cd_L_cell_at "_law_cell_at" = true)
    (k_L_cell_at : PySem.W.keepIn K (.ref f_L_cell_at) = true)
    (a_L_word_by : PySem.W.nsIn K mainGlobals "_law_word_by" = some (some (.ref f_L_word_by)))
    (l_L_word_by : K.lookup f_L_word_by = some ⟨oc_L_word_by, od_L_word_by, .func (PySem.W.fnOf "_law_word_by" "_law_word_by" (defArgs s_L_word_by) (defBody s_L_word_by) (defScope s_L_word_by) .none kV_L_word_by dc_L_word_by pm_L_word_by an_L_word_by cd_L_word_by ct_L_word_by), sl_L_word_by⟩)
    (c_L_word_by : PySem.W.codeIn K cd_L_word_by "_law_word_by" = true)
    (k_L_word_by : PySem.W.keepIn K (.ref f_L_word_by) = true)
    (a_L_good : PySem.W.nsIn K mainGlobals "_law_good" = some (some (.ref f_L_good)))
    (l_L_good : K.lookup f_L_good = some ⟨oc_L_good, od_L_good, .func (PySem.W.fnOf "_law_good" "_law_good" (defArgs s_L_good) (defBody s_L_good) (defScope s_L_good) .none kV_L_good dc_L_good pm_L_good an_L_good cd_L_good ct_L_good), sl_L_good⟩)
    (c_L_good : PySem.W.codeIn K cd_L_good "_law_good" = true)
    (k_L_good : PySem.W.keepIn K (.ref f_L_good) = true)
    (a_L_truth : PySem.W.nsIn K mainGlobals "_law_truth" = some (some (.ref f_L_truth)))
    (l_L_truth : K.lookup f_L_truth = some ⟨oc_L_truth, od_L_truth, .func (PySem.W.fnOf "_law_truth" "_law_truth" (defArgs s_L_truth) (defBody s_L_truth) (defScope s_L_truth) .none kV_L_truth dc_L_truth pm_L_truth an_L_truth cd_L_truth ct_L_truth), sl_L_truth⟩)
    (c_L_truth : PySem.W.codeIn K cd_L_truth "_law_truth" = true)
    (k_L_truth : PySem.W.keepIn K (.ref f_L_truth) = true)
    (a_L_row : PySem.W.nsIn K mainGlobals "_law_row" = some (some (.ref f_L_row)))
    (l_L_row : K.lookup f_L_row = some ⟨oc_L_row, od_L_row, .func (PySem.W.fnOf "_law_row" "_law_row" (defArgs s_L_row) (defBody s_L_row) (defScope s_L_row) .none kV_L_row dc_L_row pm_L_row an_L_row cd_L_row ct_L_row), sl_L_row⟩)
    (c_L_row : PySem.W.codeIn K cd_L_row "_law_row" = true)
    (k_L_row : PySem.W.keepIn K (.ref f_L_row) = true)
    (a_L_spoilt : PySem.W.nsIn K mainGlobals "_law_spoilt" = some (some (.ref f_L_spoilt)))
    (l_L_spoilt : K.lookup f_L_spoilt = some ⟨oc_L_spoilt, od_L_spoilt, .func (PySem.W.fnOf "_law_spoilt" "_law_spoilt" (defArgs s_L_spoilt) (defBody s_L_spoilt) (defScope s_L_spoilt) .none kV_L_spoilt dc_L_spoilt pm_L_spoilt an_L_spoilt cd_L_spoilt ct_L_spoilt), sl_L_spoilt⟩)
    (c_L_spoilt : PySem.W.codeIn K cd_L_spoilt "_law_spoilt" = true)
    (k_L_spoilt : PySem.W.keepIn K (.ref f_L_spoilt) = true)
    (a_law : PySem.W.nsIn K mainGlobals "law" = some (some (.ref f_law)))
    (l_law : K.lookup f_law = some ⟨oc_law, od_law, .func (PySem.W.fnOf "law" "law" (defArgs s_law) (defBody s_law) (defScope s_law) .none kV_law dc_law pm_law an_law cd_law ct_law), sl_law⟩)
    (c_law : PySem.W.codeIn K cd_law "law" = true)
    (k_law : PySem.W.keepIn K (.ref f_law) = true) :
    ∃ fd : FuncData, (∀ (s : Shared) (v : Value), BindsTo s fd ⟨[v], []⟩ [("_law_script", v)]) ∧ ∀ base : Heap, K.In base → base.Ns mainGlobals mg → FnOk l.prog w K mg base (L2N.CX l.prog w) 4 fa fd ["_law_script"] (spLaw K) := by
  have e : fa = f_law := Value.ref.inj (Option.some.inj (hfa.symm.trans (PySem.W.mg_of X G a_law)))
  rw [e]
  have T : Tx K mg { KeepError := 0, BadRow := 0, NoBlock := 0, Stopped := 0, BadDisk := 0, NoRoom := 0, TooMuch := 0, BadLog := 0, NoNode := 0, NoNodes := 0, TooLong := 0, OutOfPlace := 0, BadName := 0, BadPath := 0, NotFolder := 0, NotFile := 0, NoName := 0, NameThere := 0, NotEmpty := 0, Within := 0, BadOrder := 0, Disk := 0, Layout := 0, Batch := 0, Keeper := 0 } { f_is_word := f_is_word, f_is_row := f_is_row, f_empty_row := f_empty_row, f_changed := f_changed, f_L_cell_at := f_L_cell_at, f_L_word_by := f_L_word_by, f_L_good := f_L_good, f_L_truth := f_L_truth, f_L_row := f_L_row, f_L_spoilt := f_L_spoilt, f_law := f_law, fd_is_word := _, fd_is_row := _, fd_empty_row := _, fd_changed := _, fd_L_cell_at := _, fd_L_word_by := _, fd_L_good := _, fd_L_truth := _, fd_L_row := _, fd_L_spoilt := _, fd_law := _ } := {
    g_WIDE := ⟨_, PySem.W.mg_of X G a_WIDE, _, rfl⟩,
    g_MOST_WORD := ⟨_, PySem.W.mg_of X G a_MOST_WORD, _, rfl⟩,
    n_all := PySem.W.mg_none_of X G z_all,
    n_bool := PySem.W.mg_none_of X G z_bool,
    n_int := PySem.W.mg_none_of X G z_int,
    n_isinstance := PySem.W.mg_none_of X G z_isinstance,
    n_len := PySem.W.mg_none_of X G z_len,
    n_list := PySem.W.mg_none_of X G z_list,
    n_min := PySem.W.mg_none_of X G z_min,
    n_range := PySem.W.mg_none_of X G z_range,
    n_tuple := PySem.W.mg_none_of X G z_tuple,
    g_is_word := PySem.W.mg_of X G a_is_word,
    k_is_word := k_is_word,
    F_is_word := fun_mk l_is_word c_is_word k_is_word,
    b_is_word := (fun_mk (st := s_is_word) l_is_word c_is_word k_is_word).binds (ps := ["thing"]) fun _ _ _ _ _ _ us hl => match us, hl with | [_], _ => rfl,
    g_is_row := PySem.W.mg_of X G a_is_row,
    k_is_row := k_is_row,
    F_is_row := fun_mk l_is_row c_is_row k_is_row,
    b_is_row := (fun_mk (st := s_is_row) l_is_row c_is_row k_is_row).binds (ps := ["thing"]) fun _ _ _ _ _ _ us hl => match us, hl with | [_], _ => rfl,
    g_empty_row := PySem.W.mg_of X G a_empty_row,
    k_empty_row := k_empty_row,
    F_empty_row := fun_mk l_empty_row c_empty_row k_empty_row,
    b_empty_row := (fun_mk (st := s_empty_row) l_empty_row c_empty_row k_empty_row).binds (ps := []) fun _ _ _ _ _ _ us hl => match us, hl with | [], _ => rfl,
    g_changed := PySem.W.mg_of X G a_changed,
    k_changed := k_changed,
    F_changed := fun_mk l_changed c_changed k_changed,
    b_changed := (fun_mk (st := s_changed) l_changed c_changed k_changed).binds (ps := ["row", "at", "words"]) fun _ _ _ _ _ _ us hl => match us, hl with | [_, _, _], _ => rfl,
    g_L_cell_at := PySem.W.mg_of X G a_L_cell_at,
    k_L_cell_at := k_L_cell_at,
    F_L_cell_at := fun_mk l_L_cell_at c_L_cell_at k_L_cell_at,
    b_L_cell_at := (fun_mk (st := s_L_cell_at) l_L_cell_at c_L_cell_at k_L_cell_at).binds (ps := ["_law_script", "_law_k"]) fun _ _ _ _ _ _ us hl => match us, hl with | [_, _], _ => rfl,
    g_L_word_by := PySem.W.mg_of X G a_L_word_by,
    k_L_word_by := k_L_word_by,
    F_L_word_by := fun_mk l_L_word_by c_L_word_by k_L_word_by,
    b_L_word_by := (fun_mk (st := s_L_word_by) l_L_word_by c_L_word_by k_L_word_by).binds (ps := ["_law_cell"]) fun _ _ _ _ _ _ us hl => match us, hl with | [_], _ => rfl,
    g_L_good := PySem.W.mg_of X G a_L_good,
    k_L_good := k_L_good,
    F_L_good := fun_mk l_L_good c_L_good k_L_good,
    b_L_good := (fun_mk (st := s_L_good) l_L_good c_L_good k_L_good).binds (ps := ["_law_thing"]) fun _ _ _ _ _ _ us hl => match us, hl with | [_], _ => rfl,
    g_L_truth := PySem.W.mg_of X G a_L_truth,
    k_L_truth := k_L_truth,
    F_L_truth := fun_mk l_L_truth c_L_truth k_L_truth,
    b_L_truth := (fun_mk (st := s_L_truth) l_L_truth c_L_truth k_L_truth).binds (ps := ["_law_found", "_law_due"]) fun _ _ _ _ _ _ us hl => match us, hl with | [_, _], _ => rfl,
    g_L_row := PySem.W.mg_of X G a_L_row,
    k_L_row := k_L_row,
    F_L_row := fun_mk l_L_row c_L_row k_L_row,
    b_L_row := (fun_mk (st := s_L_row) l_L_row c_L_row k_L_row).binds (ps := ["_law_found", "_law_due"]) fun _ _ _ _ _ _ us hl => match us, hl with | [_, _], _ => rfl,
    g_L_spoilt := PySem.W.mg_of X G a_L_spoilt,
    k_L_spoilt := k_L_spoilt,
    F_L_spoilt := fun_mk l_L_spoilt c_L_spoilt k_L_spoilt,
    b_L_spoilt := (fun_mk (st := s_L_spoilt) l_L_spoilt c_L_spoilt k_L_spoilt).binds (ps := ["_law_row_here", "_law_cell"]) fun _ _ _ _ _ _ us hl => match us, hl with | [_, _], _ => rfl,
    g_law := PySem.W.mg_of X G a_law,
    k_law := k_law,
    F_law := fun_mk l_law c_law k_law,
    b_law := (fun_mk (st := s_law) l_law c_law k_law).binds (ps := ["_law_script"]) fun _ _ _ _ _ _ us hl => match us, hl with | [_], _ => rfl }
  exact ⟨_, fun s v => .of_eq rfl, fun base _ _ => (ok_law T).imp fun vs H Q E q => law_pure  q⟩
theorem walk {l : PySem.W.OpenLaw} {q : Program} {loose : List Str} {XP : (Str → Option Value) → Heap → Prop} {YP : World → Heap → Prop} {d : DefRec} {K : Params → PySem.W.Frag} (hn : l.most = some 63) (hdf : d.params.defaults = [])
    (hY : ∀ (w : World) (h : Heap), YP w h → (K w.params).In h)
    (F : ∀ (w : World) (mg : Str → Option Value) (fa : Addr) (h : Heap), (K w.params).In h → h.Ns mainGlobals mg → mg d.name = some (.ref fa) →
      ∃ fd : FuncData, (∀ (s : Shared) (u : Value), BindsTo s fd ⟨[u], []⟩ [("_law_script", u)]) ∧ ∀ base : Heap, (K w.params).In base → base.Ns mainGlobals mg → FnOk l.prog w (K w.params) mg base (L2N.CX l.prog w) 4 fa fd ["_law_script"] (spLaw (K w.params))) :
    PySem.W.WalkO q loose XP YP l.row.toRowW d [] (fun f vs => PySem.call f vs) :=
  L2.walk_of (n := 63) (k := 4) (x := "_law_script") (CX := fun w => L2N.CX l.prog w) (sp := fun w => spLaw (K w.params)) hn (by decide) hdf ⟨rfl, by decide, by decide⟩ hY F (fun _ _ a ns hl _ hS => ⟨a, ns, rfl, hS, hl, fun _ => rfl⟩) fun _ _ _ _ _ z => by
    obtain ⟨_, _, _, _, _, _, _, _, _, _, _, _, z⟩ := z
    exact z
end Bk
open PySem PySem.W PyProof.Rows
set_option maxRecDepth 100000 in
set_option maxHeartbeats 0 in
theorem PySem.Challenge.cw_blockkeep_k01_words_and_rows_holds : PySem.Challenge.rw_blockkeep_k01_words_and_rows.Holds := by
  w_on; o_law; k_head; (case hw => w_witness2)
  k_fill
  refine Bk.walk (l := PySem.Challenge.rw_blockkeep_k01_words_and_rows) rfl rfl (fun w h Y => PySem.W.kIn_of Y) ?F
  case F =>
    intro w mg fa h KX G hmg
    refine' Bk.all_mk KX G hmg ?a_WIDE ?a_MOST_WORD ?z_all ?z_bool ?z_int ?z_isinstance ?z_len ?z_list ?z_min ?z_range ?z_tuple ?a_is_word ?l_is_word ?c_is_word ?k_is_word ?a_is_row ?l_is_row ?c_is_row ?k_is_row ?a_empty_row ?l_empty_row ?c_empty_row ?k_empty_row ?a_changed ?l_changed ?c_changed ?k_changed ?a_L_cell_at ?l_L_cell_at ?c_L_cell_at ?k_L_cell_at ?a_L_word_by ?l_L_word_by ?c_L_word_by ?k_L_word_by ?a_L_good ?l_L_good ?c_L_good ?k_L_good ?a_L_truth ?l_L_truth ?c_L_truth ?k_L_truth ?a_L_row ?l_L_row ?c_L_row ?k_L_row ?a_L_spoilt ?l_L_spoilt ?c_L_spoilt ?k_L_spoilt ?a_law ?l_law ?c_law ?k_law
    (case a_WIDE => k_is)
    (case a_MOST_WORD => k_is)
    (case z_all => k_is)
    (case z_bool => k_is)
    (case z_int => k_is)
    (case z_isinstance => k_is)
    (case z_len => k_is)
    (case z_list => k_is)
    (case z_min => k_is)
    (case z_range => k_is)
    (case z_tuple => k_is)
    (case a_is_word => k_is)
    (case l_is_word => k_is)
    (case c_is_word => k_is)
    (case k_is_word => k_is)
    (case a_is_row => k_is)
    (case l_is_row => k_is)
    (case c_is_row => k_is)
    (case k_is_row => k_is)
    (case a_empty_row => k_is)
    (case l_empty_row => k_is)
    (case c_empty_row => k_is)
    (case k_empty_row => k_is)
    (case a_changed => k_is)
    (case l_changed => k_is)
    (case c_changed => k_is)
    (case k_changed => k_is)
    (case a_L_cell_at => k_is)
    (case l_L_cell_at => k_is)
    (case c_L_cell_at => k_is)
    (case k_L_cell_at => k_is)
    (case a_L_word_by => k_is)
    (case l_L_word_by => k_is)
    (case c_L_word_by => k_is)
    (case k_L_word_by => k_is)
    (case a_L_good => k_is)
    (case l_L_good => k_is)
    (case c_L_good => k_is)
    (case k_L_good => k_is)
    (case a_L_truth => k_is)
    (case l_L_truth => k_is)
    (case c_L_truth => k_is)
    (case k_L_truth => k_is)
    (case a_L_row => k_is)
    (case l_L_row => k_is)
    (case c_L_row => k_is)
    (case k_L_row => k_is)
    (case a_L_spoilt => k_is)
    (case l_L_spoilt => k_is)
    (case c_L_spoilt => k_is)
    (case k_L_spoilt => k_is)
    (case a_law => k_is)
    (case l_law => k_is)
    (case c_law => k_is)
    (case k_law => k_is)
