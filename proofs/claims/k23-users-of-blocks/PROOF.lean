import PyProof.Rows.All
import Wide.All
import OpenK.AllK
import Wide.FinOn
import HandS.Base
import HandS.Call
import HandS.Exc
import HandS.ExcOwn
import HandS.TryMany
import HandS.ExcCtx
import HandS.HotCalls
import HandS.SuiteRaise
import HandS.ForMost
import HandS.ForExc
import HandS.More
import HandS.Small
import HandS.IsInst
import HandS.Style
import HandS.Flow
import HandS.ExcIs
import HandS.Replace
import HandS.Text
import PyProof.StrOps2
import HandS.Walk
import HandS.SortInts
import HandS.SortKw
import HandS.RevRange
import HandS.Conv
import HandS.DictComp
import HandS.Deep
import HandS.DictTup
import KE.KDictSum
import KE.SortCalls
import HandS.Rev
import HandS.RevTup
import KE.KDictList
import KE.SortData
import PySem.Challenge.RW_blockkeep_k23_users_of_blocks
set_option Elab.async false
set_option linter.all false
set_option maxRecDepth 100000
set_option maxHeartbeats 4000000
/-! our own: exceptions behind which none stands, or one that has none behind it -/
namespace Bk
namespace C
open PySem PySem.Spec L2 PyProof.Rows
/-- an exception's object: class, dict, what stands behind it -/
def Zx (cls : Value) (d : Option Addr) (c : Value) : Obj → Prop := fun o => (o.cls = cls ∧ o.dict = d) ∧ ∀ vs : Array Value, o.data = .fields vs → vs[2]? = some c
theorem Zx.steady {cls c : Value} {d : Option Addr} : PXN.Steady1 (Zx cls d c) := PXN.steady_and (PXN.steady_and PXN.steady_cls PXN.steady_dict) fun o v h => by
  obtain ⟨k, e, dt, sl⟩ := o
  cases dt with
  | fields w =>
    intro vs q
    have e1 : w.setIfInBounds 1 v = vs := Data.fields.inj q
    rw [← e1, Array.getElem?_setIfInBounds_ne (by decide)]
    exact h w rfl
  | _ => intro vs q; cases q
/-- what stands behind: none, or one that has none behind it, in h -/
def Past (h : Heap) (H : Hp) (c : Value) : Prop := c = .none ∨ ∃ (p : Addr × Obj) (ws : Array Value), c = .ref p.1 ∧ h.get? p.1 = some p.2 ∧ H p.1 = none ∧ p.2.data = .fields ws ∧ ws[2]? = some .none
/-- in the air of X -/
def XR (X : Cx) (nn : Bool) (W : WX) (u : Value) (s' : Shared) : Prop :=
  ∃ (a : Addr) (B : Heap) (sI : Shared) (pins : List (Addr × Obj)) (σ : L2.St) (H : Hp) (cls : Value) (d : Option Addr) (c : Value),
    u = .ref a ∧ (Inv X pins σ H sI ∧ (∀ b o, sI.heap.get? b = some o → b ∉ frs X.stack → B.get? b = some o) ∧ sI.heap.UpToSlots s'.heap) ∧
      Sky B X.stack a (Zx cls d c) X.env.locals s'.heap ∧ (Past B H c ∧ (nn = true → c = .none)) ∧ (H a = none ∧ s'.os = sI.os ∧ AllBare s'.gens) ∧ W cls d σ H
abbrev XE (X : Cx) (W : WX) : Value → Shared → Prop := XR X false W
def Takes (X : Cx) (W : WX) : Prop := ∀ u s', XE X W u s' → X.xe u s'
/-- nn: the ones behind which none stands -/
def TakesR (X : Cx) (nn : Bool) (W : WX) : Prop := ∀ u s', XR X nn W u s' → X.xe u s'
/-- out of a def -/
def CX (P : Program) (w : World) (outer : List Env) (H : Hp) (s : Shared) (E : XK) (u : Value) (s' : Shared) : Prop :=
  ∃ (a : Addr) (B : Heap) (H' : Hp) (cls : Value) (d : Option Addr) (c : Value), u = .ref a ∧ HandSPX.FlyingZ B outer a (Zx cls d c) s'.heap ∧ Past B H' c ∧ (HOk P w H' B ∧ UB (frs outer) H H' s.heap B s'.heap) ∧ (H' a = none ∧ s'.os = s.os ∧ AllBare s'.gens) ∧ E cls d H'
section
variable {X : Cx} {pins : List (Addr × Obj)} {σ : L2.St} {H : Hp} {sI s s' : Shared} {B : Heap} {W : WX} {E : XK} {u' : Value}
theorem sky_imp {l : List Env} {a L : Addr} {h : Heap} {Z Z' : Obj → Prop} (z : ∀ o, Z o → Z' o) (x : Sky B l a Z L h) : Sky B l a Z' L h := by
  rcases x with ⟨h1, h2, h3, oe, vs, e, hz, d, f⟩ | fl | hd
  · exact .inl ⟨h1, h2, h3, oe, vs, e, z _ hz, d, f⟩
  · exact .inr (.inl (L2H.flyingZ_imp z fl))
  · exact .inr (.inr ⟨hd.1, hd.2.1, hd.2.2.1, L2H.tracedZ_imp z hd.2.2.2⟩)
/-- who takes these takes the ones behind which none stands -/
theorem Takes.n (t : Takes X W) : L2N.Takes X W := by
  rintro u s' ⟨a, B, sI, pins, σ, H, cls, d, e, I, nb, up, sky, na, os, ag, w⟩
  exact t u s' ⟨a, B, sI, pins, σ, H, cls, d, .none, e, ⟨I, nb, up⟩, sky_imp (fun o h => ⟨⟨h.1, h.2.1⟩, h.2.2⟩) sky, ⟨.inl rfl, fun _ => rfl⟩, ⟨na, os, ag⟩, w⟩
theorem XR.n (h : XR X true W u' s') : L2N.XE X W u' s' := by
  obtain ⟨a, B, sI, pins, σ, H, cls, d, c, e, ⟨I, nb, up⟩, sky, ⟨_, cn⟩, ⟨na, os, ag⟩, w⟩ := h
  obtain rfl := cn rfl
  exact ⟨a, B, sI, pins, σ, H, cls, d, e, I, nb, up, sky_imp (fun o h => ⟨h.1.1, h.1.2, h.2⟩) sky, na, os, ag, w⟩
theorem TakesR.n (t : TakesR X true W) : L2N.Takes X W := by
  rintro u s' ⟨a, B, sI, pins, σ, H, cls, d, e, I, nb, up, sky, na, os, ag, w⟩
  exact t u s' ⟨a, B, sI, pins, σ, H, cls, d, .none, e, ⟨I, nb, up⟩, sky_imp (fun o h => ⟨⟨h.1, h.2.1⟩, h.2.2⟩) sky, ⟨.inl rfl, fun _ => rfl⟩, ⟨na, os, ag⟩, w⟩
theorem TakesR.c (t : TakesR X false W) : Takes X W := t
/-- a call let one out: it is in the caller's air -/
theorem XE.call (I : Inv X pins σ H s) {u : Value} (c : CX X.prog X.w X.stack H s (fun cls d H' => W cls d σ H') u s') : XE X W u s' := by
  obtain ⟨a, B, H', cls, d, c, rfl, fl, past, ⟨hok, ub⟩, rest, w⟩ := c
  -- the state without it: what is in B, and the frames as they are
  obtain ⟨G, in_, out⟩ := restrict s'.heap fun b => (B.get? b).isSome || decide (b ∈ frs X.stack)
  have hB : ∀ {b o}, B.get? b = some o → G.get? b = some o := fun {b o} e => (in_ b (by rw [e]; rfl)).trans (fl.1 b o e)
  have hF : ∀ {b}, b ∈ frs X.stack → G.get? b = s'.heap.get? b := fun {b} m => in_ b (by rw [decide_eq_true m, Bool.or_true])
  have back : ∀ b o, G.get? b = some o → s'.heap.get? b = some o := fun b o e => by
    by_cases q : ((B.get? b).isSome || decide (b ∈ frs X.stack)) = true
    · rw [← in_ b q]; exact e
    · rw [out b (Bool.eq_false_iff.mpr q)] at e; cases e
  have un : Un (frs X.stack) [] H H' s.heap G := by
    refine ⟨fun b o e n m _ => hB (ub.keep b o e n m), fun b o e n m _ => ?_, fun b o e n _ => ub.free b o e n, fun b o e _ => ?_, ub.tups, ub.frzs, ub.tbls⟩
    · obtain ⟨sl, q⟩ := ub.slot b o e m
      exact ⟨sl, (hF m).trans q⟩
    · by_cases m : b ∈ frs X.stack
      · obtain ⟨sl, q⟩ := ub.slot b o e m
        exact ⟨_, (hF m).trans q⟩
      · obtain ⟨o', q⟩ := ub.there b o e m
        exact ⟨o', hB q⟩
  have J := I.call (g' := s'.gens) (t' := s'.toks) (d' := s'.drawn) un (hok.kept fun b u e => hB e) rest.2.2 (fun _ z => nomatch z)
  refine ⟨a, B, _, pins, σ, H', cls, d, c, rfl, ⟨J, fun b o e m => ?_, Heap.UpToSlots.of_keeps back⟩, .inr (.inl fl), ⟨past, fun z => nomatch z⟩, rest, w⟩
  by_cases q : (B.get? b).isSome = true
  · obtain ⟨o', q'⟩ := Option.isSome_iff_exists.mp q
    have e1 : s'.heap.get? b = some o := back b o e
    rw [fl.1 b o' q'] at e1
    rw [q', e1]
  · have e : G.get? b = some o := e
    rw [out b (by rw [Bool.eq_false_iff.mpr q, decide_eq_false m]; rfl)] at e
    cases e
/-- it goes out of the def -/
theorem XE.leave (hs : X.stack = X.env :: X.outer) (hf : X.env.frame = some X.env.locals) (hex : X.ex = []) {E1 : Value → Shared → Prop} {u : Value} (x : XE X (fun cls d _ H => E cls d H) u s') :
    wpAny (model X.prog X.w) X.A (leaving X.env u) (fun _ s2 => CX X.prog X.w X.outer X.H_0 X.s_0 E u s2) E1 s' := by
  obtain ⟨a, B, sI, pins, σ, H, cls, d, c, rfl, ⟨I, nb, up⟩, sky, ⟨past, _⟩, ⟨na, os, ag⟩, w⟩ := x
  have fr : X.A.frames = some (X.env :: X.outer) := I.ok.frames.trans (congrArg some hs)
  have nex : ∀ b, b ∉ X.ex := fun b m => by rw [hex] at m; cases m
  have old : ∀ {b o}, X.s_0.heap.get? b = some o → b ∉ X.fs → b ∉ frs X.stack := fun {b o} e m k =>
    (List.mem_cons.mp (I.stkSub b k)).elim (fun z => absurd (Nat.lt_of_lt_of_le (Heap.lt_size e) I.ok.above) (by rw [z]; exact Nat.lt_irrefl _)) m
  have fin : ∀ h2, HandSPX.FlyingZ B X.outer a (Zx cls d c) h2 → s'.heap.UpToSlots h2 → CX X.prog X.w X.outer X.H_0 X.s_0 E (.ref a) { s' with heap := h2 } := fun h2 fl up2 => by
    refine ⟨a, B, H, cls, d, c, rfl, fl, past, ⟨I.inGround nb, ?_⟩, ⟨na, os.trans I.os, ag⟩, w⟩
    refine ⟨fun b o e n m => nb b o (I.base.keep b o e n m (nex b)) (old e m), fun b o e m => ?_, fun b o e n => I.base.free b o e n (nex b), fun b o e m => ?_, I.base.tups, I.base.frzs, I.base.tbls⟩
    · obtain ⟨_, o0, e0, nf⟩ := I.ok.funs.mem m
      cases e0.symm.trans e
      obtain ⟨sl, e1⟩ := I.base.slot b o e (I.ok.frf b m) m (nex b)
      obtain ⟨sl2, e2⟩ := up b _ e1 nf
      obtain ⟨sl3, e3⟩ := up2 b _ e2 nf
      exact ⟨sl3, e3⟩
    · obtain ⟨o', e1⟩ := I.base.there b o e (nex b)
      exact ⟨o', nb b o' e1 (old e m)⟩
  rw [hs] at sky
  rcases sky with ⟨hB, hn, hl, oe, vs, he, hz, hd, h1⟩ | fl | hd
  · exact PXN.leaving_firstZ Zx.steady fr hl hf he hB hn hd h1 hz fin
  · exact PXN.leaves_onZ Zx.steady fr hf fl fin
  · exact HandSPX.leaves_heldZ hf hd fin
theorem takes_of (hs : X.stack = X.env :: X.outer) (hf : X.env.frame = some X.env.locals) (hex : X.ex = []) {E1 : Value → Shared → Prop}
    (hx : X.xe = fun e s' => wpAny (model X.prog X.w) X.A (leaving X.env e) (fun _ s2 => CX X.prog X.w X.outer X.H_0 X.s_0 E e s2) E1 s') : Takes X (fun cls d _ H => E cls d H) := fun u s' x => by
  rw [hx]; exact x.leave hs hf hex
theorem passAt (tk : Takes X W) (σ : L2.St) : PassesAt (CX X.prog X.w) X σ (WE W σ) := fun _ _ _ e s' I c => tk e s' (XE.call I c)
end
end C
end Bk

namespace Bk
/-- a step of the walk: what is left to be shown -/
class Step (P : Prop) (P' : outParam Prop) : Prop where
  go : P' → P
abbrev St := L2.St
open PySem L2 PyProof.Rows

/-! ### any of two rules -/
def tOr2 (t u : TE) : TE := fun σ H Q => t σ H Q ∨ u σ H Q
theorem call_or {X : Cx} {f : Value} {r r' : List V → Hp → VK → Prop} (h : CallR X f r) (k : CallR X f r') : CallR X f (fun xs H Q => r xs H Q ∨ r' xs H Q) :=
  fun pins s σ H xs us Q I r1 q => q.elim (fun q => h pins s σ H xs us Q I r1 q) fun q => k pins s σ H xs us Q I r1 q
/-- a global name whose value stands -/
theorem pe_gl {X : Cx} {x : Str} {v : V} {pos : Pos} (hg : Gl X x) (h : ∃ u, X.mg x = some u ∧ RelV v u) (hd : (x == ("__debug__" : Str)) = false := by decide) : PE X (.Name x pos) (tC v) := by
  obtain ⟨u, hm, r⟩ := h
  exact pe_glob hg hm r hd

/-! ### the operators, of any kinds -/
def rAddP : R2 := fun x y H Q => rI0 (fun i j => .int (i + j)) x y H Q ∨ rCat x y H Q ∨ (∃ i j, x = .str i ∧ y = .str j ∧ i.length + j.length ≤ sizeLine ∧ Q (.str (i ++ j)) H)
def rSubP : R2 := rI0 fun i j => .int (i - j)
def rMulP : R2 := fun x y H Q => rI CMul (fun i j => .int (i * j)) x y H Q ∨ rRep x y H Q
def rDivP : R2 := rI CDiv fun i j => .int (i / j)
def rModP : R2 := rI (fun _ j => 0 < j) fun i j => .int (i % j)
def rPowP : R2 := rI CPow fun i j => .int (i ^ j.toNat)
def rEqP (K : PySem.W.Frag) : R2 := fun x y H Q => rEq x y H Q ∨ rEqD K x y H Q
def rNeP (K : PySem.W.Frag) : R2 := fun x y H Q => rNe x y H Q ∨ rNeD K x y H Q
def rLtP : R2 := rI0 fun i j => .bl (decide (i < j))
def rLeP : R2 := rI0 fun i j => .bl (decide (i ≤ j))
def rGtP : R2 := rI0 fun i j => .bl (decide (j < i))
def rGeP : R2 := rI0 fun i j => .bl (decide (j ≤ i))
def rIsP : R2 := fun x y H Q => (y = .non ∧ Q (.bl (decide (x = .non))) H) ∨ rIsB x y H Q
def rIsNotP : R2 := fun x y H Q => (y = .non ∧ Q (.bl (!decide (x = .non))) H) ∨ rNotB x y H Q
section
variable {X : Cx}
theorem op_addP : OpR X (binaryOp .Add) rAddP := op_add.or (op_cat.or op_add_str)
theorem op_subP : OpR X (binaryOp .Sub) rSubP := op_sub
theorem op_mulP : OpR X (binaryOp .Mult) rMulP := op_mul.or op_rep
theorem op_divP : OpR X (binaryOp .FloorDiv) rDivP := op_fdiv
theorem op_modP : OpR X (binaryOp .Mod) rModP := op_mod
theorem op_powP : OpR X (binaryOp .Pow) rPowP := op_pow
theorem op_eqP {k : Nat} (hr : Room k X.A) : OpR X (compareOp .Eq) (rEqP X.K) := op_eq.or (op_eqD hr.units)
theorem op_neP {k : Nat} (hr : Room k X.A) : OpR X (compareOp .NotEq) (rNeP X.K) := op_ne.or (op_neD hr.units)
theorem op_ltP : OpR X (compareOp .Lt) rLtP := op_lt
theorem op_leP : OpR X (compareOp .LtE) rLeP := op_le
theorem op_gtP : OpR X (compareOp .Gt) rGtP := op_gt
theorem op_geP : OpR X (compareOp .GtE) rGeP := op_ge
theorem op_isNotP : OpR X (compareOp .IsNot) rIsNotP := op_notN.or op_notBl
end
def rIxP (K : PySem.W.Frag) : R2 := rIx K
theorem ix_P {X : Cx} : IxR X (rIxP X.K) := ix_seq
section
variable {prog : Program} {w : World} {A : Around} {E : Value → Shared → Prop} {s : Shared}
theorem tup_whole {t sl : Addr} {items : Array Value} {vl vu : Value} {lo hi : Option Int} {Q : Value → Shared → Prop} (ht : IsTup s.heap t items) (hs : s.heap.IsSliceOf sl vl vu .none) (pl : IsPart vl lo) (pu : IsPart vu hi)
    (hw : HT.sIx items.size 0 lo = 0 ∧ HT.sIx items.size items.size hi = items.size) (h : Q (.ref t) s) : wpAny (model prog w) A (getItem (.ref t) (.ref sl)) Q E s := by
  obtain ⟨os, hos, hcs, hds⟩ := id hs
  have hTs : s.TypeIs (.ref sl) "slice" := ⟨os, hos, hcs⟩
  unfold getItem
  try with_reducible refine wpAny_holding ?_
  first | refine wpAny_bind (wpAny_pure ?_) | skip
  refine wpAny_bind (wpAny_sequenceKey ht.typeIs (by decide) ?_)
  refine wpAny_bind (wpAny_callSpecial?_slot (name := Str.ofString "__getitem__") ht.typeIs PyProof.Rows.slot_tuple_getitem (wpAny_call_entry PyProof.Rows.slot_tuple_getitem ht.typeIs entry_tuple_getitem ?_ (args_tuple_getitem _ _)))
  show wpAny _ _ (Builtin.Tuple.tupleItemsOf (.ref t) >>= _) _ _ s
  refine wpAny_bind (tupleItemsOf_ ht (wpAny_bind (wpAny_typeOf hTs ?_)))
  rw [if_pos (by decide)]
  refine wpAny_bind (HT.sliceApplied_gen hs pl pu ?_)
  have yes : ((((HT.sIx items.size 0 lo : Nat) : Int) == 0 && (1 : Int) == 1 && (HT.sIx items.size items.size hi - HT.sIx items.size 0 lo) == items.size) = true) := by
    rw [hw.1, hw.2]; simp
  show wpAny _ _ (if (((HT.sIx items.size 0 lo : Nat) : Int) == 0 && (1 : Int) == 1 && (HT.sIx items.size items.size hi - HT.sIx items.size 0 lo) == items.size) = true then _ else _) _ _ s
  rw [if_pos yes]
  refine wpAny_bind (m := Builtin.Tuple.tupleIsExact _) (wpAny_bind (wpAny_typeOf ht.typeIs (wpAny_pure ?_)))
  show wpAny _ _ (if (Value.type "tuple" == Value.type "tuple") = true then _ else _) _ _ s
  rw [if_pos (by decide)]
  first
    | exact wpAny_bind (wpAny_rule (wpAny_bind (wpAny_pure (wpAny_pure ⟨_, rfl, wpAny_pure h⟩))))
    | exact wpAny_bind (wpAny_rule (wpAny_pure ⟨_, rfl, wpAny_pure h⟩))
    | exact wpAny_bind (wpAny_rule (wpAny_bind (wpAny_pure ⟨_, rfl, wpAny_pure h⟩)))
end
def rSlW (K : PySem.W.Frag) : V → Option Int → Option Int → Hp → VK → Prop := fun x lo hi H Q => ∃ a xs, x = .ref a ∧ SqT K H a xs ∧ (HT.sIx xs.length 0 lo = 0 ∧ HT.sIx xs.length xs.length hi = xs.length) ∧ Q (.ref a) H
theorem sl_tupW {X : Cx} : SlR X (rSlW X.K) := by
  intro pins s σ H x v vl vu lo hi sl Q I rx hs pl pu h
  obtain ⟨a, xs, rfl, hx, hw, q⟩ := h
  cases rx
  obtain ⟨its, r, ht, hz⟩ := I.tuple hx
  have e : its.toArray.size = xs.length := r.length.symm
  exact ⟨"tuple", _, PyProof.Rows.slot_tuple_getitem.lookup, ht.typeIs, tup_whole ht hs pl pu (by rw [e]; exact hw) ⟨.ref a, H, I, rfl, q⟩⟩

def rSlP (K : PySem.W.Frag) : V → Option Int → Option Int → Hp → VK → Prop := fun x lo hi H Q => rSlL K x lo hi H Q ∨ rSlT K x lo hi H Q ∨ rSlS x lo hi H Q ∨ rSlW K x lo hi H Q
theorem sl_P {X : Cx} : SlR X (rSlP X.K) := sl_list.or (sl_tup.or (sl_str.or sl_tupW))
def rInP (K : PySem.W.Frag) : R2 := fun x y H Q => rIn K false x y H Q ∨ (∃ (c : Nat) (z : Str), x = .str ⟨#[c]⟩ ∧ y = .str z ∧ Q (.bl (decide (c ∈ z.cps.toList))) H)
def rNotInP (K : PySem.W.Frag) : R2 := fun x y H Q => rIn K true x y H Q ∨ (∃ (c : Nat) (z : Str), x = .str ⟨#[c]⟩ ∧ y = .str z ∧ Q (.bl (!decide (c ∈ z.cps.toList))) H)
theorem op_inP {X : Cx} : OpR X (compareOp .In) (rInP X.K) := op_in_seq.or op_in_sign
theorem op_notInP {X : Cx} : OpR X (compareOp .NotIn) (rNotInP X.K) := op_notIn_seq.or op_notIn_sign

/-! ### heaps -/
/-- a new object -/
structure New (H : Hp) (p : Addr) (o : HO) (H1 : Hp) : Prop where
  free : H p = none
  eq : H1 = upd H p o
/-- an object written -/
structure Wr (H : Hp) (a : Addr) (o : HO) (H1 : Hp) : Prop where
  was : ∃ u, H a = some u
  eq : H1 = upd H a o
section
variable {H H1 H2 : Hp} {p a b : Addr} {o u : HO}
theorem New.at (n : New H p o H1) : H1 p = some o := by rw [n.eq]; exact upd_same
theorem New.ne (n : New H p o H1) (h : H a = some u) : a ≠ p := ne_of_none h n.free
theorem New.old (n : New H p o H1) (h : H a = some u) : H1 a = some u := by rw [n.eq, upd_ne (n.ne h)]; exact h
theorem New.same (n : New H p o H1) : Same H H1 := fun _ _ h => n.old h
theorem Wr.at (n : Wr H a o H1) : H1 a = some o := by rw [n.eq]; exact upd_same
theorem Wr.old (n : Wr H a o H1) (hn : b ≠ a) (h : H b = some u) : H1 b = some u := by rw [n.eq, upd_ne hn]; exact h
theorem Same.at (s : Same H H1) (h : H a = some u) : H1 a = some u := s _ _ h
/-- what was new is written: what stood ahead stands -/
theorem Same.wr (s : Same H H1) (n : H a = none) (w : Wr H1 a o H2) : Same H H2 := fun b u h => w.old (ne_of_none h n) (s _ _ h)
theorem new_of {R : Addr → Hp → Prop} (h : ∀ p H1, New H p o H1 → R p H1) : ∀ p, H p = none → R p (upd H p o) := fun p n => h p _ ⟨n, rfl⟩
theorem wr_of {R : Hp → Prop} (hp : H a = some u) (h : ∀ H1, Wr H a o H1 → R H1) : R (upd H a o) := h _ ⟨⟨u, hp⟩, rfl⟩
end

/-! ### the steps -/
def BlK (Q : Bool → Hp → Prop) : VK := fun x H => ∃ k, x = .bl k ∧ Q k H
section
variable {σ : St} {H : Hp} {Q : VK} {QB : Bool → Hp → Prop} {QA : List V → Hp → Prop} {nx bk ct : St → Hp → Prop} {rt : VK} {ta tb tc te : TE} {t u : TS} {i j : Int} {v x y : V} {r r' : R2} {K : PySem.W.Frag} {tA tB' : TT} {l : TA}
theorem go_var {i : Nat} (h : σ[i]? = some (some v)) (q : Q v H) : tVar i σ H Q := ⟨v, h, q⟩
theorem go_c (q : Q v H) : tC v σ H Q := q
instance st_go_c : Step (tC v σ H Q) (Q v H) := ⟨go_c⟩
theorem go_op (q : ta σ H fun x H1 => tb σ H1 fun y H2 => r x y H2 Q) : tOp r ta tb σ H Q := q
instance st_go_op : Step (tOp r ta tb σ H Q) (ta σ H fun x H1 => tb σ H1 fun y H2 => r x y H2 Q) := ⟨go_op⟩
theorem go_un {r : V → Hp → VK → Prop} (q : ta σ H fun x H1 => r x H1 Q) : tUn r ta σ H Q := q
instance st_go_un {r : V → Hp → VK → Prop} : Step (tUn r ta σ H Q) (ta σ H fun x H1 => r x H1 Q) := ⟨go_un⟩
theorem go_rU {g : Int → V} (q : Q (g i) H) : rU g (.int i) H Q := ⟨i, rfl, q⟩
instance st_go_rU {g : Int → V} : Step (rU g (.int i) H Q) (Q (g i) H) := ⟨go_rU⟩
theorem go_blk {k : Bool} (q : QB k H) : BlK QB (.bl k) H := ⟨k, rfl, q⟩
instance st_go_blk {k : Bool} : Step (BlK QB (.bl k) H) (QB k H) := ⟨go_blk⟩
theorem go_test (q : te σ H (BlK QB)) : tTest te σ H QB := q
instance st_go_test : Step (tTest te σ H QB) (te σ H (BlK QB)) := ⟨go_test⟩
theorem go_tB (q : te σ H (BlK QB)) : tB te σ H QB := q
instance st_go_tB : Step (tB te σ H QB) (te σ H (BlK QB)) := ⟨go_tB⟩
theorem go_and (q : tA σ H fun c H1 => if c = true then tB' σ H1 QB else QB false H1) : tAnd tA tB' σ H QB := q
instance st_go_and : Step (tAnd tA tB' σ H QB) (tA σ H fun c H1 => if c = true then tB' σ H1 QB else QB false H1) := ⟨go_and⟩
theorem go_or (q : tA σ H fun c H1 => if c = true then QB true H1 else tB' σ H1 QB) : tOr tA tB' σ H QB := q
instance st_go_or : Step (tOr tA tB' σ H QB) (tA σ H fun c H1 => if c = true then QB true H1 else tB' σ H1 QB) := ⟨go_or⟩
theorem go_not (q : tA σ H fun c H1 => QB (!c) H1) : tNot tA σ H QB := q
instance st_go_not : Step (tNot tA σ H QB) (tA σ H fun c H1 => QB (!c) H1) := ⟨go_not⟩
theorem go_andV (q : ta σ H (BlK fun c H1 => if c = true then tb σ H1 Q else Q (.bl false) H1)) : tAndV ta tb σ H Q := q
instance st_go_andV : Step (tAndV ta tb σ H Q) (ta σ H (BlK fun c H1 => if c = true then tb σ H1 Q else Q (.bl false) H1)) := ⟨go_andV⟩
theorem go_orV (q : ta σ H (BlK fun c H1 => if c = true then Q (.bl true) H1 else tb σ H1 Q)) : tOrV ta tb σ H Q := q
instance st_go_orV : Step (tOrV ta tb σ H Q) (ta σ H (BlK fun c H1 => if c = true then Q (.bl true) H1 else tb σ H1 Q)) := ⟨go_orV⟩
theorem go_notV (q : ta σ H (BlK fun c H1 => Q (.bl (!c)) H1)) : tNotV ta σ H Q := q
instance st_go_notV : Step (tNotV ta σ H Q) (ta σ H (BlK fun c H1 => Q (.bl (!c)) H1)) := ⟨go_notV⟩
theorem go_if (q : tA σ H fun c H1 => if c = true then ta σ H1 Q else tb σ H1 Q) : tIf tA ta tb σ H Q := q
theorem go_chain (q : ta σ H fun x H1 => tb σ H1 fun y H2 => r x y H2 (BlK fun k H3 => if k = true then tc σ H3 fun w' H4 => r' y w' H4 Q else Q (.bl false) H3)) : tChain r r' ta tb tc σ H Q := q
instance st_go_chain : Step (tChain r r' ta tb tc σ H Q) (ta σ H fun x H1 => tb σ H1 fun y H2 => r x y H2 (BlK fun k H3 => if k = true then tc σ H3 fun w' H4 => r' y w' H4 Q else Q (.bl false) H3)) := ⟨go_chain⟩
-- statements
theorem go_seq (q : t ⟨fun σ H => u ⟨nx, rt, bk, ct⟩ σ H, rt, bk, ct⟩ σ H) : tSeq t u ⟨nx, rt, bk, ct⟩ σ H := q
instance st_go_seq : Step (tSeq t u ⟨nx, rt, bk, ct⟩ σ H) (t ⟨fun σ H => u ⟨nx, rt, bk, ct⟩ σ H, rt, bk, ct⟩ σ H) := ⟨go_seq⟩
theorem go_ret (q : te σ H rt) : tRet te ⟨nx, rt, bk, ct⟩ σ H := q
instance st_go_ret : Step (tRet te ⟨nx, rt, bk, ct⟩ σ H) (te σ H rt) := ⟨go_ret⟩
theorem go_retN (q : rt .non H) : tRetN ⟨nx, rt, bk, ct⟩ σ H := q
instance st_go_retN : Step (tRetN ⟨nx, rt, bk, ct⟩ σ H) (rt .non H) := ⟨go_retN⟩
theorem go_next (q : nx σ H) : tNext ⟨nx, rt, bk, ct⟩ σ H := q
instance st_go_next : Step (tNext ⟨nx, rt, bk, ct⟩ σ H) (nx σ H) := ⟨go_next⟩
theorem go_drop (q : te σ H fun _ H1 => nx σ H1) : tDrop te ⟨nx, rt, bk, ct⟩ σ H := q
instance st_go_drop : Step (tDrop te ⟨nx, rt, bk, ct⟩ σ H) (te σ H fun _ H1 => nx σ H1) := ⟨go_drop⟩
theorem go_asg {g : TG} (q : te σ H fun x H1 => g x σ H1 nx) : tAsg te g ⟨nx, rt, bk, ct⟩ σ H := q
instance st_go_asg {g : TG} : Step (tAsg te g ⟨nx, rt, bk, ct⟩ σ H) (te σ H fun x H1 => g x σ H1 nx) := ⟨go_asg⟩
theorem go_name2 {i : Nat} {n : St → Hp → Prop} {σ' : St} (h : σ.set i (some v) = σ') (q : n σ' H) : gName i v σ H n := by subst h; exact q
theorem go_ifS {c : TT} (q : c σ H fun b H1 => if b = true then t ⟨nx, rt, bk, ct⟩ σ H1 else u ⟨nx, rt, bk, ct⟩ σ H1) : tIfS c t u ⟨nx, rt, bk, ct⟩ σ H := q
instance st_go_ifS {c : TT} : Step (tIfS c t u ⟨nx, rt, bk, ct⟩ σ H) (c σ H fun b H1 => if b = true then t ⟨nx, rt, bk, ct⟩ σ H1 else u ⟨nx, rt, bk, ct⟩ σ H1) := ⟨go_ifS⟩
theorem go_T {c : Bool} {A B : Prop} (h : c = true) (q : A) : if c = true then A else B := by rw [if_pos h]; exact q
theorem go_F {c : Bool} {A B : Prop} (h : c = false) (q : B) : if c = true then A else B := by rw [h, if_neg Bool.false_ne_true]; exact q
theorem go_Td {p A B : Prop} [Decidable p] (h : p) (q : A) : if decide p = true then A else B := go_T (decide_eq_true h) q
theorem go_Fd {p A B : Prop} [Decidable p] (h : ¬ p) (q : B) : if decide p = true then A else B := go_F (decide_eq_false h) q
theorem go_Tn {p A B : Prop} [Decidable p] (h : ¬ p) (q : A) : if (!decide p) = true then A else B := go_T (by rw [decide_eq_false h]; rfl) q
theorem go_Fn {p A B : Prop} [Decidable p] (h : p) (q : B) : if (!decide p) = true then A else B := go_F (by rw [decide_eq_true h]; rfl) q
theorem go_dec {p A B : Prop} [Decidable p] (h : p → A) (k : ¬ p → B) : if decide p = true then A else B := by
  by_cases c : p
  · exact go_Td c (h c)
  · exact go_Fd c (k c)
-- operators
theorem go_addI (q : Q (.int (i + j)) H) : rAddP (.int i) (.int j) H Q := .inl ⟨i, j, rfl, rfl, q⟩
instance st_go_addI : Step (rAddP (.int i) (.int j) H Q) (Q (.int (i + j)) H) := ⟨go_addI⟩
theorem go_addL {a b : Addr} {xs ys : List V} (h : H a = some (.lst xs)) (k : H b = some (.lst ys)) (hz : xs.length + ys.length ≤ sizeLine) (q : ∀ p H1, New H p (.lst (xs ++ ys)) H1 → Q (.ref p) H1) : rAddP (.ref a) (.ref b) H Q :=
  .inr (.inl ⟨a, b, xs, ys, rfl, rfl, h, k, hz, new_of q⟩)
theorem go_sub (q : Q (.int (i - j)) H) : rSubP (.int i) (.int j) H Q := ⟨i, j, rfl, rfl, q⟩
instance st_go_sub : Step (rSubP (.int i) (.int j) H Q) (Q (.int (i - j)) H) := ⟨go_sub⟩
theorem go_mulI (h : CMul i j) (q : Q (.int (i * j)) H) : rMulP (.int i) (.int j) H Q := .inl ⟨i, j, rfl, rfl, h, q⟩
theorem go_mulL {a : Addr} {xs : List V} (h : H a = some (.lst xs)) (h1 : -(2 ^ 63) ≤ j ∧ j < 2 ^ 63 ∧ xs.length * j.toNat ≤ sizeLine) (q : ∀ p H1, New H p (.lst (List.replicate j.toNat xs).flatten) H1 → Q (.ref p) H1) : rMulP (.ref a) (.int j) H Q :=
  .inr ⟨a, j, xs, rfl, rfl, h, h1.1, h1.2.1, h1.2.2, new_of q⟩
theorem go_div (h : CDiv i j) (q : Q (.int (i / j)) H) : rDivP (.int i) (.int j) H Q := ⟨i, j, rfl, rfl, h, q⟩
theorem go_mod (h : 0 < j) (q : Q (.int (i % j)) H) : rModP (.int i) (.int j) H Q := ⟨i, j, rfl, rfl, h, q⟩
theorem go_pow (h : CPow i j) (q : Q (.int (i ^ j.toNat)) H) : rPowP (.int i) (.int j) H Q := ⟨i, j, rfl, rfl, h, q⟩
theorem go_lt (q : Q (.bl (decide (i < j))) H) : rLtP (.int i) (.int j) H Q := ⟨i, j, rfl, rfl, q⟩
instance st_go_lt : Step (rLtP (.int i) (.int j) H Q) (Q (.bl (decide (i < j))) H) := ⟨go_lt⟩
theorem go_le (q : Q (.bl (decide (i ≤ j))) H) : rLeP (.int i) (.int j) H Q := ⟨i, j, rfl, rfl, q⟩
instance st_go_le : Step (rLeP (.int i) (.int j) H Q) (Q (.bl (decide (i ≤ j))) H) := ⟨go_le⟩
theorem go_gt (q : Q (.bl (decide (j < i))) H) : rGtP (.int i) (.int j) H Q := ⟨i, j, rfl, rfl, q⟩
instance st_go_gt : Step (rGtP (.int i) (.int j) H Q) (Q (.bl (decide (j < i))) H) := ⟨go_gt⟩
theorem go_ge (q : Q (.bl (decide (j ≤ i))) H) : rGeP (.int i) (.int j) H Q := ⟨i, j, rfl, rfl, q⟩
instance st_go_ge : Step (rGeP (.int i) (.int j) H Q) (Q (.bl (decide (j ≤ i))) H) := ⟨go_ge⟩
theorem decI {i j : Int} : decide (V.int i = V.int j) = decide (i = j) := by by_cases h : i = j <;> simp [h]
theorem decB {i j : Bool} : decide (V.bl i = V.bl j) = decide (i = j) := by by_cases h : i = j <;> simp [h]
theorem decS {i j : Str} : decide (V.str i = V.str j) = decide (i = j) := by by_cases h : i = j <;> simp [h]
theorem go_eqI (q : Q (.bl (decide (i = j))) H) : rEqP K (.int i) (.int j) H Q := .inl ⟨rfl, by rw [decI]; exact q⟩
instance st_go_eqI : Step (rEqP K (.int i) (.int j) H Q) (Q (.bl (decide (i = j))) H) := ⟨go_eqI⟩
theorem go_eqB {i j : Bool} (q : Q (.bl (decide (i = j))) H) : rEqP K (.bl i) (.bl j) H Q := .inl ⟨rfl, by rw [decB]; exact q⟩
instance st_go_eqB {i j : Bool} : Step (rEqP K (.bl i) (.bl j) H Q) (Q (.bl (decide (i = j))) H) := ⟨go_eqB⟩
theorem go_eqS {i j : Str} (q : Q (.bl (decide (i = j))) H) : rEqP K (.str i) (.str j) H Q := .inl ⟨rfl, by rw [decS]; exact q⟩
instance st_go_eqS {i j : Str} : Step (rEqP K (.str i) (.str j) H Q) (Q (.bl (decide (i = j))) H) := ⟨go_eqS⟩
theorem go_neI (q : Q (.bl (!decide (i = j))) H) : rNeP K (.int i) (.int j) H Q := .inl ⟨rfl, by rw [decI]; exact q⟩
instance st_go_neI : Step (rNeP K (.int i) (.int j) H Q) (Q (.bl (!decide (i = j))) H) := ⟨go_neI⟩
theorem go_neB {i j : Bool} (q : Q (.bl (!decide (i = j))) H) : rNeP K (.bl i) (.bl j) H Q := .inl ⟨rfl, by rw [decB]; exact q⟩
instance st_go_neB {i j : Bool} : Step (rNeP K (.bl i) (.bl j) H Q) (Q (.bl (!decide (i = j))) H) := ⟨go_neB⟩
theorem go_neS {i j : Str} (q : Q (.bl (!decide (i = j))) H) : rNeP K (.str i) (.str j) H Q := .inl ⟨rfl, by rw [decS]; exact q⟩
instance st_go_neS {i j : Str} : Step (rNeP K (.str i) (.str j) H Q) (Q (.bl (!decide (i = j))) H) := ⟨go_neS⟩
theorem go_eqSc (h : scal x y = true) (q : Q (.bl (decide (x = y))) H) : rEqP K x y H Q := .inl ⟨h, q⟩
theorem go_isN (q : Q (.bl (decide (x = .non))) H) : rIsP x .non H Q := .inl ⟨rfl, q⟩
instance st_go_isN : Step (rIsP x .non H Q) (Q (.bl (decide (x = .non))) H) := ⟨go_isN⟩
theorem go_isNotN (q : Q (.bl (!decide (x = .non))) H) : rIsNotP x .non H Q := .inl ⟨rfl, q⟩
instance st_go_isNotN : Step (rIsNotP x .non H Q) (Q (.bl (!decide (x = .non))) H) := ⟨go_isNotN⟩
theorem go_isB {i j : Bool} (q : Q (.bl (decide (i = j))) H) : rIsP (.bl i) (.bl j) H Q := .inr ⟨i, j, rfl, rfl, q⟩
instance st_go_isB {i j : Bool} : Step (rIsP (.bl i) (.bl j) H Q) (Q (.bl (decide (i = j))) H) := ⟨go_isB⟩
theorem go_isNotB {i j : Bool} (q : Q (.bl (!decide (i = j))) H) : rIsNotP (.bl i) (.bl j) H Q := .inr ⟨i, j, rfl, rfl, q⟩
instance st_go_isNotB {i j : Bool} : Step (rIsNotP (.bl i) (.bl j) H Q) (Q (.bl (!decide (i = j))) H) := ⟨go_isNotB⟩
-- lists of arguments, displays
theorem go_nil (q : QA [] H) : tNil σ H QA := q
instance st_go_nil : Step (tNil σ H QA) (QA [] H) := ⟨go_nil⟩
theorem go_cons (q : ta σ H fun x H1 => l σ H1 fun xs H2 => QA (x :: xs) H2) : tCons ta l σ H QA := q
instance st_go_cons : Step (tCons ta l σ H QA) (ta σ H fun x H1 => l σ H1 fun xs H2 => QA (x :: xs) H2) := ⟨go_cons⟩
def LstK (Q : VK) : List V → Hp → Prop := fun xs H1 => xs.length ≤ sizeLine ∧ ∀ p, H1 p = none → Q (.ref p) (upd H1 p (.lst xs))
def TupK (Q : VK) : List V → Hp → Prop := fun xs H1 => xs.length ≤ sizeLine ∧ ∀ p, H1 p = none → Q (.ref p) (upd H1 p (.tup xs))
theorem go_tLst (q : l σ H (LstK Q)) : tLst l σ H Q := q
instance st_go_tLst : Step (tLst l σ H Q) (l σ H (LstK Q)) := ⟨go_tLst⟩
theorem go_tTup (q : l σ H (TupK Q)) : tTup l σ H Q := q
instance st_go_tTup : Step (tTup l σ H Q) (l σ H (TupK Q)) := ⟨go_tTup⟩
theorem go_LstK {xs : List V} (hz : xs.length ≤ sizeLine) (q : ∀ p H1, New H p (.lst xs) H1 → Q (.ref p) H1) : LstK Q xs H := ⟨hz, new_of q⟩
theorem go_TupK {xs : List V} (hz : xs.length ≤ sizeLine) (q : ∀ p H1, New H p (.tup xs) H1 → Q (.ref p) H1) : TupK Q xs H := ⟨hz, new_of q⟩
-- slices, places
theorem go_sl {rs : V → Option Int → Option Int → Hp → VK → Prop} {tl th : TO} (q : te σ H fun x H1 => tl σ H1 fun l H2 => th σ H2 fun u H3 => rs x l u H3 Q) : tSl rs te tl th σ H Q := q
instance st_go_sl {rs : V → Option Int → Option Int → Hp → VK → Prop} {tl th : TO} : Step (tSl rs te tl th σ H Q) (te σ H fun x H1 => tl σ H1 fun l H2 => th σ H2 fun u H3 => rs x l u H3 Q) := ⟨go_sl⟩
theorem go_noPart {QO : Option Int → Hp → Prop} (q : QO none H) : tNoPart σ H QO := q
instance st_go_noPart {QO : Option Int → Hp → Prop} : Step (tNoPart σ H QO) (QO none H) := ⟨go_noPart⟩
def IntK (QO : Option Int → Hp → Prop) : VK := fun x H1 => ∃ i, x = .int i ∧ QO (some i) H1
theorem go_part {QO : Option Int → Hp → Prop} (q : te σ H (IntK QO)) : tPart te σ H QO := q
instance st_go_part {QO : Option Int → Hp → Prop} : Step (tPart te σ H QO) (te σ H (IntK QO)) := ⟨go_part⟩
theorem go_intK {QO : Option Int → Hp → Prop} (q : QO (some i) H) : IntK QO (.int i) H := ⟨i, rfl, q⟩
instance st_go_intK {QO : Option Int → Hp → Prop} : Step (IntK QO (.int i) H) (QO (some i) H) := ⟨go_intK⟩
theorem go_slL {a : Addr} {xs : List V} {lo hi : Option Int} (h : H a = some (.lst xs)) (q : ∀ p H1, New H p (.lst (cutV xs lo hi)) H1 → Q (.ref p) H1) : rSlP K (.ref a) lo hi H Q := .inl ⟨a, xs, rfl, SqL.of h, new_of q⟩
theorem go_slW {a : Addr} {xs : List V} (h : H a = some (.tup xs)) (q : Q (.ref a) H) : rSlP K (.ref a) none none H Q := .inr (.inr (.inr ⟨a, xs, rfl, SqT.of h, ⟨rfl, rfl⟩, q⟩))
theorem go_ixL {a : Addr} {xs : List V} (h : H a = some (.lst xs)) (hv : atI xs i = some v) (q : Q v H) : rIxP K (.ref a) (.int i) H Q := .inl ⟨a, xs, i, v, rfl, rfl, SqL.of h, hv, q⟩
theorem go_ixT {a : Addr} {xs : List V} (h : H a = some (.tup xs)) (hv : atI xs i = some v) (q : Q v H) : rIxP K (.ref a) (.int i) H Q := .inr (.inl ⟨a, xs, i, v, rfl, rfl, SqT.of h, hv, q⟩)
-- calls
theorem go_cb {r : List V → Hp → VK → Prop} (q : l σ H fun vs H1 => r vs H1 Q) : tCB r l σ H Q := q
instance st_go_cb {r : List V → Hp → VK → Prop} : Step (tCB r l σ H Q) (l σ H fun vs H1 => r vs H1 Q) := ⟨go_cb⟩
theorem go_callS {sp : Sp} {E : St → XK} (q : l σ H fun vs H1 => sp vs H1 Q (E σ)) : tCallS sp E l σ H Q := q
instance st_go_callS {sp : Sp} {E : St → XK} : Step (tCallS sp E l σ H Q) (l σ H fun vs H1 => sp vs H1 Q (E σ)) := ⟨go_callS⟩
end
end Bk

/-! ### calls of the text's own defs, in any context; defs by their own readings -/
namespace Bk
open PySem L2 PyProof.Rows
/-- what is wanted of what is raised: at a def's body; where nothing may be -/
def WM (E : XK) : WX := fun cls d _ H => E cls d H
def W0 : WX := fun _ _ _ _ => False
def F0 : St → Hp → Prop := fun _ _ => False
theorem takesM {X : Cx} {E : XK} (hs : X.stack = X.env :: X.outer) (hf : X.env.frame = some X.env.locals) (hex : X.ex = []) {E₁ : Value → Shared → Prop}
    (hx : X.xe = fun e s' => wpAny (model X.prog X.w) X.A (leaving X.env e) (fun _ s'' => L2N.CX X.prog X.w X.outer X.H_0 X.s_0 E e s'') E₁ s') : L2N.Takes X (WM E) := L2N.takes_of hs hf hex hx
theorem takesN {X : Cx} : L2N.Takes X W0 := fun _ _ x => by
  obtain ⟨_, _, _, _, _, _, _, _, _, _, _, _, _, _, _, _, z⟩ := x
  exact z.elim
theorem okN {P : Program} {w : World} {K : PySem.W.Frag} {mg : Str → Option Value} {base : Heap} {x qual : Str} {st : Stmt} {f : Addr} {fd : FuncData} {N ps : List Str} {k : Nat} {t : XK → TS}
    (F : Fun K x qual st f fd) (S : FnScope N ps (defScope st))
    (hbody : ∀ (cdv : Value) (A : Around) (outer : List Env) (s : Shared) (H : Hp) (E : XK), Room k (A.deeper (envOfC qual (defScope st) s.heap.objs.size f cdv)) →
      PSs (cxOf (L2N.CX P w) P w K mg base N qual (defScope st) f cdv A outer s H E) (defBody st) (t E)) :
    FnOk P w K mg base (L2N.CX P w) (k + 1) f fd ps (fun vs H Q E => vs.length = ps.length ∧ t E ⟨fun _ H' => Q .non H', Q, F0, F0⟩ (start N vs) H) := by
  obtain ⟨oc, od, kV, doc, pm, an, cdv, ct, osl, rfl, lk, hcd⟩ := F.ex
  refine fn_of lk hcd S (fun _ _ _ _ h => h.1) fun A outer s H vs Q E hr h => ⟨t E, hbody cdv A outer s H E hr, h.2⟩
section
variable {X : Cx} {k j : Nat} {f C : Addr} {fd : FuncData} {ps : List Str} {sp : Sp} {W : WX} {x m : Str} {p pos apos : Pos} {e o : Expr} {es : List Expr} {ta : TE} {t : TA}
theorem callE (F : FnOk X.prog X.w X.K X.mg X.base (L2N.CX X.prog X.w) k f fd ps sp) (tk : L2N.Takes X W) (hr : Room j X.A) (hj : k ≤ j) (hg : Gl X x) (hm : X.mg x = some (.ref f)) (hk : PySem.W.keepIn X.K (.ref f) = true) (hb : Binds X.K fd ps [])
    (ha : PA X (e :: es) t) (hdb : (x == ("__debug__" : Str)) = false := by decide) (he : starEach (e :: es) X.env = (false, eval e X.env) :: starEach es X.env := by rfl) (hpl : (backTo pos (starEach es X.env)).any (·.1) = false := by rfl) :
    PE X (.Call (.Name x p) (e :: es) [] pos) (tCallS sp (WE W) t) := pe_callS F (hr.mono hj) hg hm hk hb (fun σ => L2N.passAt tk σ) ha hdb he hpl
def tCall0 (sp : Sp) (E : St → XK) : TE := fun σ H Q => sp [] H Q (E σ)
theorem callE0 (F : FnOk X.prog X.w X.K X.mg X.base (L2N.CX X.prog X.w) k f fd ps sp) (tk : L2N.Takes X W) (hr : Room j X.A) (hj : k ≤ j) (hg : Gl X x) (hm : X.mg x = some (.ref f)) (hk : PySem.W.keepIn X.K (.ref f) = true) (hb : Binds X.K fd ps [])
    (hdb : (x == ("__debug__" : Str)) = false := by decide) : PE X (.Call (.Name x p) [] [] pos) (tCall0 sp (WE W)) := by
  refine ⟨fun pins s σ H Q I h => ?_⟩
  refine wpAny_Call_Name_kw (ld_glob I hg hm ?_ hdb)
  exact PySem.W.callWith_K0 I.kIn hk (run_fnS (us := []) F (hr.mono hj) hb (L2N.passAt tk σ) I .nil h)
end
end Bk

/-! ### methods of own classes, makings -/
namespace Bk
open PySem L2 PyProof.Rows
/-- an own method that stands for the class at C -/
structure MethOk (X : Cx) (m : Str) (k : Nat) (C : Addr) (sp : Sp) : Prop where
  c : Cls X.K C
  ex : ∃ f fd ps, Meth X.K C m f ∧ FnOk X.prog X.w X.K X.mg X.base (L2N.CX X.prog X.w) k f fd ps sp ∧ Binds X.K fd ps []
inductive AltsOk (X : Cx) (m : Str) (k : Nat) : List (Addr × Sp) → Prop
  | nil : AltsOk X m k []
  | cons {C : Addr} {sp : Sp} {l : List (Addr × Sp)} (h : MethOk X m k C sp) (r : AltsOk X m k l) : AltsOk X m k ((C, sp) :: l)
theorem AltsOk.get {X : Cx} {m : Str} {k : Nat} : ∀ {l : List (Addr × Sp)}, AltsOk X m k l → ∀ {C : Addr} {sp : Sp}, (C, sp) ∈ l → MethOk X m k C sp
  | _, .nil, _, _, h => by cases h
  | _, .cons h r, _, _, q => by
    rcases List.mem_cons.mp q with e | q
    · cases e; exact h
    · exact r.get q
theorem MethOk.mk' {X : Cx} {m : Str} {k j : Nat} {C f : Addr} {sp : Sp} {fd : FuncData} {ps : List Str} (c : Cls X.K C) (hm : Meth X.K C m f) (F : FnOk X.prog X.w X.K X.mg X.base (L2N.CX X.prog X.w) j f fd ps sp) (hb : Binds X.K fd ps []) (hj : j ≤ k) : MethOk X m k C sp :=
  ⟨c, f, fd, ps, hm, F.mono hj, hb⟩
def tMethP (m : Str) (alts : List (Addr × Sp)) (E : St → XK) (ta : TE) (t : TA) : TE := fun σ H Q => ta σ H fun x H1 => ∃ a dx fs C sp, x = .ref a ∧ H1 a = some (.ins C dx fs) ∧ fs.lookup m = none ∧ (C, sp) ∈ alts ∧
  t σ H1 fun vs H2 => sp (x :: vs) H2 Q (E σ)
section
variable {X : Cx} {k j : Nat} {f C : Addr} {fd : FuncData} {ps : List Str} {sp : Sp} {W : WX} {x m : Str} {p pos apos : Pos} {e o : Expr} {es : List Expr} {ta : TE} {t : TA} {alts : List (Addr × Sp)}
theorem methE {pl : Sem Bool} (he : PE X o ta) (al : AltsOk X m k alts) (tk : L2N.Takes X W) (hr : Room j X.A) (hj : k ≤ j) (ha : PA X (e :: es) t)
    (hst : starEach (e :: es) X.env = (false, eval e X.env) :: starEach es X.env := by rfl) (hpl : (backTo pos (starEach es X.env)).any (·.1) = false := by rfl)
    (ht : eval (.Call (.Attribute o m apos) (e :: es) [] pos) X.env = (do
      let ov ← eval o X.env
      standAt apos.atName
      let (f, first) ← holding [ov] (getMethod ov m pl)
      callWith pos f first (backTo pos (starEach (e :: es) X.env)) (backToKw pos (keywordEach [] X.env))) := by rfl) :
    PE X (.Call (.Attribute o m apos) (e :: es) [] pos) (tMethP m alts (WE W) ta t) := by
  refine ⟨fun pins s σ H Q I h => ?_⟩
  refine PySem.W.methodCall_KW (pl := pl) (thn (he.run pins s σ H _ I h) fun u s1 ⟨x, H1, I1, rx, a, dx, fs, C, sp, ex, ea, l, hin, q⟩ => ?_) ht
  subst ex
  obtain rfl : u = Value.ref a := rx
  obtain ⟨c, f, fd, ps, hm, F, hb⟩ := al.get hin
  refine getmeth_ok I1 ea c hm l ?_
  refine PySem.W.callWith_K (first := [.ref a]) (h₀ := X.base) I.ok.mod.kin hm.kp (thn (ha.run pos pins s1 σ H1 _ I1 q) fun us s2 ⟨vs, H2, I2, r, q2⟩ => ⟨I2.kIn, ?_⟩) hst hpl
  exact run_fnS (us := .ref a :: us) (vs := .ref a :: vs) F (hr.mono hj) hb (L2N.passAt tk σ) I2 (.cons rfl r) q2
theorem methE0 {pl : Sem Bool} (he : PE X o ta) (al : AltsOk X m k alts) (tk : L2N.Takes X W) (hr : Room j X.A) (hj : k ≤ j)
    (ht : eval (.Call (.Attribute o m apos) [] [] pos) X.env = (do
      let ov ← eval o X.env
      standAt apos.atName
      let (f, first) ← holding [ov] (getMethod ov m pl)
      callWith pos f first (backTo pos (starEach [] X.env)) (backToKw pos (keywordEach [] X.env))) := by rfl) :
    PE X (.Call (.Attribute o m apos) [] [] pos) (tMethP m alts (WE W) ta tNil) := by
  refine ⟨fun pins s σ H Q I h => ?_⟩
  refine PySem.W.methodCall_KW (pl := pl) (thn (he.run pins s σ H _ I h) fun u s1 ⟨x, H1, I1, rx, a, dx, fs, C, sp, ex, ea, l, hin, q⟩ => ?_) ht
  subst ex
  obtain rfl : u = Value.ref a := rx
  obtain ⟨c, f, fd, ps, hm, F, hb⟩ := al.get hin
  refine getmeth_ok I1 ea c hm l ?_
  exact PySem.W.callWith_K0 (first := [.ref a]) I1.kIn hm.kp (run_fnS (us := [.ref a]) (vs := [.ref a]) F (hr.mono hj) hb (L2N.passAt tk σ) I1 (.cons rfl .nil) q)
def tMakeE (C : Addr) (sp : Sp) (E : St → XK) (t : TA) : TE := fun σ H Q => t σ H fun vs H1 => ∀ x dx, H1 x = none → H1 dx = none → dx ≠ x → sp (.ref x :: vs) (upd (upd H1 dx (.own x)) x (.ins C dx [])) (fun v H2 => v = .non ∧ Q (.ref x) H2) (E σ)
theorem run_makeS {pins : List (Addr × Obj)} {σ : St} {H : Hp} {s : Shared} {Q : VK} {us : List Value} {vs : List V} {E : St → XK} (M : Mk X.K C f) (F : FnOk X.prog X.w X.K X.mg X.base (L2N.CX X.prog X.w) k f fd ps sp) (hr : Room (k + 1) X.A) (hb : Binds X.K fd ps [])
    (hx : ∀ σ, PassesAt (L2N.CX X.prog X.w) X σ (E σ)) (I : Inv X pins σ H s) (r : Vals vs us)
    (h : ∀ x dx, H x = none → H dx = none → dx ≠ x → sp (.ref x :: vs) (upd (upd H dx (.own x)) x (.ins C dx [])) (fun v H2 => v = .non ∧ Q (.ref x) H2) (E σ)) :
    wpAny (model X.prog X.w) X.A (call (.ref C) us) (EP X pins σ Q) X.xe s := by
  have hq := h (s.heap.objs.size + 1) s.heap.objs.size (I.hok.fresh (Nat.le_succ _)) (I.hok.fresh (Nat.le_refl _)) (Nat.ne_of_lt (Nat.lt_succ_self _))
  have I2 := Inv.made (C := C) I
  have r2 : Vals (V.ref (s.heap.objs.size + 1) :: vs) (Value.ref (s.heap.objs.size + 1) :: us) := .cons rfl r
  have hl : (Value.ref (s.heap.objs.size + 1) :: us ++ []).length = ps.length := by
    have e := r2.length
    rw [F.len _ _ _ _ hq] at e
    rw [List.append_nil]
    exact e.symm
  have b := hb { s with heap := (s.heap.push { cls := .type "dict", data := .dict #[] }).push (PySem.W.instObj C s.heap.objs.size) } (Value.ref (s.heap.objs.size + 1) :: us) I2.kIn hl
  rw [List.append_nil] at b
  refine wpAny_call (make_map (f := f) I.kIn M.makes M.init (beq_iff_eq.mp M.fn) (codeAny_mono (F.run _ X.stack _ _ ⟨Value.ref (s.heap.objs.size + 1) :: us, []⟩ (Value.ref (s.heap.objs.size + 1) :: us) _ _ (E σ) (hr.make C us [])
    (I2.env0.make C us []) b r2 hq) fun r s' hq' => ?_))
  cases r with
  | error e => exact hx σ pins _ _ e s' I2 hq'
  | ok fl =>
    cases fl with
    | ret u =>
      obtain ⟨v, H', I3, rv, ev, q3⟩ := I2.after hq'
      subst ev
      exact ⟨rv, ⟨V.ref (s.heap.objs.size + 1), H', I3, rfl, q3⟩⟩
    | next => exact False.elim hq'
    | brk => exact False.elim hq'
    | cont => exact False.elim hq'
theorem makeE (M : Mk X.K C f) (F : FnOk X.prog X.w X.K X.mg X.base (L2N.CX X.prog X.w) k f fd ps sp) (tk : L2N.Takes X W) (hr : Room j X.A) (hj : k + 1 ≤ j) (hg : Gl X x) (hm : X.mg x = some (.ref C)) (hb : Binds X.K fd ps [])
    (ha : PA X (e :: es) t) (hdb : (x == ("__debug__" : Str)) = false := by decide) (he : starEach (e :: es) X.env = (false, eval e X.env) :: starEach es X.env := by rfl) (hpl : (backTo pos (starEach es X.env)).any (·.1) = false := by rfl) :
    PE X (.Call (.Name x p) (e :: es) [] pos) (tMakeE C sp (WE W) t) := by
  refine ⟨fun pins s σ H Q I h => ?_⟩
  refine wpAny_Call_Name_kw (ld_glob I hg hm ?_ hdb)
  refine PySem.W.callWith_K (h₀ := X.base) I.ok.mod.kin M.kp (thn (ha.run pos pins s σ H _ I h) fun us s1 ⟨vs, H1, I1, r, q⟩ => ⟨I1.kIn, ?_⟩) he hpl
  exact run_makeS M F (hr.mono hj) hb (fun σ => L2N.passAt tk σ) I1 r q
end
end Bk

/-! ### built-ins, of any kinds -/
namespace Bk
open PySem L2 PyProof.Rows
def rLenP (K : PySem.W.Frag) : List V → Hp → VK → Prop := fun xs H Q => (∃ x n, xs = [x] ∧ LenV K x H n ∧ Q (.int n) H) ∨ ∃ a kvs, xs = [V.ref a] ∧ H a = some (.dK kvs) ∧ Q (.int kvs.length) H
def rListP (K : PySem.W.Frag) : List V → Hp → VK → Prop := fun xs H Q => ∃ p ys, xs = [.ref p] ∧ (SqL K H p ys ∨ SqT K H p ys) ∧ ∀ l, H l = none → Q (.ref l) (upd H l (.lst ys))
def rTupleP (K : PySem.W.Frag) : List V → Hp → VK → Prop := fun xs H Q => ∃ p ys, xs = [.ref p] ∧ ((SqL K H p ys ∧ ∀ l, H l = none → Q (.ref l) (upd H l (.tup ys))) ∨ (SqT K H p ys ∧ Q (.ref p) H))
def rIntB : List V → Hp → VK → Prop := fun xs H Q => (∃ i, xs = [.int i] ∧ Q (.int i) H) ∨ ∃ k, xs = [.bl k] ∧ Q (.int (if k then 1 else 0)) H
def rIntP : List V → Hp → VK → Prop := fun xs H Q => rIntB xs H Q ∨ ∃ a n, xs = [.str a] ∧ PySem.intText? a = some n ∧ a.length ≤ 640 ∧ Q (.int n) H
def rAbsP : List V → Hp → VK → Prop := fun xs H Q => ∃ i, xs = [.int i] ∧ Q (.int (if i < 0 then -i else i)) H
def rMin2 : List V → Hp → VK → Prop := fun xs H Q => ∃ i j, xs = [.int i, .int j] ∧ Q (.int (if j < i then j else i)) H
def rMax2 : List V → Hp → VK → Prop := fun xs H Q => ∃ i j, xs = [.int i, .int j] ∧ Q (.int (if j > i then j else i)) H
section
variable {X : Cx}
theorem call_lenP : CallR X (.builtin "len") (rLenP X.K) := call_or call_len call_lenD
theorem call_listP : CallR X (.type "list") (rListP X.K) := call_list_of
theorem call_intP : CallR X (.type "int") rIntP := call_or call_int1 call_int_str
/-- what is walked: a list, a tuple, a text; told when its value is known -/
def SeqC (K : PySem.W.Frag) (R : It → Hp → Prop) : VK := fun x H1 => (∃ a, x = .ref a ∧ ∃ xs, SqL K H1 a xs ∧ R (Itl K a) H1) ∨ (∃ a, x = .ref a ∧ ∃ xs, SqT K H1 a xs ∧ R (Itt K a) H1) ∨ ∃ z, x = .str z ∧ R (Its z) H1
def iSeqP (K : PySem.W.Frag) (tl : TE) : TI := fun σ H R => tl σ H (SeqC K R)
theorem pi_seqP {tg l : Expr} {tl : TE} (hl : PE X l tl) : PI X tg l (iSeqP X.K tl) := by
  refine ⟨fun pins s σ H R I h => thn (hl.run pins s σ H _ I h) ?_⟩
  rintro v s1 ⟨x, H1, I1, r1, ⟨a, rfl, xs, hq, q⟩ | ⟨a, rfl, xs, hq, q⟩ | ⟨z, rfl, q⟩⟩
  · cases r1
    obtain ⟨its, rv, p, hz⟩ := I1.list hq
    exact wpAny_pyIter_list p.isList (pi_one (tk := s1.toks) I1 _ (turn_list a _) ⟨_, Heap.get?_push_size _ rfl, rfl, rfl⟩ q)
  · cases r1
    obtain ⟨its, rv, p, hz⟩ := I1.tuple hq
    exact wpAny_pyIter_tuple p (pi_one (tk := s1.toks) I1 _ (turn_tuple a _) ⟨_, Heap.get?_push_size _ rfl, rfl, rfl⟩ q)
  · obtain ⟨t, rfl⟩ := r1
    cases ha : z.cps.all (· < 128)
    · exact wpAny_pyIter_wide ha (pi_one (tk := s1.toks) I1 _ (turn_str _ z t "str_iterator" (.inr rfl)) ⟨_, Heap.get?_push_size _ rfl, rfl, rfl⟩ q)
    · exact wpAny_pyIter_ascii ha (pi_one (tk := s1.toks) I1 _ (turn_str _ z t "str_ascii_iterator" (.inl rfl)) ⟨_, Heap.get?_push_size _ rfl, rfl, rfl⟩ q)
end
section
variable {H : Hp} {Q : VK} {K : PySem.W.Frag} {a : Addr} {xs : List V} {i j : Int} {z : Str}
theorem go_lenL (h : H a = some (.lst xs)) (q : Q (.int xs.length) H) : rLenP K [.ref a] H Q := .inl ⟨.ref a, xs.length, rfl, .inl ⟨xs, SqL.of h, rfl⟩, q⟩
theorem go_lenT (h : H a = some (.tup xs)) (q : Q (.int xs.length) H) : rLenP K [.ref a] H Q := .inl ⟨.ref a, xs.length, rfl, .inr ⟨xs, SqT.of h, rfl⟩, q⟩
/-- the script's list, however it stands -/
theorem go_lenK (h : SqL K H a xs) (q : Q (.int xs.length) H) : rLenP K [.ref a] H Q := .inl ⟨.ref a, xs.length, rfl, .inl ⟨xs, h, rfl⟩, q⟩
theorem go_ixK {v : V} (h : SqL K H a xs) (hv : atI xs i = some v) (q : Q v H) : rIxP K (.ref a) (.int i) H Q := .inl ⟨a, xs, i, v, rfl, rfl, h, hv, q⟩
theorem go_listL (h : H a = some (.lst xs)) (q : ∀ p H1, New H p (.lst xs) H1 → Q (.ref p) H1) : rListP K [.ref a] H Q := ⟨a, xs, rfl, .inl (SqL.of h), new_of q⟩
theorem go_listT (h : H a = some (.tup xs)) (q : ∀ p H1, New H p (.lst xs) H1 → Q (.ref p) H1) : rListP K [.ref a] H Q := ⟨a, xs, rfl, .inr (SqT.of h), new_of q⟩
theorem go_tupleL (h : H a = some (.lst xs)) (q : ∀ p H1, New H p (.tup xs) H1 → Q (.ref p) H1) : rTupleP K [.ref a] H Q := ⟨a, xs, rfl, .inl ⟨SqL.of h, new_of q⟩⟩
theorem go_intI (q : Q (.int i) H) : rIntP [.int i] H Q := .inl (.inl ⟨i, rfl, q⟩)
instance st_go_intI : Step (rIntP [.int i] H Q) (Q (.int i) H) := ⟨go_intI⟩
theorem go_intB {k : Bool} (q : Q (.int (if k then 1 else 0)) H) : rIntP [.bl k] H Q := .inl (.inr ⟨k, rfl, q⟩)
instance st_go_intB {k : Bool} : Step (rIntP [.bl k] H Q) (Q (.int (if k then 1 else 0)) H) := ⟨go_intB⟩
theorem go_abs (q : Q (.int (if i < 0 then -i else i)) H) : rAbsP [.int i] H Q := ⟨i, rfl, q⟩
instance st_go_abs : Step (rAbsP [.int i] H Q) (Q (.int (if i < 0 then -i else i)) H) := ⟨go_abs⟩
theorem go_min2 (q : Q (.int (if j < i then j else i)) H) : rMin2 [.int i, .int j] H Q := ⟨i, j, rfl, q⟩
instance st_go_min2 : Step (rMin2 [.int i, .int j] H Q) (Q (.int (if j < i then j else i)) H) := ⟨go_min2⟩
theorem go_max2 (q : Q (.int (if j > i then j else i)) H) : rMax2 [.int i, .int j] H Q := ⟨i, j, rfl, q⟩
instance st_go_max2 : Step (rMax2 [.int i, .int j] H Q) (Q (.int (if j > i then j else i)) H) := ⟨go_max2⟩
theorem go_all {bs : List Bool} (h : H a = some (.lst (bs.map V.bl))) (q : Q (.bl (bs.all id)) H) : rAll K [.ref a] H Q := ⟨a, bs, rfl, SqL.of h, q⟩
/-! ### isinstance with a built-in class -/
/-- the kind of a value by its name -/
def tyN (H : Hp) : V → Option String
  | .non => some "NoneType"
  | .bl _ => some "bool"
  | .int _ => some "int"
  | .str _ => some "str"
  | .ref a => match H a with
    | some (.lst _) => some "list"
    | some (.tup _) => some "tuple"
    | some (.dK _) => some "dict"
    | _ => none
  | _ => none
theorem tyN_ok {x : V} {n : String} (h : tyN H x = some n) : TyX K H x (.type n) := by
  cases x with
  | non => cases h; exact .base .non
  | bl b => cases h; exact .base (.bl b)
  | int i => cases h; exact .base (.int i)
  | str s => cases h; exact .base (.str s)
  | byt b => cases h
  | flt b => cases h
  | ty n => cases h
  | ref a =>
    have h' : (match H a with | some (.lst _) => some "list" | some (.tup _) => some "tuple" | some (.dK _) => some "dict" | _ => none) = some n := h
    split at h'
    · rename_i e; cases h'; exact .base (.lst e)
    · rename_i e; cases h'; exact .base (.tup e)
    · rename_i e; cases h'; exact .base (.dK e)
    · cases h'
theorem tyN_L (h : H a = some (.lst xs)) : tyN H (.ref a) = some "list" := by simp [tyN, h]
theorem tyN_T (h : H a = some (.tup xs)) : tyN H (.ref a) = some "tuple" := by simp [tyN, h]
theorem tyN_D {kvs : List (Key × V)} (h : H a = some (.dK kvs)) : tyN H (.ref a) = some "dict" := by simp [tyN, h]
/-- isinstance(x, T), x of kind n -/
theorem go_isi {x : V} {n T : String} {r : Bool} (h : tyN H x = some n) (hr : kitB n T = some r) (q : Q (.bl r) H) : rIsi K [x, .ty T] H Q := ⟨x, .ty T, .type n, .type T, r, rfl, .ty T, tyN_ok h, kit_ty hr, q⟩
def isiB (n T : String) : Bool := (kitB n T).getD false
theorem kit_b' : ∀ n ∈ ["NoneType", "bool", "int", "str", "list", "tuple", "dict"], ∀ T ∈ ["bool", "int", "str", "list", "tuple", "dict"], kitB n T = some (n == T || (n == "bool" && T == "int")) := by decide +kernel
theorem kit_bb {n T : String} (h : n ∈ ["NoneType", "bool", "int", "str", "list", "tuple", "dict"]) (k : T ∈ ["bool", "int", "str", "list", "tuple", "dict"]) : kitB n T = some (n == T || (n == "bool" && T == "int")) := kit_b' n h T k
end
end Bk

/-! ### comprehensions and loops, by what each turn makes -/
namespace Bk
open PySem L2 PyProof.Rows
def LcK (g : TG) (tt : TT) (te : TE) (vs : List Nat) (σ : St) (Q : VK) : It → Hp → Prop := fun J H1 => tLc (fun _ H R => R J H) g tt te vs σ H1 Q
def ForK (g : TG) (tb : TS) (D : Ends) (σ : St) : It → Hp → Prop := fun J H1 => tFor (fun _ H R => R J H) g tb D σ H1
/-- one range's ends -/
def Rng1K (R : It → Hp → Prop) : List V → Hp → Prop := fun vs H1 => ∃ j : Int, vs = [.int j] ∧ -(2 ^ 62) ≤ j ∧ j < 2 ^ 62 ∧ R (Itr 0 j.toNat) H1
def Rng2K (R : It → Hp → Prop) : List V → Hp → Prop := fun vs H1 => ∃ i j : Int, vs = [.int i, .int j] ∧ (-(2 ^ 62) ≤ i ∧ i < 2 ^ 62 ∧ -(2 ^ 62) ≤ j ∧ j < 2 ^ 62) ∧ R (Itr i (j - i).toNat) H1
section
variable {σ : St} {H H1 : Hp} {Q : VK} {K : PySem.W.Frag} {wi : TI} {g : TG} {tt : TT} {te tl : TE} {vs : List Nat} {tb : TS} {D : Ends} {ta : TA} {R : It → Hp → Prop} {a : Addr} {xs : List V} {i j : Int} {z : Str} {nx bk ct : St → Hp → Prop} {rt : VK}
theorem go_lc (q : wi σ H (LcK g tt te vs σ Q)) : tLc wi g tt te vs σ H Q := q
instance st_go_lc : Step (tLc wi g tt te vs σ H Q) (wi σ H (LcK g tt te vs σ Q)) := ⟨go_lc⟩
theorem go_for (q : wi σ H (ForK g tb D σ)) : tFor wi g tb D σ H := q
instance st_go_for : Step (tFor wi g tb D σ H) (wi σ H (ForK g tb D σ)) := ⟨go_for⟩
theorem go_seqP (q : tl σ H (SeqC K R)) : iSeqP K tl σ H R := q
instance st_go_seqP : Step (iSeqP K tl σ H R) (tl σ H (SeqC K R)) := ⟨go_seqP⟩
theorem go_seqL (h : H a = some (.lst xs)) (q : R (Itl K a) H) : SeqC K R (.ref a) H := .inl ⟨a, rfl, xs, SqL.of h, q⟩
theorem go_seqT (h : H a = some (.tup xs)) (q : R (Itt K a) H) : SeqC K R (.ref a) H := .inr (.inl ⟨a, rfl, xs, SqT.of h, q⟩)
theorem go_seqS (q : R (Its z) H) : SeqC K R (.str z) H := .inr (.inr ⟨z, rfl, q⟩)
instance st_go_seqS : Step (SeqC K R (.str z) H) (R (Its z) H) := ⟨go_seqS⟩
theorem go_rng1 (q : ta σ H (Rng1K R)) : iRng1 ta σ H R := q
instance st_go_rng1 : Step (iRng1 ta σ H R) (ta σ H (Rng1K R)) := ⟨go_rng1⟩
theorem go_rng2 (q : ta σ H (Rng2K R)) : iRng2 ta σ H R := q
instance st_go_rng2 : Step (iRng2 ta σ H R) (ta σ H (Rng2K R)) := ⟨go_rng2⟩
theorem go_rng1K (h : -(2 ^ 62) ≤ j ∧ j < 2 ^ 62) (q : R (Itr 0 j.toNat) H) : Rng1K R [.int j] H := ⟨j, rfl, h.1, h.2, q⟩
theorem go_rng2K (h : -(2 ^ 62) ≤ i ∧ i < 2 ^ 62 ∧ -(2 ^ 62) ≤ j ∧ j < 2 ^ 62) (q : R (Itr i (j - i).toNat) H) : Rng2K R [.int i, .int j] H := ⟨i, j, rfl, h, q⟩

theorem take_succ_of {α : Type} {l : List α} {i : Nat} {x : α} (h : l[i]? = some x) : l.take (i + 1) = l.take i ++ [x] := by rw [List.take_add_one, h]; rfl
/-- a list with tests and elements that leave what stands -/
theorem lc_L {m : Nat} {f : V → V} {p : V → Bool} (h : H1 a = some (.lst xs)) (hz : xs.length ≤ sizeLine)
    (test : ∀ (i : Nat) (x : V) (H' : Hp) (QB : Bool → Hp → Prop), xs[i]? = some x → Same H1 H' → (∀ H'', Same H' H'' → QB (p x) H'') → tt ((σ.set m none).set m (some x)) H' QB)
    (step : ∀ (i : Nat) (x : V) (H' : Hp) (Q' : VK), xs[i]? = some x → p x = true → Same H1 H' → (∀ H'', Same H' H'' → Q' (f x) H'') → te ((σ.set m none).set m (some x)) H' Q')
    (q : ∀ D H2, H1 D = none → Same H1 H2 → H2 D = some (.lst ((xs.filter p).map f)) → Q (.ref D) H2) : LcK (gName m) tt te [m] σ Q (Itl K a) H1 := by
  intro D hD
  refine lc_list (K := K) (a := a) (xs := xs) (fun i H => H D = some (.lst (((xs.take i).filter p).map f)) ∧ Same H1 H) ⟨upd_same, fun b o e => by rw [upd_ne (ne_of_none e hD)]; exact e⟩ (fun i H _ ⟨_, s⟩ => SqL.of (s _ _ h)) ?_ ?_
  · rintro i x H' hx ⟨hd, s⟩
    refine ⟨?_, test i x H' _ hx s ?_⟩
    · show ((σ.set m none).set m (some x)).set m none = σ.set m none
      rw [List.set_set, List.set_set]
    · rintro H'' s2
      have hd2 := s2 _ _ hd
      cases hb : p x with
      | false =>
        rw [if_neg Bool.false_ne_true]
        refine ⟨?_, s.trans s2⟩
        rw [take_succ_of hx, List.filter_append, List.filter_cons_of_neg (by rw [hb]; decide), List.filter_nil, List.append_nil]
        exact hd2
      | true =>
        rw [if_pos rfl]
        refine step i x H'' _ hx hb (s.trans s2) fun H3 s3 => ?_
        refine ⟨_, s3 _ _ hd2, ?_, ?_, fun b o e => ?_⟩
        · rw [List.length_map]
          have h1 := List.length_filter_le p (xs.take i)
          have h2 : (xs.take i).length ≤ i := by rw [List.length_take]; omega
          have h3 : i < xs.length := (List.getElem?_eq_some_iff.mp hx).1
          omega
        · rw [upd_same, take_succ_of hx, List.filter_append, List.filter_cons_of_pos hb, List.filter_nil, List.map_append]
          rfl
        · rw [upd_ne (ne_of_none e hD)]
          exact s3 _ _ (s2 _ _ (s _ _ e))
  · rintro H2 ⟨hd, s⟩
    rw [List.take_length] at hd
    exact q D H2 hD s hd
/-- no test -/
theorem yes_if {σ : St} {H : Hp} {A B : Hp → Prop} (h : A H) : tYes σ H (fun b H3 => if b = true then A H3 else B H3) := (iteT (B := B H) h : if true = true then A H else B H)
theorem lc_mapL {m : Nat} {f : V → V} (h : H1 a = some (.lst xs)) (hz : xs.length ≤ sizeLine)
    (step : ∀ (i : Nat) (x : V) (H' : Hp) (Q' : VK), xs[i]? = some x → Same H1 H' → (∀ H'', Same H' H'' → Q' (f x) H'') → te ((σ.set m none).set m (some x)) H' Q')
    (q : ∀ D H2, H1 D = none → Same H1 H2 → H2 D = some (.lst (xs.map f)) → Q (.ref D) H2) : LcK (gName m) tYes te [m] σ Q (Itl K a) H1 := by
  intro D hD
  refine lc_list (K := K) (a := a) (xs := xs) (fun i H => H D = some (.lst ((xs.take i).map f)) ∧ Same H1 H) ⟨upd_same, fun b o e => by rw [upd_ne (ne_of_none e hD)]; exact e⟩ (fun i H _ ⟨_, s⟩ => SqL.of (s _ _ h)) ?_ ?_
  · rintro i x H' hx ⟨hd, s⟩
    refine ⟨?_, ?_⟩
    · show ((σ.set m none).set m (some x)).set m none = σ.set m none
      rw [List.set_set, List.set_set]
    · refine yes_if (step i x H' _ hx s fun H3 s3 => ?_)
      refine ⟨_, s3 _ _ hd, ?_, ?_, fun b o e => ?_⟩
      · rw [List.length_map]
        have h2 : (xs.take i).length ≤ i := by rw [List.length_take]; omega
        have h3 : i < xs.length := (List.getElem?_eq_some_iff.mp hx).1
        omega
      · rw [upd_same, take_succ_of hx, List.map_append]
        rfl
      · rw [upd_ne (ne_of_none e hD)]
        exact s3 _ _ (s _ _ e)
  · rintro H2 ⟨hd, s⟩
    rw [List.take_length] at hd
    exact q D H2 hD s hd
theorem len_cut (xs : List V) (lo hi : Option Int) : (cutV xs lo hi).length = min (HT.sIx xs.length xs.length hi - HT.sIx xs.length 0 lo) (xs.length - HT.sIx xs.length 0 lo) := by
  unfold cutV
  rw [List.length_take, List.length_drop]
/-! loops -/
theorem for_R {m n : Nat} {lo : Int} (INV : Nat → St → Hp → Prop) (h0 : INV 0 σ H1)
    (hs : ∀ i σ H, i < n → INV i σ H → tb ⟨INV (i + 1), rt, nx, INV (i + 1)⟩ (σ.set m (some (.int (lo + i)))) H) (hd : ∀ σ H, INV n σ H → nx σ H) : ForK (gName m) tb ⟨nx, rt, bk, ct⟩ σ (Itr lo n) H1 :=
  for_range INV h0 hs hd
end
/-! what is raised -/
def tRaiseE (C : Addr) (W : WX) : TS := fun _ σ H => W (.ref C) none σ H
structure ExOk (K : PySem.W.Frag) (C : Addr) : Prop where
  q : PySem.W.excIn K C [.type "ValueError", .type "Exception", .type "BaseException", .type "object"] "ValueError.__new__" = true
  k : PySem.W.keepIn K (.ref C) = true
  s : PySem.W.subIn K (.ref C) (.type "BaseException") = some true
  t : PySem.W.typeIn K (.ref C) = some (.type "type")
theorem raiseE {X : Cx} {C : Addr} {W : WX} {x m : Str} {j : Nat} {p p2 pos pos' : Pos} (hc : X.calm = true) (tk : L2N.Takes X W) (e : ExOk X.K C) (hm : X.mg x = some (.ref C)) (hg : Gl X x := by rfl) (hdb : (x == ("__debug__" : Str)) = false := by decide) :
    PS X (.Raise (some (.Call (.Name x p) [.Constant (.str m) j p2] [] pos)) none pos') (tRaiseE C W) :=
  L2N.ps_raise hc tk (L2N.pmk_own PySem.F.excBase_ValueError e.q hm e.k (raises_own e.s e.t) hg hdb)
theorem go_raise {C : Addr} {W : WX} {D : Ends} {σ : St} {H : Hp} (q : W (.ref C) none σ H) : tRaiseE C W D σ H := q
/-! targets of several names -/
theorem pg_or {X : Cx} {tg : Expr} {g h : TG} (a : PG X tg g) (b : PG X tg h) : PG X tg (fun v σ H Q => g v σ H Q ∨ h v σ H Q) :=
  ⟨fun pins s σ H v u Q I r q => q.elim (fun q => a.run pins s σ H v u Q I r q) fun q => b.run pins s σ H v u Q I r q⟩
def gTupP (K : PySem.W.Frag) (n : Nat) (t : TGs) : TG := fun v σ H Q => gTup K n t v σ H Q ∨ gLst K n t v σ H Q
theorem pg_tupP {X : Cx} {pos : Pos} {es : List Expr} {k : Nat} {t : TGs} {n : Nat} (hc : X.calm = true) (h : PGs X es t) (hn : (assignEach es X.env).length = n := by rfl) (hst : (assignEach es X.env).findIdx? (·.1) = none := by rfl) :
    PG X (.Tuple es k pos) (gTupP X.K n t) := pg_or (pg_tup hc h hn hst) (pg_lst hc h hn hst)
section
variable {σ : St} {H : Hp} {K : PySem.W.Frag} {n : Nat} {t : TG} {u : TGs} {v : V} {a : Addr} {xs : List V} {Q : St → Hp → Prop}
theorem go_tupG (h : H a = some (.tup xs)) (hl : xs.length = n) (q : u xs σ H Q) : gTupP K n u (.ref a) σ H Q := .inl ⟨a, xs, rfl, SqT.of h, hl, q⟩
theorem go_lstG (h : H a = some (.lst xs)) (hl : xs.length = n) (q : u xs σ H Q) : gTupP K n u (.ref a) σ H Q := .inr ⟨a, xs, rfl, SqL.of h, hl, q⟩
theorem go_gNil (q : Q σ H) : gNil [] σ H Q := ⟨rfl, q⟩
instance st_go_gNil : Step (gNil [] σ H Q) (Q σ H) := ⟨go_gNil⟩
theorem go_gCons {r : List V} (q : t v σ H fun σ' H' => u r σ' H' Q) : gCons t u (v :: r) σ H Q := ⟨v, r, rfl, q⟩
instance st_go_gCons {r : List V} : Step (gCons t u (v :: r) σ H Q) (t v σ H fun σ' H' => u r σ' H' Q) := ⟨go_gCons⟩
end
/-- the classes' places -/
structure Ac where
  (KeepError BadRow NoBlock Stopped BadDisk NoRoom TooMuch BadLog NoNode NoNodes TooLong OutOfPlace BadName BadPath NotFolder NotFile NoName NameThere NotEmpty Within BadOrder Disk Layout Batch Keeper f1 f2 : Addr)
end Bk

namespace Bk
open PySem L2 PyProof.Rows
/-! ### data -/
section
variable {K : PySem.W.Frag} {H H' : Hp} {Q : VK} {x y : V} {d e : PyData} {a b : Addr}
mutual
theorem Dp.same (s : Same H H') : ∀ {d : PyData} {v : V}, Dp K H v d → Dp K H' v d
  | _, _, .non => .non
  | _, _, .bl b => .bl b
  | _, _, .int i => .int i
  | _, _, .str x => .str x
  | _, _, .lst h k => .lst (s.seq h) (DpAll.same s k)
  | _, _, .tup h k => .tup (by rcases h with (h | ⟨o, h⟩) | h; exact .inl (.inl (s _ _ h)); exact .inl (.inr ⟨o, s _ _ h⟩); exact .inr h) (DpAll.same s k)
theorem DpAll.same (s : Same H H') : ∀ {ds : List PyData} {vs : List V}, DpAll K H vs ds → DpAll K H' vs ds
  | _, _, .nil => .nil
  | _, _, .cons h k => .cons (Dp.same s h) (DpAll.same s k)
end
theorem DpAll.ints : ∀ ns : List Int, DpAll K H (ns.map V.int) (ns.map PyData.int)
  | [] => .nil
  | n :: r => .cons (.int n) (DpAll.ints r)
theorem dp_ints {ns : List Int} (h : H a = some (.lst (ns.map V.int))) : Dp K H (.ref a) (.list (ns.map PyData.int)) := .lst (SqL.of h) (DpAll.ints ns)
theorem eqv_ints : ∀ ns ms : List Int, PyData.eqvAll (ns.map PyData.int) (ms.map PyData.int) = decide (ns = ms)
  | [], [] => by simp [PyData.eqvAll]
  | [], _ :: _ => by simp [PyData.eqvAll]
  | _ :: _, [] => by simp [PyData.eqvAll]
  | n :: r, m :: q => by
    simp only [List.map_cons, PyData.eqvAll, PyData.eqv, eqv_ints r q, List.cons.injEq, Bool.decide_and]
    rfl
theorem go_eqD (h : Dp K H x d) (k : Dp K H y e) (hd : SeqAt.shaped d = true) (he : SeqAt.shaped e = true) (q : Q (.bl (PyData.eqv d e)) H) : rEqP K x y H Q := .inr ⟨d, e, h, k, hd, he, q⟩
theorem go_neD (h : Dp K H x d) (k : Dp K H y e) (hd : SeqAt.shaped d = true) (he : SeqAt.shaped e = true) (q : Q (.bl (!PyData.eqv d e)) H) : rNeP K x y H Q := .inr ⟨d, e, h, k, hd, he, q⟩
theorem go_eqIs {ns ms : List Int} (h : H a = some (.lst (ns.map V.int))) (k : H b = some (.lst (ms.map V.int))) (q : Q (.bl (decide (ns = ms))) H) : rEqP K (.ref a) (.ref b) H Q :=
  go_eqD (dp_ints h) (dp_ints k) (PySem.W.shaped_ints ns) (PySem.W.shaped_ints ms) (by rw [PyData.eqv, eqv_ints]; exact q)
theorem go_neIs {ns ms : List Int} (h : H a = some (.lst (ns.map V.int))) (k : H b = some (.lst (ms.map V.int))) (q : Q (.bl (!decide (ns = ms))) H) : rNeP K (.ref a) (.ref b) H Q :=
  go_neD (dp_ints h) (dp_ints k) (PySem.W.shaped_ints ns) (PySem.W.shaped_ints ms) (by rw [PyData.eqv, eqv_ints]; exact q)
/-- two that hold the same data -/
theorem go_neSame (h : Dp K H x d) (k : Dp K H y d) (hd : SeqAt.shaped d = true) (q : Q (.bl false) H) : rNeP K x y H Q :=
  go_neD h k hd hd (by rw [PySem.SeqAt.eqv_refl d (SeqAt.canLay_of_shaped hd)]; exact q)
theorem tyN_same {n : String} (s : Same H H') (h : tyN H x = some n) : tyN H' x = some n := by
  cases x with
  | ref a =>
    have h' : (match H a with | some (.lst _) => some "list" | some (.tup _) => some "tuple" | some (.dK _) => some "dict" | _ => none) = some n := h
    split at h'
    · rename_i e; rw [← h']; exact tyN_L (s _ _ e)
    · rename_i e; rw [← h']; exact tyN_T (s _ _ e)
    · rename_i e; rw [← h']; exact tyN_D (s _ _ e)
    · cases h'
  | _ => exact h
end
end Bk

/-! ### a script's cells; items at open places; known things -/
namespace Bk
open PySem L2 PyProof.Rows
section
variable {K : PySem.W.Frag} {H H' : Hp} {Q : VK}
theorem atI_some {α : Type} {xs : List α} {j : Int} (h0 : 0 ≤ j) (h1 : j < xs.length) : ∃ v, atI xs j = some v ∧ v ∈ xs ∧ xs[j.toNat]? = some v := by
  have h2 : j.toNat < xs.length := by omega
  refine ⟨xs[j.toNat], ?_, List.getElem_mem h2, List.getElem?_eq_getElem h2⟩
  have := atI_nat (xs := xs) (j := j.toNat) (List.getElem?_eq_getElem h2)
  rwa [Int.toNat_of_nonneg h0] at this
theorem go_ixLo {a : Addr} {xs : List V} {j : Int} (h : H a = some (.lst xs)) (hj : 0 ≤ j ∧ j < xs.length) (q : ∀ v, v ∈ xs → xs[j.toNat]? = some v → Q v H) : rIxP K (.ref a) (.int j) H Q := by
  obtain ⟨v, h1, h2, h3⟩ := atI_some hj.1 hj.2
  exact go_ixL h h1 (q v h2 h3)
/-- the k-th cell of a script, nought behind its end -/
def cellI (ns : List Int) (k : Int) : Int := ns.getD k.toNat 0
theorem cell_in {ns : List Int} {k : Int} (h : 0 ≤ k) (h2 : k < ns.length) : atI (ns.map V.int) k = some (.int (cellI ns k)) := by
  obtain ⟨v, e, _, e2⟩ := atI_some (xs := ns.map V.int) h (by simpa using h2)
  rw [e]
  rw [List.getElem?_map] at e2
  unfold cellI
  cases q : ns[k.toNat]? with
  | none => rw [q] at e2; cases e2
  | some z => rw [q] at e2; cases e2; rw [List.getD_eq_getElem?_getD, q]; rfl
theorem cell_out {ns : List Int} {k : Int} (h : ¬ k < ns.length) : cellI ns k = 0 := by
  unfold cellI
  rw [List.getD_eq_getElem?_getD, List.getElem?_eq_none (by omega)]
  rfl
/-- a thing whose kind and data are known, no deeper than a list of plain things -/
def Itm (K : PySem.W.Frag) (H : Hp) (y : V) : Prop := (∃ n, tyN H y = some n) ∧ ∃ d, Dp K H y d ∧ d.canLay0 = true ∧ d.depth ≤ 2
theorem Itm.same {y : V} (s : Same H H') (h : Itm K H y) : Itm K H' y := ⟨let ⟨n, e⟩ := h.1; ⟨n, tyN_same s e⟩, let ⟨d, e, c⟩ := h.2; ⟨d, Dp.same s e, c⟩⟩
theorem Itm.int (i : Int) : Itm K H (.int i) := ⟨⟨_, rfl⟩, _, .int i, by simp [PyData.canLay0], by simp [PyData.depth]⟩
theorem Itm.str (i : Str) (h : PyData.strOk i = true) : Itm K H (.str i) := ⟨⟨_, rfl⟩, _, .str i, by simp [PyData.canLay0, h], by simp [PyData.depth]⟩
theorem Itm.bl (i : Bool) : Itm K H (.bl i) := ⟨⟨_, rfl⟩, _, .bl i, by simp [PyData.canLay0], by simp [PyData.depth]⟩
theorem Itm.non : Itm K H .non := ⟨⟨_, rfl⟩, _, .non, by simp [PyData.canLay0], by simp [PyData.depth]⟩
theorem Itm.ints {a : Addr} {ns : List Int} (h : H a = some (.lst (ns.map V.int))) : Itm K H (.ref a) := by
  have h1 := PySem.W.shaped_ints ns
  have h2 := PySem.W.depthAll_ints ns
  exact ⟨⟨_, tyN_L h⟩, _, dp_ints h, SeqAt.canLay_of_shaped h1, by simp only [PyData.depth]; omega⟩
end
end Bk

namespace Bk
open PySem L2 PyProof.Rows
theorem kindR {H : Hp} {p : Addr} {n : String} (h : tyN H (.ref p) = some n) : (n = "list" ∧ ∃ xs, H p = some (.lst xs)) ∨ (n = "tuple" ∧ ∃ xs, H p = some (.tup xs)) ∨ (n = "dict" ∧ ∃ kvs, H p = some (.dK kvs)) := by
  have h' : (match H p with | some (.lst _) => some "list" | some (.tup _) => some "tuple" | some (.dK _) => some "dict" | _ => none) = some n := h
  split at h'
  · rename_i e; cases h'; exact .inl ⟨rfl, _, e⟩
  · rename_i e; cases h'; exact .inr (.inl ⟨rfl, _, e⟩)
  · rename_i e; cases h'; exact .inr (.inr ⟨rfl, _, e⟩)
  · cases h'
end Bk

/-! ### slices from and to a place -/
namespace Bk
open PySem L2 PyProof.Rows
theorem cut_take (xs : List V) {k : Int} (h : 0 ≤ k) : cutV xs none (some k) = xs.take k.toNat := by
  unfold cutV HT.sIx
  simp only [if_neg (show ¬ k < 0 by omega), Nat.sub_zero, List.drop_zero]
  by_cases c : k.toNat ≤ xs.length
  · rw [Nat.min_eq_left c]
  · rw [Nat.min_eq_right (by omega), List.take_length, List.take_of_length_le (by omega)]
theorem cut_drop (xs : List V) {k : Int} (h : 0 ≤ k) : cutV xs (some k) none = xs.drop k.toNat := by
  unfold cutV HT.sIx
  simp only [if_neg (show ¬ k < 0 by omega)]
  by_cases c : k.toNat ≤ xs.length
  · rw [Nat.min_eq_left c, List.take_of_length_le (by rw [List.length_drop]; omega)]
  · rw [Nat.min_eq_right (by omega), List.drop_length, List.drop_of_length_le (by omega)]
    simp
end Bk

/-! ### methods of lists; loops that only look -/
namespace Bk
open PySem L2 PyProof.Rows
def BmK (K : PySem.W.Frag) (T : String) (r : V → List V → Hp → VK → Prop) (t : TA) (σ : St) (Q : VK) : VK := fun x H1 => tyV K T x H1 ∧ t σ H1 fun xs H2 => r x xs H2 Q
section
variable {K : PySem.W.Frag} {H H1 : Hp} {Q : VK} {σ : St} {T : String} {r : V → List V → Hp → VK → Prop} {to : TE} {t : TA} {a b : Addr} {xs ys : List V} {y : V} {tb : TS} {nx bk ct : St → Hp → Prop} {rt : VK}
theorem go_bm (q : to σ H (BmK K T r t σ Q)) : tBM K T r to t σ H Q := q
instance st_go_bm : Step (tBM K T r to t σ H Q) (to σ H (BmK K T r t σ Q)) := ⟨go_bm⟩
theorem go_bm0 (q : to σ H (BmK K T r tNil σ Q)) : tBM0 K T r to σ H Q := q
instance st_go_bm0 : Step (tBM0 K T r to σ H Q) (to σ H (BmK K T r tNil σ Q)) := ⟨go_bm0⟩
theorem go_bmL (h : H a = some (.lst xs)) (q : t σ H fun xs H2 => r (.ref a) xs H2 Q) : BmK K "list" r t σ Q (.ref a) H := ⟨.inl ⟨rfl, _, SqL.of h⟩, q⟩
theorem go_append (h : H a = some (.lst xs)) (hz : xs.length < sizeLine) (q : ∀ H1, Wr H a (.lst (xs ++ [y])) H1 → Q .non H1) : rAppend (.ref a) [y] H Q := ⟨a, xs, y, rfl, rfl, h, hz, wr_of h q⟩
theorem go_extend (h : H a = some (.lst xs)) (k : H b = some (.lst ys)) (hz : xs.length + ys.length ≤ sizeLine) (q : ∀ H1, Wr H a (.lst (xs ++ ys)) H1 → Q .non H1) : rExtend (.ref a) [.ref b] H Q := ⟨a, b, xs, ys, rfl, rfl, h, k, hz, wr_of h q⟩
theorem go_clear (h : H a = some (.lst xs)) (q : ∀ H1, Wr H a (.lst []) H1 → Q .non H1) : rClear (.ref a) [] H Q := ⟨a, xs, rfl, rfl, h, wr_of h q⟩
theorem go_dnew (q : ∀ p H1, New H p (.dK []) H1 → Q (.ref p) H1) : tDNewK σ H Q := new_of q
theorem go_call0 {sp : Sp} {E : St → XK} (q : sp [] H Q (E σ)) : tCall0 sp E σ H Q := q
instance st_go_call0 {sp : Sp} {E : St → XK} : Step (tCall0 sp E σ H Q) (sp [] H Q (E σ)) := ⟨go_call0⟩
theorem seq' {K : PySem.W.Frag} {H H1 : Hp} {a : Addr} {xs : List V} (h : SqL K H a xs) (s : Same H H1) : SqL K H1 a xs := s.seq h
theorem ne_none {u : HO} (n : H b = none) (h : H a = some u) : a ≠ b := ne_of_none h n
end
end Bk

/-! our own: loops, comprehensions, calls where an exception may be in hand (hot) or not (calm) -/
namespace Bk
open PySem L2 PyProof.Rows L2H HotX
/-- the exception in hand, p, and behind it none, or one of L that has none behind it -/
def Hot2 (A : Around) (p : Addr × Obj) (L : List (Addr × Obj)) : Prop :=
  A.handled = some (.ref p.1) ∧ ∃ (vs : Array Value) (c : Value), p.2.data = .fields vs ∧ vs[2]? = some c ∧ (c = .none ∨ ∃ q ∈ L, c = .ref q.1 ∧ ∃ ws : Array Value, q.2.data = .fields ws ∧ ws[2]? = some .none)
/-- .. in a heap -/
def At2 (A : Around) (x1 : Addr) (h : Heap) : Prop :=
  A.handled = some (.ref x1) ∧ ∃ (o : Obj) (vs : Array Value) (c : Value), h.get? x1 = some o ∧ o.data = .fields vs ∧ vs[2]? = some c ∧
    (c = .none ∨ ∃ (x0 : Addr) (o0 : Obj) (ws : Array Value), c = .ref x0 ∧ h.get? x0 = some o0 ∧ o0.data = .fields ws ∧ ws[2]? = some .none)
theorem Hot2.one {A : Around} {p : Addr × Obj} (h : Hot1 A p) : Hot2 A p [] := let ⟨a, vs, e, c⟩ := h; ⟨a, vs, .none, e, c, .inl rfl⟩
theorem Hot2.at {A : Around} {p : Addr × Obj} {L : List (Addr × Obj)} {h : Heap} (x : Hot2 A p L) (k : ∀ q ∈ p :: L, h.get? q.1 = some q.2) : At2 A p.1 h := by
  obtain ⟨a, vs, c, e, ec, y⟩ := x
  refine ⟨a, p.2, vs, c, k p List.mem_cons_self, e, ec, y.imp id ?_⟩
  rintro ⟨q, hq, rfl, ws, f, g⟩
  exact ⟨q.1, q.2, ws, rfl, k q (List.mem_cons_of_mem _ hq), f, g⟩
/-- where an object has a third field it stands; so in the next heap -/
theorem At2.keep {A : Around} {x1 : Addr} {h h' : Heap} (x : At2 A x1 h) (k : ∀ b (o : Obj) (vs : Array Value) (v : Value), h.get? b = some o → o.data = .fields vs → vs[2]? = some v → h'.get? b = some o) : At2 A x1 h' := by
  obtain ⟨a, o, vs, c, e, d, ec, y⟩ := x
  refine ⟨a, o, vs, c, k _ _ _ _ e d ec, d, ec, y.imp id ?_⟩
  rintro ⟨x0, o0, ws, rfl, f, g, z⟩
  exact ⟨x0, o0, ws, rfl, k _ _ _ _ f g z, g, z⟩
section
variable {prog : Program} {w : World} {A : Around} {E : Value → Shared → Prop} {s : Shared}
end
/-- it stands: pinned, or older than the entry -/
def Stands (X : Cx) (q : Addr × Obj) : Prop := q ∈ X.pn ∨ (X.s_0.heap.get? q.1 = some q.2 ∧ X.H_0 q.1 = none ∧ q.1 ∉ X.fs ∧ q.1 ∉ X.ex)
def HotY (X : Cx) : Prop := ∃ (p : Addr × Obj) (L : List (Addr × Obj)), Hot2 X.A p L ∧ ∀ q ∈ p :: L, Stands X q
def CoH (X : Cx) : Prop := X.calm = true ∨ HotY X
section
variable {X : Cx} {pins : List (Addr × Obj)} {σ : Bk.St} {H : Hp} {s : Shared}
theorem Stands.pin (I : Inv X pins σ H s) {p : Addr × Obj} (h : Stands X p) : s.heap.get? p.1 = some p.2 ∧ H p.1 = none := by
  rcases h with h | ⟨a, b, c, d⟩
  · have z := I.pin p (List.mem_append_left _ h)
    exact ⟨z.1, z.2.1⟩
  · exact ⟨I.base.keep _ _ a b c d, I.base.free _ _ a b d⟩
theorem HotY.at (c : HotY X) (I : Inv X pins σ H s) : ∃ x1, At2 X.A x1 s.heap := by
  obtain ⟨p, L, h, hp⟩ := c
  exact ⟨p.1, h.at fun q hq => ((hp q hq).pin I).1⟩
theorem HotY.of (c : HotC X) : HotY X := let ⟨p, h, k⟩ := c; ⟨p, [], .one h, fun q hq => by rw [List.mem_singleton.mp hq]; exact .inl k⟩
end

/-! ### what is walked, calm or hot -/
structure TurnY (P : Program) (w : World) (K : PySem.W.Frag) (tg : Expr) (J : It) (fp : List Addr) (it : Addr) (tn : Nat → Heap → Prop) : Prop where
  mem : it ∈ fp
  obj : ∀ i h, tn i h → ∀ b ∈ fp, ∃ o, h.get? b = some o ∧ ∀ v, o.data ≠ .cell v
  keep : ∀ i h h', tn i h → (∀ b ∈ fp, ∀ o, h.get? b = some o → h'.get? b = some o) → tn i h'
  item : ∀ (X : Cx), X.prog = P → X.w = w → X.K = K → CoH X → ∀ (i : Nat) (pins : List (Addr × Obj)) (s : Shared) (σ : Bk.St) (H : Hp) (E : Value → Shared → Prop), Inv X pins σ H s → (∀ b ∈ fp, FpOk X pins H b) → tn i s.heap → J.go i H →
    wpAny (model P w) X.A (pyNext (.ref it)) (fun r s1 => ∃ u, r = some u ∧ wpAny (model P w) X.A (letOwnedTupleGo tg (.ref it) u) (fun _ s2 => ∃ x H', Inv X pins σ H' s2 ∧ RelV x u ∧ J.yld i H x H' ∧ tn (i + 1) s2.heap ∧ ∀ b ∈ fp, H' b = none) E s1) E s
  done : ∀ (X : Cx), X.prog = P → X.w = w → X.K = K → CoH X → ∀ (i : Nat) (pins : List (Addr × Obj)) (s : Shared) (σ : Bk.St) (H : Hp) (E : Value → Shared → Prop), Inv X pins σ H s → (∀ b ∈ fp, FpOk X pins H b) → tn i s.heap → J.stop i H →
    wpAny (model P w) X.A (pyNext (.ref it)) (fun r s1 => r = none ∧ Inv X pins σ H s1) E s
  self : ∀ (A : Around) (i : Nat) (s : Shared) (Q : Value → Shared → Prop) (E : Value → Shared → Prop), tn i s.heap → Q (.ref it) s → wpAny (model P w) A (pyIter (.ref it)) Q E s
/-- an iterator has come -/
def PIEY (X : Cx) (pins : List (Addr × Obj)) (σ : Bk.St) (tg : Expr) (R : It → Hp → Prop) (itv : Value) (s2 : Shared) : Prop :=
  ∃ (it : Addr) (fp : List Addr) (tn : Nat → Heap → Prop) (J : It) (H' : Hp), itv = .ref it ∧ Inv X pins σ H' s2 ∧ TurnY X.prog X.w X.K tg J fp it tn ∧ tn 0 s2.heap ∧ (∀ b ∈ fp, FpOk X pins H' b) ∧ R J H'
structure PIY (X : Cx) (tg iter : Expr) (wi : TI) : Prop where
  run : ∀ (pins : List (Addr × Obj)) (s : Shared) (σ : Bk.St) (H : Hp) (R : It → Hp → Prop), Inv X pins σ H s → wi σ H R → wpAny (model X.prog X.w) X.A (eval iter X.env) (fun v s1 => wpAny (model X.prog X.w) X.A (pyIter v) (PIEY X pins σ tg R) X.xe s1) X.xe s
section
variable {X : Cx} {tg : Expr}
def iListY (K : PySem.W.Frag) (tl : TE) : TI := fun σ H R => tl σ H fun x H1 => ∃ a, x = .ref a ∧ ∃ xs, SqL K H1 a xs ∧ R (Itl K a) H1
end
end Bk

namespace Bk
open PySem L2 PyProof.Rows L2H HotX
section
variable {X : Cx} {tg : Expr}
end
end Bk

/-! our own: defs called while a known exception is in hand; try suites; facts of classes by instances -/
namespace Bk
open PySem L2 PyProof.Rows L2H HotX

/-! ### facts of the text, by instances -/
class ClsF (K : PySem.W.Frag) (C : Addr) : Prop where h : Cls K C
class NoAF (K : PySem.W.Frag) (C : Addr) (f : Str) : Prop where h : NoAttr K C f
class ExcF (K : PySem.W.Frag) (D : Addr) : Prop where h : ExcC K D
class KitF (K : PySem.W.Frag) (D c : Value) (b : outParam Bool) : Prop where h : PySem.W.kitOne K D c = some b
class ExmF (K : PySem.W.Frag) (D c : Value) (b : outParam Bool) : Prop where h : PySem.W.exmOne K D c = some b

section
variable {K : PySem.W.Frag} {C D : Addr} {b : Bool}
end

/-! ### a known exception in hand -/
/-- behind the exception stands one of L, or none -/
def Behind (c : Value) (L : List (Addr × Obj)) : Prop := c = .none ∨ ∃ q ∈ L, c = .ref q.1 ∧ ∃ ws : Array Value, q.2.data = .fields ws ∧ ws[2]? = some .none
structure HotP (X : Cx) (e D : Addr) : Prop where
  ex : ∃ (oe : Obj) (L : List (Addr × Obj)), Hot2 X.A (e, oe) L ∧ (∀ q ∈ (e, oe) :: L, q ∈ X.pn) ∧ Zc (.ref D) none oe
  c : ExcC X.K D
theorem HotP.hot {X : Cx} {e D : Addr} (h : HotP X e D) : HotY X := let ⟨oe, L, a, b, _⟩ := h.ex; ⟨(e, oe), L, a, fun q hq => .inl (b q hq)⟩
theorem HotP.of {X : Cx} {a D : Addr} {oe : Obj} {c : Value} {L : List (Addr × Obj)} (hA : X.A.handled = some (.ref a)) (hz : C.Zx (.ref D) none c oe) (hf : ∃ vs, oe.data = .fields vs) (hb : Behind c L) (hp : ∀ q ∈ (a, oe) :: L, q ∈ X.pn) (cc : ExcC X.K D) : HotP X a D := by
  obtain ⟨vs, hv⟩ := hf
  exact ⟨⟨oe, L, ⟨hA, vs, c, hv, hz.2 vs hv, hb⟩, hp, hz.1⟩, cc⟩
theorem HotP.suite {X : Cx} {a D : Addr} {oe : Obj} {pn : List (Addr × Obj)} (hz : L2N.Zn (.ref D) none oe) (hf : ∃ vs, oe.data = .fields vs) (c : ExcC X.K D) : HotP (X.suite a ((a, oe) :: pn)) a D :=
  .of (L := []) (c := .none) rfl ⟨hz.zc, hz.2.2⟩ hf (.inl rfl) (fun q hq => by rw [List.mem_singleton.mp hq]; exact List.mem_cons_self) c
/-- isinstance, also of the exception in hand -/
def rIsET (K : PySem.W.Frag) (D e : Addr) : List V → Hp → VK → Prop := fun xs H Q => ∃ (tp : Addr) (cs : List V) (us : List Value) (b : Bool), xs = [.ref e, .ref tp] ∧ H tp = some (.tup cs) ∧ Paired ClsV cs us ∧ PySem.W.kitAny K (.ref D) us = some b ∧ Q (.bl b) H
def rIsiH (K : PySem.W.Frag) (D e : Addr) : List V → Hp → VK → Prop := fun xs H Q => rIsE K D e xs H Q ∨ rIsET K D e xs H Q
section
variable {K : PySem.W.Frag} {D e C : Addr} {H : Hp} {Q : VK} {b : Bool}
theorem go_isX [k : KitF K (.ref D) (.ref C) b] (q : Q (.bl b) H) : rIsiH K D e [.ref e, .ref C] H Q := .inl ⟨.ref C, .ref C, b, rfl, fun u r => r, k.h, q⟩
theorem go_isXt {T : String} [k : KitF K (.ref D) (.type T) b] (q : Q (.bl b) H) : rIsiH K D e [.ref e, .ty T] H Q := .inl ⟨.ty T, .type T, b, rfl, fun u r => r, k.h, q⟩
end

/-! ### defs called so -/
/-- the context of such a def's body -/
def cxP (P : Program) (w : World) (K : PySem.W.Frag) (mg : Str → Option Value) (base : Heap) (N : List Str) (qual : Str) (scope : Scope) (f : Addr) (cd : Value) (A : Around) (outer : List Env) (s : Shared) (H : Hp) (E : XK) (pl : List (Addr × Obj)) : Cx :=
  { cxOf (L2N.CX P w) P w K mg base N qual scope f cd A outer s H E with calm := false, pn := pl }
structure FnP (P : Program) (w : World) (K : PySem.W.Frag) (mg : Str → Option Value) (base : Heap) (k : Nat) (f : Addr) (fd : FuncData) (ps : List Str) (sp : Addr → Addr → Sp) : Prop where
  len : ∀ e D vs H Q E, sp e D vs H Q E → vs.length = ps.length
  run : ∀ (A : Around) (outer : List Env) (s : Shared) (H : Hp) (args : Args) (us : List Value) (vs : List V) (Q : VK) (E : XK) (p : Addr × Obj) (L : List (Addr × Obj)) (D : Addr), ExcC K D → Zc (.ref D) none p.2 → RoomH k A → Hot2 A p L → (∀ q ∈ p :: L, PinOk outer H s q) → Env0 P w K mg base A outer s H →
    BindsTo s fd args (ps.zip us) → Vals vs us → sp p.1 D vs H Q E → codeAny (model P w) A (.call (.ref f) args) (CR (L2N.CX P w) outer P w H s Q E) s
section
variable {X : Cx} {k j : Nat} {f C ex D : Addr} {fd : FuncData} {ps : List Str} {sp : Addr → Addr → Sp} {W : WX} {x m : Str} {q pos apos : Pos} {e o : Expr} {es : List Expr} {ta : TE} {t : TA}
def tCallX (sp : Addr → Addr → Sp) (ex D : Addr) (E : Bk.St → XK) (t : TA) : TE := fun σ H Q => t σ H fun vs H1 => sp ex D vs H1 Q (E σ)
/-- an own method that stands for the class at C -/
structure MethOkX (X : Cx) (m : Str) (k : Nat) (C : Addr) (sp : Addr → Addr → Sp) : Prop where
  c : Cls X.K C
  ex : ∃ f fd ps, Meth X.K C m f ∧ FnP X.prog X.w X.K X.mg X.base k f fd ps sp ∧ Binds X.K fd ps []
def tMethX (m : Str) (C : Addr) (sp : Addr → Addr → Sp) (ex D : Addr) (E : Bk.St → XK) (ta : TE) (t : TA) : TE := fun σ H Q => ta σ H fun x H1 => ∃ a dx fs, x = .ref a ∧ H1 a = some (.ins C dx fs) ∧ fs.lookup m = none ∧ t σ H1 fun vs H2 => sp ex D (x :: vs) H2 Q (E σ)
end

/-! ### try -/
/-- a suite that knows what it has: e the exception, C its class -/
def tSu (K : PySem.W.Frag) (t : Addr → Addr → TS) : Addr → Value → Option Addr → TS := fun e cls d D σ H => ∃ C, cls = .ref C ∧ d = none ∧ ExcC K C ∧ t e C D σ H
theorem suX {X : Cx} {ss : List Stmt} {t : Addr → Addr → TS} (h : ∀ (a C : Addr) (oe : Obj) (pn : List (Addr × Obj)), HotP (X.suite a ((a, oe) :: pn)) a C → PSs (X.suite a ((a, oe) :: pn)) ss (t a C)) :
    ∀ (a : Addr) (oe : Obj) (cls : Value) (d : Option Addr) (pn : List (Addr × Obj)), L2N.Zn cls d oe → (∃ vs, oe.data = .fields vs) → PSs (X.suite a ((a, oe) :: pn)) ss (tSu X.K t a cls d) := by
  refine fun a oe cls d pn hz hf => ⟨fun pins s σ H D I q => ?_⟩
  obtain ⟨C, rfl, rfl, hC, q⟩ := q
  exact (h a C oe pn (.suite hz hf hC)).run pins s σ H D I q
def tTryAs (K : PySem.W.Frag) (c : Value) (i : Nat) (tb : WX → TS) (ts : Addr → Addr → TS) (Wout : WX) : TS := fun D σ H => tb (wAs K c i (tSu K ts) Wout D) D σ H
def tTryMany (K : PySem.W.Frag) (tb : WX → TS) (l : List (Value × (Addr → Addr → TS))) (Wout : WX) : TS := fun D σ H => tb (wMany K Wout D (l.map fun p => (p.1, tSu K p.2))) D σ H
inductive HdsX (X : Cx) : List ExceptHandler → List (Value × (Addr → Addr → TS)) → Prop
  | nil : HdsX X [] []
  | cons {x : Str} {c : Value} {ts : Addr → Addr → TS} {b0 : Stmt} {suite : List Stmt} {np pos' : Pos} {hds : List ExceptHandler} {l : List (Value × (Addr → Addr → TS))} (hc : Names X x c)
      (hsu : ∀ (a C : Addr) (oe : Obj) (pn : List (Addr × Obj)), HotP (X.suite a ((a, oe) :: pn)) a C → PSs (X.suite a ((a, oe) :: pn)) (b0 :: suite) (ts a C)) (r : HdsX X hds l) :
      HdsX X (.ExceptHandler (some (.Name x np)) none (b0 :: suite) pos' :: hds) ((c, ts) :: l)
theorem HdsX.ok {X : Cx} {hds : List ExceptHandler} {l : List (Value × (Addr → Addr → TS))} (h : HdsX X hds l) : L2N.HdsOk X hds (l.map fun p => (p.1, tSu X.K p.2)) := by
  induction h with
  | nil => exact .nil
  | cons hc hsu r ih => exact .cons hc (suX hsu) ih
section
variable {K : PySem.W.Frag} {σ : Bk.St} {H : Hp} {Q : VK} {D : Ends} {nx bk ct : Bk.St → Hp → Prop} {rt : VK} {c cls : Value} {C e : Addr} {i : Nat} {ts : Addr → Value → Option Addr → TS} {t : Addr → Addr → TS} {tb : WX → TS} {Wout : WX} {E : XK} {d : Option Addr} {l : List (Value × (Addr → Addr → TS))} {l' : List (Value × (Addr → Value → Option Addr → TS))}
theorem go_tryAs (q : tb (wAs K c i (tSu K t) Wout D) D σ H) : tTryAs K c i tb t Wout D σ H := q
theorem go_WM (q : E cls d H) : WM E cls d σ H := q
instance st_go_WM : Step (WM E cls d σ H) (E cls d H) := ⟨go_WM⟩
theorem go_asT [k : ExmF K (.ref C) c true] [x : ExcF K C] (q : ∀ e, H e = none → t e C ⟨fun σ' H' => nx (σ'.set i none) H', rt, fun σ' H' => bk (σ'.set i none) H', fun σ' H' => ct (σ'.set i none) H'⟩ (σ.set i (some (.ref e))) H) : wAs K c i (tSu K t) Wout ⟨nx, rt, bk, ct⟩ (.ref C) none σ H :=
  ⟨true, k.h, fun _ e he => ⟨C, rfl, rfl, x.h, q e he⟩, fun z => Bool.noConfusion z⟩
theorem go_asF [k : ExmF K cls c false] (q : Wout cls d σ H) : wAs K c i ts Wout D cls d σ H := ⟨false, k.h, fun z => Bool.noConfusion z, fun _ => q⟩
theorem go_manyT [k : ExmF K (.ref C) c true] [x : ExcF K C] (q : ∀ e, H e = none → t e C D σ H) : wMany K Wout D ((c, tSu K t) :: l') (.ref C) none σ H := ⟨true, k.h, fun _ e he => ⟨C, rfl, rfl, x.h, q e he⟩, fun z => Bool.noConfusion z⟩
theorem go_manyF [k : ExmF K cls c false] (q : wMany K Wout D l' cls d σ H) : wMany K Wout D ((c, ts) :: l') cls d σ H := ⟨false, k.h, fun z => Bool.noConfusion z, fun _ => q⟩
theorem go_manyN (q : Wout cls d σ H) : wMany K Wout D [] cls d σ H := q
instance st_go_manyN : Step (wMany K Wout D [] cls d σ H) (Wout cls d σ H) := ⟨go_manyN⟩
end

/-! ### steps: objects, calls, loops in hot code -/
/-- a list walked, calm or hot -/
def ListYK (K : PySem.W.Frag) (R : It → Hp → Prop) : VK := fun x H1 => ∃ a, x = .ref a ∧ ∃ xs, SqL K H1 a xs ∧ R (Itl K a) H1
section
variable {K : PySem.W.Frag} {σ : Bk.St} {H H1 : Hp} {Q : VK} {tl ta tv : TE} {R : It → Hp → Prop} {a C dx : Addr} {xs : List V} {fs : List (Str × V)} {f m : Str} {v y : V} {nx bk ct : Bk.St → Hp → Prop} {rt : VK} {E : Bk.St → XK} {t : TA} {sp : Sp} {alts : List (Addr × Sp)}
theorem go_listY (q : tl σ H (ListYK K R)) : iListY K tl σ H R := q
instance st_go_listY : Step (iListY K tl σ H R) (tl σ H (ListYK K R)) := ⟨go_listY⟩
theorem go_listYL (h : H a = some (.lst xs)) (q : R (Itl K a) H) : ListYK K R (.ref a) H := ⟨a, rfl, xs, SqL.of h, q⟩
def FldK (K : PySem.W.Frag) (f : Str) (Q : VK) : VK := fun x H1 => ∃ a C dx fs v, x = .ref a ∧ H1 a = some (.ins C dx fs) ∧ Cls K C ∧ NoAttr K C f ∧ fs.lookup f = some v ∧ Q v H1
theorem go_fld (q : ta σ H (FldK K f Q)) : tFld K ta f σ H Q := q
instance st_go_fld : Step (tFld K ta f σ H Q) (ta σ H (FldK K f Q)) := ⟨go_fld⟩
theorem go_FldK (h : H a = some (.ins C dx fs)) (c : ClsF K C) (n : NoAF K C f) (l : fs.lookup f = some v) (q : Q v H) : FldK K f Q (.ref a) H := ⟨a, C, dx, fs, v, rfl, h, c.h, n.h, l, q⟩
def SFldK (K : PySem.W.Frag) (f : Str) (y : V) (σ : Bk.St) (nx : Bk.St → Hp → Prop) : VK := fun x H2 => ∃ a C dx fs, x = .ref a ∧ H2 a = some (.ins C dx fs) ∧ Cls K C ∧ NoAttr K C f ∧ fs.length < 1000 ∧ nx σ (upd H2 a (.ins C dx (putF f y fs)))
theorem go_sfld (q : tv σ H fun y H1 => ta σ H1 (SFldK K f y σ nx)) : sFld K ta tv f ⟨nx, rt, bk, ct⟩ σ H := q
instance st_go_sfld : Step (sFld K ta tv f ⟨nx, rt, bk, ct⟩ σ H) (tv σ H fun y H1 => ta σ H1 (SFldK K f y σ nx)) := ⟨go_sfld⟩
theorem go_SFldK (h : H a = some (.ins C dx fs)) (c : ClsF K C) (n : NoAF K C f) (hl : fs.length < 1000) {fs' : List (Str × V)} (e : putF f y fs = fs') (q : ∀ H1, Wr H a (.ins C dx fs') H1 → nx σ H1) : SFldK K f y σ nx (.ref a) H := by
  subst e
  exact ⟨a, C, dx, fs, rfl, h, c.h, n.h, hl, wr_of h q⟩
def MethK (m : Str) (alts : List (Addr × Sp)) (E : Bk.St → XK) (t : TA) (σ : Bk.St) (Q : VK) : VK := fun x H1 => ∃ a dx fs C sp, x = .ref a ∧ H1 a = some (.ins C dx fs) ∧ fs.lookup m = none ∧ (C, sp) ∈ alts ∧ t σ H1 fun vs H2 => sp (x :: vs) H2 Q (E σ)
theorem go_meth (q : ta σ H (MethK m alts E t σ Q)) : tMethP m alts E ta t σ H Q := q
instance st_go_meth : Step (tMethP m alts E ta t σ H Q) (ta σ H (MethK m alts E t σ Q)) := ⟨go_meth⟩
/-- the class at hand: the n-th of those that have the method -/
theorem go_MethK (n : Nat) (h : H a = some (.ins C dx fs)) (l : fs.lookup m = none) (hn : alts[n]? = some (C, sp)) (q : t σ H fun vs H2 => sp (.ref a :: vs) H2 Q (E σ)) : MethK m alts E t σ Q (.ref a) H := ⟨a, dx, fs, C, sp, rfl, h, l, List.mem_of_getElem? hn, q⟩
def MakeK (C : Addr) (sp : Sp) (E : XK) (Q : VK) : List V → Hp → Prop := fun vs H1 => ∀ x dx, H1 x = none → H1 dx = none → dx ≠ x → sp (.ref x :: vs) (upd (upd H1 dx (.own x)) x (.ins C dx [])) (fun v H2 => v = .non ∧ Q (.ref x) H2) E
theorem go_make (q : t σ H (MakeK C sp (E σ) Q)) : tMakeE C sp E t σ H Q := q
instance st_go_make : Step (tMakeE C sp E t σ H Q) (t σ H (MakeK C sp (E σ) Q)) := ⟨go_make⟩
theorem go_MakeK {vs : List V} {E : XK} (q : ∀ dx H1 x H2, New H dx (.own x) H1 → New H1 x (.ins C dx []) H2 → sp (.ref x :: vs) H2 (fun v H3 => v = .non ∧ Q (.ref x) H3) E) : MakeK C sp E Q vs H :=
  fun x dx hx hd ne => q dx _ x _ ⟨hd, rfl⟩ ⟨by rw [upd_ne (Ne.symm ne)]; exact hx, rfl⟩
theorem go_callX {sp : Addr → Addr → Sp} {ex D : Addr} (q : t σ H fun vs H1 => sp ex D vs H1 Q (E σ)) : tCallX sp ex D E t σ H Q := q
instance st_go_callX {sp : Addr → Addr → Sp} {ex D : Addr} : Step (tCallX sp ex D E t σ H Q) (t σ H fun vs H1 => sp ex D vs H1 Q (E σ)) := ⟨go_callX⟩
def MethXK (m : Str) (C : Addr) (sp : Addr → Addr → Sp) (ex D : Addr) (E : XK) (t : TA) (σ : Bk.St) (Q : VK) : VK := fun x H1 => ∃ a dx fs, x = .ref a ∧ H1 a = some (.ins C dx fs) ∧ fs.lookup m = none ∧ t σ H1 fun vs H2 => sp ex D (x :: vs) H2 Q E
theorem go_methX {sp : Addr → Addr → Sp} {ex D : Addr} (q : ta σ H (MethXK m C sp ex D (E σ) t σ Q)) : tMethX m C sp ex D E ta t σ H Q := q
instance st_go_methX {sp : Addr → Addr → Sp} {ex D : Addr} : Step (tMethX m C sp ex D E ta t σ H Q) (ta σ H (MethXK m C sp ex D (E σ) t σ Q)) := ⟨go_methX⟩
theorem go_MethXK {sp : Addr → Addr → Sp} {ex D : Addr} {E : XK} (h : H a = some (.ins C dx fs)) (l : fs.lookup m = none) (q : t σ H fun vs H2 => sp ex D (.ref a :: vs) H2 Q E) : MethXK m C sp ex D E t σ Q (.ref a) H := ⟨a, dx, fs, rfl, h, l, q⟩
-- dicts
def DGetK (Q : VK) (x : V) : VK := fun y H2 => ∃ a v, x = .ref a ∧ DGet H2 a y (some v) ∧ Q v H2
theorem go_dget {ty : TE} (q : ta σ H fun x H1 => ty σ H1 (DGetK Q x)) : tDGet ta ty σ H Q := q
instance st_go_dget {ty : TE} : Step (tDGet ta ty σ H Q) (ta σ H fun x H1 => ty σ H1 (DGetK Q x)) := ⟨go_dget⟩
theorem go_DGetS {kvs : List (Key × V)} {k : Str} (h : H a = some (.dK kvs)) (l : valV kvs (.inr k) = some v) (q : Q v H) : DGetK Q (.ref a) (.str k) H := ⟨a, v, rfl, l ▸ DGet.k (k := .inr k) h, q⟩
def DPutK (v x : V) (σ : Bk.St) (nx : Bk.St → Hp → Prop) : VK := fun y H3 => ∃ a H4, x = .ref a ∧ DPut H3 a y v H4 ∧ nx σ H4
theorem go_dput {td ty : TE} (q : tv σ H fun v H1 => td σ H1 fun x H2 => ty σ H2 (DPutK v x σ nx)) : sDPut td ty tv ⟨nx, rt, bk, ct⟩ σ H := q
instance st_go_dput {td ty : TE} : Step (sDPut td ty tv ⟨nx, rt, bk, ct⟩ σ H) (tv σ H fun v H1 => td σ H1 fun x H2 => ty σ H2 (DPutK v x σ nx)) := ⟨go_dput⟩
theorem go_DPutS {kvs kvs' : List (Key × V)} {k : Str} (h : H a = some (.dK kvs)) (hl : kvs.length < 1000) (e : putK kvs (.inr k) v = kvs') (q : ∀ H1, Wr H a (.dK kvs') H1 → nx σ H1) : DPutK v (.ref a) σ nx (.str k) H := by
  subst e
  exact ⟨a, _, rfl, DPut.k (k := .inr k) h (by rw [sizeLine_eq]; omega), wr_of h q⟩
def DispK (p : Addr) (Q : VK) : List (V × V) → Hp → Prop := fun ps H2 => H2 p = some (.dK []) ∧ ∃ kvs : List (Key × V), ps = kvs.map (fun kv => (kV kv.1, kv.2)) ∧ kvs.length ≤ 15 ∧ Q (.ref p) (upd H2 p (.dK (mergeK [] kvs)))
theorem go_disp {trs : List (TE × TE)} (q : ∀ p H1, New H p (.dK []) H1 → tPairs trs σ H1 (DispK p Q)) : tDisp trs σ H Q := fun p hp => q p _ ⟨hp, rfl⟩
theorem go_pairs {tk tv : TE} {r : List (TE × TE)} {QP : List (V × V) → Hp → Prop} (q : tk σ H fun x H1 => tv σ H1 fun y H2 => tPairs r σ H2 fun ps H3 => QP ((x, y) :: ps) H3) : tPairs ((tk, tv) :: r) σ H QP := q
instance st_go_pairs {tk tv : TE} {r : List (TE × TE)} {QP : List (V × V) → Hp → Prop} : Step (tPairs ((tk, tv) :: r) σ H QP) (tk σ H fun x H1 => tv σ H1 fun y H2 => tPairs r σ H2 fun ps H3 => QP ((x, y) :: ps) H3) := ⟨go_pairs⟩
theorem go_pairs0 {QP : List (V × V) → Hp → Prop} (q : QP [] H) : tPairs [] σ H QP := q
instance st_go_pairs0 {QP : List (V × V) → Hp → Prop} : Step (tPairs [] σ H QP) (QP [] H) := ⟨go_pairs0⟩
theorem go_DispK (kvs : List (Key × V)) {kvs' : List (Key × V)} {p : Addr} {ps : List (V × V)} (h : H p = some (.dK [])) (e : ps = kvs.map (fun kv => (kV kv.1, kv.2))) (hl : kvs.length ≤ 15) (m : mergeK [] kvs = kvs') (q : ∀ H1, Wr H p (.dK kvs') H1 → Q (.ref p) H1) : DispK p Q ps H := by
  subst m
  exact ⟨h, kvs, e, hl, wr_of h q⟩
-- a pair of names
def ParK (i j : Nat) (σ : Bk.St) (nx : Bk.St → Hp → Prop) : List V → Hp → Prop := fun vs H1 => ∃ v w, vs = [v, w] ∧ nx ((σ.set i (some v)).set j (some w)) H1
theorem go_par {i j : Nat} (q : t σ H (ParK i j σ nx)) : tPar i j t ⟨nx, rt, bk, ct⟩ σ H := q
instance st_go_par {i j : Nat} : Step (tPar i j t ⟨nx, rt, bk, ct⟩ σ H) (t σ H (ParK i j σ nx)) := ⟨go_par⟩
theorem go_ParK {i j : Nat} {σ' : Bk.St} (h : (σ.set i (some v)).set j (some y) = σ') (q : nx σ' H) : ParK i j σ nx [v, y] H := by subst h; exact ⟨v, y, rfl, q⟩
-- a place of a list written
def SubK (r : TSet) (v : V) (o : V) (σ : Bk.St) (nx : Bk.St → Hp → Prop) : VK := fun i H2 => r o i v H2 fun H3 => nx σ H3
theorem go_sub_ {to ti : TE} {r : TSet} (q : to σ H fun o H1 => ti σ H1 (SubK r v o σ nx)) : gSub to ti r v σ H nx := q
instance st_go_sub_ {to ti : TE} {r : TSet} : Step (gSub to ti r v σ H nx) (to σ H fun o H1 => ti σ H1 (SubK r v o σ nx)) := ⟨go_sub_⟩
theorem go_setL {i : Int} {j : Nat} (h : H a = some (.lst xs)) (hi : ixN xs.length i = some j) (q : ∀ H1, Wr H a (.lst (xs.set j v)) H1 → nx σ H1) : SubK rSetL v (.ref a) σ nx (.int i) H := ⟨a, xs, i, j, rfl, rfl, h, hi, wr_of h q⟩
end
end Bk

/-! our own: try statements whose exceptions may have another one behind them; suites that raise -/
namespace Bk
open PySem PySem.Spec L2 PyProof.Rows L2H HotX
section
variable {X : Cx} {pins : List (Addr × Obj)} {Wout W : WX}
/-- an exception has come down in X: a, of class cls, with c behind it -/
structure Land (X : Cx) (pins L : List (Addr × Obj)) (a : Addr) (cls : Value) (d : Option Addr) (c : Value) (Wout : WX) (σ : Bk.St) (H : Hp) (s : Shared) : Prop where
  beh : Behind c L
  na : H a = none
  kin : X.K.In s.heap
  ok : X.Ok
  test : ∃ oe, s.heap.get? a = some oe ∧ oe.cls = cls ∧ Inv (X.suite a ((a, oe) :: (X.pn ++ (pins ++ L)))) [] σ H s
  again : ∀ {A' : Around} {E : Value → Shared → Prop} {Q : Unit → Shared → Prop}, (∀ h oe, C.Zx cls d c oe → (∃ vs, oe.data = .fields vs) → Inv (X.suite a ((a, oe) :: (X.pn ++ (pins ++ L)))) [] σ H { s with heap := h } → Q () { s with heap := h }) →
    wpAny (model X.prog X.w) A' (setFlight (.ref a) none) Q E s
  pass : Wout cls d σ H → ∀ Q, wpAny (model X.prog X.w) X.A (handleBy (.ref a) X.env []) Q X.xe s
end
/-- the clauses: suites that may raise what Wout takes -/
inductive HdsR (X : Cx) (nn : Bool) (Wout : WX) : List ExceptHandler → List (Value × (Addr → Addr → TS)) → Prop
  | nil : HdsR X nn Wout [] []
  | cons {x : Str} {c : Value} {ts : Addr → Addr → TS} {b0 : Stmt} {suite : List Stmt} {np pos' : Pos} {hds : List ExceptHandler} {l : List (Value × (Addr → Addr → TS))} (hc : Names X x c)
      (hsu : ∀ (a C : Addr) (oe : Obj) (pn : List (Addr × Obj)), HotP (suiteX X a ((a, oe) :: pn)) a C → (nn = true → HotC (suiteX X a ((a, oe) :: pn))) → Bk.C.Takes (suiteX X a ((a, oe) :: pn)) Wout → PSs (suiteX X a ((a, oe) :: pn)) (b0 :: suite) (ts a C)) (r : HdsR X nn Wout hds l) :
      HdsR X nn Wout (.ExceptHandler (some (.Name x np)) none (b0 :: suite) pos' :: hds) ((c, ts) :: l)
section
variable {X : Cx} {x n : Str} {c : Value} {i : Nat} {body suite : List Stmt} {b0 : Stmt} {np pos pos' : Pos} {tb : WX → TS} {Wout : WX} {nn : Bool}
end
/-! ### raised while another one is in hand; defs that let such out -/
section
variable {X : Cx} {k j : Nat} {f c0 : Addr} {fd : FuncData} {ps : List Str} {sp : Sp} {W : WX} {x m : Str} {p p2 pos pos' apos : Pos} {e o : Expr} {es : List Expr} {ta : TE} {t : TA}
theorem raised {pins : List (Addr × Obj)} {σ : Bk.St} {H : Hp} {sI s' : Shared} {a : Addr} {oe : Obj} {vs : Array Value} {cls : Value} {d : Option Addr} {q : Addr × Obj} {ws : Array Value} (I : Inv X pins σ H sI) (st : ∀ b o, sI.heap.get? b = some o → s'.heap.get? b = some o) (new : sI.heap.get? a = none) (he : s'.heap.get? a = some oe)
    (hz : C.Zx cls d (.ref q.1) oe) (hd : oe.data = .fields vs) (h1 : vs[1]? = some .none) (hq : q ∈ X.pn) (qd : q.2.data = .fields ws) (q2 : ws[2]? = some .none) (rest : H a = none ∧ s'.os = sI.os ∧ AllBare s'.gens) (w : W cls d σ H) : C.XE X W (.ref a) s' := by
  obtain ⟨g1, g2, g3, g4, g5⟩ := I.pin q (List.mem_append_left _ hq)
  have nf : q.1 ∉ frs X.stack := fun z => (List.mem_cons.mp (I.stkSub _ z)).elim g3 g4
  refine ⟨a, PySem.W.hideAll sI.heap (frs X.stack), sI, pins, σ, H, cls, d, .ref q.1, rfl, ⟨I, fun b o e hb => PySem.W.hideAll_get _ e hb, Heap.UpToSlots.of_keeps st⟩,
    .inl ⟨fun b o e => st b o (PySem.W.of_hideAll _ e), ?_, ?_, oe, vs, he, hz, hd, h1⟩, ⟨.inr ⟨q, ws, rfl, PySem.W.hideAll_get _ g1 nf, g2, qd, q2⟩, fun z => nomatch z⟩, rest, w⟩
  · cases y : (PySem.W.hideAll sI.heap (frs X.stack)).get? a with
    | none => rfl
    | some o => have z := PySem.W.of_hideAll _ y; rw [new] at z; cases z
  · exact Heap.FunFrames.of_keeps (fun b o e _ => ⟨o, st b o e, rfl⟩) (funFrames_none I.stack fun b hb => PySem.W.hideAll_none _ hb)
end
end Bk

/-! our own: an exception kept beyond its suite; a call of one of a list's defs -/
namespace Bk
open PySem PySem.Spec L2 PyProof.Rows L2H HotX
/-- an exception that is kept: it stands, it is no longer in hand -/
structure HeldP (X : Cx) (e D : Addr) : Prop where
  ex : ∃ (oe : Obj) (vs : Array Value), (e, oe) ∈ X.pn ∧ oe.data = .fields vs ∧ Zc (.ref D) none oe
  c : ExcC X.K D
/-! ### defs that are handed such a one -/
def cxK (P : Program) (w : World) (K : PySem.W.Frag) (mg : Str → Option Value) (base : Heap) (N : List Str) (qual : Str) (scope : Scope) (f : Addr) (cd : Value) (A : Around) (outer : List Env) (s : Shared) (H : Hp) (E : XK) (p : Addr × Obj) : Cx :=
  { cxOf (L2N.CX P w) P w K mg base N qual scope f cd A outer s H E with pn := [p] }
structure FnK (P : Program) (w : World) (K : PySem.W.Frag) (mg : Str → Option Value) (base : Heap) (k : Nat) (f : Addr) (fd : FuncData) (ps : List Str) (sp : Addr → Addr → Sp) : Prop where
  len : ∀ e D vs H Q E, sp e D vs H Q E → vs.length = ps.length
  run : ∀ (A : Around) (outer : List Env) (s : Shared) (H : Hp) (args : Args) (us : List Value) (vs : List V) (Q : VK) (E : XK) (p : Addr × Obj) (D : Addr), ExcC K D → Zc (.ref D) none p.2 → (∃ ws : Array Value, p.2.data = .fields ws) → Room k A → PinOk outer H s p → Env0 P w K mg base A outer s H →
    BindsTo s fd args (ps.zip us) → Vals vs us → sp p.1 D vs H Q E → codeAny (model P w) A (.call (.ref f) args) (CR (L2N.CX P w) outer P w H s Q E) s
section
variable {X : Cx} {k j : Nat} {f ex D : Addr} {fd : FuncData} {ps : List Str} {sp : Addr → Addr → Sp} {W : WX} {x m : Str} {q pos apos : Pos} {e o : Expr} {es : List Expr} {ta : TE} {t : TA}
/-! ### a call of one of a list's defs -/
def tCallL (sps : List (Addr × Sp)) (ix : TE) (E : Bk.St → XK) (t : TA) : TE := fun σ H Q => ix σ H fun x H1 => ∃ f sp, (f, sp) ∈ sps ∧ x = .ref f ∧ t σ H1 fun vs H2 => sp vs H2 Q (E σ)
structure LOk (X : Cx) (j : Nat) (p : Addr × Sp) : Prop where
  ex : ∃ k fd ps, FnOk X.prog X.w X.K X.mg X.base (L2N.CX X.prog X.w) k p.1 fd ps p.2 ∧ Binds X.K fd ps [] ∧ k ≤ j
  kp : PySem.W.keepIn X.K (.ref p.1) = true
theorem LOk.mk' {f f' : Addr} {y : Str} {sp : Sp} (h1 : X.mg y = some (.ref f')) (h2 : X.mg y = some (.ref f)) (F : FnOk X.prog X.w X.K X.mg X.base (L2N.CX X.prog X.w) k f fd ps sp) (hb : Binds X.K fd ps []) (hj : k ≤ j) (kp : PySem.W.keepIn X.K (.ref f) = true) : LOk X j (f', sp) := by
  obtain rfl : f' = f := Value.ref.inj (Option.some.inj (h1.symm.trans h2))
  exact ⟨⟨k, fd, ps, F, hb, hj⟩, kp⟩
def tNever : TE := fun _ _ _ => False
end
/-! ### a text split, a text several times -/
def rSplitP : V → List V → Hp → VK → Prop := fun x xs H Q => ∃ a b, x = .str a ∧ xs = [.str b] ∧ (b.length == 0) = false ∧ a.length + 2 ≤ sizeLine ∧ rNewStrs (Txt.split a b) H Q
def rMulS : R2 := fun x y H Q => ∃ (z : Str) (n : Int), x = .str z ∧ y = .int n ∧ (2 ≤ n ∧ n ≤ 1000) ∧ (1 ≤ z.length ∧ z.length ≤ 1000) ∧ (⟨(List.replicate n.toNat z.cps).foldl (· ++ ·) #[]⟩ : Str).length ≤ sizeLine ∧ Q (.str ⟨(List.replicate n.toNat z.cps).foldl (· ++ ·) #[]⟩) H
/-! ### a text's index -/
def rIndexS : V → List V → Hp → VK → Prop := fun x xs H Q => ∃ a b i rest, x = .str a ∧ xs = [.str b] ∧ Builtin.Str.occurrences a b 0 a.length 1 = i :: rest ∧ Q (.int (i : Nat)) H
/-! ### try, the exception kept in another name, and what comes behind -/
/-- slot i: the clause's name; ts the suite; t0 what comes behind, t1 that with the exception -/
def tKeep (K : PySem.W.Frag) (c : Value) (i : Nat) (tb : WX → TS) (ts : TS) (t0 : TS) (t1 : Addr → Addr → TS) (Wout : WX) : TS := fun D σ H =>
  tb (fun cls d σ' H' => ∃ b, PySem.W.exmOne K cls c = some b ∧ (b = true → ∀ a, H' a = none → ∃ C, cls = .ref C ∧ d = none ∧ ExcC K C ∧ ts ⟨fun σ6 H6 => t1 a C D (σ6.set i none) H6, fun _ _ => False, F0, F0⟩ (σ'.set i (some (.ref a))) H') ∧ (b = false → Wout cls d σ' H')) { D with nx := t0 D } σ H
end Bk

/-! our own: comprehensions that make objects, changes of a few places, places of lists -/
namespace Bk
open PySem L2 PyProof.Rows
/-- all stands but at the places of S -/
def Chg (S : List Addr) (H H' : Hp) : Prop := ∀ b o, H b = some o → b ∉ S → H' b = some o
section
variable {S S' : List Addr} {H H1 H2 H3 : Hp} {a b p : Addr} {o u : HO}
theorem Chg.at (c : Chg S H H1) (hn : b ∉ S) (h : H b = some u) : H1 b = some u := c _ _ h hn
theorem Chg.of (s : Same H H1) : Chg S H H1 := fun b o h _ => s _ _ h
theorem Chg.refl : Chg S H H := fun b o h _ => h
theorem Chg.trans (c : Chg S H H1) (d : Chg S H1 H2) : Chg S H H2 := fun b o h n => d _ _ (c _ _ h n) n
theorem Chg.mono (c : Chg S H H1) (h : ∀ x ∈ S, x ∈ S') : Chg S' H H1 := fun b o e n => c _ _ e fun z => n (h _ z)
theorem Chg.same (c : Chg [] H H1) : Same H H1 := fun b o h => c _ _ h (by simp)
theorem Chg.wr (w : Wr H a o H1) (h : a ∈ S) : Chg S H H1 := fun b u e n => w.old (fun z => n (z ▸ h)) e
theorem Chg.new (n : New H p o H1) : Chg S H H1 := .of n.same
/-- a place that was free may be written -/
theorem Chg.fresh (c : Chg S H H1) (n : H p = none) (d : Chg (p :: S) H1 H2) : Chg S H H2 := fun b u h hn => d _ _ (c _ _ h hn) fun z => (List.mem_cons.mp z).elim (fun e => by rw [e, n] at h; cases h) hn
theorem Chg.drop (c : Chg (p :: S) H H1) (n : H p = none) : Chg S H H1 := Chg.fresh .refl n c
theorem ni_nil : b ∉ ([] : List Addr) := by simp
theorem ni_cons {x : Addr} {l : List Addr} (h : b ≠ x) (k : b ∉ l) : b ∉ x :: l := fun z => (List.mem_cons.mp z).elim h k
/-- unlike contents, unlike places -/
theorem ne_obj (h : H a = some o) (k : H b = some u) (n : o ≠ u) : a ≠ b := fun e => n (by rw [e, k] at h; exact (Option.some.inj h).symm)
end
/-- places of ints in range -/
theorem ixN_in {n : Nat} {i : Int} (h : 0 ≤ i ∧ i < n) : ixN n i = some i.toNat := by
  unfold ixN
  rw [if_pos h.1, if_pos h.2]
theorem atI_in {α : Type} {xs : List α} {i : Int} (h : 0 ≤ i) : atI xs i = xs[i.toNat]? := by
  unfold atI
  by_cases c : i < xs.length
  · rw [ixN_in ⟨h, c⟩]; rfl
  · have e : ixN xs.length i = none := by unfold ixN; rw [if_pos h, if_neg c]
    rw [e, List.getElem?_eq_none (by omega)]; rfl
section
variable {K : PySem.W.Frag} {σ : Bk.St} {H H1 : Hp} {Q : VK} {a : Addr} {xs : List V} {te : TE} {tt : TT} {m n : Nat} {lo : Int} {v x : V} {nx : Bk.St → Hp → Prop}
theorem go_setLi {i : Int} (h : H a = some (.lst xs)) (hi : 0 ≤ i ∧ i < xs.length) (q : ∀ H1, Wr H a (.lst (xs.set i.toNat v)) H1 → nx σ H1) : SubK rSetL v (.ref a) σ nx (.int i) H := go_setL h (ixN_in hi) q
theorem go_decN {p A B : Prop} [Decidable p] (h : ¬ p → A) (k : p → B) : if (!decide p) = true then A else B := by
  by_cases c : p
  · exact go_Fn c (k c)
  · exact go_Tn c (h c)
/-- a place told by the list's own word of it -/
theorem go_ixAt {i : Int} (h : H a = some (.lst xs)) (h0 : 0 ≤ i) (e : xs[i.toNat]? = some v) (q : Q v H) : rIxP K (.ref a) (.int i) H Q := go_ixL h (by rw [atI_in h0]; exact e) q
/-- a comprehension over a list: INV of what was made so far, stable under changes of the list that is made -/
theorem lc_genL (INV : Addr → List V → Hp → Prop) (h : H1 a = some (.lst xs)) (hz : xs.length ≤ sizeLine)
    (stab : ∀ D acc H' H'', INV D acc H' → Chg [D] H' H'' → INV D acc H'') (h0 : ∀ D H', H1 D = none → New H1 D (.lst []) H' → INV D [] H')
    (step : ∀ D acc i x H' Q', H1 D = none → xs[i]? = some x → acc.length = i → Same H1 H' → H' D = some (.lst acc) → INV D acc H' → (∀ v H'', Same H' H'' → INV D (acc ++ [v]) H'' → Q' v H'') → te ((σ.set m none).set m (some x)) H' Q')
    (q : ∀ D vs H2, H1 D = none → Same H1 H2 → vs.length = xs.length → INV D vs H2 → H2 D = some (.lst vs) → Q (.ref D) H2) : LcK (gName m) tYes te [m] σ Q (Itl K a) H1 := by
  intro D hD
  refine lc_list (K := K) (a := a) (xs := xs) (fun i H => ∃ acc : List V, acc.length = i ∧ H D = some (.lst acc) ∧ INV D acc H ∧ Same H1 H) ⟨[], rfl, upd_same, h0 D _ hD ⟨hD, rfl⟩, fun b o e => by rw [upd_ne (ne_of_none e hD)]; exact e⟩ (fun i H _ ⟨_, _, _, _, s⟩ => SqL.of (s _ _ h)) ?_ ?_
  · rintro i x H' hx ⟨acc, hl, hd, iv, s⟩
    refine ⟨?_, yes_if (step D acc i x H' _ hD hx hl s hd iv fun v H3 s3 iv3 => ?_)⟩
    · show ((σ.set m none).set m (some x)).set m none = σ.set m none
      rw [List.set_set, List.set_set]
    · have h3 : i < xs.length := (List.getElem?_eq_some_iff.mp hx).1
      refine ⟨acc, s3 _ _ hd, by omega, acc ++ [v], by simp [hl], upd_same, stab D _ _ _ iv3 fun b o e hb => ?_, fun b o e => ?_⟩
      · rw [upd_ne (by simpa using hb)]; exact e
      · rw [upd_ne (ne_of_none e hD)]; exact s3 _ _ (s _ _ e)
  · rintro H2 ⟨acc, hl, hd, iv, s⟩
    exact q D acc H2 hD s hl iv hd
theorem lc_genR (INV : Addr → List V → Hp → Prop) (hz : n ≤ sizeLine)
    (stab : ∀ D acc H' H'', INV D acc H' → Chg [D] H' H'' → INV D acc H'') (h0 : ∀ D H', H1 D = none → New H1 D (.lst []) H' → INV D [] H')
    (step : ∀ D acc i H' Q', H1 D = none → i < n → acc.length = i → Same H1 H' → H' D = some (.lst acc) → INV D acc H' → (∀ v H'', Same H' H'' → INV D (acc ++ [v]) H'' → Q' v H'') → te ((σ.set m none).set m (some (.int (lo + i)))) H' Q')
    (q : ∀ D vs H2, H1 D = none → Same H1 H2 → vs.length = n → INV D vs H2 → H2 D = some (.lst vs) → Q (.ref D) H2) : LcK (gName m) tYes te [m] σ Q (Itr lo n) H1 := by
  intro D hD
  refine lc_range (fun i H => ∃ acc : List V, acc.length = i ∧ H D = some (.lst acc) ∧ INV D acc H ∧ Same H1 H) ⟨[], rfl, upd_same, h0 D _ hD ⟨hD, rfl⟩, fun b o e => by rw [upd_ne (ne_of_none e hD)]; exact e⟩ ?_ ?_
  · rintro i H' hi ⟨acc, hl, hd, iv, s⟩
    refine ⟨?_, yes_if (step D acc i H' _ hD hi hl s hd iv fun v H3 s3 iv3 => ?_)⟩
    · show ((σ.set m none).set m (some (.int (lo + i)))).set m none = σ.set m none
      rw [List.set_set, List.set_set]
    · refine ⟨acc, s3 _ _ hd, by omega, acc ++ [v], by simp [hl], upd_same, stab D _ _ _ iv3 fun b o e hb => ?_, fun b o e => ?_⟩
      · rw [upd_ne (by simpa using hb)]; exact e
      · rw [upd_ne (ne_of_none e hD)]; exact s3 _ _ (s _ _ e)
  · rintro H2 ⟨acc, hl, hd, iv, s⟩
    exact q D acc H2 hD s hl iv hd
/-- new objects, one by one: their places, unlike one another -/
structure News (H1 : Hp) (o : Nat → HO) (D : Addr) (ps : List Addr) (H2 : Hp) : Prop where
  free : ∀ p ∈ ps, H1 p = none
  ne : ∀ p ∈ ps, p ≠ D
  at_ : ∀ (i : Nat) (p : Addr), ps[i]? = some p → H2 p = some (o i)
  nd : ps.Nodup
theorem News.chg {o : Nat → HO} {D : Addr} {ps : List Addr} {H2 H3 : Hp} (w : News H1 o D ps H2) (c : Chg [D] H2 H3) : News H1 o D ps H3 :=
  ⟨w.free, w.ne, fun i p e => c.at (by simpa using w.ne p (List.mem_of_getElem? e)) (w.at_ i p e), w.nd⟩
theorem News.nil {o : Nat → HO} {D : Addr} {H2 : Hp} : News H1 o D [] H2 := ⟨by simp, by simp, by simp, by simp⟩
theorem News.snoc {o : Nat → HO} {D p : Addr} {ps : List Addr} {H2 H3 : Hp} {u : HO} (w : News H1 o D ps H2) (hD : H2 D = some u) (s : Same H2 H3) (s0 : Same H1 H2) (hp : H2 p = none) (h : H3 p = some (o ps.length)) : News H1 o D (ps ++ [p]) H3 := by
  have old : ∀ q ∈ ps, ∃ u, H2 q = some u := fun q hq => by
    obtain ⟨i, hi⟩ := List.mem_iff_getElem?.mp hq
    exact ⟨_, w.at_ i q hi⟩
  refine ⟨fun q hq => ?_, fun q hq => ?_, fun i q e => ?_, ?_⟩
  · rcases List.mem_append.mp hq with hq | hq
    · exact w.free q hq
    · rw [List.mem_singleton.mp hq]; exact s0.free hp
  · rcases List.mem_append.mp hq with hq | hq
    · exact w.ne q hq
    · rw [List.mem_singleton.mp hq]; exact Ne.symm (ne_none hp hD)
  · by_cases c : i < ps.length
    · rw [List.getElem?_append_left c] at e
      exact s _ _ (w.at_ i q e)
    · rw [List.getElem?_append_right (by omega)] at e
      have e1 : i - ps.length = 0 := by
        have := (List.getElem?_eq_some_iff.mp e).1
        simp at this; omega
      rw [e1] at e
      cases e
      rw [show i = ps.length by omega]
      exact h
  · rw [List.nodup_append]
    refine ⟨w.nd, by simp, fun q hq r hr => ?_⟩
    rw [List.mem_singleton.mp hr]
    obtain ⟨u, e⟩ := old q hq
    exact ne_none hp e
theorem map_snoc {ps : List Addr} {p : Addr} : ps.map V.ref ++ [V.ref p] = (ps ++ [p]).map V.ref := by simp
theorem lc_newR {o : Nat → HO} (hz : n ≤ sizeLine)
    (step : ∀ i H' Q', i < n → Same H1 H' → (∀ p H'', Same H' H'' → H' p = none → H'' p = some (o i) → Q' (.ref p) H'') → te ((σ.set m none).set m (some (.int (lo + i)))) H' Q')
    (q : ∀ D ps H2, H1 D = none → Same H1 H2 → ps.length = n → News H1 o D ps H2 → H2 D = some (.lst (ps.map V.ref)) → Q (.ref D) H2) : LcK (gName m) tYes te [m] σ Q (Itr lo n) H1 := by
  refine lc_genR (fun D acc H' => ∃ ps : List Addr, acc = ps.map V.ref ∧ News H1 o D ps H') hz (fun D acc H' H'' ⟨ps, e, w⟩ c => ⟨ps, e, w.chg c⟩) (fun D H' _ _ => ⟨[], rfl, .nil⟩) ?_ ?_
  · rintro D acc i H' Q' hD hi hl s hd ⟨ps, rfl, w⟩ k
    refine step i H' Q' hi s fun p H'' s2 hp hp2 => k _ _ s2 ⟨ps ++ [p], map_snoc, w.snoc hd s2 s hp ?_⟩
    rw [show ps.length = i by simpa using hl]; exact hp2
  · rintro D vs H2 hD s hl ⟨ps, rfl, w⟩ hd
    exact q D ps H2 hD s (by simpa using hl) w hd
end
/-! attributes and keys by their names -/
section
variable {f g : Str} {v x : V} {r r' : List (Str × V)}
theorem putF_nil : putF f v [] = [(f, v)] := rfl
theorem putF_hit : putF f v ((f, x) :: r) = (f, v) :: r := by rw [putF, if_pos rfl]
theorem putF_miss (h : g ≠ f) (k : putF f v r = r') : putF f v ((g, x) :: r) = (g, x) :: r' := by rw [putF, if_neg h, k]
end
section
variable {k g : Key} {v x : V} {r r' : List (Key × V)}
theorem putK_nil : putK ([] : List (Key × V)) k v = [(k, v)] := rfl
theorem putK_hit (h : (r.map (·.1)).all (fun y => decide (y ≠ k)) = true) : putK ((k, x) :: r) k v = (k, v) :: r := by
  unfold putK
  rw [if_pos (by simp)]
  simp only [List.map_cons, if_true]
  refine congrArg _ ?_
  refine (List.map_congr_left fun y hy => ?_).trans (List.map_id _)
  have := List.all_eq_true.mp h y.1 (List.mem_map_of_mem hy)
  rw [if_neg (of_decide_eq_true this)]
  rfl
theorem putK_miss (h : g ≠ k) (e : putK r k v = r') : putK ((g, x) :: r) k v = (g, x) :: r' := by
  subst e
  unfold putK
  by_cases c : (r.any fun kv => decide (kv.1 = k)) = true
  · rw [if_pos c, if_pos (by rw [List.any_cons, c, Bool.or_true]), List.map_cons, if_neg h]
  · have c' : (r.any fun kv => decide (kv.1 = k)) = false := Bool.eq_false_iff.mpr c
    rw [if_neg c, if_neg (by rw [List.any_cons, c', decide_eq_false h]; decide)]
    rfl
theorem mergeK_go : ∀ (kvs acc : List (Key × V)), ((acc ++ kvs).map (·.1)).Nodup → mergeK acc kvs = acc ++ kvs
  | [], acc, _ => by simp [mergeK]
  | (k, v) :: r, acc, h => by
    have e : putK acc k v = acc ++ [(k, v)] := by
      unfold putK
      rw [if_neg]
      rw [List.any_eq_true]
      rintro ⟨y, hy, e⟩
      have e := of_decide_eq_true e
      rw [List.map_append, List.nodup_append] at h
      exact h.2.2 y.1 (List.mem_map_of_mem hy) k (by simp) e
    have := mergeK_go r (acc ++ [(k, v)]) (by simpa using h)
    unfold mergeK at this ⊢
    rw [List.foldl_cons, e, this]
    simp
theorem mergeK_nd {kvs : List (Key × V)} (h : (kvs.map (·.1)).Nodup) : mergeK [] kvs = kvs := mergeK_go kvs [] h
end
/-- string keys of a display -/
def unS : List (V × V) → List (Key × V)
  | (.str k, v) :: r => (.inr k, v) :: unS r
  | _ => []
theorem go_DispS {H : Hp} {Q : VK} {kvs' : List (Key × V)} {p : Addr} {ps : List (V × V)} (h : H p = some (.dK [])) (e : ps = (unS ps).map (fun kv => (kV kv.1, kv.2))) (hl : (unS ps).length ≤ 15) (k : unS ps = kvs') {ks : List Key} (km : kvs'.map (·.1) = ks) (m : ks.Nodup) (q : ∀ H1, Wr H p (.dK kvs') H1 → Q (.ref p) H1) : DispK p Q ps H :=
  go_DispK (unS ps) h e hl (by subst k; exact mergeK_nd (km ▸ m)) q
end Bk

/-! our own: more steps -/
namespace Bk
open PySem L2 PyProof.Rows
theorem Same.chg {H0 H H' : Hp} {S : List Addr} (s : Same H0 H) (c : Chg S H H') (n : ∀ b ∈ S, H0 b = none) : Same H0 H' := fun b o e => c _ _ (s _ _ e) fun z => by rw [n b z] at e; cases e
section
variable {K : PySem.W.Frag} {σ : Bk.St} {H H1 : Hp} {Q : VK} {a : Addr} {xs : List V} {te : TE} {tt : TT} {m n : Nat} {lo : Int} {v x : V} {nx : Bk.St → Hp → Prop}
end
/-- a heap without some places -/
def mask (H : Hp) (S : List Addr) : Hp := fun b => if b ∈ S then none else H b
/-- lists of rows, as data -/
def rowsD (R : List (List Int)) : List PyData := R.map fun row => PyData.list (row.map PyData.int)
/-! loops with targets of any kind; numbered lists -/
section
variable {K : PySem.W.Frag} {σ : Bk.St} {H H1 : Hp} {Q : VK} {a : Addr} {xs : List V} {g : TG} {tb : TS} {nx bk ct : Bk.St → Hp → Prop} {rt : VK} {te : TE} {tt : TT} {m n : Nat} {lo : Int}
theorem for_Lg (INV : Nat → Bk.St → Hp → Prop) (h : ∀ i σ H, INV i σ H → H a = some (.lst xs)) (h0 : INV 0 σ H1)
    (hs : ∀ i x σ H, xs[i]? = some x → INV i σ H → g x σ H fun σ2 H2 => tb ⟨INV (i + 1), rt, nx, INV (i + 1)⟩ σ2 H2) (hd : ∀ σ H, INV xs.length σ H → nx σ H) : ForK g tb ⟨nx, rt, bk, ct⟩ σ (Itl K a) H1 :=
  for_list (K := K) (a := a) (xs := xs) INV h0 (fun i σ H _ q => SqL.of (h i σ H q)) hs hd
theorem for_E (INV : Nat → Bk.St → Hp → Prop) (h : ∀ i σ H, INV i σ H → H a = some (.lst xs)) (h0 : INV 0 σ H1)
    (hs : ∀ i x σ H T H', xs[i]? = some x → INV i σ H → New H T (.tup [.int (i : Nat), x]) H' → g (.ref T) σ H' fun σ2 H2 => tb ⟨INV (i + 1), rt, nx, INV (i + 1)⟩ σ2 H2) (hd : ∀ σ H, INV xs.length σ H → nx σ H) : ForK g tb ⟨nx, rt, bk, ct⟩ σ (Ite K a) H1 := by
  refine ⟨fun i m σ H => m = xs.length - i ∧ i ≤ xs.length ∧ INV i σ H, ⟨xs.length, by simp, Nat.zero_le _, h0⟩, ?_⟩
  rintro i m σ H ⟨rfl, hi, p⟩
  have q := SqL.of (K := K) (h i σ H p)
  by_cases hlt : i < xs.length
  · refine .inr ⟨⟨xs, xs[i], q, by simp [hlt]⟩, INV (i + 1), fun σ' H' p' => ⟨xs.length - (i + 1), by omega, rfl, hlt, p'⟩, fun x H' y => ?_⟩
    obtain ⟨T, x, rfl, hT, rfl, y⟩ := y
    exact hs i x σ H T _ (y xs q) p ⟨hT, rfl⟩
  · have e : i = xs.length := by omega
    subst e
    exact .inl ⟨⟨xs, q, Nat.le_refl _⟩, hd σ H p⟩
def EnumK (K : PySem.W.Frag) (R : It → Hp → Prop) : List V → Hp → Prop := fun vs H1 => ∃ a xs, vs = [.ref a] ∧ SqL K H1 a xs ∧ R (Ite K a) H1
theorem go_enum {ta : TA} {R : It → Hp → Prop} (q : ta σ H (EnumK K R)) : iEnum K ta σ H R := q
instance st_go_enum {ta : TA} {R : It → Hp → Prop} : Step (iEnum K ta σ H R) (ta σ H (EnumK K R)) := ⟨go_enum⟩
theorem go_EnumL {R : It → Hp → Prop} (h : H a = some (.lst xs)) (q : R (Ite K a) H) : EnumK K R [.ref a] H := ⟨a, xs, rfl, SqL.of h, q⟩
/-! ### lists of pairs of a number and a row -/
structure PrsAt (H : Hp) (P : Addr) (ts qs : List Addr) (prs : List (Int × List Int)) : Prop where
  rr : H P = some (.lst (ts.map V.ref))
  lt : ts.length = prs.length
  lq : qs.length = prs.length
  at_ : ∀ (i : Nat) (b : Int) (row : List Int), prs[i]? = some (b, row) → ∃ t q, ts[i]? = some t ∧ qs[i]? = some q ∧ H t = some (.tup [.int b, .ref q]) ∧ H q = some (.lst (row.map V.int))
theorem PrsAt.same {H H' : Hp} {P : Addr} {ts qs : List Addr} {prs : List (Int × List Int)} (h : PrsAt H P ts qs prs) (s : Same H H') : PrsAt H' P ts qs prs :=
  ⟨s _ _ h.rr, h.lt, h.lq, fun i b row e => let ⟨t, q, e1, e2, e3, e4⟩ := h.at_ i b row e; ⟨t, q, e1, e2, s _ _ e3, s _ _ e4⟩⟩
theorem PrsAt.chg {H H' : Hp} {S : List Addr} {P : Addr} {ts qs : List Addr} {prs : List (Int × List Int)} (h : PrsAt H P ts qs prs) (c : Chg S H H') (hP : P ∉ S) (ht : ∀ t ∈ ts, t ∉ S) (hq : ∀ q ∈ qs, q ∉ S) : PrsAt H' P ts qs prs :=
  ⟨c.at hP h.rr, h.lt, h.lq, fun i b row e => let ⟨t, q, e1, e2, e3, e4⟩ := h.at_ i b row e; ⟨t, q, e1, e2, c.at (ht t (List.mem_of_getElem? e1)) e3, c.at (hq q (List.mem_of_getElem? e2)) e4⟩⟩
/-- such pairs, made one by one -/
structure PrsNew (H1 : Hp) (D : Addr) (ts qs : List Addr) (prs : List (Int × List Int)) (H : Hp) : Prop where
  lt : ts.length = qs.length
  at_ : ∀ (i : Nat) (t q : Addr), ts[i]? = some t → qs[i]? = some q → ∃ b row, prs[i]? = some (b, row) ∧ H t = some (.tup [.int b, .ref q]) ∧ H q = some (.lst (row.map V.int))
  nt : ∀ t ∈ ts, t ≠ D ∧ H1 t = none
  nq : ∀ q ∈ qs, q ≠ D
theorem PrsNew.chg {H1 : Hp} {D : Addr} {ts qs : List Addr} {prs : List (Int × List Int)} {H H' : Hp} (w : PrsNew H1 D ts qs prs H) (c : Chg [D] H H') : PrsNew H1 D ts qs prs H' :=
  ⟨w.lt, fun i t q e1 e2 => let ⟨b, row, e3, e4, e5⟩ := w.at_ i t q e1 e2; ⟨b, row, e3, c.at (by simpa using (w.nt t (List.mem_of_getElem? e1)).1) e4, c.at (by simpa using w.nq q (List.mem_of_getElem? e2)) e5⟩, w.nt, w.nq⟩
theorem PrsNew.nil {H1 : Hp} {D : Addr} {prs : List (Int × List Int)} {H : Hp} : PrsNew H1 D [] [] prs H := ⟨rfl, by simp, by simp, by simp⟩
theorem get_snoc {α : Type} {l : List α} {x y : α} {i : Nat} (h : (l ++ [x])[i]? = some y) : l[i]? = some y ∨ (i = l.length ∧ y = x) := by
  by_cases c : i < l.length
  · rw [List.getElem?_append_left c] at h; exact .inl h
  · rw [List.getElem?_append_right (by omega)] at h
    have e1 : i - l.length = 0 := by
      have := (List.getElem?_eq_some_iff.mp h).1
      simp at this; omega
    rw [e1] at h
    cases h
    exact .inr ⟨by omega, rfl⟩
theorem PrsNew.snoc {H1 : Hp} {D t q : Addr} {ts qs : List Addr} {prs : List (Int × List Int)} {H H' : Hp} {u : HO} {b : Int} {row : List Int} (w : PrsNew H1 D ts qs prs H) (hD : H D = some u) (s : Same H H') (s0 : Same H1 H) (h1D : H1 D = none) (e : prs[ts.length]? = some (b, row))
    (ht : H t = none) (h : H' t = some (.tup [.int b, .ref q])) (hq : (∃ u, H1 q = some u) ∨ H q = none) (k : H' q = some (.lst (row.map V.int))) : PrsNew H1 D (ts ++ [t]) (qs ++ [q]) prs H' := by
  refine ⟨by simp [w.lt], fun i t' q' e1 e2 => ?_, fun t' ht' => ?_, fun q' hq' => ?_⟩
  · rcases get_snoc e1 with e1 | ⟨e1', rfl⟩
    · rcases get_snoc e2 with e2 | ⟨e2', rfl⟩
      · obtain ⟨b', row', e3, e4, e5⟩ := w.at_ i t' q' e1 e2
        exact ⟨b', row', e3, s _ _ e4, s _ _ e5⟩
      · have := (List.getElem?_eq_some_iff.mp e1).1
        rw [w.lt] at this; omega
    · rcases get_snoc e2 with e2 | ⟨e2', rfl⟩
      · have := (List.getElem?_eq_some_iff.mp e2).1
        rw [← w.lt] at this; omega
      · exact ⟨b, row, by rw [e1']; exact e, h, k⟩
  · rcases List.mem_append.mp ht' with z | z
    · exact w.nt t' z
    · rw [List.mem_singleton.mp z]; exact ⟨Ne.symm (ne_none ht hD), s0.free ht⟩
  · rcases List.mem_append.mp hq' with z | z
    · exact w.nq q' z
    · rw [List.mem_singleton.mp z]
      rcases hq with ⟨u, e⟩ | e
      · intro z; rw [z, h1D] at e; cases e
      · exact Ne.symm (ne_none e hD)
theorem PrsNew.prs {H1 : Hp} {D : Addr} {ts qs : List Addr} {prs : List (Int × List Int)} {H : Hp} (w : PrsNew H1 D ts qs prs H) (hl : ts.length = prs.length) (hd : H D = some (.lst (ts.map V.ref))) : PrsAt H D ts qs prs :=
  ⟨hd, hl, w.lt ▸ hl, fun i b row e => by
    have hi : i < prs.length := (List.getElem?_eq_some_iff.mp e).1
    have e1 : ts[i]? = some (ts[i]'(by omega)) := List.getElem?_eq_getElem _
    have e2 : qs[i]? = some (qs[i]'(by have := w.lt; omega)) := List.getElem?_eq_getElem _
    obtain ⟨b', row', e3, e4, e5⟩ := w.at_ i _ _ e1 e2
    rw [e] at e3; cases e3
    exact ⟨_, _, e1, e2, e4, e5⟩⟩
end
def prsD (prs : List (Int × List Int)) : List PyData := prs.map fun p => PyData.tuple [.int p.1, .list (p.2.map PyData.int)]
theorem dp_prs {K : PySem.W.Frag} {H : Hp} : ∀ {ts qs : List Addr} {prs : List (Int × List Int)}, ts.length = prs.length → (∀ (i : Nat) (b : Int) (row : List Int), prs[i]? = some (b, row) → ∃ t q, ts[i]? = some t ∧ qs[i]? = some q ∧ H t = some (.tup [.int b, .ref q]) ∧ H q = some (.lst (row.map V.int))) → DpAll K H (ts.map V.ref) (prsD prs)
  | [], _, [], _, _ => .nil
  | t :: ts, qs, (b, row) :: prs, hl, h => by
    obtain ⟨t', q, e1, e2, e3, e4⟩ := h 0 b row rfl
    cases e1
    refine .cons (.tup (SqT.of e3) (.cons (.int b) (.cons (dp_ints e4) .nil))) (dp_prs (qs := qs.tail) (by simpa using hl) fun i b' row' e => ?_)
    obtain ⟨t', q', f1, f2, f3, f4⟩ := h (i + 1) b' row' e
    exact ⟨t', q', f1, by simpa [List.getElem?_tail] using f2, f3, f4⟩
theorem PrsAt.dp {K : PySem.W.Frag} {H : Hp} {P : Addr} {ts qs : List Addr} {prs : List (Int × List Int)} (h : PrsAt H P ts qs prs) : Dp K H (.ref P) (.list (prsD prs)) := .lst (SqL.of h.rr) (dp_prs h.lt h.at_)
end Bk

/-! our own: sorted, dicts with whole numbers for keys -/
namespace Bk
open PySem L2 PyProof.Rows
def rSortDI : List V → Hp → VK → Prop := fun xs H Q => ∃ (a : Addr) (kvs : List (Key × V)) (ks : List Int), xs = [.ref a] ∧ Rd H a (.dK kvs) ∧ kvs.map (·.1) = ks.map Sum.inl ∧ ks.length < 64 ∧
    ∀ (ys : List Int) (p : Addr), ys.Perm ks → ys.Pairwise (· ≤ ·) → H p = none → Q (.ref p) (upd H p (.lst (ys.map V.int)))
def rSortedP (K : PySem.W.Frag) : List V → Hp → VK → Prop := fun xs H Q => rSortDI xs H Q
section
variable {K : PySem.W.Frag} {H : Hp} {Q : VK} {a : Addr}
end
/-! ### dicts whose keys are whole numbers, told as lists -/
/-- the dict d of pairs -/
def dI (ps : List (Int × V)) : List (Key × V) := ps.map fun p => (.inl p.1, p.2)
/-- put: in its place, or at the end -/
def putI (ps : List (Int × V)) (k : Int) (v : V) : List (Int × V) := if (ps.any fun p => decide (p.1 = k)) = true then ps.map (fun p => if p.1 = k then (p.1, v) else p) else ps ++ [(k, v)]
theorem mem_putI {ps : List (Int × V)} {k : Int} {v : V} {p : Int × V} (h : p ∈ putI ps k v) : p = (k, v) ∨ (p ∈ ps ∧ p.1 ≠ k) := by
  unfold putI at h
  split at h
  · obtain ⟨q, hq, e⟩ := List.mem_map.mp h
    by_cases z : q.1 = k
    · rw [if_pos z] at e; subst e; exact .inl (by rw [z])
    · rw [if_neg z] at e; subst e; exact .inr ⟨hq, z⟩
  · rename_i c
    rcases List.mem_append.mp h with h | h
    · refine .inr ⟨h, fun z => c ?_⟩
      exact List.any_eq_true.mpr ⟨p, h, decide_eq_true z⟩
    · exact .inl (List.mem_singleton.mp h)
theorem keys_putI {ps : List (Int × V)} {k : Int} {v : V} (h : (ps.map (·.1)).Nodup) : ((putI ps k v).map (·.1)).Nodup := by
  unfold putI
  split
  · rw [List.map_map]
    have : (ps.map ((fun p => p.1) ∘ fun p => if p.1 = k then (p.1, v) else p)) = ps.map (·.1) := List.map_congr_left fun p _ => by
      show (if p.1 = k then (p.1, v) else p).1 = p.1
      split <;> rfl
    rw [this]; exact h
  · rename_i c
    rw [List.map_append, List.nodup_append]
    refine ⟨h, by simp, fun x hx y hy e => c ?_⟩
    obtain ⟨p, hp, e1⟩ := List.mem_map.mp hx
    have e2 : y = k := by simpa using hy
    exact List.any_eq_true.mpr ⟨p, hp, decide_eq_true (by rw [e1, e, e2])⟩
section
variable {H : Hp} {Q : VK}
theorem go_p109 (q : Q (.int 1000000000) H) : rPowP (.int 10) (.int 9) H Q := go_pow (by unfold CPow; omega) q
instance st_go_p109 : Step (rPowP (.int 10) (.int 9) H Q) (Q (.int 1000000000) H) := ⟨go_p109⟩
theorem go_p1020 (q : Q (.int 100000000000000000000) H) : rPowP (.int 10) (.int 20) H Q := go_pow (by unfold CPow; omega) q
instance st_go_p1020 : Step (rPowP (.int 10) (.int 20) H Q) (Q (.int 100000000000000000000) H) := ⟨go_p1020⟩
end
/-- entries: pairs of a number and a row, without the list that holds them -/
structure Ent (H : Hp) (ts qs : List Addr) (prs : List (Int × List Int)) : Prop where
  lt : ts.length = prs.length
  lq : qs.length = prs.length
  at_ : ∀ (i : Nat) (b : Int) (row : List Int), prs[i]? = some (b, row) → ∃ t q, ts[i]? = some t ∧ qs[i]? = some q ∧ H t = some (.tup [.int b, .ref q]) ∧ H q = some (.lst (row.map V.int))
theorem Ent.prs {H : Hp} {P : Addr} {ts qs : List Addr} {prs : List (Int × List Int)} (h : Ent H ts qs prs) (e : H P = some (.lst (ts.map V.ref))) : PrsAt H P ts qs prs := ⟨e, h.lt, h.lq, h.at_⟩
theorem Ent.same {H H' : Hp} {ts qs : List Addr} {prs : List (Int × List Int)} (h : Ent H ts qs prs) (s : Same H H') : Ent H' ts qs prs :=
  ⟨h.lt, h.lq, fun i b row e => let ⟨t, q, e1, e2, e3, e4⟩ := h.at_ i b row e; ⟨t, q, e1, e2, s _ _ e3, s _ _ e4⟩⟩
theorem Ent.one {H : Hp} {t q : Addr} {b : Int} {row : List Int} (h : H t = some (.tup [.int b, .ref q])) (k : H q = some (.lst (row.map V.int))) : Ent H [t] [q] [(b, row)] :=
  ⟨rfl, rfl, fun i b' row' e => by
    rcases i with _ | i
    · cases e; exact ⟨t, q, rfl, rfl, h, k⟩
    · simp at e⟩
theorem Ent.app {H : Hp} {ts qs ts' qs' : List Addr} {prs prs' : List (Int × List Int)} (h : Ent H ts qs prs) (k : Ent H ts' qs' prs') : Ent H (ts ++ ts') (qs ++ qs') (prs ++ prs') := by
  refine ⟨by simp [h.lt, k.lt], by simp [h.lq, k.lq], fun i b row e => ?_⟩
  by_cases c : i < prs.length
  · rw [List.getElem?_append_left c] at e
    obtain ⟨t, q, e1, e2, e3, e4⟩ := h.at_ i b row e
    exact ⟨t, q, by rw [List.getElem?_append_left (by rw [h.lt]; exact c)]; exact e1, by rw [List.getElem?_append_left (by rw [h.lq]; exact c)]; exact e2, e3, e4⟩
  · rw [List.getElem?_append_right (by omega)] at e
    obtain ⟨t, q, e1, e2, e3, e4⟩ := k.at_ _ b row e
    exact ⟨t, q, by rw [List.getElem?_append_right (by rw [h.lt]; omega), h.lt]; exact e1, by rw [List.getElem?_append_right (by rw [h.lq]; omega), h.lq]; exact e2, e3, e4⟩
section
variable {K : PySem.W.Frag} {σ : Bk.St} {H H1 : Hp} {Q : VK} {a : Addr} {xs : List V} {te : TE} {m : Nat}
end
end Bk

/-! our own: max of ints with a default -/
namespace Bk
open PySem L2 PyProof PyProof.Rows
section
variable {prog : Program} {w : World} {A : Around} {I : Addr} {fp wr : List Addr} {n : Nat} {P : Nat → Value → Prop} {St : Nat → Heap → Prop} {d : Value}
end
section
variable {prog : Program} {w : World} {A : Around} {E : Value → Shared → Prop} {s : Shared} {l : Addr} {d : Value}
end
def rMaxD (K : PySem.W.Frag) : List V → List V → Hp → VK → Prop := fun vs zs H Q => ∃ (a : Addr) (ns : List Int) (d : Int), vs = [V.ref a] ∧ zs = [.int d] ∧ SqL K H a (ns.map V.int) ∧ ∀ m, (ns = [] → m = d) → (ns ≠ [] → m ∈ ns ∧ ∀ x ∈ ns, x ≤ m) → Q (.int m) H
end Bk
namespace Bk
open PySem L2 PyProof PyProof.Rows
/-- list(range(..)) -/
def tListR (tr : Bk.St → Hp → (Int → Int → Hp → Prop) → Prop) : TE := fun σ H Q => tr σ H fun a b H1 => -(2 ^ 62) ≤ a ∧ a < 2 ^ 62 ∧ -(2 ^ 62) ≤ b ∧ b < 2 ^ 62 ∧ (b - a).toNat ≤ 1000 ∧ ∀ p, H1 p = none → Q (.ref p) (upd H1 p (.lst ((List.range (b - a).toNat).map fun i : Nat => V.int (a + i))))
section
variable {K : PySem.W.Frag} {σ : Bk.St} {H : Hp} {Q : VK} {t tk : TA} {a : Addr}
theorem go_ckw {r : List V → List V → Hp → VK → Prop} (q : t σ H fun vs H1 => tk σ H1 fun zs H2 => r vs zs H2 Q) : tCKw r t tk σ H Q := q
instance st_go_ckw {r : List V → List V → Hp → VK → Prop} : Step (tCKw r t tk σ H Q) (t σ H fun vs H1 => tk σ H1 fun zs H2 => r vs zs H2 Q) := ⟨go_ckw⟩
theorem go_maxD {ns : List Int} {d : Int} (h : H a = some (.lst (ns.map V.int))) (q : ∀ m, (ns = [] → m = d) → (ns ≠ [] → m ∈ ns ∧ ∀ x ∈ ns, x ≤ m) → Q (.int m) H) : rMaxD K [.ref a] [.int d] H Q := ⟨a, ns, d, rfl, rfl, SqL.of h, q⟩
def ListRK (Q : VK) : Int → Int → Hp → Prop := fun a b H1 => -(2 ^ 62) ≤ a ∧ a < 2 ^ 62 ∧ -(2 ^ 62) ≤ b ∧ b < 2 ^ 62 ∧ (b - a).toNat ≤ 1000 ∧ ∀ p, H1 p = none → Q (.ref p) (upd H1 p (.lst ((List.range (b - a).toNat).map fun i : Nat => V.int (a + i))))
theorem go_listR {tr : Bk.St → Hp → (Int → Int → Hp → Prop) → Prop} (q : tr σ H (ListRK Q)) : tListR tr σ H Q := q
instance st_go_listR {tr : Bk.St → Hp → (Int → Int → Hp → Prop) → Prop} : Step (tListR tr σ H Q) (tr σ H (ListRK Q)) := ⟨go_listR⟩
theorem go_ListRK {a b : Int} (h : -(2 ^ 62) ≤ a ∧ a < 2 ^ 62 ∧ -(2 ^ 62) ≤ b ∧ b < 2 ^ 62 ∧ (b - a).toNat ≤ 1000) (q : ∀ p H1, New H p (.lst ((List.range (b - a).toNat).map fun i : Nat => V.int (a + i))) H1 → Q (.ref p) H1) : ListRK Q a b H := ⟨h.1, h.2.1, h.2.2.1, h.2.2.2.1, h.2.2.2.2, new_of q⟩
def Rg2K (x : V) (Q : Int → Int → Hp → Prop) : VK := fun y H2 => ∃ i j, x = .int i ∧ y = .int j ∧ Q i j H2
theorem go_rg2 {ta tb : TE} {QI : Int → Int → Hp → Prop} (q : ta σ H fun x H1 => tb σ H1 (Rg2K x QI)) : tRg2 ta tb σ H QI := q
instance st_go_rg2 {ta tb : TE} {QI : Int → Int → Hp → Prop} : Step (tRg2 ta tb σ H QI) (ta σ H fun x H1 => tb σ H1 (Rg2K x QI)) := ⟨go_rg2⟩
theorem go_Rg2K {i j : Int} {QI : Int → Int → Hp → Prop} (q : QI i j H) : Rg2K (.int i) QI (.int j) H := ⟨i, j, rfl, rfl, q⟩
instance st_go_Rg2K {i j : Int} {QI : Int → Int → Hp → Prop} : Step (Rg2K (.int i) QI (.int j) H) (QI i j H) := ⟨go_Rg2K⟩
def Rg1K (Q : Int → Int → Hp → Prop) : VK := fun x H1 => ∃ n, x = .int n ∧ Q 0 n H1
theorem go_rg1 {ta : TE} {QI : Int → Int → Hp → Prop} (q : ta σ H (Rg1K QI)) : tRg1 ta σ H QI := q
instance st_go_rg1 {ta : TE} {QI : Int → Int → Hp → Prop} : Step (tRg1 ta σ H QI) (ta σ H (Rg1K QI)) := ⟨go_rg1⟩
theorem go_Rg1K {j : Int} {QI : Int → Int → Hp → Prop} (q : QI 0 j H) : Rg1K QI (.int j) H := ⟨j, rfl, q⟩
instance st_go_Rg1K {j : Int} {QI : Int → Int → Hp → Prop} : Step (Rg1K QI (.int j) H) (QI 0 j H) := ⟨go_Rg1K⟩
theorem go_tryMany1 {D : Ends} {tb : WX → TS} {c : Value} {ts : Addr → Addr → TS} {Wout : WX} (q : tb (wMany K Wout D [(c, tSu K ts)]) D σ H) : tTryMany K tb [(c, ts)] Wout D σ H := q
instance st_go_tryMany1 {D : Ends} {tb : WX → TS} {c : Value} {ts : Addr → Addr → TS} {Wout : WX} : Step (tTryMany K tb [(c, ts)] Wout D σ H) (tb (wMany K Wout D [(c, tSu K ts)]) D σ H) := ⟨go_tryMany1⟩
theorem go_tryMany2 {D : Ends} {tb : WX → TS} {c c' : Value} {ts ts' : Addr → Addr → TS} {Wout : WX} (q : tb (wMany K Wout D [(c, tSu K ts), (c', tSu K ts')]) D σ H) : tTryMany K tb [(c, ts), (c', ts')] Wout D σ H := q
instance st_go_tryMany2 {D : Ends} {tb : WX → TS} {c c' : Value} {ts ts' : Addr → Addr → TS} {Wout : WX} : Step (tTryMany K tb [(c, ts), (c', ts')] Wout D σ H) (tb (wMany K Wout D [(c, tSu K ts), (c', tSu K ts')]) D σ H) := ⟨go_tryMany2⟩
end
end Bk

/-! our own: texts joined; filtered ranges -/
namespace Bk
open PySem L2 PyProof PyProof.Rows
def rJoinP (K : PySem.W.Frag) : V → List V → Hp → VK → Prop := fun x xs H Q => ∃ a p, ∃ ys : List Str, x = .str a ∧ xs = [.ref p] ∧ (SqL K H p (ys.map V.str) ∨ SqT K H p (ys.map V.str)) ∧ (ys.map (·.length)).sum + ys.length * a.length ≤ 16777216 ∧ Q (.str (Txt.join a ys)) H
section
variable {K : PySem.W.Frag} {σ : Bk.St} {H H1 : Hp} {Q : VK} {p : Addr} {z w : Str} {t : TA} {te : TE} {tt : TT} {m n : Nat} {lo : Int}
theorem go_bmS {r : V → List V → Hp → VK → Prop} (q : t σ H fun xs H2 => r (.str z) xs H2 Q) : BmK K "str" r t σ Q (.str z) H := ⟨rfl, q⟩
instance st_go_bmS {r : V → List V → Hp → VK → Prop} : Step (BmK K "str" r t σ Q (.str z) H) (t σ H fun xs H2 => r (.str z) xs H2 Q) := ⟨go_bmS⟩
end
end Bk

/-! our own: more of dicts and lists: in, get, pop, count, against the empty dict; a batch's rows -/
namespace Bk
open PySem L2 PyProof PyProof.Rows
def rCountP (K : PySem.W.Frag) : V → List V → Hp → VK → Prop := fun x xs H Q => ∃ (a : Addr) (ys : List V) (y : V), x = .ref a ∧ xs = [y] ∧ SqL K H a ys ∧ flatV y = true ∧ ys.all flatV = true ∧ Q (.int (ys.countP (fun z => eqV z y) : Nat)) H
/-- against the empty dict -/
def rEqDE : R2 := fun x y H Q => ∃ a b ks, x = .ref a ∧ y = .ref b ∧ H a = some (.dK ks) ∧ H b = some (.dK []) ∧ Q (.bl (decide (ks = []))) H
def rNeDE : R2 := fun x y H Q => ∃ a b ks, x = .ref a ∧ y = .ref b ∧ H a = some (.dK ks) ∧ H b = some (.dK []) ∧ Q (.bl (!decide (ks = []))) H
def rSortedQ (K : PySem.W.Frag) : List V → Hp → VK → Prop := fun xs H Q => rSortDI xs H Q ∨ rSortedI K xs H Q
theorem call_sortedQ {X : Cx} (hc : X.calm = true) : CallR X (.builtin "sorted") (rSortedQ X.K) := call_or (call_sortedDI hc) cr_sortedI
section
variable {K : PySem.W.Frag} {σ : Bk.St} {H H1 : Hp} {Q : VK} {a b : Addr} {kvs : List (Key × V)} {ta td ty tx : TE} {z y : V}
def DInK (Q : VK) (y : V) : VK := fun x H2 => ∃ a o, x = .ref a ∧ DGet H2 a y o ∧ Q (.bl o.isSome) H2
def DNotInK (Q : VK) (y : V) : VK := fun x H2 => ∃ a o, x = .ref a ∧ DGet H2 a y o ∧ Q (.bl (!o.isSome)) H2
theorem go_din (q : ty σ H fun y H1 => td σ H1 (DInK Q y)) : tDIn ty td σ H Q := q
instance st_go_din : Step (tDIn ty td σ H Q) (ty σ H fun y H1 => td σ H1 (DInK Q y)) := ⟨go_din⟩
theorem go_dnotin (q : ty σ H fun y H1 => td σ H1 (DNotInK Q y)) : tDNotIn ty td σ H Q := q
instance st_go_dnotin : Step (tDNotIn ty td σ H Q) (ty σ H fun y H1 => td σ H1 (DNotInK Q y)) := ⟨go_dnotin⟩
theorem go_DInI {k : Int} (h : H a = some (.dK kvs)) (q : Q (.bl (valV kvs (.inl k)).isSome) H) : DInK Q (.int k) (.ref a) H := ⟨a, _, rfl, DGet.k (k := .inl k) h, q⟩
theorem go_DNotInI {k : Int} (h : H a = some (.dK kvs)) (q : Q (.bl (!(valV kvs (.inl k)).isSome)) H) : DNotInK Q (.int k) (.ref a) H := ⟨a, _, rfl, DGet.k (k := .inl k) h, q⟩
def DGet2E (a : Addr) (Q : VK) (y z : V) (H3 : Hp) : Prop := ∃ o, DGet H3 a y o ∧ Q (o.getD z) H3
def DGet2K (ty tx : TE) (σ : Bk.St) (Q : VK) : VK := fun x H1 => ∃ a, x = .ref a ∧ IsD H1 a ∧ ty σ H1 fun y H2 => tx σ H2 fun z H3 => DGet2E a Q y z H3
theorem go_dget2 (q : td σ H (DGet2K ty tx σ Q)) : tDGet2 td ty tx σ H Q := q
instance st_go_dget2 : Step (tDGet2 td ty tx σ H Q) (td σ H (DGet2K ty tx σ Q)) := ⟨go_dget2⟩
theorem go_DGet2K (h : H a = some (.dK kvs)) (q : ty σ H fun y H2 => tx σ H2 fun z H3 => DGet2E a Q y z H3) : DGet2K ty tx σ Q (.ref a) H := ⟨a, rfl, .inl ⟨_, .inl h⟩, q⟩
def DPop1K (ty : TE) (σ : Bk.St) (Q : VK) : VK := fun x H1 => ∃ a, x = .ref a ∧ IsD H1 a ∧ ty σ H1 fun y H2 => ∃ kvs k v, H2 a = some (.dK kvs) ∧ y = kV k ∧ valV kvs k = some v ∧ Q v (upd H2 a (.dK (dropK kvs k)))
theorem go_dpop1 (q : td σ H (DPop1K ty σ Q)) : tDPop1 td ty σ H Q := q
instance st_go_dpop1 : Step (tDPop1 td ty σ H Q) (td σ H (DPop1K ty σ Q)) := ⟨go_dpop1⟩
theorem go_eqDE (h : H a = some (.dK kvs)) (k : H b = some (.dK [])) (q : Q (.bl (decide (kvs = []))) H) : rEqDE (.ref a) (.ref b) H Q := ⟨a, b, kvs, rfl, rfl, h, k, q⟩
theorem go_neDE (h : H a = some (.dK kvs)) (k : H b = some (.dK [])) (q : Q (.bl (!decide (kvs = []))) H) : rNeDE (.ref a) (.ref b) H Q := ⟨a, b, kvs, rfl, rfl, h, k, q⟩
end
/-! ### what a batch shows -/
theorem mem_putI_of {ps : List (Int × V)} {k : Int} {v : V} {p : Int × V} (h : p ∈ ps) (n : p.1 ≠ k) : p ∈ putI ps k v := by
  unfold putI
  split
  · exact List.mem_map.mpr ⟨p, h, if_neg n⟩
  · exact List.mem_append_left _ h
theorem mem_putI_self {ps : List (Int × V)} {k : Int} {v : V} : (k, v) ∈ putI ps k v := by
  unfold putI
  split
  · rename_i c
    obtain ⟨p, hp, e⟩ := List.any_eq_true.mp c
    have e := of_decide_eq_true e
    exact List.mem_map.mpr ⟨p, hp, by rw [if_pos e, e]⟩
  · exact List.mem_append_right _ (List.mem_singleton.mpr rfl)
/-- the keys behind a put -/
def putKs (ks : List Int) (k : Int) : List Int := if k ∈ ks then ks else ks ++ [k]
/-- a dict of rows, by their blocks -/
structure DRows (H : Hp) (D : Addr) (psl : List (Int × V)) (R Z : List (List Int)) : Prop where
  dd : H D = some (.dK (dI psl))
  nd : (psl.map (·.1)).Nodup
  len : Z.length = R.length
  hit : ∀ p ∈ psl, ∃ q row, p.2 = .ref q ∧ H q = some (.lst (row.map V.int)) ∧ row.length = 16 ∧ (∀ z ∈ row, 0 ≤ z ∧ z ≤ 999999999) ∧ 17 ≤ p.1 ∧ p.1 < R.length ∧ Z[p.1.toNat]? = some row
  miss : ∀ i : Nat, (∀ p ∈ psl, p.1 ≠ i) → Z[i]? = R[i]?
theorem DRows.same {H H' : Hp} {D : Addr} {psl : List (Int × V)} {R Z : List (List Int)} (h : DRows H D psl R Z) (s : Same H H') : DRows H' D psl R Z :=
  ⟨s _ _ h.dd, h.nd, h.len, fun p hp => let ⟨q, row, e, f, g⟩ := h.hit p hp; ⟨q, row, e, s _ _ f, g⟩, h.miss⟩
theorem DRows.put {H H' : Hp} {D q : Addr} {psl : List (Int × V)} {R Z : List (List Int)} {b : Int} {row : List Int} (h : DRows H D psl R Z) (w : Wr H D (.dK (dI (putI psl b (.ref q)))) H') (b1 : 17 ≤ b) (b2 : b < R.length) (hq : H q = some (.lst (row.map V.int))) (g : row.length = 16) (g2 : ∀ z ∈ row, 0 ≤ z ∧ z ≤ 999999999) :
    DRows H' D (putI psl b (.ref q)) R (Z.set b.toNat row) := by
  have ne : ∀ {x : Addr} {row : List Int}, H x = some (.lst (row.map V.int)) → x ≠ D := fun e => ne_obj e h.dd (by simp)
  have hl := h.len
  refine ⟨w.at, keys_putI h.nd, by simp [h.len], fun p hp => ?_, fun i hi => ?_⟩
  · rcases mem_putI hp with rfl | ⟨hp, n⟩
    · exact ⟨q, row, rfl, w.old (ne hq) hq, g, g2, b1, b2, List.getElem?_set_self (by omega)⟩
    · obtain ⟨q', row', e1, e2, e3, e4, e5, e6, e7⟩ := h.hit p hp
      exact ⟨q', row', e1, w.old (ne e2) e2, e3, e4, e5, e6, by rw [List.getElem?_set_ne (by omega)]; exact e7⟩
  · have hb := hi _ mem_putI_self
    rw [List.getElem?_set_ne (by omega)]
    refine h.miss i fun p hp z => ?_
    by_cases c : p.1 = b
    · exact hb (c ▸ z)
    · exact hi p (mem_putI_of hp c) z
theorem DRows.ints {H : Hp} {D : Addr} {psl : List (Int × V)} {R Z : List (List Int)} (h : DRows H D psl R Z) : ∀ {b : Addr} {row : List Int}, H b = some (.lst (row.map V.int)) → b ≠ D := fun e => ne_obj e h.dd (by simp)
end Bk

namespace Bk
open PySem L2 PyProof.Rows
/-! ### three comparisons; a slice stored -/
/-- a op1 b op2 c op3 d -/
def tChain3 (r r' r'' : R2) (ta tb tc td : TE) : TE := fun σ H Q => ta σ H fun x H1 => tb σ H1 fun y H2 => r x y H2 fun z H3 => ∃ k, z = .bl k ∧
  (if k = true then tc σ H3 fun w' H4 => r' y w' H4 fun z' H5 => ∃ k', z' = .bl k' ∧ (if k' = true then td σ H5 fun v' H6 => r'' w' v' H6 Q else Q (.bl false) H5) else Q (.bl false) H3)
section
variable {X : Cx} {a b c d : Expr} {ta tb tc td : TE} {pos : Pos} {op op' op'' : CmpOp} {r r' r'' : R2}
end
/-- xs[lo:hi] = ys, the places at hand -/
def SetSlK (σ : Bk.St) (Q : Bk.St → Hp → Prop) (v o x y : V) (H3 : Hp) : Prop := ∃ a b xs ys i j, o = .ref a ∧ v = .ref b ∧ x = .int i ∧ y = .int j ∧ H3 a = some (.lst xs) ∧ H3 b = some (.lst ys) ∧ a ≠ b ∧ 0 ≤ i ∧ i ≤ j ∧ j ≤ xs.length ∧ xs.length + ys.length ≤ sizeLine ∧ Q σ (upd H3 a (.lst (xs.take i.toNat ++ ys ++ xs.drop j.toNat)))
def gSl (to tl th : TE) : TG := fun v σ H Q => to σ H fun o H1 => tl σ H1 fun x H2 => th σ H2 fun y H3 => SetSlK σ Q v o x y H3
section
variable {X : Cx} {o lo hi : Expr} {to tl th : TE} {pos p2 : Pos}
end
section
variable {σ : Bk.St} {H : Hp} {Q : VK} {ta tb tc td : TE} {r r' r'' : R2} {a b : Addr} {xs ys : List V} {i j : Int} {QS : Bk.St → Hp → Prop} {v : V}
def Link (r : R2) (td : TE) (σ : Bk.St) (y : V) (Q : VK) : VK := fun z H3 => ∃ k, z = .bl k ∧ (if k = true then td σ H3 fun w' H4 => r y w' H4 Q else Q (.bl false) H3)
def Link2 (r' r'' : R2) (tc td : TE) (σ : Bk.St) (y : V) (Q : VK) : VK := fun z H3 => ∃ k, z = .bl k ∧ (if k = true then tc σ H3 fun w' H4 => r' y w' H4 (Link r'' td σ w' Q) else Q (.bl false) H3)
theorem go_chain3 (q : ta σ H fun x H1 => tb σ H1 fun y H2 => r x y H2 (Link2 r' r'' tc td σ y Q)) : tChain3 r r' r'' ta tb tc td σ H Q := q
instance st_go_chain3 : Step (tChain3 r r' r'' ta tb tc td σ H Q) (ta σ H fun x H1 => tb σ H1 fun y H2 => r x y H2 (Link2 r' r'' tc td σ y Q)) := ⟨go_chain3⟩
theorem go_LinkT {y : V} (q : td σ H fun w' H4 => r y w' H4 Q) : Link r td σ y Q (.bl true) H := ⟨true, rfl, by rw [if_pos rfl]; exact q⟩
instance st_go_LinkT {y : V} : Step (Link r td σ y Q (.bl true) H) (td σ H fun w' H4 => r y w' H4 Q) := ⟨go_LinkT⟩
theorem go_LinkF {y : V} (q : Q (.bl false) H) : Link r td σ y Q (.bl false) H := ⟨false, rfl, by rw [if_neg Bool.false_ne_true]; exact q⟩
instance st_go_LinkF {y : V} : Step (Link r td σ y Q (.bl false) H) (Q (.bl false) H) := ⟨go_LinkF⟩
theorem go_Link2T {y : V} (q : tc σ H fun w' H4 => r' y w' H4 (Link r'' td σ w' Q)) : Link2 r' r'' tc td σ y Q (.bl true) H := ⟨true, rfl, by rw [if_pos rfl]; exact q⟩
instance st_go_Link2T {y : V} : Step (Link2 r' r'' tc td σ y Q (.bl true) H) (tc σ H fun w' H4 => r' y w' H4 (Link r'' td σ w' Q)) := ⟨go_Link2T⟩
theorem go_Link2F {y : V} (q : Q (.bl false) H) : Link2 r' r'' tc td σ y Q (.bl false) H := ⟨false, rfl, by rw [if_neg Bool.false_ne_true]; exact q⟩
instance st_go_Link2F {y : V} : Step (Link2 r' r'' tc td σ y Q (.bl false) H) (Q (.bl false) H) := ⟨go_Link2F⟩
theorem go_gSl {to tl th : TE} (q : to σ H fun o H1 => tl σ H1 fun x H2 => th σ H2 fun y H3 => SetSlK σ QS v o x y H3) : gSl to tl th v σ H QS := q
instance st_go_gSl {to tl th : TE} : Step (gSl to tl th v σ H QS) (to σ H fun o H1 => tl σ H1 fun x H2 => th σ H2 fun y H3 => SetSlK σ QS v o x y H3) := ⟨go_gSl⟩
end
/-! ### insert -/
def rInsert : V → List V → Hp → VK → Prop := fun x vs H Q => ∃ (l : Addr) (xs : List V) (i : Int) (y : V), x = .ref l ∧ vs = [.int i, y] ∧ H l = some (.lst xs) ∧ xs.length < sizeLine ∧ 0 ≤ i ∧ i < 2 ^ 63 ∧ Q .non (upd H l (.lst (xs.take i.toNat ++ [y] ++ xs.drop i.toNat)))
theorem go_insert {H : Hp} {Q : VK} {l : Addr} {xs : List V} {i : Int} {y : V} (h : H l = some (.lst xs)) (hz : xs.length < sizeLine) (h0 : 0 ≤ i) (h1 : i < 2 ^ 63) (q : ∀ H1, Wr H l (.lst (xs.take i.toNat ++ [y] ++ xs.drop i.toNat)) H1 → Q .non H1) : rInsert (.ref l) [.int i, y] H Q := ⟨l, xs, i, y, rfl, rfl, h, hz, h0, h1, wr_of h q⟩
/-! ### sorted, of pairs too -/
def rSortedR (K : PySem.W.Frag) : List V → Hp → VK → Prop := fun xs H Q => rSortedQ K xs H Q ∨ L2.rSortedP K xs H Q
theorem call_sortedR {X : Cx} (hc : X.calm = true) : CallR X (.builtin "sorted") (rSortedR X.K) := call_or (call_sortedQ hc) L2.cr_sortedP
end Bk

namespace Bk
open PySem L2 PyProof.Rows
/-! ### None in lists of data; displays with whole keys -/
theorem hu65 {A : Around} {k : Nat} (hr : Room k A) : A.units + 65 < cLine := by have := hr.un; omega
section
variable {K : PySem.W.Frag} {H : Hp} {Q : VK} {p : Addr} {xs : List V} {ds : List PyData}
end
/-- whole keys of a display -/
def unI : List (V × V) → List (Key × V)
  | (.int k, v) :: r => (.inl k, v) :: unI r
  | _ => []
/-! ### a text never, once -/
def rMulS0 : R2 := fun x y H Q => ∃ (z : Str) (n : Int), x = .str z ∧ y = .int n ∧ ((n = 0 ∧ Q (.str Str.empty) H) ∨ (n = 1 ∧ Q (.str z) H))
def rMulSQ : R2 := fun x y H Q => rMulS x y H Q ∨ rMulS0 x y H Q
end Bk

namespace Bk
open PySem L2 PyProof.Rows
/-! ### dicts with tuples for keys: sorted, popped, read, written -/
def kD : Key → PyData
  | .inl i => .int i
  | .inr z => .str z
def tD (k : List Key) : PyData := .tuple (k.map kD)
theorem reads_items {h : Heap} : ∀ {ks : List Key} {us : List Value}, Vals (ks.map kV) us → ReadsAll h us (ks.map kD) []
  | [], _, r => by cases r; exact .nil
  | k :: ks, _, r => by
    cases r with
    | cons a t =>
      refine .cons (as := []) (bs := []) ?_ (reads_items t)
      cases k with
      | inl i => obtain ⟨t', rfl⟩ := a; exact .int i t'
      | inr z => obtain ⟨t', rfl⟩ := a; exact .str z t'
theorem reads_key {P : Program} {w : World} {H : Hp} {h h' : Heap} {b : Addr} {k : List Key} (ok : HOk P w H h) (e : H b = some (.tup (k.map kV))) (g : ∀ o, h.get? b = some o → h'.get? b = some o) : ∃ as, Reads h' (.ref b) (tD k) as := by
  obtain ⟨_, its, r, o, g1, g2, n, g3⟩ := (show ObjOk P w H h b (.tup (k.map kV)) from ok b _ e)
  exact ⟨[], .tuple (g _ g1) g2 g3 (by simpa using reads_items r)⟩
theorem each_keys {H : Hp} {h : Heap} : ∀ {kvs : List (List Key × V)} {bs : List Addr}, (∀ b ∈ bs, ∀ k : List Key, H b = some (.tup (k.map kV)) → ∃ as, Reads h (.ref b) (tD k) as) → IsKeys H kvs bs → PySem.W.EachIs (fun v d => ∃ as, Reads h v d as) (bs.map Value.ref) (kvs.map fun kv => tD kv.1)
  | _, _, _, .nil => .nil
  | _, _, hr, .cons a t => .cons (hr _ List.mem_cons_self _ a) (each_keys (fun b hb => hr b (List.mem_cons_of_mem _ hb)) t)
theorem isKeys_mem {H : Hp} : ∀ {kvs : List (List Key × V)} {bs : List Addr} {b : Addr}, IsKeys H kvs bs → b ∈ bs → ∃ kv ∈ kvs, H b = some (.tup (kv.1.map kV))
  | _, _, b, .nil, hb => absurd hb List.not_mem_nil
  | _, _, b, .cons a t, hb => by
    rcases List.mem_cons.mp hb with rfl | hb
    · exact ⟨_, List.mem_cons_self, a⟩
    · obtain ⟨kv, m, e⟩ := isKeys_mem t hb
      exact ⟨kv, List.mem_cons_of_mem _ m, e⟩
/-- sorted(d), d's keys alike: new, its items are d's keys, so many -/
def rSortDT : List V → Hp → VK → Prop := fun xs H Q => ∃ (d : Addr) (kvs : List (List Key × V)), xs = [.ref d] ∧ Rd H d (.dT kvs) ∧ PySem.W.AllAlike (kvs.map fun kv => tD kv.1) ∧ (∀ kv ∈ kvs, kv.1 ≠ []) ∧
  ∀ (ys : List V) (p : Addr), ys.length = kvs.length → (∀ y ∈ ys, ∃ b, ∃ kv ∈ kvs, y = .ref b ∧ H b = some (.tup (kv.1.map kV))) → H p = none → Q (.ref p) (upd H p (.lst ys))
theorem call_sortedDT {X : Cx} (hc : X.calm = true) (hu : X.A.units + 65 < cLine) : CallR X (.builtin "sorted") rSortDT := by
  intro pins s σ H xs us Q I r h
  obtain ⟨d, kvs, rfl, hd, al, ne, q⟩ := h
  obtain rfl := Vals.ref1 r
  obtain ⟨z, hs, ks, pr, o, es, ep, ho, hx, hdt, he, hn⟩ := (show ObjOk X.prog X.w H s.heap d (.dT kvs) from rd_of I.hok hd)
  have l1 : es.size = ks.length := size_of_entries he
  have l2 : kvs.length = ks.length := Paired.length pr
  have hkb : IsKeys H kvs (ks.map fun x => x.2.1) := isKeys_of pr
  generalize hbs : (ks.map fun x => x.2.1) = bs at hkb
  have lbs : bs.length = kvs.length := by rw [← hbs, List.length_map, l2]
  refine Calls.call_function_entry kind_sorted plain_sorted entry_sorted (args_sorted1 _) ?_
  unfold Builtin.«sorted»
  refine wpAny_bind (m := checkCount "sorted" 1 1 _) (wpAny_pure (wpAny_bind (PySem.W.kdu_collect (A := X.A.in1) (kdl_raw hs hx hdt) (I.ok.hd hc) ho (by omega) fun h1 tk acc kp it => ?_)))
  have eb : acc.toList = bs.map Value.ref := by
    refine List.ext_getElem? fun j => ?_
    rw [← hbs, List.map_map, List.getElem?_map]
    have la : acc.toList.length = ks.length := by rw [Array.length_toList, it.1]; exact l1
    by_cases c : j < ks.length
    · have ej : acc.toList[j]? = some (acc.toList[j]'(by omega)) := List.getElem?_eq_getElem (by omega)
      obtain ⟨en, hen, hv⟩ := it.2 j _ (by rw [← Array.getElem?_toList]; exact ej)
      have qe := entry_at he j
      rw [hen, List.getElem?_eq_getElem c] at qe
      have e2 : en = entryOfKey (tupleKind (mixKind X.prog X.w)) (ks[j]'c) := Option.some.inj qe
      rw [ej, hv, e2, List.getElem?_eq_getElem c]
      rfl
    · rw [List.getElem?_eq_none (by omega), List.getElem?_eq_none (by omega)]; rfl
  have I1 : Inv X pins σ H { s with heap := h1, toks := tk } := I.kept kp
  rw [eb]
  have lz : (bs.map Value.ref).length ≤ sizeLine := by rw [List.length_map]; omega
  refine wpAny_bind (wpAny_newList ?_ (by simpa using lz))
  have hoL : (h1.push (seqObj "list" (bs.map Value.ref).toArray 0)).get? h1.objs.size = some (seqObj "list" (bs.map Value.ref).toArray 0) := Heap.get?_push_size _ rfl
  generalize eh2 : h1.push (seqObj "list" (bs.map Value.ref).toArray 0) = h2 at hoL
  have kp2 : ∀ b o, s.heap.get? b = some o → h2.get? b = some o := fun b o e => by rw [← eh2]; exact Heap.get?_push_of_some _ (kp b o e)
  have old : ∀ b o, s.heap.get? b = some o → b ≠ h1.objs.size := fun b o e => Nat.ne_of_lt (Heap.lt_size (kp b o e))
  have er : PySem.W.EachIs (fun v d => ∃ as, Reads (PySem.W.sortingHeap h2 h1.objs.size (bs.map Value.ref)) v d as) (bs.map Value.ref) (kvs.map fun kv => tD kv.1) :=
    each_keys (fun b hb k e => reads_key I.hok e fun o ho => PySem.W.sortingHeap_old (old _ _ ho) (kp2 _ _ ho)) hkb
  have S : PySem.W.SortsAt X.prog X.w X.A.in1.in1 { s with heap := PySem.W.sortingHeap h2 h1.objs.size (bs.map Value.ref), toks := tk } (PySem.W.dataKind (PySem.W.sortingHeap h2 h1.objs.size (bs.map Value.ref)) (kvs.map fun kv => tD kv.1)) (bs.map Value.ref) :=
    PySem.W.SortsAt.data (s := { s with heap := PySem.W.sortingHeap h2 h1.objs.size (bs.map Value.ref), toks := tk }) er al (.inl fun d hd => by
      obtain ⟨kv, hm, rfl⟩ := List.mem_map.mp hd
      have := ne kv hm
      cases ek : kv.1 with
      | nil => exact absurd ek this
      | cons x r => exact ⟨kD x, r.map kD, by unfold tD; rw [List.map_cons]⟩) (fun d hd => by
      obtain ⟨kv, hm, rfl⟩ := List.mem_map.mp hd
      have dp : ∀ k : List Key, PyData.depthAll (k.map kD) = 0 := fun k => by
        induction k with
        | nil => rfl
        | cons x r ih => cases x <;> simp [PyData.depthAll, kD, PyData.depth, ih]
      show X.A.units + 1 + 1 + (tD kv.1).depth < cLine
      have : (tD kv.1).depth ≤ 1 := by unfold tD; simp [PyData.depth, dp]
      omega)
  show wpAny _ _ _ _ _ { s with heap := h2, toks := tk }
  refine wpAny_bind (wpAny_holding (wpAny_call_entry slot_list_sort ⟨_, hoL, rfl⟩ entry_list_sort (PySem.W.list_sort_vals (s := { s with heap := h2, toks := tk }) hoL S lz ⟨_, rfl, ?_⟩) (args_list_sort _)))
  generalize eo : PySem.W.sortVals (PySem.W.dataKind (PySem.W.sortingHeap h2 h1.objs.size (bs.map Value.ref)) (kvs.map fun kv => tD kv.1)) false (bs.map Value.ref) (bs.map Value.ref) = out
  have om : ∀ u ∈ out, ∃ b ∈ bs, u = Value.ref b := fun u hu => by
    rw [← eo] at hu
    obtain ⟨b, hb, e⟩ := List.mem_map.mp (PySem.W.sortVals_mem false hu)
    exact ⟨b, hb, e.symm⟩
  have ol : out.length = kvs.length := by rw [← eo, PySem.W.sortVals_length false rfl, List.length_map, lbs]
  obtain ⟨e', he'⟩ := sortedHeap_at (vs := bs.map Value.ref) (out := out.toArray) hoL
  have vb : Vals (out.map backV) out := vals_back fun u hu => let ⟨b, _, e⟩ := om u hu; ⟨b, e⟩
  refine wpAny_pure ⟨_, rfl, .ref h1.objs.size, upd H h1.objs.size (.lst (out.map backV)), I1.laid (t' := tk) (fun b u e => ?_) (Nat.le_refl _) (show ObjOk X.prog X.w _ _ _ (.lst (out.map backV)) from ⟨by rw [List.length_map, ol, ← lbs]; rw [List.length_map] at lz; exact lz, out, e', vb, he'⟩), rfl, q _ _ (by rw [List.length_map, ol]) (fun y hy => ?_) (I1.hok.fresh (Nat.le_refl _))⟩
  · have hb : b < h1.objs.size := Heap.lt_size e
    have sz : h2.objs.size = h1.objs.size + 1 := by rw [← eh2, size_push']
    rw [sortedHeap_old (Nat.ne_of_lt hb) (by rw [sz]; exact Nat.lt_succ_of_lt hb), ← eh2]
    exact Heap.get?_push_of_some _ e
  · obtain ⟨u, hu, rfl⟩ := List.mem_map.mp hy
    obtain ⟨b, hb, rfl⟩ := om u hu
    obtain ⟨kv, hm, ek⟩ := isKeys_mem hkb hb
    exact ⟨b, kv, hm, rfl, ek⟩
section
variable {K0 : Type} [DecidableEq K0] {prog : Program} {w : World} {knd : HeapKind prog w K0}
end
/-- d.pop(k), k a tuple that is there -/
def tDPopT (td ty : TE) : TE := fun σ H Q => td σ H fun x H1 => ∃ a, x = .ref a ∧ IsD H1 a ∧ ty σ H1 fun y H2 => ∃ kvs k v b, H2 a = some (.dT kvs) ∧ y = .ref b ∧ H2 b = some (.tup (k.map kV)) ∧ valV kvs k = some v ∧ Q v (upd H2 a (.dT (dropK kvs k)))
def rSortedV (K : PySem.W.Frag) : List V → Hp → VK → Prop := fun xs H Q => rSortedR K xs H Q ∨ rSortDT xs H Q
theorem call_sortedV {X : Cx} (hc : X.calm = true) (hu : X.A.units + 65 < cLine) : CallR X (.builtin "sorted") (rSortedV X.K) := call_or (call_sortedR hc) (call_sortedDT hc hu)
section
variable {K : PySem.W.Frag} {H : Hp} {Q : VK} {a b : Addr} {v x : V} {kvs kvs' : List (List Key × V)} {k : List Key} {nx rt : Bk.St → Hp → Prop} {σ : Bk.St} {td ty : TE}
theorem go_dnewT (q : ∀ p H1, New H p (.dT []) H1 → Q (.ref p) H1) : tDNewT σ H Q := fun p hp => q p _ ⟨hp, rfl⟩
def DPopTK (ty : TE) (σ : Bk.St) (Q : VK) : VK := fun x H1 => ∃ a, x = .ref a ∧ IsD H1 a ∧ ty σ H1 fun y H2 => ∃ kvs k v b, H2 a = some (.dT kvs) ∧ y = .ref b ∧ H2 b = some (.tup (k.map kV)) ∧ valV kvs k = some v ∧ Q v (upd H2 a (.dT (dropK kvs k)))
theorem go_dpopT (q : td σ H (DPopTK ty σ Q)) : tDPopT td ty σ H Q := q
instance st_go_dpopT : Step (tDPopT td ty σ H Q) (td σ H (DPopTK ty σ Q)) := ⟨go_dpopT⟩
end
end Bk

/-! ### list(reversed(xs)) -/
namespace RT
open PySem PySem.Calls PySem.Spec PyProof.Rows
section
variable {prog : Program} {w : World} {A : Around} {E : Value → Shared → Prop} {s : Shared}
theorem init_list_rev {R : Result → Shared → Prop} {it l S : Addr} {items : Array Value} (hh : A.handled = none) (hit : s.heap.IsRevIter it l ((items.size : Int) - 1)) (hl : s.heap.IsList l items) (hne : l ≠ it) (hSi : S ≠ it) (hSl : S ≠ l) (hn : items.size ≤ sizeLine)
    (hS : s.heap.get? S = some { cls := .type "list", data := .seq #[] })
    (hR : ∀ h' tk acc' c', (∀ b o, b ≠ S → b ≠ it → s.heap.get? b = some o → h'.get? b = some o) → h'.get? S = some { cls := .type "list", dict := none, data := .seq acc' c', slots := #[] } → ItemsOf (fun i v => items[items.size - 1 - i]? = some v) acc' items.size → R (.ok (.ret .none)) { s with heap := h', toks := tk }) :
    wpAny (model prog w) A.in1 (Builtin.«list.__init__» ⟨[.ref S, .ref it], []⟩)
      (fun fin s' => match fin with | .done f => R (.ok f) s' | .again c' => c'.quiet = true ∧ codeAny (model prog w) A c' R s') (fun e s' => R (.error e) s') s := by
  have W := (Walks.listRev (prog := prog) (w := w) (A := A.in1) hh it l hne items).toS
  have hSf : S ∉ [it, l] := by simp [hSi, hSl]
  show wpAny _ _ (do let old ← Builtin.List.listItems (.ref S); Builtin.List.listUpdate (.ref S) (fun _ => #[]); letGo old.toList.reverse; Builtin.List.listExtendWith (.ref S) (.ref it) .none) _ _ s
  refine wpAny_bind ?_
  unfold Builtin.List.listItems; refine wpAny_bind (wpAny_seqItems hS rfl (wpAny_pure ?_))
  show wpAny _ _ (updateSeq S (fun _ => #[]) >>= fun _ => letGo (#[] : Array Value).toList.reverse >>= fun _ => Builtin.List.listExtendWith (.ref S) (.ref it) .none) _ _ s
  refine wpAny_bind (wpAny_updateSeq hS rfl (wpAny_bind (wpAny_letGo ?_)))
  have oth : ∀ b o, b ≠ S → s.heap.get? b = some o → (s.heap.update S (Obj.mapSeq (fun _ => (#[] : Array Value)))).get? b = some o := fun b o hb e => (Heap.get?_update_other _ _ (Ne.symm hb)).trans e
  have e1 := Heap.get?_update_self (Obj.mapSeq (fun _ => (#[] : Array Value))) hS rfl
  have hit1 : (s.heap.update S (Obj.mapSeq (fun _ => (#[] : Array Value)))).IsRevIter it l ((items.size : Int) - 1) := hit.at fun o e => oth it o hSi.symm e
  have hl1 : (s.heap.update S (Obj.mapSeq (fun _ => (#[] : Array Value)))).IsList l items := let ⟨o, ho, r⟩ := hl; ⟨o, oth l o hSl.symm ho, r⟩
  generalize s.heap.update S (Obj.mapSeq (fun _ => (#[] : Array Value))) = h1 at oth e1 hit1 hl1
  have hT : ({ s with heap := h1 } : Shared).TypeIs (.ref it) "list_reverseiterator" := Heap.IsRevIter.typeIs (s := { s with heap := h1 }) hit1
  have n1 : Builtin.List.listSameRef (.ref S) (.ref it) = false := by simp [Builtin.List.listSameRef, hSi]
  unfold Builtin.List.listExtendWith; refine wpAny_bind (wpAny_typeOf hT ?_)
  rw [if_neg (by rw [n1]; decide)]; refine wpAny_bind (wpAny_pyIter_revIter (s := { s with heap := h1 }) hit1 (wpAny_bind (wpAny_holding ?_)))
  unfold Builtin.List.listLengthHint; refine wpAny_bind (wpAny_specialOf hT nolen_lri ?_)
  show wpAny _ _ (specialOf (Value.ref it) (Str.ofString "__length_hint__") >>= _) _ _ _
  refine wpAny_bind (wpAny_specialOf hT hint_lri ?_)
  generalize hid : ("list_reverseiterator.__length_hint__" : String) = id1
  wp_delta
  rw [show splitId id1 = some ("list_reverseiterator", "__length_hint__") from by subst hid; decide +kernel]
  subst hid
  refine wpAny_bind (wpAny_isInstance (b := true) hT (by rw [isSubtype_type]; kernel_rfl) (wpAny_pure ?_))
  rw [if_neg (by decide)]
  have z0 : ((items.size : Nat) : Int) - 1 - ((0 : Nat) : Int) = (items.size : Int) - 1 := by omega
  refine wpAny_pure ⟨plainId_quiet F.plain_extend_loop _, codeAny_extend_loopS W hn _ hSf _ items.size 0 _ _ _ rfl (Nat.zero_le _) ⟨Nat.zero_le _, by rw [z0]; exact hit1, hl1⟩ e1 (ItemsOf.nil _) fun s' acc' c' hm hS' hacc => ?_⟩
  rw [Moved.eq_with hm]
  refine hR s'.heap s'.toks acc' c' (fun b o hb hi e => hm.heap b o (fun z => ?_) (oth b o hb e)) hS' hacc
  rcases List.mem_cons.mp z with z | z
  · exact hb z
  · exact hi (List.mem_singleton.mp z)
theorem call_list_rev {it l : Addr} {items : Array Value} {Q : Value → Shared → Prop} (hh : A.handled = none) (hit : s.heap.IsRevIter it l ((items.size : Int) - 1)) (hl : s.heap.IsList l items) (hne : l ≠ it) (hn : items.size ≤ sizeLine)
    (hQ : ∀ (h' : Heap) (tk : Nat) (acc : Array Value) (c' : Nat), (∀ b o, b ≠ it → s.heap.get? b = some o → h'.get? b = some o) → h'.get? s.heap.objs.size = some { cls := .type "list", dict := none, data := .seq acc c', slots := #[] } → ItemsOf (fun i v => items[items.size - 1 - i]? = some v) acc items.size →
      Q (.ref s.heap.objs.size) { s with heap := h', toks := tk }) : wpAny (model prog w) A (call (.type "list") [.ref it]) Q E s := by
  refine callType_codes (Q₁ := fun obj t => obj = .ref s.heap.objs.size ∧ t = { s with heap := s.heap.push { cls := .type "list", data := .seq #[] } }) PySem.F.called_list (PySem.F.typeCall_list_1 _) PySem.F.entry_list_init (code_list_new _ ⟨rfl, rfl⟩) fun obj t ht => ?_
  obtain ⟨rfl, rfl⟩ := ht
  have hS : (s.heap.push { cls := .type "list", data := .seq #[] }).get? s.heap.objs.size = some { cls := .type "list", data := .seq #[] } := Heap.get?_push_size _ rfl
  obtain ⟨oi, hoi, _⟩ := id hit
  obtain ⟨ol, hol, _⟩ := id hl
  refine ⟨⟨_, hS, rfl⟩, PySem.F.args_list_init_2 _ _, init_list_rev (A := A.in1) (s := { s with heap := s.heap.push { cls := .type "list", data := .seq #[] } }) hh (hit.at fun o e => Heap.get?_push_of_some _ e) (hl.push _) hne (Nat.ne_of_gt (Heap.lt_size hoi)) (Nat.ne_of_gt (Heap.lt_size hol)) hn hS fun h' tk acc' c' hk hS' hacc => ?_⟩
  exact ⟨rfl, hQ h' tk acc' c' (fun b o hb e => hk b o (Nat.ne_of_lt (Heap.lt_size e)) hb (Heap.get?_push_of_some _ e)) hS' hacc⟩
end
end RT
namespace Bk
open PySem L2 PyProof.Rows
def tLstRev (K : PySem.W.Frag) (te : TE) : TE := fun σ H Q => te σ H fun v H1 => ∃ (a : Addr) (xs : List V), v = .ref a ∧ SqL K H1 a xs ∧ ∀ q, H1 q = none → Q (.ref q) (upd H1 q (.lst xs.reverse))
theorem pe_lstRev {X : Cx} {e : Expr} {te : TE} {p p2 pos pos2 : Pos} (hc : X.calm = true) (hg : Gl X "list") (hm : X.mg "list" = none) (hg2 : Gl X "reversed") (hm2 : X.mg "reversed" = none) (he : PE X e te)
    (hs : starEach [e] X.env = (false, eval e X.env) :: starEach [] X.env := by rfl)
    (hs2 : starEach [.Call (.Name "reversed" p2) [e] [] pos2] X.env = (false, eval (.Call (.Name "reversed" p2) [e] [] pos2) X.env) :: starEach [] X.env := by rfl) :
    PE X (.Call (.Name "list" p) [.Call (.Name "reversed" p2) [e] [] pos2] [] pos) (tLstRev X.K te) := by
  refine ⟨fun pins s σ H Q I h => Call_ (ld_blt I hg hm boot_list (callWith_type1 (args_cons (Call_ (ld_blt I hg2 hm2 boot_reversed (callWith_type1 (args_cons (thn (he.run pins s σ H _ I h) fun u s1 ⟨v, H1, I1, r1, q1⟩ => args_nil ?_) hs) hs rfl))) hs2) hs2 rfl))⟩
  obtain ⟨a, xs, ev, hq, q⟩ := q1
  subst ev
  obtain rfl : u = Value.ref a := r1
  obtain ⟨its, rv, p', hz⟩ := I1.list hq
  refine call_reversed_list p'.isList (args_nil ?_)
  have k0 : ∀ b o, s1.heap.get? b = some o → (s1.heap.push (revObj a ((its.toArray.size : Int) - 1))).get? b = some o := fun b o e => Heap.get?_push_of_some _ e
  have J : Inv X pins σ H1 { s1 with heap := s1.heap.push (revObj a ((its.toArray.size : Int) - 1)) } := I1.kept (t' := s1.toks) k0
  obtain ⟨f0, f1, f2, f3, f4, f5⟩ := I1.fpOk (H' := H1) (b := s1.heap.objs.size) (Nat.le_refl _) (I1.hok.fresh (Nat.le_refl _))
  have hl := p'.isList
  obtain ⟨ol, hol, _⟩ := id hl
  have ne : a ≠ s1.heap.objs.size := Nat.ne_of_lt (Heap.lt_size hol)
  refine RT.call_list_rev (s := { s1 with heap := s1.heap.push (revObj a ((its.toArray.size : Int) - 1)) }) (I1.ok.hd hc) ⟨_, Heap.get?_push_size _ rfl, rfl, rfl⟩ (hl.push _) ne (by rw [List.size_toArray, ← rv.length]; exact hz) fun h' tk acc c' hk hD hi => ?_
  have rv' : Vals xs.reverse acc.toList := RT.vals_rev rv hi
  refine ⟨.ref _, upd H1 _ (.lst xs.reverse), J.turnedNew (t' := tk) (ch := [s1.heap.objs.size]) (fun b o hb e => hk b o (fun z => hb (by simp [z])) e) (fun b hb => by rw [List.mem_singleton.mp hb]; exact ⟨f0, f1, f2, f3, f4, f5⟩) (Nat.le_refl _) ?_, rfl, q _ (J.hok.fresh (Nat.le_refl _))⟩
  exact ⟨by rw [List.length_reverse]; exact hz, acc.toList, c', rv', by rw [Array.toArray_toList]; exact hD⟩
/-! ### sorted of lists of tuples -/
def KyT (H : Hp) (ks : List (List Key)) (ts : List Addr) : Prop := Paired (fun k t => H t = some (.tup (k.map kV))) ks ts
theorem kyT_each {P : Program} {w : World} {H : Hp} {h : Heap} (ok : HOk P w H h) : ∀ {ks : List (List Key)} {ts : List Addr}, KyT H ks ts → PySem.W.EachIs (fun v k => ∃ as, Reads h v (tD k) as) (ts.map Value.ref) ks ∧ PySem.W.EachIs (fun v k => ∃ t, v = Value.ref t ∧ H t = some (.tup (k.map kV))) (ts.map Value.ref) ks
  | _, _, .nil => ⟨.nil, .nil⟩
  | _, _, .cons a r => ⟨.cons (reads_key ok a fun _ e => e) (kyT_each ok r).1, .cons ⟨_, rfl, a⟩ (kyT_each ok r).2⟩
theorem kyT_of {H : Hp} : ∀ {us : List Value} {ks : List (List Key)}, PySem.W.EachIs (fun v k => ∃ t, v = Value.ref t ∧ H t = some (.tup (k.map kV))) us ks → ∃ ts : List Addr, us = ts.map Value.ref ∧ KyT H ks ts
  | _, _, .nil => ⟨[], rfl, .nil⟩
  | _, _, .cons a r => by
    obtain ⟨t, rfl, e⟩ := a
    obtain ⟨ts, rfl, k⟩ := kyT_of r
    exact ⟨t :: ts, rfl, .cons e k⟩
/-- sorted(xs), xs a list of tuples alike: the sorted ones -/
def rSortLK (K : PySem.W.Frag) : List V → Hp → VK → Prop := fun vs H Q => ∃ (a : Addr) (ts : List Addr) (ks : List (List Key)), vs = [.ref a] ∧ SqL K H a (ts.map V.ref) ∧ KyT H ks ts ∧ PySem.W.AllAlike (ks.map tD) ∧ (∀ k ∈ ks, k ≠ []) ∧
  ∀ (ts' : List Addr) (p : Addr), KyT H (ks.mergeSort (PySem.W.dataLe false tD)) ts' → H p = none → Q (.ref p) (upd H p (.lst (ts'.map V.ref)))
theorem td_depth (k : List Key) : (tD k).depth ≤ 1 := by
  have dp : ∀ k : List Key, PyData.depthAll (k.map kD) = 0 := fun k => by
    induction k with
    | nil => rfl
    | cons x r ih => cases x <;> simp [PyData.depthAll, kD, PyData.depth, ih]
  unfold tD
  simp [PyData.depth, dp]
theorem call_sortedLK {X : Cx} (hu : X.A.units + 65 < cLine) : CallR X (.builtin "sorted") (rSortLK X.K) := by
  intro pins s σ H vs us Q I r h
  obtain ⟨a, ts, ks, rfl, hs, hk, al, ne, q⟩ := h
  obtain rfl := Vals.ref1 r
  obtain ⟨its, rv, hl, hz⟩ := I.list hs
  have ei : its = ts.map Value.ref := by
    have vr : ∀ {ts : List Addr} {its : List Value}, Vals (ts.map V.ref) its → its = ts.map Value.ref := fun {ts} => by
      induction ts with
      | nil => intro its r; cases r; rfl
      | cons t ts ih =>
        intro its r
        cases r with
        | cons b c =>
          rw [List.map_cons, ← ih c]
          cases b; rfl
    exact vr rv
  subst ei
  obtain ⟨e1, e2⟩ := kyT_each I.hok hk
  have lk : ks.length = ts.length := Paired.length hk
  have lz : ks.length ≤ sizeLine := by rw [List.length_map] at hz; omega
  refine PySem.W.sorted_data hl.isList e2 e1 al (.inl fun d hd => ?_) lz (fun k _ => by have := td_depth k; show X.A.units + 2 + (tD k).depth < cLine; omega) fun out lo eo => ?_
  · obtain ⟨k, hm, rfl⟩ := List.mem_map.mp hd
    have := ne k hm
    cases k with
    | nil => exact absurd rfl this
    | cons x r => exact ⟨kD x, r.map kD, by unfold tD; rw [List.map_cons]⟩
  · obtain ⟨ts', rfl, k'⟩ := kyT_of eo
    obtain ⟨c, hc⟩ := sortedAll_at s.heap (ts.map Value.ref) (ts'.map Value.ref).toArray
    rw [List.length_map] at lo
    refine ⟨.ref (s.heap.objs.size + 1), upd H (s.heap.objs.size + 1) (.lst (ts'.map V.ref)), I.laid (t' := s.toks) (fun b o e => sortedAll_old e) (Nat.le_succ _) ⟨by rw [List.length_map]; omega, ts'.map Value.ref, c, vals_refs ts', hc⟩, rfl, q ts' _ k' (I.hok.fresh (Nat.le_succ _))⟩
def rSortedW (K : PySem.W.Frag) : List V → Hp → VK → Prop := fun xs H Q => rSortedV K xs H Q ∨ rSortLK K xs H Q
theorem call_sortedW {X : Cx} (hc : X.calm = true) (hu : X.A.units + 65 < cLine) : CallR X (.builtin "sorted") (rSortedW X.K) := call_or (call_sortedV hc hu) (call_sortedLK hu)
section
variable {K : PySem.W.Frag} {H : Hp} {Q : VK} {a : Addr} {ts : List Addr} {ks : List (List Key)} {xs : List V} {σ : Bk.St} {te : TE}
theorem go_sortLK (h : H a = some (.lst (ts.map V.ref))) (hk : KyT H ks ts) (al : PySem.W.AllAlike (ks.map tD)) (ne : ∀ k ∈ ks, k ≠ []) (q : ∀ (ts' : List Addr) (p : Addr) (H1 : Hp), KyT H1 (ks.mergeSort (PySem.W.dataLe false tD)) ts' → New H p (.lst (ts'.map V.ref)) H1 → Q (.ref p) H1) : rSortedW K [.ref a] H Q :=
  .inr ⟨a, ts, ks, rfl, SqL.of h, hk, al, ne, fun ts' p k e => q ts' p _ (Paired.mapP k fun _ _ z => by rw [upd_ne (ne_of_none z e)]; exact z) ⟨e, rfl⟩⟩
def LstRevK (K : PySem.W.Frag) (Q : VK) : VK := fun v H1 => ∃ (a : Addr) (xs : List V), v = .ref a ∧ SqL K H1 a xs ∧ ∀ q, H1 q = none → Q (.ref q) (upd H1 q (.lst xs.reverse))
theorem go_lstRev (q : te σ H (LstRevK K Q)) : tLstRev K te σ H Q := q
instance st_go_lstRev : Step (tLstRev K te σ H Q) (te σ H (LstRevK K Q)) := ⟨go_lstRev⟩
theorem go_LstRevK (h : H a = some (.lst xs)) (q : ∀ p H1, New H p (.lst xs.reverse) H1 → Q (.ref p) H1) : LstRevK K Q (.ref a) H := ⟨a, xs, rfl, SqL.of h, fun p e => q p _ ⟨e, rfl⟩⟩
end
end Bk

namespace Bk
open PySem L2 PyProof.Rows
def t__wall (K : PySem.W.Frag) (a : Ac) (E : XK) : TS :=
  tWhile (tB (tC (.bl true))) (tNext)
def N__wall : List Str := ["k"]
def sp__wall (K : PySem.W.Frag) (a : Ac) : Sp := fun vs H Q E => vs.length = (["k"] : List Str).length ∧ t__wall K a E ⟨fun _ H' => Q .non H', Q, F0, F0⟩ (start ["k"] vs) H
def t_is_word (K : PySem.W.Frag) (a : Ac) (E : XK) : TS :=
  tRet (tAndV (tCB ((rIsi K)) (tCons (tVar 0) (tCons (tC (.ty "int")) (tNil)))) (tAndV (tNotV (tCB ((rIsi K)) (tCons (tVar 0) (tCons (tC (.ty "bool")) (tNil))))) (tChain rLeP rLeP (tC (.int 0)) (tVar 0) (tC (.int 999999999)))))
def N_is_word : List Str := ["thing"]
def sp_is_word (K : PySem.W.Frag) (a : Ac) : Sp := fun vs H Q E => vs.length = (["thing"] : List Str).length ∧ t_is_word K a E ⟨fun _ H' => Q .non H', Q, F0, F0⟩ (start ["thing"] vs) H
theorem in_is_word {K : PySem.W.Frag} {a : Ac} {x0 : V} {H : Hp} {Q : VK} {E : XK} (q : t_is_word K a E ⟨fun _ H' => Q .non H', Q, F0, F0⟩ [some x0] H) : sp_is_word K a [x0] H Q E := ⟨rfl, q⟩
def t_empty_row (K : PySem.W.Frag) (a : Ac) (E : XK) : TS :=
  tRet (tOp rMulP (tLst (tCons (tC (.int 0)) (tNil))) (tC (.int 16)))
def N_empty_row : List Str := []
def sp_empty_row (K : PySem.W.Frag) (a : Ac) : Sp := fun vs H Q E => vs.length = ([] : List Str).length ∧ t_empty_row K a E ⟨fun _ H' => Q .non H', Q, F0, F0⟩ (start [] vs) H
theorem in_empty_row {K : PySem.W.Frag} {a : Ac} {H : Hp} {Q : VK} {E : XK} (q : t_empty_row K a E ⟨fun _ H' => Q .non H', Q, F0, F0⟩ [] H) : sp_empty_row K a [] H Q E := ⟨rfl, q⟩
def t_is_kind_bad (K : PySem.W.Frag) (a : Ac) (E : XK) : TS :=
  tSeq (tIfS (tTest (tOp (rEqP K) (tVar 0) (tC (.int 0)))) (tRet (tOp (rNeP K) (tVar 1) (tOp rMulP (tLst (tCons (tC (.int 0)) (tNil))) (tC (.int 8))))) (tNext)) (tSeq (tIfS (tTest (tOp (rEqP K) (tVar 0) (tC (.int 1)))) (tRet (tOp (rNeP K) (tOp (rIxP K) (tVar 1) (tC (.int 0))) (tC (.int 2)))) (tNext)) (tRet (tOp rGtP (tOp (rIxP K) (tVar 1) (tC (.int 0))) (tC (.int 2)))))
def N_is_kind_bad : List Str := ["node", "words"]
def sp_is_kind_bad (K : PySem.W.Frag) (a : Ac) : Sp := fun vs H Q E => vs.length = (["node", "words"] : List Str).length ∧ t_is_kind_bad K a E ⟨fun _ H' => Q .non H', Q, F0, F0⟩ (start ["node", "words"] vs) H
theorem in_is_kind_bad {K : PySem.W.Frag} {a : Ac} {x0 x1 : V} {H : Hp} {Q : VK} {E : XK} (q : t_is_kind_bad K a E ⟨fun _ H' => Q .non H', Q, F0, F0⟩ [some x0, some x1] H) : sp_is_kind_bad K a [x0, x1] H Q E := ⟨rfl, q⟩
def t_is_size_bad (K : PySem.W.Frag) (a : Ac) (E : XK) : TS :=
  tRet (tOrV (tOp rGtP (tOp (rIxP K) (tVar 0) (tC (.int 2))) (tC (.int 320))) (tAndV (tOp (rEqP K) (tOp (rIxP K) (tVar 0) (tC (.int 0))) (tC (.int 2))) (tOp rGtP (tOp rModP (tOp (rIxP K) (tVar 0) (tC (.int 2))) (tC (.int 4))) (tC (.int 0)))))
def N_is_size_bad : List Str := ["words"]
def sp_is_size_bad (K : PySem.W.Frag) (a : Ac) : Sp := fun vs H Q E => vs.length = (["words"] : List Str).length ∧ t_is_size_bad K a E ⟨fun _ H' => Q .non H', Q, F0, F0⟩ (start ["words"] vs) H
theorem in_is_size_bad {K : PySem.W.Frag} {a : Ac} {x0 : V} {H : Hp} {Q : VK} {E : XK} (q : t_is_size_bad K a E ⟨fun _ H' => Q .non H', Q, F0, F0⟩ [some x0] H) : sp_is_size_bad K a [x0] H Q E := ⟨rfl, q⟩
def t_is_data (K : PySem.W.Frag) (a : Ac) (E : XK) : TS :=
  tRet (tChain rLeP rLtP (tFld K (tVar 0) "data_at") (tVar 1) (tFld K (tVar 0) "many"))
def N_is_data : List Str := ["layout", "block"]
def sp_is_data (K : PySem.W.Frag) (a : Ac) : Sp := fun vs H Q E => vs.length = (["layout", "block"] : List Str).length ∧ t_is_data K a E ⟨fun _ H' => Q .non H', Q, F0, F0⟩ (start ["layout", "block"] vs) H
theorem in_is_data {K : PySem.W.Frag} {a : Ac} {x0 x1 : V} {H : Hp} {Q : VK} {E : XK} (q : t_is_data K a E ⟨fun _ H' => Q .non H', Q, F0, F0⟩ [some x0, some x1] H) : sp_is_data K a [x0, x1] H Q E := ⟨rfl, q⟩
def t_wanted_blocks (K : PySem.W.Frag) (a : Ac) (E : XK) : TS :=
  tRet (tOp rDivP (tOp rSubP (tOp rAddP (tOp (rIxP K) (tVar 0) (tC (.int 2))) (tC (.int 16))) (tC (.int 1))) (tC (.int 16)))
def N_wanted_blocks : List Str := ["words"]
def sp_wanted_blocks (K : PySem.W.Frag) (a : Ac) : Sp := fun vs H Q E => vs.length = (["words"] : List Str).length ∧ t_wanted_blocks K a E ⟨fun _ H' => Q .non H', Q, F0, F0⟩ (start ["words"] vs) H
theorem in_wanted_blocks {K : PySem.W.Frag} {a : Ac} {x0 : V} {H : Hp} {Q : VK} {E : XK} (q : t_wanted_blocks K a E ⟨fun _ H' => Q .non H', Q, F0, F0⟩ [some x0] H) : sp_wanted_blocks K a [x0] H Q E := ⟨rfl, q⟩
def t_is_many (K : PySem.W.Frag) (a : Ac) (E : XK) : TS :=
  tRet (tAndV (tCB ((rIsi K)) (tCons (tVar 0) (tCons (tC (.ty "int")) (tNil)))) (tAndV (tNotV (tCB ((rIsi K)) (tCons (tVar 0) (tCons (tC (.ty "bool")) (tNil))))) (tChain rLeP rLeP (tC (.int 24)) (tVar 0) (tC (.int 96)))))
def N_is_many : List Str := ["thing"]
def sp_is_many (K : PySem.W.Frag) (a : Ac) : Sp := fun vs H Q E => vs.length = (["thing"] : List Str).length ∧ t_is_many K a E ⟨fun _ H' => Q .non H', Q, F0, F0⟩ (start ["thing"] vs) H
theorem in_is_many {K : PySem.W.Frag} {a : Ac} {x0 : V} {H : Hp} {Q : VK} {E : XK} (q : t_is_many K a E ⟨fun _ H' => Q .non H', Q, F0, F0⟩ [some x0] H) : sp_is_many K a [x0] H Q E := ⟨rfl, q⟩
def t_Disk_blocks (K : PySem.W.Frag) (a : Ac) (E : XK) : TS :=
  tRet (tCB (rLenP K) (tCons (tFld K (tVar 0) "rows") (tNil)))
def N_Disk_blocks : List Str := ["self"]
def sp_Disk_blocks (K : PySem.W.Frag) (a : Ac) : Sp := fun vs H Q E => vs.length = (["self"] : List Str).length ∧ t_Disk_blocks K a E ⟨fun _ H' => Q .non H', Q, F0, F0⟩ (start ["self"] vs) H
def t_Disk_need (K : PySem.W.Frag) (a : Ac) (E : XK) : TS :=
  tIfS (tOr (tNot (tB (tCB ((rIsi K)) (tCons (tVar 1) (tCons (tC (.ty "int")) (tNil)))))) (tOr (tB (tCB ((rIsi K)) (tCons (tVar 1) (tCons (tC (.ty "bool")) (tNil))))) (tNot (tTest (tChain rLeP rLtP (tC (.int 0)) (tVar 1) (tCB (rLenP K) (tCons (tFld K (tVar 0) "rows") (tNil)))))))) (tRaiseE a.NoBlock (WM E)) (tNext)
def N_Disk_need : List Str := ["self", "block"]
def sp_Disk_need (K : PySem.W.Frag) (a : Ac) : Sp := fun vs H Q E => vs.length = (["self", "block"] : List Str).length ∧ t_Disk_need K a E ⟨fun _ H' => Q .non H', Q, F0, F0⟩ (start ["self", "block"] vs) H
theorem in_Disk_need {K : PySem.W.Frag} {a : Ac} {x0 x1 : V} {H : Hp} {Q : VK} {E : XK} (q : t_Disk_need K a E ⟨fun _ H' => Q .non H', Q, F0, F0⟩ [some x0, some x1] H) : sp_Disk_need K a [x0, x1] H Q E := ⟨rfl, q⟩
def t_Disk_writes (K : PySem.W.Frag) (a : Ac) (E : XK) : TS :=
  tRet (tFld K (tVar 0) "done")
def N_Disk_writes : List Str := ["self"]
def sp_Disk_writes (K : PySem.W.Frag) (a : Ac) : Sp := fun vs H Q E => vs.length = (["self"] : List Str).length ∧ t_Disk_writes K a E ⟨fun _ H' => Q .non H', Q, F0, F0⟩ (start ["self"] vs) H
theorem in_Disk_writes {K : PySem.W.Frag} {a : Ac} {x0 : V} {H : Hp} {Q : VK} {E : XK} (q : t_Disk_writes K a E ⟨fun _ H' => Q .non H', Q, F0, F0⟩ [some x0] H) : sp_Disk_writes K a [x0] H Q E := ⟨rfl, q⟩
def t_is_tables (K : PySem.W.Frag) (a : Ac) (E : XK) : TS :=
  tRet (tAndV (tCB ((rIsi K)) (tCons (tVar 0) (tCons (tC (.ty "int")) (tNil)))) (tAndV (tNotV (tCB ((rIsi K)) (tCons (tVar 0) (tCons (tC (.ty "bool")) (tNil))))) (tChain rLeP rLeP (tC (.int 1)) (tVar 0) (tC (.int 8)))))
def N_is_tables : List Str := ["thing"]
def sp_is_tables (K : PySem.W.Frag) (a : Ac) : Sp := fun vs H Q E => vs.length = (["thing"] : List Str).length ∧ t_is_tables K a E ⟨fun _ H' => Q .non H', Q, F0, F0⟩ (start ["thing"] vs) H
theorem in_is_tables {K : PySem.W.Frag} {a : Ac} {x0 : V} {H : Hp} {Q : VK} {E : XK} (q : t_is_tables K a E ⟨fun _ H' => Q .non H', Q, F0, F0⟩ [some x0] H) : sp_is_tables K a [x0] H Q E := ⟨rfl, q⟩
def t_L_cell_at (K : PySem.W.Frag) (a : Ac) (E : XK) : TS :=
  tSeq (tIfS (tTest (tOp rLtP (tVar 1) (tCB (rLenP K) (tCons (tVar 0) (tNil))))) (tRet (tOp (rIxP K) (tVar 0) (tVar 1))) (tNext)) (tRet (tC (.int 0)))
def N_L_cell_at : List Str := ["_law_script", "_law_k"]
def sp_L_cell_at (K : PySem.W.Frag) (a : Ac) : Sp := fun vs H Q E => vs.length = (["_law_script", "_law_k"] : List Str).length ∧ t_L_cell_at K a E ⟨fun _ H' => Q .non H', Q, F0, F0⟩ (start ["_law_script", "_law_k"] vs) H
theorem in_L_cell_at {K : PySem.W.Frag} {a : Ac} {x0 x1 : V} {H : Hp} {Q : VK} {E : XK} (q : t_L_cell_at K a E ⟨fun _ H' => Q .non H', Q, F0, F0⟩ [some x0, some x1] H) : sp_L_cell_at K a [x0, x1] H Q E := ⟨rfl, q⟩
def t_L_size (K : PySem.W.Frag) (a : Ac) (E : XK) : TS :=
  tSeq (tAsg (tOp (rIxP K) (tLst (tCons (tOp rModP (tVar 0) (tC (.int 70))) (tCons (tOp rModP (tVar 0) (tC (.int 331))) (tCons (tOp rMulP (tC (.int 16)) (tOp rModP (tVar 0) (tC (.int 21)))) (tCons (tOp rAddP (tC (.int 64)) (tOp rModP (tVar 0) (tC (.int 40)))) (tNil)))))) (tOp rModP (tOp rDivP (tVar 0) (tC (.int 331))) (tC (.int 4)))) (gName 2)) (tSeq (tIfS (tAnd (tTest (tOp (rEqP K) (tVar 1) (tC (.int 2)))) (tTest (tOp rGtP (tOp rModP (tOp rDivP (tVar 0) (tC (.int 1324))) (tC (.int 8))) (tC (.int 0))))) (tAsg (tOp rMulP (tOp rDivP (tVar 2) (tC (.int 4))) (tC (.int 4))) (gName 2)) (tNext)) (tRet (tVar 2)))
def N_L_size : List Str := ["_law_cell", "_law_kind", "_law_size_here"]
def sp_L_size (K : PySem.W.Frag) (a : Ac) : Sp := fun vs H Q E => vs.length = (["_law_cell", "_law_kind"] : List Str).length ∧ t_L_size K a E ⟨fun _ H' => Q .non H', Q, F0, F0⟩ (start ["_law_cell", "_law_kind", "_law_size_here"] vs) H
theorem in_L_size {K : PySem.W.Frag} {a : Ac} {x0 x1 : V} {H : Hp} {Q : VK} {E : XK} (q : t_L_size K a E ⟨fun _ H' => Q .non H', Q, F0, F0⟩ [some x0, some x1, none] H) : sp_L_size K a [x0, x1] H Q E := ⟨rfl, q⟩
def t_L_block (K : PySem.W.Frag) (a : Ac) (E : XK) : TS :=
  tSeq (tIfS (tTest (tOp (rEqP K) (tOp rModP (tVar 0) (tC (.int 9))) (tC (.int 0)))) (tRet (tOp (rIxP K) (tLst (tCons (tC (.int 0)) (tCons (tC (.int 1)) (tCons (tC (.int 17)) (tCons (tOp rSubP (tVar 2) (tC (.int 1))) (tCons (tVar 1) (tCons (tOp rAddP (tVar 1) (tOp rModP (tOp rDivP (tVar 0) (tC (.int 9))) (tOp rPowP (tC (.int 10)) (tC (.int 8))))) (tNil)))))))) (tOp rModP (tOp rDivP (tVar 0) (tC (.int 9))) (tC (.int 6))))) (tNext)) (tRet (tOp rAddP (tVar 2) (tOp rModP (tOp rDivP (tVar 0) (tC (.int 9))) (tCB rMin2 (tCons (tC (.int 12)) (tCons (tOp rSubP (tVar 1) (tVar 2)) (tNil)))))))
def N_L_block : List Str := ["_law_cell", "_law_many", "_law_data_at"]
def sp_L_block (K : PySem.W.Frag) (a : Ac) : Sp := fun vs H Q E => vs.length = (["_law_cell", "_law_many", "_law_data_at"] : List Str).length ∧ t_L_block K a E ⟨fun _ H' => Q .non H', Q, F0, F0⟩ (start ["_law_cell", "_law_many", "_law_data_at"] vs) H
theorem in_L_block {K : PySem.W.Frag} {a : Ac} {x0 x1 x2 : V} {H : Hp} {Q : VK} {E : XK} (q : t_L_block K a E ⟨fun _ H' => Q .non H', Q, F0, F0⟩ [some x0, some x1, some x2] H) : sp_L_block K a [x0, x1, x2] H Q E := ⟨rfl, q⟩
def t_L_is_sound (K : PySem.W.Frag) (a : Ac) (E : XK) : TS :=
  tSeq (tIfS (tOr (tTest (tOp (rEqP K) (tVar 0) (tC (.int 0)))) (tOr (tTest (tOp (rNotInP K) (tOp (rIxP K) (tVar 1) (tC (.int 0))) (tTup (tCons (tC (.int 1)) (tCons (tC (.int 2)) (tNil)))))) (tAnd (tTest (tOp (rEqP K) (tVar 0) (tC (.int 1)))) (tTest (tOp (rEqP K) (tOp (rIxP K) (tVar 1) (tC (.int 0))) (tC (.int 1))))))) (tRet (tC (.bl false))) (tNext)) (tRet (tAndV (tOp rLeP (tOp (rIxP K) (tVar 1) (tC (.int 2))) (tC (.int 320))) (tOrV (tOp (rEqP K) (tOp (rIxP K) (tVar 1) (tC (.int 0))) (tC (.int 1))) (tOp (rEqP K) (tOp rModP (tOp (rIxP K) (tVar 1) (tC (.int 2))) (tC (.int 4))) (tC (.int 0))))))
def N_L_is_sound : List Str := ["_law_node", "_law_words_here"]
def sp_L_is_sound (K : PySem.W.Frag) (a : Ac) : Sp := fun vs H Q E => vs.length = (["_law_node", "_law_words_here"] : List Str).length ∧ t_L_is_sound K a E ⟨fun _ H' => Q .non H', Q, F0, F0⟩ (start ["_law_node", "_law_words_here"] vs) H
theorem in_L_is_sound {K : PySem.W.Frag} {a : Ac} {x0 x1 : V} {H : Hp} {Q : VK} {E : XK} (q : t_L_is_sound K a E ⟨fun _ H' => Q .non H', Q, F0, F0⟩ [some x0, some x1] H) : sp_L_is_sound K a [x0, x1] H Q E := ⟨rfl, q⟩
def t_is_row (K : PySem.W.Frag) (a : Ac) (E : XK) : TS :=
  tRet (tAndV (tCB ((rIsi K)) (tCons (tVar 0) (tCons (tC (.ty "list")) (tNil)))) (tAndV (tOp (rEqP K) (tCB (rLenP K) (tCons (tVar 0) (tNil))) (tC (.int 16))) (tCB ((rAll K)) (tCons (tLc (iSeqP K (tVar 0)) (gName 1) (tYes) (tCallS (sp_is_word K a) (WE W0) (tCons (tVar 1) (tNil))) [1]) (tNil)))))
def N_is_row : List Str := ["thing", "word"]
def sp_is_row (K : PySem.W.Frag) (a : Ac) : Sp := fun vs H Q E => vs.length = (["thing"] : List Str).length ∧ t_is_row K a E ⟨fun _ H' => Q .non H', Q, F0, F0⟩ (start ["thing", "word"] vs) H
theorem in_is_row {K : PySem.W.Frag} {a : Ac} {x0 : V} {H : Hp} {Q : VK} {E : XK} (q : t_is_row K a E ⟨fun _ H' => Q .non H', Q, F0, F0⟩ [some x0, none] H) : sp_is_row K a [x0] H Q E := ⟨rfl, q⟩
def t_is_sound (K : PySem.W.Frag) (a : Ac) (E : XK) : TS :=
  tRet (tAndV (tOp rGtP (tVar 0) (tC (.int 0))) (tAndV (tOp (rInP K) (tOp (rIxP K) (tVar 1) (tC (.int 0))) (tTup (tCons (tC (.int 1)) (tCons (tC (.int 2)) (tNil))))) (tAndV (tNotV (tCallS (sp_is_kind_bad K a) (WE (WM E)) (tCons (tVar 0) (tCons (tVar 1) (tNil))))) (tNotV (tCallS (sp_is_size_bad K a) (WE (WM E)) (tCons (tVar 1) (tNil)))))))
def N_is_sound : List Str := ["node", "words"]
def sp_is_sound (K : PySem.W.Frag) (a : Ac) : Sp := fun vs H Q E => vs.length = (["node", "words"] : List Str).length ∧ t_is_sound K a E ⟨fun _ H' => Q .non H', Q, F0, F0⟩ (start ["node", "words"] vs) H
theorem in_is_sound {K : PySem.W.Frag} {a : Ac} {x0 x1 : V} {H : Hp} {Q : VK} {E : XK} (q : t_is_sound K a E ⟨fun _ H' => Q .non H', Q, F0, F0⟩ [some x0, some x1] H) : sp_is_sound K a [x0, x1] H Q E := ⟨rfl, q⟩
def t_Disk_init (K : PySem.W.Frag) (a : Ac) (E : XK) : TS :=
  tSeq (tIfS (tNot (tB (tCallS (sp_is_many K a) (WE (WM E)) (tCons (tVar 1) (tNil))))) (tRaiseE a.BadDisk (WM E)) (tNext)) (tSeq (sFld K (tVar 0) (tLc (iRng1 (tCons (tVar 1) (tNil))) (gName 2) (tYes) (tCall0 (sp_empty_row K a) (WE W0)) [2]) "rows") (tSeq (sFld K (tVar 0) (tC (.int 0)) "done") (sFld K (tVar 0) (tC .non) "left")))
def N_Disk_init : List Str := ["self", "many", "k"]
def sp_Disk_init (K : PySem.W.Frag) (a : Ac) : Sp := fun vs H Q E => vs.length = (["self", "many"] : List Str).length ∧ t_Disk_init K a E ⟨fun _ H' => Q .non H', Q, F0, F0⟩ (start ["self", "many", "k"] vs) H
theorem in_Disk_init {K : PySem.W.Frag} {a : Ac} {x0 x1 : V} {H : Hp} {Q : VK} {E : XK} (q : t_Disk_init K a E ⟨fun _ H' => Q .non H', Q, F0, F0⟩ [some x0, some x1, none] H) : sp_Disk_init K a [x0, x1] H Q E := ⟨rfl, q⟩
def t_Disk_read (K : PySem.W.Frag) (a : Ac) (E : XK) : TS :=
  tSeq (tDrop (tMethP "need" [(a.Disk, sp_Disk_need K a)] (WE (WM E)) (tVar 0) (tCons (tVar 1) (tNil)))) (tRet (tCB ((rListP K)) (tCons (tOp (rIxP K) (tFld K (tVar 0) "rows") (tVar 1)) (tNil))))
def N_Disk_read : List Str := ["self", "block"]
def sp_Disk_read (K : PySem.W.Frag) (a : Ac) : Sp := fun vs H Q E => vs.length = (["self", "block"] : List Str).length ∧ t_Disk_read K a E ⟨fun _ H' => Q .non H', Q, F0, F0⟩ (start ["self", "block"] vs) H
theorem in_Disk_read {K : PySem.W.Frag} {a : Ac} {x0 x1 : V} {H : Hp} {Q : VK} {E : XK} (q : t_Disk_read K a E ⟨fun _ H' => Q .non H', Q, F0, F0⟩ [some x0, some x1] H) : sp_Disk_read K a [x0, x1] H Q E := ⟨rfl, q⟩
def t_Disk_stop_after (K : PySem.W.Frag) (a : Ac) (E : XK) : TS :=
  tDrop (tCallS (sp__wall K a) (WE (WM E)) (tCons (tC (.int 0)) (tNil)))
def N_Disk_stop_after : List Str := ["self", "count"]
def sp_Disk_stop_after (K : PySem.W.Frag) (a : Ac) : Sp := fun vs H Q E => vs.length = (["self", "count"] : List Str).length ∧ t_Disk_stop_after K a E ⟨fun _ H' => Q .non H', Q, F0, F0⟩ (start ["self", "count"] vs) H
def t_Disk_go_on (K : PySem.W.Frag) (a : Ac) (E : XK) : TS :=
  tDrop (tCallS (sp__wall K a) (WE (WM E)) (tCons (tC (.int 1)) (tNil)))
def N_Disk_go_on : List Str := ["self"]
def sp_Disk_go_on (K : PySem.W.Frag) (a : Ac) : Sp := fun vs H Q E => vs.length = (["self"] : List Str).length ∧ t_Disk_go_on K a E ⟨fun _ H' => Q .non H', Q, F0, F0⟩ (start ["self"] vs) H
def t_Disk_twin (K : PySem.W.Frag) (a : Ac) (E : XK) : TS :=
  tDrop (tCallS (sp__wall K a) (WE (WM E)) (tCons (tC (.int 2)) (tNil)))
def N_Disk_twin : List Str := ["self"]
def sp_Disk_twin (K : PySem.W.Frag) (a : Ac) : Sp := fun vs H Q E => vs.length = (["self"] : List Str).length ∧ t_Disk_twin K a E ⟨fun _ H' => Q .non H', Q, F0, F0⟩ (start ["self"] vs) H
def t_Layout_init (K : PySem.W.Frag) (a : Ac) (E : XK) : TS :=
  tSeq (tIfS (tOr (tNot (tB (tCallS (sp_is_many K a) (WE (WM E)) (tCons (tVar 1) (tNil))))) (tNot (tB (tCallS (sp_is_tables K a) (WE (WM E)) (tCons (tVar 2) (tNil)))))) (tRaiseE a.BadDisk (WM E)) (tNext)) (tSeq (sFld K (tVar 0) (tVar 1) "many") (tSeq (sFld K (tVar 0) (tVar 2) "tables") (tSeq (sFld K (tVar 0) (tC (.int 17)) "maps_at") (tSeq (sFld K (tVar 0) (tOp rAddP (tC (.int 17)) (tOp rDivP (tOp rSubP (tOp rAddP (tVar 1) (tC (.int 16))) (tC (.int 1))) (tC (.int 16)))) "nodes_at") (tSeq (sFld K (tVar 0) (tOp rAddP (tFld K (tVar 0) "nodes_at") (tVar 2)) "data_at") (tIfS (tTest (tOp rGeP (tFld K (tVar 0) "data_at") (tVar 1))) (tRaiseE a.NoRoom (WM E)) (tNext)))))))
def N_Layout_init : List Str := ["self", "many", "tables"]
def sp_Layout_init (K : PySem.W.Frag) (a : Ac) : Sp := fun vs H Q E => vs.length = (["self", "many", "tables"] : List Str).length ∧ t_Layout_init K a E ⟨fun _ H' => Q .non H', Q, F0, F0⟩ (start ["self", "many", "tables"] vs) H
theorem in_Layout_init {K : PySem.W.Frag} {a : Ac} {x0 x1 x2 : V} {H : Hp} {Q : VK} {E : XK} (q : t_Layout_init K a E ⟨fun _ H' => Q .non H', Q, F0, F0⟩ [some x0, some x1, some x2] H) : sp_Layout_init K a [x0, x1, x2] H Q E := ⟨rfl, q⟩
def t_Layout_most_node (K : PySem.W.Frag) (a : Ac) (E : XK) : TS :=
  tDrop (tCallS (sp__wall K a) (WE (WM E)) (tCons (tC (.int 3)) (tNil)))
def N_Layout_most_node : List Str := ["self"]
def sp_Layout_most_node (K : PySem.W.Frag) (a : Ac) : Sp := fun vs H Q E => vs.length = (["self"] : List Str).length ∧ t_Layout_most_node K a E ⟨fun _ H' => Q .non H', Q, F0, F0⟩ (start ["self"] vs) H
def t_L_words (K : PySem.W.Frag) (a : Ac) (E : XK) : TS :=
  tSeq (tAsg (tOp (rIxP K) (tLst (tCons (tC (.int 0)) (tCons (tC (.int 1)) (tCons (tC (.int 1)) (tCons (tC (.int 2)) (tCons (tC (.int 2)) (tCons (tC (.int 1)) (tCons (tC (.int 2)) (tCons (tOp rAddP (tC (.int 3)) (tOp rModP (tOp rDivP (tVar 0) (tC (.int 8))) (tC (.int 9)))) (tNil)))))))))) (tOp rModP (tVar 0) (tC (.int 8)))) (gName 4)) (tSeq (tIfS (tTest (tOp (rEqP K) (tVar 4) (tC (.int 0)))) (tRet (tOp rAddP (tOp rMulP (tLst (tCons (tC (.int 0)) (tNil))) (tC (.int 7))) (tLst (tCons (tOp rMulP (tCB (rIntP) (tCons (tOp (rEqP K) (tOp rModP (tOp rDivP (tVar 0) (tC (.int 8))) (tC (.int 4))) (tC (.int 1))) (tNil))) (tOp rModP (tVar 1) (tC (.int 100)))) (tNil))))) (tNext)) (tSeq (tAsg (tLc (iRng1 (tCons (tC (.int 5)) (tNil))) (gName 6) (tYes) (tCallS (sp_L_block K a) (WE W0) (tCons (tOp rAddP (tOp rDivP (tVar 1) (tOp rAddP (tC (.int 1)) (tOp rMulP (tC (.int 3)) (tVar 6)))) (tOp rMulP (tC (.int 5)) (tVar 6))) (tCons (tVar 2) (tCons (tVar 3) (tNil))))) [6]) (gName 5)) (tRet (tOp rAddP (tLst (tCons (tVar 4) (tCons (tC (.int 1)) (tCons (tCallS (sp_L_size K a) (WE (WM E)) (tCons (tOp rDivP (tVar 0) (tC (.int 8))) (tCons (tVar 4) (tNil)))) (tNil))))) (tVar 5)))))
def N_L_words : List Str := ["_law_cell", "_law_more", "_law_many", "_law_data_at", "_law_kind", "_law_places_here", "_law_k"]
def sp_L_words (K : PySem.W.Frag) (a : Ac) : Sp := fun vs H Q E => vs.length = (["_law_cell", "_law_more", "_law_many", "_law_data_at"] : List Str).length ∧ t_L_words K a E ⟨fun _ H' => Q .non H', Q, F0, F0⟩ (start ["_law_cell", "_law_more", "_law_many", "_law_data_at", "_law_kind", "_law_places_here", "_law_k"] vs) H
theorem in_L_words {K : PySem.W.Frag} {a : Ac} {x0 x1 x2 x3 : V} {H : Hp} {Q : VK} {E : XK} (q : t_L_words K a E ⟨fun _ H' => Q .non H', Q, F0, F0⟩ [some x0, some x1, some x2, some x3, none, none, none] H) : sp_L_words K a [x0, x1, x2, x3] H Q E := ⟨rfl, q⟩
def t_need_row (K : PySem.W.Frag) (a : Ac) (E : XK) : TS :=
  tSeq (tIfS (tNot (tB (tCallS (sp_is_row K a) (WE (WM E)) (tCons (tVar 0) (tNil))))) (tRaiseE a.BadRow (WM E)) (tNext)) (tRet (tCB ((rListP K)) (tCons (tVar 0) (tNil))))
def N_need_row : List Str := ["thing"]
def sp_need_row (K : PySem.W.Frag) (a : Ac) : Sp := fun vs H Q E => vs.length = (["thing"] : List Str).length ∧ t_need_row K a E ⟨fun _ H' => Q .non H', Q, F0, F0⟩ (start ["thing"] vs) H
theorem in_need_row {K : PySem.W.Frag} {a : Ac} {x0 : V} {H : Hp} {Q : VK} {E : XK} (q : t_need_row K a E ⟨fun _ H' => Q .non H', Q, F0, F0⟩ [some x0] H) : sp_need_row K a [x0] H Q E := ⟨rfl, q⟩
def t_node_rows (K : PySem.W.Frag) (a : Ac) (E : XK) : TS :=
  tSeq (tAsg (tLst (tNil)) (gName 2)) (tSeq (tFor (iRng2 (tCons (tFld K (tVar 1) "nodes_at") (tCons (tFld K (tVar 1) "data_at") (tNil)))) (gName 3) (tSeq (tAsg (tMethP "read" [(a.Disk, sp_Disk_read K a)] (WE (WM E)) (tVar 0) (tCons (tVar 3) (tNil))) (gName 4)) (tAsg (tOp rAddP (tVar 2) (tLst (tCons (tSl (rSlP K) (tVar 4) (tNoPart) (tPart (tC (.int 8)))) (tCons (tSl (rSlP K) (tVar 4) (tPart (tC (.int 8))) (tNoPart)) (tNil))))) (gName 2)))) (tRet (tVar 2)))
def N_node_rows : List Str := ["disk", "layout", "found", "block", "row"]
def sp_node_rows (K : PySem.W.Frag) (a : Ac) : Sp := fun vs H Q E => vs.length = (["disk", "layout"] : List Str).length ∧ t_node_rows K a E ⟨fun _ H' => Q .non H', Q, F0, F0⟩ (start ["disk", "layout", "found", "block", "row"] vs) H
theorem in_node_rows {K : PySem.W.Frag} {a : Ac} {x0 x1 : V} {H : Hp} {Q : VK} {E : XK} (q : t_node_rows K a E ⟨fun _ H' => Q .non H', Q, F0, F0⟩ [some x0, some x1, none, none, none] H) : sp_node_rows K a [x0, x1] H Q E := ⟨rfl, q⟩
def t_places_told (K : PySem.W.Frag) (a : Ac) (E : XK) : TS :=
  tSeq (tAsg (tCallS (sp_wanted_blocks K a) (WE (WM E)) (tCons (tVar 2) (tNil))) (gName 3)) (tSeq (tAsg (tLc (iRng1 (tCons (tCB rMin2 (tCons (tC (.int 4)) (tCons (tVar 3) (tNil)))) (tNil))) (gName 6) (tYes) (tTup (tCons (tVar 6) (tCons (tOp (rIxP K) (tVar 2) (tOp rAddP (tC (.int 3)) (tVar 6))) (tNil)))) [6]) (gName 4)) (tSeq (tIfS (tTest (tOp rGtP (tVar 3) (tC (.int 4)))) (tSeq (tDrop (tBM K "list" rAppend (tVar 4) (tCons (tTup (tCons (tC (.int (-1))) (tCons (tOp (rIxP K) (tVar 2) (tC (.int 7))) (tNil)))) (tNil)))) (tIfS (tB (tCallS (sp_is_data K a) (WE (WM E)) (tCons (tVar 1) (tCons (tOp (rIxP K) (tVar 2) (tC (.int 7))) (tNil))))) (tSeq (tAsg (tMethP "read" [(a.Disk, sp_Disk_read K a)] (WE (WM E)) (tVar 0) (tCons (tOp (rIxP K) (tVar 2) (tC (.int 7))) (tNil))) (gName 5)) (tAsg (tOp rAddP (tVar 4) (tLc (iRng1 (tCons (tOp rSubP (tVar 3) (tC (.int 4))) (tNil))) (gName 7) (tYes) (tTup (tCons (tOp rAddP (tC (.int 4)) (tVar 7)) (tCons (tOp (rIxP K) (tVar 5) (tVar 7)) (tNil)))) [7])) (gName 4))) (tNext))) (tNext)) (tRet (tVar 4))))
def N_places_told : List Str := ["disk", "layout", "words", "wanted", "found", "row", "place", "k"]
def sp_places_told (K : PySem.W.Frag) (a : Ac) : Sp := fun vs H Q E => vs.length = (["disk", "layout", "words"] : List Str).length ∧ t_places_told K a E ⟨fun _ H' => Q .non H', Q, F0, F0⟩ (start ["disk", "layout", "words", "wanted", "found", "row", "place", "k"] vs) H
theorem in_places_told {K : PySem.W.Frag} {a : Ac} {x0 x1 x2 : V} {H : Hp} {Q : VK} {E : XK} (q : t_places_told K a E ⟨fun _ H' => Q .non H', Q, F0, F0⟩ [some x0, some x1, some x2, none, none, none, none, none] H) : sp_places_told K a [x0, x1, x2] H Q E := ⟨rfl, q⟩
def t_L_places (K : PySem.W.Frag) (a : Ac) (E : XK) : TS :=
  tSeq (tAsg (tOp rDivP (tOp rAddP (tOp (rIxP K) (tVar 1) (tC (.int 2))) (tC (.int 15))) (tC (.int 16))) (gName 4)) (tSeq (tAsg (tLc (iRng1 (tCons (tC (.int 4)) (tNil))) (gName 7) (tTest (tOp rLtP (tVar 7) (tVar 4))) (tTup (tCons (tVar 7) (tCons (tOp (rIxP K) (tVar 1) (tOp rAddP (tC (.int 3)) (tVar 7))) (tNil)))) [7]) (gName 5)) (tSeq (tIfS (tTest (tOp rGtP (tVar 4) (tC (.int 4)))) (tSeq (tAsg (tOp rAddP (tLst (tCons (tTup (tCons (tUn (rU fun i => .int (-i)) (tC (.int 1))) (tCons (tOp (rIxP K) (tVar 1) (tC (.int 7))) (tNil)))) (tNil))) (tVar 5)) (gName 5)) (tIfS (tTest (tChain rLeP rLtP (tVar 3) (tOp (rIxP K) (tVar 1) (tC (.int 7))) (tVar 2))) (tSeq (tAsg (tMethP "read" [(a.Disk, sp_Disk_read K a)] (WE (WM E)) (tVar 0) (tCons (tOp (rIxP K) (tVar 1) (tC (.int 7))) (tNil))) (gName 6)) (tAsg (tOp rAddP (tVar 5) (tLc (iRng2 (tCons (tC (.int 4)) (tCons (tVar 4) (tNil)))) (gName 7) (tYes) (tTup (tCons (tVar 7) (tCons (tOp (rIxP K) (tVar 6) (tOp rSubP (tVar 7) (tC (.int 4)))) (tNil)))) [7])) (gName 5))) (tNext))) (tNext)) (tRet (tLc (iSeqP K (tVar 5)) (gName 8) (tTest (tChain rLeP rLtP (tVar 3) (tOp (rIxP K) (tVar 8) (tC (.int 1))) (tVar 2))) (tVar 8) [8]))))
def N_L_places : List Str := ["_law_disk", "_law_words_here", "_law_many", "_law_data_at", "_law_count", "_law_found", "_law_row", "_law_k", "_law_pair"]
def sp_L_places (K : PySem.W.Frag) (a : Ac) : Sp := fun vs H Q E => vs.length = (["_law_disk", "_law_words_here", "_law_many", "_law_data_at"] : List Str).length ∧ t_L_places K a E ⟨fun _ H' => Q .non H', Q, F0, F0⟩ (start ["_law_disk", "_law_words_here", "_law_many", "_law_data_at", "_law_count", "_law_found", "_law_row", "_law_k", "_law_pair"] vs) H
theorem in_L_places {K : PySem.W.Frag} {a : Ac} {x0 x1 x2 x3 : V} {H : Hp} {Q : VK} {E : XK} (q : t_L_places K a E ⟨fun _ H' => Q .non H', Q, F0, F0⟩ [some x0, some x1, some x2, some x3, none, none, none, none, none] H) : sp_L_places K a [x0, x1, x2, x3] H Q E := ⟨rfl, q⟩
def t_L_nodes (K : PySem.W.Frag) (a : Ac) (E : XK) : TS :=
  tSeq (tAsg (tLst (tCons (tOp rMulP (tLst (tCons (tC (.int 0)) (tNil))) (tC (.int 8))) (tNil))) (gName 2)) (tSeq (tFor (iRng2 (tCons (tC (.int 1)) (tCons (tOp rMulP (tC (.int 2)) (tFld K (tVar 1) "tables")) (tNil)))) (gName 3) (tSeq (tAsg (tCallS (sp_L_cell_at K a) (WE (WM E)) (tCons (tVar 0) (tCons (tOp rMulP (tC (.int 2)) (tVar 3)) (tNil)))) (gName 4)) (tSeq (tAsg (tCallS (sp_L_cell_at K a) (WE (WM E)) (tCons (tVar 0) (tCons (tOp rAddP (tOp rMulP (tC (.int 2)) (tVar 3)) (tC (.int 1))) (tNil)))) (gName 5)) (tDrop (tBM K "list" rAppend (tVar 2) (tCons (tCallS (sp_L_words K a) (WE (WM E)) (tCons (tVar 4) (tCons (tVar 5) (tCons (tFld K (tVar 1) "many") (tCons (tFld K (tVar 1) "data_at") (tNil)))))) (tNil))))))) (tSeq (tIfS (tTest (tOp (rEqP K) (tOp rModP (tOp rDivP (tCallS (sp_L_cell_at K a) (WE (WM E)) (tCons (tVar 0) (tCons (tC (.int 1)) (tNil)))) (tC (.int 8))) (tC (.int 5))) (tC (.int 1)))) (tAsg (tLst (tCons (tC (.int 1)) (tCons (tC (.int 1)) (tCons (tC (.int 16)) (tCons (tFld K (tVar 1) "data_at") (tCons (tC (.int 0)) (tCons (tC (.int 0)) (tCons (tC (.int 0)) (tCons (tC (.int 0)) (tNil)))))))))) (gSub (tVar 2) (tC (.int 0)) rSetL)) (tNext)) (tRet (tVar 2))))
def N_L_nodes : List Str := ["_law_script", "_law_layout", "_law_nodes_here", "_law_node", "_law_cell", "_law_more"]
def sp_L_nodes (K : PySem.W.Frag) (a : Ac) : Sp := fun vs H Q E => vs.length = (["_law_script", "_law_layout"] : List Str).length ∧ t_L_nodes K a E ⟨fun _ H' => Q .non H', Q, F0, F0⟩ (start ["_law_script", "_law_layout", "_law_nodes_here", "_law_node", "_law_cell", "_law_more"] vs) H
theorem in_L_nodes {K : PySem.W.Frag} {a : Ac} {x0 x1 : V} {H : Hp} {Q : VK} {E : XK} (q : t_L_nodes K a E ⟨fun _ H' => Q .non H', Q, F0, F0⟩ [some x0, some x1, none, none, none, none] H) : sp_L_nodes K a [x0, x1] H Q E := ⟨rfl, q⟩
def t_users (K : PySem.W.Frag) (a : Ac) (E : XK) : TS :=
  tSeq (tAsg (tLc (iRng1 (tCons (tFld K (tVar 1) "data_at") (tNil))) (gName 6) (tYes) (tLst (tCons (tTup (tCons (tC (.str "kept")) (tNil))) (tNil))) [6]) (gName 2)) (tSeq (tAsg (tOp rAddP (tVar 2) (tLc (iRng2 (tCons (tFld K (tVar 1) "data_at") (tCons (tFld K (tVar 1) "many") (tNil)))) (gName 6) (tYes) (tLst (tNil)) [6])) (gName 2)) (tSeq (tFor (iEnum K (tCons (tCallS (sp_node_rows K a) (WE (WM E)) (tCons (tVar 0) (tCons (tVar 1) (tNil)))) (tNil))) (gTupP K 2 (gCons (gName 3) (gCons (gName 4) (gNil)))) (tIfS (tB (tCallS (sp_is_sound K a) (WE (WM E)) (tCons (tVar 3) (tCons (tVar 4) (tNil))))) (tFor (iSeqP K (tCallS (sp_places_told K a) (WE (WM E)) (tCons (tVar 0) (tCons (tVar 1) (tCons (tVar 4) (tNil)))))) (gTupP K 2 (gCons (gName 5) (gCons (gName 6) (gNil)))) (tIfS (tB (tCallS (sp_is_data K a) (WE (WM E)) (tCons (tVar 1) (tCons (tVar 6) (tNil))))) (tDrop (tBM K "list" rAppend (tOp (rIxP K) (tVar 2) (tVar 6)) (tCons (tTup (tCons (tVar 3) (tCons (tVar 5) (tNil)))) (tNil)))) (tNext))) (tNext))) (tRet (tLc (iSeqP K (tVar 2)) (gName 7) (tYes) (tCB (rSortedW K) (tCons (tVar 7) (tNil))) [7]))))
def N_users : List Str := ["disk", "layout", "found", "node", "words", "place", "block", "row"]
def sp_users (K : PySem.W.Frag) (a : Ac) : Sp := fun vs H Q E => vs.length = (["disk", "layout"] : List Str).length ∧ t_users K a E ⟨fun _ H' => Q .non H', Q, F0, F0⟩ (start ["disk", "layout", "found", "node", "words", "place", "block", "row"] vs) H
theorem in_users {K : PySem.W.Frag} {a : Ac} {x0 x1 : V} {H : Hp} {Q : VK} {E : XK} (q : t_users K a E ⟨fun _ H' => Q .non H', Q, F0, F0⟩ [some x0, some x1, none, none, none, none, none, none] H) : sp_users K a [x0, x1] H Q E := ⟨rfl, q⟩
def t_Disk_write (K : PySem.W.Frag) (a : Ac) (E : XK) : TS :=
  tSeq (tDrop (tMethP "need" [(a.Disk, sp_Disk_need K a)] (WE (WM E)) (tVar 0) (tCons (tVar 1) (tNil)))) (tSeq (tAsg (tCallS (sp_need_row K a) (WE (WM E)) (tCons (tVar 2) (tNil))) (gName 3)) (tSeq (tIfS (tTest (tOp (rEqP K) (tFld K (tVar 0) "left") (tC (.int 0)))) (tRaiseE a.Stopped (WM E)) (tNext)) (tSeq (tIfS (tTest (tOp rIsNotP (tFld K (tVar 0) "left") (tC .non))) (sFld K (tVar 0) (tOp rSubP (tFld K (tVar 0) "left") (tC (.int 1))) "left") (tNext)) (tSeq (tAsg (tVar 3) (gSub (tFld K (tVar 0) "rows") (tVar 1) rSetL)) (sFld K (tVar 0) (tOp rAddP (tFld K (tVar 0) "done") (tC (.int 1))) "done")))))
def N_Disk_write : List Str := ["self", "block", "row", "kept"]
def sp_Disk_write (K : PySem.W.Frag) (a : Ac) : Sp := fun vs H Q E => vs.length = (["self", "block", "row"] : List Str).length ∧ t_Disk_write K a E ⟨fun _ H' => Q .non H', Q, F0, F0⟩ (start ["self", "block", "row", "kept"] vs) H
theorem in_Disk_write {K : PySem.W.Frag} {a : Ac} {x0 x1 x2 : V} {H : Hp} {Q : VK} {E : XK} (q : t_Disk_write K a E ⟨fun _ H' => Q .non H', Q, F0, F0⟩ [some x0, some x1, some x2, none] H) : sp_Disk_write K a [x0, x1, x2] H Q E := ⟨rfl, q⟩
def t_L_written (K : PySem.W.Frag) (a : Ac) (E : XK) : TS :=
  tSeq (tAsg (tFld K (tVar 1) "many") (gName 3)) (tSeq (tAsg (tFld K (tVar 1) "data_at") (gName 4)) (tSeq (tAsg (tMakeE a.Disk (sp_Disk_init K a) (WE (WM E)) (tCons (tVar 3) (tNil))) (gName 5)) (tSeq (tFor (iRng1 (tCons (tFld K (tVar 1) "tables") (tNil))) (gName 6) (tDrop (tMethP "write" [(a.Disk, sp_Disk_write K a)] (WE (WM E)) (tVar 5) (tCons (tOp rAddP (tFld K (tVar 1) "nodes_at") (tVar 6)) (tCons (tOp rAddP (tOp (rIxP K) (tVar 2) (tOp rMulP (tC (.int 2)) (tVar 6))) (tOp (rIxP K) (tVar 2) (tOp rAddP (tOp rMulP (tC (.int 2)) (tVar 6)) (tC (.int 1))))) (tNil)))))) (tSeq (tFor (iRng1 (tCons (tCB rMin2 (tCons (tC (.int 12)) (tCons (tOp rSubP (tVar 3) (tVar 4)) (tNil)))) (tNil))) (gName 6) (tSeq (tAsg (tCallS (sp_L_cell_at K a) (WE (WM E)) (tCons (tVar 0) (tCons (tOp rAddP (tC (.int 32)) (tVar 6)) (tNil)))) (gName 7)) (tSeq (tAsg (tLc (iRng1 (tCons (tC (.int 16)) (tNil))) (gName 9) (tYes) (tCallS (sp_L_block K a) (WE W0) (tCons (tOp rAddP (tOp rDivP (tVar 7) (tOp rAddP (tC (.int 1)) (tVar 9))) (tOp rMulP (tC (.int 11)) (tVar 9))) (tCons (tVar 3) (tCons (tVar 4) (tNil))))) [9]) (gName 8)) (tDrop (tMethP "write" [(a.Disk, sp_Disk_write K a)] (WE (WM E)) (tVar 5) (tCons (tOp rAddP (tVar 4) (tVar 6)) (tCons (tVar 8) (tNil)))))))) (tRet (tVar 5))))))
def N_L_written : List Str := ["_law_script", "_law_layout", "_law_nodes_here", "_law_many", "_law_data_at", "_law_disk", "_law_k", "_law_cell", "_law_row", "_law_j"]
def sp_L_written (K : PySem.W.Frag) (a : Ac) : Sp := fun vs H Q E => vs.length = (["_law_script", "_law_layout", "_law_nodes_here"] : List Str).length ∧ t_L_written K a E ⟨fun _ H' => Q .non H', Q, F0, F0⟩ (start ["_law_script", "_law_layout", "_law_nodes_here", "_law_many", "_law_data_at", "_law_disk", "_law_k", "_law_cell", "_law_row", "_law_j"] vs) H
theorem in_L_written {K : PySem.W.Frag} {a : Ac} {x0 x1 x2 : V} {H : Hp} {Q : VK} {E : XK} (q : t_L_written K a E ⟨fun _ H' => Q .non H', Q, F0, F0⟩ [some x0, some x1, some x2, none, none, none, none, none, none, none] H) : sp_L_written K a [x0, x1, x2] H Q E := ⟨rfl, q⟩
def t_L_is_told (K : PySem.W.Frag) (a : Ac) (E : XK) : TS :=
  tSeq (tAsg (tFld K (tVar 1) "many") (gName 4)) (tSeq (tAsg (tFld K (tVar 1) "data_at") (gName 5)) (tSeq (tAsg (tLc (iRng1 (tCons (tVar 5) (tNil))) (gName 9) (tYes) (tLst (tCons (tTup (tCons (tC (.str "kept")) (tNil))) (tNil))) [9]) (gName 6)) (tSeq (tAsg (tOp rAddP (tVar 6) (tLc (iRng1 (tCons (tOp rSubP (tVar 4) (tVar 5)) (tNil))) (gName 9) (tYes) (tLst (tNil)) [9])) (gName 6)) (tSeq (tFor (iRng2 (tCons (tC (.int 1)) (tCons (tOp rMulP (tC (.int 2)) (tFld K (tVar 1) "tables")) (tNil)))) (gName 7) (tIfS (tB (tCallS (sp_L_is_sound K a) (WE (WM E)) (tCons (tVar 7) (tCons (tOp (rIxP K) (tVar 2) (tVar 7)) (tNil))))) (tFor (iSeqP K (tCB (rSortedW K) (tCons (tCallS (sp_L_places K a) (WE (WM E)) (tCons (tVar 0) (tCons (tOp (rIxP K) (tVar 2) (tVar 7)) (tCons (tVar 4) (tCons (tVar 5) (tNil)))))) (tNil)))) (gTupP K 2 (gCons (gName 8) (gCons (gName 9) (gNil)))) (tDrop (tBM K "list" rAppend (tOp (rIxP K) (tVar 6) (tVar 9)) (tCons (tTup (tCons (tVar 7) (tCons (tVar 8) (tNil)))) (tNil))))) (tNext))) (tSeq (tAsg (tMethP "writes" [(a.Disk, sp_Disk_writes K a)] (WE (WM E)) (tVar 0) tNil) (gName 10)) (tSeq (tAsg (tCallS (sp_users K a) (WE (WM E)) (tCons (tVar 0) (tCons (tVar 1) (tNil)))) (gName 11)) (tSeq (tIfS (tOr (tNot (tB (tCB ((rIsi K)) (tCons (tVar 11) (tCons (tC (.ty "list")) (tNil)))))) (tOr (tTest (tOp (rNeP K) (tVar 11) (tVar 6))) (tTest (tOp (rNeP K) (tMethP "writes" [(a.Disk, sp_Disk_writes K a)] (WE (WM E)) (tVar 0) tNil) (tVar 10))))) (tRet (tC (.bl false))) (tNext)) (tSeq (tIfS (tTest (tOp (rNeP K) (tLc (iSeqP K (tVar 11)) (gName 13) (tNot (tB (tCB ((rIsi K)) (tCons (tVar 13) (tCons (tC (.ty "list")) (tNil)))))) (tVar 13) [13]) (tLst (tNil)))) (tRet (tC (.bl false))) (tNext)) (tSeq (tDrop (tBM K "list" rAppend (tVar 3) (tCons (tTup (tCons (tVar 11) (tCons (tLc (iSeqP K (tVar 11)) (gName 13) (tYes) (tCB ((rListP K)) (tCons (tVar 13) (tNil))) [13]) (tNil)))) (tNil)))) (tSeq (tAsg (tCallS (sp_users K a) (WE (WM E)) (tCons (tVar 0) (tCons (tVar 1) (tNil)))) (gName 12)) (tSeq (tDrop (tBM0 K "list" rClear (tOp (rIxP K) (tVar 12) (tC (.int 0))))) (tSeq (tDrop (tBM0 K "list" rPop (tVar 12))) (tRet (tOp (rEqP K) (tLc (iSeqP K (tVar 3)) (gName 14) (tTest (tOp (rNeP K) (tOp (rIxP K) (tVar 14) (tC (.int 0))) (tOp (rIxP K) (tVar 14) (tC (.int 1))))) (tVar 14) [14]) (tLst (tNil))))))))))))))))
def N_L_is_told : List Str := ["_law_disk", "_law_layout", "_law_nodes_here", "_law_held", "_law_many", "_law_data_at", "_law_due", "_law_node", "_law_place", "_law_block_here", "_law_writes", "_law_found", "_law_again", "_law_row", "_law_pair"]
def sp_L_is_told (K : PySem.W.Frag) (a : Ac) : Sp := fun vs H Q E => vs.length = (["_law_disk", "_law_layout", "_law_nodes_here", "_law_held"] : List Str).length ∧ t_L_is_told K a E ⟨fun _ H' => Q .non H', Q, F0, F0⟩ (start ["_law_disk", "_law_layout", "_law_nodes_here", "_law_held", "_law_many", "_law_data_at", "_law_due", "_law_node", "_law_place", "_law_block_here", "_law_writes", "_law_found", "_law_again", "_law_row", "_law_pair"] vs) H
theorem in_L_is_told {K : PySem.W.Frag} {a : Ac} {x0 x1 x2 x3 : V} {H : Hp} {Q : VK} {E : XK} (q : t_L_is_told K a E ⟨fun _ H' => Q .non H', Q, F0, F0⟩ [some x0, some x1, some x2, some x3, none, none, none, none, none, none, none, none, none, none, none] H) : sp_L_is_told K a [x0, x1, x2, x3] H Q E := ⟨rfl, q⟩
def t_law (K : PySem.W.Frag) (a : Ac) (E : XK) : TS :=
  tSeq (tAsg (tOp rAddP (tC (.int 24)) (tOp rModP (tCallS (sp_L_cell_at K a) (WE (WM E)) (tCons (tVar 0) (tCons (tC (.int 0)) (tNil)))) (tC (.int 73)))) (gName 1)) (tSeq (tAsg (tCB rMin2 (tCons (tOp rAddP (tC (.int 1)) (tOp rModP (tCallS (sp_L_cell_at K a) (WE (WM E)) (tCons (tVar 0) (tCons (tC (.int 1)) (tNil)))) (tC (.int 8)))) (tCons (tOp rSubP (tOp rSubP (tVar 1) (tC (.int 18))) (tOp rDivP (tOp rAddP (tVar 1) (tC (.int 15))) (tC (.int 16)))) (tNil)))) (gName 2)) (tSeq (tAsg (tMakeE a.Layout (sp_Layout_init K a) (WE (WM E)) (tCons (tVar 1) (tCons (tVar 2) (tNil)))) (gName 3)) (tSeq (tAsg (tCallS (sp_L_nodes K a) (WE (WM E)) (tCons (tVar 0) (tCons (tVar 3) (tNil)))) (gName 4)) (tSeq (tAsg (tOp rAddP (tLst (tCons (tOp (rIxP K) (tVar 4) (tC (.int 0))) (tNil))) (tLstRev K (tSl (rSlP K) (tVar 4) (tPart (tC (.int 1))) (tNoPart)))) (gName 5)) (tSeq (tAsg (tCallS (sp_L_written K a) (WE (WM E)) (tCons (tVar 0) (tCons (tVar 3) (tCons (tVar 4) (tNil))))) (gName 6)) (tSeq (tAsg (tCallS (sp_L_written K a) (WE (WM E)) (tCons (tVar 0) (tCons (tVar 3) (tCons (tVar 5) (tNil))))) (gName 7)) (tSeq (tAsg (tLst (tNil)) (gName 8)) (tSeq (tFor (iRng1 (tCons (tC (.int 2)) (tNil))) (gName 9) (tIfS (tOr (tNot (tB (tCallS (sp_L_is_told K a) (WE (WM E)) (tCons (tVar 6) (tCons (tVar 3) (tCons (tVar 4) (tCons (tVar 8) (tNil)))))))) (tNot (tB (tCallS (sp_L_is_told K a) (WE (WM E)) (tCons (tVar 7) (tCons (tVar 3) (tCons (tVar 5) (tCons (tVar 8) (tNil))))))))) (tRet (tC (.bl false))) (tNext))) (tSeq (tAsg (tOp rModP (tCallS (sp_L_cell_at K a) (WE (WM E)) (tCons (tVar 0) (tCons (tC (.int 45)) (tNil)))) (tVar 2)) (gName 10)) (tSeq (tAsg (tOp (rIxP K) (tVar 5) (tOp rAddP (tOp rMulP (tC (.int 2)) (tVar 10)) (tC (.int 1)))) (gSub (tVar 4) (tOp rAddP (tOp rMulP (tC (.int 2)) (tVar 10)) (tC (.int 1))) rSetL)) (tSeq (tDrop (tMethP "write" [(a.Disk, sp_Disk_write K a)] (WE (WM E)) (tVar 6) (tCons (tOp rAddP (tFld K (tVar 3) "nodes_at") (tVar 10)) (tCons (tOp rAddP (tOp (rIxP K) (tVar 4) (tOp rMulP (tC (.int 2)) (tVar 10))) (tOp (rIxP K) (tVar 4) (tOp rAddP (tOp rMulP (tC (.int 2)) (tVar 10)) (tC (.int 1))))) (tNil))))) (tRet (tAndV (tCallS (sp_L_is_told K a) (WE (WM E)) (tCons (tVar 6) (tCons (tVar 3) (tCons (tVar 4) (tCons (tVar 8) (tNil)))))) (tCallS (sp_L_is_told K a) (WE (WM E)) (tCons (tVar 7) (tCons (tVar 3) (tCons (tVar 5) (tCons (tVar 8) (tNil)))))))))))))))))))
def N_law : List Str := ["_law_script", "_law_many", "_law_tables", "_law_layout", "_law_nodes_here", "_law_others", "_law_disk", "_law_other", "_law_held", "_law_turn", "_law_at"]
def sp_law (K : PySem.W.Frag) (a : Ac) : Sp := fun vs H Q E => vs.length = (["_law_script"] : List Str).length ∧ t_law K a E ⟨fun _ H' => Q .non H', Q, F0, F0⟩ (start ["_law_script", "_law_many", "_law_tables", "_law_layout", "_law_nodes_here", "_law_others", "_law_disk", "_law_other", "_law_held", "_law_turn", "_law_at"] vs) H
theorem in_law {K : PySem.W.Frag} {a : Ac} {x0 : V} {H : Hp} {Q : VK} {E : XK} (q : t_law K a E ⟨fun _ H' => Q .non H', Q, F0, F0⟩ [some x0, none, none, none, none, none, none, none, none, none, none] H) : sp_law K a [x0] H Q E := ⟨rfl, q⟩
class Fc (K : PySem.W.Frag) (a : Ac) : Prop where
  c_Disk : Cls K a.Disk
  na_Disk_done : NoAttr K a.Disk "done"
  na_Disk_left : NoAttr K a.Disk "left"
  na_Disk_rows : NoAttr K a.Disk "rows"
  c_Layout : Cls K a.Layout
  na_Layout_data_at : NoAttr K a.Layout "data_at"
  na_Layout_many : NoAttr K a.Layout "many"
  na_Layout_maps_at : NoAttr K a.Layout "maps_at"
  na_Layout_nodes_at : NoAttr K a.Layout "nodes_at"
  na_Layout_tables : NoAttr K a.Layout "tables"
  xc_BadDisk : ExcC K a.BadDisk
  xc_BadRow : ExcC K a.BadRow
  xc_NoBlock : ExcC K a.NoBlock
  xc_NoRoom : ExcC K a.NoRoom
  xc_Stopped : ExcC K a.Stopped
section
variable {K : PySem.W.Frag} {a : Ac} [F : Fc K a]
instance : ClsF K a.Disk := ⟨F.c_Disk⟩
instance : NoAF K a.Disk "done" := ⟨F.na_Disk_done⟩
instance : NoAF K a.Disk "left" := ⟨F.na_Disk_left⟩
instance : NoAF K a.Disk "rows" := ⟨F.na_Disk_rows⟩
instance : ClsF K a.Layout := ⟨F.c_Layout⟩
instance : NoAF K a.Layout "data_at" := ⟨F.na_Layout_data_at⟩
instance : NoAF K a.Layout "many" := ⟨F.na_Layout_many⟩
instance : NoAF K a.Layout "maps_at" := ⟨F.na_Layout_maps_at⟩
instance : NoAF K a.Layout "nodes_at" := ⟨F.na_Layout_nodes_at⟩
instance : NoAF K a.Layout "tables" := ⟨F.na_Layout_tables⟩
instance : ExcF K a.BadDisk := ⟨F.xc_BadDisk⟩
instance : ExcF K a.BadRow := ⟨F.xc_BadRow⟩
instance : ExcF K a.NoBlock := ⟨F.xc_NoBlock⟩
instance : ExcF K a.NoRoom := ⟨F.xc_NoRoom⟩
instance : ExcF K a.Stopped := ⟨F.xc_Stopped⟩
end
end Bk

namespace Bk
open PySem L2 PyProof.Rows
/-! our own short tactics: h: what stands at a place; ne: two places; sm: what stood stands; z: a size; s: a step; go: steps -/
local macro_rules | `(tactic| walk_at "h") => `(tactic| first
  | assumption
  | exact New.at (by assumption)
  | exact Wr.at (by assumption)
  | (refine' New.old (by assumption) ?_; walk_at "h")
  | (refine' Same.at (by assumption) ?_; walk_at "h")
  | (refine' Wr.old (by assumption) ?_ ?_; walk_at "ne"; walk_at "h")
  | (refine' Chg.at (by assumption) ?_ ?_; walk_at "ni"; walk_at "h"))
local macro_rules | `(tactic| walk_at "ni") => `(tactic| first
  | exact ni_nil
  | assumption
  | (refine' ni_cons ?_ ?_; walk_at "ne"; walk_at "ni"))
local macro_rules | `(tactic| walk_at "ne") => `(tactic| first
  | assumption
  | exact Ne.symm (by assumption)
  | exact New.ne (by assumption) (by walk_at "h")
  | exact ne_none (by assumption) (by walk_at "h")
  | exact Ne.symm (ne_none (by assumption) (by walk_at "h"))
  | exact Ne.symm (New.ne (by assumption) (by walk_at "h")))
local macro_rules | `(tactic| walk_at "sm") => `(tactic| first
  | exact Same.refl _
  | assumption
  | (refine' Same.trans ?_ (New.same (by assumption)); walk_at "sm")
  | (refine' Same.trans ?_ (by assumption : Same _ _); walk_at "sm"))
local macro_rules | `(tactic| walk_at "z") => `(tactic| first
  | assumption
  | (rw [PySem.sizeLine_eq]; omega)
  | (rw [PySem.sizeLine_eq]; simp only [List.length_cons, List.length_nil, List.length_append, List.length_map, List.length_range, List.length_replicate, len_cut]; omega)
  | (rw [PySem.sizeLine_eq]; simp only [List.length_cons, List.length_nil, List.length_append, List.length_map, List.length_range, List.length_replicate, len_cut] at *; omega))
local macro_rules | `(tactic| walk_at "s") => `(tactic| first
  | (refine' Step.go ?_)
  | ((with_reducible refine' go_var ?h ?_); (case h => exact rfl))
  | ((with_reducible refine' go_name2 ?h ?_); (case h => (simp only [List.set_cons_zero, List.set_cons_succ]; exact rfl)))
  | ((with_reducible refine' go_name2 ?h ?_); (case h => exact rfl))
  | (with_reducible refine' go_if ?_)
  | (with_reducible refine' iteT ?_)
  | (with_reducible refine' iteF ?_)
  | ((with_reducible refine' go_Td ?h ?_); (case h => walk_at "pr"))
  | ((with_reducible refine' go_Fd ?h ?_); (case h => walk_at "pr"))
  | ((with_reducible refine' go_Tn ?h ?_); (case h => walk_at "pr"))
  | ((with_reducible refine' go_Fn ?h ?_); (case h => walk_at "pr"))
  | ((with_reducible refine' go_T ?h ?_); (case h => (first | decide | assumption | exact rfl)))
  | ((with_reducible refine' go_F ?h ?_); (case h => (first | decide | assumption | exact rfl)))
  | ((with_reducible refine' go_LstK ?h ?_); (case h => walk_at "z"); intro p H1 n1)
  | ((with_reducible refine' go_TupK ?h ?_); (case h => walk_at "z"); intro p H1 n1)
  | ((with_reducible refine' go_addL ?h ?k ?z ?_); (case h => walk_at "h"); (case k => walk_at "h"); (case z => walk_at "z"); intro p H1 n1)
  | ((with_reducible refine' go_mulI ?h ?_); (case h => (unfold CMul; omega)))
  | ((with_reducible refine' go_mulL ?h ?k ?_); (case h => walk_at "h"); (case k => (refine ⟨by omega, by omega, ?_⟩; walk_at "z")); intro p H1 n1)
  | ((with_reducible refine' go_div ?h ?_); (case h => (unfold CDiv; omega)))
  | ((with_reducible refine' go_mod ?h ?_); (case h => omega))
  | ((with_reducible refine' go_pow ?h ?_); (case h => (unfold CPow; omega)))
  | ((with_reducible refine' go_slL ?h ?_); (case h => walk_at "h"); intro p H1 n1)
  | ((with_reducible refine' go_ixL ?h ?k ?_); (case h => walk_at "h"); (case k => exact rfl))
  | ((with_reducible refine' go_ixT ?h ?k ?_); (case h => walk_at "h"); (case k => exact rfl))
  | ((with_reducible refine' go_slW ?h ?_); (case h => walk_at "h"))
  | ((with_reducible refine' go_bmL ?h ?_); (case h => walk_at "h"))
  | ((with_reducible refine' go_append ?h ?k ?_); (case h => walk_at "h"); (case k => walk_at "z"); intro H1 n1)
  | ((with_reducible refine' go_extend ?h ?k ?z ?_); (case h => walk_at "h"); (case k => walk_at "h"); (case z => walk_at "z"); intro H1 n1)
  | ((with_reducible refine' go_clear ?h ?_); (case h => walk_at "h"); intro H1 n1)
  | ((with_reducible refine' go_dnew ?_); intro p H1 n1)
  | ((with_reducible refine' go_lenL ?h ?_); (case h => walk_at "h"))
  | ((with_reducible refine' go_lenT ?h ?_); (case h => walk_at "h"))
  | ((with_reducible refine' go_lenK ?h ?_); (case h => walk_at "hk"))
  | ((with_reducible refine' go_listL ?h ?_); (case h => walk_at "h"); intro p H1 n1)
  | ((with_reducible refine' go_listT ?h ?_); (case h => walk_at "h"); intro p H1 n1)
  | ((with_reducible refine' go_tupleL ?h ?_); (case h => walk_at "h"); intro p H1 n1)
  | ((with_reducible refine' go_isi ?h ?k ?_); (case h => walk_at "ty"); (case k => exact kit_bb (by decide) (by decide)))
  | ((with_reducible refine' go_seqL ?h ?_); (case h => walk_at "h"))
  | ((with_reducible refine' go_seqT ?h ?_); (case h => walk_at "h"))
  | ((with_reducible refine' go_rng1K ?h ?_); (case h => omega))
  | ((with_reducible refine' go_rng2K ?h ?_); (case h => omega))
  | (with_reducible refine' go_raise ?_)
  | ((with_reducible refine' go_tupG ?h ?k ?_); (case h => walk_at "h"); (case k => exact rfl))
  | ((with_reducible refine' go_lstG ?h ?k ?_); (case h => walk_at "h"); (case k => exact rfl))
  | (with_reducible refine' go_tryAs ?_)
  | ((with_reducible refine' go_asT ?_); intro e he)
  | (with_reducible refine' go_asF ?_)
  | ((with_reducible refine' go_manyT ?_); intro e he)
  | (with_reducible refine' go_manyF ?_)
  | ((with_reducible refine' go_FldK ?h ?c ?n ?l ?_); (case h => walk_at "h"); (case c => infer_instance); (case n => infer_instance); (case l => exact rfl))
  | ((with_reducible refine' go_SFldK ?h ?c ?n ?l ?e ?_); (case h => walk_at "h"); (case c => infer_instance); (case n => infer_instance); (case l => exact Nat.le_of_ble_eq_true rfl); (case e => walk_at "pf"); intro H1 n1)
  | ((with_reducible refine' go_MethK 0 ?h ?l ?e ?_); (case h => walk_at "h"); (case l => exact rfl); (case e => exact rfl))
  | ((with_reducible refine' go_MethK 1 ?h ?l ?e ?_); (case h => walk_at "h"); (case l => exact rfl); (case e => exact rfl))
  | ((with_reducible refine' go_MethK 2 ?h ?l ?e ?_); (case h => walk_at "h"); (case l => exact rfl); (case e => exact rfl))
  | ((with_reducible refine' go_MethXK ?h ?l ?_); (case h => walk_at "h"); (case l => exact rfl))
  | ((with_reducible refine' go_DGetS ?h ?l ?_); (case h => walk_at "h"); (case l => exact rfl))
  | ((with_reducible refine' go_DPutS ?h ?l ?e ?_); (case h => walk_at "h"); (case l => exact Nat.le_of_ble_eq_true rfl); (case e => walk_at "pk"); intro H1 n1)
  | ((with_reducible refine' go_disp ?_); intro p H1 n1)
  | ((with_reducible refine' go_DispS ?h ?e ?l ?k ?j ?m ?_); (case h => walk_at "h"); (case e => exact rfl); (case l => exact Nat.le_of_ble_eq_true rfl); (case k => (simp only [unS]; exact rfl)); (case j => (simp only [List.map_cons, List.map_nil]; exact rfl)); (case m => decide +kernel); intro H1 n1)
  | ((with_reducible refine' go_ParK ?h ?_); (case h => (simp only [List.set_cons_zero, List.set_cons_succ]; exact rfl)))
  | ((with_reducible refine' go_setLi ?h ?k ?_); (case h => walk_at "h"); (case k => walk_at "ix"); intro H1 n1)
  | ((with_reducible refine' go_listYL ?h ?_); (case h => walk_at "h"))
  | ((with_reducible refine' go_maxD ?h ?_); (case h => walk_at "h"))
  | ((with_reducible refine' go_ListRK ?h ?_); (case h => omega); intro p H1 n1)
  | ((with_reducible refine' go_EnumL ?h ?_); (case h => walk_at "h"))
  | (with_reducible refine' go_isX ?_)
  | (with_reducible refine' go_isXt ?_)
  | ((with_reducible refine' go_DInI ?h ?_); (case h => walk_at "h"))
  | ((with_reducible refine' go_DNotInI ?h ?_); (case h => walk_at "h"))
  | ((with_reducible refine' go_DGet2K ?h ?_); (case h => walk_at "h"))
  | ((with_reducible refine' go_eqDE ?h ?k ?_); (case h => walk_at "h"); (case k => walk_at "h"))
  | ((with_reducible refine' go_neDE ?h ?k ?_); (case h => walk_at "h"); (case k => walk_at "h"))
  | ((with_reducible refine' go_insert ?h ?k ?l ?m ?_); (case h => walk_at "h"); (case k => walk_at "z"); (case l => omega); (case m => omega); intro H1 n1)
  | ((with_reducible refine' go_dnewT ?_); intro p H1 n1)
  | ((with_reducible refine' go_LstRevK ?h ?_); (case h => walk_at "h"); intro p H1 n1)
  | (with_reducible refine' go_gCons ?_))
local macro_rules | `(tactic| walk_at "pf") => `(tactic| first
  | exact putF_nil
  | exact putF_hit
  | (refine' putF_miss ?h ?k; (case h => decide +kernel); (case k => walk_at "pf")))
local macro_rules | `(tactic| walk_at "pk") => `(tactic| first
  | exact putK_nil
  | exact putK_hit (by (simp only [List.map_cons, List.map_nil]; decide +kernel))
  | (refine' putK_miss ?h ?k; (case h => decide +kernel); (case k => walk_at "pk")))
local macro_rules | `(tactic| walk_at "ix") => `(tactic| first
  | assumption
  | omega
  | (simp only [List.length_cons, List.length_nil, List.length_append, List.length_map, List.length_range, List.length_replicate, List.length_set] at *; omega))
local macro_rules | `(tactic| walk_at "pr") => `(tactic| first
  | assumption
  | decide
  | omega
  | exact rfl
  | (intro z; cases z; done))
local macro_rules | `(tactic| walk_at "hk") => `(tactic| first
  | assumption
  | exact seq' (by assumption) (by walk_at "sm"))
local macro_rules | `(tactic| walk_at "ty") => `(tactic| first
  | exact rfl
  | assumption
  | exact tyN_L (by walk_at "h")
  | exact tyN_T (by walk_at "h")
  | exact tyN_D (by walk_at "h"))
local macro_rules | `(tactic| walk_at "go") => `(tactic| repeat (walk_at "s"))
/-! ### words, rows, disks: what the program's own defs do -/
def isW : V → Bool
  | .int i => decide (0 ≤ i) && decide (i ≤ 999999999)
  | _ => false
def isR (xs : List V) : Bool := decide ((xs.length : Int) = 16) && xs.all isW
/-- a row of sixteen words -/
def GoodRow (row : List Int) : Prop := row.length = 16 ∧ ∀ z ∈ row, 0 ≤ z ∧ z ≤ 999999999
theorem GoodRow.isR {row : List Int} (h : GoodRow row) : isR (row.map V.int) = true := by
  unfold Bk.isR
  rw [Bool.and_eq_true]
  refine ⟨decide_eq_true (by rw [List.length_map, h.1]; rfl), List.all_eq_true.mpr fun y hy => ?_⟩
  obtain ⟨z, hz, rfl⟩ := List.mem_map.mp hy
  have := h.2 z hz
  simp [isW, this.1, this.2]
theorem good_zero : GoodRow (List.replicate 16 0) := ⟨by simp, fun z hz => by rw [List.eq_of_mem_replicate hz]; omega⟩
section
variable {K : PySem.W.Frag} {a : Ac} {H : Hp} {Q : VK} {E : XK} [F : Fc K a]
omit F
theorem p_is_word {x : V} {n : String} (h : tyN H x = some n) (q : Q (.bl (isW x)) H) : sp_is_word K a [x] H Q E := by
  refine in_is_word ?_
  unfold t_is_word
  cases x with
  | int i =>
    walk_at "go"
    refine go_dec (fun c => ?_) (fun c => ?_)
    all_goals walk_at "go"
    all_goals (simpa [isW, c] using q)
  | bl b => walk_at "go"; exact q
  | non => walk_at "go"; exact q
  | str s => walk_at "go"; exact q
  | ref p =>
    rcases kindR h with ⟨rfl, xs, e⟩ | ⟨rfl, xs, e⟩ | ⟨rfl, kvs, e⟩
    all_goals (walk_at "go"; exact q)
  | _ => cases h
theorem all_bls (xs : List V) : (xs.map isW).all id = xs.all isW := by rw [List.all_map]; rfl
theorem p_is_rowL {p : Addr} {xs : List V} (h : H p = some (.lst xs)) (hk : ∀ y ∈ xs, ∃ n, tyN H y = some n) (hz : xs.length ≤ 1000) (q : ∀ H', Same H H' → Q (.bl (isR xs)) H') : sp_is_row K a [.ref p] H Q E := by
  refine in_is_row ?_
  unfold t_is_row
  walk_at "go"
  refine go_dec (fun c => ?_) (fun c => ?_)
  all_goals walk_at "go"
  · refine lc_mapL (f := fun y => .bl (isW y)) h (by rw [sizeLine_eq]; omega) (fun i x H' Q' hx s q' => ?_) (fun D H2 hD s hd => ?_)
    · obtain ⟨n, e⟩ := hk x (List.mem_of_getElem? hx)
      walk_at "go"
      exact p_is_word (tyN_same s e) (q' _ (Same.refl _))
    · refine go_all (bs := xs.map isW) (by rw [hd, List.map_map]; rfl) ?_
      rw [all_bls]
      have := q _ s
      rwa [isR, decide_eq_true c, Bool.true_and] at this
  · have := q _ (Same.refl _)
    rwa [isR, decide_eq_false c, Bool.false_and] at this
/-- what is no list is no row -/
theorem p_is_rowN {x : V} {n : String} (h : tyN H x = some n) (hn : n ≠ "list") (q : Q (.bl false) H) : sp_is_row K a [x] H Q E := by
  refine in_is_row ?_
  unfold t_is_row
  cases x with
  | int i => walk_at "go"; exact q
  | bl b => walk_at "go"; exact q
  | non => walk_at "go"; exact q
  | str s => walk_at "go"; exact q
  | ref p =>
    rcases kindR h with ⟨rfl, xs, e⟩ | ⟨rfl, xs, e⟩ | ⟨rfl, kvs, e⟩
    · exact absurd rfl hn
    all_goals (walk_at "go"; exact q)
  | _ => cases h
/-- what a thing says as a row -/
def RowIs (H : Hp) (x : V) (ok : Option (List Int)) : Prop := (∃ p xs, x = .ref p ∧ H p = some (.lst xs) ∧ (∀ y ∈ xs, ∃ n, tyN H y = some n) ∧ xs.length ≤ 1000 ∧ ((∃ row, GoodRow row ∧ xs = row.map V.int ∧ ok = some row) ∨ (isR xs = false ∧ ok = none))) ∨ (∃ n, tyN H x = some n ∧ n ≠ "list" ∧ ok = none)
theorem RowIs.same {H' : Hp} {x : V} {ok : Option (List Int)} (h : RowIs H x ok) (s : Same H H') : RowIs H' x ok := by
  rcases h with ⟨p, xs, rfl, h, k, z, e⟩ | ⟨n, h, k, e⟩
  · exact .inl ⟨p, xs, rfl, s _ _ h, fun y hy => let ⟨n, e⟩ := k y hy; ⟨n, tyN_same s e⟩, z, e⟩
  · exact .inr ⟨n, tyN_same s h, k, e⟩
theorem RowIs.good {p : Addr} {row : List Int} (h : H p = some (.lst (row.map V.int))) (g : GoodRow row) : RowIs H (.ref p) (some row) :=
  .inl ⟨p, _, rfl, h, fun y hy => by obtain ⟨z, _, rfl⟩ := List.mem_map.mp hy; exact ⟨_, rfl⟩, by rw [List.length_map, g.1]; omega, .inl ⟨row, g, rfl, rfl⟩⟩
theorem p_need_row {x : V} {ok : Option (List Int)} (h : RowIs H x ok) (q : ∀ row, ok = some row → GoodRow row → ∀ p H', Same H H' → H p = none → H' p = some (.lst (row.map V.int)) → Q (.ref p) H') (b : ok = none → ∀ H', Same H H' → E (.ref a.BadRow) none H') : sp_need_row K a [x] H Q E := by
  refine in_need_row ?_
  unfold t_need_row
  rcases h with ⟨p, xs, rfl, h, k, z, ⟨row, g, rfl, rfl⟩ | ⟨g, rfl⟩⟩ | ⟨n, h, k, rfl⟩
  · walk_at "go"
    refine p_is_rowL h k z fun H' s => ?_
    rw [g.isR]
    walk_at "go"
    rename_i p2 H2 n2
    exact q row rfl g p2 H2 (s.trans n2.same) (s.free n2.free) n2.at
  · walk_at "go"
    refine p_is_rowL h k z fun H' s => ?_
    rw [g]
    walk_at "go"
    exact b rfl H' s
  · walk_at "go"
    refine p_is_rowN h k ?_
    walk_at "go"
    exact b rfl H (Same.refl _)
theorem p_empty_row (q : ∀ p H1, Same H H1 → H p = none → H1 p = some (.lst ((List.replicate 16 (0 : Int)).map V.int)) → Q (.ref p) H1) : sp_empty_row K a [] H Q E := by
  refine in_empty_row ?_
  unfold t_empty_row
  walk_at "go"
  rename_i p H1 n1 p2 H2 n2
  exact q p2 H2 (n1.same.trans n2.same) (n1.same.free n2.free) n2.at
/-- a count of blocks, a block of n -/
def isMany : V → Bool
  | .int i => decide (24 ≤ i) && decide (i ≤ 96)
  | _ => false
def isBlk (n : Nat) : V → Bool
  | .int i => decide (0 ≤ i) && decide (i < n)
  | _ => false
theorem p_is_many {x : V} {n : String} (h : tyN H x = some n) (q : Q (.bl (isMany x)) H) : sp_is_many K a [x] H Q E := by
  refine in_is_many ?_
  unfold t_is_many
  cases x with
  | int i =>
    walk_at "go"
    refine go_dec (fun c => ?_) (fun c => ?_)
    all_goals walk_at "go"
    all_goals (simpa [isMany, c] using q)
  | bl b => walk_at "go"; exact q
  | non => walk_at "go"; exact q
  | str s => walk_at "go"; exact q
  | ref p =>
    rcases kindR h with ⟨rfl, xs, e⟩ | ⟨rfl, xs, e⟩ | ⟨rfl, kvs, e⟩
    all_goals (walk_at "go"; exact q)
  | _ => cases h
/-- a disk as it stands -/
structure DiskAt (a : Ac) (H : Hp) (d r : Addr) (ps : List Addr) (R : List (List Int)) (done : Int) (left : V) : Prop where
  dd : ∃ dx, H d = some (.ins a.Disk dx [("rows", .ref r), ("done", .int done), ("left", left)])
  rr : H r = some (.lst (ps.map V.ref))
  len : ps.length = R.length
  row : ∀ (i : Nat) (p : Addr), ps[i]? = some p → ∃ row, R[i]? = some row ∧ H p = some (.lst (row.map V.int))
  many : 24 ≤ R.length ∧ R.length ≤ 96
  good : ∀ row ∈ R, GoodRow row
  left : left = .non ∨ ∃ k : Int, left = .int k
variable {d r : Addr} {ps : List Addr} {R : List (List Int)} {done : Int} {left : V}
theorem DiskAt.chg {H' : Hp} {S : List Addr} (h : DiskAt a H d r ps R done left) (c : Chg S H H') (hd : d ∉ S) (hr : r ∉ S) (hp : ∀ p ∈ ps, p ∉ S) : DiskAt a H' d r ps R done left :=
  ⟨let ⟨dx, e⟩ := h.dd; ⟨dx, c.at hd e⟩, c.at hr h.rr, h.len, fun i p e => let ⟨row, e1, e2⟩ := h.row i p e; ⟨row, e1, c.at (hp p (List.mem_of_getElem? e)) e2⟩, h.many, h.good, h.left⟩
theorem DiskAt.same {H' : Hp} (h : DiskAt a H d r ps R done left) (s : Same H H') : DiskAt a H' d r ps R done left := h.chg (S := []) (.of s) ni_nil ni_nil fun _ _ => ni_nil
/-- the row of a block -/
theorem DiskAt.at {i : Nat} (h : DiskAt a H d r ps R done left) (hi : i < R.length) : ∃ p row, ps[i]? = some p ∧ R[i]? = some row ∧ H p = some (.lst (row.map V.int)) ∧ GoodRow row := by
  have e : ps[i]? = some (ps[i]'(by rw [h.len]; exact hi)) := List.getElem?_eq_getElem _
  obtain ⟨row, e1, e2⟩ := h.row i _ e
  exact ⟨_, row, e, e1, e2, h.good row (List.mem_of_getElem? e1)⟩
/-- no place of the disk's rows is one of its own two -/
theorem DiskAt.apart (h : DiskAt a H d r ps R done left) : d ≠ r ∧ ∀ p ∈ ps, p ≠ d ∧ p ≠ r := by
  obtain ⟨dx, e⟩ := h.dd
  have hm := h.many
  refine ⟨ne_obj e h.rr (by simp), fun p hp => ?_⟩
  obtain ⟨i, hi⟩ := List.mem_iff_getElem?.mp hp
  obtain ⟨row, e1, e2⟩ := h.row i p hi
  have g := h.good row (List.mem_of_getElem? e1)
  refine ⟨ne_obj e2 e (by simp), ne_obj e2 h.rr fun z => ?_⟩
  have z1 : row.map V.int = ps.map V.ref := by injection z
  cases row with
  | nil => have := g.1; simp at this
  | cons x t =>
    cases ps with
    | nil => simp at z1
    | cons y u => simp at z1
def NotInts (H : Hp) (b : Addr) : Prop := ∀ ns : List Int, ns ≠ [] → H b ≠ some (.lst (ns.map V.int))
theorem DiskAt.chg2 {H' : Hp} {S : List Addr} (h : DiskAt a H d r ps R done left) (c : Chg S H H') (hd : d ∉ S) (hr : r ∉ S) (hS : ∀ b ∈ S, NotInts H b) : DiskAt a H' d r ps R done left :=
  h.chg c hd hr fun p hp z => by
    obtain ⟨i, hi⟩ := List.mem_iff_getElem?.mp hp
    obtain ⟨row, e1, e2⟩ := h.row i p hi
    have g := (h.good row (List.mem_of_getElem? e1)).1
    exact hS p z row (by intro z; rw [z] at g; simp at g) e2
theorem NotInts.ins {b C dx : Addr} {fs : List (Str × V)} (h : H b = some (.ins C dx fs)) : NotInts H b := fun ns _ e => by rw [h] at e; simp at e
theorem NotInts.refs {b : Addr} {ps : List Addr} (h : H b = some (.lst (ps.map V.ref))) : NotInts H b := fun ns hn e => by
  rw [h] at e
  have z : ps.map V.ref = ns.map V.int := by injection e with e; injection e
  cases ns with
  | nil => exact hn rfl
  | cons x t => cases ps <;> simp at z
theorem NotInts.dict {b : Addr} {kvs : List (Key × V)} (h : H b = some (.dK kvs)) : NotInts H b := fun ns _ e => by rw [h] at e; simp at e
def NotTup (H : Hp) (b : Addr) : Prop := ∀ xs, H b ≠ some (.tup xs)
theorem NotTup.ins {b C dx : Addr} {fs : List (Str × V)} (h : H b = some (.ins C dx fs)) : NotTup H b := fun xs e => by rw [h] at e; simp at e
theorem NotTup.lst {b : Addr} {ys : List V} (h : H b = some (.lst ys)) : NotTup H b := fun xs e => by rw [h] at e; simp at e
theorem NotTup.dict {b : Addr} {kvs : List (Key × V)} (h : H b = some (.dK kvs)) : NotTup H b := fun xs e => by rw [h] at e; simp at e
theorem DiskAt.ownT (h : DiskAt a H d r ps R done left) : ∀ b ∈ [d, r], NotTup H b := fun b hb => by
  obtain ⟨dx, e⟩ := h.dd
  rcases List.mem_cons.mp hb with rfl | hb
  · exact .ins e
  · rw [List.mem_singleton.mp hb]; exact .lst h.rr
theorem DiskAt.own (h : DiskAt a H d r ps R done left) : ∀ b ∈ [d, r], NotInts H b := fun b hb => by
  obtain ⟨dx, e⟩ := h.dd
  rcases List.mem_cons.mp hb with rfl | hb
  · exact .ins e
  · rw [List.mem_singleton.mp hb]; exact .refs h.rr
end
section
variable {K : PySem.W.Frag} {a : Ac} {H : Hp} {Q : VK} {E : XK} [F : Fc K a] {d r : Addr} {ps : List Addr} {R : List (List Int)} {done : Int} {left : V}
theorem mk_Disk {n : Int} (hn : 24 ≤ n ∧ n ≤ 96) (q : ∀ d r ps H', Same H H' → H d = none → H r = none → (∀ p ∈ ps, H p = none) → DiskAt a H' d r ps (List.replicate n.toNat (List.replicate 16 0)) 0 .non → Q (.ref d) H') : MakeK a.Disk (sp_Disk_init K a) E Q [.int n] H := by
  refine go_MakeK fun dx H1 x H2 n1 n2 => ?_
  refine in_Disk_init ?_
  unfold t_Disk_init
  walk_at "go"
  refine p_is_many rfl ?_
  rw [show isMany (.int n) = true by simp [isMany, hn.1, hn.2]]
  walk_at "go"
  refine lc_newR (o := fun _ => .lst ((List.replicate 16 (0 : Int)).map V.int)) (by rw [sizeLine_eq]; omega) (fun i H' Q' hi s q' => ?_) (fun D ps H3 hD s hl w hd => ?_)
  · walk_at "go"
    exact p_empty_row fun p H1 s2 hp hp2 => q' p H1 s2 hp hp2
  · walk_at "go"
    rename_i H4 w4 H5 w5 H6 w6
    have sx : Same H H3 := n1.same.trans (n2.same.trans s)
    have xf : H x = none := n1.same.free n2.free
    have c6 : Chg [x] H3 H6 := ((Chg.wr w4 (by simp)).trans (Chg.wr w5 (by simp))).trans (Chg.wr w6 (by simp))
    have Df : H D = none := (n1.same.trans n2.same).free hD
    have xD : x ≠ D := ne_none hD n2.at
    have pf : ∀ p ∈ ps, H p = none := fun p hp => (n1.same.trans n2.same).free (w.free p hp)
    have px : ∀ p ∈ ps, p ≠ x := fun p hp e => by have := w.free p hp; rw [e, n2.at] at this; cases this
    refine ⟨rfl, q x D ps H6 (Chg.same (Chg.drop ((Chg.of sx).trans c6) xf)) xf Df pf ⟨⟨dx, w6.at⟩, c6.at (by simpa using Ne.symm xD) hd, by rw [hl]; simp, fun i p e => ?_, by simp; omega, fun row hr => ?_, .inl rfl⟩⟩
    · have hi : i < n.toNat := by have := (List.getElem?_eq_some_iff.mp e).1; omega
      exact ⟨_, by rw [List.getElem?_replicate, if_pos hi], c6.at (by simpa using px p (List.mem_of_getElem? e)) (w.at_ i p e)⟩
    · rw [List.eq_of_mem_replicate hr]; exact good_zero
theorem p_writes (h : DiskAt a H d r ps R done left) (q : Q (.int done) H) : sp_Disk_writes K a [.ref d] H Q E := by
  refine in_Disk_writes ?_
  unfold t_Disk_writes
  obtain ⟨dx, e⟩ := h.dd
  walk_at "go"
  exact q
theorem p_need {x : V} {n : String} (h : DiskAt a H d r ps R done left) (hx : tyN H x = some n) (q : isBlk R.length x = true → Q .non H) (b : isBlk R.length x = false → E (.ref a.NoBlock) none H) : sp_Disk_need K a [.ref d, x] H Q E := by
  refine in_Disk_need ?_
  unfold t_Disk_need
  obtain ⟨dx, e⟩ := h.dd
  have e2 := h.rr
  have hl := h.len
  cases x with
  | int i =>
    walk_at "go"
    refine go_dec (fun c => ?_) (fun c => ?_)
    all_goals walk_at "go"
    · rw [List.length_map, hl]
      refine go_decN (fun c2 => ?_) (fun c2 => ?_)
      all_goals walk_at "go"
      · exact b (by simp [isBlk, c, c2])
      · exact q (by simp [isBlk, c, c2])
    · exact b (by simp [isBlk, c])
  | bl v => walk_at "go"; exact b rfl
  | non => walk_at "go"; exact b rfl
  | str s => walk_at "go"; exact b rfl
  | ref p =>
    rcases kindR hx with ⟨rfl, xs, e⟩ | ⟨rfl, xs, e⟩ | ⟨rfl, kvs, e⟩
    all_goals (walk_at "go"; exact b rfl)
  | _ => cases hx
theorem isBlk_of {n : Nat} {i : Int} (h : 0 ≤ i) (k : i < n) : isBlk n (.int i) = true := by simp [isBlk, h, k]
theorem isBlk_int {n : Nat} {x : V} (h : isBlk n x = true) : ∃ i : Int, x = .int i ∧ 0 ≤ i ∧ i < n := by
  cases x with
  | int i => exact ⟨i, rfl, by simpa [isBlk] using h⟩
  | _ => cases h
theorem p_read {i : Int} {row : List Int} (h : DiskAt a H d r ps R done left) (hi : 0 ≤ i) (hr : R[i.toNat]? = some row) (q : ∀ p H', Same H H' → H p = none → H' p = some (.lst (row.map V.int)) → Q (.ref p) H') : sp_Disk_read K a [.ref d, .int i] H Q E := by
  refine in_Disk_read ?_
  unfold t_Disk_read
  obtain ⟨dx, e⟩ := h.dd
  have e2 := h.rr
  have hlt : i.toNat < R.length := (List.getElem?_eq_some_iff.mp hr).1
  obtain ⟨p, row', f1, f2, f3, f4⟩ := h.at hlt
  rw [hr] at f2; cases f2
  walk_at "go"
  refine p_need h rfl (fun _ => ?_) (fun c => ?_)
  · walk_at "go"
    refine go_ixAt e2 hi (v := .ref p) (by rw [List.getElem?_map, f1]; rfl) ?_
    walk_at "go"
    rename_i p2 H2 n2
    exact q p2 H2 n2.same n2.free n2.at
  · have : isBlk R.length (.int i) = true := by simp [isBlk, hi]; omega
    rw [this] at c; cases c
/-- what is left behind a write -/
def lessV : V → V
  | .int k => .int (k - 1)
  | x => x
theorem p_write {x y : V} {n : String} {ok : Option (List Int)} (h : DiskAt a H d r ps R done left) (hx : tyN H x = some n) (hy : RowIs H y ok)
    (q : ∀ i row, x = .int i → 0 ≤ i → i < R.length → ok = some row → left ≠ .int 0 → ∀ p H', Chg [d, r] H H' → H p = none → DiskAt a H' d r (ps.set i.toNat p) (R.set i.toNat row) (done + 1) (lessV left) → Q .non H')
    (b1 : isBlk R.length x = false → E (.ref a.NoBlock) none H) (b2 : isBlk R.length x = true → ok = none → ∀ H', Same H H' → E (.ref a.BadRow) none H')
    (b3 : isBlk R.length x = true → ok ≠ none → left = .int 0 → ∀ H', Same H H' → E (.ref a.Stopped) none H') : sp_Disk_write K a [.ref d, x, y] H Q E := by
  refine in_Disk_write ?_
  unfold t_Disk_write
  have hap := h.apart
  obtain ⟨dx, e⟩ := h.dd
  have e2 := h.rr
  have hl := h.len
  walk_at "go"
  refine p_need h hx (fun c => ?_) b1
  obtain ⟨i, rfl, i0, i1⟩ := isBlk_int c
  have ndr := hap.1
  have hix : 0 ≤ i ∧ i < ((ps.map V.ref).length : Nat) := ⟨i0, by rw [List.length_map]; omega⟩
  walk_at "go"
  refine p_need_row hy (fun row eo g p H1 s1 hp hp1 => ?_) (fun eo H1 s1 => b2 c eo H1 s1)
  have h1 := h.same s1
  have fin : ∀ {H2 : Hp} (left2 : V), left2 = lessV left → H2 d = some (.ins a.Disk dx [("rows", .ref r), ("done", .int done), ("left", left2)]) → Chg [d, r] H1 H2 → H2 r = some (.lst (ps.map V.ref)) → left ≠ .int 0 →
      (∀ H3, Wr H2 r (.lst ((ps.map V.ref).set i.toNat (.ref p))) H3 → ∀ H4, Wr H3 d (.ins a.Disk dx [("rows", .ref r), ("done", .int (done + 1)), ("left", left2)]) H4 → Q .non H4) := by
    intro H2 left2 el hd2 c2 hr2 nl H3 w3 H4 w4
    subst el
    have c4 : Chg [d, r] H1 H4 := (c2.trans (Chg.wr w3 (by simp))).trans (Chg.wr w4 (by simp))
    have pd : p ≠ d := fun z => by rw [z, e] at hp; cases hp
    have pr : p ≠ r := fun z => by rw [z, e2] at hp; cases hp
    refine q i row rfl i0 i1 eo nl p H4 ((Chg.of s1).trans c4) hp ⟨⟨dx, w4.at⟩, w4.old (Ne.symm hap.1) (by rw [w3.at, List.map_set]), by simp [hl], fun j p' ej => ?_, by simpa using h.many, fun row' hr' => ?_, ?_⟩
    · by_cases hj : i.toNat = j
      · subst hj
        rw [List.getElem?_set_self (by omega)] at ej
        cases ej
        exact ⟨row, by rw [List.getElem?_set_self (by omega)], c4.at (by simp [pd, pr]) hp1⟩
      · rw [List.getElem?_set_ne hj] at ej
        obtain ⟨row', f1, f2⟩ := h1.row j p' ej
        have z := hap.2 p' (List.mem_of_getElem? ej)
        exact ⟨row', by rw [List.getElem?_set_ne hj]; exact f1, c4.at (by simp [z.1, z.2]) f2⟩
    · rcases List.mem_or_eq_of_mem_set hr' with z | z
      · exact h.good _ z
      · rw [z]; exact g
    · rcases h.left with z | ⟨k, z⟩
      · rw [z]; exact .inl rfl
      · rw [z]; exact .inr ⟨_, rfl⟩
  rcases h.left with z | ⟨k, z⟩
  · subst z
    walk_at "go"
    refine go_eqSc rfl ?_
    walk_at "go"
    rename_i H2 w2 H3 w3
    exact fin .non rfl (s1 _ _ e) Chg.refl (s1 _ _ e2) (by simp) H2 w2 H3 w3
  · subst z
    walk_at "go"
    refine go_dec (fun c0 => ?_) (fun c0 => ?_)
    · walk_at "go"
      exact b3 c (by rw [eo]; simp) (by rw [c0]) H1 s1
    · walk_at "go"
      rename_i H2 w2 H3 w3 H4 w4
      exact fin (.int (k - 1)) rfl w2.at (Chg.wr w2 (by simp)) (w2.old (Ne.symm hap.1) (s1 _ _ e2)) (by simpa using c0) H3 w3 H4 w4
end
/-! ### the law's own rows -/
structure RowsAt (H : Hp) (L : Addr) (ls : List Addr) (R : List (List Int)) : Prop where
  rr : H L = some (.lst (ls.map V.ref))
  len : ls.length = R.length
  row : ∀ (i : Nat) (p : Addr), ls[i]? = some p → ∃ row, R[i]? = some row ∧ row ≠ [] ∧ H p = some (.lst (row.map V.int))
section
variable {H H' : Hp} {L : Addr} {ls : List Addr} {R : List (List Int)}
theorem RowsAt.chg {S : List Addr} (h : RowsAt H L ls R) (c : Chg S H H') (hd : L ∉ S) (hS : ∀ b ∈ S, NotInts H b) : RowsAt H' L ls R :=
  ⟨c.at hd h.rr, h.len, fun i p e => let ⟨row, e1, e2, e3⟩ := h.row i p e; ⟨row, e1, e2, c.at (fun z => hS p z row e2 e3) e3⟩⟩
theorem RowsAt.same (h : RowsAt H L ls R) (s : Same H H') : RowsAt H' L ls R := h.chg (S := []) (.of s) ni_nil fun _ z => absurd z ni_nil
theorem RowsAt.at {i : Nat} (h : RowsAt H L ls R) (hi : i < R.length) : ∃ p row, ls[i]? = some p ∧ R[i]? = some row ∧ row ≠ [] ∧ H p = some (.lst (row.map V.int)) := by
  have e : ls[i]? = some (ls[i]'(by rw [h.len]; exact hi)) := List.getElem?_eq_getElem _
  obtain ⟨row, e1, e2, e3⟩ := h.row i _ e
  exact ⟨_, row, e, e1, e2, e3⟩
/-- a row of it replaced by another list -/
theorem RowsAt.put {i : Nat} {p : Addr} {row : List Int} (h : RowsAt H L ls R) (w : Wr H L (.lst ((ls.map V.ref).set i (.ref p))) H') (hp : H p = some (.lst (row.map V.int))) (hr : row ≠ []) : RowsAt H' L (ls.set i p) (R.set i row) := by
  have no : ∀ {q : Addr} {ns : List Int}, ns ≠ [] → H q = some (.lst (ns.map V.int)) → q ≠ L := fun hn e z => by rw [z] at e; exact NotInts.refs h.rr _ hn e
  refine ⟨by rw [w.at, List.map_set], by simp [h.len], fun j q ej => ?_⟩
  by_cases hj : i = j
  · subst hj
    have hlt : i < ls.length := by have := (List.getElem?_eq_some_iff.mp ej).1; simpa using this
    rw [List.getElem?_set_self hlt] at ej
    cases ej
    exact ⟨row, by rw [List.getElem?_set_self (by rw [← h.len]; exact hlt)], hr, w.old (no hr hp) hp⟩
  · rw [List.getElem?_set_ne hj] at ej
    obtain ⟨row', f1, f2, f3⟩ := h.row j q ej
    exact ⟨row', by rw [List.getElem?_set_ne hj]; exact f1, f2, w.old (no f2 f3) f3⟩
end

end Bk

namespace Bk
open PySem L2 PyProof.Rows
/-! our own short tactics: h: what stands at a place; ne: two places; sm: what stood stands; z: a size; s: a step; go: steps -/
local macro_rules | `(tactic| walk_at "h") => `(tactic| first
  | assumption
  | exact New.at (by assumption)
  | exact Wr.at (by assumption)
  | (refine' New.old (by assumption) ?_; walk_at "h")
  | (refine' Same.at (by assumption) ?_; walk_at "h")
  | (refine' Wr.old (by assumption) ?_ ?_; walk_at "ne"; walk_at "h")
  | (refine' Chg.at (by assumption) ?_ ?_; walk_at "ni"; walk_at "h"))
local macro_rules | `(tactic| walk_at "ni") => `(tactic| first
  | exact ni_nil
  | assumption
  | (refine' ni_cons ?_ ?_; walk_at "ne"; walk_at "ni"))
local macro_rules | `(tactic| walk_at "ne") => `(tactic| first
  | assumption
  | exact Ne.symm (by assumption)
  | exact New.ne (by assumption) (by walk_at "h")
  | exact ne_none (by assumption) (by walk_at "h")
  | exact Ne.symm (ne_none (by assumption) (by walk_at "h"))
  | exact Ne.symm (New.ne (by assumption) (by walk_at "h")))
local macro_rules | `(tactic| walk_at "sm") => `(tactic| first
  | exact Same.refl _
  | assumption
  | (refine' Same.trans ?_ (New.same (by assumption)); walk_at "sm")
  | (refine' Same.trans ?_ (by assumption : Same _ _); walk_at "sm"))
local macro_rules | `(tactic| walk_at "z") => `(tactic| first
  | assumption
  | (rw [PySem.sizeLine_eq]; omega)
  | (rw [PySem.sizeLine_eq]; simp only [List.length_cons, List.length_nil, List.length_append, List.length_map, List.length_range, List.length_replicate, len_cut]; omega)
  | (rw [PySem.sizeLine_eq]; simp only [List.length_cons, List.length_nil, List.length_append, List.length_map, List.length_range, List.length_replicate, len_cut] at *; omega))
local macro_rules | `(tactic| walk_at "s") => `(tactic| first
  | (refine' Step.go ?_)
  | ((with_reducible refine' go_var ?h ?_); (case h => exact rfl))
  | ((with_reducible refine' go_name2 ?h ?_); (case h => (simp only [List.set_cons_zero, List.set_cons_succ]; exact rfl)))
  | ((with_reducible refine' go_name2 ?h ?_); (case h => exact rfl))
  | (with_reducible refine' go_if ?_)
  | (with_reducible refine' iteT ?_)
  | (with_reducible refine' iteF ?_)
  | ((with_reducible refine' go_Td ?h ?_); (case h => walk_at "pr"))
  | ((with_reducible refine' go_Fd ?h ?_); (case h => walk_at "pr"))
  | ((with_reducible refine' go_Tn ?h ?_); (case h => walk_at "pr"))
  | ((with_reducible refine' go_Fn ?h ?_); (case h => walk_at "pr"))
  | ((with_reducible refine' go_T ?h ?_); (case h => (first | decide | assumption | exact rfl)))
  | ((with_reducible refine' go_F ?h ?_); (case h => (first | decide | assumption | exact rfl)))
  | ((with_reducible refine' go_LstK ?h ?_); (case h => walk_at "z"); intro p H1 n1)
  | ((with_reducible refine' go_TupK ?h ?_); (case h => walk_at "z"); intro p H1 n1)
  | ((with_reducible refine' go_addL ?h ?k ?z ?_); (case h => walk_at "h"); (case k => walk_at "h"); (case z => walk_at "z"); intro p H1 n1)
  | ((with_reducible refine' go_mulI ?h ?_); (case h => (unfold CMul; omega)))
  | ((with_reducible refine' go_mulL ?h ?k ?_); (case h => walk_at "h"); (case k => (refine ⟨by omega, by omega, ?_⟩; walk_at "z")); intro p H1 n1)
  | ((with_reducible refine' go_div ?h ?_); (case h => (unfold CDiv; omega)))
  | ((with_reducible refine' go_mod ?h ?_); (case h => omega))
  | ((with_reducible refine' go_pow ?h ?_); (case h => (unfold CPow; omega)))
  | ((with_reducible refine' go_slL ?h ?_); (case h => walk_at "h"); intro p H1 n1)
  | ((with_reducible refine' go_ixL ?h ?k ?_); (case h => walk_at "h"); (case k => exact rfl))
  | ((with_reducible refine' go_ixT ?h ?k ?_); (case h => walk_at "h"); (case k => exact rfl))
  | ((with_reducible refine' go_slW ?h ?_); (case h => walk_at "h"))
  | ((with_reducible refine' go_bmL ?h ?_); (case h => walk_at "h"))
  | ((with_reducible refine' go_append ?h ?k ?_); (case h => walk_at "h"); (case k => walk_at "z"); intro H1 n1)
  | ((with_reducible refine' go_extend ?h ?k ?z ?_); (case h => walk_at "h"); (case k => walk_at "h"); (case z => walk_at "z"); intro H1 n1)
  | ((with_reducible refine' go_clear ?h ?_); (case h => walk_at "h"); intro H1 n1)
  | ((with_reducible refine' go_dnew ?_); intro p H1 n1)
  | ((with_reducible refine' go_lenL ?h ?_); (case h => walk_at "h"))
  | ((with_reducible refine' go_lenT ?h ?_); (case h => walk_at "h"))
  | ((with_reducible refine' go_lenK ?h ?_); (case h => walk_at "hk"))
  | ((with_reducible refine' go_listL ?h ?_); (case h => walk_at "h"); intro p H1 n1)
  | ((with_reducible refine' go_listT ?h ?_); (case h => walk_at "h"); intro p H1 n1)
  | ((with_reducible refine' go_tupleL ?h ?_); (case h => walk_at "h"); intro p H1 n1)
  | ((with_reducible refine' go_isi ?h ?k ?_); (case h => walk_at "ty"); (case k => exact kit_bb (by decide) (by decide)))
  | ((with_reducible refine' go_seqL ?h ?_); (case h => walk_at "h"))
  | ((with_reducible refine' go_seqT ?h ?_); (case h => walk_at "h"))
  | ((with_reducible refine' go_rng1K ?h ?_); (case h => omega))
  | ((with_reducible refine' go_rng2K ?h ?_); (case h => omega))
  | (with_reducible refine' go_raise ?_)
  | ((with_reducible refine' go_tupG ?h ?k ?_); (case h => walk_at "h"); (case k => exact rfl))
  | ((with_reducible refine' go_lstG ?h ?k ?_); (case h => walk_at "h"); (case k => exact rfl))
  | (with_reducible refine' go_tryAs ?_)
  | ((with_reducible refine' go_asT ?_); intro e he)
  | (with_reducible refine' go_asF ?_)
  | ((with_reducible refine' go_manyT ?_); intro e he)
  | (with_reducible refine' go_manyF ?_)
  | ((with_reducible refine' go_FldK ?h ?c ?n ?l ?_); (case h => walk_at "h"); (case c => infer_instance); (case n => infer_instance); (case l => exact rfl))
  | ((with_reducible refine' go_SFldK ?h ?c ?n ?l ?e ?_); (case h => walk_at "h"); (case c => infer_instance); (case n => infer_instance); (case l => exact Nat.le_of_ble_eq_true rfl); (case e => walk_at "pf"); intro H1 n1)
  | ((with_reducible refine' go_MethK 0 ?h ?l ?e ?_); (case h => walk_at "h"); (case l => exact rfl); (case e => exact rfl))
  | ((with_reducible refine' go_MethK 1 ?h ?l ?e ?_); (case h => walk_at "h"); (case l => exact rfl); (case e => exact rfl))
  | ((with_reducible refine' go_MethK 2 ?h ?l ?e ?_); (case h => walk_at "h"); (case l => exact rfl); (case e => exact rfl))
  | ((with_reducible refine' go_MethXK ?h ?l ?_); (case h => walk_at "h"); (case l => exact rfl))
  | ((with_reducible refine' go_DGetS ?h ?l ?_); (case h => walk_at "h"); (case l => exact rfl))
  | ((with_reducible refine' go_DPutS ?h ?l ?e ?_); (case h => walk_at "h"); (case l => exact Nat.le_of_ble_eq_true rfl); (case e => walk_at "pk"); intro H1 n1)
  | ((with_reducible refine' go_disp ?_); intro p H1 n1)
  | ((with_reducible refine' go_DispS ?h ?e ?l ?k ?j ?m ?_); (case h => walk_at "h"); (case e => exact rfl); (case l => exact Nat.le_of_ble_eq_true rfl); (case k => (simp only [unS]; exact rfl)); (case j => (simp only [List.map_cons, List.map_nil]; exact rfl)); (case m => decide +kernel); intro H1 n1)
  | ((with_reducible refine' go_ParK ?h ?_); (case h => (simp only [List.set_cons_zero, List.set_cons_succ]; exact rfl)))
  | ((with_reducible refine' go_setLi ?h ?k ?_); (case h => walk_at "h"); (case k => walk_at "ix"); intro H1 n1)
  | ((with_reducible refine' go_listYL ?h ?_); (case h => walk_at "h"))
  | ((with_reducible refine' go_maxD ?h ?_); (case h => walk_at "h"))
  | ((with_reducible refine' go_ListRK ?h ?_); (case h => omega); intro p H1 n1)
  | ((with_reducible refine' go_EnumL ?h ?_); (case h => walk_at "h"))
  | (with_reducible refine' go_isX ?_)
  | (with_reducible refine' go_isXt ?_)
  | ((with_reducible refine' go_DInI ?h ?_); (case h => walk_at "h"))
  | ((with_reducible refine' go_DNotInI ?h ?_); (case h => walk_at "h"))
  | ((with_reducible refine' go_DGet2K ?h ?_); (case h => walk_at "h"))
  | ((with_reducible refine' go_eqDE ?h ?k ?_); (case h => walk_at "h"); (case k => walk_at "h"))
  | ((with_reducible refine' go_neDE ?h ?k ?_); (case h => walk_at "h"); (case k => walk_at "h"))
  | ((with_reducible refine' go_insert ?h ?k ?l ?m ?_); (case h => walk_at "h"); (case k => walk_at "z"); (case l => omega); (case m => omega); intro H1 n1)
  | ((with_reducible refine' go_dnewT ?_); intro p H1 n1)
  | ((with_reducible refine' go_LstRevK ?h ?_); (case h => walk_at "h"); intro p H1 n1)
  | (with_reducible refine' go_gCons ?_))
local macro_rules | `(tactic| walk_at "pf") => `(tactic| first
  | exact putF_nil
  | exact putF_hit
  | (refine' putF_miss ?h ?k; (case h => decide +kernel); (case k => walk_at "pf")))
local macro_rules | `(tactic| walk_at "pk") => `(tactic| first
  | exact putK_nil
  | exact putK_hit (by (simp only [List.map_cons, List.map_nil]; decide +kernel))
  | (refine' putK_miss ?h ?k; (case h => decide +kernel); (case k => walk_at "pk")))
local macro_rules | `(tactic| walk_at "ix") => `(tactic| first
  | assumption
  | omega
  | (simp only [List.length_cons, List.length_nil, List.length_append, List.length_map, List.length_range, List.length_replicate, List.length_set] at *; omega))
local macro_rules | `(tactic| walk_at "pr") => `(tactic| first
  | assumption
  | decide
  | omega
  | exact rfl
  | (intro z; cases z; done))
local macro_rules | `(tactic| walk_at "hk") => `(tactic| first
  | assumption
  | exact seq' (by assumption) (by walk_at "sm"))
local macro_rules | `(tactic| walk_at "ty") => `(tactic| first
  | exact rfl
  | assumption
  | exact tyN_L (by walk_at "h")
  | exact tyN_T (by walk_at "h")
  | exact tyN_D (by walk_at "h"))
local macro_rules | `(tactic| walk_at "go") => `(tactic| repeat (walk_at "s"))
theorem Ent.chg {H H' : Hp} {S : List Addr} {ts qs : List Addr} {prs : List (Int × List Int)} (h : Ent H ts qs prs) (c : Chg S H H') (hS : ∀ b ∈ S, NotInts H b ∧ NotTup H b) (hr : ∀ p ∈ prs, p.2 ≠ []) : Ent H' ts qs prs :=
  ⟨h.lt, h.lq, fun i b row e => let ⟨t, q, e1, e2, e3, e4⟩ := h.at_ i b row e; ⟨t, q, e1, e2, c.at (fun z => (hS t z).2 _ e3) e3, c.at (fun z => (hS q z).1 row (hr _ (List.mem_of_getElem? e)) e4) e4⟩⟩
/-! ### writes, one behind the other -/
def lv : Option Nat → V
  | none => .non
  | some k => .int k
def less (k : Option Nat) (n : Nat) : Option Nat := k.map (· - n)
def applyW (ws : List (Nat × List Int)) (R : List (List Int)) : List (List Int) := ws.foldl (fun R w => R.set w.1 w.2) R
theorem applyW_app (ws vs : List (Nat × List Int)) (R : List (List Int)) : applyW (ws ++ vs) R = applyW vs (applyW ws R) := List.foldl_append ..
/-- a disk, none of whose rows stands at a place of T -/
structure DkT (a : Ac) (T : List Addr) (H : Hp) (d r : Addr) (ps : List Addr) (R : List (List Int)) (done : Int) (k : Option Nat) : Prop extends DiskAt a H d r ps R done (lv k) where
  out : ∀ p ∈ ps, p ∉ T
  ex : ∀ t ∈ T, t ∉ [d, r] ∧ ∃ u, H t = some u
def DkEx (a : Ac) (T : List Addr) (H : Hp) (d r : Addr) (R : List (List Int)) (done : Int) (k : Option Nat) : Prop := ∃ ps, DkT a T H d r ps R done k
theorem DkT.chg' {a : Ac} {T : List Addr} {H H' : Hp} {d r : Addr} {ps ps' : List Addr} {R R' : List (List Int)} {done done' : Int} {k k' : Option Nat} (h : DkT a T H d r ps R done k) (c : Chg [d, r] H H') (e : DiskAt a H' d r ps' R' done' (lv k')) (o : ∀ p ∈ ps', p ∉ T) : DkT a T H' d r ps' R' done' k' :=
  ⟨e, o, fun t ht => let ⟨n, u, e⟩ := h.ex t ht; ⟨n, u, c.at n e⟩⟩
structure DoesW (a : Ac) (T : List Addr) (d r : Addr) (ws : List (Nat × List Int)) (k : Option Nat) (R : List (List Int)) (done : Int) (H : Hp) (ok stop : Hp → Prop) : Prop where
  ok : (∀ n, k = some n → ws.length ≤ n) → ∀ H', Chg [d, r] H H' → DkEx a T H' d r (applyW ws R) (done + ws.length) (less k ws.length) → ok H'
  stop : ∀ n, k = some n → n < ws.length → ∀ H', Chg [d, r] H H' → DkEx a T H' d r (applyW (ws.take n) R) (done + n) (some 0) → stop H'
section
variable {a : Ac} {T : List Addr} {d r : Addr} {ws vs : List (Nat × List Int)} {k : Option Nat} {R : List (List Int)} {done : Int} {H H' : Hp} {ok stop : Hp → Prop}
theorem DoesW.chg (h : DoesW a T d r ws k R done H ok stop) (c : Chg [d, r] H H') : DoesW a T d r ws k R done H' ok stop := ⟨fun q H2 c2 => h.ok q H2 (c.trans c2), fun n e hn H2 c2 => h.stop n e hn H2 (c.trans c2)⟩
theorem DoesW.same (h : DoesW a T d r ws k R done H ok stop) (s : Same H H') : DoesW a T d r ws k R done H' ok stop := h.chg (.of s)
theorem DoesW.imp {ok' stop' : Hp → Prop} (h : DoesW a T d r ws k R done H ok stop) (f : ∀ H, ok H → ok' H) (g : ∀ H, stop H → stop' H) : DoesW a T d r ws k R done H ok' stop' := ⟨fun q H2 c2 e => f _ (h.ok q H2 c2 e), fun n e hn H2 c2 e2 => g _ (h.stop n e hn H2 c2 e2)⟩
theorem DoesW.nil (h : DoesW a T d r [] k R done H ok stop) (e : DkEx a T H d r R done k) : ok H := by
  refine h.ok (fun n _ => Nat.zero_le _) H .refl ?_
  have e1 : less k 0 = k := by cases k <;> rfl
  simpa [applyW, e1] using e
theorem DoesW.cons {b : Nat} {row : List Int} (h : DoesW a T d r ((b, row) :: ws) k R done H ok stop) (nk : k ≠ some 0) (c : Chg [d, r] H H') : DoesW a T d r ws (less k 1) (R.set b row) (done + 1) H' ok stop := by
  refine ⟨fun q H2 c2 e => h.ok (fun n en => ?_) H2 (c.trans c2) ?_, fun n en hn H2 c2 e => ?_⟩
  · subst en
    have := q (n - 1) rfl
    have n0 : n ≠ 0 := fun z => nk (by rw [z])
    simp; omega
  · have e1 : less (less k 1) ws.length = less k ((b, row) :: ws).length := by
      cases k with
      | none => rfl
      | some n => show some (n - 1 - ws.length) = some (n - (ws.length + 1)); congr 1; omega
    have e2 : done + 1 + (ws.length : Int) = done + (((b, row) :: ws).length : Nat) := by simp; omega
    rw [← e1, ← e2]
    exact e
  · cases k with
    | none => cases en
    | some m =>
      have em : m - 1 = n := Option.some.inj en
      have m0 : m ≠ 0 := fun z => nk (by rw [z])
      refine h.stop m rfl (by simp; omega) H2 (c.trans c2) ?_
      rw [show m = n + 1 by omega]
      show DkEx a T H2 d r (applyW (ws.take n) (R.set b row)) (done + ((n + 1 : Nat) : Int)) (some 0)
      rw [show done + ((n + 1 : Nat) : Int) = done + 1 + (n : Int) by omega]
      exact e
/-- a first part, then a second -/
theorem DoesW.split (h : DoesW a T d r (ws ++ vs) k R done H ok stop) : DoesW a T d r ws k R done H (fun H1 => DoesW a T d r vs (less k ws.length) (applyW ws R) (done + ws.length) H1 ok stop ∧ DkEx a T H1 d r (applyW ws R) (done + ws.length) (less k ws.length)) stop := by
  refine ⟨fun q H1 c1 e1 => ⟨⟨fun q2 H2 c2 e2 => h.ok (fun n en => ?_) H2 (c1.trans c2) ?_, fun n en hn H2 c2 e2 => ?_⟩, e1⟩, fun n en hn H1 c1 e1 => h.stop n en (by simp; omega) H1 c1 ?_⟩
  · have := q n en
    subst en
    have := q2 (n - ws.length) rfl
    simp; omega
  · have e3 : less (less k ws.length) vs.length = less k (ws ++ vs).length := by
      cases k with
      | none => rfl
      | some n => show some (n - ws.length - vs.length) = some (n - (ws ++ vs).length); congr 1; simp; omega
    rw [← e3, applyW_app, show done + (((ws ++ vs).length : Nat) : Int) = done + ws.length + vs.length by simp; omega]
    exact e2
  · cases k with
    | none => cases en
    | some m =>
      have em : m - ws.length = n := Option.some.inj en
      have := q m rfl
      refine h.stop m rfl (by simp; omega) H2 (c1.trans c2) ?_
      rw [show m = ws.length + n by omega, List.take_length_add_append, applyW_app, show done + ((ws.length + n : Nat) : Int) = done + ws.length + n by omega]
      exact e2
  · rw [List.take_append_of_le_length (by omega)]
    exact e1
end
section
variable {K : PySem.W.Frag} {a : Ac} {T : List Addr} {H : Hp} {Q : VK} {E : XK} [F : Fc K a] {d r : Addr} {ps : List Addr} {R : List (List Int)} {done : Int} {k : Option Nat} {ws : List (Nat × List Int)} {ok stop : Hp → Prop}
omit F in
theorem DkEx.dd (h : DkEx a T H d r R done k) : ∃ dx fs, H d = some (.ins a.Disk dx fs) := by obtain ⟨ps, h⟩ := h; obtain ⟨dx, e⟩ := h.dd; exact ⟨dx, _, e⟩
omit F in
theorem DkEx.same {H' : Hp} (h : DkEx a T H d r R done k) (s : Same H H') : DkEx a T H' d r R done k := by obtain ⟨ps, h⟩ := h; exact ⟨ps, h.chg' (.of s) (h.toDiskAt.same s) h.out⟩
theorem p_readE {i : Int} {row : List Int} (h : DkEx a T H d r R done k) (hi : 0 ≤ i) (hr : R[i.toNat]? = some row) (q : ∀ p H', Same H H' → H p = none → H' p = some (.lst (row.map V.int)) → Q (.ref p) H') : sp_Disk_read K a [.ref d, .int i] H Q E := by obtain ⟨ps, h⟩ := h; exact p_read h.toDiskAt hi hr q
omit F in
theorem out_set {ps : List Addr} {p : Addr} {i : Nat} (ex : ∀ t ∈ T, t ∉ [d, r] ∧ ∃ u, H t = some u) (out : ∀ q ∈ ps, q ∉ T) (pn : H p = none) : ∀ q ∈ ps.set i p, q ∉ T := fun q hq z => by
  rcases List.mem_or_eq_of_mem_set hq with y | y
  · exact out q y z
  · obtain ⟨_, u, e⟩ := ex q z
    rw [y, pn] at e; cases e
/-- homes: whole numbers of blocks behind the log -/
def isHome (n : Nat) : V → Bool
  | .int i => decide (17 ≤ i) && decide (i < n)
  | _ => false
/-- pairs that a commit may take -/
structure GoodPrs (n : Nat) (prs : List (Int × List Int)) : Prop where
  few : prs.length ≤ 15
  row : ∀ p ∈ prs, 17 ≤ p.1 ∧ p.1 < n ∧ GoodRow p.2
  up : prs.Pairwise fun p q => p.1 < q.1
/-- the rows that are brought home -/
def homeW (homes : List Int) (R : List (List Int)) : List (Nat × List Int) := (List.range homes.length).map fun j => ((homes.getD j 0).toNat, R.getD (2 + j) [])
def carryW (homes : List Int) (R : List (List Int)) : List (Nat × List Int) := homeW homes R ++ [(1, List.replicate 16 0)]
end

section
variable {K : PySem.W.Frag} {a : Ac} {H : Hp} {Q : VK} {E : XK} {T : List Addr} {d r : Addr} {R : List (List Int)} {done : Int} {k : Option Nat}
theorem go_methD {m : Str} {sp : Sp} {E : Bk.St → XK} {t : TA} {σ : Bk.St} (h : DkEx a T H d r R done k) (hm : ∀ r done left, ([("rows", r), ("done", done), ("left", left)] : List (Str × V)).lookup m = none) (q : t σ H fun vs H2 => sp (.ref d :: vs) H2 Q (E σ)) : MethK m [(a.Disk, sp)] E t σ Q (.ref d) H := by
  obtain ⟨ps, h⟩ := h
  obtain ⟨dx, e⟩ := h.dd
  exact go_MethK 0 e (hm _ _ _) rfl q
end

section
variable {K : PySem.W.Frag} {a : Ac} {H : Hp} {Q : VK} {E : XK} [F : Fc K a] {d r : Addr} {R : List (List Int)} {done : Int} {k : Option Nat}
theorem p_writesE (h : DkEx a [] H d r R done k) (q : Q (.int done) H) : sp_Disk_writes K a [.ref d] H Q E := by obtain ⟨ps, h⟩ := h; exact p_writes h.toDiskAt q
theorem p_writeF {i : Int} {p : Addr} {row : List Int} (h : DkEx a [] H d r R done none) (i0 : 0 ≤ i) (i1 : i < R.length) (hp : H p = some (.lst (row.map V.int))) (g : GoodRow row)
    (q : ∀ H', Chg [d, r] H H' → DkEx a [] H' d r (R.set i.toNat row) (done + 1) none → Q .non H') : sp_Disk_write K a [.ref d, .int i, .ref p] H Q E := by
  obtain ⟨ps, h⟩ := h
  refine p_write h.toDiskAt (n := "int") rfl (.good hp g) (fun i' row' ei _ _ er nl p' H' c pn h' => ?_) (fun z => ?_) (fun _ z => by cases z) (fun _ _ el H' s => by cases el)
  · cases ei; cases er
    exact q H' c ⟨_, h.chg' c h' (out_set h.ex h.out pn)⟩
  · rw [isBlk_of i0 i1] at z; cases z
omit F in
theorem DkEx.own (h : DkEx a [] H d r R done k) : ∀ b ∈ [d, r], NotInts H b ∧ NotTup H b := by obtain ⟨ps, h⟩ := h; exact fun b hb => ⟨h.toDiskAt.own b hb, h.toDiskAt.ownT b hb⟩
omit F in
theorem DkEx.ne {x : Addr} {xs : List V} (h : DkEx a [] H d r R done k) (e : H x = some (.lst xs)) : x ≠ d := by obtain ⟨ps, h⟩ := h; obtain ⟨dx, e2⟩ := h.dd; exact ne_obj e e2 (by simp)
omit F in
theorem DkEx.fresh {x : Addr} (h : DkEx a [] H d r R done k) (e : H x = none) : x ≠ d ∧ x ≠ r := ⟨fun z => (by obtain ⟨ps, h⟩ := h; obtain ⟨dx, e2⟩ := h.dd; rw [z, e2] at e; cases e), fun z => (by obtain ⟨ps, h⟩ := h; rw [z, h.rr] at e; cases e)⟩
omit F in
theorem DkEx.many (h : DkEx a [] H d r R done k) : 24 ≤ R.length ∧ R.length ≤ 96 := by obtain ⟨ps, h⟩ := h; exact h.toDiskAt.many
omit F in
theorem DkEx.good (h : DkEx a [] H d r R done k) : ∀ row ∈ R, GoodRow row := by obtain ⟨ps, h⟩ := h; exact h.toDiskAt.good
omit F in
theorem DkEx.chg {S : List Addr} {H' : Hp} (h : DkEx a [] H d r R done k) (c : Chg S H H') (hd : d ∉ S) (hr : r ∉ S) (hS : ∀ b ∈ S, NotInts H b) : DkEx a [] H' d r R done k := by
  obtain ⟨ps, h⟩ := h
  exact ⟨ps, h.toDiskAt.chg2 c hd hr hS, fun _ _ => by simp, fun t ht => by cases ht⟩
omit F in
theorem DkEx.ndr (h : DkEx a [] H d r R done k) : d ≠ r := by
  obtain ⟨ps, h⟩ := h
  obtain ⟨dx, e⟩ := h.dd
  exact ne_obj e h.rr (by simp)
end

/-! ### a layout -/
/-- a layout of m blocks, t of which have nodes -/
def LayAt (a : Ac) (H : Hp) (l : Addr) (m t : Int) : Prop := ∃ dx, H l = some (.ins a.Layout dx [("many", .int m), ("tables", .int t), ("maps_at", .int 17), ("nodes_at", .int (17 + (m + 16 - 1) / 16)), ("data_at", .int (17 + (m + 16 - 1) / 16 + t))])
def isTables : V → Bool
  | .int i => decide (1 ≤ i) && decide (i ≤ 8)
  | _ => false
section
variable {K : PySem.W.Frag} {a : Ac} {H : Hp} {Q : VK} {E : XK} [F : Fc K a] {l : Addr} {m t : Int}
omit F
theorem LayAt.same {H' : Hp} (h : LayAt a H l m t) (s : Same H H') : LayAt a H' l m t := let ⟨dx, e⟩ := h; ⟨dx, s _ _ e⟩
theorem LayAt.chg {H' : Hp} {S : List Addr} (h : LayAt a H l m t) (c : Chg S H H') (n : l ∉ S) : LayAt a H' l m t := let ⟨dx, e⟩ := h; ⟨dx, c.at n e⟩
theorem p_is_tables {x : V} {n : String} (h : tyN H x = some n) (q : Q (.bl (isTables x)) H) : sp_is_tables K a [x] H Q E := by
  refine in_is_tables ?_
  unfold t_is_tables
  cases x with
  | int i =>
    walk_at "go"
    refine go_dec (fun c => ?_) (fun c => ?_)
    all_goals walk_at "go"
    all_goals (simpa [isTables, c] using q)
  | bl b => walk_at "go"; exact q
  | non => walk_at "go"; exact q
  | str s => walk_at "go"; exact q
  | ref p =>
    rcases kindR h with ⟨rfl, xs, e⟩ | ⟨rfl, xs, e⟩ | ⟨rfl, kvs, e⟩
    all_goals (walk_at "go"; exact q)
  | _ => cases h
include F
theorem mk_Layout (hm : 24 ≤ m ∧ m ≤ 96) (ht : 1 ≤ t ∧ t ≤ 8) (room : 17 + (m + 16 - 1) / 16 + t < m) (q : ∀ l H', Same H H' → H l = none → LayAt a H' l m t → Q (.ref l) H') : MakeK a.Layout (sp_Layout_init K a) E Q [.int m, .int t] H := by
  refine go_MakeK fun dx H1 x H2 n1 n2 => ?_
  refine in_Layout_init ?_
  unfold t_Layout_init
  walk_at "go"
  refine p_is_many rfl ?_
  rw [show isMany (.int m) = true by simp [isMany, hm.1, hm.2]]
  walk_at "go"
  refine p_is_tables rfl ?_
  rw [show isTables (.int t) = true by simp [isTables, ht.1, ht.2]]
  walk_at "go"
  rename_i H3 w3 H4 w4 H5 w5 H6 w6 H7 w7
  have s2 := n1.same.trans n2.same
  have xf : H x = none := n1.same.free n2.free
  have c7 : Chg [x] H2 H7 := ((((Chg.wr w3 (by simp)).trans (.wr w4 (by simp))).trans (.wr w5 (by simp))).trans (.wr w6 (by simp))).trans (.wr w7 (by simp))
  exact ⟨rfl, q x H7 (Chg.same (Chg.drop ((Chg.of s2).trans c7) xf)) xf ⟨dx, w7.at⟩⟩
end

/-! ### the law's own defs -/
def spLaw (K : PySem.W.Frag) : Sp := fun vs H Q _ => ∃ (a : Addr) (ns : List Int), vs = [.ref a] ∧ SqL K H a (ns.map V.int) ∧ ns.length ≤ 63 ∧ ∀ H', Q (.bl true) H'
section
variable {K : PySem.W.Frag} {a : Ac} {H : Hp} {Q : VK} {E : XK}
theorem p_cell_at {p : Addr} {ns : List Int} {k : Int} (h : SqL K H p (ns.map V.int)) (hk : 0 ≤ k) (q : Q (.int (cellI ns k)) H) : sp_L_cell_at K a [.ref p, .int k] H Q E := by
  refine in_L_cell_at ?_
  unfold t_L_cell_at
  walk_at "go"
  rw [List.length_map]
  refine go_dec (fun c => ?_) (fun c => ?_)
  all_goals walk_at "go"
  · exact go_ixK h (cell_in hk c) q
  · rwa [cell_out c] at q
end

end Bk

namespace Bk
open PySem L2 PyProof.Rows
/-! our own short tactics: h: what stands at a place; ne: two places; sm: what stood stands; z: a size; s: a step; go: steps -/
local macro_rules | `(tactic| walk_at "h") => `(tactic| first
  | assumption
  | exact New.at (by assumption)
  | exact Wr.at (by assumption)
  | (refine' New.old (by assumption) ?_; walk_at "h")
  | (refine' Same.at (by assumption) ?_; walk_at "h")
  | (refine' Wr.old (by assumption) ?_ ?_; walk_at "ne"; walk_at "h")
  | (refine' Chg.at (by assumption) ?_ ?_; walk_at "ni"; walk_at "h"))
local macro_rules | `(tactic| walk_at "ni") => `(tactic| first
  | exact ni_nil
  | assumption
  | (refine' ni_cons ?_ ?_; walk_at "ne"; walk_at "ni"))
local macro_rules | `(tactic| walk_at "ne") => `(tactic| first
  | assumption
  | exact Ne.symm (by assumption)
  | exact New.ne (by assumption) (by walk_at "h")
  | exact ne_none (by assumption) (by walk_at "h")
  | exact Ne.symm (ne_none (by assumption) (by walk_at "h"))
  | exact Ne.symm (New.ne (by assumption) (by walk_at "h")))
local macro_rules | `(tactic| walk_at "sm") => `(tactic| first
  | exact Same.refl _
  | assumption
  | (refine' Same.trans ?_ (New.same (by assumption)); walk_at "sm")
  | (refine' Same.trans ?_ (by assumption : Same _ _); walk_at "sm"))
local macro_rules | `(tactic| walk_at "z") => `(tactic| first
  | assumption
  | (rw [PySem.sizeLine_eq]; omega)
  | (rw [PySem.sizeLine_eq]; simp only [List.length_cons, List.length_nil, List.length_append, List.length_map, List.length_range, List.length_replicate, len_cut]; omega)
  | (rw [PySem.sizeLine_eq]; simp only [List.length_cons, List.length_nil, List.length_append, List.length_map, List.length_range, List.length_replicate, len_cut] at *; omega))
local macro_rules | `(tactic| walk_at "s") => `(tactic| first
  | (refine' Step.go ?_)
  | ((with_reducible refine' go_var ?h ?_); (case h => exact rfl))
  | ((with_reducible refine' go_name2 ?h ?_); (case h => (simp only [List.set_cons_zero, List.set_cons_succ]; exact rfl)))
  | ((with_reducible refine' go_name2 ?h ?_); (case h => exact rfl))
  | (with_reducible refine' go_if ?_)
  | (with_reducible refine' iteT ?_)
  | (with_reducible refine' iteF ?_)
  | ((with_reducible refine' go_Td ?h ?_); (case h => walk_at "pr"))
  | ((with_reducible refine' go_Fd ?h ?_); (case h => walk_at "pr"))
  | ((with_reducible refine' go_Tn ?h ?_); (case h => walk_at "pr"))
  | ((with_reducible refine' go_Fn ?h ?_); (case h => walk_at "pr"))
  | ((with_reducible refine' go_T ?h ?_); (case h => (first | decide | assumption | exact rfl)))
  | ((with_reducible refine' go_F ?h ?_); (case h => (first | decide | assumption | exact rfl)))
  | ((with_reducible refine' go_LstK ?h ?_); (case h => walk_at "z"); intro p H1 n1)
  | ((with_reducible refine' go_TupK ?h ?_); (case h => walk_at "z"); intro p H1 n1)
  | ((with_reducible refine' go_addL ?h ?k ?z ?_); (case h => walk_at "h"); (case k => walk_at "h"); (case z => walk_at "z"); intro p H1 n1)
  | ((with_reducible refine' go_mulI ?h ?_); (case h => (unfold CMul; omega)))
  | ((with_reducible refine' go_mulL ?h ?k ?_); (case h => walk_at "h"); (case k => (refine ⟨by omega, by omega, ?_⟩; walk_at "z")); intro p H1 n1)
  | ((with_reducible refine' go_div ?h ?_); (case h => (unfold CDiv; omega)))
  | ((with_reducible refine' go_mod ?h ?_); (case h => omega))
  | ((with_reducible refine' go_pow ?h ?_); (case h => (unfold CPow; omega)))
  | ((with_reducible refine' go_slL ?h ?_); (case h => walk_at "h"); intro p H1 n1)
  | ((with_reducible refine' go_ixL ?h ?k ?_); (case h => walk_at "h"); (case k => exact rfl))
  | ((with_reducible refine' go_ixT ?h ?k ?_); (case h => walk_at "h"); (case k => exact rfl))
  | ((with_reducible refine' go_slW ?h ?_); (case h => walk_at "h"))
  | ((with_reducible refine' go_bmL ?h ?_); (case h => walk_at "h"))
  | ((with_reducible refine' go_append ?h ?k ?_); (case h => walk_at "h"); (case k => walk_at "z"); intro H1 n1)
  | ((with_reducible refine' go_extend ?h ?k ?z ?_); (case h => walk_at "h"); (case k => walk_at "h"); (case z => walk_at "z"); intro H1 n1)
  | ((with_reducible refine' go_clear ?h ?_); (case h => walk_at "h"); intro H1 n1)
  | ((with_reducible refine' go_dnew ?_); intro p H1 n1)
  | ((with_reducible refine' go_lenL ?h ?_); (case h => walk_at "h"))
  | ((with_reducible refine' go_lenT ?h ?_); (case h => walk_at "h"))
  | ((with_reducible refine' go_lenK ?h ?_); (case h => walk_at "hk"))
  | ((with_reducible refine' go_listL ?h ?_); (case h => walk_at "h"); intro p H1 n1)
  | ((with_reducible refine' go_listT ?h ?_); (case h => walk_at "h"); intro p H1 n1)
  | ((with_reducible refine' go_tupleL ?h ?_); (case h => walk_at "h"); intro p H1 n1)
  | ((with_reducible refine' go_isi ?h ?k ?_); (case h => walk_at "ty"); (case k => exact kit_bb (by decide) (by decide)))
  | ((with_reducible refine' go_seqL ?h ?_); (case h => walk_at "h"))
  | ((with_reducible refine' go_seqT ?h ?_); (case h => walk_at "h"))
  | ((with_reducible refine' go_rng1K ?h ?_); (case h => omega))
  | ((with_reducible refine' go_rng2K ?h ?_); (case h => omega))
  | (with_reducible refine' go_raise ?_)
  | ((with_reducible refine' go_tupG ?h ?k ?_); (case h => walk_at "h"); (case k => exact rfl))
  | ((with_reducible refine' go_lstG ?h ?k ?_); (case h => walk_at "h"); (case k => exact rfl))
  | (with_reducible refine' go_tryAs ?_)
  | ((with_reducible refine' go_asT ?_); intro e he)
  | (with_reducible refine' go_asF ?_)
  | ((with_reducible refine' go_manyT ?_); intro e he)
  | (with_reducible refine' go_manyF ?_)
  | ((with_reducible refine' go_FldK ?h ?c ?n ?l ?_); (case h => walk_at "h"); (case c => infer_instance); (case n => infer_instance); (case l => exact rfl))
  | ((with_reducible refine' go_SFldK ?h ?c ?n ?l ?e ?_); (case h => walk_at "h"); (case c => infer_instance); (case n => infer_instance); (case l => exact Nat.le_of_ble_eq_true rfl); (case e => walk_at "pf"); intro H1 n1)
  | ((with_reducible refine' go_MethK 0 ?h ?l ?e ?_); (case h => walk_at "h"); (case l => exact rfl); (case e => exact rfl))
  | ((with_reducible refine' go_MethK 1 ?h ?l ?e ?_); (case h => walk_at "h"); (case l => exact rfl); (case e => exact rfl))
  | ((with_reducible refine' go_MethK 2 ?h ?l ?e ?_); (case h => walk_at "h"); (case l => exact rfl); (case e => exact rfl))
  | ((with_reducible refine' go_MethXK ?h ?l ?_); (case h => walk_at "h"); (case l => exact rfl))
  | ((with_reducible refine' go_DGetS ?h ?l ?_); (case h => walk_at "h"); (case l => exact rfl))
  | ((with_reducible refine' go_DPutS ?h ?l ?e ?_); (case h => walk_at "h"); (case l => exact Nat.le_of_ble_eq_true rfl); (case e => walk_at "pk"); intro H1 n1)
  | ((with_reducible refine' go_disp ?_); intro p H1 n1)
  | ((with_reducible refine' go_DispS ?h ?e ?l ?k ?j ?m ?_); (case h => walk_at "h"); (case e => exact rfl); (case l => exact Nat.le_of_ble_eq_true rfl); (case k => (simp only [unS]; exact rfl)); (case j => (simp only [List.map_cons, List.map_nil]; exact rfl)); (case m => decide +kernel); intro H1 n1)
  | ((with_reducible refine' go_ParK ?h ?_); (case h => (simp only [List.set_cons_zero, List.set_cons_succ]; exact rfl)))
  | ((with_reducible refine' go_setLi ?h ?k ?_); (case h => walk_at "h"); (case k => walk_at "ix"); intro H1 n1)
  | ((with_reducible refine' go_listYL ?h ?_); (case h => walk_at "h"))
  | ((with_reducible refine' go_maxD ?h ?_); (case h => walk_at "h"))
  | ((with_reducible refine' go_ListRK ?h ?_); (case h => omega); intro p H1 n1)
  | ((with_reducible refine' go_EnumL ?h ?_); (case h => walk_at "h"))
  | (with_reducible refine' go_isX ?_)
  | (with_reducible refine' go_isXt ?_)
  | ((with_reducible refine' go_DInI ?h ?_); (case h => walk_at "h"))
  | ((with_reducible refine' go_DNotInI ?h ?_); (case h => walk_at "h"))
  | ((with_reducible refine' go_DGet2K ?h ?_); (case h => walk_at "h"))
  | ((with_reducible refine' go_eqDE ?h ?k ?_); (case h => walk_at "h"); (case k => walk_at "h"))
  | ((with_reducible refine' go_neDE ?h ?k ?_); (case h => walk_at "h"); (case k => walk_at "h"))
  | ((with_reducible refine' go_insert ?h ?k ?l ?m ?_); (case h => walk_at "h"); (case k => walk_at "z"); (case l => omega); (case m => omega); intro H1 n1)
  | ((with_reducible refine' go_dnewT ?_); intro p H1 n1)
  | ((with_reducible refine' go_LstRevK ?h ?_); (case h => walk_at "h"); intro p H1 n1)
  | (with_reducible refine' go_gCons ?_))
local macro_rules | `(tactic| walk_at "pf") => `(tactic| first
  | exact putF_nil
  | exact putF_hit
  | (refine' putF_miss ?h ?k; (case h => decide +kernel); (case k => walk_at "pf")))
local macro_rules | `(tactic| walk_at "pk") => `(tactic| first
  | exact putK_nil
  | exact putK_hit (by (simp only [List.map_cons, List.map_nil]; decide +kernel))
  | (refine' putK_miss ?h ?k; (case h => decide +kernel); (case k => walk_at "pk")))
local macro_rules | `(tactic| walk_at "ix") => `(tactic| first
  | assumption
  | omega
  | (simp only [List.length_cons, List.length_nil, List.length_append, List.length_map, List.length_range, List.length_replicate, List.length_set] at *; omega))
local macro_rules | `(tactic| walk_at "pr") => `(tactic| first
  | assumption
  | decide
  | omega
  | exact rfl
  | (intro z; cases z; done))
local macro_rules | `(tactic| walk_at "hk") => `(tactic| first
  | assumption
  | exact seq' (by assumption) (by walk_at "sm"))
local macro_rules | `(tactic| walk_at "ty") => `(tactic| first
  | exact rfl
  | assumption
  | exact tyN_L (by walk_at "h")
  | exact tyN_T (by walk_at "h")
  | exact tyN_D (by walk_at "h"))
local macro_rules | `(tactic| walk_at "go") => `(tactic| repeat (walk_at "s"))
/-! ### lists of tuples of whole numbers and texts -/
/-- the list at P: tuples, each as the key tells -/
def LK (H : Hp) (P : Addr) (ks : List (List Key)) : Prop := ∃ ts : List Addr, H P = some (.lst (ts.map V.ref)) ∧ KyT H ks ts
theorem kyT_chg {S : List Addr} {H H' : Hp} {ks : List (List Key)} {ts : List Addr} (k : KyT H ks ts) (c : Chg S H H') (o : ∀ t ∈ S, NotTup H t) : KyT H' ks ts := Paired.mapP k fun _ t e => c.at (fun z => o t z _ e) e
theorem LK.chg {S : List Addr} {H H' : Hp} {P : Addr} {ks : List (List Key)} (h : LK H P ks) (c : Chg S H H') (n : P ∉ S) (o : ∀ t ∈ S, NotTup H t) : LK H' P ks := let ⟨ts, e, k⟩ := h; ⟨ts, c.at n e, kyT_chg k c o⟩
theorem LK.same {H H' : Hp} {P : Addr} {ks : List (List Key)} (h : LK H P ks) (s : Same H H') : LK H' P ks := h.chg (S := []) (.of s) ni_nil fun _ z => absurd z List.not_mem_nil
theorem kyT_len {H : Hp} {ks : List (List Key)} {ts : List Addr} (k : KyT H ks ts) : ks.length = ts.length := Paired.length k
theorem kyT_at {H : Hp} : ∀ {ks : List (List Key)} {ts : List Addr} {i : Nat} {t : Addr}, KyT H ks ts → ts[i]? = some t → ∃ k, ks[i]? = some k ∧ H t = some (.tup (k.map kV))
  | _, _, i, t, .nil, h => by simp at h
  | _, _, 0, t, .cons (a := k) a r, h => by
    obtain rfl := Option.some.inj h
    exact ⟨k, rfl, a⟩
  | _, _, i + 1, t, .cons a r, h => by
    obtain ⟨k, e, e2⟩ := kyT_at (i := i) r (by simpa using h)
    exact ⟨k, by simpa using e, e2⟩
theorem kyT_app {H : Hp} : ∀ {ks ls : List (List Key)} {ts us : List Addr}, KyT H ks ts → KyT H ls us → KyT H (ks ++ ls) (ts ++ us)
  | _, _, _, _, .nil, b => b
  | _, _, _, _, .cons a r, b => .cons a (kyT_app r b)
theorem kyT_one {H : Hp} {k : List Key} {t : Addr} (e : H t = some (.tup (k.map kV))) : KyT H [k] [t] := .cons e .nil
theorem LK.nil {H : Hp} {P : Addr} (e : H P = some (.lst [])) : LK H P [] := ⟨[], e, .nil⟩
theorem dpall_keys {K : PySem.W.Frag} {H : Hp} : ∀ {ks : List (List Key)} {ts : List Addr}, KyT H ks ts → DpAll K H (ts.map V.ref) (ks.map tD)
  | _, _, .nil => .nil
  | _, _, .cons (a := k) a r => by
    refine .cons (.tup (SqT.of a) ?_) (dpall_keys r)
    clear a
    induction k with
    | nil => exact .nil
    | cons x k ih =>
      cases x with
      | inl i => exact .cons (.int _) ih
      | inr z => exact .cons (.str _) ih
theorem LK.dp {K : PySem.W.Frag} {H : Hp} {P : Addr} {ks : List (List Key)} (h : LK H P ks) : Dp K H (.ref P) (.list (ks.map tD)) := let ⟨ts, e, k⟩ := h; .lst (SqL.of e) (dpall_keys k)
section
variable {K : PySem.W.Frag} {σ : Bk.St} {H H1 : Hp} {Q : VK} {a : Addr} {te : TE} {tt : TT} {m n : Nat} {lo : Int}
/-- tuples made over a range, where the test holds -/
theorem lc_lkR {ks : Nat → List Key} {p : Nat → Bool} (hz : n ≤ 1000)
    (test : ∀ (i : Nat) (H' : Hp) (QB : Bool → Hp → Prop), i < n → Same H1 H' → QB (p i) H' → tt ((σ.set m none).set m (some (.int (lo + i)))) H' QB)
    (step : ∀ (i : Nat) (H' : Hp) (Q' : VK), i < n → p i = true → Same H1 H' → (∀ t H'', Same H' H'' → H' t = none → H'' t = some (.tup ((ks i).map kV)) → Q' (.ref t) H'') → te ((σ.set m none).set m (some (.int (lo + i)))) H' Q')
    (q : ∀ D H2, H1 D = none → Same H1 H2 → LK H2 D (((List.range n).filter p).map ks) → Q (.ref D) H2) : LcK (gName m) tt te [m] σ Q (Itr lo n) H1 := by
  intro D hD
  refine lc_it (walk_range (lo := lo) (n := n)) (fun i H => LK H D (((List.range i).filter p).map ks) ∧ i ≤ n ∧ Same H1 H) ⟨⟨[], upd_same, .nil⟩, Nat.zero_le _, fun b o e => by rw [upd_ne (ne_of_none e hD)]; exact e⟩ (fun _ _ _ _ => trivial) ?_ ?_
  · rintro i v H H' hi ⟨⟨ts, ed, kt⟩, i2, s⟩ ⟨rfl, rfl⟩
    refine ⟨?_, test i _ _ hi s ?_⟩
    · show ((σ.set m none).set m (some _)).set m none = σ.set m none
      rw [List.set_set, List.set_set]
    · cases hb : p i with
      | false =>
        rw [if_neg Bool.false_ne_true]
        refine ⟨⟨ts, ed, ?_⟩, hi, s⟩
        rw [List.range_succ, List.filter_append, List.filter_cons_of_neg (by rw [hb]; decide), List.filter_nil, List.append_nil]
        exact kt
      | true =>
        rw [if_pos rfl]
        refine step i _ _ hi hb s fun t H3 s3 ht et => ?_
        have ed3 := s3 _ _ ed
        have ll := kyT_len kt
        rw [List.length_map] at ll
        have l2 := List.length_filter_le p (List.range i)
        rw [List.length_range] at l2
        have ntD : t ≠ D := fun z => by rw [z, ed] at ht; cases ht
        refine ⟨_, ed3, by rw [sizeLine_eq, List.length_map]; omega, ⟨ts ++ [t], ?_, ?_⟩, hi, fun b o e => ?_⟩
        · rw [upd_same, List.map_append]; rfl
        · rw [List.range_succ, List.filter_append, List.filter_cons_of_pos hb, List.filter_nil, List.map_append]
          refine kyT_app (Paired.mapP kt fun k u e => ?_) (kyT_one ?_)
          · rw [upd_ne (fun z => by rw [z, ed] at e; cases e)]; exact s3 _ _ e
          · rw [upd_ne ntD]; exact et
        · rw [upd_ne (ne_of_none e hD)]; exact s3 _ _ (s _ _ e)
  · rintro H2 ⟨hl, _, s⟩
    exact q D H2 hD s hl
/-- of a list of tuples those for which the test holds -/
theorem lc_lkF {ks : List (List Key)} {pp : List Key → Bool} (h : LK H1 a ks) (hz : ks.length ≤ 1000)
    (test : ∀ (k : List Key) (t : Addr) (H' : Hp) (QB : Bool → Hp → Prop), k ∈ ks → Same H1 H' → H' t = some (.tup (k.map kV)) → QB (pp k) H' → tt ((σ.set m none).set m (some (.ref t))) H' QB)
    (step : ∀ (t : Addr) (H' : Hp) (Q' : VK), Q' (.ref t) H' → te ((σ.set m none).set m (some (.ref t))) H' Q')
    (q : ∀ D H2, H1 D = none → Same H1 H2 → LK H2 D (ks.filter pp) → Q (.ref D) H2) : LcK (gName m) tt te [m] σ Q (Itl K a) H1 := by
  obtain ⟨us, ea, ku⟩ := h
  have lu := kyT_len ku
  intro D hD
  refine lc_list (K := K) (a := a) (xs := us.map V.ref) (fun i H => LK H D ((ks.take i).filter pp) ∧ Same H1 H) ⟨⟨[], upd_same, .nil⟩, fun b o e => by rw [upd_ne (ne_of_none e hD)]; exact e⟩ (fun i H _ ⟨_, s⟩ => SqL.of (s _ _ ea)) ?_ ?_
  · rintro i x H' hx ⟨⟨ts, ed, kt⟩, s⟩
    rw [List.getElem?_map] at hx
    obtain ⟨t, ht, rfl⟩ := Option.map_eq_some_iff.mp hx
    obtain ⟨k, hk, et⟩ := kyT_at ku ht
    have et' := s _ _ et
    refine ⟨?_, test k t _ _ (List.mem_of_getElem? hk) s et' ?_⟩
    · show ((σ.set m none).set m (some _)).set m none = σ.set m none
      rw [List.set_set, List.set_set]
    · cases hb : pp k with
      | false =>
        rw [if_neg Bool.false_ne_true]
        refine ⟨⟨ts, ed, ?_⟩, s⟩
        rw [take_succ_of hk, List.filter_append, List.filter_cons_of_neg (by rw [hb]; decide), List.filter_nil, List.append_nil]
        exact kt
      | true =>
        rw [if_pos rfl]
        refine step t _ _ ?_
        have ll := kyT_len kt
        have l2 := List.length_filter_le pp (ks.take i)
        rw [List.length_take] at l2
        refine ⟨_, ed, by rw [sizeLine_eq, List.length_map]; omega, ⟨ts ++ [t], ?_, ?_⟩, fun b o e => ?_⟩
        · rw [upd_same, List.map_append]; rfl
        · rw [take_succ_of hk, List.filter_append, List.filter_cons_of_pos hb, List.filter_nil]
          have nD : ∀ {u : Addr} {k : List Key}, H' u = some (.tup (k.map kV)) → u ≠ D := fun e z => by rw [z, ed] at e; cases e
          exact kyT_app (Paired.mapP kt fun k u e => by rw [upd_ne (nD e)]; exact e) (kyT_one (by rw [upd_ne (nD et')]; exact et'))
        · rw [upd_ne (ne_of_none e hD)]; exact s _ _ e
  · rintro H2 ⟨hl, s⟩
    rw [List.length_map, ← lu, List.take_length] at hl
    exact q D H2 hD s hl
theorem go_inInts {x : Int} {ns : List Int} {T : Addr} (h : H T = some (.tup (ns.map V.int))) (q : Q (.bl (decide (x ∈ ns))) H) : rInP K (.int x) (.ref T) H Q := by
  refine .inl ⟨T, _, rfl, .inr (SqT.of h), rfl, by simp [flatV], ?_⟩
  have : inV (.int x) (ns.map V.int) = decide (x ∈ ns) := by
    unfold inV
    rw [Bool.eq_iff_iff, decide_eq_true_iff, List.any_eq_true]
    refine ⟨fun ⟨y, hy, e⟩ => ?_, fun h => ⟨_, List.mem_map_of_mem h, by simp [eqV]⟩⟩
    obtain ⟨z, hz, rfl⟩ := List.mem_map.mp hy
    have : z = x := by simpa [eqV] using e
    exact this ▸ hz
  simpa [this] using q
theorem go_notInInts {x : Int} {ns : List Int} {T : Addr} (h : H T = some (.tup (ns.map V.int))) (q : Q (.bl (!decide (x ∈ ns))) H) : rNotInP K (.int x) (.ref T) H Q := by
  refine .inl ⟨T, _, rfl, .inr (SqT.of h), rfl, by simp [flatV], ?_⟩
  have : inV (.int x) (ns.map V.int) = decide (x ∈ ns) := by
    unfold inV
    rw [Bool.eq_iff_iff, decide_eq_true_iff, List.any_eq_true]
    refine ⟨fun ⟨y, hy, e⟩ => ?_, fun h => ⟨_, List.mem_map_of_mem h, by simp [eqV]⟩⟩
    obtain ⟨z, hz, rfl⟩ := List.mem_map.mp hy
    have : z = x := by simpa [eqV] using e
    exact this ▸ hz
  simpa [this] using q
end

end Bk

namespace Bk
open PySem L2 PyProof.Rows
/-! our own short tactics: h: what stands at a place; ne: two places; sm: what stood stands; z: a size; s: a step; go: steps -/
local macro_rules | `(tactic| walk_at "h") => `(tactic| first
  | assumption
  | exact New.at (by assumption)
  | exact Wr.at (by assumption)
  | (refine' New.old (by assumption) ?_; walk_at "h")
  | (refine' Same.at (by assumption) ?_; walk_at "h")
  | (refine' Wr.old (by assumption) ?_ ?_; walk_at "ne"; walk_at "h")
  | (refine' Chg.at (by assumption) ?_ ?_; walk_at "ni"; walk_at "h"))
local macro_rules | `(tactic| walk_at "ni") => `(tactic| first
  | exact ni_nil
  | assumption
  | (refine' ni_cons ?_ ?_; walk_at "ne"; walk_at "ni"))
local macro_rules | `(tactic| walk_at "ne") => `(tactic| first
  | assumption
  | exact Ne.symm (by assumption)
  | exact New.ne (by assumption) (by walk_at "h")
  | exact ne_none (by assumption) (by walk_at "h")
  | exact Ne.symm (ne_none (by assumption) (by walk_at "h"))
  | exact Ne.symm (New.ne (by assumption) (by walk_at "h")))
local macro_rules | `(tactic| walk_at "sm") => `(tactic| first
  | exact Same.refl _
  | assumption
  | (refine' Same.trans ?_ (New.same (by assumption)); walk_at "sm")
  | (refine' Same.trans ?_ (by assumption : Same _ _); walk_at "sm"))
local macro_rules | `(tactic| walk_at "z") => `(tactic| first
  | assumption
  | (rw [PySem.sizeLine_eq]; omega)
  | (rw [PySem.sizeLine_eq]; simp only [List.length_cons, List.length_nil, List.length_append, List.length_map, List.length_range, List.length_replicate, len_cut]; omega)
  | (rw [PySem.sizeLine_eq]; simp only [List.length_cons, List.length_nil, List.length_append, List.length_map, List.length_range, List.length_replicate, len_cut] at *; omega))
local macro_rules | `(tactic| walk_at "s") => `(tactic| first
  | (refine' Step.go ?_)
  | ((with_reducible refine' go_var ?h ?_); (case h => exact rfl))
  | ((with_reducible refine' go_name2 ?h ?_); (case h => (simp only [List.set_cons_zero, List.set_cons_succ]; exact rfl)))
  | ((with_reducible refine' go_name2 ?h ?_); (case h => exact rfl))
  | (with_reducible refine' go_if ?_)
  | (with_reducible refine' iteT ?_)
  | (with_reducible refine' iteF ?_)
  | ((with_reducible refine' go_Td ?h ?_); (case h => walk_at "pr"))
  | ((with_reducible refine' go_Fd ?h ?_); (case h => walk_at "pr"))
  | ((with_reducible refine' go_Tn ?h ?_); (case h => walk_at "pr"))
  | ((with_reducible refine' go_Fn ?h ?_); (case h => walk_at "pr"))
  | ((with_reducible refine' go_T ?h ?_); (case h => (first | decide | assumption | exact rfl)))
  | ((with_reducible refine' go_F ?h ?_); (case h => (first | decide | assumption | exact rfl)))
  | ((with_reducible refine' go_LstK ?h ?_); (case h => walk_at "z"); intro p H1 n1)
  | ((with_reducible refine' go_TupK ?h ?_); (case h => walk_at "z"); intro p H1 n1)
  | ((with_reducible refine' go_addL ?h ?k ?z ?_); (case h => walk_at "h"); (case k => walk_at "h"); (case z => walk_at "z"); intro p H1 n1)
  | ((with_reducible refine' go_mulI ?h ?_); (case h => (unfold CMul; omega)))
  | ((with_reducible refine' go_mulL ?h ?k ?_); (case h => walk_at "h"); (case k => (refine ⟨by omega, by omega, ?_⟩; walk_at "z")); intro p H1 n1)
  | ((with_reducible refine' go_div ?h ?_); (case h => (unfold CDiv; omega)))
  | ((with_reducible refine' go_mod ?h ?_); (case h => omega))
  | ((with_reducible refine' go_pow ?h ?_); (case h => (unfold CPow; omega)))
  | ((with_reducible refine' go_slL ?h ?_); (case h => walk_at "h"); intro p H1 n1)
  | ((with_reducible refine' go_ixL ?h ?k ?_); (case h => walk_at "h"); (case k => exact rfl))
  | ((with_reducible refine' go_ixT ?h ?k ?_); (case h => walk_at "h"); (case k => exact rfl))
  | ((with_reducible refine' go_slW ?h ?_); (case h => walk_at "h"))
  | ((with_reducible refine' go_bmL ?h ?_); (case h => walk_at "h"))
  | ((with_reducible refine' go_append ?h ?k ?_); (case h => walk_at "h"); (case k => walk_at "z"); intro H1 n1)
  | ((with_reducible refine' go_extend ?h ?k ?z ?_); (case h => walk_at "h"); (case k => walk_at "h"); (case z => walk_at "z"); intro H1 n1)
  | ((with_reducible refine' go_clear ?h ?_); (case h => walk_at "h"); intro H1 n1)
  | ((with_reducible refine' go_dnew ?_); intro p H1 n1)
  | ((with_reducible refine' go_lenL ?h ?_); (case h => walk_at "h"))
  | ((with_reducible refine' go_lenT ?h ?_); (case h => walk_at "h"))
  | ((with_reducible refine' go_lenK ?h ?_); (case h => walk_at "hk"))
  | ((with_reducible refine' go_listL ?h ?_); (case h => walk_at "h"); intro p H1 n1)
  | ((with_reducible refine' go_listT ?h ?_); (case h => walk_at "h"); intro p H1 n1)
  | ((with_reducible refine' go_tupleL ?h ?_); (case h => walk_at "h"); intro p H1 n1)
  | ((with_reducible refine' go_isi ?h ?k ?_); (case h => walk_at "ty"); (case k => exact kit_bb (by decide) (by decide)))
  | ((with_reducible refine' go_seqL ?h ?_); (case h => walk_at "h"))
  | ((with_reducible refine' go_seqT ?h ?_); (case h => walk_at "h"))
  | ((with_reducible refine' go_rng1K ?h ?_); (case h => omega))
  | ((with_reducible refine' go_rng2K ?h ?_); (case h => omega))
  | (with_reducible refine' go_raise ?_)
  | ((with_reducible refine' go_tupG ?h ?k ?_); (case h => walk_at "h"); (case k => exact rfl))
  | ((with_reducible refine' go_lstG ?h ?k ?_); (case h => walk_at "h"); (case k => exact rfl))
  | (with_reducible refine' go_tryAs ?_)
  | ((with_reducible refine' go_asT ?_); intro e he)
  | (with_reducible refine' go_asF ?_)
  | ((with_reducible refine' go_manyT ?_); intro e he)
  | (with_reducible refine' go_manyF ?_)
  | ((with_reducible refine' go_FldK ?h ?c ?n ?l ?_); (case h => walk_at "h"); (case c => infer_instance); (case n => infer_instance); (case l => exact rfl))
  | ((with_reducible refine' go_SFldK ?h ?c ?n ?l ?e ?_); (case h => walk_at "h"); (case c => infer_instance); (case n => infer_instance); (case l => exact Nat.le_of_ble_eq_true rfl); (case e => walk_at "pf"); intro H1 n1)
  | ((with_reducible refine' go_MethK 0 ?h ?l ?e ?_); (case h => walk_at "h"); (case l => exact rfl); (case e => exact rfl))
  | ((with_reducible refine' go_MethK 1 ?h ?l ?e ?_); (case h => walk_at "h"); (case l => exact rfl); (case e => exact rfl))
  | ((with_reducible refine' go_MethK 2 ?h ?l ?e ?_); (case h => walk_at "h"); (case l => exact rfl); (case e => exact rfl))
  | ((with_reducible refine' go_MethXK ?h ?l ?_); (case h => walk_at "h"); (case l => exact rfl))
  | ((with_reducible refine' go_DGetS ?h ?l ?_); (case h => walk_at "h"); (case l => exact rfl))
  | ((with_reducible refine' go_DPutS ?h ?l ?e ?_); (case h => walk_at "h"); (case l => exact Nat.le_of_ble_eq_true rfl); (case e => walk_at "pk"); intro H1 n1)
  | ((with_reducible refine' go_disp ?_); intro p H1 n1)
  | ((with_reducible refine' go_DispS ?h ?e ?l ?k ?j ?m ?_); (case h => walk_at "h"); (case e => exact rfl); (case l => exact Nat.le_of_ble_eq_true rfl); (case k => (simp only [unS]; exact rfl)); (case j => (simp only [List.map_cons, List.map_nil]; exact rfl)); (case m => decide +kernel); intro H1 n1)
  | ((with_reducible refine' go_ParK ?h ?_); (case h => (simp only [List.set_cons_zero, List.set_cons_succ]; exact rfl)))
  | ((with_reducible refine' go_setLi ?h ?k ?_); (case h => walk_at "h"); (case k => walk_at "ix"); intro H1 n1)
  | ((with_reducible refine' go_listYL ?h ?_); (case h => walk_at "h"))
  | ((with_reducible refine' go_maxD ?h ?_); (case h => walk_at "h"))
  | ((with_reducible refine' go_ListRK ?h ?_); (case h => omega); intro p H1 n1)
  | ((with_reducible refine' go_EnumL ?h ?_); (case h => walk_at "h"))
  | (with_reducible refine' go_isX ?_)
  | (with_reducible refine' go_isXt ?_)
  | ((with_reducible refine' go_DInI ?h ?_); (case h => walk_at "h"))
  | ((with_reducible refine' go_DNotInI ?h ?_); (case h => walk_at "h"))
  | ((with_reducible refine' go_DGet2K ?h ?_); (case h => walk_at "h"))
  | ((with_reducible refine' go_eqDE ?h ?k ?_); (case h => walk_at "h"); (case k => walk_at "h"))
  | ((with_reducible refine' go_neDE ?h ?k ?_); (case h => walk_at "h"); (case k => walk_at "h"))
  | ((with_reducible refine' go_insert ?h ?k ?l ?m ?_); (case h => walk_at "h"); (case k => walk_at "z"); (case l => omega); (case m => omega); intro H1 n1)
  | ((with_reducible refine' go_dnewT ?_); intro p H1 n1)
  | ((with_reducible refine' go_LstRevK ?h ?_); (case h => walk_at "h"); intro p H1 n1)
  | (with_reducible refine' go_gCons ?_))
local macro_rules | `(tactic| walk_at "pf") => `(tactic| first
  | exact putF_nil
  | exact putF_hit
  | (refine' putF_miss ?h ?k; (case h => decide +kernel); (case k => walk_at "pf")))
local macro_rules | `(tactic| walk_at "pk") => `(tactic| first
  | exact putK_nil
  | exact putK_hit (by (simp only [List.map_cons, List.map_nil]; decide +kernel))
  | (refine' putK_miss ?h ?k; (case h => decide +kernel); (case k => walk_at "pk")))
local macro_rules | `(tactic| walk_at "ix") => `(tactic| first
  | assumption
  | omega
  | (simp only [List.length_cons, List.length_nil, List.length_append, List.length_map, List.length_range, List.length_replicate, List.length_set] at *; omega))
local macro_rules | `(tactic| walk_at "pr") => `(tactic| first
  | assumption
  | decide
  | omega
  | exact rfl
  | (intro z; cases z; done))
local macro_rules | `(tactic| walk_at "hk") => `(tactic| first
  | assumption
  | exact seq' (by assumption) (by walk_at "sm"))
local macro_rules | `(tactic| walk_at "ty") => `(tactic| first
  | exact rfl
  | assumption
  | exact tyN_L (by walk_at "h")
  | exact tyN_T (by walk_at "h")
  | exact tyN_D (by walk_at "h"))
local macro_rules | `(tactic| walk_at "go") => `(tactic| repeat (walk_at "s"))
/-! ### k23: who uses each block, by the program -/
abbrev wd (w : List Int) (i : Nat) : Int := w.getD i 0
/-- a pair as a key -/
def pk (e : Int × Int) : List Key := [.inl e.1, .inl e.2]
def kindBad (n : Int) (w : List Int) : Bool := if n = 0 then !decide (w = List.replicate 8 0) else if n = 1 then !decide (wd w 0 = 2) else decide (wd w 0 > 2)
def sizeBad (w : List Int) : Bool := decide (wd w 2 > 320) || (decide (wd w 0 = 2) && decide (wd w 2 % 4 > 0))
def sound (n : Int) (w : List Int) : Bool := decide (n > 0) && (decide (wd w 0 ∈ [(1 : Int), 2]) && (!kindBad n w && !sizeBad w))
def isDat (da m b : Int) : Bool := decide (da ≤ b) && decide (b < m)
def wantB (w : List Int) : Int := (wd w 2 + 16 - 1) / 16
/-- the places near -/
def nearP (w : List Int) (c : Nat) : List (Int × Int) := (List.range c).map fun k : Nat => ((k : Int), wd w (3 + k))
def farP (row : List Int) (c : Nat) : List (Int × Int) := (List.range c).map fun k : Nat => ((4 + k : Nat), wd row k)
/-- the wanted places and the blocks that they tell -/
def placesP (R : List (List Int)) (da m : Int) (w : List Int) : List (Int × Int) :=
  nearP w (min 4 (wantB w)).toNat ++ if wantB w > 4 then (-1, wd w 7) :: (if isDat da m (wd w 7) = true then farP (R.getD (wd w 7).toNat []) (wantB w - 4).toNat else []) else []
theorem wd_at {w : List Int} {i : Nat} (h : i < w.length) : (w.map V.int)[i]? = some (.int (wd w i)) := by
  rw [List.getElem?_map, List.getElem?_eq_getElem h]
  unfold wd
  rw [List.getD_eq_getElem?_getD, List.getElem?_eq_getElem h]; rfl
section
variable {K : PySem.W.Frag} {a : Ac} {H H' : Hp} {Q : VK} {E : XK} [F : Fc K a] {d r l q P : Addr} {R nds : List (List Int)} {done m : Int} {t na mm da n : Nat} {w : List Int} {x : Int}
omit F in
theorem go_wd (i : Nat) {j : Int} (h : H q = some (.lst (w.map V.int))) (e : j = (i : Int)) (l : i < w.length) (k : Q (.int (wd w i)) H) : rIxP K (.ref q) (.int j) H Q := by
  subst e
  exact go_ixAt h (by omega) (wd_at l) k
omit F in
theorem p_is_kind_bad (h : H q = some (.lst (w.map V.int))) (l8 : w.length = 8) (k : ∀ H', Same H H' → Q (.bl (kindBad x w)) H') : sp_is_kind_bad K a [.int x, .ref q] H Q E := by
  refine in_is_kind_bad ?_
  unfold t_is_kind_bad
  unfold kindBad at k
  walk_at "go"
  refine go_dec (fun c => ?_) (fun c => ?_)
  · rw [if_pos c] at k
    walk_at "go"
    rename_i z1 H1 n1 z2 H2 n2
    have e2 : H2 z2 = some (.lst ((List.replicate 8 (0 : Int)).map V.int)) := n2.at
    have e1 : H2 q = some (.lst (w.map V.int)) := n2.old (n1.old h)
    refine go_neIs e1 e2 ?_
    exact k H2 (n1.same.trans n2.same)
  rw [if_neg c] at k
  walk_at "go"
  refine go_dec (fun c1 => ?_) (fun c1 => ?_)
  · rw [if_pos c1] at k
    walk_at "go"
    refine go_wd 0 h rfl (by omega) ?_
    walk_at "go"
    exact k H (Same.refl _)
  · rw [if_neg c1] at k
    walk_at "go"
    refine go_wd 0 h rfl (by omega) ?_
    walk_at "go"
    exact k H (Same.refl _)
omit F in
theorem p_is_size_bad (h : H q = some (.lst (w.map V.int))) (l8 : w.length = 8) (k : Q (.bl (sizeBad w)) H) : sp_is_size_bad K a [.ref q] H Q E := by
  refine in_is_size_bad ?_
  unfold t_is_size_bad
  unfold sizeBad at k
  walk_at "go"
  refine go_wd 2 h rfl (by omega) ?_
  walk_at "go"
  refine go_dec (fun c => ?_) (fun c => ?_)
  · rw [decide_eq_true c, Bool.true_or] at k
    walk_at "go"
    exact k
  rw [decide_eq_false c, Bool.false_or] at k
  walk_at "go"
  refine go_wd 0 h rfl (by omega) ?_
  walk_at "go"
  refine go_dec (fun c1 => ?_) (fun c1 => ?_)
  · rw [decide_eq_true c1, Bool.true_and] at k
    walk_at "go"
    refine go_wd 2 h rfl (by omega) ?_
    walk_at "go"
    exact k
  · rw [decide_eq_false c1, Bool.false_and] at k
    walk_at "go"
    exact k
omit F in
theorem p_is_sound (h : H q = some (.lst (w.map V.int))) (l8 : w.length = 8) (k : ∀ H', Same H H' → Q (.bl (sound x w)) H') : sp_is_sound K a [.int x, .ref q] H Q E := by
  refine in_is_sound ?_
  unfold t_is_sound
  unfold sound at k
  walk_at "go"
  refine go_dec (fun c => ?_) (fun c => ?_)
  rotate_left
  · rw [decide_eq_false c, Bool.false_and] at k
    walk_at "go"
    exact k H (Same.refl _)
  rw [decide_eq_true c, Bool.true_and] at k
  walk_at "go"
  refine go_wd 0 h rfl (by omega) ?_
  walk_at "go"
  rename_i T H1 n1
  refine go_inInts (ns := [1, 2]) n1.at ?_
  walk_at "go"
  refine go_dec (fun c1 => ?_) (fun c1 => ?_)
  rotate_left
  · rw [decide_eq_false c1, Bool.false_and] at k
    walk_at "go"
    exact k H1 n1.same
  rw [decide_eq_true c1, Bool.true_and] at k
  walk_at "go"
  refine p_is_kind_bad (n1.old h) l8 fun H2 s2 => ?_
  have e2 := s2 _ _ (n1.old h)
  have s02 := n1.same.trans s2
  cases hb : kindBad x w with
  | true =>
    rw [hb, Bool.not_true, Bool.false_and] at k
    walk_at "go"
    exact k H2 s02
  | false =>
    rw [hb, Bool.not_false, Bool.true_and] at k
    walk_at "go"
    refine p_is_size_bad e2 l8 ?_
    walk_at "go"
    exact k H2 s02
theorem p_is_data (hL : LayAt a H l m t) (g : (da : Int) = 17 + (m + 16 - 1) / 16 + t) (k : Q (.bl (isDat da m x)) H) : sp_is_data K a [.ref l, .int x] H Q E := by
  refine in_is_data ?_
  unfold t_is_data
  unfold isDat at k
  obtain ⟨dl, el⟩ := hL
  walk_at "go"
  rw [← g]
  refine go_dec (fun c => ?_) (fun c => ?_)
  · rw [decide_eq_true c, Bool.true_and] at k
    walk_at "go"
    exact k
  · rw [decide_eq_false c, Bool.false_and] at k
    walk_at "go"
    exact k
omit F in
theorem p_wanted_blocks (h : H q = some (.lst (w.map V.int))) (l8 : w.length = 8) (k : Q (.int (wantB w)) H) : sp_wanted_blocks K a [.ref q] H Q E := by
  refine in_wanted_blocks ?_
  unfold t_wanted_blocks
  walk_at "go"
  refine go_wd 2 h rfl (by omega) ?_
  walk_at "go"
  exact k
theorem range_true {n : Nat} : (List.range n).filter (fun _ => true) = List.range n := List.filter_eq_self.mpr fun _ _ => rfl
theorem p_places_told (D0 : DkEx a [] H d r R done none) (hL : LayAt a H l m t) (g : (da : Int) = 17 + (m + 16 - 1) / 16 + t) (lR : (R.length : Int) = m) (h : H q = some (.lst (w.map V.int))) (l8 : w.length = 8) (w2 : wd w 2 ≤ 320 ∧ 0 ≤ wd w 2)
    (k : ∀ P H', Same H H' → H P = none → LK H' P ((placesP R da m w).map pk) → Q (.ref P) H') : sp_places_told K a [.ref d, .ref l, .ref q] H Q E := by
  refine in_places_told ?_
  unfold t_places_told
  have wb : 0 ≤ wantB w ∧ wantB w ≤ 20 := by unfold wantB; omega
  walk_at "go"
  refine p_wanted_blocks h l8 ?_
  walk_at "go"
  have mb : (if wantB w < 4 then wantB w else 4) = min 4 (wantB w) := by split <;> omega
  have kn : ∀ i : Nat, i < (min 4 (wantB w)).toNat → (3 + i) < w.length := fun i hi => by omega
  have en : ((if wantB w < 4 then wantB w else 4)).toNat = (min 4 (wantB w)).toNat := by rw [mb]
  refine lc_lkR (ks := fun i => pk ((i : Nat), wd w (3 + i))) (p := fun _ => true) (by omega) (fun i H' QB hi s kk => kk) (fun i H' Q' hi _ s kk => ?_) fun D1 H1 hD s1 hl => ?_
  · simp only [List.set_cons_zero, List.set_cons_succ]
    walk_at "go"
    refine go_wd (3 + i) (s _ _ h) (by omega) (kn i (by omega)) ?_
    walk_at "go"
    rename_i T2 H2 n2
    exact kk T2 H2 n2.same n2.free (by rw [n2.at, Int.zero_add]; rfl)
  rw [range_true, en] at hl
  have hl1 : LK H1 D1 ((nearP w (min 4 (wantB w)).toNat).map pk) := by
    unfold nearP
    rw [List.map_map]; exact hl
  clear hl
  walk_at "go"
  refine go_dec (fun c4 => ?_) (fun c4 => ?_)
  rotate_left
  · walk_at "go"
    refine k D1 H1 s1 hD ?_
    unfold placesP
    rw [if_neg (by omega), List.append_nil]
    exact hl1
  obtain ⟨ts, e1, kt⟩ := hl1
  have ll := kyT_len kt
  rw [List.length_map] at ll
  have ln : (nearP w (min 4 (wantB w)).toNat).length = 4 := by
    unfold nearP
    rw [List.length_map, List.length_range]; omega
  walk_at "go"
  refine go_wd 7 (s1 _ _ h) rfl (by omega) ?_
  walk_at "go"
  rename_i T2 H2 n2 H3 w3
  have nTD : T2 ≠ D1 := (n2.ne e1).symm
  have s03 : Same H H3 := Same.chg (s1.trans n2.same) (.wr w3 (by simp) : Chg [D1] H2 H3) fun b hb => by rw [List.mem_singleton.mp hb]; exact hD
  have kt3 : KyT H3 ((nearP w (min 4 (wantB w)).toNat).map pk ++ [pk (-1, wd w 7)]) (ts ++ [T2]) := by
    refine kyT_app ?_ (kyT_one (w3.old nTD n2.at))
    exact Paired.mapP kt fun kk u e => w3.old (fun z => by rw [z, e1] at e; cases e) (n2.old e)
  have e3 : H3 D1 = some (.lst ((ts ++ [T2]).map V.ref)) := by rw [w3.at, List.map_append]; rfl
  have hq3 := s03 _ _ h
  refine go_wd 7 hq3 rfl (by omega) ?_
  walk_at "go"
  refine p_is_data (hL.same s03) g ?_
  walk_at "go"
  cases hd : isDat da m (wd w 7) with
  | false =>
    walk_at "go"
    refine k D1 H3 s03 hD ⟨_, e3, ?_⟩
    unfold placesP
    rw [if_pos (by omega), hd, if_neg (by decide), List.map_append]
    exact kt3
  | true =>
    have hd2 := hd
    unfold isDat at hd2
    rw [Bool.and_eq_true, decide_eq_true_iff, decide_eq_true_iff] at hd2
    obtain ⟨row, er⟩ : ∃ row, R[(wd w 7).toNat]? = some row := ⟨_, List.getElem?_eq_getElem (by omega)⟩
    have D3 := D0.same s03
    have lrow := (D3.good row (List.mem_of_getElem? er)).1
    walk_at "go"
    refine go_methD D3 (fun _ _ _ => rfl) ?_
    walk_at "go"
    refine go_wd 7 hq3 rfl (by omega) ?_
    walk_at "go"
    refine p_readE D3 (by omega) er fun p4 H4 s4 pn4 e4 => ?_
    walk_at "go"
    refine lc_lkR (ks := fun i => pk ((4 + i : Nat), wd row i)) (p := fun _ => true) (by omega) (fun i H' QB hi s kk => kk) (fun i H' Q' hi _ s kk => ?_) fun D5 H5 hD5 s5 hl5 => ?_
    · simp only [List.set_cons_zero, List.set_cons_succ]
      walk_at "go"
      refine go_wd i (s _ _ e4) (by omega) (by omega) ?_
      walk_at "go"
      rename_i T6 H6 n6
      exact kk T6 H6 n6.same n6.free (by rw [n6.at]; show some (HO.tup [V.int (4 + (0 + (i : Int))), V.int (wd row i)]) = some (HO.tup [V.int ((4 + i : Nat) : Int), V.int (wd row i)]); rw [show (4 + (0 + (i : Int))) = ((4 + i : Nat) : Int) by omega])
    rw [range_true] at hl5
    obtain ⟨us, e5, ku⟩ := hl5
    have lu := kyT_len ku
    rw [List.length_map, List.length_range] at lu
    have e35 := s5 _ _ (s4 _ _ e3)
    have kt5 := kyT_chg kt3 (.of (s4.trans s5) : Chg [] H3 H5) fun _ z => absurd z List.not_mem_nil
    walk_at "go"
    rename_i D6 H6 n6
    have s06 := ((s03.trans s4).trans s5).trans n6.same
    refine k D6 H6 s06 (((s03.trans s4).trans s5).free n6.free) ⟨(ts ++ [T2]) ++ us, by rw [n6.at, List.map_append (l₁ := ts ++ [T2])], ?_⟩
    have ep : (placesP R da m w).map pk = ((nearP w (min 4 (wantB w)).toNat).map pk ++ [pk (-1, wd w 7)]) ++ (List.range (wantB w - 4).toNat).map fun i => pk ((4 + i : Nat), wd row i) := by
      unfold placesP farP
      rw [if_pos (by omega), hd, if_pos rfl, List.getD_eq_getElem?_getD, er, List.map_append, List.append_assoc]
      simp [List.map_map, Function.comp_def]
    rw [ep]
    exact kyT_app (kyT_chg kt5 (.of n6.same : Chg [] H5 H6) fun _ z => absurd z List.not_mem_nil) (kyT_chg ku (.of n6.same : Chg [] H5 H6) fun _ z => absurd z List.not_mem_nil)
end

end Bk

namespace Bk
open PySem L2 PyProof.Rows
/-! our own short tactics: h: what stands at a place; ne: two places; sm: what stood stands; z: a size; s: a step; go: steps -/
local macro_rules | `(tactic| walk_at "h") => `(tactic| first
  | assumption
  | exact New.at (by assumption)
  | exact Wr.at (by assumption)
  | (refine' New.old (by assumption) ?_; walk_at "h")
  | (refine' Same.at (by assumption) ?_; walk_at "h")
  | (refine' Wr.old (by assumption) ?_ ?_; walk_at "ne"; walk_at "h")
  | (refine' Chg.at (by assumption) ?_ ?_; walk_at "ni"; walk_at "h"))
local macro_rules | `(tactic| walk_at "ni") => `(tactic| first
  | exact ni_nil
  | assumption
  | (refine' ni_cons ?_ ?_; walk_at "ne"; walk_at "ni"))
local macro_rules | `(tactic| walk_at "ne") => `(tactic| first
  | assumption
  | exact Ne.symm (by assumption)
  | exact New.ne (by assumption) (by walk_at "h")
  | exact ne_none (by assumption) (by walk_at "h")
  | exact Ne.symm (ne_none (by assumption) (by walk_at "h"))
  | exact Ne.symm (New.ne (by assumption) (by walk_at "h")))
local macro_rules | `(tactic| walk_at "sm") => `(tactic| first
  | exact Same.refl _
  | assumption
  | (refine' Same.trans ?_ (New.same (by assumption)); walk_at "sm")
  | (refine' Same.trans ?_ (by assumption : Same _ _); walk_at "sm"))
local macro_rules | `(tactic| walk_at "z") => `(tactic| first
  | assumption
  | (rw [PySem.sizeLine_eq]; omega)
  | (rw [PySem.sizeLine_eq]; simp only [List.length_cons, List.length_nil, List.length_append, List.length_map, List.length_range, List.length_replicate, len_cut]; omega)
  | (rw [PySem.sizeLine_eq]; simp only [List.length_cons, List.length_nil, List.length_append, List.length_map, List.length_range, List.length_replicate, len_cut] at *; omega))
local macro_rules | `(tactic| walk_at "s") => `(tactic| first
  | (refine' Step.go ?_)
  | ((with_reducible refine' go_var ?h ?_); (case h => exact rfl))
  | ((with_reducible refine' go_name2 ?h ?_); (case h => (simp only [List.set_cons_zero, List.set_cons_succ]; exact rfl)))
  | ((with_reducible refine' go_name2 ?h ?_); (case h => exact rfl))
  | (with_reducible refine' go_if ?_)
  | (with_reducible refine' iteT ?_)
  | (with_reducible refine' iteF ?_)
  | ((with_reducible refine' go_Td ?h ?_); (case h => walk_at "pr"))
  | ((with_reducible refine' go_Fd ?h ?_); (case h => walk_at "pr"))
  | ((with_reducible refine' go_Tn ?h ?_); (case h => walk_at "pr"))
  | ((with_reducible refine' go_Fn ?h ?_); (case h => walk_at "pr"))
  | ((with_reducible refine' go_T ?h ?_); (case h => (first | decide | assumption | exact rfl)))
  | ((with_reducible refine' go_F ?h ?_); (case h => (first | decide | assumption | exact rfl)))
  | ((with_reducible refine' go_LstK ?h ?_); (case h => walk_at "z"); intro p H1 n1)
  | ((with_reducible refine' go_TupK ?h ?_); (case h => walk_at "z"); intro p H1 n1)
  | ((with_reducible refine' go_addL ?h ?k ?z ?_); (case h => walk_at "h"); (case k => walk_at "h"); (case z => walk_at "z"); intro p H1 n1)
  | ((with_reducible refine' go_mulI ?h ?_); (case h => (unfold CMul; omega)))
  | ((with_reducible refine' go_mulL ?h ?k ?_); (case h => walk_at "h"); (case k => (refine ⟨by omega, by omega, ?_⟩; walk_at "z")); intro p H1 n1)
  | ((with_reducible refine' go_div ?h ?_); (case h => (unfold CDiv; omega)))
  | ((with_reducible refine' go_mod ?h ?_); (case h => omega))
  | ((with_reducible refine' go_pow ?h ?_); (case h => (unfold CPow; omega)))
  | ((with_reducible refine' go_slL ?h ?_); (case h => walk_at "h"); intro p H1 n1)
  | ((with_reducible refine' go_ixL ?h ?k ?_); (case h => walk_at "h"); (case k => exact rfl))
  | ((with_reducible refine' go_ixT ?h ?k ?_); (case h => walk_at "h"); (case k => exact rfl))
  | ((with_reducible refine' go_slW ?h ?_); (case h => walk_at "h"))
  | ((with_reducible refine' go_bmL ?h ?_); (case h => walk_at "h"))
  | ((with_reducible refine' go_append ?h ?k ?_); (case h => walk_at "h"); (case k => walk_at "z"); intro H1 n1)
  | ((with_reducible refine' go_extend ?h ?k ?z ?_); (case h => walk_at "h"); (case k => walk_at "h"); (case z => walk_at "z"); intro H1 n1)
  | ((with_reducible refine' go_clear ?h ?_); (case h => walk_at "h"); intro H1 n1)
  | ((with_reducible refine' go_dnew ?_); intro p H1 n1)
  | ((with_reducible refine' go_lenL ?h ?_); (case h => walk_at "h"))
  | ((with_reducible refine' go_lenT ?h ?_); (case h => walk_at "h"))
  | ((with_reducible refine' go_lenK ?h ?_); (case h => walk_at "hk"))
  | ((with_reducible refine' go_listL ?h ?_); (case h => walk_at "h"); intro p H1 n1)
  | ((with_reducible refine' go_listT ?h ?_); (case h => walk_at "h"); intro p H1 n1)
  | ((with_reducible refine' go_tupleL ?h ?_); (case h => walk_at "h"); intro p H1 n1)
  | ((with_reducible refine' go_isi ?h ?k ?_); (case h => walk_at "ty"); (case k => exact kit_bb (by decide) (by decide)))
  | ((with_reducible refine' go_seqL ?h ?_); (case h => walk_at "h"))
  | ((with_reducible refine' go_seqT ?h ?_); (case h => walk_at "h"))
  | ((with_reducible refine' go_rng1K ?h ?_); (case h => omega))
  | ((with_reducible refine' go_rng2K ?h ?_); (case h => omega))
  | (with_reducible refine' go_raise ?_)
  | ((with_reducible refine' go_tupG ?h ?k ?_); (case h => walk_at "h"); (case k => exact rfl))
  | ((with_reducible refine' go_lstG ?h ?k ?_); (case h => walk_at "h"); (case k => exact rfl))
  | (with_reducible refine' go_tryAs ?_)
  | ((with_reducible refine' go_asT ?_); intro e he)
  | (with_reducible refine' go_asF ?_)
  | ((with_reducible refine' go_manyT ?_); intro e he)
  | (with_reducible refine' go_manyF ?_)
  | ((with_reducible refine' go_FldK ?h ?c ?n ?l ?_); (case h => walk_at "h"); (case c => infer_instance); (case n => infer_instance); (case l => exact rfl))
  | ((with_reducible refine' go_SFldK ?h ?c ?n ?l ?e ?_); (case h => walk_at "h"); (case c => infer_instance); (case n => infer_instance); (case l => exact Nat.le_of_ble_eq_true rfl); (case e => walk_at "pf"); intro H1 n1)
  | ((with_reducible refine' go_MethK 0 ?h ?l ?e ?_); (case h => walk_at "h"); (case l => exact rfl); (case e => exact rfl))
  | ((with_reducible refine' go_MethK 1 ?h ?l ?e ?_); (case h => walk_at "h"); (case l => exact rfl); (case e => exact rfl))
  | ((with_reducible refine' go_MethK 2 ?h ?l ?e ?_); (case h => walk_at "h"); (case l => exact rfl); (case e => exact rfl))
  | ((with_reducible refine' go_MethXK ?h ?l ?_); (case h => walk_at "h"); (case l => exact rfl))
  | ((with_reducible refine' go_DGetS ?h ?l ?_); (case h => walk_at "h"); (case l => exact rfl))
  | ((with_reducible refine' go_DPutS ?h ?l ?e ?_); (case h => walk_at "h"); (case l => exact Nat.le_of_ble_eq_true rfl); (case e => walk_at "pk"); intro H1 n1)
  | ((with_reducible refine' go_disp ?_); intro p H1 n1)
  | ((with_reducible refine' go_DispS ?h ?e ?l ?k ?j ?m ?_); (case h => walk_at "h"); (case e => exact rfl); (case l => exact Nat.le_of_ble_eq_true rfl); (case k => (simp only [unS]; exact rfl)); (case j => (simp only [List.map_cons, List.map_nil]; exact rfl)); (case m => decide +kernel); intro H1 n1)
  | ((with_reducible refine' go_ParK ?h ?_); (case h => (simp only [List.set_cons_zero, List.set_cons_succ]; exact rfl)))
  | ((with_reducible refine' go_setLi ?h ?k ?_); (case h => walk_at "h"); (case k => walk_at "ix"); intro H1 n1)
  | ((with_reducible refine' go_listYL ?h ?_); (case h => walk_at "h"))
  | ((with_reducible refine' go_maxD ?h ?_); (case h => walk_at "h"))
  | ((with_reducible refine' go_ListRK ?h ?_); (case h => omega); intro p H1 n1)
  | ((with_reducible refine' go_EnumL ?h ?_); (case h => walk_at "h"))
  | (with_reducible refine' go_isX ?_)
  | (with_reducible refine' go_isXt ?_)
  | ((with_reducible refine' go_DInI ?h ?_); (case h => walk_at "h"))
  | ((with_reducible refine' go_DNotInI ?h ?_); (case h => walk_at "h"))
  | ((with_reducible refine' go_DGet2K ?h ?_); (case h => walk_at "h"))
  | ((with_reducible refine' go_eqDE ?h ?k ?_); (case h => walk_at "h"); (case k => walk_at "h"))
  | ((with_reducible refine' go_neDE ?h ?k ?_); (case h => walk_at "h"); (case k => walk_at "h"))
  | ((with_reducible refine' go_insert ?h ?k ?l ?m ?_); (case h => walk_at "h"); (case k => walk_at "z"); (case l => omega); (case m => omega); intro H1 n1)
  | ((with_reducible refine' go_dnewT ?_); intro p H1 n1)
  | ((with_reducible refine' go_LstRevK ?h ?_); (case h => walk_at "h"); intro p H1 n1)
  | (with_reducible refine' go_gCons ?_))
local macro_rules | `(tactic| walk_at "pf") => `(tactic| first
  | exact putF_nil
  | exact putF_hit
  | (refine' putF_miss ?h ?k; (case h => decide +kernel); (case k => walk_at "pf")))
local macro_rules | `(tactic| walk_at "pk") => `(tactic| first
  | exact putK_nil
  | exact putK_hit (by (simp only [List.map_cons, List.map_nil]; decide +kernel))
  | (refine' putK_miss ?h ?k; (case h => decide +kernel); (case k => walk_at "pk")))
local macro_rules | `(tactic| walk_at "ix") => `(tactic| first
  | assumption
  | omega
  | (simp only [List.length_cons, List.length_nil, List.length_append, List.length_map, List.length_range, List.length_replicate, List.length_set] at *; omega))
local macro_rules | `(tactic| walk_at "pr") => `(tactic| first
  | assumption
  | decide
  | omega
  | exact rfl
  | (intro z; cases z; done))
local macro_rules | `(tactic| walk_at "hk") => `(tactic| first
  | assumption
  | exact seq' (by assumption) (by walk_at "sm"))
local macro_rules | `(tactic| walk_at "ty") => `(tactic| first
  | exact rfl
  | assumption
  | exact tyN_L (by walk_at "h")
  | exact tyN_T (by walk_at "h")
  | exact tyN_D (by walk_at "h"))
local macro_rules | `(tactic| walk_at "go") => `(tactic| repeat (walk_at "s"))
/-! ### lists of lists of tuples -/
structure FD (H : Hp) (P : Addr) (qs : List Addr) (rows : List (List (List Key))) : Prop where
  pp : H P = some (.lst (qs.map V.ref))
  len : qs.length = rows.length
  nd : qs.Nodup
  ne : ∀ q ∈ qs, q ≠ P
  at_ : ∀ (i : Nat) (q : Addr) (row : List (List Key)), qs[i]? = some q → rows[i]? = some row → LK H q row
theorem FD.chg {S : List Addr} {H H' : Hp} {P : Addr} {qs : List Addr} {rows : List (List (List Key))} (h : FD H P qs rows) (c : Chg S H H') (n : P ∉ S) (nq : ∀ q ∈ qs, q ∉ S) (o : ∀ t ∈ S, NotTup H t) : FD H' P qs rows :=
  ⟨c.at n h.pp, h.len, h.nd, h.ne, fun i q row e1 e2 => (h.at_ i q row e1 e2).chg c (nq q (List.mem_of_getElem? e1)) o⟩
theorem FD.same {H H' : Hp} {P : Addr} {qs : List Addr} {rows : List (List (List Key))} (h : FD H P qs rows) (s : Same H H') : FD H' P qs rows := h.chg (S := []) (.of s) ni_nil (fun _ _ => ni_nil) fun _ z => absurd z List.not_mem_nil
theorem FD.row {H : Hp} {P : Addr} {qs : List Addr} {rows : List (List (List Key))} {i : Nat} (h : FD H P qs rows) (hi : i < rows.length) : ∃ q ts, qs[i]? = some q ∧ H q = some (.lst (ts.map V.ref)) ∧ KyT H (rows.getD i []) ts := by
  have hq : qs[i]? = some (qs[i]'(by rw [h.len]; exact hi)) := List.getElem?_eq_getElem _
  have hr : rows[i]? = some (rows.getD i []) := by rw [List.getD_eq_getElem?_getD, List.getElem?_eq_getElem hi]; rfl
  obtain ⟨ts, e, k⟩ := h.at_ i _ _ hq hr
  exact ⟨_, ts, hq, e, k⟩
theorem FD.push {H H' : Hp} {P q T : Addr} {qs ts : List Addr} {rows : List (List (List Key))} {i : Nat} {k : List Key} (h : FD H P qs rows) (hi : i < rows.length) (hq : qs[i]? = some q) (e : H q = some (.lst (ts.map V.ref))) (kt : KyT H (rows.getD i []) ts) (eT : H T = some (.tup (k.map kV))) (w : Wr H q (.lst ((ts ++ [T]).map V.ref)) H') : FD H' P qs (rows.set i (rows.getD i [] ++ [k])) := by
  have c : Chg [q] H H' := .wr w (by simp)
  have o : ∀ t ∈ [q], NotTup H t := fun t ht => by rw [List.mem_singleton.mp ht]; exact .lst e
  have nTq : T ≠ q := fun z => by rw [z, e] at eT; cases eT
  refine ⟨c.at (by simpa using (h.ne q (List.mem_of_getElem? hq)).symm) h.pp, by rw [List.length_set]; exact h.len, h.nd, h.ne, fun j q' row e1 e2 => ?_⟩
  by_cases cj : j = i
  · subst cj
    rw [hq] at e1
    obtain rfl := Option.some.inj e1
    rw [List.getElem?_set_self hi] at e2
    obtain rfl := Option.some.inj e2
    exact ⟨ts ++ [T], w.at, kyT_app (kyT_chg kt c o) (kyT_one (w.old nTq eT))⟩
  · rw [List.getElem?_set_ne (Ne.symm cj)] at e2
    refine (h.at_ j q' row e1 e2).chg c ?_ o
    intro z
    have z := List.mem_singleton.mp z
    subst z
    exact cj ((List.getElem?_inj (List.getElem?_eq_some_iff.mp e1).1 h.nd).mp (by rw [e1, hq]))
theorem FD.app {H H' : Hp} {P1 P2 P3 : Addr} {qs1 qs2 : List Addr} {r1 r2 : List (List (List Key))} (h1 : FD H P1 qs1 r1) (h2 : FD H P2 qs2 r2) (dj : ∀ x ∈ qs1, x ∉ qs2) (n : New H P3 (.lst (qs1.map V.ref ++ qs2.map V.ref)) H') : FD H' P3 (qs1 ++ qs2) (r1 ++ r2) := by
  have g1 := h1.same n.same
  have g2 := h2.same n.same
  have ex : ∀ {P : Addr} {qs : List Addr} {r : List (List (List Key))}, FD H P qs r → ∀ q ∈ qs, q ≠ P3 := fun {P qs r} h q hq => by
    obtain ⟨i, hi⟩ := List.mem_iff_getElem?.mp hq
    have li := (List.getElem?_eq_some_iff.mp hi).1
    obtain ⟨ts, e, _⟩ := h.at_ i q _ hi (List.getElem?_eq_getElem (by rw [← h.len]; exact li))
    exact n.ne e
  refine ⟨by rw [n.at, List.map_append], by simp [h1.len, h2.len], List.nodup_append.mpr ⟨h1.nd, h2.nd, fun x hx y hy e => dj x hx (e ▸ hy)⟩, fun q hq => ?_, fun i q row e1 e2 => ?_⟩
  · rcases List.mem_append.mp hq with hq | hq
    · exact ex h1 q hq
    · exact ex h2 q hq
  · by_cases c : i < qs1.length
    · rw [List.getElem?_append_left c] at e1
      rw [List.getElem?_append_left (by rw [← h1.len]; exact c)] at e2
      exact g1.at_ i q row e1 e2
    · rw [List.getElem?_append_right (by omega)] at e1
      rw [List.getElem?_append_right (by rw [← h1.len]; omega), ← h1.len] at e2
      exact g2.at_ _ q row e1 e2
theorem FD.ref {H : Hp} {P : Addr} {qs : List Addr} {rows : List (List (List Key))} {q : Addr} (h : FD H P qs rows) (hq : q ∈ qs) : ∃ xs, H q = some (.lst xs) := by
  obtain ⟨i, hi⟩ := List.mem_iff_getElem?.mp hq
  have li := (List.getElem?_eq_some_iff.mp hi).1
  obtain ⟨ts, e, _⟩ := h.at_ i q _ hi (List.getElem?_eq_getElem (by rw [← h.len]; exact li))
  exact ⟨_, e⟩
theorem FD.dp {K : PySem.W.Frag} {H : Hp} {P : Addr} {qs : List Addr} {rows : List (List (List Key))} (h : FD H P qs rows) : Dp K H (.ref P) (.list (rows.map fun row => .list (row.map tD))) := by
  refine .lst (SqL.of h.pp) ?_
  have go : ∀ {qs : List Addr} {rows : List (List (List Key))}, qs.length = rows.length → (∀ (i : Nat) (q : Addr) (row : List (List Key)), qs[i]? = some q → rows[i]? = some row → LK H q row) → DpAll K H (qs.map V.ref) (rows.map fun row => .list (row.map tD)) := fun {qs} => by
    induction qs with
    | nil =>
      intro rows l _
      cases rows with
      | nil => exact .nil
      | cons _ _ => simp at l
    | cons q qs ih =>
      intro rows l at_
      cases rows with
      | nil => simp at l
      | cons r rows => exact .cons (at_ 0 q r rfl rfl).dp (ih (by simpa using l) fun i q' row e1 e2 => at_ (i + 1) q' row (by simpa using e1) (by simpa using e2))
  exact go h.len h.at_
theorem shaped_of {d : PyData} {n : Nat} (h : d.canLay0 = true) (k : d.depth ≤ n) (hn : n ≤ 64) : SeqAt.shaped d = true := by
  unfold SeqAt.shaped
  rw [Bool.and_eq_true]
  exact ⟨h, decide_eq_true (by omega)⟩
/-- signs that can be laid -/
def LowK (k : List Key) : Prop := ∀ z, Sum.inr z ∈ k → ∀ c ∈ z.cps.toList, c < 1000
theorem td_lay {k : List Key} (h : LowK k) : (tD k).canLay0 = true := by
  unfold tD
  simp only [PyData.canLay0]
  induction k with
  | nil => simp [PyData.canLayAll0]
  | cons x k ih =>
    have ih := ih fun z hz => h z (List.mem_cons_of_mem _ hz)
    cases x with
    | inl i => simp [PyData.canLayAll0, kD, PyData.canLay0, ih]
    | inr z =>
      have hz := h z List.mem_cons_self
      have e : (PyData.str z).canLay0 = true := by
        simp only [PyData.canLay0, PyData.strOk]
        rw [← Array.all_toList]
        simp only [List.all_eq_true, decide_eq_true_eq]
        exact fun c hc => Nat.lt_trans (hz c hc) (by omega)
      simp [PyData.canLayAll0, kD, e, ih]
theorem shaped_fd {rows : List (List (List Key))} (h : ∀ row ∈ rows, ∀ k ∈ row, LowK k) : SeqAt.shaped (.list (rows.map fun row => PyData.list (row.map tD))) = true := by
  have l1 : ∀ {row : List (List Key)}, (∀ k ∈ row, LowK k) → PyData.canLayAll0 (row.map tD) = true ∧ PyData.depthAll (row.map tD) ≤ 1 := fun {row} h => by
    induction row with
    | nil => simp [PyData.canLayAll0, PyData.depthAll]
    | cons k r ih =>
      have ih := ih fun k hk => h k (List.mem_cons_of_mem _ hk)
      have e1 := td_lay (h k List.mem_cons_self)
      have e2 := td_depth k
      simp only [List.map_cons, PyData.canLayAll0, PyData.depthAll, e1, ih.1, Bool.and_self]
      exact ⟨trivial, by have := ih.2; omega⟩
  have l2 : ∀ {rows : List (List (List Key))}, (∀ row ∈ rows, ∀ k ∈ row, LowK k) → PyData.canLayAll0 (rows.map fun row => PyData.list (row.map tD)) = true ∧ PyData.depthAll (rows.map fun row => PyData.list (row.map tD)) ≤ 2 := fun {rows} h => by
    induction rows with
    | nil => simp [PyData.canLayAll0, PyData.depthAll]
    | cons r rs ih =>
      have ih := ih fun k hk => h k (List.mem_cons_of_mem _ hk)
      obtain ⟨e1, e2⟩ := l1 (h r List.mem_cons_self)
      simp only [List.map_cons, PyData.canLayAll0, PyData.depthAll, PyData.canLay0, PyData.depth, e1, ih.1, Bool.and_self]
      exact ⟨trivial, by have := ih.2; omega⟩
  obtain ⟨a1, a2⟩ := l2 h
  exact shaped_of (n := 3) (by simp only [PyData.canLay0]; exact a1) (by simp only [PyData.depth]; omega) (by omega)
section
variable {K : PySem.W.Frag} {σ : Bk.St} {H H1 : Hp} {Q : VK} {a : Addr} {te : TE} {tt : TT} {m n : Nat} {lo : Int} {xs : List V}
/-- rows made one by one, D not among what they hold -/
structure FDn (H1 : Hp) (D : Addr) (qs : List Addr) (rows : Nat → List (List Key)) (H : Hp) : Prop where
  free : ∀ q ∈ qs, H1 q = none
  ne : ∀ q ∈ qs, q ≠ D
  nd : qs.Nodup
  at_ : ∀ (i : Nat) (q : Addr), qs[i]? = some q → ∃ ts : List Addr, H q = some (.lst (ts.map V.ref)) ∧ KyT H (rows i) ts ∧ D ∉ ts
theorem kyT_stab {D : Addr} {H H' : Hp} : ∀ {ks : List (List Key)} {ts : List Addr}, KyT H ks ts → D ∉ ts → Chg [D] H H' → KyT H' ks ts
  | _, _, .nil, _, _ => .nil
  | _, _, .cons (b := t) a r, n, c => .cons (c.at (by simpa using fun z : t = D => n (by simp [z])) a) (kyT_stab r (fun z => n (List.mem_cons_of_mem _ z)) c)
theorem FDn.chg {D : Addr} {qs : List Addr} {rows : Nat → List (List Key)} {H H' : Hp} (h : FDn H1 D qs rows H) (c : Chg [D] H H') : FDn H1 D qs rows H' :=
  ⟨h.free, h.ne, h.nd, fun i q e => let ⟨ts, e1, k, n⟩ := h.at_ i q e; ⟨ts, c.at (by simpa using h.ne q (List.mem_of_getElem? e)) e1, kyT_stab k n c, n⟩⟩
theorem FDn.snoc {D q : Addr} {qs : List Addr} {rows : Nat → List (List Key)} {acc : List V} {H H' : Hp} (h : FDn H1 D qs rows H) (s0 : Same H1 H) (hd : H D = some (.lst acc)) (s : Same H H') (hq : H q = none) (hk : LK H' q (rows qs.length)) : FDn H1 D (qs ++ [q]) rows H' := by
  have h' := h.chg (.of s : Chg [D] H H')
  have hd' := s _ _ hd
  refine ⟨fun x hx => ?_, fun x hx => ?_, ?_, fun i x e => ?_⟩
  · rcases List.mem_append.mp hx with hx | hx
    · exact h.free x hx
    · rw [List.mem_singleton.mp hx]; exact s0.free hq
  · rcases List.mem_append.mp hx with hx | hx
    · exact h.ne x hx
    · rw [List.mem_singleton.mp hx]; exact fun z => by rw [z, hd] at hq; cases hq
  · rw [List.nodup_append]
    refine ⟨h.nd, by simp, fun x hx y hy e => ?_⟩
    rw [List.mem_singleton.mp hy] at e
    obtain ⟨i, hi⟩ := List.mem_iff_getElem?.mp hx
    obtain ⟨ts, e1, _⟩ := h.at_ i x hi
    rw [e, hq] at e1; cases e1
  · by_cases c : i < qs.length
    · rw [List.getElem?_append_left c] at e
      exact h'.at_ i x e
    · rw [List.getElem?_append_right (by omega)] at e
      have : i - qs.length < 1 := (List.getElem?_eq_some_iff.mp e).1
      have ei : i = qs.length := by omega
      subst ei
      rw [Nat.sub_self] at e
      obtain rfl : q = x := Option.some.inj e
      obtain ⟨ts, e1, k⟩ := hk
      refine ⟨ts, e1, k, fun z => ?_⟩
      obtain ⟨j, hj⟩ := List.mem_iff_getElem?.mp z
      obtain ⟨k', _, et⟩ := kyT_at k hj
      rw [hd'] at et; cases et
theorem FDn.fd {D : Addr} {qs : List Addr} {rows : Nat → List (List Key)} {H : Hp} {n : Nat} (h : FDn H1 D qs rows H) (hn : qs.length = n) (hd : H D = some (.lst (qs.map V.ref))) : FD H D qs ((List.range n).map rows) :=
  ⟨hd, by simp [hn], h.nd, h.ne, fun i q row e1 e2 => by
    obtain ⟨ts, e, k, _⟩ := h.at_ i q e1
    have li := (List.getElem?_eq_some_iff.mp e1).1
    rw [List.getElem?_map, List.getElem?_range (by omega)] at e2
    obtain rfl := Option.some.inj e2
    exact ⟨ts, e, k⟩⟩
theorem lc_fdR {rows : Nat → List (List Key)} (hz : n ≤ 1000)
    (step : ∀ i H' Q', i < n → Same H1 H' → (∀ q H'', Same H' H'' → H' q = none → LK H'' q (rows i) → Q' (.ref q) H'') → te ((σ.set m none).set m (some (.int (lo + (i : Nat))))) H' Q')
    (q : ∀ D qs H2, H1 D = none → (∀ q ∈ qs, H1 q = none) → Same H1 H2 → FD H2 D qs ((List.range n).map rows) → Q (.ref D) H2) : LcK (gName m) tYes te [m] σ Q (Itr lo n) H1 := by
  refine lc_genR (fun D acc H' => ∃ qs : List Addr, acc = qs.map V.ref ∧ FDn H1 D qs rows H') (by rw [sizeLine_eq]; omega) (fun D acc H' H'' ⟨qs, e, w⟩ c => ⟨qs, e, w.chg c⟩) (fun D H' _ _ => ⟨[], rfl, ⟨by simp, by simp, by simp, by simp⟩⟩) ?_ ?_
  · rintro D acc i H' Q' hD hi hl s hd ⟨qs, rfl, w⟩ k
    refine step i H' Q' hi s fun q H'' s2 hq hk => k _ _ s2 ⟨qs ++ [q], map_snoc, w.snoc s hd s2 hq ?_⟩
    rw [show qs.length = i by simpa using hl]; exact hk
  · rintro D vs H2 hD s hl ⟨qs, rfl, w⟩ hd
    exact q D qs H2 hD w.free s (w.fd (by simpa using hl) hd)
theorem lc_fdL {rows : Nat → List (List Key)} (h : H1 a = some (.lst xs)) (hz : xs.length ≤ 1000)
    (step : ∀ i x H' Q', xs[i]? = some x → Same H1 H' → (∀ q H'', Same H' H'' → H' q = none → LK H'' q (rows i) → Q' (.ref q) H'') → te ((σ.set m none).set m (some x)) H' Q')
    (q : ∀ D qs H2, H1 D = none → (∀ q ∈ qs, H1 q = none) → Same H1 H2 → FD H2 D qs ((List.range xs.length).map rows) → Q (.ref D) H2) : LcK (gName m) tYes te [m] σ Q (Itl K a) H1 := by
  refine lc_genL (fun D acc H' => ∃ qs : List Addr, acc = qs.map V.ref ∧ FDn H1 D qs rows H') h (by rw [sizeLine_eq]; omega) (fun D acc H' H'' ⟨qs, e, w⟩ c => ⟨qs, e, w.chg c⟩) (fun D H' _ _ => ⟨[], rfl, ⟨by simp, by simp, by simp, by simp⟩⟩) ?_ ?_
  · rintro D acc i x H' Q' hD hx hl s hd ⟨qs, rfl, w⟩ k
    refine step i x H' Q' hx s fun q H'' s2 hq hk => k _ _ s2 ⟨qs ++ [q], map_snoc, w.snoc s hd s2 hq ?_⟩
    rw [show qs.length = i by simpa using hl]; exact hk
  · rintro D vs H2 hD s hl ⟨qs, rfl, w⟩ hd
    exact q D qs H2 hD w.free s (w.fd (by simpa using hl) hd)
end

end Bk

namespace Bk
open PySem L2 PyProof.Rows
/-! our own short tactics: h: what stands at a place; ne: two places; sm: what stood stands; z: a size; s: a step; go: steps -/
local macro_rules | `(tactic| walk_at "h") => `(tactic| first
  | assumption
  | exact New.at (by assumption)
  | exact Wr.at (by assumption)
  | (refine' New.old (by assumption) ?_; walk_at "h")
  | (refine' Same.at (by assumption) ?_; walk_at "h")
  | (refine' Wr.old (by assumption) ?_ ?_; walk_at "ne"; walk_at "h")
  | (refine' Chg.at (by assumption) ?_ ?_; walk_at "ni"; walk_at "h"))
local macro_rules | `(tactic| walk_at "ni") => `(tactic| first
  | exact ni_nil
  | assumption
  | (refine' ni_cons ?_ ?_; walk_at "ne"; walk_at "ni"))
local macro_rules | `(tactic| walk_at "ne") => `(tactic| first
  | assumption
  | exact Ne.symm (by assumption)
  | exact New.ne (by assumption) (by walk_at "h")
  | exact ne_none (by assumption) (by walk_at "h")
  | exact Ne.symm (ne_none (by assumption) (by walk_at "h"))
  | exact Ne.symm (New.ne (by assumption) (by walk_at "h")))
local macro_rules | `(tactic| walk_at "sm") => `(tactic| first
  | exact Same.refl _
  | assumption
  | (refine' Same.trans ?_ (New.same (by assumption)); walk_at "sm")
  | (refine' Same.trans ?_ (by assumption : Same _ _); walk_at "sm"))
local macro_rules | `(tactic| walk_at "z") => `(tactic| first
  | assumption
  | (rw [PySem.sizeLine_eq]; omega)
  | (rw [PySem.sizeLine_eq]; simp only [List.length_cons, List.length_nil, List.length_append, List.length_map, List.length_range, List.length_replicate, len_cut]; omega)
  | (rw [PySem.sizeLine_eq]; simp only [List.length_cons, List.length_nil, List.length_append, List.length_map, List.length_range, List.length_replicate, len_cut] at *; omega))
local macro_rules | `(tactic| walk_at "s") => `(tactic| first
  | (refine' Step.go ?_)
  | ((with_reducible refine' go_var ?h ?_); (case h => exact rfl))
  | ((with_reducible refine' go_name2 ?h ?_); (case h => (simp only [List.set_cons_zero, List.set_cons_succ]; exact rfl)))
  | ((with_reducible refine' go_name2 ?h ?_); (case h => exact rfl))
  | (with_reducible refine' go_if ?_)
  | (with_reducible refine' iteT ?_)
  | (with_reducible refine' iteF ?_)
  | ((with_reducible refine' go_Td ?h ?_); (case h => walk_at "pr"))
  | ((with_reducible refine' go_Fd ?h ?_); (case h => walk_at "pr"))
  | ((with_reducible refine' go_Tn ?h ?_); (case h => walk_at "pr"))
  | ((with_reducible refine' go_Fn ?h ?_); (case h => walk_at "pr"))
  | ((with_reducible refine' go_T ?h ?_); (case h => (first | decide | assumption | exact rfl)))
  | ((with_reducible refine' go_F ?h ?_); (case h => (first | decide | assumption | exact rfl)))
  | ((with_reducible refine' go_LstK ?h ?_); (case h => walk_at "z"); intro p H1 n1)
  | ((with_reducible refine' go_TupK ?h ?_); (case h => walk_at "z"); intro p H1 n1)
  | ((with_reducible refine' go_addL ?h ?k ?z ?_); (case h => walk_at "h"); (case k => walk_at "h"); (case z => walk_at "z"); intro p H1 n1)
  | ((with_reducible refine' go_mulI ?h ?_); (case h => (unfold CMul; omega)))
  | ((with_reducible refine' go_mulL ?h ?k ?_); (case h => walk_at "h"); (case k => (refine ⟨by omega, by omega, ?_⟩; walk_at "z")); intro p H1 n1)
  | ((with_reducible refine' go_div ?h ?_); (case h => (unfold CDiv; omega)))
  | ((with_reducible refine' go_mod ?h ?_); (case h => omega))
  | ((with_reducible refine' go_pow ?h ?_); (case h => (unfold CPow; omega)))
  | ((with_reducible refine' go_slL ?h ?_); (case h => walk_at "h"); intro p H1 n1)
  | ((with_reducible refine' go_ixL ?h ?k ?_); (case h => walk_at "h"); (case k => exact rfl))
  | ((with_reducible refine' go_ixT ?h ?k ?_); (case h => walk_at "h"); (case k => exact rfl))
  | ((with_reducible refine' go_slW ?h ?_); (case h => walk_at "h"))
  | ((with_reducible refine' go_bmL ?h ?_); (case h => walk_at "h"))
  | ((with_reducible refine' go_append ?h ?k ?_); (case h => walk_at "h"); (case k => walk_at "z"); intro H1 n1)
  | ((with_reducible refine' go_extend ?h ?k ?z ?_); (case h => walk_at "h"); (case k => walk_at "h"); (case z => walk_at "z"); intro H1 n1)
  | ((with_reducible refine' go_clear ?h ?_); (case h => walk_at "h"); intro H1 n1)
  | ((with_reducible refine' go_dnew ?_); intro p H1 n1)
  | ((with_reducible refine' go_lenL ?h ?_); (case h => walk_at "h"))
  | ((with_reducible refine' go_lenT ?h ?_); (case h => walk_at "h"))
  | ((with_reducible refine' go_lenK ?h ?_); (case h => walk_at "hk"))
  | ((with_reducible refine' go_listL ?h ?_); (case h => walk_at "h"); intro p H1 n1)
  | ((with_reducible refine' go_listT ?h ?_); (case h => walk_at "h"); intro p H1 n1)
  | ((with_reducible refine' go_tupleL ?h ?_); (case h => walk_at "h"); intro p H1 n1)
  | ((with_reducible refine' go_isi ?h ?k ?_); (case h => walk_at "ty"); (case k => exact kit_bb (by decide) (by decide)))
  | ((with_reducible refine' go_seqL ?h ?_); (case h => walk_at "h"))
  | ((with_reducible refine' go_seqT ?h ?_); (case h => walk_at "h"))
  | ((with_reducible refine' go_rng1K ?h ?_); (case h => omega))
  | ((with_reducible refine' go_rng2K ?h ?_); (case h => omega))
  | (with_reducible refine' go_raise ?_)
  | ((with_reducible refine' go_tupG ?h ?k ?_); (case h => walk_at "h"); (case k => exact rfl))
  | ((with_reducible refine' go_lstG ?h ?k ?_); (case h => walk_at "h"); (case k => exact rfl))
  | (with_reducible refine' go_tryAs ?_)
  | ((with_reducible refine' go_asT ?_); intro e he)
  | (with_reducible refine' go_asF ?_)
  | ((with_reducible refine' go_manyT ?_); intro e he)
  | (with_reducible refine' go_manyF ?_)
  | ((with_reducible refine' go_FldK ?h ?c ?n ?l ?_); (case h => walk_at "h"); (case c => infer_instance); (case n => infer_instance); (case l => exact rfl))
  | ((with_reducible refine' go_SFldK ?h ?c ?n ?l ?e ?_); (case h => walk_at "h"); (case c => infer_instance); (case n => infer_instance); (case l => exact Nat.le_of_ble_eq_true rfl); (case e => walk_at "pf"); intro H1 n1)
  | ((with_reducible refine' go_MethK 0 ?h ?l ?e ?_); (case h => walk_at "h"); (case l => exact rfl); (case e => exact rfl))
  | ((with_reducible refine' go_MethK 1 ?h ?l ?e ?_); (case h => walk_at "h"); (case l => exact rfl); (case e => exact rfl))
  | ((with_reducible refine' go_MethK 2 ?h ?l ?e ?_); (case h => walk_at "h"); (case l => exact rfl); (case e => exact rfl))
  | ((with_reducible refine' go_MethXK ?h ?l ?_); (case h => walk_at "h"); (case l => exact rfl))
  | ((with_reducible refine' go_DGetS ?h ?l ?_); (case h => walk_at "h"); (case l => exact rfl))
  | ((with_reducible refine' go_DPutS ?h ?l ?e ?_); (case h => walk_at "h"); (case l => exact Nat.le_of_ble_eq_true rfl); (case e => walk_at "pk"); intro H1 n1)
  | ((with_reducible refine' go_disp ?_); intro p H1 n1)
  | ((with_reducible refine' go_DispS ?h ?e ?l ?k ?j ?m ?_); (case h => walk_at "h"); (case e => exact rfl); (case l => exact Nat.le_of_ble_eq_true rfl); (case k => (simp only [unS]; exact rfl)); (case j => (simp only [List.map_cons, List.map_nil]; exact rfl)); (case m => decide +kernel); intro H1 n1)
  | ((with_reducible refine' go_ParK ?h ?_); (case h => (simp only [List.set_cons_zero, List.set_cons_succ]; exact rfl)))
  | ((with_reducible refine' go_setLi ?h ?k ?_); (case h => walk_at "h"); (case k => walk_at "ix"); intro H1 n1)
  | ((with_reducible refine' go_listYL ?h ?_); (case h => walk_at "h"))
  | ((with_reducible refine' go_maxD ?h ?_); (case h => walk_at "h"))
  | ((with_reducible refine' go_ListRK ?h ?_); (case h => omega); intro p H1 n1)
  | ((with_reducible refine' go_EnumL ?h ?_); (case h => walk_at "h"))
  | (with_reducible refine' go_isX ?_)
  | (with_reducible refine' go_isXt ?_)
  | ((with_reducible refine' go_DInI ?h ?_); (case h => walk_at "h"))
  | ((with_reducible refine' go_DNotInI ?h ?_); (case h => walk_at "h"))
  | ((with_reducible refine' go_DGet2K ?h ?_); (case h => walk_at "h"))
  | ((with_reducible refine' go_eqDE ?h ?k ?_); (case h => walk_at "h"); (case k => walk_at "h"))
  | ((with_reducible refine' go_neDE ?h ?k ?_); (case h => walk_at "h"); (case k => walk_at "h"))
  | ((with_reducible refine' go_insert ?h ?k ?l ?m ?_); (case h => walk_at "h"); (case k => walk_at "z"); (case l => omega); (case m => omega); intro H1 n1)
  | ((with_reducible refine' go_dnewT ?_); intro p H1 n1)
  | ((with_reducible refine' go_LstRevK ?h ?_); (case h => walk_at "h"); intro p H1 n1)
  | (with_reducible refine' go_gCons ?_))
local macro_rules | `(tactic| walk_at "pf") => `(tactic| first
  | exact putF_nil
  | exact putF_hit
  | (refine' putF_miss ?h ?k; (case h => decide +kernel); (case k => walk_at "pf")))
local macro_rules | `(tactic| walk_at "pk") => `(tactic| first
  | exact putK_nil
  | exact putK_hit (by (simp only [List.map_cons, List.map_nil]; decide +kernel))
  | (refine' putK_miss ?h ?k; (case h => decide +kernel); (case k => walk_at "pk")))
local macro_rules | `(tactic| walk_at "ix") => `(tactic| first
  | assumption
  | omega
  | (simp only [List.length_cons, List.length_nil, List.length_append, List.length_map, List.length_range, List.length_replicate, List.length_set] at *; omega))
local macro_rules | `(tactic| walk_at "pr") => `(tactic| first
  | assumption
  | decide
  | omega
  | exact rfl
  | (intro z; cases z; done))
local macro_rules | `(tactic| walk_at "hk") => `(tactic| first
  | assumption
  | exact seq' (by assumption) (by walk_at "sm"))
local macro_rules | `(tactic| walk_at "ty") => `(tactic| first
  | exact rfl
  | assumption
  | exact tyN_L (by walk_at "h")
  | exact tyN_T (by walk_at "h")
  | exact tyN_D (by walk_at "h"))
local macro_rules | `(tactic| walk_at "go") => `(tactic| repeat (walk_at "s"))
/-! ### k23: users, by the program -/
/-- a node's number, a place, a block -/
abbrev NPB := Int × (Int × Int)
def addU (rows : List (List (List Key))) (x : NPB) : List (List (List Key)) := rows.set x.2.2.toNat (rows.getD x.2.2.toNat [] ++ [pk (x.1, x.2.1)])
def addsU (L : List NPB) (rows : List (List (List Key))) : List (List (List Key)) := L.foldl addU rows
theorem addU_len {rows : List (List (List Key))} {x : NPB} : (addU rows x).length = rows.length := List.length_set
theorem addsU_len {L : List NPB} : ∀ {rows : List (List (List Key))}, (addsU L rows).length = rows.length := by
  induction L with
  | nil => intro rows; rfl
  | cons x L ih => intro rows; show (addsU L (addU rows x)).length = _; rw [ih, addU_len]
theorem addsU_app {L M : List NPB} {rows : List (List (List Key))} : addsU (L ++ M) rows = addsU M (addsU L rows) := List.foldl_append
theorem addsU_snoc {L : List NPB} {x : NPB} {rows : List (List (List Key))} : addsU (L ++ [x]) rows = addU (addsU L rows) x := by rw [addsU_app]; rfl
def keptK : List Key := [.inr "kept"]
def init0 (da m : Nat) : List (List (List Key)) := List.replicate da [keptK] ++ List.replicate (m - da) []
/-- what a node adds, by the program -/
def progN (R : List (List Int)) (da m n : Int) (w : List Int) : List NPB := if sound n w = true then ((placesP R da m w).filter fun e => isDat da m e.2).map fun e => (n, e) else []
def progL (R : List (List Int)) (da m : Int) (nds : List (List Int)) (j : Nat) : List NPB := (List.range j).flatMap fun n : Nat => progN R da m n (nds.getD n [])
theorem progL_succ {R : List (List Int)} {da m : Int} {nds : List (List Int)} {j : Nat} : progL R da m nds (j + 1) = progL R da m nds j ++ progN R da m j (nds.getD j []) := by
  unfold progL
  rw [List.range_succ, List.flatMap_append]; simp
def sortK (row : List (List Key)) : List (List Key) := row.mergeSort (PySem.W.dataLe false tD)
/-- the nodes' words on a disk -/
structure NodesR (R nds : List (List Int)) (na t : Nat) : Prop where
  len : nds.length = 2 * t
  at_ : ∀ k, k < t → R[na + k]? = some (nds.getD (2 * k) [] ++ nds.getD (2 * k + 1) [])
  l8 : ∀ w ∈ nds, w.length = 8
theorem NodesR.w8 {R nds : List (List Int)} {na t : Nat} (h : NodesR R nds na t) {i : Nat} (hi : i < 2 * t) : nds[i]? = some (nds.getD i []) ∧ (nds.getD i []).length = 8 := by
  have e : nds[i]? = some (nds.getD i []) := by rw [List.getD_eq_getElem?_getD, List.getElem?_eq_getElem (by rw [h.len]; exact hi)]; rfl
  exact ⟨e, h.l8 _ (List.mem_of_getElem? e)⟩
theorem take_two {α : Type} {xs : List α} {j : Nat} {a b : α} (h1 : xs[2 * j]? = some a) (h2 : xs[2 * j + 1]? = some b) : xs.take (2 * (j + 1)) = xs.take (2 * j) ++ [a, b] := by
  rw [show 2 * (j + 1) = 2 * j + 1 + 1 by omega, List.take_succ, h2, List.take_succ, h1]; simp
section
variable {K : PySem.W.Frag} {a : Ac} {H H' : Hp} {Q : VK} {E : XK} [F : Fc K a] {d r l q P : Addr} {R nds : List (List Int)} {done m : Int} {t na da n : Nat} {w : List Int} {x : Int}
theorem p_node_rows (D0 : DkEx a [] H d r R done none) (hL : LayAt a H l m t) (hm : 24 ≤ m ∧ m ≤ 96) (hna : (na : Int) = 17 + (m + 16 - 1) / 16) (ht : 1 ≤ t ∧ t ≤ 8) (N : NodesR R nds na t)
    (k : ∀ P qs H', Same H H' → H P = none → RowsAt H' P qs nds → Q (.ref P) H') : sp_node_rows K a [.ref d, .ref l] H Q E := by
  refine in_node_rows ?_
  unfold t_node_rows
  obtain ⟨dl, el⟩ := id hL
  rw [← hna] at el
  walk_at "go"
  rename_i P0 H1 n1
  have em : ((na : Int) + (t : Int) - (na : Int)).toNat = t := by omega
  rw [em]
  refine for_R (fun j σ' H' => ∃ (Pk : Addr) (qk : List Addr) (v3 v4 : Option V), σ' = [some (.ref d), some (.ref l), some (.ref Pk), v3, v4] ∧ Same H H' ∧ H Pk = none ∧ RowsAt H' Pk qk (nds.take (2 * j)) ∧ qk.length = 2 * j) ⟨P0, [], _, _, rfl, n1.same, n1.free, ⟨n1.at, rfl, fun i p e => by simp at e⟩, rfl⟩ ?_ ?_
  · rintro j σ' H2 hj ⟨Pk, qk, v3, v4, rfl, s2, fP, hR, lq⟩
    simp only [List.set_cons_zero, List.set_cons_succ]
    have D2 := D0.same s2
    obtain ⟨e1, l1⟩ := N.w8 (i := 2 * j) (by omega)
    obtain ⟨e2, l2⟩ := N.w8 (i := 2 * j + 1) (by omega)
    have er := N.at_ j hj
    have rr := hR.rr
    generalize nds.getD (2 * j) [] = w1 at e1 l1 er
    generalize nds.getD (2 * j + 1) [] = w2 at e2 l2 er
    walk_at "go"
    refine go_methD D2 (fun _ _ _ => rfl) ?_
    walk_at "go"
    refine p_readE D2 (by omega) (row := w1 ++ w2) (by rw [show ((na : Int) + (j : Int)).toNat = na + j by omega]; exact er) fun p3 H3 s3 pn3 e3 => ?_
    have rr3 := s3 _ _ rr
    walk_at "go"
    rename_i q4 H4 n4 q5 H5 n5 L6 H6 n6 P7 H7 n7
    have c1 : cutV ((w1 ++ w2).map V.int) none (some 8) = w1.map V.int := by
      rw [cut_take _ (by omega), ← List.map_take, List.take_append_of_le_length (by omega), List.take_of_length_le (by omega)]
    have c2 : cutV ((w1 ++ w2).map V.int) (some 8) none = w2.map V.int := by
      rw [cut_drop _ (by omega), ← List.map_drop, List.drop_append_of_le_length (by omega), List.drop_of_length_le (by omega), List.nil_append]
    rw [c1] at n4
    rw [c2] at n5
    have s27 : Same H2 H7 := (((s3.trans n4.same).trans n5.same).trans n6.same).trans n7.same
    refine ⟨P7, qk ++ [q4, q5], _, _, rfl, s2.trans s27, ((((s2.trans s3).trans n4.same).trans n5.same).trans n6.same).free n7.free, ?_, by simp [lq]; omega⟩
    rw [take_two e1 e2]
    have hR7 := hR.same s27
    have g4 : H7 q4 = some (.lst (w1.map V.int)) := n7.old (n6.old (n5.old n4.at))
    have g5 : H7 q5 = some (.lst (w2.map V.int)) := n7.old (n6.old n5.at)
    have lt : (nds.take (2 * j)).length = 2 * j := by rw [List.length_take, N.len]; omega
    refine ⟨by rw [n7.at, List.map_append]; rfl, by simp [lq, lt], fun i p e => ?_⟩
    by_cases c : i < 2 * j
    · rw [List.getElem?_append_left (by omega)] at e
      obtain ⟨row, f1, f2, f3⟩ := hR7.row i p e
      exact ⟨row, by rw [List.getElem?_append_left (by omega)]; exact f1, f2, f3⟩
    · rw [List.getElem?_append_right (by omega), lq] at e
      have hi : i - 2 * j < 2 := (List.getElem?_eq_some_iff.mp e).1
      rw [List.getElem?_append_right (by omega), lt]
      have : i - 2 * j = 0 ∨ i - 2 * j = 1 := by omega
      rcases this with z | z
      · rw [z] at e ⊢
        obtain rfl := Option.some.inj e
        exact ⟨w1, rfl, by intro z; rw [z] at l1; simp at l1, g4⟩
      · rw [z] at e ⊢
        obtain rfl := Option.some.inj e
        exact ⟨w2, rfl, by intro z; rw [z] at l2; simp at l2, g5⟩
  · rintro σ' H2 ⟨Pk, qk, v3, v4, rfl, s2, fP, hR, lq⟩
    walk_at "go"
    rw [List.take_of_length_le (by rw [N.len]; omega)] at hR
    exact k Pk qk H2 s2 fP hR
end
theorem getD_set {rows : List (List (List Key))} {i b : Nat} {v : List (List Key)} (hi : i < rows.length) : (rows.set i v).getD b [] = if b = i then v else rows.getD b [] := by
  rw [List.getD_eq_getElem?_getD, List.getElem?_set]
  by_cases c : i = b
  · subst c; rw [if_pos rfl, if_pos hi, if_pos rfl]; rfl
  · rw [if_neg c, if_neg (fun z => c z.symm), ← List.getD_eq_getElem?_getD]
theorem addsU_at {b : Nat} : ∀ {L : List NPB} {rows : List (List (List Key))}, (∀ x ∈ L, x.2.2.toNat < rows.length) → (addsU L rows).getD b [] = rows.getD b [] ++ (L.filter fun x => decide (x.2.2.toNat = b)).map fun x => pk (x.1, x.2.1)
  | [], rows, _ => by show rows.getD b [] = _ ++ []; rw [List.append_nil]
  | x :: L, rows, h => by
    show (addsU L (addU rows x)).getD b [] = _
    rw [addsU_at fun y hy => by rw [addU_len]; exact h y (List.mem_cons_of_mem _ hy)]
    have hx := h x List.mem_cons_self
    unfold addU
    rw [getD_set hx]
    by_cases c : x.2.2.toNat = b
    · rw [if_pos c.symm, List.filter_cons_of_pos (by simp [c]), c, List.map_cons, List.append_assoc]; rfl
    · rw [if_neg (fun z => c z.symm), List.filter_cons_of_neg (by simp [c])]
theorem init0_len {da m : Nat} (h : da ≤ m) : (init0 da m).length = m := by unfold init0; rw [List.length_append, List.length_replicate, List.length_replicate]; omega
theorem init0_at {da m b : Nat} : (init0 da m).getD b [] = if b < da then [keptK] else [] := by
  unfold init0
  rw [List.getD_eq_getElem?_getD]
  by_cases c : b < da
  · rw [List.getElem?_append_left (by rw [List.length_replicate]; exact c), List.getElem?_replicate, if_pos c, if_pos c]; rfl
  · rw [List.getElem?_append_right (by rw [List.length_replicate]; omega), List.length_replicate, List.getElem?_replicate, if_neg c]
    split <;> rfl
/-- data blocks alone -/
def DatL (da m : Int) (L : List NPB) : Prop := ∀ x ∈ L, da ≤ x.2.2 ∧ x.2.2 < m
theorem rows_of {da m b : Nat} {L : List NPB} (hL : DatL da m L) (h : da ≤ m) (d0 : 0 ≤ da) : (addsU L (init0 da m)).getD b [] = if b < da then [keptK] else (L.filter fun x => decide (x.2.2.toNat = b)).map fun x => pk (x.1, x.2.1) := by
  rw [addsU_at fun x hx => by have := hL x hx; rw [init0_len h]; omega, init0_at]
  by_cases c : b < da
  · rw [if_pos c, if_pos c, List.filter_eq_nil_iff.mpr fun x hx => by have := hL x hx; simp; omega]; rfl
  · rw [if_neg c, if_neg c]; rfl
theorem progN_dat {R : List (List Int)} {da m n : Int} {w : List Int} : DatL da m (progN R da m n w) := fun x hx => by
  unfold progN at hx
  split at hx
  · obtain ⟨e, he, rfl⟩ := List.mem_map.mp hx
    have := (List.mem_filter.mp he).2
    unfold isDat at this
    rw [Bool.and_eq_true, decide_eq_true_iff, decide_eq_true_iff] at this
    exact this
  · cases hx
theorem DatL.app {da m : Int} {L M : List NPB} (h : DatL da m L) (k : DatL da m M) : DatL da m (L ++ M) := fun x hx => (List.mem_append.mp hx).elim (h x) (k x)
theorem progL_dat {R : List (List Int)} {da m : Int} {nds : List (List Int)} {j : Nat} : DatL da m (progL R da m nds j) := fun x hx => by
  unfold progL at hx
  obtain ⟨n, _, hx⟩ := List.mem_flatMap.mp hx
  exact progN_dat x hx
theorem places_len {R : List (List Int)} {da m : Int} {w : List Int} (h : wd w 2 ≤ 320) : (placesP R da m w).length ≤ 21 := by
  have : wantB w ≤ 20 := by unfold wantB; omega
  unfold placesP nearP farP
  rw [List.length_append, List.length_map, List.length_range]
  split
  · rw [List.length_cons]
    split
    · rw [List.length_map, List.length_range]; omega
    · simp; omega
  · simp; omega
theorem progN_len {R : List (List Int)} {da m n : Int} {w : List Int} : (progN R da m n w).length ≤ 21 := by
  unfold progN
  split
  · rename_i h
    have : wd w 2 ≤ 320 := by
      unfold sound sizeBad at h
      simp only [Bool.and_eq_true, Bool.not_eq_true', Bool.or_eq_false_iff, decide_eq_false_iff_not] at h
      omega
    rw [List.length_map]
    exact Nat.le_trans (List.length_filter_le _ _) (places_len this)
  · simp
theorem progL_len {R : List (List Int)} {da m : Int} {nds : List (List Int)} : ∀ {j : Nat}, (progL R da m nds j).length ≤ 21 * j
  | 0 => Nat.le_refl _
  | j + 1 => by
    rw [progL_succ, List.length_append]
    have := progL_len (R := R) (da := da) (m := m) (nds := nds) (j := j)
    have := progN_len (R := R) (da := da) (m := m) (n := j) (w := nds.getD j [])
    omega
theorem row_len {da m b : Nat} {L : List NPB} (hL : DatL da m L) (h : da ≤ m) : ((addsU L (init0 da m)).getD b []).length ≤ 1 + L.length := by
  rw [rows_of hL h (Nat.zero_le _)]
  split
  · show 1 ≤ _; omega
  · rw [List.length_map]
    have := List.length_filter_le (fun x : NPB => decide (x.2.2.toNat = b)) L
    omega
/-- a row that can be sorted -/
def RowOk (row : List (List Key)) : Prop := row = [keptK] ∨ ∃ es : List (Int × Int), row = es.map pk
theorem row_ok {da m b : Nat} {L : List NPB} (hL : DatL da m L) (h : da ≤ m) : RowOk ((addsU L (init0 da m)).getD b []) := by
  rw [rows_of hL h (Nat.zero_le _)]
  split
  · exact .inl rfl
  · exact .inr ⟨(L.filter fun x => decide (x.2.2.toNat = b)).map fun x => (x.1, x.2.1), by rw [List.map_map]; rfl⟩
theorem RowOk.al {row : List (List Key)} (h : RowOk row) : PySem.W.AllAlike (row.map tD) ∧ ∀ k ∈ row, k ≠ [] := by
  rcases h with rfl | ⟨es, rfl⟩
  · refine ⟨fun d hd d' hd' => ?_, fun k hk => ?_⟩
    · have e1 : d = tD keptK := by simpa using hd
      have e2 : d' = tD keptK := by simpa using hd'
      rw [e1, e2]; rfl
    · rw [List.mem_singleton.mp hk]; exact fun z => nomatch z
  · refine ⟨fun d hd d' hd' => ?_, fun k hk => ?_⟩
    · rw [List.map_map] at hd hd'
      obtain ⟨e, _, rfl⟩ := List.mem_map.mp hd
      obtain ⟨e', _, rfl⟩ := List.mem_map.mp hd'
      rfl
    · obtain ⟨e, _, rfl⟩ := List.mem_map.mp hk
      exact fun z => nomatch z
theorem FD.notInts {H : Hp} {P : Addr} {qs : List Addr} {rows : List (List (List Key))} (h : FD H P qs rows) : ∀ b ∈ qs, NotInts H b ∧ NotTup H b := fun b hb => by
  obtain ⟨i, hi⟩ := List.mem_iff_getElem?.mp hb
  have li := (List.getElem?_eq_some_iff.mp hi).1
  obtain ⟨ts, e, _⟩ := h.at_ i b _ hi (List.getElem?_eq_getElem (by rw [← h.len]; exact li))
  refine ⟨fun ns hn z => ?_, .lst e⟩
  rw [e] at z
  have z := HO.lst.inj (Option.some.inj z)
  cases ns with
  | nil => exact hn rfl
  | cons x r =>
    cases ts with
    | nil => cases z
    | cons y u => exact nomatch (List.cons.inj z).1
section
variable {K : PySem.W.Frag} {a : Ac} {H H' : Hp} {Q : VK} {E : XK} [F : Fc K a] {d r l q P : Addr} {R nds : List (List Int)} {done m : Int} {t na da n : Nat} {w : List Int} {x : Int}
omit F in
theorem rows_at {qs : List Addr} {Z : List (List Int)} {i : Nat} {q : Addr} (h : RowsAt H P qs Z) (hq : qs[i]? = some q) : ∃ row, Z[i]? = some row ∧ H q = some (.lst (row.map V.int)) := let ⟨row, e1, _, e2⟩ := h.row i q hq; ⟨row, e1, e2⟩
theorem prog_w {n : Int} {w : List Int} (h : sound n w = true) (p : ∀ z ∈ w, 0 ≤ z) (l8 : w.length = 8) : wd w 2 ≤ 320 ∧ 0 ≤ wd w 2 := by
  unfold sound sizeBad at h
  simp only [Bool.and_eq_true, Bool.not_eq_true', Bool.or_eq_false_iff, decide_eq_false_iff_not] at h
  refine ⟨by omega, p _ ?_⟩
  unfold wd
  rw [List.getD_eq_getElem?_getD, List.getElem?_eq_getElem (by omega)]
  exact List.getElem_mem _
theorem p_users (D0 : DkEx a [] H d r R done none) (hL : LayAt a H l m t) (hm : 24 ≤ m ∧ m ≤ 96) (hna : (na : Int) = 17 + (m + 16 - 1) / 16) (hda : da = na + t) (ht : 1 ≤ t ∧ t ≤ 8) (room : (da : Int) < m) (lR : (R.length : Int) = m) (N : NodesR R nds na t) (pos : ∀ w ∈ nds, ∀ z ∈ w, 0 ≤ z)
    (k : ∀ P qs H', Same H H' → H P = none → (∀ q ∈ qs, H q = none) → FD H' P qs ((addsU (progL R da m nds (2 * t)) (init0 da m.toNat)).map sortK) → Q (.ref P) H') : sp_users K a [.ref d, .ref l] H Q E := by
  refine in_users ?_
  unfold t_users
  have g : (da : Int) = 17 + (m + 16 - 1) / 16 + t := by omega
  obtain ⟨dl, el⟩ := id hL
  rw [← g] at el
  walk_at "go"
  refine lc_fdR (rows := fun _ => [keptK]) (by omega) (fun i H' Q' hi s kk => ?_) fun D1 qs1 H1 hD1 fq1 s1 h1 => ?_
  · simp only [List.set_cons_zero, List.set_cons_succ]
    walk_at "go"
    rename_i T2 H2 n2 q3 H3 n3
    exact kk q3 H3 (n2.same.trans n3.same) (n2.same.free n3.free) ⟨[T2], n3.at, kyT_one (n3.old n2.at)⟩
  have el1 := s1 _ _ el
  walk_at "go"
  refine lc_fdR (rows := fun _ => []) (by omega) (fun i H' Q' hi s kk => ?_) fun D2 qs2 H2 hD2 fq2 s2 h2 => ?_
  · simp only [List.set_cons_zero, List.set_cons_succ]
    walk_at "go"
    rename_i q3 H3 n3
    exact kk q3 H3 n3.same n3.free ⟨[], n3.at, .nil⟩
  have h1' := h1.same s2
  have e1 := h1'.pp
  have e2 := h2.pp
  have lq1 := h1.len
  have lq2 := h2.len
  rw [List.length_map, List.length_range] at lq1 lq2
  walk_at "go"
  rename_i D3 H3 n3
  have h3 := h1'.app h2 (fun x hx hx2 => by
    obtain ⟨xs, e⟩ := h1.ref hx
    have := fq2 x hx2
    rw [e] at this; cases this) n3
  have fqs : ∀ q ∈ qs1 ++ qs2, H q = none := fun q hq => by
    rcases List.mem_append.mp hq with hq | hq
    · exact fq1 q hq
    · exact s1.free (fq2 q hq)
  have ei : (List.range (da : Int).toNat).map (fun _ => [keptK]) ++ (List.range (m - (da : Int)).toNat).map (fun _ => ([] : List (List Key))) = init0 da m.toNat := by
    unfold init0
    rw [List.map_const', List.map_const', List.length_range, List.length_range, show (da : Int).toNat = da by omega, show (m - (da : Int)).toNat = m.toNat - da by omega]
  rw [ei] at h3
  have s03 := (s1.trans s2).trans n3.same
  generalize eqs : qs1 ++ qs2 = qs at h3 fqs
  walk_at "go"
  refine p_node_rows (D0.same s03) (hL.same s03) hm hna ht N fun P4 q4 H4 s4 fP4 hR => ?_
  have s04 := s03.trans s4
  have h4 := h3.same s4
  have rr := hR.rr
  have nP4 : P4 ∉ qs := fun z => by
    obtain ⟨xs, e⟩ := h3.ref z
    rw [fP4] at e; cases e
  have lR4 := hR.len
  rw [N.len] at lR4
  have mm : da ≤ m.toNat := by omega
  have rl : ∀ L : List NPB, (addsU L (init0 da m.toNat)).length = m.toNat := fun L => by rw [addsU_len, init0_len mm]
  walk_at "go"
  refine for_E (fun j σ' H' => ∃ v3 v4 v5 v6, σ' = [some (.ref d), some (.ref l), some (.ref D3), v3, v4, v5, v6, none] ∧ Chg qs H4 H' ∧ FD H' D3 qs (addsU (progL R da m nds j) (init0 da m.toNat))) (fun j σ' H' ⟨_, _, _, _, _, c, _⟩ => c.at nP4 rr) ⟨_, _, _, _, rfl, .refl, h4⟩ ?_ ?_
  · rintro j y σ' H5 T H6 hy ⟨v3, v4, v5, v6, rfl, c5, h5⟩ n6
    rw [List.getElem?_map] at hy
    obtain ⟨q, hq, rfl⟩ := Option.map_eq_some_iff.mp hy
    have hj : j < 2 * t := by have := (List.getElem?_eq_some_iff.mp hq).1; omega
    obtain ⟨ew, l8⟩ := N.w8 hj
    obtain ⟨row, er, eq_⟩ := rows_at (hR.chg c5 nP4 fun b hb => (h4.notInts b hb).1) hq
    rw [ew] at er
    obtain rfl := Option.some.inj er
    have hp := pos _ (List.mem_of_getElem? ew)
    have ps := progL_succ (R := R) (da := da) (m := m) (nds := nds) (j := j)
    generalize nds.getD j [] = w at l8 eq_ hp ps
    have s05 : Same H H5 := Same.chg s04 c5 fqs
    have eq6 := n6.old eq_
    walk_at "go"
    refine p_is_sound eq6 l8 fun H7 s7 => ?_
    have s67 := n6.same.trans s7
    have s07 := s05.trans s67
    have h7 := h5.same s67
    have c7 : Chg qs H4 H7 := c5.trans (.of s67)
    walk_at "go"
    cases hs : sound (j : Int) w with
    | false =>
      walk_at "go"
      refine ⟨_, _, _, _, rfl, c7, ?_⟩
      rw [ps]
      unfold progN
      rw [hs, if_neg (by decide), List.append_nil]
      exact h7
    | true =>
      walk_at "go"
      have w2 := prog_w hs hp l8
      refine p_places_told (D0.same s07) (hL.same s07) g lR (s7 _ _ eq6) l8 w2 fun P8 H8 s8 fP8 hl8 => ?_
      obtain ⟨ts, ets, kt⟩ := hl8
      have lts := kyT_len kt
      rw [List.length_map] at lts
      have pl := places_len (R := R) (da := da) (m := m) w2.1
      have h8 := h7.same s8
      have nP8 : P8 ∉ qs := fun z => by
        obtain ⟨xs, e⟩ := h7.ref z
        rw [fP8] at e; cases e
      have oq : ∀ b ∈ qs, NotTup H8 b := fun b hb => (h8.notInts b hb).2
      walk_at "go"
      refine for_Lg (xs := ts.map V.ref) (fun i σ' H' => ∃ v5 v6, σ' = [some (.ref d), some (.ref l), some (.ref D3), some (.int (j : Nat)), some (.ref q), v5, v6, none] ∧ Chg qs H8 H' ∧ FD H' D3 qs (addsU (progL R da m nds j ++ ((((placesP R da m w).take i).filter fun e => isDat da m e.2).map fun e => ((j : Int), e))) (init0 da m.toNat))) (fun i σ' H' ⟨_, _, _, c, _⟩ => c.at nP8 ets) ⟨_, _, rfl, .refl, by rw [List.take_zero, List.filter_nil, List.map_nil, List.append_nil]; exact h8⟩ ?_ ?_
      · rintro i y σ' H9 hy ⟨v5, v6, rfl, c9, h9⟩
        rw [List.getElem?_map] at hy
        obtain ⟨u, hu, rfl⟩ := Option.map_eq_some_iff.mp hy
        obtain ⟨kk, hk, eu⟩ := kyT_at kt hu
        rw [List.getElem?_map] at hk
        obtain ⟨⟨pl1, bl⟩, he, rfl⟩ := Option.map_eq_some_iff.mp hk
        have eu9 : H9 u = some (.tup [.int pl1, .int bl]) := c9.at (fun z => oq u z _ eu) eu
        have s09 : Same H H9 := Same.chg (s07.trans s8) c9 fqs
        have tk := take_succ_of he
        have hi := (List.getElem?_eq_some_iff.mp he).1
        walk_at "go"
        refine p_is_data (hL.same s09) g ?_
        walk_at "go"
        cases hd : isDat da m bl with
        | false =>
          walk_at "go"
          refine ⟨_, _, rfl, c9, ?_⟩
          rw [tk, List.filter_append, List.filter_cons_of_neg (by rw [hd]; decide), List.filter_nil, List.append_nil]
          exact h9
        | true =>
          have hd2 := hd
          unfold isDat at hd2
          rw [Bool.and_eq_true, decide_eq_true_iff, decide_eq_true_iff] at hd2
          generalize eL : progL R da m nds j ++ ((((placesP R da m w).take i).filter fun e => isDat da m e.2).map fun e => ((j : Int), e)) = L at h9
          have hLd : DatL da m L := by
            rw [← eL]
            refine progL_dat.app fun x hx => ?_
            obtain ⟨e, he, rfl⟩ := List.mem_map.mp hx
            have := (List.mem_filter.mp he).2
            unfold isDat at this
            rw [Bool.and_eq_true, decide_eq_true_iff, decide_eq_true_iff] at this
            exact this
          have hLl : L.length ≤ 21 * j + 21 := by
            rw [← eL, List.length_append, List.length_map]
            have a1 := progL_len (R := R) (da := da) (m := m) (nds := nds) (j := j)
            have a2 := List.length_filter_le (fun e : Int × Int => isDat da m e.2) ((placesP R da m w).take i)
            rw [List.length_take] at a2
            omega
          have lr := rl L
          obtain ⟨q', ts', hq', eq', kt'⟩ := h9.row (i := bl.toNat) (by rw [lr]; omega)
          have ll' := kyT_len kt'
          have rlen := row_len (b := bl.toNat) (da := da) (m := m.toNat) (L := L) (fun x hx => by have := hLd x hx; omega) mm
          walk_at "go"
          refine go_ixAt h9.pp (by omega) (v := .ref q') (by rw [List.getElem?_map, hq']; rfl) ?_
          walk_at "go"
          rename_i T2 H10 n10 H11 w11
          have h10 := h9.same n10.same
          have h11 := h10.push (i := bl.toNat) (k := pk ((j : Int), pl1)) (by rw [lr]; omega) hq' (n10.old eq') (kyT_chg kt' (.of n10.same : Chg [] H9 H10) fun _ z => absurd z List.not_mem_nil) n10.at (by rw [List.map_append]; exact w11)
          refine ⟨_, _, rfl, (c9.trans (.of n10.same)).trans (.wr w11 (List.mem_of_getElem? hq')), ?_⟩
          rw [tk, List.filter_append, List.filter_cons_of_pos (p := fun e : Int × Int => isDat da m e.2) hd, List.filter_nil, List.map_append, ← List.append_assoc, eL]
          show FD H11 D3 qs (addsU (L ++ [((j : Int), (pl1, bl))]) (init0 da m.toNat))
          rw [addsU_snoc]
          exact h11
      · rintro σ' H9 ⟨v5, v6, rfl, c9, h9⟩
        walk_at "go"
        refine ⟨_, _, _, _, rfl, (c7.trans (.of s8)).trans c9, ?_⟩
        rw [List.length_map, ← lts, List.take_length] at h9
        rw [ps]
        unfold progN
        rw [hs, if_pos rfl]
        exact h9
  · rintro σ' H5 ⟨v3, v4, v5, v6, rfl, c5, h5⟩
    rw [List.length_map, lR4] at h5
    have s05 : Same H H5 := Same.chg s04 c5 fqs
    have lr := rl (progL R da m nds (2 * t))
    have lq5 := h5.len
    have e5 := h5.pp
    walk_at "go"
    refine lc_fdL (rows := fun i => sortK ((addsU (progL R da m nds (2 * t)) (init0 da m.toNat)).getD i [])) h5.pp (by rw [List.length_map]; omega) (fun i y H' Q' hy s kk => ?_) fun D9 qs9 H9 hD9 fq9 s9 h9 => ?_
    · rw [List.getElem?_map] at hy
      obtain ⟨q, hq, rfl⟩ := Option.map_eq_some_iff.mp hy
      have hi : i < (addsU (progL R da m nds (2 * t)) (init0 da m.toNat)).length := by have := (List.getElem?_eq_some_iff.mp hq).1; omega
      obtain ⟨q', ts', hq', eq', kt'⟩ := h5.row hi
      rw [hq] at hq'
      obtain rfl := Option.some.inj hq'
      have ok := (row_ok (b := i) (da := da) (m := m.toNat) (L := progL R da m nds (2 * t)) (fun x hx => by have := progL_dat (R := R) (da := da) (m := m) (nds := nds) (j := 2 * t) x hx; omega) mm).al
      simp only [List.set_cons_zero, List.set_cons_succ]
      walk_at "go"
      refine go_sortLK (s _ _ eq') (kyT_chg kt' (.of s : Chg [] H5 H') fun _ z => absurd z List.not_mem_nil) ok.1 ok.2 fun us p H6 ku n6 => ?_
      exact kk p H6 n6.same n6.free ⟨us, n6.at, ku⟩
    · have e9 : (List.range (qs.map V.ref).length).map (fun i => sortK ((addsU (progL R da m nds (2 * t)) (init0 da m.toNat)).getD i [])) = (addsU (progL R da m nds (2 * t)) (init0 da m.toNat)).map sortK := by
        rw [List.length_map, lq5]
        refine List.ext_getElem? fun i => ?_
        rw [List.getElem?_map, List.getElem?_map]
        by_cases c : i < (addsU (progL R da m nds (2 * t)) (init0 da m.toNat)).length
        · rw [List.getElem?_range c, List.getElem?_eq_getElem c]
          show some (sortK _) = some (sortK _)
          rw [List.getD_eq_getElem?_getD, List.getElem?_eq_getElem c]; rfl
        · rw [List.getElem?_eq_none (by rw [List.length_range]; omega), List.getElem?_eq_none (by omega)]; rfl
      rw [e9] at h9
      exact k D9 qs9 H9 (s05.trans s9) (s05.free hD9) (fun q hq => s05.free (fq9 q hq)) h9
end

end Bk

namespace Bk
open PySem L2 PyProof.Rows
/-! our own short tactics: h: what stands at a place; ne: two places; sm: what stood stands; z: a size; s: a step; go: steps -/
local macro_rules | `(tactic| walk_at "h") => `(tactic| first
  | assumption
  | exact New.at (by assumption)
  | exact Wr.at (by assumption)
  | (refine' New.old (by assumption) ?_; walk_at "h")
  | (refine' Same.at (by assumption) ?_; walk_at "h")
  | (refine' Wr.old (by assumption) ?_ ?_; walk_at "ne"; walk_at "h")
  | (refine' Chg.at (by assumption) ?_ ?_; walk_at "ni"; walk_at "h"))
local macro_rules | `(tactic| walk_at "ni") => `(tactic| first
  | exact ni_nil
  | assumption
  | (refine' ni_cons ?_ ?_; walk_at "ne"; walk_at "ni"))
local macro_rules | `(tactic| walk_at "ne") => `(tactic| first
  | assumption
  | exact Ne.symm (by assumption)
  | exact New.ne (by assumption) (by walk_at "h")
  | exact ne_none (by assumption) (by walk_at "h")
  | exact Ne.symm (ne_none (by assumption) (by walk_at "h"))
  | exact Ne.symm (New.ne (by assumption) (by walk_at "h")))
local macro_rules | `(tactic| walk_at "sm") => `(tactic| first
  | exact Same.refl _
  | assumption
  | (refine' Same.trans ?_ (New.same (by assumption)); walk_at "sm")
  | (refine' Same.trans ?_ (by assumption : Same _ _); walk_at "sm"))
local macro_rules | `(tactic| walk_at "z") => `(tactic| first
  | assumption
  | (rw [PySem.sizeLine_eq]; omega)
  | (rw [PySem.sizeLine_eq]; simp only [List.length_cons, List.length_nil, List.length_append, List.length_map, List.length_range, List.length_replicate, len_cut]; omega)
  | (rw [PySem.sizeLine_eq]; simp only [List.length_cons, List.length_nil, List.length_append, List.length_map, List.length_range, List.length_replicate, len_cut] at *; omega))
local macro_rules | `(tactic| walk_at "s") => `(tactic| first
  | (refine' Step.go ?_)
  | ((with_reducible refine' go_var ?h ?_); (case h => exact rfl))
  | ((with_reducible refine' go_name2 ?h ?_); (case h => (simp only [List.set_cons_zero, List.set_cons_succ]; exact rfl)))
  | ((with_reducible refine' go_name2 ?h ?_); (case h => exact rfl))
  | (with_reducible refine' go_if ?_)
  | (with_reducible refine' iteT ?_)
  | (with_reducible refine' iteF ?_)
  | ((with_reducible refine' go_Td ?h ?_); (case h => walk_at "pr"))
  | ((with_reducible refine' go_Fd ?h ?_); (case h => walk_at "pr"))
  | ((with_reducible refine' go_Tn ?h ?_); (case h => walk_at "pr"))
  | ((with_reducible refine' go_Fn ?h ?_); (case h => walk_at "pr"))
  | ((with_reducible refine' go_T ?h ?_); (case h => (first | decide | assumption | exact rfl)))
  | ((with_reducible refine' go_F ?h ?_); (case h => (first | decide | assumption | exact rfl)))
  | ((with_reducible refine' go_LstK ?h ?_); (case h => walk_at "z"); intro p H1 n1)
  | ((with_reducible refine' go_TupK ?h ?_); (case h => walk_at "z"); intro p H1 n1)
  | ((with_reducible refine' go_addL ?h ?k ?z ?_); (case h => walk_at "h"); (case k => walk_at "h"); (case z => walk_at "z"); intro p H1 n1)
  | ((with_reducible refine' go_mulI ?h ?_); (case h => (unfold CMul; omega)))
  | ((with_reducible refine' go_mulL ?h ?k ?_); (case h => walk_at "h"); (case k => (refine ⟨by omega, by omega, ?_⟩; walk_at "z")); intro p H1 n1)
  | ((with_reducible refine' go_div ?h ?_); (case h => (unfold CDiv; omega)))
  | ((with_reducible refine' go_mod ?h ?_); (case h => omega))
  | ((with_reducible refine' go_pow ?h ?_); (case h => (unfold CPow; omega)))
  | ((with_reducible refine' go_slL ?h ?_); (case h => walk_at "h"); intro p H1 n1)
  | ((with_reducible refine' go_ixL ?h ?k ?_); (case h => walk_at "h"); (case k => exact rfl))
  | ((with_reducible refine' go_ixT ?h ?k ?_); (case h => walk_at "h"); (case k => exact rfl))
  | ((with_reducible refine' go_slW ?h ?_); (case h => walk_at "h"))
  | ((with_reducible refine' go_bmL ?h ?_); (case h => walk_at "h"))
  | ((with_reducible refine' go_append ?h ?k ?_); (case h => walk_at "h"); (case k => walk_at "z"); intro H1 n1)
  | ((with_reducible refine' go_extend ?h ?k ?z ?_); (case h => walk_at "h"); (case k => walk_at "h"); (case z => walk_at "z"); intro H1 n1)
  | ((with_reducible refine' go_clear ?h ?_); (case h => walk_at "h"); intro H1 n1)
  | ((with_reducible refine' go_dnew ?_); intro p H1 n1)
  | ((with_reducible refine' go_lenL ?h ?_); (case h => walk_at "h"))
  | ((with_reducible refine' go_lenT ?h ?_); (case h => walk_at "h"))
  | ((with_reducible refine' go_lenK ?h ?_); (case h => walk_at "hk"))
  | ((with_reducible refine' go_listL ?h ?_); (case h => walk_at "h"); intro p H1 n1)
  | ((with_reducible refine' go_listT ?h ?_); (case h => walk_at "h"); intro p H1 n1)
  | ((with_reducible refine' go_tupleL ?h ?_); (case h => walk_at "h"); intro p H1 n1)
  | ((with_reducible refine' go_isi ?h ?k ?_); (case h => walk_at "ty"); (case k => exact kit_bb (by decide) (by decide)))
  | ((with_reducible refine' go_seqL ?h ?_); (case h => walk_at "h"))
  | ((with_reducible refine' go_seqT ?h ?_); (case h => walk_at "h"))
  | ((with_reducible refine' go_rng1K ?h ?_); (case h => omega))
  | ((with_reducible refine' go_rng2K ?h ?_); (case h => omega))
  | (with_reducible refine' go_raise ?_)
  | ((with_reducible refine' go_tupG ?h ?k ?_); (case h => walk_at "h"); (case k => exact rfl))
  | ((with_reducible refine' go_lstG ?h ?k ?_); (case h => walk_at "h"); (case k => exact rfl))
  | (with_reducible refine' go_tryAs ?_)
  | ((with_reducible refine' go_asT ?_); intro e he)
  | (with_reducible refine' go_asF ?_)
  | ((with_reducible refine' go_manyT ?_); intro e he)
  | (with_reducible refine' go_manyF ?_)
  | ((with_reducible refine' go_FldK ?h ?c ?n ?l ?_); (case h => walk_at "h"); (case c => infer_instance); (case n => infer_instance); (case l => exact rfl))
  | ((with_reducible refine' go_SFldK ?h ?c ?n ?l ?e ?_); (case h => walk_at "h"); (case c => infer_instance); (case n => infer_instance); (case l => exact Nat.le_of_ble_eq_true rfl); (case e => walk_at "pf"); intro H1 n1)
  | ((with_reducible refine' go_MethK 0 ?h ?l ?e ?_); (case h => walk_at "h"); (case l => exact rfl); (case e => exact rfl))
  | ((with_reducible refine' go_MethK 1 ?h ?l ?e ?_); (case h => walk_at "h"); (case l => exact rfl); (case e => exact rfl))
  | ((with_reducible refine' go_MethK 2 ?h ?l ?e ?_); (case h => walk_at "h"); (case l => exact rfl); (case e => exact rfl))
  | ((with_reducible refine' go_MethXK ?h ?l ?_); (case h => walk_at "h"); (case l => exact rfl))
  | ((with_reducible refine' go_DGetS ?h ?l ?_); (case h => walk_at "h"); (case l => exact rfl))
  | ((with_reducible refine' go_DPutS ?h ?l ?e ?_); (case h => walk_at "h"); (case l => exact Nat.le_of_ble_eq_true rfl); (case e => walk_at "pk"); intro H1 n1)
  | ((with_reducible refine' go_disp ?_); intro p H1 n1)
  | ((with_reducible refine' go_DispS ?h ?e ?l ?k ?j ?m ?_); (case h => walk_at "h"); (case e => exact rfl); (case l => exact Nat.le_of_ble_eq_true rfl); (case k => (simp only [unS]; exact rfl)); (case j => (simp only [List.map_cons, List.map_nil]; exact rfl)); (case m => decide +kernel); intro H1 n1)
  | ((with_reducible refine' go_ParK ?h ?_); (case h => (simp only [List.set_cons_zero, List.set_cons_succ]; exact rfl)))
  | ((with_reducible refine' go_setLi ?h ?k ?_); (case h => walk_at "h"); (case k => walk_at "ix"); intro H1 n1)
  | ((with_reducible refine' go_listYL ?h ?_); (case h => walk_at "h"))
  | ((with_reducible refine' go_maxD ?h ?_); (case h => walk_at "h"))
  | ((with_reducible refine' go_ListRK ?h ?_); (case h => omega); intro p H1 n1)
  | ((with_reducible refine' go_EnumL ?h ?_); (case h => walk_at "h"))
  | (with_reducible refine' go_isX ?_)
  | (with_reducible refine' go_isXt ?_)
  | ((with_reducible refine' go_DInI ?h ?_); (case h => walk_at "h"))
  | ((with_reducible refine' go_DNotInI ?h ?_); (case h => walk_at "h"))
  | ((with_reducible refine' go_DGet2K ?h ?_); (case h => walk_at "h"))
  | ((with_reducible refine' go_eqDE ?h ?k ?_); (case h => walk_at "h"); (case k => walk_at "h"))
  | ((with_reducible refine' go_neDE ?h ?k ?_); (case h => walk_at "h"); (case k => walk_at "h"))
  | ((with_reducible refine' go_insert ?h ?k ?l ?m ?_); (case h => walk_at "h"); (case k => walk_at "z"); (case l => omega); (case m => omega); intro H1 n1)
  | ((with_reducible refine' go_dnewT ?_); intro p H1 n1)
  | ((with_reducible refine' go_LstRevK ?h ?_); (case h => walk_at "h"); intro p H1 n1)
  | (with_reducible refine' go_gCons ?_))
local macro_rules | `(tactic| walk_at "pf") => `(tactic| first
  | exact putF_nil
  | exact putF_hit
  | (refine' putF_miss ?h ?k; (case h => decide +kernel); (case k => walk_at "pf")))
local macro_rules | `(tactic| walk_at "pk") => `(tactic| first
  | exact putK_nil
  | exact putK_hit (by (simp only [List.map_cons, List.map_nil]; decide +kernel))
  | (refine' putK_miss ?h ?k; (case h => decide +kernel); (case k => walk_at "pk")))
local macro_rules | `(tactic| walk_at "ix") => `(tactic| first
  | assumption
  | omega
  | (simp only [List.length_cons, List.length_nil, List.length_append, List.length_map, List.length_range, List.length_replicate, List.length_set] at *; omega))
local macro_rules | `(tactic| walk_at "pr") => `(tactic| first
  | assumption
  | decide
  | omega
  | exact rfl
  | (intro z; cases z; done))
local macro_rules | `(tactic| walk_at "hk") => `(tactic| first
  | assumption
  | exact seq' (by assumption) (by walk_at "sm"))
local macro_rules | `(tactic| walk_at "ty") => `(tactic| first
  | exact rfl
  | assumption
  | exact tyN_L (by walk_at "h")
  | exact tyN_T (by walk_at "h")
  | exact tyN_D (by walk_at "h"))
local macro_rules | `(tactic| walk_at "go") => `(tactic| repeat (walk_at "s"))
/-! ### k23: what the law says of it, plain -/
def leP (p q : Int × Int) : Bool := PySem.W.dataLe false tD (pk p) (pk q)
theorem leP_eq (p q : Int × Int) : leP p q = decide (p.1 < q.1 ∨ (p.1 = q.1 ∧ p.2 ≤ q.2)) := congrFun (congrFun (PySem.W.dataLe_ii (β := Int × Int) Prod.fst Prod.snd) p) q
theorem leP_iff {p q : Int × Int} : leP p q = true ↔ p.1 < q.1 ∨ (p.1 = q.1 ∧ p.2 ≤ q.2) := by rw [leP_eq, decide_eq_true_iff]
theorem sort_pk {es : List (Int × Int)} : sortK (es.map pk) = (es.mergeSort leP).map pk :=
  (List.map_mergeSort (r := leP) (s := PySem.W.dataLe false tD) (f := pk) (l := es) fun _ _ _ _ => rfl).symm
theorem leP_pw {es : List (Int × Int)} : (es.mergeSort leP).Pairwise fun a b => leP a b = true :=
  List.pairwise_mergeSort (fun a b c h k => by rw [leP_iff] at *; omega) (fun a b => by rw [Bool.or_eq_true, leP_iff, leP_iff]; omega) es
theorem sort_is {es fs : List (Int × Int)} (p : fs.Perm es) (h : fs.Pairwise fun a b => leP a b = true) : es.mergeSort leP = fs := by
  refine List.Perm.eq_of_pairwise (le := fun a b => leP a b = true) (fun a b _ _ h k => ?_) leP_pw h ((List.mergeSort_perm _ _).trans p.symm)
  rw [leP_iff] at h k
  exact Prod.ext (by omega) (by omega)
def soundL (n : Int) (w : List Int) : Bool := !(decide (n = 0) || (!decide (wd w 0 ∈ [(1 : Int), 2]) || (decide (n = 1) && decide (wd w 0 = 1)))) && (decide (wd w 2 ≤ 320) && (decide (wd w 0 = 1) || decide (wd w 2 % 4 = 0)))
theorem sound_eq {n : Int} {w : List Int} (h : 1 ≤ n) : sound n w = soundL n w := by
  have m0 := Int.emod_nonneg (wd w 2) (show (4 : Int) ≠ 0 by omega)
  unfold sound soundL kindBad sizeBad
  rw [if_neg (show ¬ n = 0 by omega), decide_eq_false (show ¬ n = 0 by omega), decide_eq_true (show n > 0 by omega), Bool.eq_iff_iff]
  generalize wd w 0 = a0
  generalize wd w 2 = a2 at *
  by_cases c1 : n = 1
  · rw [if_pos c1, decide_eq_true c1]
    simp only [Bool.true_and, Bool.false_or, Bool.and_eq_true, Bool.not_eq_true', Bool.or_eq_false_iff, Bool.or_eq_true, Bool.not_eq_false', decide_eq_true_iff, decide_eq_false_iff_not, List.mem_cons, List.not_mem_nil, or_false, Bool.not_not, Bool.and_eq_false_imp]
    omega
  · rw [if_neg c1, decide_eq_false c1]
    simp only [Bool.true_and, Bool.false_and, Bool.false_or, Bool.or_false, Bool.and_eq_true, Bool.not_eq_true', Bool.or_eq_false_iff, Bool.or_eq_true, Bool.not_eq_false', decide_eq_true_iff, decide_eq_false_iff_not, List.mem_cons, List.not_mem_nil, or_false, Bool.not_not, Bool.and_eq_false_imp]
    omega
/-- the places as the law takes them -/
def rawL (R : List (List Int)) (da m : Int) (w : List Int) : List (Int × Int) :=
  (if wantB w > 4 then [(-1, wd w 7)] else []) ++ nearP w (min 4 (wantB w)).toNat ++ if wantB w > 4 then (if isDat da m (wd w 7) = true then farP (R.getD (wd w 7).toNat []) (wantB w - 4).toNat else []) else []
def placesL (R : List (List Int)) (da m : Int) (w : List Int) : List (Int × Int) := (rawL R da m w).filter fun e => isDat da m e.2
theorem raw_perm {R : List (List Int)} {da m : Int} {w : List Int} : (rawL R da m w).Perm (placesP R da m w) := by
  unfold rawL placesP
  split
  · exact List.perm_middle.symm
  · simp
def lawN (R : List (List Int)) (da m n : Int) (w : List Int) : List NPB := if soundL n w = true then ((placesL R da m w).mergeSort leP).map fun e => (n, e) else []
def lawL (R : List (List Int)) (da m : Int) (nds : List (List Int)) (j : Nat) : List NPB := (List.range j).flatMap fun i : Nat => lawN R da m (i + 1 : Nat) (nds.getD (i + 1) [])
theorem lawL_succ {R : List (List Int)} {da m : Int} {nds : List (List Int)} {j : Nat} : lawL R da m nds (j + 1) = lawL R da m nds j ++ lawN R da m (j + 1 : Nat) (nds.getD (j + 1) []) := by
  unfold lawL
  rw [List.range_succ, List.flatMap_append]; simp
theorem lawN_dat {R : List (List Int)} {da m n : Int} {w : List Int} : DatL da m (lawN R da m n w) := fun x hx => by
  unfold lawN at hx
  split at hx
  · obtain ⟨e, he, rfl⟩ := List.mem_map.mp hx
    have := (List.mem_filter.mp ((List.mergeSort_perm _ _).mem_iff.mp he)).2
    unfold isDat at this
    rw [Bool.and_eq_true, decide_eq_true_iff, decide_eq_true_iff] at this
    exact this
  · cases hx
theorem lawL_dat {R : List (List Int)} {da m : Int} {nds : List (List Int)} {j : Nat} : DatL da m (lawL R da m nds j) := fun x hx => by
  unfold lawL at hx
  obtain ⟨n, _, hx⟩ := List.mem_flatMap.mp hx
  exact lawN_dat x hx
theorem placesL_len {R : List (List Int)} {da m : Int} {w : List Int} (h : wd w 2 ≤ 320) : (placesL R da m w).length ≤ 21 := by
  unfold placesL
  refine Nat.le_trans (List.length_filter_le _ _) ?_
  rw [raw_perm.length_eq]
  exact places_len h
theorem lawN_len {R : List (List Int)} {da m n : Int} {w : List Int} : (lawN R da m n w).length ≤ 21 := by
  unfold lawN
  split
  · rename_i h
    have : wd w 2 ≤ 320 := by
      unfold soundL at h
      simp only [Bool.and_eq_true, decide_eq_true_iff] at h
      exact h.2.1
    rw [List.length_map, List.length_mergeSort]
    exact placesL_len this
  · simp
theorem lawL_len {R : List (List Int)} {da m : Int} {nds : List (List Int)} : ∀ {j : Nat}, (lawL R da m nds j).length ≤ 21 * j
  | 0 => Nat.le_refl _
  | j + 1 => by
    rw [lawL_succ, List.length_append]
    have := lawL_len (R := R) (da := da) (m := m) (nds := nds) (j := j)
    have := lawN_len (R := R) (da := da) (m := m) (n := (j + 1 : Nat)) (w := nds.getD (j + 1) [])
    omega
theorem N_perm {R : List (List Int)} {da m n : Int} {w : List Int} (h : 1 ≤ n) : (lawN R da m n w).Perm (progN R da m n w) := by
  unfold lawN progN
  rw [sound_eq h]
  split
  · exact (((List.mergeSort_perm _ _).trans (raw_perm.filter _)).map _)
  · exact List.Perm.refl _
theorem flat_perm {α β : Type} {f g : α → List β} : ∀ {l : List α}, (∀ x ∈ l, (f x).Perm (g x)) → (l.flatMap f).Perm (l.flatMap g)
  | [], _ => List.Perm.refl _
  | x :: l, h => by
    rw [List.flatMap_cons, List.flatMap_cons]
    exact (h x List.mem_cons_self).append (flat_perm fun y hy => h y (List.mem_cons_of_mem _ hy))
theorem L_perm {R : List (List Int)} {da m : Int} {nds : List (List Int)} {j : Nat} : (lawL R da m nds j).Perm (progL R da m nds (j + 1)) := by
  unfold lawL progL
  rw [List.range_succ_eq_map, List.flatMap_cons, List.flatMap_map]
  have e : progN R da m ((0 : Nat) : Int) (nds.getD 0 []) = [] := by
    unfold progN sound
    rw [decide_eq_false (by omega), Bool.false_and, if_neg (by decide)]
  rw [e, List.nil_append]
  exact flat_perm fun i _ => N_perm (by omega)
theorem L_pw {R : List (List Int)} {da m : Int} {nds : List (List Int)} {j : Nat} : (lawL R da m nds j).Pairwise fun x y : NPB => x.1 < y.1 ∨ (x.1 = y.1 ∧ x.2.1 ≤ y.2.1) := by
  have one : ∀ n w, ∀ x ∈ lawN R da m n w, x.1 = n := fun n w x hx => by
    unfold lawN at hx
    split at hx
    · obtain ⟨e, _, rfl⟩ := List.mem_map.mp hx; rfl
    · cases hx
  unfold lawL
  rw [List.pairwise_flatMap]
  refine ⟨fun i _ => ?_, ?_⟩
  · unfold lawN
    split
    · rw [List.pairwise_map]
      refine leP_pw.imp fun {a b} h => ?_
      rw [leP_iff] at h
      exact .inr ⟨rfl, by show a.1 ≤ b.1; omega⟩
    · exact .nil
  · refine List.pairwise_lt_range.imp fun {a b} h x hx y hy => ?_
    rw [one _ _ x hx, one _ _ y hy]
    exact .inl (by omega)
/-- the program's users are the law's -/
theorem users_due {R : List (List Int)} {da m : Nat} {nds : List (List Int)} {j : Nat} (h : da ≤ m) : (addsU (progL R da m nds (j + 1)) (init0 da m)).map sortK = addsU (lawL R da m nds j) (init0 da m) := by
  refine List.ext_getElem? fun b => ?_
  rw [List.getElem?_map]
  have l1 : (addsU (progL R da m nds (j + 1)) (init0 da m)).length = m := by rw [addsU_len, init0_len h]
  have l2 : (addsU (lawL R da m nds j) (init0 da m)).length = m := by rw [addsU_len, init0_len h]
  by_cases c : b < m
  · have g : ∀ rows : List (List (List Key)), rows.length = m → rows[b]? = some (rows.getD b []) := fun rows l => by rw [List.getD_eq_getElem?_getD, List.getElem?_eq_getElem (by omega)]; rfl
    rw [g _ l1, g _ l2, rows_of progL_dat h (Nat.zero_le _), rows_of lawL_dat h (Nat.zero_le _)]
    by_cases cd : b < da
    · rw [if_pos cd, if_pos cd]
      show some (sortK [keptK]) = _
      unfold sortK
      rw [List.mergeSort_singleton]
    · rw [if_neg cd, if_neg cd]
      show some (sortK _) = _
      congr 1
      have e1 : ∀ L : List NPB, ((L.filter fun x => decide (x.2.2.toNat = b)).map fun x => pk (x.1, x.2.1)) = ((L.filter fun x => decide (x.2.2.toNat = b)).map fun x => (x.1, x.2.1)).map pk := fun L => by rw [List.map_map]; rfl
      rw [e1, e1, sort_pk]
      congr 1
      refine sort_is (((L_perm).filter _).map _) ?_
      rw [List.pairwise_map]
      refine (L_pw.filter _).imp fun {x y} h => ?_
      rw [leP_iff]
      exact h
  · rw [List.getElem?_eq_none (by omega), List.getElem?_eq_none (by omega)]; rfl

end Bk

namespace Bk
open PySem L2 PyProof.Rows
/-! our own short tactics: h: what stands at a place; ne: two places; sm: what stood stands; z: a size; s: a step; go: steps -/
local macro_rules | `(tactic| walk_at "h") => `(tactic| first
  | assumption
  | exact New.at (by assumption)
  | exact Wr.at (by assumption)
  | (refine' New.old (by assumption) ?_; walk_at "h")
  | (refine' Same.at (by assumption) ?_; walk_at "h")
  | (refine' Wr.old (by assumption) ?_ ?_; walk_at "ne"; walk_at "h")
  | (refine' Chg.at (by assumption) ?_ ?_; walk_at "ni"; walk_at "h"))
local macro_rules | `(tactic| walk_at "ni") => `(tactic| first
  | exact ni_nil
  | assumption
  | (refine' ni_cons ?_ ?_; walk_at "ne"; walk_at "ni"))
local macro_rules | `(tactic| walk_at "ne") => `(tactic| first
  | assumption
  | exact Ne.symm (by assumption)
  | exact New.ne (by assumption) (by walk_at "h")
  | exact ne_none (by assumption) (by walk_at "h")
  | exact Ne.symm (ne_none (by assumption) (by walk_at "h"))
  | exact Ne.symm (New.ne (by assumption) (by walk_at "h")))
local macro_rules | `(tactic| walk_at "sm") => `(tactic| first
  | exact Same.refl _
  | assumption
  | (refine' Same.trans ?_ (New.same (by assumption)); walk_at "sm")
  | (refine' Same.trans ?_ (by assumption : Same _ _); walk_at "sm"))
local macro_rules | `(tactic| walk_at "z") => `(tactic| first
  | assumption
  | (rw [PySem.sizeLine_eq]; omega)
  | (rw [PySem.sizeLine_eq]; simp only [List.length_cons, List.length_nil, List.length_append, List.length_map, List.length_range, List.length_replicate, len_cut]; omega)
  | (rw [PySem.sizeLine_eq]; simp only [List.length_cons, List.length_nil, List.length_append, List.length_map, List.length_range, List.length_replicate, len_cut] at *; omega))
local macro_rules | `(tactic| walk_at "s") => `(tactic| first
  | (refine' Step.go ?_)
  | ((with_reducible refine' go_var ?h ?_); (case h => exact rfl))
  | ((with_reducible refine' go_name2 ?h ?_); (case h => (simp only [List.set_cons_zero, List.set_cons_succ]; exact rfl)))
  | ((with_reducible refine' go_name2 ?h ?_); (case h => exact rfl))
  | (with_reducible refine' go_if ?_)
  | (with_reducible refine' iteT ?_)
  | (with_reducible refine' iteF ?_)
  | ((with_reducible refine' go_Td ?h ?_); (case h => walk_at "pr"))
  | ((with_reducible refine' go_Fd ?h ?_); (case h => walk_at "pr"))
  | ((with_reducible refine' go_Tn ?h ?_); (case h => walk_at "pr"))
  | ((with_reducible refine' go_Fn ?h ?_); (case h => walk_at "pr"))
  | ((with_reducible refine' go_T ?h ?_); (case h => (first | decide | assumption | exact rfl)))
  | ((with_reducible refine' go_F ?h ?_); (case h => (first | decide | assumption | exact rfl)))
  | ((with_reducible refine' go_LstK ?h ?_); (case h => walk_at "z"); intro p H1 n1)
  | ((with_reducible refine' go_TupK ?h ?_); (case h => walk_at "z"); intro p H1 n1)
  | ((with_reducible refine' go_addL ?h ?k ?z ?_); (case h => walk_at "h"); (case k => walk_at "h"); (case z => walk_at "z"); intro p H1 n1)
  | ((with_reducible refine' go_mulI ?h ?_); (case h => (unfold CMul; omega)))
  | ((with_reducible refine' go_mulL ?h ?k ?_); (case h => walk_at "h"); (case k => (refine ⟨by omega, by omega, ?_⟩; walk_at "z")); intro p H1 n1)
  | ((with_reducible refine' go_div ?h ?_); (case h => (unfold CDiv; omega)))
  | ((with_reducible refine' go_mod ?h ?_); (case h => omega))
  | ((with_reducible refine' go_pow ?h ?_); (case h => (unfold CPow; omega)))
  | ((with_reducible refine' go_slL ?h ?_); (case h => walk_at "h"); intro p H1 n1)
  | ((with_reducible refine' go_ixL ?h ?k ?_); (case h => walk_at "h"); (case k => exact rfl))
  | ((with_reducible refine' go_ixT ?h ?k ?_); (case h => walk_at "h"); (case k => exact rfl))
  | ((with_reducible refine' go_slW ?h ?_); (case h => walk_at "h"))
  | ((with_reducible refine' go_bmL ?h ?_); (case h => walk_at "h"))
  | ((with_reducible refine' go_append ?h ?k ?_); (case h => walk_at "h"); (case k => walk_at "z"); intro H1 n1)
  | ((with_reducible refine' go_extend ?h ?k ?z ?_); (case h => walk_at "h"); (case k => walk_at "h"); (case z => walk_at "z"); intro H1 n1)
  | ((with_reducible refine' go_clear ?h ?_); (case h => walk_at "h"); intro H1 n1)
  | ((with_reducible refine' go_dnew ?_); intro p H1 n1)
  | ((with_reducible refine' go_lenL ?h ?_); (case h => walk_at "h"))
  | ((with_reducible refine' go_lenT ?h ?_); (case h => walk_at "h"))
  | ((with_reducible refine' go_lenK ?h ?_); (case h => walk_at "hk"))
  | ((with_reducible refine' go_listL ?h ?_); (case h => walk_at "h"); intro p H1 n1)
  | ((with_reducible refine' go_listT ?h ?_); (case h => walk_at "h"); intro p H1 n1)
  | ((with_reducible refine' go_tupleL ?h ?_); (case h => walk_at "h"); intro p H1 n1)
  | ((with_reducible refine' go_isi ?h ?k ?_); (case h => walk_at "ty"); (case k => exact kit_bb (by decide) (by decide)))
  | ((with_reducible refine' go_seqL ?h ?_); (case h => walk_at "h"))
  | ((with_reducible refine' go_seqT ?h ?_); (case h => walk_at "h"))
  | ((with_reducible refine' go_rng1K ?h ?_); (case h => omega))
  | ((with_reducible refine' go_rng2K ?h ?_); (case h => omega))
  | (with_reducible refine' go_raise ?_)
  | ((with_reducible refine' go_tupG ?h ?k ?_); (case h => walk_at "h"); (case k => exact rfl))
  | ((with_reducible refine' go_lstG ?h ?k ?_); (case h => walk_at "h"); (case k => exact rfl))
  | (with_reducible refine' go_tryAs ?_)
  | ((with_reducible refine' go_asT ?_); intro e he)
  | (with_reducible refine' go_asF ?_)
  | ((with_reducible refine' go_manyT ?_); intro e he)
  | (with_reducible refine' go_manyF ?_)
  | ((with_reducible refine' go_FldK ?h ?c ?n ?l ?_); (case h => walk_at "h"); (case c => infer_instance); (case n => infer_instance); (case l => exact rfl))
  | ((with_reducible refine' go_SFldK ?h ?c ?n ?l ?e ?_); (case h => walk_at "h"); (case c => infer_instance); (case n => infer_instance); (case l => exact Nat.le_of_ble_eq_true rfl); (case e => walk_at "pf"); intro H1 n1)
  | ((with_reducible refine' go_MethK 0 ?h ?l ?e ?_); (case h => walk_at "h"); (case l => exact rfl); (case e => exact rfl))
  | ((with_reducible refine' go_MethK 1 ?h ?l ?e ?_); (case h => walk_at "h"); (case l => exact rfl); (case e => exact rfl))
  | ((with_reducible refine' go_MethK 2 ?h ?l ?e ?_); (case h => walk_at "h"); (case l => exact rfl); (case e => exact rfl))
  | ((with_reducible refine' go_MethXK ?h ?l ?_); (case h => walk_at "h"); (case l => exact rfl))
  | ((with_reducible refine' go_DGetS ?h ?l ?_); (case h => walk_at "h"); (case l => exact rfl))
  | ((with_reducible refine' go_DPutS ?h ?l ?e ?_); (case h => walk_at "h"); (case l => exact Nat.le_of_ble_eq_true rfl); (case e => walk_at "pk"); intro H1 n1)
  | ((with_reducible refine' go_disp ?_); intro p H1 n1)
  | ((with_reducible refine' go_DispS ?h ?e ?l ?k ?j ?m ?_); (case h => walk_at "h"); (case e => exact rfl); (case l => exact Nat.le_of_ble_eq_true rfl); (case k => (simp only [unS]; exact rfl)); (case j => (simp only [List.map_cons, List.map_nil]; exact rfl)); (case m => decide +kernel); intro H1 n1)
  | ((with_reducible refine' go_ParK ?h ?_); (case h => (simp only [List.set_cons_zero, List.set_cons_succ]; exact rfl)))
  | ((with_reducible refine' go_setLi ?h ?k ?_); (case h => walk_at "h"); (case k => walk_at "ix"); intro H1 n1)
  | ((with_reducible refine' go_listYL ?h ?_); (case h => walk_at "h"))
  | ((with_reducible refine' go_maxD ?h ?_); (case h => walk_at "h"))
  | ((with_reducible refine' go_ListRK ?h ?_); (case h => omega); intro p H1 n1)
  | ((with_reducible refine' go_EnumL ?h ?_); (case h => walk_at "h"))
  | (with_reducible refine' go_isX ?_)
  | (with_reducible refine' go_isXt ?_)
  | ((with_reducible refine' go_DInI ?h ?_); (case h => walk_at "h"))
  | ((with_reducible refine' go_DNotInI ?h ?_); (case h => walk_at "h"))
  | ((with_reducible refine' go_DGet2K ?h ?_); (case h => walk_at "h"))
  | ((with_reducible refine' go_eqDE ?h ?k ?_); (case h => walk_at "h"); (case k => walk_at "h"))
  | ((with_reducible refine' go_neDE ?h ?k ?_); (case h => walk_at "h"); (case k => walk_at "h"))
  | ((with_reducible refine' go_insert ?h ?k ?l ?m ?_); (case h => walk_at "h"); (case k => walk_at "z"); (case l => omega); (case m => omega); intro H1 n1)
  | ((with_reducible refine' go_dnewT ?_); intro p H1 n1)
  | ((with_reducible refine' go_LstRevK ?h ?_); (case h => walk_at "h"); intro p H1 n1)
  | (with_reducible refine' go_gCons ?_))
local macro_rules | `(tactic| walk_at "pf") => `(tactic| first
  | exact putF_nil
  | exact putF_hit
  | (refine' putF_miss ?h ?k; (case h => decide +kernel); (case k => walk_at "pf")))
local macro_rules | `(tactic| walk_at "pk") => `(tactic| first
  | exact putK_nil
  | exact putK_hit (by (simp only [List.map_cons, List.map_nil]; decide +kernel))
  | (refine' putK_miss ?h ?k; (case h => decide +kernel); (case k => walk_at "pk")))
local macro_rules | `(tactic| walk_at "ix") => `(tactic| first
  | assumption
  | omega
  | (simp only [List.length_cons, List.length_nil, List.length_append, List.length_map, List.length_range, List.length_replicate, List.length_set] at *; omega))
local macro_rules | `(tactic| walk_at "pr") => `(tactic| first
  | assumption
  | decide
  | omega
  | exact rfl
  | (intro z; cases z; done))
local macro_rules | `(tactic| walk_at "hk") => `(tactic| first
  | assumption
  | exact seq' (by assumption) (by walk_at "sm"))
local macro_rules | `(tactic| walk_at "ty") => `(tactic| first
  | exact rfl
  | assumption
  | exact tyN_L (by walk_at "h")
  | exact tyN_T (by walk_at "h")
  | exact tyN_D (by walk_at "h"))
local macro_rules | `(tactic| walk_at "go") => `(tactic| repeat (walk_at "s"))
/-! ### k23: what the law draws -/
section
variable {K : PySem.W.Frag} {a : Ac} {H0 H H' : Hp} {Q : VK} {E : XK} [F : Fc K a] {d r l q P N script : Addr} {R nds : List (List Int)} {done m : Int} {t na da n : Nat} {w ns : List Int} {x c k more : Int} {qs : List Addr}
def OkW (z : Int) : Prop := 0 ≤ z ∧ z ≤ 999999999
omit F in
theorem p_L_size (qq : ∀ s, OkW s → ∀ H', Same H H' → Q (.int s) H') : sp_L_size K a [.int c, .int k] H Q E := by
  refine in_L_size ?_
  unfold t_L_size
  have a1 := Int.emod_nonneg c (show (70 : Int) ≠ 0 by omega)
  have a2 := Int.emod_lt_of_pos c (show (0 : Int) < 70 by omega)
  have b1 := Int.emod_nonneg c (show (331 : Int) ≠ 0 by omega)
  have b2 := Int.emod_lt_of_pos c (show (0 : Int) < 331 by omega)
  have c1 := Int.emod_nonneg c (show (21 : Int) ≠ 0 by omega)
  have c2 := Int.emod_lt_of_pos c (show (0 : Int) < 21 by omega)
  have d1 := Int.emod_nonneg c (show (40 : Int) ≠ 0 by omega)
  have d2 := Int.emod_lt_of_pos c (show (0 : Int) < 40 by omega)
  have e1 := Int.emod_nonneg (c / 331) (show (4 : Int) ≠ 0 by omega)
  have e2 := Int.emod_lt_of_pos (c / 331) (show (0 : Int) < 4 by omega)
  walk_at "go"
  rename_i L H1 n1
  refine go_ixLo n1.at ⟨e1, by show _ < (4 : Int); omega⟩ fun v hv _ => ?_
  obtain ⟨s, rfl, hs⟩ : ∃ s : Int, v = .int s ∧ 0 ≤ s ∧ s ≤ 1000 := by
    simp only [List.mem_cons, List.not_mem_nil, or_false] at hv
    rcases hv with rfl | rfl | rfl | rfl
    all_goals exact ⟨_, rfl, by omega, by omega⟩
  walk_at "go"
  refine go_dec (fun k1 => ?_) (fun k1 => ?_)
  · walk_at "go"
    refine go_dec (fun k2 => ?_) (fun k2 => ?_)
    · walk_at "go"
      exact qq _ ⟨by omega, by omega⟩ H1 n1.same
    · walk_at "go"
      exact qq _ ⟨by omega, by omega⟩ H1 n1.same
  · walk_at "go"
    exact qq _ ⟨by omega, by omega⟩ H1 n1.same
omit F in
theorem p_L_block (hm : 24 ≤ m ∧ m ≤ 96) (hd : 18 ≤ x ∧ x < m) (qq : ∀ s, OkW s → ∀ H', Same H H' → Q (.int s) H') : sp_L_block K a [.int c, .int m, .int x] H Q E := by
  refine in_L_block ?_
  unfold t_L_block
  have e1 := Int.emod_nonneg (c / 9) (show (6 : Int) ≠ 0 by omega)
  have e2 := Int.emod_lt_of_pos (c / 9) (show (0 : Int) < 6 by omega)
  have p1 := Int.emod_nonneg (c / 9) (show (100000000 : Int) ≠ 0 by omega)
  have p2 := Int.emod_lt_of_pos (c / 9) (show (0 : Int) < 100000000 by omega)
  walk_at "go"
  refine go_dec (fun k1 => ?_) (fun k1 => ?_)
  · walk_at "go"
    rw [show (10 : Int) ^ (8 : Int).toNat = 100000000 from by decide]
    walk_at "go"
    rename_i L H1 n1
    refine go_ixLo n1.at ⟨e1, by show _ < (6 : Int); omega⟩ fun v hv _ => ?_
    obtain ⟨s, rfl, hs⟩ : ∃ s : Int, v = .int s ∧ OkW s := by
      simp only [List.mem_cons, List.not_mem_nil, or_false] at hv
      rcases hv with rfl | rfl | rfl | rfl | rfl | rfl
      all_goals exact ⟨_, rfl, by omega, by omega⟩
    walk_at "go"
    exact qq _ hs H1 n1.same
  · walk_at "go"
    obtain ⟨b, eb, hb⟩ : ∃ b : Int, (if m - x < 12 then m - x else 12) = b ∧ 1 ≤ b ∧ b ≤ 12 := ⟨_, rfl, by split <;> omega, by split <;> omega⟩
    rw [eb]
    have f1 := Int.emod_nonneg (c / 9) (show b ≠ 0 by omega)
    have f2 := Int.emod_lt_of_pos (c / 9) (show (0 : Int) < b by omega)
    exact qq _ ⟨by omega, by omega⟩ H (Same.refl _)
omit F in
theorem p_L_words (hm : 24 ≤ m ∧ m ≤ 96) (hx : 18 ≤ x ∧ x < m) (qq : ∀ (w : List Int) (p : Addr) (H' : Hp), w.length = 8 → (∀ z ∈ w, OkW z) → Same H H' → H p = none → H' p = some (.lst (w.map V.int)) → Q (.ref p) H') : sp_L_words K a [.int c, .int more, .int m, .int x] H Q E := by
  refine in_L_words ?_
  unfold t_L_words
  have a1 := Int.emod_nonneg c (show (8 : Int) ≠ 0 by omega)
  have a2 := Int.emod_lt_of_pos c (show (0 : Int) < 8 by omega)
  have b1 := Int.emod_nonneg (c / 8) (show (9 : Int) ≠ 0 by omega)
  have b2 := Int.emod_lt_of_pos (c / 8) (show (0 : Int) < 9 by omega)
  have g1 := Int.emod_nonneg more (show (100 : Int) ≠ 0 by omega)
  have g2 := Int.emod_lt_of_pos more (show (0 : Int) < 100 by omega)
  walk_at "go"
  rename_i L H1 n1
  refine go_ixLo n1.at ⟨a1, by show _ < (8 : Int); omega⟩ fun v hv _ => ?_
  obtain ⟨kd, rfl, hk⟩ : ∃ s : Int, v = .int s ∧ 0 ≤ s ∧ s ≤ 12 := by
    simp only [List.mem_cons, List.not_mem_nil, or_false] at hv
    rcases hv with rfl | rfl | rfl | rfl | rfl | rfl | rfl | rfl
    all_goals exact ⟨_, rfl, by omega, by omega⟩
  walk_at "go"
  refine go_dec (fun c0 => ?_) (fun c0 => ?_)
  · obtain ⟨bb, ebb, hbb⟩ : ∃ bb : Int, (if decide (c / 8 % 4 = 1) = true then (1 : Int) else 0) = bb ∧ (bb = 0 ∨ bb = 1) := ⟨_, rfl, by split <;> simp⟩
    walk_at "go"
    rename_i p2 H2 n2 p3 H3 n3 p4 H4 n4
    rw [ebb] at n4
    rw [show (List.replicate (Int.toNat 7) [V.int 0]).flatten = List.replicate 7 (V.int 0) from rfl] at n3
    walk_at "go"
    rename_i p5 H5 n5
    have e5 : H5 p5 = some (.lst ((List.replicate 7 (0 : Int) ++ [bb * (more % 100)]).map V.int)) := by rw [n5.at]; rfl
    refine qq _ p5 H5 (by simp) (fun z hz => ?_) ((((n1.same.trans n2.same).trans n3.same).trans n4.same).trans n5.same) ((((n1.same.trans n2.same).trans n3.same).trans n4.same).free n5.free) e5
    rcases List.mem_append.mp hz with hz | hz
    · rw [List.eq_of_mem_replicate hz]; exact ⟨by omega, by omega⟩
    · rw [List.mem_singleton.mp hz]
      rcases hbb with rfl | rfl
      · exact ⟨by omega, by omega⟩
      · exact ⟨by omega, by omega⟩
  · walk_at "go"
    have bl : ∀ j : Nat, j < 5 → True := fun _ _ => trivial
    refine lc_genR (n := 5) (fun D acc H' => ∃ ws : List Int, acc = ws.map V.int ∧ ∀ z ∈ ws, OkW z) (by rw [sizeLine_eq]; omega) (fun D acc H' H'' h _ => h) (fun D H' _ _ => ⟨[], rfl, fun z hz => absurd hz List.not_mem_nil⟩) (fun D acc i H' Q' hD hi hl s hd ⟨ws, ea, hw⟩ kk => ?_) fun D vs H2 hD s hl ⟨ws, ea, hw⟩ hd2 => ?_
    · simp only [List.set_cons_zero, List.set_cons_succ]
      have hi5 : (i : Int) < 5 := by omega
      walk_at "go"
      refine p_L_block hm hx fun s5 hs5 H5 s6 => ?_
      exact kk _ H5 s6 ⟨ws ++ [s5], by rw [ea, List.map_append]; rfl, fun z hz => by
        rcases List.mem_append.mp hz with hz | hz
        · exact hw z hz
        · rw [List.mem_singleton.mp hz]; exact hs5⟩
    · subst ea
      rw [List.length_map] at hl
      walk_at "go"
      refine p_L_size fun sz hsz H3 s3 => ?_
      have hd3 := s3 _ _ hd2
      walk_at "go"
      rename_i L4 H4 n4 p5 H5 n5
      refine qq ([kd, 1, sz] ++ ws) p5 H5 (by rw [List.length_append, hl]; rfl) (fun z hz => ?_) ((((n1.same.trans s).trans s3).trans n4.same).trans n5.same) ((((n1.same.trans s).trans s3).trans n4.same).free n5.free) (by rw [n5.at, List.map_append]; rfl)
      rcases List.mem_append.mp hz with hz | hz
      · simp only [List.mem_cons, List.not_mem_nil, or_false] at hz
        rcases hz with rfl | rfl | rfl
        · exact ⟨by omega, by omega⟩
        · exact ⟨by omega, by omega⟩
        · exact hsz
      · exact hw z hz
omit F in
theorem refs_not {ls : List Addr} (h : H P = some (.lst (ls.map V.ref))) : NotInts H P := fun ns hn z => by
  rw [h] at z
  have z := HO.lst.inj (Option.some.inj z)
  cases ns with
  | nil => exact hn rfl
  | cons x r =>
    cases ls with
    | nil => cases z
    | cons y u => exact nomatch (List.cons.inj z).1
omit F in
theorem RowsAt.push (h : RowsAt H P qs nds) (hp : H q = some (.lst (w.map V.int))) (hw : w ≠ []) (wr : Wr H P (.lst (qs.map V.ref ++ [.ref q])) H') : RowsAt H' P (qs ++ [q]) (nds ++ [w]) := by
  have nP := refs_not h.rr
  refine ⟨by rw [wr.at, List.map_append]; rfl, by simp [h.len], fun i p e => ?_⟩
  by_cases c : i < qs.length
  · rw [List.getElem?_append_left c] at e
    obtain ⟨row, f1, f2, f3⟩ := h.row i p e
    refine ⟨row, by rw [List.getElem?_append_left (by rw [← h.len]; exact c)]; exact f1, f2, wr.old (fun z => nP row f2 (z ▸ f3)) f3⟩
  · rw [List.getElem?_append_right (by omega)] at e
    have hi : i - qs.length < 1 := (List.getElem?_eq_some_iff.mp e).1
    rw [List.getElem?_append_right (by rw [← h.len]; omega), ← h.len]
    rw [show i - qs.length = 0 by omega] at e ⊢
    obtain rfl := Option.some.inj e
    exact ⟨w, rfl, hw, wr.old (fun z => nP w hw (z ▸ hp)) hp⟩
omit F in
theorem RowsAt.setR {j : Nat} (h : RowsAt H P qs nds) (hp : H q = some (.lst (w.map V.int))) (hw : w ≠ []) (wr : Wr H P (.lst ((qs.map V.ref).set j (.ref q))) H') : RowsAt H' P (qs.set j q) (nds.set j w) := by
  have nP := refs_not h.rr
  refine ⟨by rw [wr.at, List.map_set], by simp [h.len], fun i p e => ?_⟩
  by_cases c : j = i
  · subst c
    have l := (List.getElem?_eq_some_iff.mp e).1
    rw [List.length_set] at l
    rw [List.getElem?_set_self l] at e
    obtain rfl := Option.some.inj e
    exact ⟨w, by rw [List.getElem?_set_self (by rw [← h.len]; exact l)], hw, wr.old (fun z => nP w hw (z ▸ hp)) hp⟩
  · rw [List.getElem?_set_ne c] at e
    obtain ⟨row, f1, f2, f3⟩ := h.row i p e
    exact ⟨row, by rw [List.getElem?_set_ne c]; exact f1, f2, wr.old (fun z => nP row f2 (z ▸ f3)) f3⟩
theorem p_L_nodes (hL : LayAt a H l m t) (hm : 24 ≤ m ∧ m ≤ 96) (g : (da : Int) = 17 + (m + 16 - 1) / 16 + t) (ht : 1 ≤ t ∧ t ≤ 8) (room : (da : Int) < m) (hS : SqL K H script (ns.map V.int))
    (qq : ∀ (P : Addr) (qs : List Addr) (nds : List (List Int)) (H' : Hp), nds.length = 2 * t → (∀ w ∈ nds, w.length = 8 ∧ ∀ z ∈ w, OkW z) → Same H H' → H P = none → RowsAt H' P qs nds → Q (.ref P) H') : sp_L_nodes K a [.ref script, .ref l] H Q E := by
  refine in_L_nodes ?_
  unfold t_L_nodes
  obtain ⟨dl, el⟩ := id hL
  rw [← g] at el
  walk_at "go"
  rename_i z1 H1 n1 z2 H2 n2 P H3 n3
  rw [show (List.replicate (Int.toNat 8) [V.int 0]).flatten = (List.replicate 8 (0 : Int)).map V.int from rfl] at n2
  have s3 := (n1.same.trans n2.same).trans n3.same
  have fP : H P = none := (n1.same.trans n2.same).free n3.free
  have ok0 : ∀ w ∈ [List.replicate 8 (0 : Int)], w.length = 8 ∧ ∀ z ∈ w, OkW z := fun w hw => by
    rw [List.mem_singleton.mp hw]
    exact ⟨by simp, fun z hz => by rw [List.eq_of_mem_replicate hz]; exact ⟨by omega, by omega⟩⟩
  have hR3 : RowsAt H3 P [z2] [List.replicate 8 (0 : Int)] := ⟨n3.at, rfl, fun i p e => by
    cases i with
    | zero => obtain rfl := Option.some.inj e; exact ⟨_, rfl, by decide, n3.old n2.at⟩
    | succ i => simp at e⟩
  refine for_R (fun j σ' H' => ∃ v3 v4 v5 qk nk, σ' = [some (.ref script), some (.ref l), some (.ref P), v3, v4, v5] ∧ Chg [P] H3 H' ∧ RowsAt H' P qk nk ∧ nk.length = j + 1 ∧ ∀ w ∈ nk, w.length = 8 ∧ ∀ z ∈ w, OkW z) ⟨_, _, _, _, _, rfl, .refl, hR3, rfl, ok0⟩ ?_ ?_
  · rintro j σ' H4 hj ⟨v3, v4, v5, qk, nk, rfl, c4, hR, ln, ok⟩
    have s4 : Same H H4 := Same.chg s3 c4 fun b hb => by rw [List.mem_singleton.mp hb]; exact fP
    simp only [List.set_cons_zero, List.set_cons_succ]
    walk_at "go"
    refine p_cell_at (ns := ns) (s4.seq hS) (by omega) ?_
    walk_at "go"
    refine p_cell_at (ns := ns) (s4.seq hS) (by omega) ?_
    have el4 := s4 _ _ el
    have rr := hR.rr
    have lq := hR.len
    walk_at "go"
    refine p_L_words hm ⟨by omega, room⟩ fun w p H5 l8 ow s5 pn e5 => ?_
    have rr5 := s5 _ _ rr
    walk_at "go"
    rename_i H6 w6
    refine ⟨_, _, _, qk ++ [p], nk ++ [w], rfl, (c4.trans (.of s5)).trans (.wr w6 (by simp)), (hR.same s5).push e5 (fun z => by rw [z] at l8; cases l8) w6, by rw [List.length_append, ln]; rfl, fun v hv => ?_⟩
    rcases List.mem_append.mp hv with hv | hv
    · exact ok v hv
    · rw [List.mem_singleton.mp hv]; exact ⟨l8, ow⟩
  · rintro σ' H4 ⟨v3, v4, v5, qk, nk, rfl, c4, hR, ln, ok⟩
    have s4 : Same H H4 := Same.chg s3 c4 fun b hb => by rw [List.mem_singleton.mp hb]; exact fP
    walk_at "go"
    refine p_cell_at (ns := ns) (s4.seq hS) (by omega) ?_
    have el4 := s4 _ _ el
    have rr := hR.rr
    have lq := hR.len
    walk_at "go"
    refine go_dec (fun c5 => ?_) (fun c5 => ?_)
    · walk_at "go"
      rename_i p5 H5 n5 H6 w6
      have e5 : H5 p5 = some (.lst (([1, 1, 16, (da : Int), 0, 0, 0, 0] : List Int).map V.int)) := n5.at
      refine qq P _ _ H6 (by rw [List.length_set, ln]; omega) (fun w hw => ?_) (Same.chg (s4.trans n5.same) (.wr w6 (by simp) : Chg [P] H5 H6) fun b hb => by rw [List.mem_singleton.mp hb]; exact fP) fP ((hR.same n5.same).setR (j := 0) e5 (by simp) w6)
      rcases List.mem_or_eq_of_mem_set hw with hw | rfl
      · exact ok w hw
      · refine ⟨rfl, fun z hz => ?_⟩
        simp only [List.mem_cons, List.not_mem_nil, or_false] at hz
        rcases hz with rfl | rfl | rfl | rfl | rfl | rfl | rfl | rfl
        all_goals exact ⟨by omega, by omega⟩
    · walk_at "go"
      exact qq P qk nk H4 (by rw [ln]; omega) ok s4 fP hR
theorem p_L_written (hL : LayAt a H l m t) (hm : 24 ≤ m ∧ m ≤ 96) (hna : (na : Int) = 17 + (m + 16 - 1) / 16) (hda : da = na + t) (ht : 1 ≤ t ∧ t ≤ 8) (room : (da : Int) < m) (hS : SqL K H script (ns.map V.int)) (hN : RowsAt H N qs nds) (l2 : nds.length = 2 * t) (ok : ∀ w ∈ nds, w.length = 8 ∧ ∀ z ∈ w, OkW z)
    (qq : ∀ (d r : Addr) (R : List (List Int)) (done : Int) (H' : Hp), Same H H' → H d = none → H r = none → DkEx a [] H' d r R done none → (R.length : Int) = m → NodesR R nds na t → Q (.ref d) H') : sp_L_written K a [.ref script, .ref l, .ref N] H Q E := by
  refine in_L_written ?_
  unfold t_L_written
  have g : (da : Int) = 17 + (m + 16 - 1) / 16 + t := by omega
  obtain ⟨dl, el⟩ := id hL
  rw [← g] at el
  rw [← hna] at el
  walk_at "go"
  refine mk_Disk hm fun d r ps H3 s3 dn rn pn h3 => ?_
  have D3 : DkEx a [] H3 d r (List.replicate m.toNat (List.replicate 16 0)) 0 none := ⟨ps, h3, fun _ _ => by simp, fun t ht => by cases ht⟩
  have el3 := s3 _ _ el
  have rr := hN.rr
  have lq := hN.len
  have nN : N ∉ [d, r] := fun z => by
    simp only [List.mem_cons, List.not_mem_nil, or_false] at z
    rcases z with rfl | rfl
    · rw [rr] at dn; cases dn
    · rw [rr] at rn; cases rn
  have fr : ∀ b ∈ [d, r], H b = none := fun b hb => by
    simp only [List.mem_cons, List.not_mem_nil, or_false] at hb
    rcases hb with rfl | rfl
    · exact dn
    · exact rn
  walk_at "go"
  refine for_R (fun j σ' H' => ∃ v6 R' done, σ' = [some (.ref script), some (.ref l), some (.ref N), some (.int m), some (.int (da : Nat)), some (.ref d), v6, none, none, none] ∧ Chg [d, r] H3 H' ∧ DkEx a [] H' d r R' done none ∧ (R'.length : Int) = m ∧ ∀ k, k < j → R'[na + k]? = some (nds.getD (2 * k) [] ++ nds.getD (2 * k + 1) [])) ⟨_, _, _, rfl, .refl, D3, by simp; omega, fun k hk => absurd hk (by omega)⟩ ?_ ?_
  · rintro j σ' H4 hj ⟨v6, R', dn4, rfl, c4, D4, l4, o4⟩
    have s4 : Same H H4 := Same.chg s3 c4 fr
    have el4 := s4 _ _ el
    have hN4 := hN.same s4
    have hw : ∀ i, i < 2 * t → ∃ p, (qs.map V.ref)[i]? = some (.ref p) ∧ H4 p = some (.lst ((nds.getD i []).map V.int)) ∧ (nds.getD i []).length = 8 ∧ ∀ z ∈ nds.getD i [], OkW z := fun i hi => by
      have ep : qs[i]? = some (qs[i]'(by omega)) := List.getElem?_eq_getElem _
      obtain ⟨row, f1, f2, f3⟩ := hN4.row i _ ep
      have eg : nds.getD i [] = row := by rw [List.getD_eq_getElem?_getD, f1]; rfl
      exact ⟨_, by rw [List.getElem?_map, ep]; rfl, by rw [eg]; exact f3, by rw [eg]; exact (ok row (List.mem_of_getElem? f1)).1, by rw [eg]; exact (ok row (List.mem_of_getElem? f1)).2⟩
    obtain ⟨p1, a1, b1, c1, d1⟩ := hw (2 * j) (by omega)
    obtain ⟨p2, a2, b2, c2, d2⟩ := hw (2 * j + 1) (by omega)
    simp only [List.set_cons_zero, List.set_cons_succ]
    walk_at "go"
    refine go_methD D4 (fun _ _ _ => rfl) ?_
    walk_at "go"
    refine go_ixAt hN4.rr (by omega) (v := .ref p1) (by rw [show (2 * (0 + (j : Int))).toNat = 2 * j by omega]; exact a1) ?_
    walk_at "go"
    refine go_ixAt hN4.rr (by omega) (v := .ref p2) (by rw [show (2 * (0 + (j : Int)) + 1).toNat = 2 * j + 1 by omega]; exact a2) ?_
    walk_at "go"
    rename_i p5 H5 n5
    have e5 : H5 p5 = some (.lst ((nds.getD (2 * j) [] ++ nds.getD (2 * j + 1) []).map V.int)) := by rw [n5.at, List.map_append]
    refine p_writeF (D4.same n5.same) (by omega) (by omega) e5 ⟨by rw [List.length_append]; omega, fun z hz => (List.mem_append.mp hz).elim (d1 z) (d2 z)⟩ fun H6 c6 D6 => ?_
    walk_at "go"
    refine ⟨_, _, _, rfl, (c4.trans (.of n5.same)).trans c6, D6, by rw [List.length_set]; exact l4, fun k hk => ?_⟩
    rw [show ((na : Int) + (0 + (j : Int))).toNat = na + j by omega]
    by_cases ck : k = j
    · subst ck
      rw [List.getElem?_set_self (by omega)]
    · rw [List.getElem?_set_ne (by omega)]; exact o4 k (by omega)
  · rintro σ' H4 ⟨v6, R', dn4, rfl, c4, D4, l4, o4⟩
    walk_at "go"
    refine for_R (fun j σ' H' => ∃ v6 v7 v8 R' done, σ' = [some (.ref script), some (.ref l), some (.ref N), some (.int m), some (.int (da : Nat)), some (.ref d), v6, v7, v8, none] ∧ Chg [d, r] H3 H' ∧ DkEx a [] H' d r R' done none ∧ (R'.length : Int) = m ∧ ∀ k, k < t → R'[na + k]? = some (nds.getD (2 * k) [] ++ nds.getD (2 * k + 1) [])) ⟨_, _, _, _, _, rfl, c4, D4, l4, fun k hk => o4 k (by omega)⟩ ?_ ?_
    · rintro j σ' H5 hj ⟨v6, v7, v8, R5, dn5, rfl, c5, D5, l5, o5⟩
      have s5 : Same H H5 := Same.chg s3 c5 fr
      have hj' : (j : Int) < m - da ∧ j < 12 := by
        have : (j : Int) < (if m - (da : Int) < 12 then m - (da : Int) else 12) := by omega
        split at this <;> omega
      simp only [List.set_cons_zero, List.set_cons_succ]
      walk_at "go"
      refine p_cell_at (ns := ns) (s5.seq hS) (by omega) ?_
      walk_at "go"
      refine lc_genR (n := 16) (fun D acc H' => ∃ ws : List Int, acc = ws.map V.int ∧ ∀ z ∈ ws, OkW z) (by rw [sizeLine_eq]; omega) (fun D acc H' H'' h _ => h) (fun D H' _ _ => ⟨[], rfl, fun z hz => absurd hz List.not_mem_nil⟩) (fun D acc i H' Q' hD hi hl s hd ⟨ws, ea, hw⟩ kk => ?_) fun D vs H6 hD s hl ⟨ws, ea, hw⟩ hd2 => ?_
      · simp only [List.set_cons_zero, List.set_cons_succ]
        have hi5 : (i : Int) < 16 := by omega
        walk_at "go"
        refine p_L_block hm ⟨by omega, room⟩ fun s5 hs5 H5 s6 => ?_
        exact kk _ H5 s6 ⟨ws ++ [s5], by rw [ea, List.map_append]; rfl, fun z hz => by
          rcases List.mem_append.mp hz with hz | hz
          · exact hw z hz
          · rw [List.mem_singleton.mp hz]; exact hs5⟩
      · subst ea
        rw [List.length_map] at hl
        walk_at "go"
        refine go_methD (D5.same s) (fun _ _ _ => rfl) ?_
        walk_at "go"
        refine p_writeF (D5.same s) (by omega) (by omega) hd2 ⟨hl, hw⟩ fun H7 c7 D7 => ?_
        walk_at "go"
        refine ⟨_, _, _, _, _, rfl, (c5.trans (.of s)).trans c7, D7, by rw [List.length_set]; exact l5, fun k hk => ?_⟩
        rw [List.getElem?_set_ne (by omega)]; exact o5 k hk
    · rintro σ' H5 ⟨v6, v7, v8, R5, dn5, rfl, c5, D5, l5, o5⟩
      walk_at "go"
      exact qq d r R5 dn5 H5 (Same.chg s3 c5 fr) dn rn D5 l5 ⟨l2, o5, fun w hw => (ok w hw).1⟩
end

end Bk

namespace Bk
open PySem L2 PyProof.Rows
/-! our own short tactics: h: what stands at a place; ne: two places; sm: what stood stands; z: a size; s: a step; go: steps -/
local macro_rules | `(tactic| walk_at "h") => `(tactic| first
  | assumption
  | exact New.at (by assumption)
  | exact Wr.at (by assumption)
  | (refine' New.old (by assumption) ?_; walk_at "h")
  | (refine' Same.at (by assumption) ?_; walk_at "h")
  | (refine' Wr.old (by assumption) ?_ ?_; walk_at "ne"; walk_at "h")
  | (refine' Chg.at (by assumption) ?_ ?_; walk_at "ni"; walk_at "h"))
local macro_rules | `(tactic| walk_at "ni") => `(tactic| first
  | exact ni_nil
  | assumption
  | (refine' ni_cons ?_ ?_; walk_at "ne"; walk_at "ni"))
local macro_rules | `(tactic| walk_at "ne") => `(tactic| first
  | assumption
  | exact Ne.symm (by assumption)
  | exact New.ne (by assumption) (by walk_at "h")
  | exact ne_none (by assumption) (by walk_at "h")
  | exact Ne.symm (ne_none (by assumption) (by walk_at "h"))
  | exact Ne.symm (New.ne (by assumption) (by walk_at "h")))
local macro_rules | `(tactic| walk_at "sm") => `(tactic| first
  | exact Same.refl _
  | assumption
  | (refine' Same.trans ?_ (New.same (by assumption)); walk_at "sm")
  | (refine' Same.trans ?_ (by assumption : Same _ _); walk_at "sm"))
local macro_rules | `(tactic| walk_at "z") => `(tactic| first
  | assumption
  | (rw [PySem.sizeLine_eq]; omega)
  | (rw [PySem.sizeLine_eq]; simp only [List.length_cons, List.length_nil, List.length_append, List.length_map, List.length_range, List.length_replicate, len_cut]; omega)
  | (rw [PySem.sizeLine_eq]; simp only [List.length_cons, List.length_nil, List.length_append, List.length_map, List.length_range, List.length_replicate, len_cut] at *; omega))
local macro_rules | `(tactic| walk_at "s") => `(tactic| first
  | (refine' Step.go ?_)
  | ((with_reducible refine' go_var ?h ?_); (case h => exact rfl))
  | ((with_reducible refine' go_name2 ?h ?_); (case h => (simp only [List.set_cons_zero, List.set_cons_succ]; exact rfl)))
  | ((with_reducible refine' go_name2 ?h ?_); (case h => exact rfl))
  | (with_reducible refine' go_if ?_)
  | (with_reducible refine' iteT ?_)
  | (with_reducible refine' iteF ?_)
  | ((with_reducible refine' go_Td ?h ?_); (case h => walk_at "pr"))
  | ((with_reducible refine' go_Fd ?h ?_); (case h => walk_at "pr"))
  | ((with_reducible refine' go_Tn ?h ?_); (case h => walk_at "pr"))
  | ((with_reducible refine' go_Fn ?h ?_); (case h => walk_at "pr"))
  | ((with_reducible refine' go_T ?h ?_); (case h => (first | decide | assumption | exact rfl)))
  | ((with_reducible refine' go_F ?h ?_); (case h => (first | decide | assumption | exact rfl)))
  | ((with_reducible refine' go_LstK ?h ?_); (case h => walk_at "z"); intro p H1 n1)
  | ((with_reducible refine' go_TupK ?h ?_); (case h => walk_at "z"); intro p H1 n1)
  | ((with_reducible refine' go_addL ?h ?k ?z ?_); (case h => walk_at "h"); (case k => walk_at "h"); (case z => walk_at "z"); intro p H1 n1)
  | ((with_reducible refine' go_mulI ?h ?_); (case h => (unfold CMul; omega)))
  | ((with_reducible refine' go_mulL ?h ?k ?_); (case h => walk_at "h"); (case k => (refine ⟨by omega, by omega, ?_⟩; walk_at "z")); intro p H1 n1)
  | ((with_reducible refine' go_div ?h ?_); (case h => (unfold CDiv; omega)))
  | ((with_reducible refine' go_mod ?h ?_); (case h => omega))
  | ((with_reducible refine' go_pow ?h ?_); (case h => (unfold CPow; omega)))
  | ((with_reducible refine' go_slL ?h ?_); (case h => walk_at "h"); intro p H1 n1)
  | ((with_reducible refine' go_ixL ?h ?k ?_); (case h => walk_at "h"); (case k => exact rfl))
  | ((with_reducible refine' go_ixT ?h ?k ?_); (case h => walk_at "h"); (case k => exact rfl))
  | ((with_reducible refine' go_slW ?h ?_); (case h => walk_at "h"))
  | ((with_reducible refine' go_bmL ?h ?_); (case h => walk_at "h"))
  | ((with_reducible refine' go_append ?h ?k ?_); (case h => walk_at "h"); (case k => walk_at "z"); intro H1 n1)
  | ((with_reducible refine' go_extend ?h ?k ?z ?_); (case h => walk_at "h"); (case k => walk_at "h"); (case z => walk_at "z"); intro H1 n1)
  | ((with_reducible refine' go_clear ?h ?_); (case h => walk_at "h"); intro H1 n1)
  | ((with_reducible refine' go_dnew ?_); intro p H1 n1)
  | ((with_reducible refine' go_lenL ?h ?_); (case h => walk_at "h"))
  | ((with_reducible refine' go_lenT ?h ?_); (case h => walk_at "h"))
  | ((with_reducible refine' go_lenK ?h ?_); (case h => walk_at "hk"))
  | ((with_reducible refine' go_listL ?h ?_); (case h => walk_at "h"); intro p H1 n1)
  | ((with_reducible refine' go_listT ?h ?_); (case h => walk_at "h"); intro p H1 n1)
  | ((with_reducible refine' go_tupleL ?h ?_); (case h => walk_at "h"); intro p H1 n1)
  | ((with_reducible refine' go_isi ?h ?k ?_); (case h => walk_at "ty"); (case k => exact kit_bb (by decide) (by decide)))
  | ((with_reducible refine' go_seqL ?h ?_); (case h => walk_at "h"))
  | ((with_reducible refine' go_seqT ?h ?_); (case h => walk_at "h"))
  | ((with_reducible refine' go_rng1K ?h ?_); (case h => omega))
  | ((with_reducible refine' go_rng2K ?h ?_); (case h => omega))
  | (with_reducible refine' go_raise ?_)
  | ((with_reducible refine' go_tupG ?h ?k ?_); (case h => walk_at "h"); (case k => exact rfl))
  | ((with_reducible refine' go_lstG ?h ?k ?_); (case h => walk_at "h"); (case k => exact rfl))
  | (with_reducible refine' go_tryAs ?_)
  | ((with_reducible refine' go_asT ?_); intro e he)
  | (with_reducible refine' go_asF ?_)
  | ((with_reducible refine' go_manyT ?_); intro e he)
  | (with_reducible refine' go_manyF ?_)
  | ((with_reducible refine' go_FldK ?h ?c ?n ?l ?_); (case h => walk_at "h"); (case c => infer_instance); (case n => infer_instance); (case l => exact rfl))
  | ((with_reducible refine' go_SFldK ?h ?c ?n ?l ?e ?_); (case h => walk_at "h"); (case c => infer_instance); (case n => infer_instance); (case l => exact Nat.le_of_ble_eq_true rfl); (case e => walk_at "pf"); intro H1 n1)
  | ((with_reducible refine' go_MethK 0 ?h ?l ?e ?_); (case h => walk_at "h"); (case l => exact rfl); (case e => exact rfl))
  | ((with_reducible refine' go_MethK 1 ?h ?l ?e ?_); (case h => walk_at "h"); (case l => exact rfl); (case e => exact rfl))
  | ((with_reducible refine' go_MethK 2 ?h ?l ?e ?_); (case h => walk_at "h"); (case l => exact rfl); (case e => exact rfl))
  | ((with_reducible refine' go_MethXK ?h ?l ?_); (case h => walk_at "h"); (case l => exact rfl))
  | ((with_reducible refine' go_DGetS ?h ?l ?_); (case h => walk_at "h"); (case l => exact rfl))
  | ((with_reducible refine' go_DPutS ?h ?l ?e ?_); (case h => walk_at "h"); (case l => exact Nat.le_of_ble_eq_true rfl); (case e => walk_at "pk"); intro H1 n1)
  | ((with_reducible refine' go_disp ?_); intro p H1 n1)
  | ((with_reducible refine' go_DispS ?h ?e ?l ?k ?j ?m ?_); (case h => walk_at "h"); (case e => exact rfl); (case l => exact Nat.le_of_ble_eq_true rfl); (case k => (simp only [unS]; exact rfl)); (case j => (simp only [List.map_cons, List.map_nil]; exact rfl)); (case m => decide +kernel); intro H1 n1)
  | ((with_reducible refine' go_ParK ?h ?_); (case h => (simp only [List.set_cons_zero, List.set_cons_succ]; exact rfl)))
  | ((with_reducible refine' go_setLi ?h ?k ?_); (case h => walk_at "h"); (case k => walk_at "ix"); intro H1 n1)
  | ((with_reducible refine' go_listYL ?h ?_); (case h => walk_at "h"))
  | ((with_reducible refine' go_maxD ?h ?_); (case h => walk_at "h"))
  | ((with_reducible refine' go_ListRK ?h ?_); (case h => omega); intro p H1 n1)
  | ((with_reducible refine' go_EnumL ?h ?_); (case h => walk_at "h"))
  | (with_reducible refine' go_isX ?_)
  | (with_reducible refine' go_isXt ?_)
  | ((with_reducible refine' go_DInI ?h ?_); (case h => walk_at "h"))
  | ((with_reducible refine' go_DNotInI ?h ?_); (case h => walk_at "h"))
  | ((with_reducible refine' go_DGet2K ?h ?_); (case h => walk_at "h"))
  | ((with_reducible refine' go_eqDE ?h ?k ?_); (case h => walk_at "h"); (case k => walk_at "h"))
  | ((with_reducible refine' go_neDE ?h ?k ?_); (case h => walk_at "h"); (case k => walk_at "h"))
  | ((with_reducible refine' go_insert ?h ?k ?l ?m ?_); (case h => walk_at "h"); (case k => walk_at "z"); (case l => omega); (case m => omega); intro H1 n1)
  | ((with_reducible refine' go_dnewT ?_); intro p H1 n1)
  | ((with_reducible refine' go_LstRevK ?h ?_); (case h => walk_at "h"); intro p H1 n1)
  | (with_reducible refine' go_gCons ?_))
local macro_rules | `(tactic| walk_at "pf") => `(tactic| first
  | exact putF_nil
  | exact putF_hit
  | (refine' putF_miss ?h ?k; (case h => decide +kernel); (case k => walk_at "pf")))
local macro_rules | `(tactic| walk_at "pk") => `(tactic| first
  | exact putK_nil
  | exact putK_hit (by (simp only [List.map_cons, List.map_nil]; decide +kernel))
  | (refine' putK_miss ?h ?k; (case h => decide +kernel); (case k => walk_at "pk")))
local macro_rules | `(tactic| walk_at "ix") => `(tactic| first
  | assumption
  | omega
  | (simp only [List.length_cons, List.length_nil, List.length_append, List.length_map, List.length_range, List.length_replicate, List.length_set] at *; omega))
local macro_rules | `(tactic| walk_at "pr") => `(tactic| first
  | assumption
  | decide
  | omega
  | exact rfl
  | (intro z; cases z; done))
local macro_rules | `(tactic| walk_at "hk") => `(tactic| first
  | assumption
  | exact seq' (by assumption) (by walk_at "sm"))
local macro_rules | `(tactic| walk_at "ty") => `(tactic| first
  | exact rfl
  | assumption
  | exact tyN_L (by walk_at "h")
  | exact tyN_T (by walk_at "h")
  | exact tyN_D (by walk_at "h"))
local macro_rules | `(tactic| walk_at "go") => `(tactic| repeat (walk_at "s"))
/-! ### k23: told, twice -/
theorem go_popL {H : Hp} {Q : VK} {l : Addr} {xs : List V} {y : V} (h : H l = some (.lst (xs ++ [y]))) (q : ∀ H1, Wr H l (.lst xs) H1 → Q y H1) : rPop (.ref l) [] H Q := by
  refine ⟨l, _, y, rfl, rfl, h, by simp, wr_of h fun H1 w => q H1 ?_⟩
  rw [List.dropLast_concat] at w
  exact w
theorem row_low {row : List (List Key)} (h : RowOk row) : ∀ k ∈ row, LowK k := fun k hk => by
  rcases h with rfl | ⟨es, rfl⟩
  · rw [List.mem_singleton.mp hk]
    intro z hz c hc
    have : z = ("kept" : Str) := by
      unfold keptK at hz
      simpa using hz
    subst this
    have : ∀ c ∈ ("kept" : Str).cps.toList, c < 1000 := by decide +kernel
    exact this c hc
  · obtain ⟨e, _, rfl⟩ := List.mem_map.mp hk
    intro z hz
    unfold pk at hz
    simp at hz
theorem rows_low {da m : Nat} {L : List NPB} (hL : DatL da m L) (h : da ≤ m) : ∀ row ∈ addsU L (init0 da m), ∀ k ∈ row, LowK k := fun row hr => by
  obtain ⟨i, hi⟩ := List.mem_iff_getElem?.mp hr
  have e : (addsU L (init0 da m)).getD i [] = row := by rw [List.getD_eq_getElem?_getD, hi]; rfl
  rw [← e]
  exact row_low (row_ok hL h)
/-- what was told, and its copy -/
def HeldOne (H : Hp) (HL T : Addr) : Prop := ∃ (A C : Addr) (qa qc : List Addr) (rows : List (List (List Key))), H T = some (.tup [.ref A, .ref C]) ∧ FD H A qa rows ∧ FD H C qc rows ∧ (∀ row ∈ rows, ∀ k ∈ row, LowK k) ∧ A ≠ HL ∧ C ≠ HL ∧ HL ∉ qa ∧ HL ∉ qc
theorem HeldOne.chg {H H' : Hp} {HL T : Addr} (h : HeldOne H HL T) (c : Chg [HL] H H') (o : NotTup H HL) : HeldOne H' HL T := by
  obtain ⟨A, C, qa, qc, rows, e, f1, f2, lo, n1, n2, n3, n4⟩ := h
  have o' : ∀ t ∈ [HL], NotTup H t := fun t ht => by rw [List.mem_singleton.mp ht]; exact o
  exact ⟨A, C, qa, qc, rows, c.at (fun z => o' T z _ e) e, f1.chg c (by simpa using n1) (fun q hq z => n3 (by rw [← List.mem_singleton.mp z]; exact hq)) o', f2.chg c (by simpa using n2) (fun q hq z => n4 (by rw [← List.mem_singleton.mp z]; exact hq)) o', lo, n1, n2, n3, n4⟩
structure HdAt (H : Hp) (HL : Addr) (ts : List Addr) : Prop where
  hh : H HL = some (.lst (ts.map V.ref))
  one : ∀ T ∈ ts, HeldOne H HL T
theorem HdAt.same {H H' : Hp} {HL : Addr} {ts : List Addr} (h : HdAt H HL ts) (s : Same H H') : HdAt H' HL ts := ⟨s _ _ h.hh, fun T hT => (h.one T hT).chg (.of s) (.lst h.hh)⟩
section
variable {K : PySem.W.Frag} {a : Ac} {H0 H H' : Hp} {Q : VK} {E : XK} [F : Fc K a] {d r l q P N HL : Addr} {R nds : List (List Int)} {done m : Int} {t na da n : Nat} {w ns : List Int} {x : Int} {qs ts : List Addr}
omit F in
theorem p_L_is_sound (h : H q = some (.lst (w.map V.int))) (l8 : w.length = 8) (k : ∀ H', Same H H' → Q (.bl (soundL x w)) H') : sp_L_is_sound K a [.int x, .ref q] H Q E := by
  refine in_L_is_sound ?_
  unfold t_L_is_sound
  unfold soundL at k
  walk_at "go"
  refine go_dec (fun c => ?_) (fun c => ?_)
  · rw [decide_eq_true c, Bool.true_or, Bool.not_true, Bool.false_and] at k
    walk_at "go"
    exact k H (Same.refl _)
  rw [decide_eq_false c, Bool.false_or] at k
  walk_at "go"
  refine go_wd 0 h rfl (by omega) ?_
  walk_at "go"
  rename_i T H1 n1
  have h1 := n1.old h
  refine go_notInInts (ns := [1, 2]) n1.at ?_
  walk_at "go"
  refine go_decN (fun c1 => ?_) (fun c1 => ?_)
  · rw [decide_eq_false c1, Bool.not_false, Bool.true_or, Bool.not_true, Bool.false_and] at k
    walk_at "go"
    exact k H1 n1.same
  rw [decide_eq_true c1, Bool.not_true, Bool.false_or] at k
  have rest : (decide (x = 1) && decide (wd w 0 = 1)) = false → (tRet (tAndV (tOp rLeP (tOp (rIxP K) (tVar 1) (tC (.int 2))) (tC (.int 320))) (tOrV (tOp (rEqP K) (tOp (rIxP K) (tVar 1) (tC (.int 0))) (tC (.int 1))) (tOp (rEqP K) (tOp rModP (tOp (rIxP K) (tVar 1) (tC (.int 2))) (tC (.int 4))) (tC (.int 0)))))) ⟨fun _ H' => Q .non H', Q, F0, F0⟩ [some (.int x), some (.ref q)] H1 := fun z => by
    rw [z, Bool.not_false, Bool.true_and] at k
    walk_at "go"
    refine go_wd 2 h1 rfl (by omega) ?_
    walk_at "go"
    refine go_dec (fun c3 => ?_) (fun c3 => ?_)
    rotate_left
    · rw [decide_eq_false c3, Bool.false_and] at k
      walk_at "go"
      exact k H1 n1.same
    rw [decide_eq_true c3, Bool.true_and] at k
    walk_at "go"
    refine go_wd 0 h1 rfl (by omega) ?_
    walk_at "go"
    refine go_dec (fun c4 => ?_) (fun c4 => ?_)
    · rw [decide_eq_true c4, Bool.true_or] at k
      walk_at "go"
      exact k H1 n1.same
    rw [decide_eq_false c4, Bool.false_or] at k
    walk_at "go"
    refine go_wd 2 h1 rfl (by omega) ?_
    walk_at "go"
    exact k H1 n1.same
  walk_at "go"
  refine go_dec (fun c2 => ?_) (fun c2 => ?_)
  · walk_at "go"
    refine go_wd 0 h1 rfl (by omega) ?_
    walk_at "go"
    refine go_dec (fun c3 => ?_) (fun c3 => ?_)
    · rw [decide_eq_true c2, decide_eq_true c3, Bool.true_and, Bool.not_true, Bool.false_and] at k
      walk_at "go"
      exact k H1 n1.same
    · have rest := rest (by rw [decide_eq_false c3, Bool.and_false])
      repeat (first | exact rest | walk_at "s")
  · have rest := rest (by rw [decide_eq_false c2, Bool.false_and])
    repeat (first | exact rest | walk_at "s")
theorem p_L_places (D0 : DkEx a [] H d r R done none) (lR : (R.length : Int) = m) (hd0 : 0 ≤ (da : Int)) (h : H q = some (.lst (w.map V.int))) (l8 : w.length = 8) (w2 : wd w 2 ≤ 320 ∧ 0 ≤ wd w 2)
    (k : ∀ P H', Same H H' → H P = none → LK H' P ((placesL R da m w).map pk) → Q (.ref P) H') : sp_L_places K a [.ref d, .ref q, .int m, .int (da : Nat)] H Q E := by
  refine in_L_places ?_
  unfold t_L_places
  have wb : 0 ≤ wantB w ∧ wantB w ≤ 20 := by unfold wantB; omega
  have ew : (wd w 2 + 15) / 16 = wantB w := by unfold wantB; omega
  walk_at "go"
  refine go_wd 2 h rfl (by omega) ?_
  walk_at "go"
  rw [ew]
  have finL : ∀ (P : Addr) (H1 : Hp) (v6 : Option V), Same H H1 → LK H1 P ((rawL R da m w).map pk) → LcK (gName 8) (tTest (tChain rLeP rLtP (tVar 3) (tOp (rIxP K) (tVar 8) (tC (.int 1))) (tVar 2))) (tVar 8) [8] [some (.ref d), some (.ref q), some (.int m), some (.int (da : Nat)), some (.int (wantB w)), some (.ref P), v6, none, none] Q (Itl K P) H1 := by
    intro P H1 v6 s1 hl
    obtain ⟨us, eu, ku⟩ := id hl
    have lu := kyT_len ku
    have pl : (rawL R da m w).length ≤ 21 := by rw [raw_perm.length_eq]; exact places_len w2.1
    refine lc_lkF (pp := fun kk => match kk with | [.inl _, .inl b] => isDat da m b | _ => false) hl (by rw [List.length_map]; omega) (fun kk t H' QB hk s et c => ?_) (fun t H' Q' c => ?_) fun D H2 hD s2 hl2 => ?_
    · obtain ⟨e, _, rfl⟩ := List.mem_map.mp hk
      have et : H' t = some (.tup [.int e.1, .int e.2]) := et
      have c : QB (isDat da m e.2) H' := c
      unfold isDat at c
      simp only [List.set_cons_zero, List.set_cons_succ]
      walk_at "go"
      refine go_dec (fun c1 => ?_) (fun c1 => ?_)
      · rw [decide_eq_true c1, Bool.true_and] at c
        walk_at "go"
        exact c
      · rw [decide_eq_false c1, Bool.false_and] at c
        walk_at "go"
        exact c
    · simp only [List.set_cons_zero, List.set_cons_succ]
      walk_at "go"
      exact c
    · refine k D H2 (s1.trans s2) (s1.free hD) ?_
      have ef : ((rawL R da m w).map pk).filter (fun kk => match kk with | [.inl _, .inl b] => isDat da m b | _ => false) = (placesL R da m w).map pk := by
        unfold placesL
        rw [List.filter_map]
        rfl
      rw [ef] at hl2
      exact hl2
  have fin : ∀ (P : Addr) (H1 : Hp) (v5 v6 : Option V), Same H H1 → LK H1 P ((rawL R da m w).map pk) → v5 = some (.ref P) → (tRet (tLc (iSeqP K (tVar 5)) (gName 8) (tTest (tChain rLeP rLtP (tVar 3) (tOp (rIxP K) (tVar 8) (tC (.int 1))) (tVar 2))) (tVar 8) [8])) ⟨fun _ H' => Q .non H', Q, F0, F0⟩ [some (.ref d), some (.ref q), some (.int m), some (.int (da : Nat)), some (.int (wantB w)), v5, v6, none, none] H1 := by
    intro P H1 v5 v6 s1 hl e5
    subst e5
    obtain ⟨us, eu, ku⟩ := id hl
    walk_at "go"
    exact finL P H1 v6 s1 hl
  refine lc_lkR (n := 4) (ks := fun i => pk ((i : Nat), wd w (3 + i))) (p := fun i => decide ((i : Int) < wantB w)) (by omega) (fun i H' QB hi s kk => ?_) (fun i H' Q' hi _ s kk => ?_) fun D1 H1 hD s1 hl => ?_
  · simp only [List.set_cons_zero, List.set_cons_succ]
    walk_at "go"
    rw [Int.zero_add]
    exact kk
  · simp only [List.set_cons_zero, List.set_cons_succ]
    walk_at "go"
    refine go_wd (3 + i) (s _ _ h) (by omega) (by omega) ?_
    walk_at "go"
    rename_i T2 H2 n2
    exact kk T2 H2 n2.same n2.free (by rw [n2.at, Int.zero_add]; rfl)
  have er : ((List.range 4).filter fun i : Nat => decide ((i : Int) < wantB w)) = List.range (min 4 (wantB w)).toNat := by
    obtain ⟨b, hb⟩ : ∃ b : Nat, wantB w = b := ⟨(wantB w).toNat, by omega⟩
    rw [hb]
    have : b = 0 ∨ b = 1 ∨ b = 2 ∨ b = 3 ∨ 4 ≤ b := by omega
    rcases this with rfl | rfl | rfl | rfl | hb4
    · decide
    · decide
    · decide
    · decide
    · rw [show (min 4 (b : Int)).toNat = 4 by omega]
      refine List.filter_eq_self.mpr fun i hi => ?_
      have := List.mem_range.mp hi
      simp; omega
  rw [er] at hl
  have hl1 : LK H1 D1 ((nearP w (min 4 (wantB w)).toNat).map pk) := by
    unfold nearP
    rw [List.map_map]; exact hl
  clear hl
  walk_at "go"
  refine go_dec (fun c4 => ?_) (fun c4 => ?_)
  rotate_left
  · have f1 := fin D1 H1 _ none s1 (by
      unfold rawL
      rw [if_neg (by omega), if_neg (by omega), List.nil_append, List.append_nil]
      exact hl1) rfl
    repeat (first | exact f1 | walk_at "s")
  obtain ⟨us, e1, kt⟩ := hl1
  have ll := kyT_len kt
  rw [List.length_map] at ll
  have ln : (nearP w (min 4 (wantB w)).toNat).length = 4 := by
    unfold nearP
    rw [List.length_map, List.length_range]; omega
  have hq1 := s1 _ _ h
  walk_at "go"
  refine go_wd 7 hq1 rfl (by omega) ?_
  walk_at "go"
  rename_i T2 H2 n2 L3 H3 n3 D4 H4 n4
  have s04 := ((s1.trans n2.same).trans n3.same).trans n4.same
  have kt4 : KyT H4 (pk (-1, wd w 7) :: (nearP w (min 4 (wantB w)).toNat).map pk) (T2 :: us) := .cons (n4.old (n3.old n2.at)) (kyT_chg kt (.of ((n2.same.trans n3.same).trans n4.same) : Chg [] H1 H4) fun _ z => absurd z List.not_mem_nil)
  have e4 : H4 D4 = some (.lst ((T2 :: us).map V.ref)) := n4.at
  have hq4 := s04 _ _ h
  refine go_wd 7 hq4 rfl (by omega) ?_
  walk_at "go"
  have noF : isDat da m (wd w 7) = false → rawL R da m w = (-1, wd w 7) :: nearP w (min 4 (wantB w)).toNat := fun z => by
    unfold rawL
    rw [if_pos (by omega), if_pos (by omega), z, if_neg (by decide), List.append_nil]; rfl
  refine go_dec (fun c5 => ?_) (fun c5 => ?_)
  rotate_left
  · have f1 := fin D4 H4 _ none s04 (by
      rw [noF (by unfold isDat; rw [decide_eq_false c5, Bool.false_and])]
      exact ⟨_, e4, kt4⟩) rfl
    repeat (first | exact f1 | walk_at "s")
  walk_at "go"
  refine go_dec (fun c6 => ?_) (fun c6 => ?_)
  rotate_left
  · have f1 := fin D4 H4 _ none s04 (by
      rw [noF (by unfold isDat; rw [decide_eq_false c6, Bool.and_false])]
      exact ⟨_, e4, kt4⟩) rfl
    repeat (first | exact f1 | walk_at "s")
  have D4' := D0.same s04
  have hd : isDat da m (wd w 7) = true := by unfold isDat; rw [decide_eq_true c5, decide_eq_true c6]; rfl
  obtain ⟨row, er2⟩ : ∃ row, R[(wd w 7).toNat]? = some row := ⟨_, List.getElem?_eq_getElem (by omega)⟩
  have lrow := (D4'.good row (List.mem_of_getElem? er2)).1
  walk_at "go"
  refine go_methD D4' (fun _ _ _ => rfl) ?_
  walk_at "go"
  refine go_wd 7 hq4 rfl (by omega) ?_
  walk_at "go"
  refine p_readE D4' (by omega) er2 fun p5 H5 s5 pn5 e5 => ?_
  walk_at "go"
  refine lc_lkR (ks := fun i => pk ((4 + i : Nat), wd row i)) (p := fun _ => true) (by omega) (fun i H' QB hi s kk => kk) (fun i H' Q' hi _ s kk => ?_) fun D6 H6 hD6 s6 hl6 => ?_
  · simp only [List.set_cons_zero, List.set_cons_succ]
    walk_at "go"
    refine go_wd i (s _ _ e5) (by omega) (by omega) ?_
    walk_at "go"
    rename_i T7 H7 n7
    exact kk T7 H7 n7.same n7.free (by rw [n7.at]; show some (HO.tup [V.int (4 + (i : Int)), V.int (wd row i)]) = some (HO.tup [V.int ((4 + i : Nat) : Int), V.int (wd row i)]); rw [show (4 + (i : Int)) = ((4 + i : Nat) : Int) by omega])
  rw [range_true] at hl6
  obtain ⟨us6, e6, ku6⟩ := hl6
  have lu6 := kyT_len ku6
  rw [List.length_map, List.length_range] at lu6
  have e46 := s6 _ _ (s5 _ _ e4)
  have kt6 := kyT_chg kt4 (.of (s5.trans s6) : Chg [] H4 H6) fun _ z => absurd z List.not_mem_nil
  have lus : (T2 :: us).length = 5 := by rw [List.length_cons]; omega
  walk_at "go"
  rename_i D7 H7 n7
  exact finL D7 H7 (some (.ref p5)) (((s04.trans s5).trans s6).trans n7.same) (by
    have ep : (rawL R da m w).map pk = (pk (-1, wd w 7) :: (nearP w (min 4 (wantB w)).toNat).map pk) ++ (List.range (wantB w - 4).toNat).map fun i => pk ((4 + i : Nat), wd row i) := by
      unfold rawL farP
      rw [if_pos (by omega), if_pos (by omega), hd, if_pos rfl, List.getD_eq_getElem?_getD, er2]
      simp [List.map_map, Function.comp_def]
    rw [ep]
    exact ⟨(T2 :: us) ++ us6, by rw [n7.at, List.map_append], kyT_app (kyT_chg kt6 (.of n7.same : Chg [] H6 H7) fun _ z => absurd z List.not_mem_nil) (kyT_chg ku6 (.of n7.same : Chg [] H6 H7) fun _ z => absurd z List.not_mem_nil)⟩)
end

end Bk

namespace Bk
open PySem L2 PyProof.Rows
/-! our own short tactics: h: what stands at a place; ne: two places; sm: what stood stands; z: a size; s: a step; go: steps -/
local macro_rules | `(tactic| walk_at "h") => `(tactic| first
  | assumption
  | exact New.at (by assumption)
  | exact Wr.at (by assumption)
  | (refine' New.old (by assumption) ?_; walk_at "h")
  | (refine' Same.at (by assumption) ?_; walk_at "h")
  | (refine' Wr.old (by assumption) ?_ ?_; walk_at "ne"; walk_at "h")
  | (refine' Chg.at (by assumption) ?_ ?_; walk_at "ni"; walk_at "h"))
local macro_rules | `(tactic| walk_at "ni") => `(tactic| first
  | exact ni_nil
  | assumption
  | (refine' ni_cons ?_ ?_; walk_at "ne"; walk_at "ni"))
local macro_rules | `(tactic| walk_at "ne") => `(tactic| first
  | assumption
  | exact Ne.symm (by assumption)
  | exact New.ne (by assumption) (by walk_at "h")
  | exact ne_none (by assumption) (by walk_at "h")
  | exact Ne.symm (ne_none (by assumption) (by walk_at "h"))
  | exact Ne.symm (New.ne (by assumption) (by walk_at "h")))
local macro_rules | `(tactic| walk_at "sm") => `(tactic| first
  | exact Same.refl _
  | assumption
  | (refine' Same.trans ?_ (New.same (by assumption)); walk_at "sm")
  | (refine' Same.trans ?_ (by assumption : Same _ _); walk_at "sm"))
local macro_rules | `(tactic| walk_at "z") => `(tactic| first
  | assumption
  | (rw [PySem.sizeLine_eq]; omega)
  | (rw [PySem.sizeLine_eq]; simp only [List.length_cons, List.length_nil, List.length_append, List.length_map, List.length_range, List.length_replicate, len_cut]; omega)
  | (rw [PySem.sizeLine_eq]; simp only [List.length_cons, List.length_nil, List.length_append, List.length_map, List.length_range, List.length_replicate, len_cut] at *; omega))
local macro_rules | `(tactic| walk_at "s") => `(tactic| first
  | (refine' Step.go ?_)
  | ((with_reducible refine' go_var ?h ?_); (case h => exact rfl))
  | ((with_reducible refine' go_name2 ?h ?_); (case h => (simp only [List.set_cons_zero, List.set_cons_succ]; exact rfl)))
  | ((with_reducible refine' go_name2 ?h ?_); (case h => exact rfl))
  | (with_reducible refine' go_if ?_)
  | (with_reducible refine' iteT ?_)
  | (with_reducible refine' iteF ?_)
  | ((with_reducible refine' go_Td ?h ?_); (case h => walk_at "pr"))
  | ((with_reducible refine' go_Fd ?h ?_); (case h => walk_at "pr"))
  | ((with_reducible refine' go_Tn ?h ?_); (case h => walk_at "pr"))
  | ((with_reducible refine' go_Fn ?h ?_); (case h => walk_at "pr"))
  | ((with_reducible refine' go_T ?h ?_); (case h => (first | decide | assumption | exact rfl)))
  | ((with_reducible refine' go_F ?h ?_); (case h => (first | decide | assumption | exact rfl)))
  | ((with_reducible refine' go_LstK ?h ?_); (case h => walk_at "z"); intro p H1 n1)
  | ((with_reducible refine' go_TupK ?h ?_); (case h => walk_at "z"); intro p H1 n1)
  | ((with_reducible refine' go_addL ?h ?k ?z ?_); (case h => walk_at "h"); (case k => walk_at "h"); (case z => walk_at "z"); intro p H1 n1)
  | ((with_reducible refine' go_mulI ?h ?_); (case h => (unfold CMul; omega)))
  | ((with_reducible refine' go_mulL ?h ?k ?_); (case h => walk_at "h"); (case k => (refine ⟨by omega, by omega, ?_⟩; walk_at "z")); intro p H1 n1)
  | ((with_reducible refine' go_div ?h ?_); (case h => (unfold CDiv; omega)))
  | ((with_reducible refine' go_mod ?h ?_); (case h => omega))
  | ((with_reducible refine' go_pow ?h ?_); (case h => (unfold CPow; omega)))
  | ((with_reducible refine' go_slL ?h ?_); (case h => walk_at "h"); intro p H1 n1)
  | ((with_reducible refine' go_ixL ?h ?k ?_); (case h => walk_at "h"); (case k => exact rfl))
  | ((with_reducible refine' go_ixT ?h ?k ?_); (case h => walk_at "h"); (case k => exact rfl))
  | ((with_reducible refine' go_slW ?h ?_); (case h => walk_at "h"))
  | ((with_reducible refine' go_bmL ?h ?_); (case h => walk_at "h"))
  | ((with_reducible refine' go_append ?h ?k ?_); (case h => walk_at "h"); (case k => walk_at "z"); intro H1 n1)
  | ((with_reducible refine' go_extend ?h ?k ?z ?_); (case h => walk_at "h"); (case k => walk_at "h"); (case z => walk_at "z"); intro H1 n1)
  | ((with_reducible refine' go_clear ?h ?_); (case h => walk_at "h"); intro H1 n1)
  | ((with_reducible refine' go_dnew ?_); intro p H1 n1)
  | ((with_reducible refine' go_lenL ?h ?_); (case h => walk_at "h"))
  | ((with_reducible refine' go_lenT ?h ?_); (case h => walk_at "h"))
  | ((with_reducible refine' go_lenK ?h ?_); (case h => walk_at "hk"))
  | ((with_reducible refine' go_listL ?h ?_); (case h => walk_at "h"); intro p H1 n1)
  | ((with_reducible refine' go_listT ?h ?_); (case h => walk_at "h"); intro p H1 n1)
  | ((with_reducible refine' go_tupleL ?h ?_); (case h => walk_at "h"); intro p H1 n1)
  | ((with_reducible refine' go_isi ?h ?k ?_); (case h => walk_at "ty"); (case k => exact kit_bb (by decide) (by decide)))
  | ((with_reducible refine' go_seqL ?h ?_); (case h => walk_at "h"))
  | ((with_reducible refine' go_seqT ?h ?_); (case h => walk_at "h"))
  | ((with_reducible refine' go_rng1K ?h ?_); (case h => omega))
  | ((with_reducible refine' go_rng2K ?h ?_); (case h => omega))
  | (with_reducible refine' go_raise ?_)
  | ((with_reducible refine' go_tupG ?h ?k ?_); (case h => walk_at "h"); (case k => exact rfl))
  | ((with_reducible refine' go_lstG ?h ?k ?_); (case h => walk_at "h"); (case k => exact rfl))
  | (with_reducible refine' go_tryAs ?_)
  | ((with_reducible refine' go_asT ?_); intro e he)
  | (with_reducible refine' go_asF ?_)
  | ((with_reducible refine' go_manyT ?_); intro e he)
  | (with_reducible refine' go_manyF ?_)
  | ((with_reducible refine' go_FldK ?h ?c ?n ?l ?_); (case h => walk_at "h"); (case c => infer_instance); (case n => infer_instance); (case l => exact rfl))
  | ((with_reducible refine' go_SFldK ?h ?c ?n ?l ?e ?_); (case h => walk_at "h"); (case c => infer_instance); (case n => infer_instance); (case l => exact Nat.le_of_ble_eq_true rfl); (case e => walk_at "pf"); intro H1 n1)
  | ((with_reducible refine' go_MethK 0 ?h ?l ?e ?_); (case h => walk_at "h"); (case l => exact rfl); (case e => exact rfl))
  | ((with_reducible refine' go_MethK 1 ?h ?l ?e ?_); (case h => walk_at "h"); (case l => exact rfl); (case e => exact rfl))
  | ((with_reducible refine' go_MethK 2 ?h ?l ?e ?_); (case h => walk_at "h"); (case l => exact rfl); (case e => exact rfl))
  | ((with_reducible refine' go_MethXK ?h ?l ?_); (case h => walk_at "h"); (case l => exact rfl))
  | ((with_reducible refine' go_DGetS ?h ?l ?_); (case h => walk_at "h"); (case l => exact rfl))
  | ((with_reducible refine' go_DPutS ?h ?l ?e ?_); (case h => walk_at "h"); (case l => exact Nat.le_of_ble_eq_true rfl); (case e => walk_at "pk"); intro H1 n1)
  | ((with_reducible refine' go_disp ?_); intro p H1 n1)
  | ((with_reducible refine' go_DispS ?h ?e ?l ?k ?j ?m ?_); (case h => walk_at "h"); (case e => exact rfl); (case l => exact Nat.le_of_ble_eq_true rfl); (case k => (simp only [unS]; exact rfl)); (case j => (simp only [List.map_cons, List.map_nil]; exact rfl)); (case m => decide +kernel); intro H1 n1)
  | ((with_reducible refine' go_ParK ?h ?_); (case h => (simp only [List.set_cons_zero, List.set_cons_succ]; exact rfl)))
  | ((with_reducible refine' go_setLi ?h ?k ?_); (case h => walk_at "h"); (case k => walk_at "ix"); intro H1 n1)
  | ((with_reducible refine' go_listYL ?h ?_); (case h => walk_at "h"))
  | ((with_reducible refine' go_maxD ?h ?_); (case h => walk_at "h"))
  | ((with_reducible refine' go_ListRK ?h ?_); (case h => omega); intro p H1 n1)
  | ((with_reducible refine' go_EnumL ?h ?_); (case h => walk_at "h"))
  | (with_reducible refine' go_isX ?_)
  | (with_reducible refine' go_isXt ?_)
  | ((with_reducible refine' go_DInI ?h ?_); (case h => walk_at "h"))
  | ((with_reducible refine' go_DNotInI ?h ?_); (case h => walk_at "h"))
  | ((with_reducible refine' go_DGet2K ?h ?_); (case h => walk_at "h"))
  | ((with_reducible refine' go_eqDE ?h ?k ?_); (case h => walk_at "h"); (case k => walk_at "h"))
  | ((with_reducible refine' go_neDE ?h ?k ?_); (case h => walk_at "h"); (case k => walk_at "h"))
  | ((with_reducible refine' go_insert ?h ?k ?l ?m ?_); (case h => walk_at "h"); (case k => walk_at "z"); (case l => omega); (case m => omega); intro H1 n1)
  | ((with_reducible refine' go_dnewT ?_); intro p H1 n1)
  | ((with_reducible refine' go_LstRevK ?h ?_); (case h => walk_at "h"); intro p H1 n1)
  | (with_reducible refine' go_gCons ?_))
local macro_rules | `(tactic| walk_at "pf") => `(tactic| first
  | exact putF_nil
  | exact putF_hit
  | (refine' putF_miss ?h ?k; (case h => decide +kernel); (case k => walk_at "pf")))
local macro_rules | `(tactic| walk_at "pk") => `(tactic| first
  | exact putK_nil
  | exact putK_hit (by (simp only [List.map_cons, List.map_nil]; decide +kernel))
  | (refine' putK_miss ?h ?k; (case h => decide +kernel); (case k => walk_at "pk")))
local macro_rules | `(tactic| walk_at "ix") => `(tactic| first
  | assumption
  | omega
  | (simp only [List.length_cons, List.length_nil, List.length_append, List.length_map, List.length_range, List.length_replicate, List.length_set] at *; omega))
local macro_rules | `(tactic| walk_at "pr") => `(tactic| first
  | assumption
  | decide
  | omega
  | exact rfl
  | (intro z; cases z; done))
local macro_rules | `(tactic| walk_at "hk") => `(tactic| first
  | assumption
  | exact seq' (by assumption) (by walk_at "sm"))
local macro_rules | `(tactic| walk_at "ty") => `(tactic| first
  | exact rfl
  | assumption
  | exact tyN_L (by walk_at "h")
  | exact tyN_T (by walk_at "h")
  | exact tyN_D (by walk_at "h"))
local macro_rules | `(tactic| walk_at "go") => `(tactic| repeat (walk_at "s"))
/-! ### k23: the end of being told -/
def toldTail (K : PySem.W.Frag) (a : Ac) (E : XK) : TS := tSeq (tIfS (tTest (tOp (rNeP K) (tLc (iSeqP K (tVar 11)) (gName 13) (tNot (tB (tCB ((rIsi K)) (tCons (tVar 13) (tCons (tC (.ty "list")) (tNil)))))) (tVar 13) [13]) (tLst (tNil)))) (tRet (tC (.bl false))) (tNext)) (tSeq (tDrop (tBM K "list" rAppend (tVar 3) (tCons (tTup (tCons (tVar 11) (tCons (tLc (iSeqP K (tVar 11)) (gName 13) (tYes) (tCB ((rListP K)) (tCons (tVar 13) (tNil))) [13]) (tNil)))) (tNil)))) (tSeq (tAsg (tCallS (sp_users K a) (WE (WM E)) (tCons (tVar 0) (tCons (tVar 1) (tNil)))) (gName 12)) (tSeq (tDrop (tBM0 K "list" rClear (tOp (rIxP K) (tVar 12) (tC (.int 0))))) (tSeq (tDrop (tBM0 K "list" rPop (tVar 12))) (tRet (tOp (rEqP K) (tLc (iSeqP K (tVar 3)) (gName 14) (tTest (tOp (rNeP K) (tOp (rIxP K) (tVar 14) (tC (.int 0))) (tOp (rIxP K) (tVar 14) (tC (.int 1))))) (tVar 14) [14]) (tLst (tNil))))))))
section
variable {K : PySem.W.Frag} {a : Ac} {H0 H H' : Hp} {Q : VK} {E : XK} [F : Fc K a] {d r l q P N HL A : Addr} {R nds : List (List Int)} {done m : Int} {t na da n : Nat} {w ns : List Int} {x : Int} {qs ts qa : List Addr} {rows : List (List (List Key))} {v2 v4 v5 v6 v7 v8 v9 v10 : Option V}
omit F in
theorem HeldOne.same {T : Addr} (h : HeldOne H HL T) (s : Same H H') : HeldOne H' HL T := by
  obtain ⟨A, C, qa, qc, rows, e, f1, f2, lo, n1, n2, n3, n4⟩ := h
  exact ⟨A, C, qa, qc, rows, s _ _ e, f1.same s, f2.same s, lo, n1, n2, n3, n4⟩
theorem law_w {n : Int} {w : List Int} (h : soundL n w = true) (p : ∀ z ∈ w, 0 ≤ z) (l8 : w.length = 8) : wd w 2 ≤ 320 ∧ 0 ≤ wd w 2 := by
  unfold soundL at h
  simp only [Bool.and_eq_true, decide_eq_true_iff] at h
  refine ⟨h.2.1, p _ ?_⟩
  unfold wd
  rw [List.getD_eq_getElem?_getD, List.getElem?_eq_getElem (by omega)]
  exact List.getElem_mem _
theorem FD.low {H : Hp} {P : Addr} {qs : List Addr} {rows : List (List (List Key))} (h : FD H P qs rows) {i : Nat} {q : Addr} (hq : qs[i]? = some q) : ∃ xs, H q = some (.lst xs) := h.ref (List.mem_of_getElem? hq)
theorem p_told_end (D0 : DkEx a [] H d r R done none) (hL : LayAt a H l m t) (hm : 24 ≤ m ∧ m ≤ 96) (hna : (na : Int) = 17 + (m + 16 - 1) / 16) (hda : da = na + t) (ht : 1 ≤ t ∧ t ≤ 8) (room : (da : Int) < m) (lR : (R.length : Int) = m) (Nn : NodesR R nds na t) (pos : ∀ w ∈ nds, ∀ z ∈ w, 0 ≤ z) (hH : HdAt H HL ts) (lH : ts.length ≤ 100) (nn : d ≠ HL ∧ r ≠ HL ∧ l ≠ HL) (h6 : FD H A qa rows) (nA : A ≠ HL) (nqa : HL ∉ qa) (lo : ∀ row ∈ rows, ∀ k ∈ row, LowK k) (l6 : rows.length = m.toNat)
    (k : ∀ ts' H', Chg [HL] H H' → HdAt H' HL ts' → ts'.length ≤ ts.length + 1 → Q (.bl true) H') : toldTail K a E ⟨fun _ H' => Q .non H', Q, F0, F0⟩ [some (.ref d), some (.ref l), v2, some (.ref HL), v4, v5, v6, v7, v8, v9, v10, some (.ref A), none, none, none] H := by
  unfold toldTail
  have eA := h6.pp
  have lq6 := h6.len
  walk_at "go"
  refine lc_L (f := id) (p := fun _ => false) eA (by rw [List.length_map, sizeLine_eq]; omega) (fun i y H' QB hy s kk => ?_) (fun i y H' Q' hy hp s kk => absurd hp (by decide)) fun D1 H1 hD1 s1 e1 => ?_
  · rw [List.getElem?_map] at hy
    obtain ⟨q, hq, rfl⟩ := Option.map_eq_some_iff.mp hy
    obtain ⟨xs, eq_⟩ := (h6.same s).low hq
    simp only [List.set_cons_zero, List.set_cons_succ]
    walk_at "go"
    exact kk H' (Same.refl _)
  have ef : ((qa.map V.ref).filter fun _ => false).map id = ([] : List Int).map V.int := by simp
  rw [ef] at e1
  have h61 := h6.same s1
  have eA1 := h61.pp
  walk_at "go"
  rename_i z2 H2 n2
  refine go_neIs (ns := []) (ms := []) (n2.old e1) n2.at ?_
  have h62 := h61.same n2.same
  have eA2 := h62.pp
  have s2 := s1.trans n2.same
  have eH2 := (hH.same s2).hh
  walk_at "go"
  refine lc_fdL (rows := fun i => rows.getD i []) eA2 (by rw [List.length_map]; omega) (fun i y H' Q' hy s kk => ?_) fun C qc H3 hC fqc s3 h3 => ?_
  · rw [List.getElem?_map] at hy
    obtain ⟨q, hq, rfl⟩ := Option.map_eq_some_iff.mp hy
    have li := (List.getElem?_eq_some_iff.mp hq).1
    obtain ⟨q', us, hq', eq_, ku⟩ := (h62.same s).row (i := i) (by omega)
    rw [hq] at hq'
    obtain rfl := Option.some.inj hq'
    simp only [List.set_cons_zero, List.set_cons_succ]
    walk_at "go"
    rename_i p3 H3 n3
    exact kk p3 H3 n3.same n3.free ⟨us, n3.at, kyT_chg ku (.of n3.same : Chg [] _ _) fun _ z => absurd z List.not_mem_nil⟩
  have er : (List.range (qa.map V.ref).length).map (fun i => rows.getD i []) = rows := by
    rw [List.length_map, lq6]
    refine List.ext_getElem? fun i => ?_
    rw [List.getElem?_map]
    by_cases c : i < rows.length
    · rw [List.getElem?_range c]; show some (rows.getD i []) = _; rw [List.getD_eq_getElem?_getD, List.getElem?_eq_getElem c]; rfl
    · rw [List.getElem?_eq_none (by simp; omega), List.getElem?_eq_none (by omega)]; rfl
  rw [er] at h3
  have s03 := s2.trans s3
  have hH3 := hH.same s03
  have eH3 := hH3.hh
  walk_at "go"
  rename_i T H4 n4 H5 w5
  have hH4 := hH3.same n4.same
  have eH4 := hH4.hh
  have c5 : Chg [HL] H4 H5 := .wr w5 (by simp)
  have hn : ∀ b ∈ [HL], NotInts H4 b := fun b hb => by rw [List.mem_singleton.mp hb]; exact refs_not eH4
  have s04 := s03.trans n4.same
  have hHL : H HL ≠ none := by rw [hH.hh]; exact fun z => nomatch z
  have nHL : ∀ {b : Addr}, H b = none → b ≠ HL := fun hb z => hHL (z ▸ hb)
  have hH5 : HdAt H5 HL (ts ++ [T]) := by
    refine ⟨by rw [w5.at, List.map_append]; rfl, fun T' hT => ?_⟩
    refine HeldOne.chg ?_ c5 (.lst eH4)
    rcases List.mem_append.mp hT with hT | hT
    · exact hH4.one T' hT
    · rw [List.mem_singleton.mp hT]
      exact ⟨A, C, qa, qc, rows, n4.at, h6.same s04, h3.same n4.same, lo, nA, nHL (s2.free hC), nqa, fun z => nHL (s2.free (fqc _ z)) rfl⟩
  have c05 : Chg [HL] H H5 := (Chg.of s04).trans c5
  have D5 := (D0.same s04).chg c5 (by simpa using nn.1) (by simpa using nn.2.1) hn
  have L5 := hL.chg c05 (by simpa using nn.2.2)
  walk_at "go"
  refine p_users D5 L5 hm hna hda ht room lR Nn pos fun B qb H6 s6 fB fqb h6' => ?_
  have lB := h6'.len
  rw [List.length_map, addsU_len, init0_len (by omega)] at lB
  have eqq : qb[0]? = some (qb[0]'(by omega)) := List.getElem?_eq_getElem _
  generalize qb[0]'(by omega) = q0 at eqq
  obtain ⟨xs0, e0⟩ := h6'.low eqq
  have eB := h6'.pp
  walk_at "go"
  refine go_ixAt eB (by omega) (v := .ref q0) (by rw [List.getElem?_map, show ((0 : Int)).toNat = 0 by omega, eqq]; rfl) ?_
  walk_at "go"
  rename_i H7 w7
  have eB7 := w7.old (fun z => h6'.ne q0 (List.mem_of_getElem? eqq) z.symm) eB
  obtain ⟨ys, y, ey⟩ : ∃ ys y, qb.map V.ref = ys ++ [y] := ⟨_, _, (List.dropLast_concat_getLast (by intro z; rw [List.map_eq_nil_iff] at z; rw [z] at lB; simp at lB; omega)).symm⟩
  rw [ey] at eB7
  walk_at "go"
  refine go_popL eB7 fun H8 w8 => ?_
  have c8 : Chg [q0, B] H6 H8 := (Chg.wr w7 (by simp)).trans (.wr w8 (by simp))
  have s58 : Same H5 H8 := Same.chg s6 c8 fun b hb => by
    simp only [List.mem_cons, List.not_mem_nil, or_false] at hb
    rcases hb with rfl | rfl
    · exact fqb _ (List.mem_of_getElem? eqq)
    · exact fB
  have hH8 := hH5.same s58
  have eH8 := hH8.hh
  walk_at "go"
  refine lc_L (f := id) (p := fun _ => false) eH8 (by rw [List.length_map, List.length_append, sizeLine_eq]; simp; omega) (fun i y H' QB hy s kk => ?_) (fun i y H' Q' hy hp s kk => absurd hp (by decide)) fun D9 H9 hD9 s9 e9 => ?_
  · rw [List.getElem?_map] at hy
    obtain ⟨T', hT, rfl⟩ := Option.map_eq_some_iff.mp hy
    obtain ⟨A', C', qa', qc', rows', eT, f1, f2, lo', _⟩ := (hH8.one T' (List.mem_of_getElem? hT)).same s
    simp only [List.set_cons_zero, List.set_cons_succ]
    walk_at "go"
    refine go_neSame f1.dp f2.dp (shaped_fd lo') ?_
    walk_at "go"
    exact kk H' (Same.refl _)
  have ef : (((ts ++ [T]).map V.ref).filter fun _ => false).map id = ([] : List Int).map V.int := by simp
  rw [ef] at e9
  walk_at "go"
  rename_i z10 H10 n10
  refine go_eqIs (ns := []) (ms := []) (n10.old e9) n10.at ?_
  have s510 := (s58.trans s9).trans n10.same
  walk_at "go"
  exact k (ts ++ [T]) H10 (c05.trans (.of s510)) (hH5.same s510) (by rw [List.length_append]; exact Nat.le_refl _)
end

end Bk

namespace Bk
open PySem L2 PyProof.Rows
/-! our own short tactics: h: what stands at a place; ne: two places; sm: what stood stands; z: a size; s: a step; go: steps -/
local macro_rules | `(tactic| walk_at "h") => `(tactic| first
  | assumption
  | exact New.at (by assumption)
  | exact Wr.at (by assumption)
  | (refine' New.old (by assumption) ?_; walk_at "h")
  | (refine' Same.at (by assumption) ?_; walk_at "h")
  | (refine' Wr.old (by assumption) ?_ ?_; walk_at "ne"; walk_at "h")
  | (refine' Chg.at (by assumption) ?_ ?_; walk_at "ni"; walk_at "h"))
local macro_rules | `(tactic| walk_at "ni") => `(tactic| first
  | exact ni_nil
  | assumption
  | (refine' ni_cons ?_ ?_; walk_at "ne"; walk_at "ni"))
local macro_rules | `(tactic| walk_at "ne") => `(tactic| first
  | assumption
  | exact Ne.symm (by assumption)
  | exact New.ne (by assumption) (by walk_at "h")
  | exact ne_none (by assumption) (by walk_at "h")
  | exact Ne.symm (ne_none (by assumption) (by walk_at "h"))
  | exact Ne.symm (New.ne (by assumption) (by walk_at "h")))
local macro_rules | `(tactic| walk_at "sm") => `(tactic| first
  | exact Same.refl _
  | assumption
  | (refine' Same.trans ?_ (New.same (by assumption)); walk_at "sm")
  | (refine' Same.trans ?_ (by assumption : Same _ _); walk_at "sm"))
local macro_rules | `(tactic| walk_at "z") => `(tactic| first
  | assumption
  | (rw [PySem.sizeLine_eq]; omega)
  | (rw [PySem.sizeLine_eq]; simp only [List.length_cons, List.length_nil, List.length_append, List.length_map, List.length_range, List.length_replicate, len_cut]; omega)
  | (rw [PySem.sizeLine_eq]; simp only [List.length_cons, List.length_nil, List.length_append, List.length_map, List.length_range, List.length_replicate, len_cut] at *; omega))
local macro_rules | `(tactic| walk_at "s") => `(tactic| first
  | (refine' Step.go ?_)
  | ((with_reducible refine' go_var ?h ?_); (case h => exact rfl))
  | ((with_reducible refine' go_name2 ?h ?_); (case h => (simp only [List.set_cons_zero, List.set_cons_succ]; exact rfl)))
  | ((with_reducible refine' go_name2 ?h ?_); (case h => exact rfl))
  | (with_reducible refine' go_if ?_)
  | (with_reducible refine' iteT ?_)
  | (with_reducible refine' iteF ?_)
  | ((with_reducible refine' go_Td ?h ?_); (case h => walk_at "pr"))
  | ((with_reducible refine' go_Fd ?h ?_); (case h => walk_at "pr"))
  | ((with_reducible refine' go_Tn ?h ?_); (case h => walk_at "pr"))
  | ((with_reducible refine' go_Fn ?h ?_); (case h => walk_at "pr"))
  | ((with_reducible refine' go_T ?h ?_); (case h => (first | decide | assumption | exact rfl)))
  | ((with_reducible refine' go_F ?h ?_); (case h => (first | decide | assumption | exact rfl)))
  | ((with_reducible refine' go_LstK ?h ?_); (case h => walk_at "z"); intro p H1 n1)
  | ((with_reducible refine' go_TupK ?h ?_); (case h => walk_at "z"); intro p H1 n1)
  | ((with_reducible refine' go_addL ?h ?k ?z ?_); (case h => walk_at "h"); (case k => walk_at "h"); (case z => walk_at "z"); intro p H1 n1)
  | ((with_reducible refine' go_mulI ?h ?_); (case h => (unfold CMul; omega)))
  | ((with_reducible refine' go_mulL ?h ?k ?_); (case h => walk_at "h"); (case k => (refine ⟨by omega, by omega, ?_⟩; walk_at "z")); intro p H1 n1)
  | ((with_reducible refine' go_div ?h ?_); (case h => (unfold CDiv; omega)))
  | ((with_reducible refine' go_mod ?h ?_); (case h => omega))
  | ((with_reducible refine' go_pow ?h ?_); (case h => (unfold CPow; omega)))
  | ((with_reducible refine' go_slL ?h ?_); (case h => walk_at "h"); intro p H1 n1)
  | ((with_reducible refine' go_ixL ?h ?k ?_); (case h => walk_at "h"); (case k => exact rfl))
  | ((with_reducible refine' go_ixT ?h ?k ?_); (case h => walk_at "h"); (case k => exact rfl))
  | ((with_reducible refine' go_slW ?h ?_); (case h => walk_at "h"))
  | ((with_reducible refine' go_bmL ?h ?_); (case h => walk_at "h"))
  | ((with_reducible refine' go_append ?h ?k ?_); (case h => walk_at "h"); (case k => walk_at "z"); intro H1 n1)
  | ((with_reducible refine' go_extend ?h ?k ?z ?_); (case h => walk_at "h"); (case k => walk_at "h"); (case z => walk_at "z"); intro H1 n1)
  | ((with_reducible refine' go_clear ?h ?_); (case h => walk_at "h"); intro H1 n1)
  | ((with_reducible refine' go_dnew ?_); intro p H1 n1)
  | ((with_reducible refine' go_lenL ?h ?_); (case h => walk_at "h"))
  | ((with_reducible refine' go_lenT ?h ?_); (case h => walk_at "h"))
  | ((with_reducible refine' go_lenK ?h ?_); (case h => walk_at "hk"))
  | ((with_reducible refine' go_listL ?h ?_); (case h => walk_at "h"); intro p H1 n1)
  | ((with_reducible refine' go_listT ?h ?_); (case h => walk_at "h"); intro p H1 n1)
  | ((with_reducible refine' go_tupleL ?h ?_); (case h => walk_at "h"); intro p H1 n1)
  | ((with_reducible refine' go_isi ?h ?k ?_); (case h => walk_at "ty"); (case k => exact kit_bb (by decide) (by decide)))
  | ((with_reducible refine' go_seqL ?h ?_); (case h => walk_at "h"))
  | ((with_reducible refine' go_seqT ?h ?_); (case h => walk_at "h"))
  | ((with_reducible refine' go_rng1K ?h ?_); (case h => omega))
  | ((with_reducible refine' go_rng2K ?h ?_); (case h => omega))
  | (with_reducible refine' go_raise ?_)
  | ((with_reducible refine' go_tupG ?h ?k ?_); (case h => walk_at "h"); (case k => exact rfl))
  | ((with_reducible refine' go_lstG ?h ?k ?_); (case h => walk_at "h"); (case k => exact rfl))
  | (with_reducible refine' go_tryAs ?_)
  | ((with_reducible refine' go_asT ?_); intro e he)
  | (with_reducible refine' go_asF ?_)
  | ((with_reducible refine' go_manyT ?_); intro e he)
  | (with_reducible refine' go_manyF ?_)
  | ((with_reducible refine' go_FldK ?h ?c ?n ?l ?_); (case h => walk_at "h"); (case c => infer_instance); (case n => infer_instance); (case l => exact rfl))
  | ((with_reducible refine' go_SFldK ?h ?c ?n ?l ?e ?_); (case h => walk_at "h"); (case c => infer_instance); (case n => infer_instance); (case l => exact Nat.le_of_ble_eq_true rfl); (case e => walk_at "pf"); intro H1 n1)
  | ((with_reducible refine' go_MethK 0 ?h ?l ?e ?_); (case h => walk_at "h"); (case l => exact rfl); (case e => exact rfl))
  | ((with_reducible refine' go_MethK 1 ?h ?l ?e ?_); (case h => walk_at "h"); (case l => exact rfl); (case e => exact rfl))
  | ((with_reducible refine' go_MethK 2 ?h ?l ?e ?_); (case h => walk_at "h"); (case l => exact rfl); (case e => exact rfl))
  | ((with_reducible refine' go_MethXK ?h ?l ?_); (case h => walk_at "h"); (case l => exact rfl))
  | ((with_reducible refine' go_DGetS ?h ?l ?_); (case h => walk_at "h"); (case l => exact rfl))
  | ((with_reducible refine' go_DPutS ?h ?l ?e ?_); (case h => walk_at "h"); (case l => exact Nat.le_of_ble_eq_true rfl); (case e => walk_at "pk"); intro H1 n1)
  | ((with_reducible refine' go_disp ?_); intro p H1 n1)
  | ((with_reducible refine' go_DispS ?h ?e ?l ?k ?j ?m ?_); (case h => walk_at "h"); (case e => exact rfl); (case l => exact Nat.le_of_ble_eq_true rfl); (case k => (simp only [unS]; exact rfl)); (case j => (simp only [List.map_cons, List.map_nil]; exact rfl)); (case m => decide +kernel); intro H1 n1)
  | ((with_reducible refine' go_ParK ?h ?_); (case h => (simp only [List.set_cons_zero, List.set_cons_succ]; exact rfl)))
  | ((with_reducible refine' go_setLi ?h ?k ?_); (case h => walk_at "h"); (case k => walk_at "ix"); intro H1 n1)
  | ((with_reducible refine' go_listYL ?h ?_); (case h => walk_at "h"))
  | ((with_reducible refine' go_maxD ?h ?_); (case h => walk_at "h"))
  | ((with_reducible refine' go_ListRK ?h ?_); (case h => omega); intro p H1 n1)
  | ((with_reducible refine' go_EnumL ?h ?_); (case h => walk_at "h"))
  | (with_reducible refine' go_isX ?_)
  | (with_reducible refine' go_isXt ?_)
  | ((with_reducible refine' go_DInI ?h ?_); (case h => walk_at "h"))
  | ((with_reducible refine' go_DNotInI ?h ?_); (case h => walk_at "h"))
  | ((with_reducible refine' go_DGet2K ?h ?_); (case h => walk_at "h"))
  | ((with_reducible refine' go_eqDE ?h ?k ?_); (case h => walk_at "h"); (case k => walk_at "h"))
  | ((with_reducible refine' go_neDE ?h ?k ?_); (case h => walk_at "h"); (case k => walk_at "h"))
  | ((with_reducible refine' go_insert ?h ?k ?l ?m ?_); (case h => walk_at "h"); (case k => walk_at "z"); (case l => omega); (case m => omega); intro H1 n1)
  | ((with_reducible refine' go_dnewT ?_); intro p H1 n1)
  | ((with_reducible refine' go_LstRevK ?h ?_); (case h => walk_at "h"); intro p H1 n1)
  | (with_reducible refine' go_gCons ?_))
local macro_rules | `(tactic| walk_at "pf") => `(tactic| first
  | exact putF_nil
  | exact putF_hit
  | (refine' putF_miss ?h ?k; (case h => decide +kernel); (case k => walk_at "pf")))
local macro_rules | `(tactic| walk_at "pk") => `(tactic| first
  | exact putK_nil
  | exact putK_hit (by (simp only [List.map_cons, List.map_nil]; decide +kernel))
  | (refine' putK_miss ?h ?k; (case h => decide +kernel); (case k => walk_at "pk")))
local macro_rules | `(tactic| walk_at "ix") => `(tactic| first
  | assumption
  | omega
  | (simp only [List.length_cons, List.length_nil, List.length_append, List.length_map, List.length_range, List.length_replicate, List.length_set] at *; omega))
local macro_rules | `(tactic| walk_at "pr") => `(tactic| first
  | assumption
  | decide
  | omega
  | exact rfl
  | (intro z; cases z; done))
local macro_rules | `(tactic| walk_at "hk") => `(tactic| first
  | assumption
  | exact seq' (by assumption) (by walk_at "sm"))
local macro_rules | `(tactic| walk_at "ty") => `(tactic| first
  | exact rfl
  | assumption
  | exact tyN_L (by walk_at "h")
  | exact tyN_T (by walk_at "h")
  | exact tyN_D (by walk_at "h"))
local macro_rules | `(tactic| walk_at "go") => `(tactic| repeat (walk_at "s"))
/-! ### k23: is told -/
section
variable {K : PySem.W.Frag} {a : Ac} {H0 H H' : Hp} {Q : VK} {E : XK} [F : Fc K a] {d r l q P N HL : Addr} {R nds : List (List Int)} {done m : Int} {t na da n : Nat} {w ns : List Int} {x : Int} {qs ts : List Addr}
theorem p_L_is_told (D0 : DkEx a [] H d r R done none) (hL : LayAt a H l m t) (hm : 24 ≤ m ∧ m ≤ 96) (hna : (na : Int) = 17 + (m + 16 - 1) / 16) (hda : da = na + t) (ht : 1 ≤ t ∧ t ≤ 8) (room : (da : Int) < m) (lR : (R.length : Int) = m) (Nn : NodesR R nds na t) (hN : RowsAt H N qs nds) (ok : ∀ w ∈ nds, w.length = 8 ∧ ∀ z ∈ w, OkW z) (hH : HdAt H HL ts) (lH : ts.length ≤ 100) (nn : d ≠ HL ∧ r ≠ HL ∧ l ≠ HL)
    (k : ∀ ts' H', Chg [HL] H H' → HdAt H' HL ts' → ts'.length ≤ ts.length + 1 → Q (.bl true) H') : sp_L_is_told K a [.ref d, .ref l, .ref N, .ref HL] H Q E := by
  refine in_L_is_told ?_
  unfold t_L_is_told
  have g : (da : Int) = 17 + (m + 16 - 1) / 16 + t := by omega
  have pos : ∀ w ∈ nds, ∀ z ∈ w, 0 ≤ z := fun w hw z hz => ((ok w hw).2 z hz).1
  have mm : da ≤ m.toNat := by omega
  have rl : ∀ L : List NPB, (addsU L (init0 da m.toNat)).length = m.toNat := fun L => by rw [addsU_len, init0_len mm]
  have l2t := Nn.len
  have lq0 := hN.len
  obtain ⟨dl, el⟩ := id hL
  rw [← g] at el
  walk_at "go"
  refine lc_fdR (rows := fun _ => [keptK]) (by omega) (fun i H' Q' hi s kk => ?_) fun D1 qs1 H1 hD1 fq1 s1 h1 => ?_
  · simp only [List.set_cons_zero, List.set_cons_succ]
    walk_at "go"
    rename_i T2 H2 n2 q3 H3 n3
    exact kk q3 H3 (n2.same.trans n3.same) (n2.same.free n3.free) ⟨[T2], n3.at, kyT_one (n3.old n2.at)⟩
  have el1 := s1 _ _ el
  walk_at "go"
  refine lc_fdR (rows := fun _ => []) (by omega) (fun i H' Q' hi s kk => ?_) fun D2 qs2 H2 hD2 fq2 s2 h2 => ?_
  · simp only [List.set_cons_zero, List.set_cons_succ]
    walk_at "go"
    rename_i q3 H3 n3
    exact kk q3 H3 n3.same n3.free ⟨[], n3.at, .nil⟩
  have h1' := h1.same s2
  have e1 := h1'.pp
  have e2 := h2.pp
  have lq1 := h1.len
  have lq2 := h2.len
  rw [List.length_map, List.length_range] at lq1 lq2
  walk_at "go"
  rename_i D3 H3 n3
  have h3 := h1'.app h2 (fun x hx hx2 => by
    obtain ⟨xs, e⟩ := h1.ref hx
    have := fq2 x hx2
    rw [e] at this; cases this) n3
  have fqs : ∀ q ∈ qs1 ++ qs2, H q = none := fun q hq => by
    rcases List.mem_append.mp hq with hq | hq
    · exact fq1 q hq
    · exact s1.free (fq2 q hq)
  have ei : (List.range (da : Int).toNat).map (fun _ => [keptK]) ++ (List.range (m - (da : Int)).toNat).map (fun _ => ([] : List (List Key))) = init0 da m.toNat := by
    unfold init0
    rw [List.map_const', List.map_const', List.length_range, List.length_range, show (da : Int).toNat = da by omega, show (m - (da : Int)).toNat = m.toNat - da by omega]
  rw [ei] at h3
  have s03 := (s1.trans s2).trans n3.same
  generalize eqs : qs1 ++ qs2 = qd at h3 fqs
  have el3 := s03 _ _ el
  walk_at "go"
  refine for_R (fun j σ' H' => ∃ v7 v8 v9, σ' = [some (.ref d), some (.ref l), some (.ref N), some (.ref HL), some (.int m), some (.int (da : Nat)), some (.ref D3), v7, v8, v9, none, none, none, none, none] ∧ Chg qd H3 H' ∧ FD H' D3 qd (addsU (lawL R da m nds j) (init0 da m.toNat))) ⟨_, _, _, rfl, .refl, h3⟩ ?_ ?_
  · rintro j σ' H5 hj ⟨v7, v8, v9, rfl, c5, h5⟩
    have hj' : j + 1 < 2 * t := by omega
    obtain ⟨ew, l8⟩ := Nn.w8 hj'
    have s05 : Same H H5 := Same.chg s03 c5 fqs
    have hN5 := hN.same s05
    have eqq : qs[j + 1]? = some (qs[j + 1]'(by omega)) := List.getElem?_eq_getElem _
    generalize qs[j + 1]'(by omega) = q at eqq
    obtain ⟨row, er, eq_⟩ := rows_at hN5 eqq
    rw [ew] at er
    obtain rfl := Option.some.inj er
    have hp := pos _ (List.mem_of_getElem? ew)
    have ps := lawL_succ (R := R) (da := da) (m := m) (nds := nds) (j := j)
    generalize nds.getD (j + 1) [] = w at l8 eq_ hp ps
    have en : (1 + (j : Int)) = ((j + 1 : Nat) : Int) := by omega
    simp only [List.set_cons_zero, List.set_cons_succ]
    walk_at "go"
    rw [en]
    refine go_ixAt hN5.rr (by omega) (v := .ref q) (by rw [List.getElem?_map, show (((j + 1 : Nat) : Int)).toNat = j + 1 by omega, eqq]; rfl) ?_
    walk_at "go"
    refine p_L_is_sound eq_ l8 fun H7 s7 => ?_
    have s07 := s05.trans s7
    have h7 := h5.same s7
    have c7 : Chg qd H3 H7 := c5.trans (.of s7)
    walk_at "go"
    cases hs : soundL ((j + 1 : Nat) : Int) w with
    | false =>
      walk_at "go"
      refine ⟨_, _, _, rfl, c7, ?_⟩
      rw [ps]
      unfold lawN
      rw [hs, if_neg (by decide), List.append_nil]
      exact h7
    | true =>
      have w2 := law_w hs hp l8
      have hN7 := hN.same s07
      walk_at "go"
      refine go_ixAt hN7.rr (by omega) (v := .ref q) (by rw [List.getElem?_map, show (((j + 1 : Nat) : Int)).toNat = j + 1 by omega, eqq]; rfl) ?_
      walk_at "go"
      refine p_L_places (D0.same s07) lR (by omega) (s7 _ _ eq_) l8 w2 fun P8 H8 s8 fP8 hl8 => ?_
      obtain ⟨us, eus, ku⟩ := hl8
      have pl := placesL_len (R := R) (da := da) (m := m) w2.1
      walk_at "go"
      refine go_sortLK eus ku (RowOk.al (.inr ⟨_, rfl⟩)).1 (RowOk.al (.inr ⟨_, rfl⟩)).2 fun ts9 P9 H9 kt n9 => ?_
      rw [show ((placesL R da m w).map pk).mergeSort (PySem.W.dataLe false tD) = ((placesL R da m w).mergeSort leP).map pk from sort_pk] at kt
      have lts := kyT_len kt
      rw [List.length_map] at lts
      have h9 := (h7.same s8).same n9.same
      have e9 := n9.at
      have nP9 : P9 ∉ qd := fun z => by
        obtain ⟨xs, e⟩ := (h7.same s8).ref z
        have := n9.free
        rw [e] at this; cases this
      have oq : ∀ b ∈ qd, NotTup H9 b := fun b hb => (h9.notInts b hb).2
      have c9 : Chg qd H3 H9 := (c7.trans (.of s8)).trans (.of n9.same)
      walk_at "go"
      refine for_Lg (xs := ts9.map V.ref) (fun i σ' H' => ∃ v8 v9, σ' = [some (.ref d), some (.ref l), some (.ref N), some (.ref HL), some (.int m), some (.int (da : Nat)), some (.ref D3), some (.int (j + 1 : Nat)), v8, v9, none, none, none, none, none] ∧ Chg qd H9 H' ∧ FD H' D3 qd (addsU (lawL R da m nds j ++ ((((placesL R da m w).mergeSort leP).take i).map fun e => (((j + 1 : Nat) : Int), e))) (init0 da m.toNat))) (fun i σ' H' ⟨_, _, _, c, _⟩ => c.at nP9 e9) ⟨_, _, rfl, .refl, by rw [List.take_zero, List.map_nil, List.append_nil]; exact h9⟩ ?_ ?_
      · rintro i y σ' H10 hy ⟨v8, v9, rfl, c10, h10⟩
        rw [List.getElem?_map] at hy
        obtain ⟨u, hu, rfl⟩ := Option.map_eq_some_iff.mp hy
        obtain ⟨kk, hk, eu⟩ := kyT_at kt hu
        rw [List.getElem?_map] at hk
        obtain ⟨⟨pl1, bl⟩, he, rfl⟩ := Option.map_eq_some_iff.mp hk
        have eu10 : H10 u = some (.tup [.int pl1, .int bl]) := c10.at (fun z => oq u z _ eu) eu
        have hd := (List.mem_filter.mp ((List.mergeSort_perm _ _).mem_iff.mp (List.mem_of_getElem? he))).2
        unfold isDat at hd
        rw [Bool.and_eq_true, decide_eq_true_iff, decide_eq_true_iff] at hd
        have tk := take_succ_of he
        generalize eL : lawL R da m nds j ++ ((((placesL R da m w).mergeSort leP).take i).map fun e => (((j + 1 : Nat) : Int), e)) = L at h10
        have hLd : DatL da m L := by
          rw [← eL]
          refine lawL_dat.app fun x hx => ?_
          obtain ⟨e, he, rfl⟩ := List.mem_map.mp hx
          have := (List.mem_filter.mp ((List.mergeSort_perm _ _).mem_iff.mp (List.mem_of_mem_take he))).2
          unfold isDat at this
          rw [Bool.and_eq_true, decide_eq_true_iff, decide_eq_true_iff] at this
          exact this
        have hLl : L.length ≤ 21 * j + 21 := by
          rw [← eL, List.length_append, List.length_map]
          have a1 := lawL_len (R := R) (da := da) (m := m) (nds := nds) (j := j)
          have a2 : (((placesL R da m w).mergeSort leP).take i).length ≤ 21 := by rw [List.length_take, List.length_mergeSort]; omega
          omega
        have lr := rl L
        obtain ⟨q', ts', hq', eq', kt'⟩ := h10.row (i := bl.toNat) (by rw [lr]; omega)
        have ll' := kyT_len kt'
        have rlen := row_len (b := bl.toNat) (da := da) (m := m.toNat) (L := L) (fun x hx => by have := hLd x hx; omega) mm
        walk_at "go"
        refine go_ixAt h10.pp (by omega) (v := .ref q') (by rw [List.getElem?_map, hq']; rfl) ?_
        walk_at "go"
        rename_i T2 H11 n11 H12 w12
        have h11 := h10.same n11.same
        have h12 := h11.push (i := bl.toNat) (k := pk (((j + 1 : Nat) : Int), pl1)) (by rw [lr]; omega) hq' (n11.old eq') (kyT_chg kt' (.of n11.same : Chg [] H10 H11) fun _ z => absurd z List.not_mem_nil) n11.at (by rw [List.map_append]; exact w12)
        refine ⟨_, _, rfl, (c10.trans (.of n11.same)).trans (.wr w12 (List.mem_of_getElem? hq')), ?_⟩
        rw [tk, List.map_append, ← List.append_assoc, eL]
        show FD H12 D3 qd (addsU (L ++ [(((j + 1 : Nat) : Int), (pl1, bl))]) (init0 da m.toNat))
        rw [addsU_snoc]
        exact h12
      · rintro σ' H10 ⟨v8, v9, rfl, c10, h10⟩
        walk_at "go"
        refine ⟨_, _, _, rfl, c9.trans c10, ?_⟩
        rw [List.length_map, ← lts, List.take_length] at h10
        rw [ps]
        unfold lawN
        rw [hs, if_pos rfl]
        exact h10
  · rintro σ' H5 ⟨v7, v8, v9, rfl, c5, h5⟩
    have s05 : Same H H5 := Same.chg s03 c5 fqs
    have ej : ((2 * (t : Int)) - 1).toNat = 2 * t - 1 := by omega
    rw [ej] at h5
    have ud := users_due (R := R) (da := da) (m := m.toNat) (nds := nds) (j := 2 * t - 1) mm
    rw [show 2 * t - 1 + 1 = 2 * t by omega, show ((m.toNat : Nat) : Int) = m by omega] at ud
    have D5 := D0.same s05
    walk_at "go"
    refine go_methD D5 (fun _ _ _ => rfl) ?_
    walk_at "go"
    refine p_writesE D5 ?_
    walk_at "go"
    refine p_users D5 (hL.same s05) hm hna hda ht room lR Nn pos fun A qa H6 s6 fA fqa h6 => ?_
    rw [ud] at h6
    generalize erows : addsU (lawL R da m nds (2 * t - 1)) (init0 da m.toNat) = rows at h5 h6 ud
    have lo : ∀ row ∈ rows, ∀ k ∈ row, LowK k := by
      rw [← erows]
      exact rows_low (fun x hx => by have := lawL_dat (R := R) (da := da) (m := m) (nds := nds) (j := 2 * t - 1) x hx; omega) mm
    have lrows : rows.length = m.toNat := by rw [← erows]; exact rl _
    have eA := h6.pp
    have D6 := D5.same s6
    walk_at "go"
    refine go_neSame h6.dp (h5.same s6).dp (shaped_fd lo) ?_
    walk_at "go"
    refine go_methD D6 (fun _ _ _ => rfl) ?_
    walk_at "go"
    refine p_writesE D6 ?_
    have nHL : ∀ {b : Addr}, H b = none → b ≠ HL := fun hb z => by rw [z, hH.hh] at hb; cases hb
    have f1 : ∀ v2 v4 v5 v6 v7 v8 v9 v10, toldTail K a E ⟨fun _ H' => Q .non H', Q, F0, F0⟩ [some (.ref d), some (.ref l), v2, some (.ref HL), v4, v5, v6, v7, v8, v9, v10, some (.ref A), none, none, none] H6 := fun v2 v4 v5 v6 v7 v8 v9 v10 => p_told_end D6 ((hL.same s05).same s6) hm hna hda ht room lR Nn pos ((hH.same s05).same s6) lH nn h6 (nHL (s05.free fA)) (fun z => nHL (s05.free (fqa _ z)) rfl) lo lrows fun ts' H7 c7 h7 l7 => k ts' H7 ((Chg.of (s05.trans s6)).trans c7) h7 l7
    unfold toldTail at f1
    repeat (first | exact f1 _ _ _ _ _ _ _ _ | walk_at "s")
end

end Bk

namespace Bk
open PySem L2 PyProof.Rows
/-! our own short tactics: h: what stands at a place; ne: two places; sm: what stood stands; z: a size; s: a step; go: steps -/
local macro_rules | `(tactic| walk_at "h") => `(tactic| first
  | assumption
  | exact New.at (by assumption)
  | exact Wr.at (by assumption)
  | (refine' New.old (by assumption) ?_; walk_at "h")
  | (refine' Same.at (by assumption) ?_; walk_at "h")
  | (refine' Wr.old (by assumption) ?_ ?_; walk_at "ne"; walk_at "h")
  | (refine' Chg.at (by assumption) ?_ ?_; walk_at "ni"; walk_at "h"))
local macro_rules | `(tactic| walk_at "ni") => `(tactic| first
  | exact ni_nil
  | assumption
  | (refine' ni_cons ?_ ?_; walk_at "ne"; walk_at "ni"))
local macro_rules | `(tactic| walk_at "ne") => `(tactic| first
  | assumption
  | exact Ne.symm (by assumption)
  | exact New.ne (by assumption) (by walk_at "h")
  | exact ne_none (by assumption) (by walk_at "h")
  | exact Ne.symm (ne_none (by assumption) (by walk_at "h"))
  | exact Ne.symm (New.ne (by assumption) (by walk_at "h")))
local macro_rules | `(tactic| walk_at "sm") => `(tactic| first
  | exact Same.refl _
  | assumption
  | (refine' Same.trans ?_ (New.same (by assumption)); walk_at "sm")
  | (refine' Same.trans ?_ (by assumption : Same _ _); walk_at "sm"))
local macro_rules | `(tactic| walk_at "z") => `(tactic| first
  | assumption
  | (rw [PySem.sizeLine_eq]; omega)
  | (rw [PySem.sizeLine_eq]; simp only [List.length_cons, List.length_nil, List.length_append, List.length_map, List.length_range, List.length_replicate, len_cut]; omega)
  | (rw [PySem.sizeLine_eq]; simp only [List.length_cons, List.length_nil, List.length_append, List.length_map, List.length_range, List.length_replicate, len_cut] at *; omega))
local macro_rules | `(tactic| walk_at "s") => `(tactic| first
  | (refine' Step.go ?_)
  | ((with_reducible refine' go_var ?h ?_); (case h => exact rfl))
  | ((with_reducible refine' go_name2 ?h ?_); (case h => (simp only [List.set_cons_zero, List.set_cons_succ]; exact rfl)))
  | ((with_reducible refine' go_name2 ?h ?_); (case h => exact rfl))
  | (with_reducible refine' go_if ?_)
  | (with_reducible refine' iteT ?_)
  | (with_reducible refine' iteF ?_)
  | ((with_reducible refine' go_Td ?h ?_); (case h => walk_at "pr"))
  | ((with_reducible refine' go_Fd ?h ?_); (case h => walk_at "pr"))
  | ((with_reducible refine' go_Tn ?h ?_); (case h => walk_at "pr"))
  | ((with_reducible refine' go_Fn ?h ?_); (case h => walk_at "pr"))
  | ((with_reducible refine' go_T ?h ?_); (case h => (first | decide | assumption | exact rfl)))
  | ((with_reducible refine' go_F ?h ?_); (case h => (first | decide | assumption | exact rfl)))
  | ((with_reducible refine' go_LstK ?h ?_); (case h => walk_at "z"); intro p H1 n1)
  | ((with_reducible refine' go_TupK ?h ?_); (case h => walk_at "z"); intro p H1 n1)
  | ((with_reducible refine' go_addL ?h ?k ?z ?_); (case h => walk_at "h"); (case k => walk_at "h"); (case z => walk_at "z"); intro p H1 n1)
  | ((with_reducible refine' go_mulI ?h ?_); (case h => (unfold CMul; omega)))
  | ((with_reducible refine' go_mulL ?h ?k ?_); (case h => walk_at "h"); (case k => (refine ⟨by omega, by omega, ?_⟩; walk_at "z")); intro p H1 n1)
  | ((with_reducible refine' go_div ?h ?_); (case h => (unfold CDiv; omega)))
  | ((with_reducible refine' go_mod ?h ?_); (case h => omega))
  | ((with_reducible refine' go_pow ?h ?_); (case h => (unfold CPow; omega)))
  | ((with_reducible refine' go_slL ?h ?_); (case h => walk_at "h"); intro p H1 n1)
  | ((with_reducible refine' go_ixL ?h ?k ?_); (case h => walk_at "h"); (case k => exact rfl))
  | ((with_reducible refine' go_ixT ?h ?k ?_); (case h => walk_at "h"); (case k => exact rfl))
  | ((with_reducible refine' go_slW ?h ?_); (case h => walk_at "h"))
  | ((with_reducible refine' go_bmL ?h ?_); (case h => walk_at "h"))
  | ((with_reducible refine' go_append ?h ?k ?_); (case h => walk_at "h"); (case k => walk_at "z"); intro H1 n1)
  | ((with_reducible refine' go_extend ?h ?k ?z ?_); (case h => walk_at "h"); (case k => walk_at "h"); (case z => walk_at "z"); intro H1 n1)
  | ((with_reducible refine' go_clear ?h ?_); (case h => walk_at "h"); intro H1 n1)
  | ((with_reducible refine' go_dnew ?_); intro p H1 n1)
  | ((with_reducible refine' go_lenL ?h ?_); (case h => walk_at "h"))
  | ((with_reducible refine' go_lenT ?h ?_); (case h => walk_at "h"))
  | ((with_reducible refine' go_lenK ?h ?_); (case h => walk_at "hk"))
  | ((with_reducible refine' go_listL ?h ?_); (case h => walk_at "h"); intro p H1 n1)
  | ((with_reducible refine' go_listT ?h ?_); (case h => walk_at "h"); intro p H1 n1)
  | ((with_reducible refine' go_tupleL ?h ?_); (case h => walk_at "h"); intro p H1 n1)
  | ((with_reducible refine' go_isi ?h ?k ?_); (case h => walk_at "ty"); (case k => exact kit_bb (by decide) (by decide)))
  | ((with_reducible refine' go_seqL ?h ?_); (case h => walk_at "h"))
  | ((with_reducible refine' go_seqT ?h ?_); (case h => walk_at "h"))
  | ((with_reducible refine' go_rng1K ?h ?_); (case h => omega))
  | ((with_reducible refine' go_rng2K ?h ?_); (case h => omega))
  | (with_reducible refine' go_raise ?_)
  | ((with_reducible refine' go_tupG ?h ?k ?_); (case h => walk_at "h"); (case k => exact rfl))
  | ((with_reducible refine' go_lstG ?h ?k ?_); (case h => walk_at "h"); (case k => exact rfl))
  | (with_reducible refine' go_tryAs ?_)
  | ((with_reducible refine' go_asT ?_); intro e he)
  | (with_reducible refine' go_asF ?_)
  | ((with_reducible refine' go_manyT ?_); intro e he)
  | (with_reducible refine' go_manyF ?_)
  | ((with_reducible refine' go_FldK ?h ?c ?n ?l ?_); (case h => walk_at "h"); (case c => infer_instance); (case n => infer_instance); (case l => exact rfl))
  | ((with_reducible refine' go_SFldK ?h ?c ?n ?l ?e ?_); (case h => walk_at "h"); (case c => infer_instance); (case n => infer_instance); (case l => exact Nat.le_of_ble_eq_true rfl); (case e => walk_at "pf"); intro H1 n1)
  | ((with_reducible refine' go_MethK 0 ?h ?l ?e ?_); (case h => walk_at "h"); (case l => exact rfl); (case e => exact rfl))
  | ((with_reducible refine' go_MethK 1 ?h ?l ?e ?_); (case h => walk_at "h"); (case l => exact rfl); (case e => exact rfl))
  | ((with_reducible refine' go_MethK 2 ?h ?l ?e ?_); (case h => walk_at "h"); (case l => exact rfl); (case e => exact rfl))
  | ((with_reducible refine' go_MethXK ?h ?l ?_); (case h => walk_at "h"); (case l => exact rfl))
  | ((with_reducible refine' go_DGetS ?h ?l ?_); (case h => walk_at "h"); (case l => exact rfl))
  | ((with_reducible refine' go_DPutS ?h ?l ?e ?_); (case h => walk_at "h"); (case l => exact Nat.le_of_ble_eq_true rfl); (case e => walk_at "pk"); intro H1 n1)
  | ((with_reducible refine' go_disp ?_); intro p H1 n1)
  | ((with_reducible refine' go_DispS ?h ?e ?l ?k ?j ?m ?_); (case h => walk_at "h"); (case e => exact rfl); (case l => exact Nat.le_of_ble_eq_true rfl); (case k => (simp only [unS]; exact rfl)); (case j => (simp only [List.map_cons, List.map_nil]; exact rfl)); (case m => decide +kernel); intro H1 n1)
  | ((with_reducible refine' go_ParK ?h ?_); (case h => (simp only [List.set_cons_zero, List.set_cons_succ]; exact rfl)))
  | ((with_reducible refine' go_setLi ?h ?k ?_); (case h => walk_at "h"); (case k => walk_at "ix"); intro H1 n1)
  | ((with_reducible refine' go_listYL ?h ?_); (case h => walk_at "h"))
  | ((with_reducible refine' go_maxD ?h ?_); (case h => walk_at "h"))
  | ((with_reducible refine' go_ListRK ?h ?_); (case h => omega); intro p H1 n1)
  | ((with_reducible refine' go_EnumL ?h ?_); (case h => walk_at "h"))
  | (with_reducible refine' go_isX ?_)
  | (with_reducible refine' go_isXt ?_)
  | ((with_reducible refine' go_DInI ?h ?_); (case h => walk_at "h"))
  | ((with_reducible refine' go_DNotInI ?h ?_); (case h => walk_at "h"))
  | ((with_reducible refine' go_DGet2K ?h ?_); (case h => walk_at "h"))
  | ((with_reducible refine' go_eqDE ?h ?k ?_); (case h => walk_at "h"); (case k => walk_at "h"))
  | ((with_reducible refine' go_neDE ?h ?k ?_); (case h => walk_at "h"); (case k => walk_at "h"))
  | ((with_reducible refine' go_insert ?h ?k ?l ?m ?_); (case h => walk_at "h"); (case k => walk_at "z"); (case l => omega); (case m => omega); intro H1 n1)
  | ((with_reducible refine' go_dnewT ?_); intro p H1 n1)
  | ((with_reducible refine' go_LstRevK ?h ?_); (case h => walk_at "h"); intro p H1 n1)
  | (with_reducible refine' go_gCons ?_))
local macro_rules | `(tactic| walk_at "pf") => `(tactic| first
  | exact putF_nil
  | exact putF_hit
  | (refine' putF_miss ?h ?k; (case h => decide +kernel); (case k => walk_at "pf")))
local macro_rules | `(tactic| walk_at "pk") => `(tactic| first
  | exact putK_nil
  | exact putK_hit (by (simp only [List.map_cons, List.map_nil]; decide +kernel))
  | (refine' putK_miss ?h ?k; (case h => decide +kernel); (case k => walk_at "pk")))
local macro_rules | `(tactic| walk_at "ix") => `(tactic| first
  | assumption
  | omega
  | (simp only [List.length_cons, List.length_nil, List.length_append, List.length_map, List.length_range, List.length_replicate, List.length_set] at *; omega))
local macro_rules | `(tactic| walk_at "pr") => `(tactic| first
  | assumption
  | decide
  | omega
  | exact rfl
  | (intro z; cases z; done))
local macro_rules | `(tactic| walk_at "hk") => `(tactic| first
  | assumption
  | exact seq' (by assumption) (by walk_at "sm"))
local macro_rules | `(tactic| walk_at "ty") => `(tactic| first
  | exact rfl
  | assumption
  | exact tyN_L (by walk_at "h")
  | exact tyN_T (by walk_at "h")
  | exact tyN_D (by walk_at "h"))
local macro_rules | `(tactic| walk_at "go") => `(tactic| repeat (walk_at "s"))
/-! ### k23: the law -/
/-- no part of what is held -/
def NotHd (H : Hp) (b : Addr) : Prop := NotTup H b ∧ ∀ A qa rows, FD H A qa rows → A ≠ b ∧ b ∉ qa
theorem FD.lst {H : Hp} {P : Addr} {qs : List Addr} {rows : List (List (List Key))} (h : FD H P qs rows) {q : Addr} (hq : q ∈ qs) : ∃ us row, H q = some (.lst (us.map V.ref)) ∧ KyT H row us := by
  obtain ⟨i, hi⟩ := List.mem_iff_getElem?.mp hq
  have li := (List.getElem?_eq_some_iff.mp hi).1
  obtain ⟨us, e, k⟩ := h.at_ i q _ hi (List.getElem?_eq_getElem (by rw [← h.len]; exact li))
  exact ⟨us, _, e, k⟩
theorem refs_inj {us ps : List Addr} (h : us.map V.ref = ps.map V.ref) : us = ps := List.map_inj_right (fun _ _ z => V.ref.inj z) |>.mp h
theorem NotHd.ins {H : Hp} {b C dx : Addr} {fs : List (Str × V)} (h : H b = some (.ins C dx fs)) : NotHd H b := by
  refine ⟨.ins h, fun A qa rows f => ⟨fun z => ?_, fun z => ?_⟩⟩
  · have := f.pp
    rw [z, h] at this; cases this
  · obtain ⟨us, _, e, _⟩ := f.lst z
    rw [h] at e; cases e
theorem NotHd.rows {H : Hp} {b : Addr} {ps : List Addr} (h : H b = some (.lst (ps.map V.ref))) (n : ps ≠ []) (hr : ∀ p ∈ ps, ∃ w : List Int, w ≠ [] ∧ H p = some (.lst (w.map V.int))) : NotHd H b := by
  refine ⟨.lst h, fun A qa rows f => ⟨fun z => ?_, fun z => ?_⟩⟩
  · have e := f.pp
    rw [z, h] at e
    have e := refs_inj (HO.lst.inj (Option.some.inj e))
    obtain ⟨p, hp⟩ := List.exists_mem_of_ne_nil _ n
    obtain ⟨w, hw, ew⟩ := hr p hp
    exact (f.notInts p (by rw [← e]; exact hp)).1 w hw ew
  · obtain ⟨us, row, e, ku⟩ := f.lst z
    rw [h] at e
    have e := refs_inj (HO.lst.inj (Option.some.inj e))
    subst e
    obtain ⟨p, hp⟩ := List.exists_mem_of_ne_nil _ n
    obtain ⟨w, hw, ew⟩ := hr p hp
    obtain ⟨j, hj⟩ := List.mem_iff_getElem?.mp hp
    obtain ⟨k', _, et⟩ := kyT_at ku hj
    rw [ew] at et; cases et
theorem HeldOne.chgN {S : List Addr} {H H' : Hp} {HL T : Addr} (h : HeldOne H HL T) (c : Chg S H H') (n : ∀ b ∈ S, NotHd H b) : HeldOne H' HL T := by
  obtain ⟨A, C, qa, qc, rows, e, f1, f2, lo, n1, n2, n3, n4⟩ := h
  have o : ∀ t ∈ S, NotTup H t := fun t ht => (n t ht).1
  exact ⟨A, C, qa, qc, rows, c.at (fun z => o T z _ e) e, f1.chg c (fun z => ((n A z).2 A qa rows f1).1 rfl) (fun q hq z => ((n q z).2 A qa rows f1).2 hq) o, f2.chg c (fun z => ((n C z).2 C qc rows f2).1 rfl) (fun q hq z => ((n q z).2 C qc rows f2).2 hq) o, lo, n1, n2, n3, n4⟩
theorem HdAt.chgN {S : List Addr} {H H' : Hp} {HL : Addr} {ts : List Addr} (h : HdAt H HL ts) (c : Chg S H H') (nl : HL ∉ S) (n : ∀ b ∈ S, NotHd H b) : HdAt H' HL ts := ⟨c.at nl h.hh, fun T hT => (h.one T hT).chgN c n⟩
theorem NodesR.set {R nds : List (List Int)} {na t j : Nat} {w : List Int} (h : NodesR R nds na t) (hj : j < t) (l8 : w.length = 8) : NodesR (R.set (na + j) (nds.getD (2 * j) [] ++ w)) (nds.set (2 * j + 1) w) na t := by
  have lR : na + j < R.length := (List.getElem?_eq_some_iff.mp (h.at_ j hj)).1
  have ln := h.len
  refine ⟨by rw [List.length_set]; exact ln, fun k hk => ?_, fun v hv => ?_⟩
  · have e0 : (nds.set (2 * j + 1) w).getD (2 * k) [] = nds.getD (2 * k) [] := by
      rw [List.getD_eq_getElem?_getD, List.getElem?_set_ne (by omega), ← List.getD_eq_getElem?_getD]
    rw [e0]
    by_cases c : k = j
    · subst c
      rw [List.getElem?_set_self lR]
      congr 2
      rw [List.getD_eq_getElem?_getD, List.getElem?_set_self (by omega)]; rfl
    · rw [List.getElem?_set_ne (by omega), h.at_ k hk]
      congr 2
      rw [List.getD_eq_getElem?_getD, List.getD_eq_getElem?_getD, List.getElem?_set_ne (by omega)]
  · rcases List.mem_or_eq_of_mem_set hv with hv | rfl
    · exact h.l8 v hv
    · exact l8
section
variable {K : PySem.W.Frag} {a : Ac} {H0 H H' : Hp} {Q : VK} {E : XK} [F : Fc K a] {script d d1 d2 r r1 r2 l q P P2 N N1 N2 HL q0 : Addr} {R R1 R2 nds oth : List (List Int)} {done done1 done2 m : Int} {t na da n : Nat} {w ns : List Int} {x : Int} {qs q1 q2 ts : List Addr}
omit F in
theorem DkEx.notHd (h : DkEx a [] H d r R done none) : ∀ b ∈ [d, r], NotHd H b := fun b hb => by
  obtain ⟨ps, h⟩ := h
  simp only [List.mem_cons, List.not_mem_nil, or_false] at hb
  rcases hb with rfl | rfl
  · obtain ⟨dx, e⟩ := h.dd
    exact .ins e
  · refine .rows h.rr (fun z => ?_) fun p hp => ?_
    · have := h.len
      have := h.toDiskAt.many
      rw [z] at *; simp at *; omega
    · obtain ⟨i, hi⟩ := List.mem_iff_getElem?.mp hp
      obtain ⟨row, e1, e2⟩ := h.row i p hi
      have := (h.toDiskAt.good row (List.mem_of_getElem? e1)).1
      exact ⟨row, by intro z; rw [z] at this; simp at this, e2⟩
omit F in
theorem RowsAt.notHd (h : RowsAt H P qs nds) (n : nds ≠ []) : NotHd H P := by
  refine .rows h.rr (fun z => n (List.length_eq_zero_iff.mp (by rw [← h.len, z]; rfl))) fun p hp => ?_
  obtain ⟨i, hi⟩ := List.mem_iff_getElem?.mp hp
  obtain ⟨row, _, e1, e2⟩ := h.row i p hi
  exact ⟨row, e1, e2⟩
omit F in
theorem rows_rev (h : RowsAt H P qs nds) (h0 : qs[0]? = some q0) (e : H P2 = some (.lst ((q0 :: (qs.drop 1).reverse).map V.ref))) : RowsAt H P2 (q0 :: (qs.drop 1).reverse) (nds.getD 0 [] :: (nds.drop 1).reverse) := by
  have ln := h.len
  refine ⟨e, by simp [ln], fun i p ei => ?_⟩
  cases i with
  | zero =>
    obtain rfl := Option.some.inj ei
    obtain ⟨row, f1, f2, f3⟩ := h.row 0 _ h0
    exact ⟨row, by rw [List.getD_eq_getElem?_getD, f1]; rfl, f2, f3⟩
  | succ i =>
    rw [List.getElem?_cons_succ] at ei
    have li := (List.getElem?_eq_some_iff.mp ei).1
    rw [List.length_reverse] at li
    rw [List.getElem?_reverse li, List.getElem?_drop] at ei
    obtain ⟨row, f1, f2, f3⟩ := h.row _ p ei
    refine ⟨row, ?_, f2, f3⟩
    rw [List.getElem?_cons_succ, List.getElem?_reverse (by simp at li ⊢; omega), List.getElem?_drop]
    rw [show (nds.drop 1).length = (qs.drop 1).length by simp [ln]]
    exact f1
/-- both disks, both lists of nodes, what was told -/
structure LawS (a : Ac) (H : Hp) (m : Int) (t na : Nat) (l d1 r1 d2 r2 N1 N2 HL : Addr) (R1 R2 nds oth : List (List Int)) (done1 done2 : Int) (q1 q2 ts : List Addr) : Prop where
  hL : LayAt a H l m t
  D1 : DkEx a [] H d1 r1 R1 done1 none
  D2 : DkEx a [] H d2 r2 R2 done2 none
  lR1 : (R1.length : Int) = m
  lR2 : (R2.length : Int) = m
  n1 : NodesR R1 nds na t
  n2 : NodesR R2 oth na t
  h1 : RowsAt H N1 q1 nds
  h2 : RowsAt H N2 q2 oth
  ok1 : ∀ w ∈ nds, w.length = 8 ∧ ∀ z ∈ w, OkW z
  ok2 : ∀ w ∈ oth, w.length = 8 ∧ ∀ z ∈ w, OkW z
  hH : HdAt H HL ts
  nn1 : d1 ≠ HL ∧ r1 ≠ HL ∧ l ≠ HL
  nn2 : d2 ≠ HL ∧ r2 ≠ HL ∧ l ≠ HL
  nN : N1 ≠ HL ∧ N2 ≠ HL
omit F in
theorem LawS.told {ts' : List Addr} (S : LawS a H m t na l d1 r1 d2 r2 N1 N2 HL R1 R2 nds oth done1 done2 q1 q2 ts) (c : Chg [HL] H H') (h : HdAt H' HL ts') : LawS a H' m t na l d1 r1 d2 r2 N1 N2 HL R1 R2 nds oth done1 done2 q1 q2 ts' := by
  have hn : ∀ b ∈ [HL], NotInts H b := fun b hb => by rw [List.mem_singleton.mp hb]; exact refs_not S.hH.hh
  obtain ⟨a1, a2, a3⟩ := S.nn1
  obtain ⟨b1, b2, _⟩ := S.nn2
  exact ⟨S.hL.chg c (by simpa using a3), S.D1.chg c (by simpa using a1) (by simpa using a2) hn, S.D2.chg c (by simpa using b1) (by simpa using b2) hn, S.lR1, S.lR2, S.n1, S.n2, S.h1.chg c (by simpa using S.nN.1) hn, S.h2.chg c (by simpa using S.nN.2) hn, S.ok1, S.ok2, h, S.nn1, S.nn2, S.nN⟩
theorem p_told1 (S : LawS a H m t na l d1 r1 d2 r2 N1 N2 HL R1 R2 nds oth done1 done2 q1 q2 ts) (hm : 24 ≤ m ∧ m ≤ 96) (hna : (na : Int) = 17 + (m + 16 - 1) / 16) (ht : 1 ≤ t ∧ t ≤ 8) (room : (na : Int) + t < m) (lH : ts.length ≤ 100)
    (k : ∀ ts' H', LawS a H' m t na l d1 r1 d2 r2 N1 N2 HL R1 R2 nds oth done1 done2 q1 q2 ts' → Chg [HL] H H' → ts'.length ≤ ts.length + 1 → Q (.bl true) H') : sp_L_is_told K a [.ref d1, .ref l, .ref N1, .ref HL] H Q E :=
  p_L_is_told (da := na + t) S.D1 S.hL hm hna rfl ht (by omega) S.lR1 S.n1 S.h1 S.ok1 S.hH lH S.nn1 fun ts' H' c h lt => k ts' H' (S.told c h) c lt
theorem p_told2 (S : LawS a H m t na l d1 r1 d2 r2 N1 N2 HL R1 R2 nds oth done1 done2 q1 q2 ts) (hm : 24 ≤ m ∧ m ≤ 96) (hna : (na : Int) = 17 + (m + 16 - 1) / 16) (ht : 1 ≤ t ∧ t ≤ 8) (room : (na : Int) + t < m) (lH : ts.length ≤ 100)
    (k : ∀ ts' H', LawS a H' m t na l d1 r1 d2 r2 N1 N2 HL R1 R2 nds oth done1 done2 q1 q2 ts' → Chg [HL] H H' → ts'.length ≤ ts.length + 1 → Q (.bl true) H') : sp_L_is_told K a [.ref d2, .ref l, .ref N2, .ref HL] H Q E :=
  p_L_is_told (da := na + t) S.D2 S.hL hm hna rfl ht (by omega) S.lR2 S.n2 S.h2 S.ok2 S.hH lH S.nn2 fun ts' H' c h lt => k ts' H' (S.told c h) c lt
theorem law_pure {vs : List V} (h : spLaw K vs H Q E) : sp_law K a vs H Q E := by
  obtain ⟨script, ns, rfl, hS, hl, qq⟩ := h
  refine in_law ?_
  unfold t_law
  walk_at "go"
  refine p_cell_at (ns := ns) hS (by omega) ?_
  walk_at "go"
  refine p_cell_at (ns := ns) hS (by omega) ?_
  walk_at "go"
  have c1 := Int.emod_nonneg (cellI ns 0) (show (73 : Int) ≠ 0 by omega)
  have c2 := Int.emod_lt_of_pos (cellI ns 0) (show (0 : Int) < 73 by omega)
  have c3 := Int.emod_nonneg (cellI ns 1) (show (8 : Int) ≠ 0 by omega)
  have c4 := Int.emod_lt_of_pos (cellI ns 1) (show (0 : Int) < 8 by omega)
  have hm : 24 ≤ 24 + cellI ns 0 % 73 ∧ 24 + cellI ns 0 % 73 ≤ 96 := by omega
  generalize 24 + cellI ns 0 % 73 = m at hm
  obtain ⟨t, et⟩ : ∃ t : Nat, (if m - 18 - (m + 15) / 16 < 1 + cellI ns 1 % 8 then m - 18 - (m + 15) / 16 else 1 + cellI ns 1 % 8) = (t : Int) := ⟨(if m - 18 - (m + 15) / 16 < 1 + cellI ns 1 % 8 then m - 18 - (m + 15) / 16 else 1 + cellI ns 1 % 8).toNat, by split <;> omega⟩
  have ht : 1 ≤ t ∧ t ≤ 8 := by split at et <;> omega
  have room : 17 + (m + 15) / 16 + (t : Int) < m := by split at et <;> omega
  obtain ⟨na, hna⟩ : ∃ na : Nat, (na : Int) = 17 + (m + 16 - 1) / 16 := ⟨(17 + (m + 16 - 1) / 16).toNat, by omega⟩
  rw [et]
  refine mk_Layout hm (by omega) (by omega) fun l H1 s1 ln hL => ?_
  walk_at "go"
  refine p_L_nodes (da := na + t) hL hm (by omega) ht (by omega) (s1.seq hS) fun N1 q1 nds H2 l2 ok1 s2 fN1 h1 => ?_
  have s02 := s1.trans s2
  have lq1 := h1.len
  have eq0 : q1[0]? = some (q1[0]'(by omega)) := List.getElem?_eq_getElem _
  generalize q1[0]'(by omega) = q0 at eq0
  have rr1 := h1.rr
  walk_at "go"
  refine go_ixAt rr1 (by omega) (v := .ref q0) (by rw [List.getElem?_map, show ((0 : Int)).toNat = 0 by omega, eq0]; rfl) ?_
  walk_at "go"
  rename_i p3 H3 n3 p4 H4 n4 p5 H5 n5
  have ec : cutV (q1.map V.ref) (some 1) none = (q1.drop 1).map V.ref := by rw [cut_drop _ (by omega), ← List.map_drop]; rfl
  rw [ec, ← List.map_reverse] at n5
  have e3 : H5 p3 = some (.lst [.ref q0]) := n5.old (n4.old n3.at)
  have e5 := n5.at
  refine go_addL e3 e5 (by rw [sizeLine_eq]; simp; omega) fun N2 H6 n6 => ?_
  have s26 : Same H2 H6 := ((n3.same.trans n4.same).trans n5.same).trans n6.same
  have fN2 : H2 N2 = none := ((n3.same.trans n4.same).trans n5.same).free n6.free
  have e6 : H6 N2 = some (.lst ((q0 :: (q1.drop 1).reverse).map V.ref)) := by rw [n6.at]; rfl
  have h16 := h1.same s26
  have h2 := rows_rev h16 eq0 e6
  have okm : ∀ w ∈ nds.getD 0 [] :: (nds.drop 1).reverse, w ∈ nds := fun w hw => by
    rcases List.mem_cons.mp hw with rfl | hw
    · rw [List.getD_eq_getElem?_getD, List.getElem?_eq_getElem (by omega)]
      exact List.getElem_mem _
    · exact List.mem_of_mem_drop (List.mem_reverse.mp hw)
  have l2o : (nds.getD 0 [] :: (nds.drop 1).reverse).length = 2 * t := by simp; omega
  generalize nds.getD 0 [] :: (nds.drop 1).reverse = oth at h2 okm l2o
  generalize q0 :: (q1.drop 1).reverse = q2 at h2
  have ok2 : ∀ w ∈ oth, w.length = 8 ∧ ∀ z ∈ w, OkW z := fun w hw => ok1 w (okm w hw)
  have s06 := s02.trans s26
  have hL6 := hL.same (s2.trans s26)
  walk_at "go"
  refine p_L_written (na := na) (da := na + t) hL6 hm hna rfl ht (by omega) (s06.seq hS) h16 l2 ok1 fun d1 r1 R1 done1 H7 s7 fd1 fr1 D1 lR1 nn1 => ?_
  walk_at "go"
  refine p_L_written (na := na) (da := na + t) (hL6.same s7) hm hna rfl ht (by omega) ((s06.trans s7).seq hS) (h2.same s7) l2o ok2 fun d2 r2 R2 done2 H8 s8 fd2 fr2 D2 lR2 nn2 => ?_
  walk_at "go"
  rename_i HL H9 n9
  have s09 := ((s06.trans s7).trans s8).trans n9.same
  have s29 := (s7.trans s8).trans n9.same
  have fHL : ∀ {b : Addr} {o : HO}, H8 b = some o → b ≠ HL := fun e z => by rw [z, n9.free] at e; cases e
  obtain ⟨dx1, fs1, ed1⟩ := (D1.same s8).dd
  obtain ⟨dx2, fs2, ed2⟩ := D2.dd
  obtain ⟨ps1, X1⟩ := id (D1.same s8)
  obtain ⟨ps2, X2⟩ := id D2
  obtain ⟨dl, el8⟩ := (hL6.same s7).same s8
  have rr18 := (h16.same (s7.trans s8)).rr
  have rr28 := (h2.same (s7.trans s8)).rr
  have S9 : LawS a H9 m t na l d1 r1 d2 r2 N1 N2 HL R1 R2 nds oth done1 done2 q1 q2 [] := ⟨hL6.same s29, (D1.same s8).same n9.same, D2.same n9.same, lR1, lR2, nn1, nn2, h16.same s29, h2.same s29, ok1, ok2, ⟨n9.at, fun T hT => absurd hT List.not_mem_nil⟩, ⟨fHL ed1, fHL X1.rr, fHL el8⟩, ⟨fHL ed2, fHL X2.rr, fHL el8⟩, ⟨fHL rr18, fHL rr28⟩⟩
  have fr : ∀ b ∈ [HL], H b = none := fun b hb => by rw [List.mem_singleton.mp hb]; exact ((s06.trans s7).trans s8).free n9.free
  have nr1 : ∀ {b : Addr}, H6 b = none → b ≠ N1 := fun e z => by rw [z, h16.rr] at e; cases e
  have ne12 : d1 ≠ N1 ∧ r1 ≠ N1 ∧ d2 ≠ N1 ∧ r2 ≠ N1 ∧ N2 ≠ N1 := ⟨nr1 fd1, nr1 fr1, nr1 (s7.free fd2), nr1 (s7.free fr2), fun z => by rw [z, h1.rr] at fN2; cases fN2⟩
  have neD : d2 ∉ [d1, r1] ∧ r2 ∉ [d1, r1] := by
    have k1 := D1.fresh fd2
    have k2 := D1.fresh fr2
    exact ⟨by simp only [List.mem_cons, List.not_mem_nil, or_false]; exact fun z => z.elim k1.1 k1.2, by simp only [List.mem_cons, List.not_mem_nil, or_false]; exact fun z => z.elim k2.1 k2.2⟩
  have nNd : N1 ∉ [d1, r1] ∧ N2 ∉ [d1, r1] ∧ l ∉ [d1, r1] := by
    obtain ⟨dl, el6⟩ := id hL6
    have z1 : ∀ {b : Addr} {o : HO}, H6 b = some o → b ∉ [d1, r1] := fun e z => by
      simp only [List.mem_cons, List.not_mem_nil, or_false] at z
      rcases z with rfl | rfl
      · rw [e] at fd1; cases fd1
      · rw [e] at fr1; cases fr1
    exact ⟨z1 h16.rr, z1 h2.rr, z1 el6⟩
  clear s7 s8 s26 s2 s1 n3 n4 n5 n6 X1 X2 el8 rr18 rr28 ed1 ed2 D1 D2 nn1 nn2 h16 h2 h1 e6 e5 e3 hL6 hL rr1
  refine for_R (fun j σ' H' => ∃ ts, σ'[10]? = some none ∧ (∃ v9, σ' = [some (.ref script), some (.int m), some (.int t), some (.ref l), some (.ref N1), some (.ref N2), some (.ref d1), some (.ref d2), some (.ref HL), v9, none]) ∧ Chg [HL] H9 H' ∧ LawS a H' m t na l d1 r1 d2 r2 N1 N2 HL R1 R2 nds oth done1 done2 q1 q2 ts ∧ ts.length ≤ 2 * j) ⟨[], rfl, ⟨_, rfl⟩, .refl, S9, Nat.zero_le _⟩ ?_ ?_
  · rintro j σ' H10 hj ⟨ts, _, ⟨v9, rfl⟩, c10, S10, lt⟩
    simp only [List.set_cons_zero, List.set_cons_succ]
    walk_at "go"
    refine p_told1 S10 hm hna ht (by omega) (by omega) fun ts1 H11 S11 c11 lt1 => ?_
    walk_at "go"
    refine p_told2 S11 hm hna ht (by omega) (by omega) fun ts2 H12 S12 c12 lt2 => ?_
    walk_at "go"
    exact ⟨ts2, rfl, ⟨_, rfl⟩, (c10.trans c11).trans c12, S12, by omega⟩
  · rintro σ' H10 ⟨ts, _, ⟨v9, rfl⟩, c10, S10, lt⟩
    have s10 : Same H H10 := Same.chg s09 c10 fr
    have t0 : (0 : Int) < (t : Int) := by omega
    walk_at "go"
    refine p_cell_at (ns := ns) (s10.seq hS) (by omega) ?_
    walk_at "go"
    have e1 := Int.emod_nonneg (cellI ns 45) (show (t : Int) ≠ 0 by omega)
    have e2 := Int.emod_lt_of_pos (cellI ns 45) t0
    obtain ⟨j, ej⟩ : ∃ j : Nat, cellI ns 45 % (t : Int) = j := ⟨(cellI ns 45 % (t : Int)).toNat, by omega⟩
    rw [ej] at e1 e2 ⊢
    have lq1 := S10.h1.len
    have lq2 := S10.h2.len
    have eqq : q2[2 * j + 1]? = some (q2[2 * j + 1]'(by omega)) := List.getElem?_eq_getElem _
    generalize q2[2 * j + 1]'(by omega) = p at eqq
    obtain ⟨w, fw, w0, ew⟩ := S10.h2.row _ _ eqq
    have lw := S10.ok2 w (List.mem_of_getElem? fw)
    refine go_ixAt S10.h2.rr (by omega) (v := .ref p) (by rw [List.getElem?_map, show (2 * (j : Int) + 1).toNat = 2 * j + 1 by omega, eqq]; rfl) ?_
    have rr1 := S10.h1.rr
    walk_at "go"
    rename_i H11 w11
    rw [show (2 * (j : Int) + 1).toNat = 2 * j + 1 by omega] at w11
    have h1' := S10.h1.setR (j := 2 * j + 1) ew w0 w11
    have c11 : Chg [N1] H10 H11 := .wr w11 (by simp)
    have hn : ∀ b ∈ [N1], NotInts H10 b := fun b hb => by rw [List.mem_singleton.mp hb]; exact refs_not rr1
    obtain ⟨x1, x2, x3, x4, x5⟩ := ne12
    have D1 := S10.D1.chg c11 (by simpa using x1) (by simpa using x2) hn
    have D2 := S10.D2.chg c11 (by simpa using x3) (by simpa using x4) hn
    have h2' := S10.h2.chg c11 (by simpa using x5) hn
    have nds0 : nds ≠ [] := fun z => by rw [z] at l2; simp at l2; omega
    have hH' := S10.hH.chgN c11 (by simpa using S10.nN.1.symm) fun b hb => by rw [List.mem_singleton.mp hb]; exact S10.h1.notHd nds0
    have hLN : l ≠ N1 := fun z => by
      obtain ⟨dl, el⟩ := S10.hL
      rw [z, rr1] at el; cases el
    have hL' := S10.hL.chg c11 (by simpa using hLN)
    obtain ⟨dl, el⟩ := id hL'
    rw [← hna] at el
    have g0 : ∃ v p0, (q1.set (2 * j + 1) p)[2 * j]? = some p0 ∧ nds.getD (2 * j) [] = v ∧ H11 p0 = some (.lst (v.map V.int)) ∧ v.length = 8 ∧ ∀ z ∈ v, OkW z := by
      have ep : (q1.set (2 * j + 1) p)[2 * j]? = some (q1[2 * j]'(by omega)) := by rw [List.getElem?_set_ne (by omega)]; exact List.getElem?_eq_getElem _
      obtain ⟨row, f1, f2, f3⟩ := h1'.row _ _ ep
      rw [List.getElem?_set_ne (by omega)] at f1
      have := S10.ok1 row (List.mem_of_getElem? f1)
      exact ⟨row, _, ep, by rw [List.getD_eq_getElem?_getD, f1]; rfl, f3, this.1, this.2⟩
    obtain ⟨v, p0, ep0, ev, ev0, lv, okv⟩ := g0
    have ep1 : (q1.set (2 * j + 1) p)[2 * j + 1]? = some p := List.getElem?_set_self (by omega)
    have ew1 : H11 p = some (.lst (w.map V.int)) := by
      obtain ⟨row, f1, f2, f3⟩ := h1'.row _ _ ep1
      rw [List.getElem?_set_self (by omega)] at f1
      obtain rfl := Option.some.inj f1
      exact f3
    have lq' := h1'.len
    have lR := S10.lR1
    walk_at "go"
    refine go_methD D1 (fun _ _ _ => rfl) ?_
    walk_at "go"
    refine go_ixAt h1'.rr (by omega) (v := .ref p0) (by rw [List.getElem?_map, show (2 * (j : Int)).toNat = 2 * j by omega, ep0]; rfl) ?_
    walk_at "go"
    refine go_ixAt h1'.rr (by omega) (v := .ref p) (by rw [List.getElem?_map, show (2 * (j : Int) + 1).toNat = 2 * j + 1 by omega, ep1]; rfl) ?_
    walk_at "go"
    rename_i p12 H12 n12
    have e12 : H12 p12 = some (.lst ((v ++ w).map V.int)) := by rw [n12.at, List.map_append]
    have D1' := D1.same n12.same
    refine p_writeF D1' (by omega) (by omega) e12 ⟨by rw [List.length_append]; omega, fun z hz => (List.mem_append.mp hz).elim (okv z) (lw.2 z)⟩ fun H13 c13 D13 => ?_
    have own : ∀ b ∈ [d1, r1], NotInts H12 b := fun b hb => (D1'.own b hb).1
    have hds := D1'.notHd
    have nHL : HL ∉ [d1, r1] := by
      simp only [List.mem_cons, List.not_mem_nil, or_false]
      exact fun z => z.elim S10.nn1.1.symm S10.nn1.2.1.symm
    have n1' := S10.n1.set (j := j) (w := w) (by omega) lw.1
    rw [ev] at n1'
    rw [show ((na : Int) + (j : Int)).toNat = na + j by omega] at D13
    have S13 : LawS a H13 m t na l d1 r1 d2 r2 N1 N2 HL (R1.set (na + j) (v ++ w)) R2 (nds.set (2 * j + 1) w) oth (done1 + 1) done2 (q1.set (2 * j + 1) p) q2 ts :=
      ⟨(hL'.same n12.same).chg c13 nNd.2.2, D13, (D2.same n12.same).chg c13 neD.1 neD.2 own, by rw [List.length_set]; exact lR, S10.lR2, n1', S10.n2, (h1'.same n12.same).chg c13 nNd.1 own, (h2'.same n12.same).chg c13 nNd.2.1 own, fun z hz => by
        rcases List.mem_or_eq_of_mem_set hz with hz | rfl
        · exact S10.ok1 z hz
        · exact lw, S10.ok2, (hH'.same n12.same).chgN c13 nHL hds, S10.nn1, S10.nn2, S10.nN⟩
    walk_at "go"
    refine p_told1 S13 hm hna ht (by omega) (by omega) fun ts1 H14 S14 c14 lt1 => ?_
    walk_at "go"
    refine p_told2 S14 hm hna ht (by omega) (by omega) fun ts2 H15 S15 c15 lt2 => ?_
    walk_at "go"
    exact qq _
end

end Bk

namespace Bk
open PySem L2 PyProof.Rows
def topS (i : Nat) : Stmt := PySem.Challenge.pw_blockkeep_k23_users_of_blocks.main.body.getD i (.Pass ⟨0, 0, 0, 0⟩)
abbrev s__wall : Stmt := topS 0
abbrev s_is_word : Stmt := topS 11
abbrev s_is_row : Stmt := topS 12
abbrev s_need_row : Stmt := topS 13
abbrev s_empty_row : Stmt := topS 14
abbrev s_node_rows : Stmt := topS 23
abbrev s_is_kind_bad : Stmt := topS 24
abbrev s_is_size_bad : Stmt := topS 25
abbrev s_is_sound : Stmt := topS 26
abbrev s_is_data : Stmt := topS 27
abbrev s_wanted_blocks : Stmt := topS 28
abbrev s_places_told : Stmt := topS 29
abbrev s_users : Stmt := topS 30
abbrev s_is_many : Stmt := topS 34
abbrev s_Disk_init : Stmt := inClass (topS 35) 0
abbrev s_Disk_blocks : Stmt := inClass (topS 35) 1
abbrev s_Disk_need : Stmt := inClass (topS 35) 2
abbrev s_Disk_read : Stmt := inClass (topS 35) 3
abbrev s_Disk_write : Stmt := inClass (topS 35) 4
abbrev s_Disk_writes : Stmt := inClass (topS 35) 5
abbrev s_Disk_stop_after : Stmt := inClass (topS 35) 6
abbrev s_Disk_go_on : Stmt := inClass (topS 35) 7
abbrev s_Disk_twin : Stmt := inClass (topS 35) 8
abbrev s_is_tables : Stmt := topS 39
abbrev s_Layout_init : Stmt := inClass (topS 40) 0
abbrev s_Layout_most_node : Stmt := inClass (topS 40) 1
abbrev s_L_cell_at : Stmt := topS 42
abbrev s_L_size : Stmt := topS 43
abbrev s_L_block : Stmt := topS 44
abbrev s_L_words : Stmt := topS 45
abbrev s_L_places : Stmt := topS 46
abbrev s_L_is_sound : Stmt := topS 47
abbrev s_L_nodes : Stmt := topS 48
abbrev s_L_written : Stmt := topS 49
abbrev s_L_is_told : Stmt := topS 50
abbrev s_law : Stmt := topS 51
structure Ad where
  (f__wall f_is_word f_is_row f_need_row f_empty_row f_node_rows f_is_kind_bad f_is_size_bad f_is_sound f_is_data f_wanted_blocks f_places_told f_users f_is_many f_Disk_init f_Disk_blocks f_Disk_need f_Disk_read f_Disk_write f_Disk_writes f_Disk_stop_after f_Disk_go_on f_Disk_twin f_is_tables f_Layout_init f_Layout_most_node f_L_cell_at f_L_size f_L_block f_L_words f_L_places f_L_is_sound f_L_nodes f_L_written f_L_is_told f_law : Addr)
  (fd__wall fd_is_word fd_is_row fd_need_row fd_empty_row fd_node_rows fd_is_kind_bad fd_is_size_bad fd_is_sound fd_is_data fd_wanted_blocks fd_places_told fd_users fd_is_many fd_Disk_init fd_Disk_blocks fd_Disk_need fd_Disk_read fd_Disk_write fd_Disk_writes fd_Disk_stop_after fd_Disk_go_on fd_Disk_twin fd_is_tables fd_Layout_init fd_Layout_most_node fd_L_cell_at fd_L_size fd_L_block fd_L_words fd_L_places fd_L_is_sound fd_L_nodes fd_L_written fd_L_is_told fd_law : FuncData)
structure Tx (K : PySem.W.Frag) (mg : Str → Option Value) (a : Ac) (b : Ad) : Prop where
  g_WIDE : ∃ u, mg "WIDE" = some u ∧ RelV (.int 16) u
  g_MOST_WORD : ∃ u, mg "MOST_WORD" = some u ∧ RelV (.int 999999999) u
  g_FILE : ∃ u, mg "FILE" = some u ∧ RelV (.int 1) u
  g_FOLDER : ∃ u, mg "FOLDER" = some u ∧ RelV (.int 2) u
  g_MOST_SIZE : ∃ u, mg "MOST_SIZE" = some u ∧ RelV (.int 320) u
  g_NODE_WORDS : ∃ u, mg "NODE_WORDS" = some u ∧ RelV (.int 8) u
  g_NEAR_PLACES : ∃ u, mg "NEAR_PLACES" = some u ∧ RelV (.int 4) u
  g_FAR_PLACE : ∃ u, mg "FAR_PLACE" = some u ∧ RelV (.int (-1)) u
  g_TOP_NODE : ∃ u, mg "TOP_NODE" = some u ∧ RelV (.int 1) u
  g_LEAST_BLOCKS : ∃ u, mg "LEAST_BLOCKS" = some u ∧ RelV (.int 24) u
  g_MOST_BLOCKS : ∃ u, mg "MOST_BLOCKS" = some u ∧ RelV (.int 96) u
  g_MAPS_AT : ∃ u, mg "MAPS_AT" = some u ∧ RelV (.int 17) u
  g_MOST_TABLES : ∃ u, mg "MOST_TABLES" = some u ∧ RelV (.int 8) u
  n_all : mg "all" = none
  n_bool : mg "bool" = none
  n_enumerate : mg "enumerate" = none
  n_int : mg "int" = none
  n_isinstance : mg "isinstance" = none
  n_len : mg "len" = none
  n_list : mg "list" = none
  n_min : mg "min" = none
  n_range : mg "range" = none
  n_reversed : mg "reversed" = none
  n_sorted : mg "sorted" = none
  g__wall : mg "_wall" = some (.ref b.f__wall)
  k__wall : PySem.W.keepIn K (.ref b.f__wall) = true
  F__wall : Fun K "_wall" "_wall" s__wall b.f__wall b.fd__wall
  b__wall : Binds K b.fd__wall ["k"] []
  g_is_word : mg "is_word" = some (.ref b.f_is_word)
  k_is_word : PySem.W.keepIn K (.ref b.f_is_word) = true
  F_is_word : Fun K "is_word" "is_word" s_is_word b.f_is_word b.fd_is_word
  b_is_word : Binds K b.fd_is_word ["thing"] []
  g_is_row : mg "is_row" = some (.ref b.f_is_row)
  k_is_row : PySem.W.keepIn K (.ref b.f_is_row) = true
  F_is_row : Fun K "is_row" "is_row" s_is_row b.f_is_row b.fd_is_row
  b_is_row : Binds K b.fd_is_row ["thing"] []
  g_need_row : mg "need_row" = some (.ref b.f_need_row)
  k_need_row : PySem.W.keepIn K (.ref b.f_need_row) = true
  F_need_row : Fun K "need_row" "need_row" s_need_row b.f_need_row b.fd_need_row
  b_need_row : Binds K b.fd_need_row ["thing"] []
  g_empty_row : mg "empty_row" = some (.ref b.f_empty_row)
  k_empty_row : PySem.W.keepIn K (.ref b.f_empty_row) = true
  F_empty_row : Fun K "empty_row" "empty_row" s_empty_row b.f_empty_row b.fd_empty_row
  b_empty_row : Binds K b.fd_empty_row [] []
  g_node_rows : mg "node_rows" = some (.ref b.f_node_rows)
  k_node_rows : PySem.W.keepIn K (.ref b.f_node_rows) = true
  F_node_rows : Fun K "node_rows" "node_rows" s_node_rows b.f_node_rows b.fd_node_rows
  b_node_rows : Binds K b.fd_node_rows ["disk", "layout"] []
  g_is_kind_bad : mg "is_kind_bad" = some (.ref b.f_is_kind_bad)
  k_is_kind_bad : PySem.W.keepIn K (.ref b.f_is_kind_bad) = true
  F_is_kind_bad : Fun K "is_kind_bad" "is_kind_bad" s_is_kind_bad b.f_is_kind_bad b.fd_is_kind_bad
  b_is_kind_bad : Binds K b.fd_is_kind_bad ["node", "words"] []
  g_is_size_bad : mg "is_size_bad" = some (.ref b.f_is_size_bad)
  k_is_size_bad : PySem.W.keepIn K (.ref b.f_is_size_bad) = true
  F_is_size_bad : Fun K "is_size_bad" "is_size_bad" s_is_size_bad b.f_is_size_bad b.fd_is_size_bad
  b_is_size_bad : Binds K b.fd_is_size_bad ["words"] []
  g_is_sound : mg "is_sound" = some (.ref b.f_is_sound)
  k_is_sound : PySem.W.keepIn K (.ref b.f_is_sound) = true
  F_is_sound : Fun K "is_sound" "is_sound" s_is_sound b.f_is_sound b.fd_is_sound
  b_is_sound : Binds K b.fd_is_sound ["node", "words"] []
  g_is_data : mg "is_data" = some (.ref b.f_is_data)
  k_is_data : PySem.W.keepIn K (.ref b.f_is_data) = true
  F_is_data : Fun K "is_data" "is_data" s_is_data b.f_is_data b.fd_is_data
  b_is_data : Binds K b.fd_is_data ["layout", "block"] []
  g_wanted_blocks : mg "wanted_blocks" = some (.ref b.f_wanted_blocks)
  k_wanted_blocks : PySem.W.keepIn K (.ref b.f_wanted_blocks) = true
  F_wanted_blocks : Fun K "wanted_blocks" "wanted_blocks" s_wanted_blocks b.f_wanted_blocks b.fd_wanted_blocks
  b_wanted_blocks : Binds K b.fd_wanted_blocks ["words"] []
  g_places_told : mg "places_told" = some (.ref b.f_places_told)
  k_places_told : PySem.W.keepIn K (.ref b.f_places_told) = true
  F_places_told : Fun K "places_told" "places_told" s_places_told b.f_places_told b.fd_places_told
  b_places_told : Binds K b.fd_places_told ["disk", "layout", "words"] []
  g_users : mg "users" = some (.ref b.f_users)
  k_users : PySem.W.keepIn K (.ref b.f_users) = true
  F_users : Fun K "users" "users" s_users b.f_users b.fd_users
  b_users : Binds K b.fd_users ["disk", "layout"] []
  g_is_many : mg "is_many" = some (.ref b.f_is_many)
  k_is_many : PySem.W.keepIn K (.ref b.f_is_many) = true
  F_is_many : Fun K "is_many" "is_many" s_is_many b.f_is_many b.fd_is_many
  b_is_many : Binds K b.fd_is_many ["thing"] []
  F_Disk_init : Fun K "__init__" "Disk.__init__" s_Disk_init b.f_Disk_init b.fd_Disk_init
  b_Disk_init : Binds K b.fd_Disk_init ["self", "many"] []
  mt_Disk_blocks : Meth K a.Disk "blocks" b.f_Disk_blocks
  F_Disk_blocks : Fun K "blocks" "Disk.blocks" s_Disk_blocks b.f_Disk_blocks b.fd_Disk_blocks
  b_Disk_blocks : Binds K b.fd_Disk_blocks ["self"] []
  mt_Disk_need : Meth K a.Disk "need" b.f_Disk_need
  F_Disk_need : Fun K "need" "Disk.need" s_Disk_need b.f_Disk_need b.fd_Disk_need
  b_Disk_need : Binds K b.fd_Disk_need ["self", "block"] []
  mt_Disk_read : Meth K a.Disk "read" b.f_Disk_read
  F_Disk_read : Fun K "read" "Disk.read" s_Disk_read b.f_Disk_read b.fd_Disk_read
  b_Disk_read : Binds K b.fd_Disk_read ["self", "block"] []
  mt_Disk_write : Meth K a.Disk "write" b.f_Disk_write
  F_Disk_write : Fun K "write" "Disk.write" s_Disk_write b.f_Disk_write b.fd_Disk_write
  b_Disk_write : Binds K b.fd_Disk_write ["self", "block", "row"] []
  mt_Disk_writes : Meth K a.Disk "writes" b.f_Disk_writes
  F_Disk_writes : Fun K "writes" "Disk.writes" s_Disk_writes b.f_Disk_writes b.fd_Disk_writes
  b_Disk_writes : Binds K b.fd_Disk_writes ["self"] []
  mt_Disk_stop_after : Meth K a.Disk "stop_after" b.f_Disk_stop_after
  F_Disk_stop_after : Fun K "stop_after" "Disk.stop_after" s_Disk_stop_after b.f_Disk_stop_after b.fd_Disk_stop_after
  b_Disk_stop_after : Binds K b.fd_Disk_stop_after ["self", "count"] []
  mt_Disk_go_on : Meth K a.Disk "go_on" b.f_Disk_go_on
  F_Disk_go_on : Fun K "go_on" "Disk.go_on" s_Disk_go_on b.f_Disk_go_on b.fd_Disk_go_on
  b_Disk_go_on : Binds K b.fd_Disk_go_on ["self"] []
  mt_Disk_twin : Meth K a.Disk "twin" b.f_Disk_twin
  F_Disk_twin : Fun K "twin" "Disk.twin" s_Disk_twin b.f_Disk_twin b.fd_Disk_twin
  b_Disk_twin : Binds K b.fd_Disk_twin ["self"] []
  g_is_tables : mg "is_tables" = some (.ref b.f_is_tables)
  k_is_tables : PySem.W.keepIn K (.ref b.f_is_tables) = true
  F_is_tables : Fun K "is_tables" "is_tables" s_is_tables b.f_is_tables b.fd_is_tables
  b_is_tables : Binds K b.fd_is_tables ["thing"] []
  F_Layout_init : Fun K "__init__" "Layout.__init__" s_Layout_init b.f_Layout_init b.fd_Layout_init
  b_Layout_init : Binds K b.fd_Layout_init ["self", "many", "tables"] []
  mt_Layout_most_node : Meth K a.Layout "most_node" b.f_Layout_most_node
  F_Layout_most_node : Fun K "most_node" "Layout.most_node" s_Layout_most_node b.f_Layout_most_node b.fd_Layout_most_node
  b_Layout_most_node : Binds K b.fd_Layout_most_node ["self"] []
  g_L_cell_at : mg "_law_cell_at" = some (.ref b.f_L_cell_at)
  k_L_cell_at : PySem.W.keepIn K (.ref b.f_L_cell_at) = true
  F_L_cell_at : Fun K "_law_cell_at" "_law_cell_at" s_L_cell_at b.f_L_cell_at b.fd_L_cell_at
  b_L_cell_at : Binds K b.fd_L_cell_at ["_law_script", "_law_k"] []
  g_L_size : mg "_law_size" = some (.ref b.f_L_size)
  k_L_size : PySem.W.keepIn K (.ref b.f_L_size) = true
  F_L_size : Fun K "_law_size" "_law_size" s_L_size b.f_L_size b.fd_L_size
  b_L_size : Binds K b.fd_L_size ["_law_cell", "_law_kind"] []
  g_L_block : mg "_law_block" = some (.ref b.f_L_block)
  k_L_block : PySem.W.keepIn K (.ref b.f_L_block) = true
  F_L_block : Fun K "_law_block" "_law_block" s_L_block b.f_L_block b.fd_L_block
  b_L_block : Binds K b.fd_L_block ["_law_cell", "_law_many", "_law_data_at"] []
  g_L_words : mg "_law_words" = some (.ref b.f_L_words)
  k_L_words : PySem.W.keepIn K (.ref b.f_L_words) = true
  F_L_words : Fun K "_law_words" "_law_words" s_L_words b.f_L_words b.fd_L_words
  b_L_words : Binds K b.fd_L_words ["_law_cell", "_law_more", "_law_many", "_law_data_at"] []
  g_L_places : mg "_law_places" = some (.ref b.f_L_places)
  k_L_places : PySem.W.keepIn K (.ref b.f_L_places) = true
  F_L_places : Fun K "_law_places" "_law_places" s_L_places b.f_L_places b.fd_L_places
  b_L_places : Binds K b.fd_L_places ["_law_disk", "_law_words_here", "_law_many", "_law_data_at"] []
  g_L_is_sound : mg "_law_is_sound" = some (.ref b.f_L_is_sound)
  k_L_is_sound : PySem.W.keepIn K (.ref b.f_L_is_sound) = true
  F_L_is_sound : Fun K "_law_is_sound" "_law_is_sound" s_L_is_sound b.f_L_is_sound b.fd_L_is_sound
  b_L_is_sound : Binds K b.fd_L_is_sound ["_law_node", "_law_words_here"] []
  g_L_nodes : mg "_law_nodes" = some (.ref b.f_L_nodes)
  k_L_nodes : PySem.W.keepIn K (.ref b.f_L_nodes) = true
  F_L_nodes : Fun K "_law_nodes" "_law_nodes" s_L_nodes b.f_L_nodes b.fd_L_nodes
  b_L_nodes : Binds K b.fd_L_nodes ["_law_script", "_law_layout"] []
  g_L_written : mg "_law_written" = some (.ref b.f_L_written)
  k_L_written : PySem.W.keepIn K (.ref b.f_L_written) = true
  F_L_written : Fun K "_law_written" "_law_written" s_L_written b.f_L_written b.fd_L_written
  b_L_written : Binds K b.fd_L_written ["_law_script", "_law_layout", "_law_nodes_here"] []
  g_L_is_told : mg "_law_is_told" = some (.ref b.f_L_is_told)
  k_L_is_told : PySem.W.keepIn K (.ref b.f_L_is_told) = true
  F_L_is_told : Fun K "_law_is_told" "_law_is_told" s_L_is_told b.f_L_is_told b.fd_L_is_told
  b_L_is_told : Binds K b.fd_L_is_told ["_law_disk", "_law_layout", "_law_nodes_here", "_law_held"] []
  g_law : mg "law" = some (.ref b.f_law)
  k_law : PySem.W.keepIn K (.ref b.f_law) = true
  F_law : Fun K "law" "law" s_law b.f_law b.fd_law
  b_law : Binds K b.fd_law ["_law_script"] []
  g_Disk : mg "Disk" = some (.ref a.Disk)
  c_Disk : Cls K a.Disk
  m_Disk : Mk K a.Disk b.f_Disk_init
  na_Disk_done : NoAttr K a.Disk "done"
  na_Disk_left : NoAttr K a.Disk "left"
  na_Disk_rows : NoAttr K a.Disk "rows"
  g_Layout : mg "Layout" = some (.ref a.Layout)
  c_Layout : Cls K a.Layout
  m_Layout : Mk K a.Layout b.f_Layout_init
  na_Layout_data_at : NoAttr K a.Layout "data_at"
  na_Layout_many : NoAttr K a.Layout "many"
  na_Layout_maps_at : NoAttr K a.Layout "maps_at"
  na_Layout_nodes_at : NoAttr K a.Layout "nodes_at"
  na_Layout_tables : NoAttr K a.Layout "tables"
  g_KeepError : mg "KeepError" = some (.ref a.KeepError)
  x_KeepError : ExOk K a.KeepError
  g_BadRow : mg "BadRow" = some (.ref a.BadRow)
  x_BadRow : ExOk K a.BadRow
  g_NoBlock : mg "NoBlock" = some (.ref a.NoBlock)
  x_NoBlock : ExOk K a.NoBlock
  g_Stopped : mg "Stopped" = some (.ref a.Stopped)
  x_Stopped : ExOk K a.Stopped
  g_BadDisk : mg "BadDisk" = some (.ref a.BadDisk)
  x_BadDisk : ExOk K a.BadDisk
  g_NoRoom : mg "NoRoom" = some (.ref a.NoRoom)
  x_NoRoom : ExOk K a.NoRoom
section
variable {P : Program} {w : World} {K : PySem.W.Frag} {mg : Str → Option Value} {base : Heap} {a : Ac} {b : Ad}
theorem sc_is_word : FnScope ["thing"] ["thing"] (defScope s_is_word) := ⟨rfl, rfl, rfl, by decide +kernel, rfl, by decide +kernel, by decide +kernel⟩
theorem ok_is_word (T : Tx K mg a b) : FnOk P w K mg base (L2N.CX P w) 2 b.f_is_word b.fd_is_word ["thing"] (sp_is_word K a) := by
  refine okN (k := 1) (t := t_is_word K a) T.F_is_word sc_is_word (fun cdv A outer s H E hr => ?_)
  exact pss_one (ps_ret (pe_and (pe_callB call_isi (by rfl) T.n_isinstance (by decide +kernel) (pa_cons (pv 0) (pa_cons (pe_bltn (by rfl) T.n_int (by decide +kernel) rfl) (pa_nil)))) (pe_and (pe_not (pe_callB call_isi (by rfl) T.n_isinstance (by decide +kernel) (pa_cons (pv 0) (pa_cons (pe_bltn (by rfl) T.n_bool (by decide +kernel) rfl) (pa_nil))))) (pe_one (pe_chain op_leP op_leP (pe_int) (pv 0) (pe_gl rfl T.g_MOST_WORD))))))
theorem sc_empty_row : FnScope [] [] (defScope s_empty_row) := ⟨rfl, rfl, rfl, by decide +kernel, rfl, by decide +kernel, by decide +kernel⟩
theorem ok_empty_row (T : Tx K mg a b) : FnOk P w K mg base (L2N.CX P w) 2 b.f_empty_row b.fd_empty_row [] (sp_empty_row K a) := by
  refine okN (k := 1) (t := t_empty_row K a) T.F_empty_row sc_empty_row (fun cdv A outer s H E hr => ?_)
  exact pss_one (ps_ret (pe_op op_mulP (pe_lst (pa_cons (pe_int) (pa_nil))) (pe_gl rfl T.g_WIDE)))
theorem sc_is_kind_bad : FnScope ["node", "words"] ["node", "words"] (defScope s_is_kind_bad) := ⟨rfl, rfl, rfl, by decide +kernel, rfl, by decide +kernel, by decide +kernel⟩
theorem ok_is_kind_bad (T : Tx K mg a b) : FnOk P w K mg base (L2N.CX P w) 2 b.f_is_kind_bad b.fd_is_kind_bad ["node", "words"] (sp_is_kind_bad K a) := by
  refine okN (k := 1) (t := t_is_kind_bad K a) T.F_is_kind_bad sc_is_kind_bad (fun cdv A outer s H E hr => ?_)
  exact pss_cons (ps_if (pt_cmpR (op_eqP hr) (pv 0) (pe_int) (by first | exact nomark _ | rfl)) (pss_one (ps_ret (pe_cmpR (op_neP hr) (pv 1) (pe_op op_mulP (pe_lst (pa_cons (pe_int) (pa_nil))) (pe_gl rfl T.g_NODE_WORDS)) (by first | exact nomark _ | rfl)))) (pss_nil)) (pss_cons (ps_if (pt_cmpR (op_eqP hr) (pv 0) (pe_gl rfl T.g_TOP_NODE) (by first | exact nomark _ | rfl)) (pss_one (ps_ret (pe_cmpR (op_neP hr) (pe_ix ix_P (pv 1) (pe_int) (fun _ _ => rfl)) (pe_gl rfl T.g_FOLDER) (by first | exact nomark _ | rfl)))) (pss_nil)) (pss_one (ps_ret (pe_cmpR op_gtP (pe_ix ix_P (pv 1) (pe_int) (fun _ _ => rfl)) (pe_gl rfl T.g_FOLDER) (by first | exact nomark _ | rfl)))))
theorem sc_is_size_bad : FnScope ["words"] ["words"] (defScope s_is_size_bad) := ⟨rfl, rfl, rfl, by decide +kernel, rfl, by decide +kernel, by decide +kernel⟩
theorem ok_is_size_bad (T : Tx K mg a b) : FnOk P w K mg base (L2N.CX P w) 2 b.f_is_size_bad b.fd_is_size_bad ["words"] (sp_is_size_bad K a) := by
  refine okN (k := 1) (t := t_is_size_bad K a) T.F_is_size_bad sc_is_size_bad (fun cdv A outer s H E hr => ?_)
  exact pss_one (ps_ret (pe_or (pe_cmpR op_gtP (pe_ix ix_P (pv 0) (pe_int) (fun _ _ => rfl)) (pe_gl rfl T.g_MOST_SIZE) (by first | exact nomark _ | rfl)) (pe_one (pe_and (pe_cmpR (op_eqP hr) (pe_ix ix_P (pv 0) (pe_int) (fun _ _ => rfl)) (pe_gl rfl T.g_FOLDER) (by first | exact nomark _ | rfl)) (pe_one (pe_cmpR op_gtP (pe_op op_modP (pe_ix ix_P (pv 0) (pe_int) (fun _ _ => rfl)) (pe_int)) (pe_int) (by first | exact nomark _ | rfl)))))))
theorem sc_is_data : FnScope ["layout", "block"] ["layout", "block"] (defScope s_is_data) := ⟨rfl, rfl, rfl, by decide +kernel, rfl, by decide +kernel, by decide +kernel⟩
theorem ok_is_data (T : Tx K mg a b) : FnOk P w K mg base (L2N.CX P w) 2 b.f_is_data b.fd_is_data ["layout", "block"] (sp_is_data K a) := by
  refine okN (k := 1) (t := t_is_data K a) T.F_is_data sc_is_data (fun cdv A outer s H E hr => ?_)
  exact pss_one (ps_ret (pe_chain op_leP op_ltP (pe_fld (pv 0) rfl) (pv 1) (pe_fld (pv 0) rfl)))
theorem sc_wanted_blocks : FnScope ["words"] ["words"] (defScope s_wanted_blocks) := ⟨rfl, rfl, rfl, by decide +kernel, rfl, by decide +kernel, by decide +kernel⟩
theorem ok_wanted_blocks (T : Tx K mg a b) : FnOk P w K mg base (L2N.CX P w) 2 b.f_wanted_blocks b.fd_wanted_blocks ["words"] (sp_wanted_blocks K a) := by
  refine okN (k := 1) (t := t_wanted_blocks K a) T.F_wanted_blocks sc_wanted_blocks (fun cdv A outer s H E hr => ?_)
  exact pss_one (ps_ret (pe_op op_divP (pe_op op_subP (pe_op op_addP (pe_ix ix_P (pv 0) (pe_int) (fun _ _ => rfl)) (pe_gl rfl T.g_WIDE)) (pe_int)) (pe_gl rfl T.g_WIDE)))
theorem sc_is_many : FnScope ["thing"] ["thing"] (defScope s_is_many) := ⟨rfl, rfl, rfl, by decide +kernel, rfl, by decide +kernel, by decide +kernel⟩
theorem ok_is_many (T : Tx K mg a b) : FnOk P w K mg base (L2N.CX P w) 2 b.f_is_many b.fd_is_many ["thing"] (sp_is_many K a) := by
  refine okN (k := 1) (t := t_is_many K a) T.F_is_many sc_is_many (fun cdv A outer s H E hr => ?_)
  exact pss_one (ps_ret (pe_and (pe_callB call_isi (by rfl) T.n_isinstance (by decide +kernel) (pa_cons (pv 0) (pa_cons (pe_bltn (by rfl) T.n_int (by decide +kernel) rfl) (pa_nil)))) (pe_and (pe_not (pe_callB call_isi (by rfl) T.n_isinstance (by decide +kernel) (pa_cons (pv 0) (pa_cons (pe_bltn (by rfl) T.n_bool (by decide +kernel) rfl) (pa_nil))))) (pe_one (pe_chain op_leP op_leP (pe_gl rfl T.g_LEAST_BLOCKS) (pv 0) (pe_gl rfl T.g_MOST_BLOCKS))))))
theorem sc_Disk_need : FnScope ["self", "block"] ["self", "block"] (defScope s_Disk_need) := ⟨rfl, rfl, rfl, by decide +kernel, rfl, by decide +kernel, by decide +kernel⟩
theorem ok_Disk_need (T : Tx K mg a b) : FnOk P w K mg base (L2N.CX P w) 2 b.f_Disk_need b.fd_Disk_need ["self", "block"] (sp_Disk_need K a) := by
  refine okN (k := 1) (t := t_Disk_need K a) T.F_Disk_need sc_Disk_need (fun cdv A outer s H E hr => ?_)
  exact pss_one (ps_if (PW.pt (pw_or (pt_not (pt_val (pe_callB call_isi (by rfl) T.n_isinstance (by decide +kernel) (pa_cons (pv 1) (pa_cons (pe_bltn (by rfl) T.n_int (by decide +kernel) rfl) (pa_nil)))))) (pw_or (pt_val (pe_callB call_isi (by rfl) T.n_isinstance (by decide +kernel) (pa_cons (pv 1) (pa_cons (pe_bltn (by rfl) T.n_bool (by decide +kernel) rfl) (pa_nil))))) (pw_or1 (pt_not (pt_chain op_leP op_ltP (pe_int) (pv 1) (pe_callB call_lenP (by rfl) T.n_len (by decide +kernel) (pa_cons (pe_fld (pv 0) rfl) (pa_nil))))))))) (pss_one (raiseE rfl (takesM rfl rfl rfl rfl) T.x_NoBlock T.g_NoBlock)) (pss_nil))
theorem sc_Disk_writes : FnScope ["self"] ["self"] (defScope s_Disk_writes) := ⟨rfl, rfl, rfl, by decide +kernel, rfl, by decide +kernel, by decide +kernel⟩
theorem ok_Disk_writes (T : Tx K mg a b) : FnOk P w K mg base (L2N.CX P w) 2 b.f_Disk_writes b.fd_Disk_writes ["self"] (sp_Disk_writes K a) := by
  refine okN (k := 1) (t := t_Disk_writes K a) T.F_Disk_writes sc_Disk_writes (fun cdv A outer s H E hr => ?_)
  exact pss_one (ps_ret (pe_fld (pv 0) rfl))
theorem sc_is_tables : FnScope ["thing"] ["thing"] (defScope s_is_tables) := ⟨rfl, rfl, rfl, by decide +kernel, rfl, by decide +kernel, by decide +kernel⟩
theorem ok_is_tables (T : Tx K mg a b) : FnOk P w K mg base (L2N.CX P w) 2 b.f_is_tables b.fd_is_tables ["thing"] (sp_is_tables K a) := by
  refine okN (k := 1) (t := t_is_tables K a) T.F_is_tables sc_is_tables (fun cdv A outer s H E hr => ?_)
  exact pss_one (ps_ret (pe_and (pe_callB call_isi (by rfl) T.n_isinstance (by decide +kernel) (pa_cons (pv 0) (pa_cons (pe_bltn (by rfl) T.n_int (by decide +kernel) rfl) (pa_nil)))) (pe_and (pe_not (pe_callB call_isi (by rfl) T.n_isinstance (by decide +kernel) (pa_cons (pv 0) (pa_cons (pe_bltn (by rfl) T.n_bool (by decide +kernel) rfl) (pa_nil))))) (pe_one (pe_chain op_leP op_leP (pe_int) (pv 0) (pe_gl rfl T.g_MOST_TABLES))))))
theorem sc_L_cell_at : FnScope ["_law_script", "_law_k"] ["_law_script", "_law_k"] (defScope s_L_cell_at) := ⟨rfl, rfl, rfl, by decide +kernel, rfl, by decide +kernel, by decide +kernel⟩
theorem ok_L_cell_at (T : Tx K mg a b) : FnOk P w K mg base (L2N.CX P w) 2 b.f_L_cell_at b.fd_L_cell_at ["_law_script", "_law_k"] (sp_L_cell_at K a) := by
  refine okN (k := 1) (t := t_L_cell_at K a) T.F_L_cell_at sc_L_cell_at (fun cdv A outer s H E hr => ?_)
  exact pss_cons (ps_if (pt_cmpR op_ltP (pv 1) (pe_callB call_lenP (by rfl) T.n_len (by decide +kernel) (pa_cons (pv 0) (pa_nil))) (by first | exact nomark _ | rfl)) (pss_one (ps_ret (pe_ix ix_P (pv 0) (pv 1) (fun _ _ => rfl)))) (pss_nil)) (pss_one (ps_ret (pe_int)))
theorem sc_L_size : FnScope ["_law_cell", "_law_kind", "_law_size_here"] ["_law_cell", "_law_kind"] (defScope s_L_size) := ⟨rfl, rfl, rfl, by decide +kernel, rfl, by decide +kernel, by decide +kernel⟩
theorem ok_L_size (T : Tx K mg a b) : FnOk P w K mg base (L2N.CX P w) 2 b.f_L_size b.fd_L_size ["_law_cell", "_law_kind"] (sp_L_size K a) := by
  refine okN (k := 1) (t := t_L_size K a) T.F_L_size sc_L_size (fun cdv A outer s H E hr => ?_)
  exact pss_cons (ps_set (i := 2) sc_L_size.nd rfl (by first | exact Or.inl rfl | exact Or.inr rfl) (pe_ix ix_P (pe_lst (pa_cons (pe_op op_modP (pv 0) (pe_int)) (pa_cons (pe_op op_modP (pv 0) (pe_int)) (pa_cons (pe_op op_mulP (pe_int) (pe_op op_modP (pv 0) (pe_int))) (pa_cons (pe_op op_addP (pe_int) (pe_op op_modP (pv 0) (pe_int))) (pa_nil)))))) (pe_op op_modP (pe_op op_divP (pv 0) (pe_int)) (pe_int)) (fun _ _ => rfl))) (pss_cons (ps_if (PW.pt (pw_and (pt_cmpR (op_eqP hr) (pv 1) (pe_int) (by first | exact nomark _ | rfl)) (pw_and1 (pt_cmpR op_gtP (pe_op op_modP (pe_op op_divP (pv 0) (pe_int)) (pe_int)) (pe_int) (by first | exact nomark _ | rfl))))) (pss_one (ps_set (i := 2) sc_L_size.nd rfl (by first | exact Or.inl rfl | exact Or.inr rfl) (pe_op op_mulP (pe_op op_divP (pv 2) (pe_int)) (pe_int)))) (pss_nil)) (pss_one (ps_ret (pv 2))))
theorem sc_L_block : FnScope ["_law_cell", "_law_many", "_law_data_at"] ["_law_cell", "_law_many", "_law_data_at"] (defScope s_L_block) := ⟨rfl, rfl, rfl, by decide +kernel, rfl, by decide +kernel, by decide +kernel⟩
theorem ok_L_block (T : Tx K mg a b) : FnOk P w K mg base (L2N.CX P w) 2 b.f_L_block b.fd_L_block ["_law_cell", "_law_many", "_law_data_at"] (sp_L_block K a) := by
  refine okN (k := 1) (t := t_L_block K a) T.F_L_block sc_L_block (fun cdv A outer s H E hr => ?_)
  exact pss_cons (ps_if (pt_cmpR (op_eqP hr) (pe_op op_modP (pv 0) (pe_int)) (pe_int) (by first | exact nomark _ | rfl)) (pss_one (ps_ret (pe_ix ix_P (pe_lst (pa_cons (pe_int) (pa_cons (pe_int) (pa_cons (pe_int) (pa_cons (pe_op op_subP (pv 2) (pe_int)) (pa_cons (pv 1) (pa_cons (pe_op op_addP (pv 1) (pe_op op_modP (pe_op op_divP (pv 0) (pe_int)) (pe_op op_powP (pe_int) (pe_int)))) (pa_nil)))))))) (pe_op op_modP (pe_op op_divP (pv 0) (pe_int)) (pe_int)) (fun _ _ => rfl)))) (pss_nil)) (pss_one (ps_ret (pe_op op_addP (pv 2) (pe_op op_modP (pe_op op_divP (pv 0) (pe_int)) (pe_callB (call_min2 rfl) (by rfl) T.n_min (by decide +kernel) (pa_cons (pe_int) (pa_cons (pe_op op_subP (pv 1) (pv 2)) (pa_nil))))))))
theorem sc_L_is_sound : FnScope ["_law_node", "_law_words_here"] ["_law_node", "_law_words_here"] (defScope s_L_is_sound) := ⟨rfl, rfl, rfl, by decide +kernel, rfl, by decide +kernel, by decide +kernel⟩
theorem ok_L_is_sound (T : Tx K mg a b) : FnOk P w K mg base (L2N.CX P w) 2 b.f_L_is_sound b.fd_L_is_sound ["_law_node", "_law_words_here"] (sp_L_is_sound K a) := by
  refine okN (k := 1) (t := t_L_is_sound K a) T.F_L_is_sound sc_L_is_sound (fun cdv A outer s H E hr => ?_)
  exact pss_cons (ps_if (PW.pt (pw_or (pt_cmpR (op_eqP hr) (pv 0) (pe_int) (by first | exact nomark _ | rfl)) (pw_or (pt_cmpR op_notInP (pe_ix ix_P (pv 1) (pe_int) (fun _ _ => rfl)) (pe_tup (pa_cons (pe_int) (pa_cons (pe_int) (pa_nil)))) (by first | exact nomark _ | rfl)) (pw_or1 (PW.pt (pw_and (pt_cmpR (op_eqP hr) (pv 0) (pe_int) (by first | exact nomark _ | rfl)) (pw_and1 (pt_cmpR (op_eqP hr) (pe_ix ix_P (pv 1) (pe_int) (fun _ _ => rfl)) (pe_int) (by first | exact nomark _ | rfl))))))))) (pss_one (ps_ret (pe_bl))) (pss_nil)) (pss_one (ps_ret (pe_and (pe_cmpR op_leP (pe_ix ix_P (pv 1) (pe_int) (fun _ _ => rfl)) (pe_int) (by first | exact nomark _ | rfl)) (pe_one (pe_or (pe_cmpR (op_eqP hr) (pe_ix ix_P (pv 1) (pe_int) (fun _ _ => rfl)) (pe_int) (by first | exact nomark _ | rfl)) (pe_one (pe_cmpR (op_eqP hr) (pe_op op_modP (pe_ix ix_P (pv 1) (pe_int) (fun _ _ => rfl)) (pe_int)) (pe_int) (by first | exact nomark _ | rfl))))))))
theorem sc_is_row : FnScope ["thing", "word"] ["thing"] (defScope s_is_row) := ⟨rfl, rfl, rfl, by decide +kernel, rfl, by decide +kernel, by decide +kernel⟩
theorem ok_is_row (T : Tx K mg a b) : FnOk P w K mg base (L2N.CX P w) 3 b.f_is_row b.fd_is_row ["thing"] (sp_is_row K a) := by
  have G_is_word := ok_is_word (P := P) (w := w) (base := base) T
  refine okN (k := 2) (t := t_is_row K a) T.F_is_row sc_is_row (fun cdv A outer s H E hr => ?_)
  exact pss_one (ps_ret (pe_and (pe_callB call_isi (by rfl) T.n_isinstance (by decide +kernel) (pa_cons (pv 0) (pa_cons (pe_bltn (by rfl) T.n_list (by decide +kernel) rfl) (pa_nil)))) (pe_and (pe_cmpR (op_eqP hr) (pe_callB call_lenP (by rfl) T.n_len (by decide +kernel) (pa_cons (pv 0) (pa_nil))) (pe_gl rfl T.g_WIDE) (by first | exact nomark _ | rfl)) (pe_one (pe_callB (cr_all rfl) (by rfl) T.n_all (by decide +kernel) (pa_cons (pe_lc (own := [("word", 1)]) (g := gName 1) (tt := tYes) (te := tCallS (sp_is_word K a) (WE W0) (tCons (tVar 1) (tNil))) rfl sc_is_row.nd (pi_seqP (pv 0)) (blkOk_by (N := ["thing", "word"]) (sc := defScope s_is_row) (by decide +kernel)) (fun _ _ _ _ _ => pg_name (i := 1) sc_is_row.nd rfl (by first | exact Or.inl rfl | exact Or.inr rfl)) (fun _ _ _ _ _ => pts_nil) (fun _ _ _ _ _ => callE G_is_word takesN hr (by decide) rfl T.g_is_word T.k_is_word T.b_is_word (pa_cons (pv 1) (pa_nil)))) (pa_nil)))))))
theorem sc_is_sound : FnScope ["node", "words"] ["node", "words"] (defScope s_is_sound) := ⟨rfl, rfl, rfl, by decide +kernel, rfl, by decide +kernel, by decide +kernel⟩
theorem ok_is_sound (T : Tx K mg a b) : FnOk P w K mg base (L2N.CX P w) 3 b.f_is_sound b.fd_is_sound ["node", "words"] (sp_is_sound K a) := by
  have G_is_kind_bad := ok_is_kind_bad (P := P) (w := w) (base := base) T
  have G_is_size_bad := ok_is_size_bad (P := P) (w := w) (base := base) T
  refine okN (k := 2) (t := t_is_sound K a) T.F_is_sound sc_is_sound (fun cdv A outer s H E hr => ?_)
  exact pss_one (ps_ret (pe_and (pe_cmpR op_gtP (pv 0) (pe_int) (by first | exact nomark _ | rfl)) (pe_and (pe_cmpR op_inP (pe_ix ix_P (pv 1) (pe_int) (fun _ _ => rfl)) (pe_tup (pa_cons (pe_gl rfl T.g_FILE) (pa_cons (pe_gl rfl T.g_FOLDER) (pa_nil)))) (by first | exact nomark _ | rfl)) (pe_and (pe_not (callE G_is_kind_bad (takesM rfl rfl rfl rfl) hr (by decide) rfl T.g_is_kind_bad T.k_is_kind_bad T.b_is_kind_bad (pa_cons (pv 0) (pa_cons (pv 1) (pa_nil))))) (pe_one (pe_not (callE G_is_size_bad (takesM rfl rfl rfl rfl) hr (by decide) rfl T.g_is_size_bad T.k_is_size_bad T.b_is_size_bad (pa_cons (pv 1) (pa_nil)))))))))
theorem sc_Disk_init : FnScope ["self", "many", "k"] ["self", "many"] (defScope s_Disk_init) := ⟨rfl, rfl, rfl, by decide +kernel, rfl, by decide +kernel, by decide +kernel⟩
theorem ok_Disk_init (T : Tx K mg a b) : FnOk P w K mg base (L2N.CX P w) 3 b.f_Disk_init b.fd_Disk_init ["self", "many"] (sp_Disk_init K a) := by
  have G_empty_row := ok_empty_row (P := P) (w := w) (base := base) T
  have G_is_many := ok_is_many (P := P) (w := w) (base := base) T
  refine okN (k := 2) (t := t_Disk_init K a) T.F_Disk_init sc_Disk_init (fun cdv A outer s H E hr => ?_)
  exact pss_cons (ps_if (pt_not (pt_val (callE G_is_many (takesM rfl rfl rfl rfl) hr (by decide) rfl T.g_is_many T.k_is_many T.b_is_many (pa_cons (pv 1) (pa_nil))))) (pss_one (raiseE rfl (takesM rfl rfl rfl rfl) T.x_BadDisk T.g_BadDisk)) (pss_nil)) (pss_cons (ps_fld (pv 0) (pe_lc (own := [("k", 2)]) (g := gName 2) (tt := tYes) (te := tCall0 (sp_empty_row K a) (WE W0)) rfl sc_Disk_init.nd (pi_range1 (by rfl) T.n_range (pa_cons (pv 1) (pa_nil))) (blkOk_by (N := ["self", "many", "k"]) (sc := defScope s_Disk_init) (by decide +kernel)) (fun _ _ _ _ _ => pg_name (i := 2) sc_Disk_init.nd rfl (by first | exact Or.inl rfl | exact Or.inr rfl)) (fun _ _ _ _ _ => pts_nil) (fun _ _ _ _ _ => callE0 G_empty_row takesN hr (by decide) rfl T.g_empty_row T.k_empty_row T.b_empty_row)) rfl) (pss_cons (ps_fld (pv 0) (pe_int) rfl) (pss_one (ps_fld (pv 0) (pe_non) rfl))))
theorem sc_Disk_read : FnScope ["self", "block"] ["self", "block"] (defScope s_Disk_read) := ⟨rfl, rfl, rfl, by decide +kernel, rfl, by decide +kernel, by decide +kernel⟩
theorem ok_Disk_read (T : Tx K mg a b) : FnOk P w K mg base (L2N.CX P w) 3 b.f_Disk_read b.fd_Disk_read ["self", "block"] (sp_Disk_read K a) := by
  have G_Disk_need := ok_Disk_need (P := P) (w := w) (base := base) T
  refine okN (k := 2) (t := t_Disk_read K a) T.F_Disk_read sc_Disk_read (fun cdv A outer s H E hr => ?_)
  exact pss_cons (ps_expr (methE (pv 0) (AltsOk.cons (MethOk.mk' (k := 2) T.c_Disk T.mt_Disk_need G_Disk_need T.b_Disk_need (by decide)) (AltsOk.nil)) (takesM rfl rfl rfl rfl) hr (by decide) (pa_cons (pv 1) (pa_nil)))) (pss_one (ps_ret (pe_callTy call_listP (by rfl) T.n_list (by decide +kernel) (pa_cons (pe_ix ix_P (pe_fld (pv 0) rfl) (pv 1) (fun _ _ => rfl)) (pa_nil)))))
theorem sc_Layout_init : FnScope ["self", "many", "tables"] ["self", "many", "tables"] (defScope s_Layout_init) := ⟨rfl, rfl, rfl, by decide +kernel, rfl, by decide +kernel, by decide +kernel⟩
theorem ok_Layout_init (T : Tx K mg a b) : FnOk P w K mg base (L2N.CX P w) 3 b.f_Layout_init b.fd_Layout_init ["self", "many", "tables"] (sp_Layout_init K a) := by
  have G_is_many := ok_is_many (P := P) (w := w) (base := base) T
  have G_is_tables := ok_is_tables (P := P) (w := w) (base := base) T
  refine okN (k := 2) (t := t_Layout_init K a) T.F_Layout_init sc_Layout_init (fun cdv A outer s H E hr => ?_)
  exact pss_cons (ps_if (PW.pt (pw_or (pt_not (pt_val (callE G_is_many (takesM rfl rfl rfl rfl) hr (by decide) rfl T.g_is_many T.k_is_many T.b_is_many (pa_cons (pv 1) (pa_nil))))) (pw_or1 (pt_not (pt_val (callE G_is_tables (takesM rfl rfl rfl rfl) hr (by decide) rfl T.g_is_tables T.k_is_tables T.b_is_tables (pa_cons (pv 2) (pa_nil)))))))) (pss_one (raiseE rfl (takesM rfl rfl rfl rfl) T.x_BadDisk T.g_BadDisk)) (pss_nil)) (pss_cons (ps_fld (pv 0) (pv 1) rfl) (pss_cons (ps_fld (pv 0) (pv 2) rfl) (pss_cons (ps_fld (pv 0) (pe_gl rfl T.g_MAPS_AT) rfl) (pss_cons (ps_fld (pv 0) (pe_op op_addP (pe_gl rfl T.g_MAPS_AT) (pe_op op_divP (pe_op op_subP (pe_op op_addP (pv 1) (pe_gl rfl T.g_WIDE)) (pe_int)) (pe_gl rfl T.g_WIDE))) rfl) (pss_cons (ps_fld (pv 0) (pe_op op_addP (pe_fld (pv 0) rfl) (pv 2)) rfl) (pss_one (ps_if (pt_cmpR op_geP (pe_fld (pv 0) rfl) (pv 1) (by first | exact nomark _ | rfl)) (pss_one (raiseE rfl (takesM rfl rfl rfl rfl) T.x_NoRoom T.g_NoRoom)) (pss_nil))))))))
theorem sc_L_words : FnScope ["_law_cell", "_law_more", "_law_many", "_law_data_at", "_law_kind", "_law_places_here", "_law_k"] ["_law_cell", "_law_more", "_law_many", "_law_data_at"] (defScope s_L_words) := ⟨rfl, rfl, rfl, by decide +kernel, rfl, by decide +kernel, by decide +kernel⟩
theorem ok_L_words (T : Tx K mg a b) : FnOk P w K mg base (L2N.CX P w) 3 b.f_L_words b.fd_L_words ["_law_cell", "_law_more", "_law_many", "_law_data_at"] (sp_L_words K a) := by
  have G_L_block := ok_L_block (P := P) (w := w) (base := base) T
  have G_L_size := ok_L_size (P := P) (w := w) (base := base) T
  refine okN (k := 2) (t := t_L_words K a) T.F_L_words sc_L_words (fun cdv A outer s H E hr => ?_)
  exact pss_cons (ps_set (i := 4) sc_L_words.nd rfl (by first | exact Or.inl rfl | exact Or.inr rfl) (pe_ix ix_P (pe_lst (pa_cons (pe_int) (pa_cons (pe_int) (pa_cons (pe_int) (pa_cons (pe_int) (pa_cons (pe_int) (pa_cons (pe_int) (pa_cons (pe_int) (pa_cons (pe_op op_addP (pe_int) (pe_op op_modP (pe_op op_divP (pv 0) (pe_int)) (pe_int))) (pa_nil)))))))))) (pe_op op_modP (pv 0) (pe_int)) (fun _ _ => rfl))) (pss_cons (ps_if (pt_cmpR (op_eqP hr) (pv 4) (pe_int) (by first | exact nomark _ | rfl)) (pss_one (ps_ret (pe_op op_addP (pe_op op_mulP (pe_lst (pa_cons (pe_int) (pa_nil))) (pe_int)) (pe_lst (pa_cons (pe_op op_mulP (pe_callTy call_intP (by rfl) T.n_int (by decide +kernel) (pa_cons (pe_cmpR (op_eqP hr) (pe_op op_modP (pe_op op_divP (pv 0) (pe_int)) (pe_int)) (pe_int) (by first | exact nomark _ | rfl)) (pa_nil))) (pe_op op_modP (pv 1) (pe_int))) (pa_nil)))))) (pss_nil)) (pss_cons (ps_setLc (i := 5) rfl sc_L_words.nd rfl rfl (sw_true rfl rfl rfl (by decide +kernel)) (own := [("_law_k", 6)]) (g := gName 6) (tt := tYes) (te := tCallS (sp_L_block K a) (WE W0) (tCons (tOp rAddP (tOp rDivP (tVar 1) (tOp rAddP (tC (.int 1)) (tOp rMulP (tC (.int 3)) (tVar 6)))) (tOp rMulP (tC (.int 5)) (tVar 6))) (tCons (tVar 2) (tCons (tVar 3) (tNil))))) (pi_range1 (by rfl) T.n_range (pa_cons (pe_int) (pa_nil))) (blkOk_by (N := ["_law_cell", "_law_more", "_law_many", "_law_data_at", "_law_kind", "_law_places_here", "_law_k"]) (sc := defScope s_L_words) (by decide +kernel)) (fun _ _ _ _ _ => pg_name (i := 6) sc_L_words.nd rfl (by first | exact Or.inl rfl | exact Or.inr rfl)) (fun _ _ _ _ _ => pts_nil) (fun _ _ _ _ _ => callE G_L_block takesN hr (by decide) rfl T.g_L_block T.k_L_block T.b_L_block (pa_cons (pe_op op_addP (pe_op op_divP (pv 1) (pe_op op_addP (pe_int) (pe_op op_mulP (pe_int) (pv 6)))) (pe_op op_mulP (pe_int) (pv 6))) (pa_cons (pv 2) (pa_cons (pv 3) (pa_nil)))))) (pss_one (ps_ret (pe_op op_addP (pe_lst (pa_cons (pv 4) (pa_cons (pe_int) (pa_cons (callE G_L_size (takesM rfl rfl rfl rfl) hr (by decide) rfl T.g_L_size T.k_L_size T.b_L_size (pa_cons (pe_op op_divP (pv 0) (pe_int)) (pa_cons (pv 4) (pa_nil)))) (pa_nil))))) (pv 5))))))
theorem sc_need_row : FnScope ["thing"] ["thing"] (defScope s_need_row) := ⟨rfl, rfl, rfl, by decide +kernel, rfl, by decide +kernel, by decide +kernel⟩
theorem ok_need_row (T : Tx K mg a b) : FnOk P w K mg base (L2N.CX P w) 4 b.f_need_row b.fd_need_row ["thing"] (sp_need_row K a) := by
  have G_is_row := ok_is_row (P := P) (w := w) (base := base) T
  refine okN (k := 3) (t := t_need_row K a) T.F_need_row sc_need_row (fun cdv A outer s H E hr => ?_)
  exact pss_cons (ps_if (pt_not (pt_val (callE G_is_row (takesM rfl rfl rfl rfl) hr (by decide) rfl T.g_is_row T.k_is_row T.b_is_row (pa_cons (pv 0) (pa_nil))))) (pss_one (raiseE rfl (takesM rfl rfl rfl rfl) T.x_BadRow T.g_BadRow)) (pss_nil)) (pss_one (ps_ret (pe_callTy call_listP (by rfl) T.n_list (by decide +kernel) (pa_cons (pv 0) (pa_nil)))))
theorem sc_node_rows : FnScope ["disk", "layout", "found", "block", "row"] ["disk", "layout"] (defScope s_node_rows) := ⟨rfl, rfl, rfl, by decide +kernel, rfl, by decide +kernel, by decide +kernel⟩
theorem ok_node_rows (T : Tx K mg a b) : FnOk P w K mg base (L2N.CX P w) 4 b.f_node_rows b.fd_node_rows ["disk", "layout"] (sp_node_rows K a) := by
  have G_Disk_read := ok_Disk_read (P := P) (w := w) (base := base) T
  refine okN (k := 3) (t := t_node_rows K a) T.F_node_rows sc_node_rows (fun cdv A outer s H E hr => ?_)
  exact pss_cons (ps_set (i := 2) sc_node_rows.nd rfl (by first | exact Or.inl rfl | exact Or.inr rfl) (pe_lst (pa_nil))) (pss_cons (ps_for (passes_of rfl) rfl (pi_range2 (by rfl) T.n_range (pa_cons (pe_fld (pv 1) rfl) (pa_cons (pe_fld (pv 1) rfl) (pa_nil)))) (pg_name (i := 3) sc_node_rows.nd rfl (by first | exact Or.inl rfl | exact Or.inr rfl)) (pss_cons (ps_set (i := 4) sc_node_rows.nd rfl (by first | exact Or.inl rfl | exact Or.inr rfl) (methE (pv 0) (AltsOk.cons (MethOk.mk' (k := 3) T.c_Disk T.mt_Disk_read G_Disk_read T.b_Disk_read (by decide)) (AltsOk.nil)) (takesM rfl rfl rfl rfl) hr (by decide) (pa_cons (pv 3) (pa_nil)))) (pss_one (ps_set (i := 2) sc_node_rows.nd rfl (by first | exact Or.inl rfl | exact Or.inr rfl) (pe_op op_addP (pv 2) (pe_lst (pa_cons (pe_slice sl_P (pv 4) (po_none) (po_some (pe_gl rfl T.g_NODE_WORDS))) (pa_cons (pe_slice sl_P (pv 4) (po_some (pe_gl rfl T.g_NODE_WORDS)) (po_none)) (pa_nil))))))))) (pss_one (ps_ret (pv 2))))
theorem sc_places_told : FnScope ["disk", "layout", "words", "wanted", "found", "row", "place", "k"] ["disk", "layout", "words"] (defScope s_places_told) := ⟨rfl, rfl, rfl, by decide +kernel, rfl, by decide +kernel, by decide +kernel⟩
theorem ok_places_told (T : Tx K mg a b) : FnOk P w K mg base (L2N.CX P w) 4 b.f_places_told b.fd_places_told ["disk", "layout", "words"] (sp_places_told K a) := by
  have G_Disk_read := ok_Disk_read (P := P) (w := w) (base := base) T
  have G_is_data := ok_is_data (P := P) (w := w) (base := base) T
  have G_wanted_blocks := ok_wanted_blocks (P := P) (w := w) (base := base) T
  refine okN (k := 3) (t := t_places_told K a) T.F_places_told sc_places_told (fun cdv A outer s H E hr => ?_)
  exact pss_cons (ps_set (i := 3) sc_places_told.nd rfl (by first | exact Or.inl rfl | exact Or.inr rfl) (callE G_wanted_blocks (takesM rfl rfl rfl rfl) hr (by decide) rfl T.g_wanted_blocks T.k_wanted_blocks T.b_wanted_blocks (pa_cons (pv 2) (pa_nil)))) (pss_cons (ps_setLc (i := 4) rfl sc_places_told.nd rfl rfl (sw_true rfl rfl rfl (by decide +kernel)) (own := [("place", 6)]) (g := gName 6) (tt := tYes) (te := tTup (tCons (tVar 6) (tCons (tOp (rIxP K) (tVar 2) (tOp rAddP (tC (.int 3)) (tVar 6))) (tNil)))) (pi_range1 (by rfl) T.n_range (pa_cons (pe_callB (call_min2 rfl) (by rfl) T.n_min (by decide +kernel) (pa_cons (pe_gl rfl T.g_NEAR_PLACES) (pa_cons (pv 3) (pa_nil)))) (pa_nil))) (blkOk_by (N := ["disk", "layout", "words", "wanted", "found", "row", "place", "k"]) (sc := defScope s_places_told) (by decide +kernel)) (fun _ _ _ _ _ => pg_name (i := 6) sc_places_told.nd rfl (by first | exact Or.inl rfl | exact Or.inr rfl)) (fun _ _ _ _ _ => pts_nil) (fun _ _ _ _ _ => pe_tup (pa_cons (pv 6) (pa_cons (pe_ix ix_P (pv 2) (pe_op op_addP (pe_int) (pv 6)) (fun _ _ => rfl)) (pa_nil))))) (pss_cons (ps_if (pt_cmpR op_gtP (pv 3) (pe_gl rfl T.g_NEAR_PLACES) (by first | exact nomark _ | rfl)) (pss_cons (ps_expr (pe_bm PySem.F.plainAttrs_list PySem.F.slot_list_append PySem.F.type_list_append mt_append (pv 4) (pa_cons (pe_tup (pa_cons (pe_gl rfl T.g_FAR_PLACE) (pa_cons (pe_ix ix_P (pv 2) (pe_int) (fun _ _ => rfl)) (pa_nil)))) (pa_nil)))) (pss_one (ps_if (pt_val (callE G_is_data (takesM rfl rfl rfl rfl) hr (by decide) rfl T.g_is_data T.k_is_data T.b_is_data (pa_cons (pv 1) (pa_cons (pe_ix ix_P (pv 2) (pe_int) (fun _ _ => rfl)) (pa_nil))))) (pss_cons (ps_set (i := 5) sc_places_told.nd rfl (by first | exact Or.inl rfl | exact Or.inr rfl) (methE (pv 0) (AltsOk.cons (MethOk.mk' (k := 3) T.c_Disk T.mt_Disk_read G_Disk_read T.b_Disk_read (by decide)) (AltsOk.nil)) (takesM rfl rfl rfl rfl) hr (by decide) (pa_cons (pe_ix ix_P (pv 2) (pe_int) (fun _ _ => rfl)) (pa_nil)))) (pss_one (ps_set (i := 4) sc_places_told.nd rfl (by first | exact Or.inl rfl | exact Or.inr rfl) (pe_op op_addP (pv 4) (pe_lc (own := [("k", 7)]) (g := gName 7) (tt := tYes) (te := tTup (tCons (tOp rAddP (tC (.int 4)) (tVar 7)) (tCons (tOp (rIxP K) (tVar 5) (tVar 7)) (tNil)))) rfl sc_places_told.nd (pi_range1 (by rfl) T.n_range (pa_cons (pe_op op_subP (pv 3) (pe_gl rfl T.g_NEAR_PLACES)) (pa_nil))) (blkOk_by (N := ["disk", "layout", "words", "wanted", "found", "row", "place", "k"]) (sc := defScope s_places_told) (by decide +kernel)) (fun _ _ _ _ _ => pg_name (i := 7) sc_places_told.nd rfl (by first | exact Or.inl rfl | exact Or.inr rfl)) (fun _ _ _ _ _ => pts_nil) (fun _ _ _ _ _ => pe_tup (pa_cons (pe_op op_addP (pe_gl rfl T.g_NEAR_PLACES) (pv 7)) (pa_cons (pe_ix ix_P (pv 5) (pv 7) (fun _ _ => rfl)) (pa_nil))))))))) (pss_nil)))) (pss_nil)) (pss_one (ps_ret (pv 4)))))
theorem sc_L_places : FnScope ["_law_disk", "_law_words_here", "_law_many", "_law_data_at", "_law_count", "_law_found", "_law_row", "_law_k", "_law_pair"] ["_law_disk", "_law_words_here", "_law_many", "_law_data_at"] (defScope s_L_places) := ⟨rfl, rfl, rfl, by decide +kernel, rfl, by decide +kernel, by decide +kernel⟩
theorem ok_L_places (T : Tx K mg a b) : FnOk P w K mg base (L2N.CX P w) 4 b.f_L_places b.fd_L_places ["_law_disk", "_law_words_here", "_law_many", "_law_data_at"] (sp_L_places K a) := by
  have G_Disk_read := ok_Disk_read (P := P) (w := w) (base := base) T
  refine okN (k := 3) (t := t_L_places K a) T.F_L_places sc_L_places (fun cdv A outer s H E hr => ?_)
  exact pss_cons (ps_set (i := 4) sc_L_places.nd rfl (by first | exact Or.inl rfl | exact Or.inr rfl) (pe_op op_divP (pe_op op_addP (pe_ix ix_P (pv 1) (pe_int) (fun _ _ => rfl)) (pe_int)) (pe_int))) (pss_cons (ps_setLc (i := 5) rfl sc_L_places.nd rfl rfl (sw_true rfl rfl rfl (by decide +kernel)) (own := [("_law_k", 7)]) (g := gName 7) (tt := tTest (tOp rLtP (tVar 7) (tVar 4))) (te := tTup (tCons (tVar 7) (tCons (tOp (rIxP K) (tVar 1) (tOp rAddP (tC (.int 3)) (tVar 7))) (tNil)))) (pi_range1 (by rfl) T.n_range (pa_cons (pe_int) (pa_nil))) (blkOk_by (N := ["_law_disk", "_law_words_here", "_law_many", "_law_data_at", "_law_count", "_law_found", "_law_row", "_law_k", "_law_pair"]) (sc := defScope s_L_places) (by decide +kernel)) (fun _ _ _ _ _ => pg_name (i := 7) sc_L_places.nd rfl (by first | exact Or.inl rfl | exact Or.inr rfl)) (fun _ _ _ _ _ => pts_one (pt_cmpR op_ltP (pv 7) (pv 4) (by first | exact nomark _ | rfl))) (fun _ _ _ _ _ => pe_tup (pa_cons (pv 7) (pa_cons (pe_ix ix_P (pv 1) (pe_op op_addP (pe_int) (pv 7)) (fun _ _ => rfl)) (pa_nil))))) (pss_cons (ps_if (pt_cmpR op_gtP (pv 4) (pe_int) (by first | exact nomark _ | rfl)) (pss_cons (ps_set (i := 5) sc_L_places.nd rfl (by first | exact Or.inl rfl | exact Or.inr rfl) (pe_op op_addP (pe_lst (pa_cons (pe_tup (pa_cons (pe_un un_neg (pe_int)) (pa_cons (pe_ix ix_P (pv 1) (pe_int) (fun _ _ => rfl)) (pa_nil)))) (pa_nil))) (pv 5))) (pss_one (ps_if (pt_chain op_leP op_ltP (pv 3) (pe_ix ix_P (pv 1) (pe_int) (fun _ _ => rfl)) (pv 2)) (pss_cons (ps_set (i := 6) sc_L_places.nd rfl (by first | exact Or.inl rfl | exact Or.inr rfl) (methE (pv 0) (AltsOk.cons (MethOk.mk' (k := 3) T.c_Disk T.mt_Disk_read G_Disk_read T.b_Disk_read (by decide)) (AltsOk.nil)) (takesM rfl rfl rfl rfl) hr (by decide) (pa_cons (pe_ix ix_P (pv 1) (pe_int) (fun _ _ => rfl)) (pa_nil)))) (pss_one (ps_set (i := 5) sc_L_places.nd rfl (by first | exact Or.inl rfl | exact Or.inr rfl) (pe_op op_addP (pv 5) (pe_lc (own := [("_law_k", 7)]) (g := gName 7) (tt := tYes) (te := tTup (tCons (tVar 7) (tCons (tOp (rIxP K) (tVar 6) (tOp rSubP (tVar 7) (tC (.int 4)))) (tNil)))) rfl sc_L_places.nd (pi_range2 (by rfl) T.n_range (pa_cons (pe_int) (pa_cons (pv 4) (pa_nil)))) (blkOk_by (N := ["_law_disk", "_law_words_here", "_law_many", "_law_data_at", "_law_count", "_law_found", "_law_row", "_law_k", "_law_pair"]) (sc := defScope s_L_places) (by decide +kernel)) (fun _ _ _ _ _ => pg_name (i := 7) sc_L_places.nd rfl (by first | exact Or.inl rfl | exact Or.inr rfl)) (fun _ _ _ _ _ => pts_nil) (fun _ _ _ _ _ => pe_tup (pa_cons (pv 7) (pa_cons (pe_ix ix_P (pv 6) (pe_op op_subP (pv 7) (pe_int)) (fun _ _ => rfl)) (pa_nil))))))))) (pss_nil)))) (pss_nil)) (pss_one (ps_ret (pe_lc (own := [("_law_pair", 8)]) (g := gName 8) (tt := tTest (tChain rLeP rLtP (tVar 3) (tOp (rIxP K) (tVar 8) (tC (.int 1))) (tVar 2))) (te := tVar 8) rfl sc_L_places.nd (pi_seqP (pv 5)) (blkOk_by (N := ["_law_disk", "_law_words_here", "_law_many", "_law_data_at", "_law_count", "_law_found", "_law_row", "_law_k", "_law_pair"]) (sc := defScope s_L_places) (by decide +kernel)) (fun _ _ _ _ _ => pg_name (i := 8) sc_L_places.nd rfl (by first | exact Or.inl rfl | exact Or.inr rfl)) (fun _ _ _ _ _ => pts_one (pt_chain op_leP op_ltP (pv 3) (pe_ix ix_P (pv 8) (pe_int) (fun _ _ => rfl)) (pv 2))) (fun _ _ _ _ _ => pv 8))))))
theorem sc_L_nodes : FnScope ["_law_script", "_law_layout", "_law_nodes_here", "_law_node", "_law_cell", "_law_more"] ["_law_script", "_law_layout"] (defScope s_L_nodes) := ⟨rfl, rfl, rfl, by decide +kernel, rfl, by decide +kernel, by decide +kernel⟩
theorem ok_L_nodes (T : Tx K mg a b) : FnOk P w K mg base (L2N.CX P w) 4 b.f_L_nodes b.fd_L_nodes ["_law_script", "_law_layout"] (sp_L_nodes K a) := by
  have G_L_cell_at := ok_L_cell_at (P := P) (w := w) (base := base) T
  have G_L_words := ok_L_words (P := P) (w := w) (base := base) T
  refine okN (k := 3) (t := t_L_nodes K a) T.F_L_nodes sc_L_nodes (fun cdv A outer s H E hr => ?_)
  exact pss_cons (ps_set (i := 2) sc_L_nodes.nd rfl (by first | exact Or.inl rfl | exact Or.inr rfl) (pe_lst (pa_cons (pe_op op_mulP (pe_lst (pa_cons (pe_int) (pa_nil))) (pe_int)) (pa_nil)))) (pss_cons (ps_for (passes_of rfl) rfl (pi_range2 (by rfl) T.n_range (pa_cons (pe_int) (pa_cons (pe_op op_mulP (pe_int) (pe_fld (pv 1) rfl)) (pa_nil)))) (pg_name (i := 3) sc_L_nodes.nd rfl (by first | exact Or.inl rfl | exact Or.inr rfl)) (pss_cons (ps_set (i := 4) sc_L_nodes.nd rfl (by first | exact Or.inl rfl | exact Or.inr rfl) (callE G_L_cell_at (takesM rfl rfl rfl rfl) hr (by decide) rfl T.g_L_cell_at T.k_L_cell_at T.b_L_cell_at (pa_cons (pv 0) (pa_cons (pe_op op_mulP (pe_int) (pv 3)) (pa_nil))))) (pss_cons (ps_set (i := 5) sc_L_nodes.nd rfl (by first | exact Or.inl rfl | exact Or.inr rfl) (callE G_L_cell_at (takesM rfl rfl rfl rfl) hr (by decide) rfl T.g_L_cell_at T.k_L_cell_at T.b_L_cell_at (pa_cons (pv 0) (pa_cons (pe_op op_addP (pe_op op_mulP (pe_int) (pv 3)) (pe_int)) (pa_nil))))) (pss_one (ps_expr (pe_bm PySem.F.plainAttrs_list PySem.F.slot_list_append PySem.F.type_list_append mt_append (pv 2) (pa_cons (callE G_L_words (takesM rfl rfl rfl rfl) hr (by decide) rfl T.g_L_words T.k_L_words T.b_L_words (pa_cons (pv 4) (pa_cons (pv 5) (pa_cons (pe_fld (pv 1) rfl) (pa_cons (pe_fld (pv 1) rfl) (pa_nil)))))) (pa_nil)))))))) (pss_cons (ps_if (pt_cmpR (op_eqP hr) (pe_op op_modP (pe_op op_divP (callE G_L_cell_at (takesM rfl rfl rfl rfl) hr (by decide) rfl T.g_L_cell_at T.k_L_cell_at T.b_L_cell_at (pa_cons (pv 0) (pa_cons (pe_int) (pa_nil)))) (pe_int)) (pe_int)) (pe_int) (by first | exact nomark _ | rfl)) (pss_one (ps_asg (pe_lst (pa_cons (pe_int) (pa_cons (pe_int) (pa_cons (pe_int) (pa_cons (pe_fld (pv 1) rfl) (pa_cons (pe_int) (pa_cons (pe_int) (pa_cons (pe_int) (pa_cons (pe_int) (pa_nil)))))))))) (pg_sub (pv 2) (pe_int) set_list))) (pss_nil)) (pss_one (ps_ret (pv 2)))))
theorem sc_users : FnScope ["disk", "layout", "found", "node", "words", "place", "block", "row"] ["disk", "layout"] (defScope s_users) := ⟨rfl, rfl, rfl, by decide +kernel, rfl, by decide +kernel, by decide +kernel⟩
theorem ok_users (T : Tx K mg a b) : FnOk P w K mg base (L2N.CX P w) 5 b.f_users b.fd_users ["disk", "layout"] (sp_users K a) := by
  have G_is_data := ok_is_data (P := P) (w := w) (base := base) T
  have G_is_sound := ok_is_sound (P := P) (w := w) (base := base) T
  have G_node_rows := ok_node_rows (P := P) (w := w) (base := base) T
  have G_places_told := ok_places_told (P := P) (w := w) (base := base) T
  refine okN (k := 4) (t := t_users K a) T.F_users sc_users (fun cdv A outer s H E hr => ?_)
  exact pss_cons (ps_setLc (i := 2) rfl sc_users.nd rfl rfl (sw_true rfl rfl rfl (by decide +kernel)) (own := [("block", 6)]) (g := gName 6) (tt := tYes) (te := tLst (tCons (tTup (tCons (tC (.str "kept")) (tNil))) (tNil))) (pi_range1 (by rfl) T.n_range (pa_cons (pe_fld (pv 1) rfl) (pa_nil))) (blkOk_by (N := ["disk", "layout", "found", "node", "words", "place", "block", "row"]) (sc := defScope s_users) (by decide +kernel)) (fun _ _ _ _ _ => pg_name (i := 6) sc_users.nd rfl (by first | exact Or.inl rfl | exact Or.inr rfl)) (fun _ _ _ _ _ => pts_nil) (fun _ _ _ _ _ => pe_lst (pa_cons (pe_tup (pa_cons (pe_str) (pa_nil))) (pa_nil)))) (pss_cons (ps_set (i := 2) sc_users.nd rfl (by first | exact Or.inl rfl | exact Or.inr rfl) (pe_op op_addP (pv 2) (pe_lc (own := [("block", 6)]) (g := gName 6) (tt := tYes) (te := tLst (tNil)) rfl sc_users.nd (pi_range2 (by rfl) T.n_range (pa_cons (pe_fld (pv 1) rfl) (pa_cons (pe_fld (pv 1) rfl) (pa_nil)))) (blkOk_by (N := ["disk", "layout", "found", "node", "words", "place", "block", "row"]) (sc := defScope s_users) (by decide +kernel)) (fun _ _ _ _ _ => pg_name (i := 6) sc_users.nd rfl (by first | exact Or.inl rfl | exact Or.inr rfl)) (fun _ _ _ _ _ => pts_nil) (fun _ _ _ _ _ => pe_lst (pa_nil))))) (pss_cons (ps_for (passes_of rfl) rfl (pi_enum (by rfl) T.n_enumerate (pa_cons (callE G_node_rows (takesM rfl rfl rfl rfl) hr (by decide) rfl T.g_node_rows T.k_node_rows T.b_node_rows (pa_cons (pv 0) (pa_cons (pv 1) (pa_nil)))) (pa_nil))) (pg_tupP rfl (pgs_cons (pg_name (i := 3) sc_users.nd rfl (by first | exact Or.inl rfl | exact Or.inr rfl)) (pgs_cons (pg_name (i := 4) sc_users.nd rfl (by first | exact Or.inl rfl | exact Or.inr rfl)) (pgs_nil)))) (pss_one (ps_if (pt_val (callE G_is_sound (takesM rfl rfl rfl rfl) hr (by decide) rfl T.g_is_sound T.k_is_sound T.b_is_sound (pa_cons (pv 3) (pa_cons (pv 4) (pa_nil))))) (pss_one (ps_for (passes_of rfl) rfl (pi_seqP (callE G_places_told (takesM rfl rfl rfl rfl) hr (by decide) rfl T.g_places_told T.k_places_told T.b_places_told (pa_cons (pv 0) (pa_cons (pv 1) (pa_cons (pv 4) (pa_nil)))))) (pg_tupP rfl (pgs_cons (pg_name (i := 5) sc_users.nd rfl (by first | exact Or.inl rfl | exact Or.inr rfl)) (pgs_cons (pg_name (i := 6) sc_users.nd rfl (by first | exact Or.inl rfl | exact Or.inr rfl)) (pgs_nil)))) (pss_one (ps_if (pt_val (callE G_is_data (takesM rfl rfl rfl rfl) hr (by decide) rfl T.g_is_data T.k_is_data T.b_is_data (pa_cons (pv 1) (pa_cons (pv 6) (pa_nil))))) (pss_one (ps_expr (pe_bm PySem.F.plainAttrs_list PySem.F.slot_list_append PySem.F.type_list_append mt_append (pe_ix ix_P (pv 2) (pv 6) (fun _ _ => rfl)) (pa_cons (pe_tup (pa_cons (pv 3) (pa_cons (pv 5) (pa_nil)))) (pa_nil))))) (pss_nil))))) (pss_nil)))) (pss_one (ps_ret (pe_lc (own := [("row", 7)]) (g := gName 7) (tt := tYes) (te := tCB (rSortedW K) (tCons (tVar 7) (tNil))) rfl sc_users.nd (pi_seqP (pv 2)) (blkOk_by (N := ["disk", "layout", "found", "node", "words", "place", "block", "row"]) (sc := defScope s_users) (by decide +kernel)) (fun _ _ _ _ _ => pg_name (i := 7) sc_users.nd rfl (by first | exact Or.inl rfl | exact Or.inr rfl)) (fun _ _ _ _ _ => pts_nil) (fun _ _ _ _ _ => pe_callB (call_sortedW rfl (hu65 hr)) (by rfl) T.n_sorted (by decide +kernel) (pa_cons (pv 7) (pa_nil))))))))
theorem sc_Disk_write : FnScope ["self", "block", "row", "kept"] ["self", "block", "row"] (defScope s_Disk_write) := ⟨rfl, rfl, rfl, by decide +kernel, rfl, by decide +kernel, by decide +kernel⟩
theorem ok_Disk_write (T : Tx K mg a b) : FnOk P w K mg base (L2N.CX P w) 5 b.f_Disk_write b.fd_Disk_write ["self", "block", "row"] (sp_Disk_write K a) := by
  have G_Disk_need := ok_Disk_need (P := P) (w := w) (base := base) T
  have G_need_row := ok_need_row (P := P) (w := w) (base := base) T
  refine okN (k := 4) (t := t_Disk_write K a) T.F_Disk_write sc_Disk_write (fun cdv A outer s H E hr => ?_)
  exact pss_cons (ps_expr (methE (pv 0) (AltsOk.cons (MethOk.mk' (k := 2) T.c_Disk T.mt_Disk_need G_Disk_need T.b_Disk_need (by decide)) (AltsOk.nil)) (takesM rfl rfl rfl rfl) hr (by decide) (pa_cons (pv 1) (pa_nil)))) (pss_cons (ps_set (i := 3) sc_Disk_write.nd rfl (by first | exact Or.inl rfl | exact Or.inr rfl) (callE G_need_row (takesM rfl rfl rfl rfl) hr (by decide) rfl T.g_need_row T.k_need_row T.b_need_row (pa_cons (pv 2) (pa_nil)))) (pss_cons (ps_if (pt_cmpR (op_eqP hr) (pe_fld (pv 0) rfl) (pe_int) (by first | exact nomark _ | rfl)) (pss_one (raiseE rfl (takesM rfl rfl rfl rfl) T.x_Stopped T.g_Stopped)) (pss_nil)) (pss_cons (ps_if (pt_cmpR op_isNotP (pe_fld (pv 0) rfl) (pe_non) (by first | exact nomark _ | rfl)) (pss_one (ps_fld (pv 0) (pe_op op_subP (pe_fld (pv 0) rfl) (pe_int)) rfl)) (pss_nil)) (pss_cons (ps_asg (pv 3) (pg_sub (pe_fld (pv 0) rfl) (pv 1) set_list)) (pss_one (ps_fld (pv 0) (pe_op op_addP (pe_fld (pv 0) rfl) (pe_int)) rfl))))))
theorem sc_L_written : FnScope ["_law_script", "_law_layout", "_law_nodes_here", "_law_many", "_law_data_at", "_law_disk", "_law_k", "_law_cell", "_law_row", "_law_j"] ["_law_script", "_law_layout", "_law_nodes_here"] (defScope s_L_written) := ⟨rfl, rfl, rfl, by decide +kernel, rfl, by decide +kernel, by decide +kernel⟩
theorem ok_L_written (T : Tx K mg a b) : FnOk P w K mg base (L2N.CX P w) 6 b.f_L_written b.fd_L_written ["_law_script", "_law_layout", "_law_nodes_here"] (sp_L_written K a) := by
  have G_Disk_init := ok_Disk_init (P := P) (w := w) (base := base) T
  have G_Disk_write := ok_Disk_write (P := P) (w := w) (base := base) T
  have G_L_block := ok_L_block (P := P) (w := w) (base := base) T
  have G_L_cell_at := ok_L_cell_at (P := P) (w := w) (base := base) T
  refine okN (k := 5) (t := t_L_written K a) T.F_L_written sc_L_written (fun cdv A outer s H E hr => ?_)
  exact pss_cons (ps_set (i := 3) sc_L_written.nd rfl (by first | exact Or.inl rfl | exact Or.inr rfl) (pe_fld (pv 1) rfl)) (pss_cons (ps_set (i := 4) sc_L_written.nd rfl (by first | exact Or.inl rfl | exact Or.inr rfl) (pe_fld (pv 1) rfl)) (pss_cons (ps_set (i := 5) sc_L_written.nd rfl (by first | exact Or.inl rfl | exact Or.inr rfl) (makeE T.m_Disk G_Disk_init (takesM rfl rfl rfl rfl) hr (by decide) rfl T.g_Disk T.b_Disk_init (pa_cons (pv 3) (pa_nil)))) (pss_cons (ps_for (passes_of rfl) rfl (pi_range1 (by rfl) T.n_range (pa_cons (pe_fld (pv 1) rfl) (pa_nil))) (pg_name (i := 6) sc_L_written.nd rfl (by first | exact Or.inl rfl | exact Or.inr rfl)) (pss_one (ps_expr (methE (pv 5) (AltsOk.cons (MethOk.mk' (k := 5) T.c_Disk T.mt_Disk_write G_Disk_write T.b_Disk_write (by decide)) (AltsOk.nil)) (takesM rfl rfl rfl rfl) hr (by decide) (pa_cons (pe_op op_addP (pe_fld (pv 1) rfl) (pv 6)) (pa_cons (pe_op op_addP (pe_ix ix_P (pv 2) (pe_op op_mulP (pe_int) (pv 6)) (fun _ _ => rfl)) (pe_ix ix_P (pv 2) (pe_op op_addP (pe_op op_mulP (pe_int) (pv 6)) (pe_int)) (fun _ _ => rfl))) (pa_nil))))))) (pss_cons (ps_for (passes_of rfl) rfl (pi_range1 (by rfl) T.n_range (pa_cons (pe_callB (call_min2 rfl) (by rfl) T.n_min (by decide +kernel) (pa_cons (pe_int) (pa_cons (pe_op op_subP (pv 3) (pv 4)) (pa_nil)))) (pa_nil))) (pg_name (i := 6) sc_L_written.nd rfl (by first | exact Or.inl rfl | exact Or.inr rfl)) (pss_cons (ps_set (i := 7) sc_L_written.nd rfl (by first | exact Or.inl rfl | exact Or.inr rfl) (callE G_L_cell_at (takesM rfl rfl rfl rfl) hr (by decide) rfl T.g_L_cell_at T.k_L_cell_at T.b_L_cell_at (pa_cons (pv 0) (pa_cons (pe_op op_addP (pe_int) (pv 6)) (pa_nil))))) (pss_cons (ps_setLc (i := 8) rfl sc_L_written.nd rfl rfl (sw_true rfl rfl rfl (by decide +kernel)) (own := [("_law_j", 9)]) (g := gName 9) (tt := tYes) (te := tCallS (sp_L_block K a) (WE W0) (tCons (tOp rAddP (tOp rDivP (tVar 7) (tOp rAddP (tC (.int 1)) (tVar 9))) (tOp rMulP (tC (.int 11)) (tVar 9))) (tCons (tVar 3) (tCons (tVar 4) (tNil))))) (pi_range1 (by rfl) T.n_range (pa_cons (pe_int) (pa_nil))) (blkOk_by (N := ["_law_script", "_law_layout", "_law_nodes_here", "_law_many", "_law_data_at", "_law_disk", "_law_k", "_law_cell", "_law_row", "_law_j"]) (sc := defScope s_L_written) (by decide +kernel)) (fun _ _ _ _ _ => pg_name (i := 9) sc_L_written.nd rfl (by first | exact Or.inl rfl | exact Or.inr rfl)) (fun _ _ _ _ _ => pts_nil) (fun _ _ _ _ _ => callE G_L_block takesN hr (by decide) rfl T.g_L_block T.k_L_block T.b_L_block (pa_cons (pe_op op_addP (pe_op op_divP (pv 7) (pe_op op_addP (pe_int) (pv 9))) (pe_op op_mulP (pe_int) (pv 9))) (pa_cons (pv 3) (pa_cons (pv 4) (pa_nil)))))) (pss_one (ps_expr (methE (pv 5) (AltsOk.cons (MethOk.mk' (k := 5) T.c_Disk T.mt_Disk_write G_Disk_write T.b_Disk_write (by decide)) (AltsOk.nil)) (takesM rfl rfl rfl rfl) hr (by decide) (pa_cons (pe_op op_addP (pv 4) (pv 6)) (pa_cons (pv 8) (pa_nil))))))))) (pss_one (ps_ret (pv 5)))))))
theorem sc_L_is_told : FnScope ["_law_disk", "_law_layout", "_law_nodes_here", "_law_held", "_law_many", "_law_data_at", "_law_due", "_law_node", "_law_place", "_law_block_here", "_law_writes", "_law_found", "_law_again", "_law_row", "_law_pair"] ["_law_disk", "_law_layout", "_law_nodes_here", "_law_held"] (defScope s_L_is_told) := ⟨rfl, rfl, rfl, by decide +kernel, rfl, by decide +kernel, by decide +kernel⟩
theorem ok_L_is_told (T : Tx K mg a b) : FnOk P w K mg base (L2N.CX P w) 6 b.f_L_is_told b.fd_L_is_told ["_law_disk", "_law_layout", "_law_nodes_here", "_law_held"] (sp_L_is_told K a) := by
  have G_Disk_writes := ok_Disk_writes (P := P) (w := w) (base := base) T
  have G_L_is_sound := ok_L_is_sound (P := P) (w := w) (base := base) T
  have G_L_places := ok_L_places (P := P) (w := w) (base := base) T
  have G_users := ok_users (P := P) (w := w) (base := base) T
  refine okN (k := 5) (t := t_L_is_told K a) T.F_L_is_told sc_L_is_told (fun cdv A outer s H E hr => ?_)
  exact pss_cons (ps_set (i := 4) sc_L_is_told.nd rfl (by first | exact Or.inl rfl | exact Or.inr rfl) (pe_fld (pv 1) rfl)) (pss_cons (ps_set (i := 5) sc_L_is_told.nd rfl (by first | exact Or.inl rfl | exact Or.inr rfl) (pe_fld (pv 1) rfl)) (pss_cons (ps_setLc (i := 6) rfl sc_L_is_told.nd rfl rfl (sw_true rfl rfl rfl (by decide +kernel)) (own := [("_law_block_here", 9)]) (g := gName 9) (tt := tYes) (te := tLst (tCons (tTup (tCons (tC (.str "kept")) (tNil))) (tNil))) (pi_range1 (by rfl) T.n_range (pa_cons (pv 5) (pa_nil))) (blkOk_by (N := ["_law_disk", "_law_layout", "_law_nodes_here", "_law_held", "_law_many", "_law_data_at", "_law_due", "_law_node", "_law_place", "_law_block_here", "_law_writes", "_law_found", "_law_again", "_law_row", "_law_pair"]) (sc := defScope s_L_is_told) (by decide +kernel)) (fun _ _ _ _ _ => pg_name (i := 9) sc_L_is_told.nd rfl (by first | exact Or.inl rfl | exact Or.inr rfl)) (fun _ _ _ _ _ => pts_nil) (fun _ _ _ _ _ => pe_lst (pa_cons (pe_tup (pa_cons (pe_str) (pa_nil))) (pa_nil)))) (pss_cons (ps_set (i := 6) sc_L_is_told.nd rfl (by first | exact Or.inl rfl | exact Or.inr rfl) (pe_op op_addP (pv 6) (pe_lc (own := [("_law_block_here", 9)]) (g := gName 9) (tt := tYes) (te := tLst (tNil)) rfl sc_L_is_told.nd (pi_range1 (by rfl) T.n_range (pa_cons (pe_op op_subP (pv 4) (pv 5)) (pa_nil))) (blkOk_by (N := ["_law_disk", "_law_layout", "_law_nodes_here", "_law_held", "_law_many", "_law_data_at", "_law_due", "_law_node", "_law_place", "_law_block_here", "_law_writes", "_law_found", "_law_again", "_law_row", "_law_pair"]) (sc := defScope s_L_is_told) (by decide +kernel)) (fun _ _ _ _ _ => pg_name (i := 9) sc_L_is_told.nd rfl (by first | exact Or.inl rfl | exact Or.inr rfl)) (fun _ _ _ _ _ => pts_nil) (fun _ _ _ _ _ => pe_lst (pa_nil))))) (pss_cons (ps_for (passes_of rfl) rfl (pi_range2 (by rfl) T.n_range (pa_cons (pe_int) (pa_cons (pe_op op_mulP (pe_int) (pe_fld (pv 1) rfl)) (pa_nil)))) (pg_name (i := 7) sc_L_is_told.nd rfl (by first | exact Or.inl rfl | exact Or.inr rfl)) (pss_one (ps_if (pt_val (callE G_L_is_sound (takesM rfl rfl rfl rfl) hr (by decide) rfl T.g_L_is_sound T.k_L_is_sound T.b_L_is_sound (pa_cons (pv 7) (pa_cons (pe_ix ix_P (pv 2) (pv 7) (fun _ _ => rfl)) (pa_nil))))) (pss_one (ps_for (passes_of rfl) rfl (pi_seqP (pe_callB (call_sortedW rfl (hu65 hr)) (by rfl) T.n_sorted (by decide +kernel) (pa_cons (callE G_L_places (takesM rfl rfl rfl rfl) hr (by decide) rfl T.g_L_places T.k_L_places T.b_L_places (pa_cons (pv 0) (pa_cons (pe_ix ix_P (pv 2) (pv 7) (fun _ _ => rfl)) (pa_cons (pv 4) (pa_cons (pv 5) (pa_nil)))))) (pa_nil)))) (pg_tupP rfl (pgs_cons (pg_name (i := 8) sc_L_is_told.nd rfl (by first | exact Or.inl rfl | exact Or.inr rfl)) (pgs_cons (pg_name (i := 9) sc_L_is_told.nd rfl (by first | exact Or.inl rfl | exact Or.inr rfl)) (pgs_nil)))) (pss_one (ps_expr (pe_bm PySem.F.plainAttrs_list PySem.F.slot_list_append PySem.F.type_list_append mt_append (pe_ix ix_P (pv 6) (pv 9) (fun _ _ => rfl)) (pa_cons (pe_tup (pa_cons (pv 7) (pa_cons (pv 8) (pa_nil)))) (pa_nil))))))) (pss_nil)))) (pss_cons (ps_set (i := 10) sc_L_is_told.nd rfl (by first | exact Or.inl rfl | exact Or.inr rfl) (methE0 (pv 0) (AltsOk.cons (MethOk.mk' (k := 2) T.c_Disk T.mt_Disk_writes G_Disk_writes T.b_Disk_writes (by decide)) (AltsOk.nil)) (takesM rfl rfl rfl rfl) hr (by decide))) (pss_cons (ps_set (i := 11) sc_L_is_told.nd rfl (by first | exact Or.inl rfl | exact Or.inr rfl) (callE G_users (takesM rfl rfl rfl rfl) hr (by decide) rfl T.g_users T.k_users T.b_users (pa_cons (pv 0) (pa_cons (pv 1) (pa_nil))))) (pss_cons (ps_if (PW.pt (pw_or (pt_not (pt_val (pe_callB call_isi (by rfl) T.n_isinstance (by decide +kernel) (pa_cons (pv 11) (pa_cons (pe_bltn (by rfl) T.n_list (by decide +kernel) rfl) (pa_nil)))))) (pw_or (pt_cmpR (op_neP hr) (pv 11) (pv 6) (by first | exact nomark _ | rfl)) (pw_or1 (pt_cmpR (op_neP hr) (methE0 (pv 0) (AltsOk.cons (MethOk.mk' (k := 2) T.c_Disk T.mt_Disk_writes G_Disk_writes T.b_Disk_writes (by decide)) (AltsOk.nil)) (takesM rfl rfl rfl rfl) hr (by decide)) (pv 10) (by first | exact nomark _ | rfl)))))) (pss_one (ps_ret (pe_bl))) (pss_nil)) (pss_cons (ps_if (pt_cmpR (op_neP hr) (pe_lc (own := [("_law_row", 13)]) (g := gName 13) (tt := tNot (tB (tCB ((rIsi K)) (tCons (tVar 13) (tCons (tC (.ty "list")) (tNil)))))) (te := tVar 13) rfl sc_L_is_told.nd (pi_seqP (pv 11)) (blkOk_by (N := ["_law_disk", "_law_layout", "_law_nodes_here", "_law_held", "_law_many", "_law_data_at", "_law_due", "_law_node", "_law_place", "_law_block_here", "_law_writes", "_law_found", "_law_again", "_law_row", "_law_pair"]) (sc := defScope s_L_is_told) (by decide +kernel)) (fun _ _ _ _ _ => pg_name (i := 13) sc_L_is_told.nd rfl (by first | exact Or.inl rfl | exact Or.inr rfl)) (fun _ _ _ _ _ => pts_one (pt_not (pt_val (pe_callB call_isi (by rfl) T.n_isinstance (by decide +kernel) (pa_cons (pv 13) (pa_cons (pe_bltn (by rfl) T.n_list (by decide +kernel) rfl) (pa_nil))))))) (fun _ _ _ _ _ => pv 13)) (pe_lst (pa_nil)) (by first | exact nomark _ | rfl)) (pss_one (ps_ret (pe_bl))) (pss_nil)) (pss_cons (ps_expr (pe_bm PySem.F.plainAttrs_list PySem.F.slot_list_append PySem.F.type_list_append mt_append (pv 3) (pa_cons (pe_tup (pa_cons (pv 11) (pa_cons (pe_lc (own := [("_law_row", 13)]) (g := gName 13) (tt := tYes) (te := tCB ((rListP K)) (tCons (tVar 13) (tNil))) rfl sc_L_is_told.nd (pi_seqP (pv 11)) (blkOk_by (N := ["_law_disk", "_law_layout", "_law_nodes_here", "_law_held", "_law_many", "_law_data_at", "_law_due", "_law_node", "_law_place", "_law_block_here", "_law_writes", "_law_found", "_law_again", "_law_row", "_law_pair"]) (sc := defScope s_L_is_told) (by decide +kernel)) (fun _ _ _ _ _ => pg_name (i := 13) sc_L_is_told.nd rfl (by first | exact Or.inl rfl | exact Or.inr rfl)) (fun _ _ _ _ _ => pts_nil) (fun _ _ _ _ _ => pe_callTy call_listP (by rfl) T.n_list (by decide +kernel) (pa_cons (pv 13) (pa_nil)))) (pa_nil)))) (pa_nil)))) (pss_cons (ps_set (i := 12) sc_L_is_told.nd rfl (by first | exact Or.inl rfl | exact Or.inr rfl) (callE G_users (takesM rfl rfl rfl rfl) hr (by decide) rfl T.g_users T.k_users T.b_users (pa_cons (pv 0) (pa_cons (pv 1) (pa_nil))))) (pss_cons (ps_expr (pe_bm0 PySem.F.plainAttrs_list PySem.F.slot_list_clear PySem.F.type_list_clear mt_clear (pe_ix ix_P (pv 12) (pe_int) (fun _ _ => rfl)))) (pss_cons (ps_expr (pe_bm0 PySem.F.plainAttrs_list PySem.F.slot_list_pop PySem.F.type_list_pop mt_pop (pv 12))) (pss_one (ps_ret (pe_cmpR (op_eqP hr) (pe_lc (own := [("_law_pair", 14)]) (g := gName 14) (tt := tTest (tOp (rNeP K) (tOp (rIxP K) (tVar 14) (tC (.int 0))) (tOp (rIxP K) (tVar 14) (tC (.int 1))))) (te := tVar 14) rfl sc_L_is_told.nd (pi_seqP (pv 3)) (blkOk_by (N := ["_law_disk", "_law_layout", "_law_nodes_here", "_law_held", "_law_many", "_law_data_at", "_law_due", "_law_node", "_law_place", "_law_block_here", "_law_writes", "_law_found", "_law_again", "_law_row", "_law_pair"]) (sc := defScope s_L_is_told) (by decide +kernel)) (fun _ _ _ _ _ => pg_name (i := 14) sc_L_is_told.nd rfl (by first | exact Or.inl rfl | exact Or.inr rfl)) (fun _ _ _ _ _ => pts_one (pt_cmpR (op_neP hr) (pe_ix ix_P (pv 14) (pe_int) (fun _ _ => rfl)) (pe_ix ix_P (pv 14) (pe_int) (fun _ _ => rfl)) (by first | exact nomark _ | rfl))) (fun _ _ _ _ _ => pv 14)) (pe_lst (pa_nil)) (by first | exact nomark _ | rfl))))))))))))))))
theorem sc_law : FnScope ["_law_script", "_law_many", "_law_tables", "_law_layout", "_law_nodes_here", "_law_others", "_law_disk", "_law_other", "_law_held", "_law_turn", "_law_at"] ["_law_script"] (defScope s_law) := ⟨rfl, rfl, rfl, by decide +kernel, rfl, by decide +kernel, by decide +kernel⟩
theorem ok_law (T : Tx K mg a b) : FnOk P w K mg base (L2N.CX P w) 7 b.f_law b.fd_law ["_law_script"] (sp_law K a) := by
  have G_Disk_write := ok_Disk_write (P := P) (w := w) (base := base) T
  have G_Layout_init := ok_Layout_init (P := P) (w := w) (base := base) T
  have G_L_cell_at := ok_L_cell_at (P := P) (w := w) (base := base) T
  have G_L_is_told := ok_L_is_told (P := P) (w := w) (base := base) T
  have G_L_nodes := ok_L_nodes (P := P) (w := w) (base := base) T
  have G_L_written := ok_L_written (P := P) (w := w) (base := base) T
  refine okN (k := 6) (t := t_law K a) T.F_law sc_law (fun cdv A outer s H E hr => ?_)
  exact pss_cons (ps_set (i := 1) sc_law.nd rfl (by first | exact Or.inl rfl | exact Or.inr rfl) (pe_op op_addP (pe_int) (pe_op op_modP (callE G_L_cell_at (takesM rfl rfl rfl rfl) hr (by decide) rfl T.g_L_cell_at T.k_L_cell_at T.b_L_cell_at (pa_cons (pv 0) (pa_cons (pe_int) (pa_nil)))) (pe_int)))) (pss_cons (ps_set (i := 2) sc_law.nd rfl (by first | exact Or.inl rfl | exact Or.inr rfl) (pe_callB (call_min2 rfl) (by rfl) T.n_min (by decide +kernel) (pa_cons (pe_op op_addP (pe_int) (pe_op op_modP (callE G_L_cell_at (takesM rfl rfl rfl rfl) hr (by decide) rfl T.g_L_cell_at T.k_L_cell_at T.b_L_cell_at (pa_cons (pv 0) (pa_cons (pe_int) (pa_nil)))) (pe_int))) (pa_cons (pe_op op_subP (pe_op op_subP (pv 1) (pe_int)) (pe_op op_divP (pe_op op_addP (pv 1) (pe_int)) (pe_int))) (pa_nil))))) (pss_cons (ps_set (i := 3) sc_law.nd rfl (by first | exact Or.inl rfl | exact Or.inr rfl) (makeE T.m_Layout G_Layout_init (takesM rfl rfl rfl rfl) hr (by decide) rfl T.g_Layout T.b_Layout_init (pa_cons (pv 1) (pa_cons (pv 2) (pa_nil))))) (pss_cons (ps_set (i := 4) sc_law.nd rfl (by first | exact Or.inl rfl | exact Or.inr rfl) (callE G_L_nodes (takesM rfl rfl rfl rfl) hr (by decide) rfl T.g_L_nodes T.k_L_nodes T.b_L_nodes (pa_cons (pv 0) (pa_cons (pv 3) (pa_nil))))) (pss_cons (ps_set (i := 5) sc_law.nd rfl (by first | exact Or.inl rfl | exact Or.inr rfl) (pe_op op_addP (pe_lst (pa_cons (pe_ix ix_P (pv 4) (pe_int) (fun _ _ => rfl)) (pa_nil))) (pe_lstRev rfl (by rfl) T.n_list (by rfl) T.n_reversed (pe_slice sl_P (pv 4) (po_some (pe_int)) (po_none))))) (pss_cons (ps_set (i := 6) sc_law.nd rfl (by first | exact Or.inl rfl | exact Or.inr rfl) (callE G_L_written (takesM rfl rfl rfl rfl) hr (by decide) rfl T.g_L_written T.k_L_written T.b_L_written (pa_cons (pv 0) (pa_cons (pv 3) (pa_cons (pv 4) (pa_nil)))))) (pss_cons (ps_set (i := 7) sc_law.nd rfl (by first | exact Or.inl rfl | exact Or.inr rfl) (callE G_L_written (takesM rfl rfl rfl rfl) hr (by decide) rfl T.g_L_written T.k_L_written T.b_L_written (pa_cons (pv 0) (pa_cons (pv 3) (pa_cons (pv 5) (pa_nil)))))) (pss_cons (ps_set (i := 8) sc_law.nd rfl (by first | exact Or.inl rfl | exact Or.inr rfl) (pe_lst (pa_nil))) (pss_cons (ps_for (passes_of rfl) rfl (pi_range1 (by rfl) T.n_range (pa_cons (pe_int) (pa_nil))) (pg_name (i := 9) sc_law.nd rfl (by first | exact Or.inl rfl | exact Or.inr rfl)) (pss_one (ps_if (PW.pt (pw_or (pt_not (pt_val (callE G_L_is_told (takesM rfl rfl rfl rfl) hr (by decide) rfl T.g_L_is_told T.k_L_is_told T.b_L_is_told (pa_cons (pv 6) (pa_cons (pv 3) (pa_cons (pv 4) (pa_cons (pv 8) (pa_nil)))))))) (pw_or1 (pt_not (pt_val (callE G_L_is_told (takesM rfl rfl rfl rfl) hr (by decide) rfl T.g_L_is_told T.k_L_is_told T.b_L_is_told (pa_cons (pv 7) (pa_cons (pv 3) (pa_cons (pv 5) (pa_cons (pv 8) (pa_nil))))))))))) (pss_one (ps_ret (pe_bl))) (pss_nil)))) (pss_cons (ps_set (i := 10) sc_law.nd rfl (by first | exact Or.inl rfl | exact Or.inr rfl) (pe_op op_modP (callE G_L_cell_at (takesM rfl rfl rfl rfl) hr (by decide) rfl T.g_L_cell_at T.k_L_cell_at T.b_L_cell_at (pa_cons (pv 0) (pa_cons (pe_int) (pa_nil)))) (pv 2))) (pss_cons (ps_asg (pe_ix ix_P (pv 5) (pe_op op_addP (pe_op op_mulP (pe_int) (pv 10)) (pe_int)) (fun _ _ => rfl)) (pg_sub (pv 4) (pe_op op_addP (pe_op op_mulP (pe_int) (pv 10)) (pe_int)) set_list)) (pss_cons (ps_expr (methE (pv 6) (AltsOk.cons (MethOk.mk' (k := 5) T.c_Disk T.mt_Disk_write G_Disk_write T.b_Disk_write (by decide)) (AltsOk.nil)) (takesM rfl rfl rfl rfl) hr (by decide) (pa_cons (pe_op op_addP (pe_fld (pv 3) rfl) (pv 10)) (pa_cons (pe_op op_addP (pe_ix ix_P (pv 4) (pe_op op_mulP (pe_int) (pv 10)) (fun _ _ => rfl)) (pe_ix ix_P (pv 4) (pe_op op_addP (pe_op op_mulP (pe_int) (pv 10)) (pe_int)) (fun _ _ => rfl))) (pa_nil))))) (pss_one (ps_ret (pe_and (callE G_L_is_told (takesM rfl rfl rfl rfl) hr (by decide) rfl T.g_L_is_told T.k_L_is_told T.b_L_is_told (pa_cons (pv 6) (pa_cons (pv 3) (pa_cons (pv 4) (pa_cons (pv 8) (pa_nil)))))) (pe_one (callE G_L_is_told (takesM rfl rfl rfl rfl) hr (by decide) rfl T.g_L_is_told T.k_L_is_told T.b_L_is_told (pa_cons (pv 7) (pa_cons (pv 3) (pa_cons (pv 5) (pa_cons (pv 8) (pa_nil)))))))))))))))))))))
end
theorem fx__wall {K : PySem.W.Frag} {f__wall : Addr} {od an : Option Addr} {sl : Array (Option Value)} {oc kV dc pm cd ct : Value} (l : K.lookup f__wall = some ⟨oc, od, .func (PySem.W.fnOf "_wall" "_wall" (defArgs s__wall) (defBody s__wall) (defScope s__wall) .none kV dc pm an cd ct), sl⟩) (c : PySem.W.codeIn K cd "_wall" = true) (k : PySem.W.keepIn K (.ref f__wall) = true) :
    ∃ fd : FuncData, Fun K "_wall" "_wall" s__wall f__wall fd ∧ Binds K fd ["k"] [] :=
  ⟨_, fun_mk l c k, (fun_mk (st := s__wall) l c k).binds (ps := ["k"]) fun _ _ _ _ _ _ us hl => match us, hl with | [_], _ => rfl⟩
theorem fx_is_word {K : PySem.W.Frag} {f_is_word : Addr} {od an : Option Addr} {sl : Array (Option Value)} {oc kV dc pm cd ct : Value} (l : K.lookup f_is_word = some ⟨oc, od, .func (PySem.W.fnOf "is_word" "is_word" (defArgs s_is_word) (defBody s_is_word) (defScope s_is_word) .none kV dc pm an cd ct), sl⟩) (c : PySem.W.codeIn K cd "is_word" = true) (k : PySem.W.keepIn K (.ref f_is_word) = true) :
    ∃ fd : FuncData, Fun K "is_word" "is_word" s_is_word f_is_word fd ∧ Binds K fd ["thing"] [] :=
  ⟨_, fun_mk l c k, (fun_mk (st := s_is_word) l c k).binds (ps := ["thing"]) fun _ _ _ _ _ _ us hl => match us, hl with | [_], _ => rfl⟩
theorem fx_is_row {K : PySem.W.Frag} {f_is_row : Addr} {od an : Option Addr} {sl : Array (Option Value)} {oc kV dc pm cd ct : Value} (l : K.lookup f_is_row = some ⟨oc, od, .func (PySem.W.fnOf "is_row" "is_row" (defArgs s_is_row) (defBody s_is_row) (defScope s_is_row) .none kV dc pm an cd ct), sl⟩) (c : PySem.W.codeIn K cd "is_row" = true) (k : PySem.W.keepIn K (.ref f_is_row) = true) :
    ∃ fd : FuncData, Fun K "is_row" "is_row" s_is_row f_is_row fd ∧ Binds K fd ["thing"] [] :=
  ⟨_, fun_mk l c k, (fun_mk (st := s_is_row) l c k).binds (ps := ["thing"]) fun _ _ _ _ _ _ us hl => match us, hl with | [_], _ => rfl⟩
theorem fx_need_row {K : PySem.W.Frag} {f_need_row : Addr} {od an : Option Addr} {sl : Array (Option Value)} {oc kV dc pm cd ct : Value} (l : K.lookup f_need_row = some ⟨oc, od, .func (PySem.W.fnOf "need_row" "need_row" (defArgs s_need_row) (defBody s_need_row) (defScope s_need_row) .none kV dc pm an cd ct), sl⟩) (c : PySem.W.codeIn K cd "need_row" = true) (k : PySem.W.keepIn K (.ref f_need_row) = true) :
    ∃ fd : FuncData, Fun K "need_row" "need_row" s_need_row f_need_row fd ∧ Binds K fd ["thing"] [] :=
  ⟨_, fun_mk l c k, (fun_mk (st := s_need_row) l c k).binds (ps := ["thing"]) fun _ _ _ _ _ _ us hl => match us, hl with | [_], _ => rfl⟩
theorem fx_empty_row {K : PySem.W.Frag} {f_empty_row : Addr} {od an : Option Addr} {sl : Array (Option Value)} {oc kV dc pm cd ct : Value} (l : K.lookup f_empty_row = some ⟨oc, od, .func (PySem.W.fnOf "empty_row" "empty_row" (defArgs s_empty_row) (defBody s_empty_row) (defScope s_empty_row) .none kV dc pm an cd ct), sl⟩) (c : PySem.W.codeIn K cd "empty_row" = true) (k : PySem.W.keepIn K (.ref f_empty_row) = true) :
    ∃ fd : FuncData, Fun K "empty_row" "empty_row" s_empty_row f_empty_row fd ∧ Binds K fd [] [] :=
  ⟨_, fun_mk l c k, (fun_mk (st := s_empty_row) l c k).binds (ps := []) fun _ _ _ _ _ _ us hl => match us, hl with | [], _ => rfl⟩
theorem fx_node_rows {K : PySem.W.Frag} {f_node_rows : Addr} {od an : Option Addr} {sl : Array (Option Value)} {oc kV dc pm cd ct : Value} (l : K.lookup f_node_rows = some ⟨oc, od, .func (PySem.W.fnOf "node_rows" "node_rows" (defArgs s_node_rows) (defBody s_node_rows) (defScope s_node_rows) .none kV dc pm an cd ct), sl⟩) (c : PySem.W.codeIn K cd "node_rows" = true) (k : PySem.W.keepIn K (.ref f_node_rows) = true) :
    ∃ fd : FuncData, Fun K "node_rows" "node_rows" s_node_rows f_node_rows fd ∧ Binds K fd ["disk", "layout"] [] :=
  ⟨_, fun_mk l c k, (fun_mk (st := s_node_rows) l c k).binds (ps := ["disk", "layout"]) fun _ _ _ _ _ _ us hl => match us, hl with | [_, _], _ => rfl⟩
theorem fx_is_kind_bad {K : PySem.W.Frag} {f_is_kind_bad : Addr} {od an : Option Addr} {sl : Array (Option Value)} {oc kV dc pm cd ct : Value} (l : K.lookup f_is_kind_bad = some ⟨oc, od, .func (PySem.W.fnOf "is_kind_bad" "is_kind_bad" (defArgs s_is_kind_bad) (defBody s_is_kind_bad) (defScope s_is_kind_bad) .none kV dc pm an cd ct), sl⟩) (c : PySem.W.codeIn K cd "is_kind_bad" = true) (k : PySem.W.keepIn K (.ref f_is_kind_bad) = true) :
    ∃ fd : FuncData, Fun K "is_kind_bad" "is_kind_bad" s_is_kind_bad f_is_kind_bad fd ∧ Binds K fd ["node", "words"] [] :=
  ⟨_, fun_mk l c k, (fun_mk (st := s_is_kind_bad) l c k).binds (ps := ["node", "words"]) fun _ _ _ _ _ _ us hl => match us, hl with | [_, _], _ => rfl⟩
theorem fx_is_size_bad {K : PySem.W.Frag} {f_is_size_bad : Addr} {od an : Option Addr} {sl : Array (Option Value)} {oc kV dc pm cd ct : Value} (l : K.lookup f_is_size_bad = some ⟨oc, od, .func (PySem.W.fnOf "is_size_bad" "is_size_bad" (defArgs s_is_size_bad) (defBody s_is_size_bad) (defScope s_is_size_bad) .none kV dc pm an cd ct), sl⟩) (c : PySem.W.codeIn K cd "is_size_bad" = true) (k : PySem.W.keepIn K (.ref f_is_size_bad) = true) :
    ∃ fd : FuncData, Fun K "is_size_bad" "is_size_bad" s_is_size_bad f_is_size_bad fd ∧ Binds K fd ["words"] [] :=
  ⟨_, fun_mk l c k, (fun_mk (st := s_is_size_bad) l c k).binds (ps := ["words"]) fun _ _ _ _ _ _ us hl => match us, hl with | [_], _ => rfl⟩
theorem fx_is_sound {K : PySem.W.Frag} {f_is_sound : Addr} {od an : Option Addr} {sl : Array (Option Value)} {oc kV dc pm cd ct : Value} (l : K.lookup f_is_sound = some ⟨oc, od, .func (PySem.W.fnOf "is_sound" "is_sound" (defArgs s_is_sound) (defBody s_is_sound) (defScope s_is_sound) .none kV dc pm an cd ct), sl⟩) (c : PySem.W.codeIn K cd "is_sound" = true) (k : PySem.W.keepIn K (.ref f_is_sound) = true) :
    ∃ fd : FuncData, Fun K "is_sound" "is_sound" s_is_sound f_is_sound fd ∧ Binds K fd ["node", "words"] [] :=
  ⟨_, fun_mk l c k, (fun_mk (st := s_is_sound) l c k).binds (ps := ["node", "words"]) fun _ _ _ _ _ _ us hl => match us, hl with | [_, _], _ => rfl⟩
theorem fx_is_data {K : PySem.W.Frag} {f_is_data : Addr} {od an : Option Addr} {sl : Array (Option Value)} {oc kV dc pm cd ct : Value} (l : K.lookup f_is_data = some ⟨oc, od, .func (PySem.W.fnOf "is_data" "is_data" (defArgs s_is_data) (defBody s_is_data) (defScope s_is_data) .none kV dc pm an cd ct), sl⟩) (c : PySem.W.codeIn K cd "is_data" = true) (k : PySem.W.keepIn K (.ref f_is_data) = true) :
    ∃ fd : FuncData, Fun K "is_data" "is_data" s_is_data f_is_data fd ∧ Binds K fd ["layout", "block"] [] :=
  ⟨_, fun_mk l c k, (fun_mk (st := s_is_data) l c k).binds (ps := ["layout", "block"]) fun _ _ _ _ _ _ us hl => match us, hl with | [_, _], _ => rfl⟩
theorem fx_wanted_blocks {K : PySem.W.Frag} {f_wanted_blocks : Addr} {od an : Option Addr} {sl : Array (Option Value)} {oc kV dc pm cd ct : Value} (l : K.lookup f_wanted_blocks = some ⟨oc, od, .func (PySem.W.fnOf "wanted_blocks" "wanted_blocks" (defArgs s_wanted_blocks) (defBody s_wanted_blocks) (defScope s_wanted_blocks) .none kV dc pm an cd ct), sl⟩) (c : PySem.W.codeIn K cd "wanted_blocks" = true) (k : PySem.W.keepIn K (.ref f_wanted_blocks) = true) :
    ∃ fd : FuncData, Fun K "wanted_blocks" "wanted_blocks" s_wanted_blocks f_wanted_blocks fd ∧ Binds K fd ["words"] [] :=
  ⟨_, fun_mk l c k, (fun_mk (st := s_wanted_blocks) l c k).binds (ps := ["words"]) fun _ _ _ _ _ _ us hl => match us, hl with | [_], _ => rfl⟩
theorem fx_places_told {K : PySem.W.Frag} {f_places_told : Addr} {od an : Option Addr} {sl : Array (Option Value)} {oc kV dc pm cd ct : Value} (l : K.lookup f_places_told = some ⟨oc, od, .func (PySem.W.fnOf "places_told" "places_told" (defArgs s_places_told) (defBody s_places_told) (defScope s_places_told) .none kV dc pm an cd ct), sl⟩) (c : PySem.W.codeIn K cd "places_told" = true) (k : PySem.W.keepIn K (.ref f_places_told) = true) :
    ∃ fd : FuncData, Fun K "places_told" "places_told" s_places_told f_places_told fd ∧ Binds K fd ["disk", "layout", "words"] [] :=
  ⟨_, fun_mk l c k, (fun_mk (st := s_places_told) l c k).binds (ps := ["disk", "layout", "words"]) fun _ _ _ _ _ _ us hl => match us, hl with | [_, _, _], _ => rfl⟩
theorem fx_users {K : PySem.W.Frag} {f_users : Addr} {od an : Option Addr} {sl : Array (Option Value)} {oc kV dc pm cd ct : Value} (l : K.lookup f_users = some ⟨oc, od, .func (PySem.W.fnOf "users" "users" (defArgs s_users) (defBody s_users) (defScope s_users) .none kV dc pm an cd ct), sl⟩) (c : PySem.W.codeIn K cd "users" = true) (k : PySem.W.keepIn K (.ref f_users) = true) :
    ∃ fd : FuncData, Fun K "users" "users" s_users f_users fd ∧ Binds K fd ["disk", "layout"] [] :=
  ⟨_, fun_mk l c k, (fun_mk (st := s_users) l c k).binds (ps := ["disk", "layout"]) fun _ _ _ _ _ _ us hl => match us, hl with | [_, _], _ => rfl⟩
theorem fx_is_many {K : PySem.W.Frag} {f_is_many : Addr} {od an : Option Addr} {sl : Array (Option Value)} {oc kV dc pm cd ct : Value} (l : K.lookup f_is_many = some ⟨oc, od, .func (PySem.W.fnOf "is_many" "is_many" (defArgs s_is_many) (defBody s_is_many) (defScope s_is_many) .none kV dc pm an cd ct), sl⟩) (c : PySem.W.codeIn K cd "is_many" = true) (k : PySem.W.keepIn K (.ref f_is_many) = true) :
    ∃ fd : FuncData, Fun K "is_many" "is_many" s_is_many f_is_many fd ∧ Binds K fd ["thing"] [] :=
  ⟨_, fun_mk l c k, (fun_mk (st := s_is_many) l c k).binds (ps := ["thing"]) fun _ _ _ _ _ _ us hl => match us, hl with | [_], _ => rfl⟩
theorem fx_Disk_init {K : PySem.W.Frag} {f_Disk_init : Addr} {od an : Option Addr} {sl : Array (Option Value)} {oc kV dc pm cd ct : Value} (l : K.lookup f_Disk_init = some ⟨oc, od, .func (PySem.W.fnOf "__init__" "Disk.__init__" (defArgs s_Disk_init) (defBody s_Disk_init) (defScope s_Disk_init) .none kV dc pm an cd ct), sl⟩) (c : PySem.W.codeIn K cd "Disk.__init__" = true) (k : PySem.W.keepIn K (.ref f_Disk_init) = true) :
    ∃ fd : FuncData, Fun K "__init__" "Disk.__init__" s_Disk_init f_Disk_init fd ∧ Binds K fd ["self", "many"] [] :=
  ⟨_, fun_mk l c k, (fun_mk (st := s_Disk_init) l c k).binds (ps := ["self", "many"]) fun _ _ _ _ _ _ us hl => match us, hl with | [_, _], _ => rfl⟩
theorem fx_Disk_blocks {K : PySem.W.Frag} {f_Disk_blocks : Addr} {od an : Option Addr} {sl : Array (Option Value)} {oc kV dc pm cd ct : Value} (l : K.lookup f_Disk_blocks = some ⟨oc, od, .func (PySem.W.fnOf "blocks" "Disk.blocks" (defArgs s_Disk_blocks) (defBody s_Disk_blocks) (defScope s_Disk_blocks) .none kV dc pm an cd ct), sl⟩) (c : PySem.W.codeIn K cd "Disk.blocks" = true) (k : PySem.W.keepIn K (.ref f_Disk_blocks) = true) :
    ∃ fd : FuncData, Fun K "blocks" "Disk.blocks" s_Disk_blocks f_Disk_blocks fd ∧ Binds K fd ["self"] [] :=
  ⟨_, fun_mk l c k, (fun_mk (st := s_Disk_blocks) l c k).binds (ps := ["self"]) fun _ _ _ _ _ _ us hl => match us, hl with | [_], _ => rfl⟩
theorem fx_Disk_need {K : PySem.W.Frag} {f_Disk_need : Addr} {od an : Option Addr} {sl : Array (Option Value)} {oc kV dc pm cd ct : Value} (l : K.lookup f_Disk_need = some ⟨oc, od, .func (PySem.W.fnOf "need" "Disk.need" (defArgs s_Disk_need) (defBody s_Disk_need) (defScope s_Disk_need) .none kV dc pm an cd ct), sl⟩) (c : PySem.W.codeIn K cd "Disk.need" = true) (k : PySem.W.keepIn K (.ref f_Disk_need) = true) :
    ∃ fd : FuncData, Fun K "need" "Disk.need" s_Disk_need f_Disk_need fd ∧ Binds K fd ["self", "block"] [] :=
  ⟨_, fun_mk l c k, (fun_mk (st := s_Disk_need) l c k).binds (ps := ["self", "block"]) fun _ _ _ _ _ _ us hl => match us, hl with | [_, _], _ => rfl⟩
theorem fx_Disk_read {K : PySem.W.Frag} {f_Disk_read : Addr} {od an : Option Addr} {sl : Array (Option Value)} {oc kV dc pm cd ct : Value} (l : K.lookup f_Disk_read = some ⟨oc, od, .func (PySem.W.fnOf "read" "Disk.read" (defArgs s_Disk_read) (defBody s_Disk_read) (defScope s_Disk_read) .none kV dc pm an cd ct), sl⟩) (c : PySem.W.codeIn K cd "Disk.read" = true) (k : PySem.W.keepIn K (.ref f_Disk_read) = true) :
    ∃ fd : FuncData, Fun K "read" "Disk.read" s_Disk_read f_Disk_read fd ∧ Binds K fd ["self", "block"] [] :=
  ⟨_, fun_mk l c k, (fun_mk (st := s_Disk_read) l c k).binds (ps := ["self", "block"]) fun _ _ _ _ _ _ us hl => match us, hl with | [_, _], _ => rfl⟩
theorem fx_Disk_write {K : PySem.W.Frag} {f_Disk_write : Addr} {od an : Option Addr} {sl : Array (Option Value)} {oc kV dc pm cd ct : Value} (l : K.lookup f_Disk_write = some ⟨oc, od, .func (PySem.W.fnOf "write" "Disk.write" (defArgs s_Disk_write) (defBody s_Disk_write) (defScope s_Disk_write) .none kV dc pm an cd ct), sl⟩) (c : PySem.W.codeIn K cd "Disk.write" = true) (k : PySem.W.keepIn K (.ref f_Disk_write) = true) :
    ∃ fd : FuncData, Fun K "write" "Disk.write" s_Disk_write f_Disk_write fd ∧ Binds K fd ["self", "block", "row"] [] :=
  ⟨_, fun_mk l c k, (fun_mk (st := s_Disk_write) l c k).binds (ps := ["self", "block", "row"]) fun _ _ _ _ _ _ us hl => match us, hl with | [_, _, _], _ => rfl⟩
theorem fx_Disk_writes {K : PySem.W.Frag} {f_Disk_writes : Addr} {od an : Option Addr} {sl : Array (Option Value)} {oc kV dc pm cd ct : Value} (l : K.lookup f_Disk_writes = some ⟨oc, od, .func (PySem.W.fnOf "writes" "Disk.writes" (defArgs s_Disk_writes) (defBody s_Disk_writes) (defScope s_Disk_writes) .none kV dc pm an cd ct), sl⟩) (c : PySem.W.codeIn K cd "Disk.writes" = true) (k : PySem.W.keepIn K (.ref f_Disk_writes) = true) :
    ∃ fd : FuncData, Fun K "writes" "Disk.writes" s_Disk_writes f_Disk_writes fd ∧ Binds K fd ["self"] [] :=
  ⟨_, fun_mk l c k, (fun_mk (st := s_Disk_writes) l c k).binds (ps := ["self"]) fun _ _ _ _ _ _ us hl => match us, hl with | [_], _ => rfl⟩
theorem fx_Disk_stop_after {K : PySem.W.Frag} {f_Disk_stop_after : Addr} {od an : Option Addr} {sl : Array (Option Value)} {oc kV dc pm cd ct : Value} (l : K.lookup f_Disk_stop_after = some ⟨oc, od, .func (PySem.W.fnOf "stop_after" "Disk.stop_after" (defArgs s_Disk_stop_after) (defBody s_Disk_stop_after) (defScope s_Disk_stop_after) .none kV dc pm an cd ct), sl⟩) (c : PySem.W.codeIn K cd "Disk.stop_after" = true) (k : PySem.W.keepIn K (.ref f_Disk_stop_after) = true) :
    ∃ fd : FuncData, Fun K "stop_after" "Disk.stop_after" s_Disk_stop_after f_Disk_stop_after fd ∧ Binds K fd ["self", "count"] [] :=
  ⟨_, fun_mk l c k, (fun_mk (st := s_Disk_stop_after) l c k).binds (ps := ["self", "count"]) fun _ _ _ _ _ _ us hl => match us, hl with | [_, _], _ => rfl⟩
theorem fx_Disk_go_on {K : PySem.W.Frag} {f_Disk_go_on : Addr} {od an : Option Addr} {sl : Array (Option Value)} {oc kV dc pm cd ct : Value} (l : K.lookup f_Disk_go_on = some ⟨oc, od, .func (PySem.W.fnOf "go_on" "Disk.go_on" (defArgs s_Disk_go_on) (defBody s_Disk_go_on) (defScope s_Disk_go_on) .none kV dc pm an cd ct), sl⟩) (c : PySem.W.codeIn K cd "Disk.go_on" = true) (k : PySem.W.keepIn K (.ref f_Disk_go_on) = true) :
    ∃ fd : FuncData, Fun K "go_on" "Disk.go_on" s_Disk_go_on f_Disk_go_on fd ∧ Binds K fd ["self"] [] :=
  ⟨_, fun_mk l c k, (fun_mk (st := s_Disk_go_on) l c k).binds (ps := ["self"]) fun _ _ _ _ _ _ us hl => match us, hl with | [_], _ => rfl⟩
theorem fx_Disk_twin {K : PySem.W.Frag} {f_Disk_twin : Addr} {od an : Option Addr} {sl : Array (Option Value)} {oc kV dc pm cd ct : Value} (l : K.lookup f_Disk_twin = some ⟨oc, od, .func (PySem.W.fnOf "twin" "Disk.twin" (defArgs s_Disk_twin) (defBody s_Disk_twin) (defScope s_Disk_twin) .none kV dc pm an cd ct), sl⟩) (c : PySem.W.codeIn K cd "Disk.twin" = true) (k : PySem.W.keepIn K (.ref f_Disk_twin) = true) :
    ∃ fd : FuncData, Fun K "twin" "Disk.twin" s_Disk_twin f_Disk_twin fd ∧ Binds K fd ["self"] [] :=
  ⟨_, fun_mk l c k, (fun_mk (st := s_Disk_twin) l c k).binds (ps := ["self"]) fun _ _ _ _ _ _ us hl => match us, hl with | [_], _ => rfl⟩
theorem fx_is_tables {K : PySem.W.Frag} {f_is_tables : Addr} {od an : Option Addr} {sl : Array (Option Value)} {oc kV dc pm cd ct : Value} (l : K.lookup f_is_tables = some ⟨oc, od, .func (PySem.W.fnOf "is_tables" "is_tables" (defArgs s_is_tables) (defBody s_is_tables) (defScope s_is_tables) .none kV dc pm an cd ct), sl⟩) (c : PySem.W.codeIn K cd "is_tables" = true) (k : PySem.W.keepIn K (.ref f_is_tables) = true) :
    ∃ fd : FuncData, Fun K "is_tables" "is_tables" s_is_tables f_is_tables fd ∧ Binds K fd ["thing"] [] :=
  ⟨_, fun_mk l c k, (fun_mk (st := s_is_tables) l c k).binds (ps := ["thing"]) fun _ _ _ _ _ _ us hl => match us, hl with | [_], _ => rfl⟩
theorem fx_Layout_init {K : PySem.W.Frag} {f_Layout_init : Addr} {od an : Option Addr} {sl : Array (Option Value)} {oc kV dc pm cd ct : Value} (l : K.lookup f_Layout_init = some ⟨oc, od, .func (PySem.W.fnOf "__init__" "Layout.__init__" (defArgs s_Layout_init) (defBody s_Layout_init) (defScope s_Layout_init) .none kV dc pm an cd ct), sl⟩) (c : PySem.W.codeIn K cd "Layout.__init__" = true) (k : PySem.W.keepIn K (.ref f_Layout_init) = true) :
    ∃ fd : FuncData, Fun K "__init__" "Layout.__init__" s_Layout_init f_Layout_init fd ∧ Binds K fd ["self", "many", "tables"] [] :=
  ⟨_, fun_mk l c k, (fun_mk (st := s_Layout_init) l c k).binds (ps := ["self", "many", "tables"]) fun _ _ _ _ _ _ us hl => match us, hl with | [_, _, _], _ => rfl⟩
theorem fx_Layout_most_node {K : PySem.W.Frag} {f_Layout_most_node : Addr} {od an : Option Addr} {sl : Array (Option Value)} {oc kV dc pm cd ct : Value} (l : K.lookup f_Layout_most_node = some ⟨oc, od, .func (PySem.W.fnOf "most_node" "Layout.most_node" (defArgs s_Layout_most_node) (defBody s_Layout_most_node) (defScope s_Layout_most_node) .none kV dc pm an cd ct), sl⟩) (c : PySem.W.codeIn K cd "Layout.most_node" = true) (k : PySem.W.keepIn K (.ref f_Layout_most_node) = true) :
    ∃ fd : FuncData, Fun K "most_node" "Layout.most_node" s_Layout_most_node f_Layout_most_node fd ∧ Binds K fd ["self"] [] :=
  ⟨_, fun_mk l c k, (fun_mk (st := s_Layout_most_node) l c k).binds (ps := ["self"]) fun _ _ _ _ _ _ us hl => match us, hl with | [_], _ => rfl⟩
theorem fx_L_cell_at {K : PySem.W.Frag} {f_L_cell_at : Addr} {od an : Option Addr} {sl : Array (Option Value)} {oc kV dc pm cd ct : Value} (l : K.lookup f_L_cell_at = some ⟨oc, od, .func (PySem.W.fnOf "_law_cell_at" "_law_cell_at" (defArgs s_L_cell_at) (defBody s_L_cell_at) (defScope s_L_cell_at) .none kV dc pm an cd ct), sl⟩) (c : PySem.W.codeIn K cd "_law_cell_at" = true) (k : PySem.W.keepIn K (.ref f_L_cell_at) = true) :
    ∃ fd : FuncData, Fun K "_law_cell_at" "_law_cell_at" s_L_cell_at f_L_cell_at fd ∧ Binds K fd ["_law_script", "_law_k"] [] :=
  ⟨_, fun_mk l c k, (fun_mk (st := s_L_cell_at) l c k).binds (ps := ["_law_script", "_law_k"]) fun _ _ _ _ _ _ us hl => match us, hl with | [_, _], _ => rfl⟩
theorem fx_L_size {K : PySem.W.Frag} {f_L_size : Addr} {od an : Option Addr} {sl : Array (Option Value)} {oc kV dc pm cd ct : Value} (l : K.lookup f_L_size = some ⟨oc, od, .func (PySem.W.fnOf "_law_size" "_law_size" (defArgs s_L_size) (defBody s_L_size) (defScope s_L_size) .none kV dc pm an cd ct), sl⟩) (c : PySem.W.codeIn K cd "_law_size" = true) (k : PySem.W.keepIn K (.ref f_L_size) = true) :
    ∃ fd : FuncData, Fun K "_law_size" "_law_size" s_L_size f_L_size fd ∧ Binds K fd ["_law_cell", "_law_kind"] [] :=
  ⟨_, fun_mk l c k, (fun_mk (st := s_L_size) l c k).binds (ps := ["_law_cell", "_law_kind"]) fun _ _ _ _ _ _ us hl => match us, hl with | [_, _], _ => rfl⟩
theorem fx_L_block {K : PySem.W.Frag} {f_L_block : Addr} {od an : Option Addr} {sl : Array (Option Value)} {oc kV dc pm cd ct : Value} (l : K.lookup f_L_block = some ⟨oc, od, .func (PySem.W.fnOf "_law_block" "_law_block" (defArgs s_L_block) (defBody s_L_block) (defScope s_L_block) .none kV dc pm an cd ct), sl⟩) (c : PySem.W.codeIn K cd "_law_block" = true) (k : PySem.W.keepIn K (.ref f_L_block) = true) :
    ∃ fd : FuncData, Fun K "_law_block" "_law_block" s_L_block f_L_block fd ∧ Binds K fd ["_law_cell", "_law_many", "_law_data_at"] [] :=
  ⟨_, fun_mk l c k, (fun_mk (st := s_L_block) l c k).binds (ps := ["_law_cell", "_law_many", "_law_data_at"]) fun _ _ _ _ _ _ us hl => match us, hl with | [_, _, _], _ => rfl⟩
theorem fx_L_words {K : PySem.W.Frag} {f_L_words : Addr} {od an : Option Addr} {sl : Array (Option Value)} {oc kV dc pm cd ct : Value} (l : K.lookup f_L_words = some ⟨oc, od, .func (PySem.W.fnOf "_law_words" "_law_words" (defArgs s_L_words) (defBody s_L_words) (defScope s_L_words) .none kV dc pm an cd ct), sl⟩) (c : PySem.W.codeIn K cd "_law_words" = true) (k : PySem.W.keepIn K (.ref f_L_words) = true) :
    ∃ fd : FuncData, Fun K "_law_words" "_law_words" s_L_words f_L_words fd ∧ Binds K fd ["_law_cell", "_law_more", "_law_many", "_law_data_at"] [] :=
  ⟨_, fun_mk l c k, (fun_mk (st := s_L_words) l c k).binds (ps := ["_law_cell", "_law_more", "_law_many", "_law_data_at"]) fun _ _ _ _ _ _ us hl => match us, hl with | [_, _, _, _], _ => rfl⟩
theorem fx_L_places {K : PySem.W.Frag} {f_L_places : Addr} {od an : Option Addr} {sl : Array (Option Value)} {oc kV dc pm cd ct : Value} (l : K.lookup f_L_places = some ⟨oc, od, .func (PySem.W.fnOf "_law_places" "_law_places" (defArgs s_L_places) (defBody s_L_places) (defScope s_L_places) .none kV dc pm an cd ct), sl⟩) (c : PySem.W.codeIn K cd "_law_places" = true) (k : PySem.W.keepIn K (.ref f_L_places) = true) :
    ∃ fd : FuncData, Fun K "_law_places" "_law_places" s_L_places f_L_places fd ∧ Binds K fd ["_law_disk", "_law_words_here", "_law_many", "_law_data_at"] [] :=
  ⟨_, fun_mk l c k, (fun_mk (st := s_L_places) l c k).binds (ps := ["_law_disk", "_law_words_here", "_law_many", "_law_data_at"]) fun _ _ _ _ _ _ us hl => match us, hl with | [_, _, _, _], _ => rfl⟩
theorem fx_L_is_sound {K : PySem.W.Frag} {f_L_is_sound : Addr} {od an : Option Addr} {sl : Array (Option Value)} {oc kV dc pm cd ct : Value} (l : K.lookup f_L_is_sound = some ⟨oc, od, .func (PySem.W.fnOf "_law_is_sound" "_law_is_sound" (defArgs s_L_is_sound) (defBody s_L_is_sound) (defScope s_L_is_sound) .none kV dc pm an cd ct), sl⟩) (c : PySem.W.codeIn K cd "_law_is_sound" = true) (k : PySem.W.keepIn K (.ref f_L_is_sound) = true) :
    ∃ fd : FuncData, Fun K "_law_is_sound" "_law_is_sound" s_L_is_sound f_L_is_sound fd ∧ Binds K fd ["_law_node", "_law_words_here"] [] :=
  ⟨_, fun_mk l c k, (fun_mk (st := s_L_is_sound) l c k).binds (ps := ["_law_node", "_law_words_here"]) fun _ _ _ _ _ _ us hl => match us, hl with | [_, _], _ => rfl⟩
theorem fx_L_nodes {K : PySem.W.Frag} {f_L_nodes : Addr} {od an : Option Addr} {sl : Array (Option Value)} {oc kV dc pm cd ct : Value} (l : K.lookup f_L_nodes = some ⟨oc, od, .func (PySem.W.fnOf "_law_nodes" "_law_nodes" (defArgs s_L_nodes) (defBody s_L_nodes) (defScope s_L_nodes) .none kV dc pm an cd ct), sl⟩) (c : PySem.W.codeIn K cd "_law_nodes" = true) (k : PySem.W.keepIn K (.ref f_L_nodes) = true) :
    ∃ fd : FuncData, Fun K "_law_nodes" "_law_nodes" s_L_nodes f_L_nodes fd ∧ Binds K fd ["_law_script", "_law_layout"] [] :=
  ⟨_, fun_mk l c k, (fun_mk (st := s_L_nodes) l c k).binds (ps := ["_law_script", "_law_layout"]) fun _ _ _ _ _ _ us hl => match us, hl with | [_, _], _ => rfl⟩
theorem fx_L_written {K : PySem.W.Frag} {f_L_written : Addr} {od an : Option Addr} {sl : Array (Option Value)} {oc kV dc pm cd ct : Value} (l : K.lookup f_L_written = some ⟨oc, od, .func (PySem.W.fnOf "_law_written" "_law_written" (defArgs s_L_written) (defBody s_L_written) (defScope s_L_written) .none kV dc pm an cd ct), sl⟩) (c : PySem.W.codeIn K cd "_law_written" = true) (k : PySem.W.keepIn K (.ref f_L_written) = true) :
    ∃ fd : FuncData, Fun K "_law_written" "_law_written" s_L_written f_L_written fd ∧ Binds K fd ["_law_script", "_law_layout", "_law_nodes_here"] [] :=
  ⟨_, fun_mk l c k, (fun_mk (st := s_L_written) l c k).binds (ps := ["_law_script", "_law_layout", "_law_nodes_here"]) fun _ _ _ _ _ _ us hl => match us, hl with | [_, _, _], _ => rfl⟩
theorem fx_L_is_told {K : PySem.W.Frag} {f_L_is_told : Addr} {od an : Option Addr} {sl : Array (Option Value)} {oc kV dc pm cd ct : Value} (l : K.lookup f_L_is_told = some ⟨oc, od, .func (PySem.W.fnOf "_law_is_told" "_law_is_told" (defArgs s_L_is_told) (defBody s_L_is_told) (defScope s_L_is_told) .none kV dc pm an cd ct), sl⟩) (c : PySem.W.codeIn K cd "_law_is_told" = true) (k : PySem.W.keepIn K (.ref f_L_is_told) = true) :
    ∃ fd : FuncData, Fun K "_law_is_told" "_law_is_told" s_L_is_told f_L_is_told fd ∧ Binds K fd ["_law_disk", "_law_layout", "_law_nodes_here", "_law_held"] [] :=
  ⟨_, fun_mk l c k, (fun_mk (st := s_L_is_told) l c k).binds (ps := ["_law_disk", "_law_layout", "_law_nodes_here", "_law_held"]) fun _ _ _ _ _ _ us hl => match us, hl with | [_, _, _, _], _ => rfl⟩
theorem fx_law {K : PySem.W.Frag} {f_law : Addr} {od an : Option Addr} {sl : Array (Option Value)} {oc kV dc pm cd ct : Value} (l : K.lookup f_law = some ⟨oc, od, .func (PySem.W.fnOf "law" "law" (defArgs s_law) (defBody s_law) (defScope s_law) .none kV dc pm an cd ct), sl⟩) (c : PySem.W.codeIn K cd "law" = true) (k : PySem.W.keepIn K (.ref f_law) = true) :
    ∃ fd : FuncData, Fun K "law" "law" s_law f_law fd ∧ Binds K fd ["_law_script"] [] ∧ ∀ (s : Shared) (v : Value), BindsTo s fd ⟨[v], []⟩ [("_law_script", v)] :=
  ⟨_, fun_mk l c k, (fun_mk (st := s_law) l c k).binds (ps := ["_law_script"]) fun _ _ _ _ _ _ us hl => match us, hl with | [_], _ => rfl, fun s v => .of_eq rfl⟩
theorem all_mk {l : PySem.W.OpenLaw} {w : World} {K : PySem.W.Frag} {h : Heap} {mg : Str → Option Value} {fa : Addr} (X : K.In h) (G : h.Ns mainGlobals mg) (hfa : mg "law" = some (.ref fa))
    {u_WIDE : Tok}
    {u_MOST_WORD : Tok}
    {u_FILE : Tok}
    {u_FOLDER : Tok}
    {u_MOST_SIZE : Tok}
    {u_NODE_WORDS : Tok}
    {u_NEAR_PLACES : Tok}
    {u_FAR_PLACE : Tok}
    {u_TOP_NODE : Tok}
    {u_LEAST_BLOCKS : Tok}
    {u_MOST_BLOCKS : Tok}
    {u_MAPS_AT : Tok}
    {u_MOST_TABLES : Tok}
    {C_Disk : Addr}
    {C_Layout : Addr}
    {C_KeepError : Addr}
    {C_BadRow : Addr}
    {C_NoBlock : Addr}
    {C_Stopped : Addr}
    {C_BadDisk : Addr}
    {C_NoRoom : Addr}
    {f__wall : Addr}
    {f_is_word : Addr}
    {f_is_row : Addr}
    {f_need_row : Addr}
    {f_empty_row : Addr}
    {f_node_rows : Addr}
    {f_is_kind_bad : Addr}
    {f_is_size_bad : Addr}
    {f_is_sound : Addr}
    {f_is_data : Addr}
    {f_wanted_blocks : Addr}
    {f_places_told : Addr}
    {f_users : Addr}
    {f_is_many : Addr}
    {f_Disk_init : Addr}
    {f_Disk_blocks : Addr}
    {f_Disk_need : Addr}
    {f_Disk_read : Addr}
    {f_Disk_write : Addr}
    {f_Disk_writes : Addr}
    {f_Disk_stop_after : Addr}
    {f_Disk_go_on : Addr}
    {f_Disk_twin : Addr}
    {f_is_tables : Addr}
    {f_Layout_init : Addr}
    {f_Layout_most_node : Addr}
    {f_L_cell_at : Addr}
    {f_L_size : Addr}
    {f_L_block : Addr}
    {f_L_words : Addr}
    {f_L_places : Addr}
    {f_L_is_sound : Addr}
    {f_L_nodes : Addr}
    {f_L_written : Addr}
    {f_L_is_told : Addr}
    {f_law : Addr}
    (a_WIDE : PySem.W.nsIn K mainGlobals "WIDE" = some (some (.int 16 u_WIDE)))
    (a_MOST_WORD : PySem.W.nsIn K mainGlobals "MOST_WORD" = some (some (.int 999999999 u_MOST_WORD)))
    (a_FILE : PySem.W.nsIn K mainGlobals "FILE" = some (some (.int 1 u_FILE)))
    (a_FOLDER : PySem.W.nsIn K mainGlobals "FOLDER" = some (some (.int 2 u_FOLDER)))
    (a_MOST_SIZE : PySem.W.nsIn K mainGlobals "MOST_SIZE" = some (some (.int 320 u_MOST_SIZE)))
    (a_NODE_WORDS : PySem.W.nsIn K mainGlobals "NODE_WORDS" = some (some (.int 8 u_NODE_WORDS)))
    (a_NEAR_PLACES : PySem.W.nsIn K mainGlobals "NEAR_PLACES" = some (some (.int 4 u_NEAR_PLACES)))
    (a_FAR_PLACE : PySem.W.nsIn K mainGlobals "FAR_PLACE" = some (some (.int (-1) u_FAR_PLACE)))
    (a_TOP_NODE : PySem.W.nsIn K mainGlobals "TOP_NODE" = some (some (.int 1 u_TOP_NODE)))
    (a_LEAST_BLOCKS : PySem.W.nsIn K mainGlobals "LEAST_BLOCKS" = some (some (.int 24 u_LEAST_BLOCKS)))
    (a_MOST_BLOCKS : PySem.W.nsIn K mainGlobals "MOST_BLOCKS" = some (some (.int 96 u_MOST_BLOCKS)))
    (a_MAPS_AT : PySem.W.nsIn K mainGlobals "MAPS_AT" = some (some (.int 17 u_MAPS_AT)))
    (a_MOST_TABLES : PySem.W.nsIn K mainGlobals "MOST_TABLES" = some (some (.int 8 u_MOST_TABLES)))
    (z_all : PySem.W.nsIn K mainGlobals "all" = some none)
    (z_bool : PySem.W.nsIn K mainGlobals "bool" = some none)
    (z_enumerate : PySem.W.nsIn K mainGlobals "enumerate" = some none)
    (z_int : PySem.W.nsIn K mainGlobals "int" = some none)
    (z_isinstance : PySem.W.nsIn K mainGlobals "isinstance" = some none)
    (z_len : PySem.W.nsIn K mainGlobals "len" = some none)
    (z_list : PySem.W.nsIn K mainGlobals "list" = some none)
    (z_min : PySem.W.nsIn K mainGlobals "min" = some none)
    (z_range : PySem.W.nsIn K mainGlobals "range" = some none)
    (z_reversed : PySem.W.nsIn K mainGlobals "reversed" = some none)
    (z_sorted : PySem.W.nsIn K mainGlobals "sorted" = some none)
    (a_Disk : PySem.W.nsIn K mainGlobals "Disk" = some (some (.ref C_Disk)))
    (a_Layout : PySem.W.nsIn K mainGlobals "Layout" = some (some (.ref C_Layout)))
    (a_KeepError : PySem.W.nsIn K mainGlobals "KeepError" = some (some (.ref C_KeepError)))
    (a_BadRow : PySem.W.nsIn K mainGlobals "BadRow" = some (some (.ref C_BadRow)))
    (a_NoBlock : PySem.W.nsIn K mainGlobals "NoBlock" = some (some (.ref C_NoBlock)))
    (a_Stopped : PySem.W.nsIn K mainGlobals "Stopped" = some (some (.ref C_Stopped)))
    (a_BadDisk : PySem.W.nsIn K mainGlobals "BadDisk" = some (some (.ref C_BadDisk)))
    (a_NoRoom : PySem.W.nsIn K mainGlobals "NoRoom" = some (some (.ref C_NoRoom)))
    (a__wall : PySem.W.nsIn K mainGlobals "_wall" = some (some (.ref f__wall)))
    (e__wall : ∃ fd : FuncData, Fun K "_wall" "_wall" s__wall f__wall fd ∧ Binds K fd ["k"] [])
    (a_is_word : PySem.W.nsIn K mainGlobals "is_word" = some (some (.ref f_is_word)))
    (e_is_word : ∃ fd : FuncData, Fun K "is_word" "is_word" s_is_word f_is_word fd ∧ Binds K fd ["thing"] [])
    (a_is_row : PySem.W.nsIn K mainGlobals "is_row" = some (some (.ref f_is_row)))
    (e_is_row : ∃ fd : FuncData, Fun K "is_row" "is_row" s_is_row f_is_row fd ∧ Binds K fd ["thing"] [])
    (a_need_row : PySem.W.nsIn K mainGlobals "need_row" = some (some (.ref f_need_row)))
    (e_need_row : ∃ fd : FuncData, Fun K "need_row" "need_row" s_need_row f_need_row fd ∧ Binds K fd ["thing"] [])
    (a_empty_row : PySem.W.nsIn K mainGlobals "empty_row" = some (some (.ref f_empty_row)))
    (e_empty_row : ∃ fd : FuncData, Fun K "empty_row" "empty_row" s_empty_row f_empty_row fd ∧ Binds K fd [] [])
    (a_node_rows : PySem.W.nsIn K mainGlobals "node_rows" = some (some (.ref f_node_rows)))
    (e_node_rows : ∃ fd : FuncData, Fun K "node_rows" "node_rows" s_node_rows f_node_rows fd ∧ Binds K fd ["disk", "layout"] [])
    (a_is_kind_bad : PySem.W.nsIn K mainGlobals "is_kind_bad" = some (some (.ref f_is_kind_bad)))
    (e_is_kind_bad : ∃ fd : FuncData, Fun K "is_kind_bad" "is_kind_bad" s_is_kind_bad f_is_kind_bad fd ∧ Binds K fd ["node", "words"] [])
    (a_is_size_bad : PySem.W.nsIn K mainGlobals "is_size_bad" = some (some (.ref f_is_size_bad)))
    (e_is_size_bad : ∃ fd : FuncData, Fun K "is_size_bad" "is_size_bad" s_is_size_bad f_is_size_bad fd ∧ Binds K fd ["words"] [])
    (a_is_sound : PySem.W.nsIn K mainGlobals "is_sound" = some (some (.ref f_is_sound)))
    (e_is_sound : ∃ fd : FuncData, Fun K "is_sound" "is_sound" s_is_sound f_is_sound fd ∧ Binds K fd ["node", "words"] [])
    (a_is_data : PySem.W.nsIn K mainGlobals "is_data" = some (some (.ref f_is_data)))
    (e_is_data : ∃ fd : FuncData, Fun K "is_data" "is_data" s_is_data f_is_data fd ∧ Binds K fd ["layout", "block"] [])
    (a_wanted_blocks : PySem.W.nsIn K mainGlobals "wanted_blocks" = some (some (.ref f_wanted_blocks)))
    (e_wanted_blocks : ∃ fd : FuncData, Fun K "wanted_blocks" "wanted_blocks" s_wanted_blocks f_wanted_blocks fd ∧ Binds K fd ["words"] [])
    (a_places_told : PySem.W.nsIn K mainGlobals "places_told" = some (some (.ref f_places_told)))
    (e_places_told : ∃ fd : FuncData, Fun K "places_told" "places_told" s_places_told f_places_told fd ∧ Binds K fd ["disk", "layout", "words"] [])
    (a_users : PySem.W.nsIn K mainGlobals "users" = some (some (.ref f_users)))
    (e_users : ∃ fd : FuncData, Fun K "users" "users" s_users f_users fd ∧ Binds K fd ["disk", "layout"] [])
    (a_is_many : PySem.W.nsIn K mainGlobals "is_many" = some (some (.ref f_is_many)))
    (e_is_many : ∃ fd : FuncData, Fun K "is_many" "is_many" s_is_many f_is_many fd ∧ Binds K fd ["thing"] [])
    (a_Disk_init : PySem.W.findIn K (.ref C_Disk) "__init__" = some (some (.ref f_Disk_init)))
    (i_Disk_init : PySem.W.isFn K (.ref f_Disk_init) = true)
    (e_Disk_init : ∃ fd : FuncData, Fun K "__init__" "Disk.__init__" s_Disk_init f_Disk_init fd ∧ Binds K fd ["self", "many"] [])
    (a_Disk_blocks : PySem.W.findIn K (.ref C_Disk) "blocks" = some (some (.ref f_Disk_blocks)))
    (i_Disk_blocks : PySem.W.isFn K (.ref f_Disk_blocks) = true)
    (e_Disk_blocks : ∃ fd : FuncData, Fun K "blocks" "Disk.blocks" s_Disk_blocks f_Disk_blocks fd ∧ Binds K fd ["self"] [])
    (a_Disk_need : PySem.W.findIn K (.ref C_Disk) "need" = some (some (.ref f_Disk_need)))
    (i_Disk_need : PySem.W.isFn K (.ref f_Disk_need) = true)
    (e_Disk_need : ∃ fd : FuncData, Fun K "need" "Disk.need" s_Disk_need f_Disk_need fd ∧ Binds K fd ["self", "block"] [])
    (a_Disk_read : PySem.W.findIn K (.ref C_Disk) "read" = some (some (.ref f_Disk_read)))
    (i_Disk_read : PySem.W.isFn K (.ref f_Disk_read) = true)
    (e_Disk_read : ∃ fd : FuncData, Fun K "read" "Disk.read" s_Disk_read f_Disk_read fd ∧ Binds K fd ["self", "block"] [])
    (a_Disk_write : PySem.W.findIn K (.ref C_Disk) "write" = some (some (.ref f_Disk_write)))
    (i_Disk_write : PySem.W.isFn K (.ref f_Disk_write) = true)
    (e_Disk_write : ∃ fd : FuncData, Fun K "write" "Disk.write" s_Disk_write f_Disk_write fd ∧ Binds K fd ["self", "block", "row"] [])
    (a_Disk_writes : PySem.W.findIn K (.ref C_Disk) "writes" = some (some (.ref f_Disk_writes)))
    (i_Disk_writes : PySem.W.isFn K (.ref f_Disk_writes) = true)
    (e_Disk_writes : ∃ fd : FuncData, Fun K "writes" "Disk.writes" s_Disk_writes f_Disk_writes fd ∧ Binds K fd ["self"] [])
    (a_Disk_stop_after : PySem.W.findIn K (.ref C_Disk) "stop_after" = some (some (.ref f_Disk_stop_after)))
    (i_Disk_stop_after : PySem.W.isFn K (.ref f_Disk_stop_after) = true)
    (e_Disk_stop_after : ∃ fd : FuncData, Fun K "stop_after" "Disk.stop_after" s_Disk_stop_after f_Disk_stop_after fd ∧ Binds K fd ["self", "count"] [])
    (a_Disk_go_on : PySem.W.findIn K (.ref C_Disk) "go_on" = some (some (.ref f_Disk_go_on)))
    (i_Disk_go_on : PySem.W.isFn K (.ref f_Disk_go_on) = true)
    (e_Disk_go_on : ∃ fd : FuncData, Fun K "go_on" "Disk.go_on" s_Disk_go_on f_Disk_go_on fd ∧ Binds K fd ["self"] [])
    (a_Disk_twin : PySem.W.findIn K (.ref C_Disk) "twin" = some (some (.ref f_Disk_twin)))
    (i_Disk_twin : PySem.W.isFn K (.ref f_Disk_twin) = true)
    (e_Disk_twin : ∃ fd : FuncData, Fun K "twin" "Disk.twin" s_Disk_twin f_Disk_twin fd ∧ Binds K fd ["self"] [])
    (a_is_tables : PySem.W.nsIn K mainGlobals "is_tables" = some (some (.ref f_is_tables)))
    (e_is_tables : ∃ fd : FuncData, Fun K "is_tables" "is_tables" s_is_tables f_is_tables fd ∧ Binds K fd ["thing"] [])
    (a_Layout_init : PySem.W.findIn K (.ref C_Layout) "__init__" = some (some (.ref f_Layout_init)))
    (i_Layout_init : PySem.W.isFn K (.ref f_Layout_init) = true)
    (e_Layout_init : ∃ fd : FuncData, Fun K "__init__" "Layout.__init__" s_Layout_init f_Layout_init fd ∧ Binds K fd ["self", "many", "tables"] [])
    (a_Layout_most_node : PySem.W.findIn K (.ref C_Layout) "most_node" = some (some (.ref f_Layout_most_node)))
    (i_Layout_most_node : PySem.W.isFn K (.ref f_Layout_most_node) = true)
    (e_Layout_most_node : ∃ fd : FuncData, Fun K "most_node" "Layout.most_node" s_Layout_most_node f_Layout_most_node fd ∧ Binds K fd ["self"] [])
    (a_L_cell_at : PySem.W.nsIn K mainGlobals "_law_cell_at" = some (some (.ref f_L_cell_at)))
    (e_L_cell_at : ∃ fd : FuncData, Fun K "_law_cell_at" "_law_cell_at" s_L_cell_at f_L_cell_at fd ∧ Binds K fd ["_law_script", "_law_k"] [])
    (a_L_size : PySem.W.nsIn K mainGlobals "_law_size" = some (some (.ref f_L_size)))
    (e_L_size : ∃ fd : FuncData, Fun K "_law_size" "_law_size" s_L_size f_L_size fd ∧ Binds K fd ["_law_cell", "_law_kind"] [])
    (a_L_block : PySem.W.nsIn K mainGlobals "_law_block" = some (some (.ref f_L_block)))
    (e_L_block : ∃ fd : FuncData, Fun K "_law_block" "_law_block" s_L_block f_L_block fd ∧ Binds K fd ["_law_cell", "_law_many", "_law_data_at"] [])
    (a_L_words : PySem.W.nsIn K mainGlobals "_law_words" = some (some (.ref f_L_words)))
    (e_L_words : ∃ fd : FuncData, Fun K "_law_words" "_law_words" s_L_words f_L_words fd ∧ Binds K fd ["_law_cell", "_law_more", "_law_many", "_law_data_at"] [])
    (a_L_places : PySem.W.nsIn K mainGlobals "_law_places" = some (some (.ref f_L_places)))
    (e_L_places : ∃ fd : FuncData, Fun K "_law_places" "_law_places" s_L_places f_L_places fd ∧ Binds K fd ["_law_disk", "_law_words_here", "_law_many", "_law_data_at"] [])
    (a_L_is_sound : PySem.W.nsIn K mainGlobals "_law_is_sound" = some (some (.ref f_L_is_sound)))
    (e_L_is_sound : ∃ fd : FuncData, Fun K "_law_is_sound" "_law_is_sound" s_L_is_sound f_L_is_sound fd ∧ Binds K fd ["_law_node", "_law_words_here"] [])
    (a_L_nodes : PySem.W.nsIn K mainGlobals "_law_nodes" = some (some (.ref f_L_nodes)))
    (e_L_nodes : ∃ fd : FuncData, Fun K "_law_nodes" "_law_nodes" s_L_nodes f_L_nodes fd ∧ Binds K fd ["_law_script", "_law_layout"] [])
    (a_L_written : PySem.W.nsIn K mainGlobals "_law_written" = some (some (.ref f_L_written)))
    (e_L_written : ∃ fd : FuncData, Fun K "_law_written" "_law_written" s_L_written f_L_written fd ∧ Binds K fd ["_law_script", "_law_layout", "_law_nodes_here"] [])
    (a_L_is_told : PySem.W.nsIn K mainGlobals "_law_is_told" = some (some (.ref f_L_is_told)))
    (e_L_is_told : ∃ fd : FuncData, Fun K "_law_is_told" "_law_is_told" s_L_is_told f_L_is_told fd ∧ Binds K fd ["_law_disk", "_law_layout", "_law_nodes_here", "_law_held"] [])
    (a_law : PySem.W.nsIn K mainGlobals "law" = some (some (.ref f_law)))
    (e_law : ∃ fd : FuncData, Fun K "law" "law" s_law f_law fd ∧ Binds K fd ["_law_script"] [] ∧ ∀ (s : Shared) (v : Value), BindsTo s fd ⟨[v], []⟩ [("_law_script", v)])
    (pg_Disk : PySem.W.plainGet K C_Disk Str.empty = true)
    (hd_Disk : PySem.W.hasDictIn K C_Disk = true)
    (po_Disk : PySem.W.plainOver K C_Disk = true)
    (sa_Disk : PySem.W.findIn K (.ref C_Disk) "__setattr__" = some (some (.builtin "object.__setattr__")))
    (mk_Disk : PySem.W.makesIn K C_Disk = true)
    (kc_Disk : PySem.W.keepIn K (.ref C_Disk) = true)
    (na_Disk_done : PySem.W.findIn K (.ref C_Disk) "done" = some none)
    (na_Disk_left : PySem.W.findIn K (.ref C_Disk) "left" = some none)
    (na_Disk_rows : PySem.W.findIn K (.ref C_Disk) "rows" = some none)
    (pg_Layout : PySem.W.plainGet K C_Layout Str.empty = true)
    (hd_Layout : PySem.W.hasDictIn K C_Layout = true)
    (po_Layout : PySem.W.plainOver K C_Layout = true)
    (sa_Layout : PySem.W.findIn K (.ref C_Layout) "__setattr__" = some (some (.builtin "object.__setattr__")))
    (mk_Layout : PySem.W.makesIn K C_Layout = true)
    (kc_Layout : PySem.W.keepIn K (.ref C_Layout) = true)
    (na_Layout_data_at : PySem.W.findIn K (.ref C_Layout) "data_at" = some none)
    (na_Layout_many : PySem.W.findIn K (.ref C_Layout) "many" = some none)
    (na_Layout_maps_at : PySem.W.findIn K (.ref C_Layout) "maps_at" = some none)
    (na_Layout_nodes_at : PySem.W.findIn K (.ref C_Layout) "nodes_at" = some none)
    (na_Layout_tables : PySem.W.findIn K (.ref C_Layout) "tables" = some none)
    (xq_KeepError : PySem.W.excIn K C_KeepError [.type "ValueError", .type "Exception", .type "BaseException", .type "object"] "ValueError.__new__" = true)
    (xk_KeepError : PySem.W.keepIn K (.ref C_KeepError) = true)
    (xs_KeepError : PySem.W.subIn K (.ref C_KeepError) (.type "BaseException") = some true)
    (xt_KeepError : PySem.W.typeIn K (.ref C_KeepError) = some (.type "type"))
    (xq_BadRow : PySem.W.excIn K C_BadRow [.type "ValueError", .type "Exception", .type "BaseException", .type "object"] "ValueError.__new__" = true)
    (xk_BadRow : PySem.W.keepIn K (.ref C_BadRow) = true)
    (xs_BadRow : PySem.W.subIn K (.ref C_BadRow) (.type "BaseException") = some true)
    (xt_BadRow : PySem.W.typeIn K (.ref C_BadRow) = some (.type "type"))
    (xq_NoBlock : PySem.W.excIn K C_NoBlock [.type "ValueError", .type "Exception", .type "BaseException", .type "object"] "ValueError.__new__" = true)
    (xk_NoBlock : PySem.W.keepIn K (.ref C_NoBlock) = true)
    (xs_NoBlock : PySem.W.subIn K (.ref C_NoBlock) (.type "BaseException") = some true)
    (xt_NoBlock : PySem.W.typeIn K (.ref C_NoBlock) = some (.type "type"))
    (xq_Stopped : PySem.W.excIn K C_Stopped [.type "ValueError", .type "Exception", .type "BaseException", .type "object"] "ValueError.__new__" = true)
    (xk_Stopped : PySem.W.keepIn K (.ref C_Stopped) = true)
    (xs_Stopped : PySem.W.subIn K (.ref C_Stopped) (.type "BaseException") = some true)
    (xt_Stopped : PySem.W.typeIn K (.ref C_Stopped) = some (.type "type"))
    (xq_BadDisk : PySem.W.excIn K C_BadDisk [.type "ValueError", .type "Exception", .type "BaseException", .type "object"] "ValueError.__new__" = true)
    (xk_BadDisk : PySem.W.keepIn K (.ref C_BadDisk) = true)
    (xs_BadDisk : PySem.W.subIn K (.ref C_BadDisk) (.type "BaseException") = some true)
    (xt_BadDisk : PySem.W.typeIn K (.ref C_BadDisk) = some (.type "type"))
    (xq_NoRoom : PySem.W.excIn K C_NoRoom [.type "ValueError", .type "Exception", .type "BaseException", .type "object"] "ValueError.__new__" = true)
    (xk_NoRoom : PySem.W.keepIn K (.ref C_NoRoom) = true)
    (xs_NoRoom : PySem.W.subIn K (.ref C_NoRoom) (.type "BaseException") = some true)
    (xt_NoRoom : PySem.W.typeIn K (.ref C_NoRoom) = some (.type "type"))
    (xc_hg_BadDisk : PySem.W.findIn K (.ref C_BadDisk) "__getattribute__" = some (some (.builtin "BaseException.__getattribute__")))
    (xc_hk_BadDisk : PySem.W.findIn K (.ref C_BadDisk) "__getattr__" = some none)
    (xc_hd_BadDisk : PySem.W.hasDictIn K C_BadDisk = true)
    (xc_ha_BadDisk : PySem.W.findIn K (.ref C_BadDisk) "__class__" = some (some (.builtin "object.__class__")))
    (xc_hm_BadDisk : PySem.W.mroIn K C_BadDisk (.type "object") = some true)
    (xc_hg_BadRow : PySem.W.findIn K (.ref C_BadRow) "__getattribute__" = some (some (.builtin "BaseException.__getattribute__")))
    (xc_hk_BadRow : PySem.W.findIn K (.ref C_BadRow) "__getattr__" = some none)
    (xc_hd_BadRow : PySem.W.hasDictIn K C_BadRow = true)
    (xc_ha_BadRow : PySem.W.findIn K (.ref C_BadRow) "__class__" = some (some (.builtin "object.__class__")))
    (xc_hm_BadRow : PySem.W.mroIn K C_BadRow (.type "object") = some true)
    (xc_hg_NoBlock : PySem.W.findIn K (.ref C_NoBlock) "__getattribute__" = some (some (.builtin "BaseException.__getattribute__")))
    (xc_hk_NoBlock : PySem.W.findIn K (.ref C_NoBlock) "__getattr__" = some none)
    (xc_hd_NoBlock : PySem.W.hasDictIn K C_NoBlock = true)
    (xc_ha_NoBlock : PySem.W.findIn K (.ref C_NoBlock) "__class__" = some (some (.builtin "object.__class__")))
    (xc_hm_NoBlock : PySem.W.mroIn K C_NoBlock (.type "object") = some true)
    (xc_hg_NoRoom : PySem.W.findIn K (.ref C_NoRoom) "__getattribute__" = some (some (.builtin "BaseException.__getattribute__")))
    (xc_hk_NoRoom : PySem.W.findIn K (.ref C_NoRoom) "__getattr__" = some none)
    (xc_hd_NoRoom : PySem.W.hasDictIn K C_NoRoom = true)
    (xc_ha_NoRoom : PySem.W.findIn K (.ref C_NoRoom) "__class__" = some (some (.builtin "object.__class__")))
    (xc_hm_NoRoom : PySem.W.mroIn K C_NoRoom (.type "object") = some true)
    (xc_hg_Stopped : PySem.W.findIn K (.ref C_Stopped) "__getattribute__" = some (some (.builtin "BaseException.__getattribute__")))
    (xc_hk_Stopped : PySem.W.findIn K (.ref C_Stopped) "__getattr__" = some none)
    (xc_hd_Stopped : PySem.W.hasDictIn K C_Stopped = true)
    (xc_ha_Stopped : PySem.W.findIn K (.ref C_Stopped) "__class__" = some (some (.builtin "object.__class__")))
    (xc_hm_Stopped : PySem.W.mroIn K C_Stopped (.type "object") = some true)
    (xc_hn : PySem.W.specialIn K (.builtin "object.__class__") "__get__" = some (some (.builtin "getset_descriptor.__get__")))
    (xc_ht : PySem.W.takesIn K (.builtin "object.__class__") = some true) :
    ∃ fd : FuncData, (∀ (s : Shared) (v : Value), BindsTo s fd ⟨[v], []⟩ [("_law_script", v)]) ∧ ∀ base : Heap, K.In base → base.Ns mainGlobals mg → FnOk l.prog w K mg base (L2N.CX l.prog w) 7 fa fd ["_law_script"] (spLaw K) := by
  have e : fa = f_law := Value.ref.inj (Option.some.inj (hfa.symm.trans (PySem.W.mg_of X G a_law)))
  rw [e]
  obtain ⟨fd__wall, F__wall, b__wall⟩ := e__wall
  obtain ⟨fd_is_word, F_is_word, b_is_word⟩ := e_is_word
  obtain ⟨fd_is_row, F_is_row, b_is_row⟩ := e_is_row
  obtain ⟨fd_need_row, F_need_row, b_need_row⟩ := e_need_row
  obtain ⟨fd_empty_row, F_empty_row, b_empty_row⟩ := e_empty_row
  obtain ⟨fd_node_rows, F_node_rows, b_node_rows⟩ := e_node_rows
  obtain ⟨fd_is_kind_bad, F_is_kind_bad, b_is_kind_bad⟩ := e_is_kind_bad
  obtain ⟨fd_is_size_bad, F_is_size_bad, b_is_size_bad⟩ := e_is_size_bad
  obtain ⟨fd_is_sound, F_is_sound, b_is_sound⟩ := e_is_sound
  obtain ⟨fd_is_data, F_is_data, b_is_data⟩ := e_is_data
  obtain ⟨fd_wanted_blocks, F_wanted_blocks, b_wanted_blocks⟩ := e_wanted_blocks
  obtain ⟨fd_places_told, F_places_told, b_places_told⟩ := e_places_told
  obtain ⟨fd_users, F_users, b_users⟩ := e_users
  obtain ⟨fd_is_many, F_is_many, b_is_many⟩ := e_is_many
  obtain ⟨fd_Disk_init, F_Disk_init, b_Disk_init⟩ := e_Disk_init
  obtain ⟨fd_Disk_blocks, F_Disk_blocks, b_Disk_blocks⟩ := e_Disk_blocks
  obtain ⟨fd_Disk_need, F_Disk_need, b_Disk_need⟩ := e_Disk_need
  obtain ⟨fd_Disk_read, F_Disk_read, b_Disk_read⟩ := e_Disk_read
  obtain ⟨fd_Disk_write, F_Disk_write, b_Disk_write⟩ := e_Disk_write
  obtain ⟨fd_Disk_writes, F_Disk_writes, b_Disk_writes⟩ := e_Disk_writes
  obtain ⟨fd_Disk_stop_after, F_Disk_stop_after, b_Disk_stop_after⟩ := e_Disk_stop_after
  obtain ⟨fd_Disk_go_on, F_Disk_go_on, b_Disk_go_on⟩ := e_Disk_go_on
  obtain ⟨fd_Disk_twin, F_Disk_twin, b_Disk_twin⟩ := e_Disk_twin
  obtain ⟨fd_is_tables, F_is_tables, b_is_tables⟩ := e_is_tables
  obtain ⟨fd_Layout_init, F_Layout_init, b_Layout_init⟩ := e_Layout_init
  obtain ⟨fd_Layout_most_node, F_Layout_most_node, b_Layout_most_node⟩ := e_Layout_most_node
  obtain ⟨fd_L_cell_at, F_L_cell_at, b_L_cell_at⟩ := e_L_cell_at
  obtain ⟨fd_L_size, F_L_size, b_L_size⟩ := e_L_size
  obtain ⟨fd_L_block, F_L_block, b_L_block⟩ := e_L_block
  obtain ⟨fd_L_words, F_L_words, b_L_words⟩ := e_L_words
  obtain ⟨fd_L_places, F_L_places, b_L_places⟩ := e_L_places
  obtain ⟨fd_L_is_sound, F_L_is_sound, b_L_is_sound⟩ := e_L_is_sound
  obtain ⟨fd_L_nodes, F_L_nodes, b_L_nodes⟩ := e_L_nodes
  obtain ⟨fd_L_written, F_L_written, b_L_written⟩ := e_L_written
  obtain ⟨fd_L_is_told, F_L_is_told, b_L_is_told⟩ := e_L_is_told
  obtain ⟨fd_law, F_law, b_law, bt_law⟩ := e_law
  have T : Tx K mg { KeepError := C_KeepError, BadRow := C_BadRow, NoBlock := C_NoBlock, Stopped := C_Stopped, BadDisk := C_BadDisk, NoRoom := C_NoRoom, TooMuch := 0, BadLog := 0, NoNode := 0, NoNodes := 0, TooLong := 0, OutOfPlace := 0, BadName := 0, BadPath := 0, NotFolder := 0, NotFile := 0, NoName := 0, NameThere := 0, NotEmpty := 0, Within := 0, BadOrder := 0, Disk := C_Disk, Layout := C_Layout, Batch := 0, Keeper := 0, f1 := 0, f2 := 0 } { f__wall := f__wall, f_is_word := f_is_word, f_is_row := f_is_row, f_need_row := f_need_row, f_empty_row := f_empty_row, f_node_rows := f_node_rows, f_is_kind_bad := f_is_kind_bad, f_is_size_bad := f_is_size_bad, f_is_sound := f_is_sound, f_is_data := f_is_data, f_wanted_blocks := f_wanted_blocks, f_places_told := f_places_told, f_users := f_users, f_is_many := f_is_many, f_Disk_init := f_Disk_init, f_Disk_blocks := f_Disk_blocks, f_Disk_need := f_Disk_need, f_Disk_read := f_Disk_read, f_Disk_write := f_Disk_write, f_Disk_writes := f_Disk_writes, f_Disk_stop_after := f_Disk_stop_after, f_Disk_go_on := f_Disk_go_on, f_Disk_twin := f_Disk_twin, f_is_tables := f_is_tables, f_Layout_init := f_Layout_init, f_Layout_most_node := f_Layout_most_node, f_L_cell_at := f_L_cell_at, f_L_size := f_L_size, f_L_block := f_L_block, f_L_words := f_L_words, f_L_places := f_L_places, f_L_is_sound := f_L_is_sound, f_L_nodes := f_L_nodes, f_L_written := f_L_written, f_L_is_told := f_L_is_told, f_law := f_law, fd__wall := fd__wall, fd_is_word := fd_is_word, fd_is_row := fd_is_row, fd_need_row := fd_need_row, fd_empty_row := fd_empty_row, fd_node_rows := fd_node_rows, fd_is_kind_bad := fd_is_kind_bad, fd_is_size_bad := fd_is_size_bad, fd_is_sound := fd_is_sound, fd_is_data := fd_is_data, fd_wanted_blocks := fd_wanted_blocks, fd_places_told := fd_places_told, fd_users := fd_users, fd_is_many := fd_is_many, fd_Disk_init := fd_Disk_init, fd_Disk_blocks := fd_Disk_blocks, fd_Disk_need := fd_Disk_need, fd_Disk_read := fd_Disk_read, fd_Disk_write := fd_Disk_write, fd_Disk_writes := fd_Disk_writes, fd_Disk_stop_after := fd_Disk_stop_after, fd_Disk_go_on := fd_Disk_go_on, fd_Disk_twin := fd_Disk_twin, fd_is_tables := fd_is_tables, fd_Layout_init := fd_Layout_init, fd_Layout_most_node := fd_Layout_most_node, fd_L_cell_at := fd_L_cell_at, fd_L_size := fd_L_size, fd_L_block := fd_L_block, fd_L_words := fd_L_words, fd_L_places := fd_L_places, fd_L_is_sound := fd_L_is_sound, fd_L_nodes := fd_L_nodes, fd_L_written := fd_L_written, fd_L_is_told := fd_L_is_told, fd_law := fd_law } := {
    g_WIDE := ⟨_, PySem.W.mg_of X G a_WIDE, _, rfl⟩,
    g_MOST_WORD := ⟨_, PySem.W.mg_of X G a_MOST_WORD, _, rfl⟩,
    g_FILE := ⟨_, PySem.W.mg_of X G a_FILE, _, rfl⟩,
    g_FOLDER := ⟨_, PySem.W.mg_of X G a_FOLDER, _, rfl⟩,
    g_MOST_SIZE := ⟨_, PySem.W.mg_of X G a_MOST_SIZE, _, rfl⟩,
    g_NODE_WORDS := ⟨_, PySem.W.mg_of X G a_NODE_WORDS, _, rfl⟩,
    g_NEAR_PLACES := ⟨_, PySem.W.mg_of X G a_NEAR_PLACES, _, rfl⟩,
    g_FAR_PLACE := ⟨_, PySem.W.mg_of X G a_FAR_PLACE, _, rfl⟩,
    g_TOP_NODE := ⟨_, PySem.W.mg_of X G a_TOP_NODE, _, rfl⟩,
    g_LEAST_BLOCKS := ⟨_, PySem.W.mg_of X G a_LEAST_BLOCKS, _, rfl⟩,
    g_MOST_BLOCKS := ⟨_, PySem.W.mg_of X G a_MOST_BLOCKS, _, rfl⟩,
    g_MAPS_AT := ⟨_, PySem.W.mg_of X G a_MAPS_AT, _, rfl⟩,
    g_MOST_TABLES := ⟨_, PySem.W.mg_of X G a_MOST_TABLES, _, rfl⟩,
    n_all := PySem.W.mg_none_of X G z_all,
    n_bool := PySem.W.mg_none_of X G z_bool,
    n_enumerate := PySem.W.mg_none_of X G z_enumerate,
    n_int := PySem.W.mg_none_of X G z_int,
    n_isinstance := PySem.W.mg_none_of X G z_isinstance,
    n_len := PySem.W.mg_none_of X G z_len,
    n_list := PySem.W.mg_none_of X G z_list,
    n_min := PySem.W.mg_none_of X G z_min,
    n_range := PySem.W.mg_none_of X G z_range,
    n_reversed := PySem.W.mg_none_of X G z_reversed,
    n_sorted := PySem.W.mg_none_of X G z_sorted,
    g_Disk := PySem.W.mg_of X G a_Disk,
    g_Layout := PySem.W.mg_of X G a_Layout,
    g_KeepError := PySem.W.mg_of X G a_KeepError,
    g_BadRow := PySem.W.mg_of X G a_BadRow,
    g_NoBlock := PySem.W.mg_of X G a_NoBlock,
    g_Stopped := PySem.W.mg_of X G a_Stopped,
    g_BadDisk := PySem.W.mg_of X G a_BadDisk,
    g_NoRoom := PySem.W.mg_of X G a_NoRoom,
    g__wall := PySem.W.mg_of X G a__wall,
    k__wall := F__wall.kp,
    F__wall := F__wall,
    b__wall := b__wall,
    g_is_word := PySem.W.mg_of X G a_is_word,
    k_is_word := F_is_word.kp,
    F_is_word := F_is_word,
    b_is_word := b_is_word,
    g_is_row := PySem.W.mg_of X G a_is_row,
    k_is_row := F_is_row.kp,
    F_is_row := F_is_row,
    b_is_row := b_is_row,
    g_need_row := PySem.W.mg_of X G a_need_row,
    k_need_row := F_need_row.kp,
    F_need_row := F_need_row,
    b_need_row := b_need_row,
    g_empty_row := PySem.W.mg_of X G a_empty_row,
    k_empty_row := F_empty_row.kp,
    F_empty_row := F_empty_row,
    b_empty_row := b_empty_row,
    g_node_rows := PySem.W.mg_of X G a_node_rows,
    k_node_rows := F_node_rows.kp,
    F_node_rows := F_node_rows,
    b_node_rows := b_node_rows,
    g_is_kind_bad := PySem.W.mg_of X G a_is_kind_bad,
    k_is_kind_bad := F_is_kind_bad.kp,
    F_is_kind_bad := F_is_kind_bad,
    b_is_kind_bad := b_is_kind_bad,
    g_is_size_bad := PySem.W.mg_of X G a_is_size_bad,
    k_is_size_bad := F_is_size_bad.kp,
    F_is_size_bad := F_is_size_bad,
    b_is_size_bad := b_is_size_bad,
    g_is_sound := PySem.W.mg_of X G a_is_sound,
    k_is_sound := F_is_sound.kp,
    F_is_sound := F_is_sound,
    b_is_sound := b_is_sound,
    g_is_data := PySem.W.mg_of X G a_is_data,
    k_is_data := F_is_data.kp,
    F_is_data := F_is_data,
    b_is_data := b_is_data,
    g_wanted_blocks := PySem.W.mg_of X G a_wanted_blocks,
    k_wanted_blocks := F_wanted_blocks.kp,
    F_wanted_blocks := F_wanted_blocks,
    b_wanted_blocks := b_wanted_blocks,
    g_places_told := PySem.W.mg_of X G a_places_told,
    k_places_told := F_places_told.kp,
    F_places_told := F_places_told,
    b_places_told := b_places_told,
    g_users := PySem.W.mg_of X G a_users,
    k_users := F_users.kp,
    F_users := F_users,
    b_users := b_users,
    g_is_many := PySem.W.mg_of X G a_is_many,
    k_is_many := F_is_many.kp,
    F_is_many := F_is_many,
    b_is_many := b_is_many,
    F_Disk_init := F_Disk_init,
    b_Disk_init := b_Disk_init,
    mt_Disk_blocks := ⟨a_Disk_blocks, i_Disk_blocks, F_Disk_blocks.kp⟩,
    F_Disk_blocks := F_Disk_blocks,
    b_Disk_blocks := b_Disk_blocks,
    mt_Disk_need := ⟨a_Disk_need, i_Disk_need, F_Disk_need.kp⟩,
    F_Disk_need := F_Disk_need,
    b_Disk_need := b_Disk_need,
    mt_Disk_read := ⟨a_Disk_read, i_Disk_read, F_Disk_read.kp⟩,
    F_Disk_read := F_Disk_read,
    b_Disk_read := b_Disk_read,
    mt_Disk_write := ⟨a_Disk_write, i_Disk_write, F_Disk_write.kp⟩,
    F_Disk_write := F_Disk_write,
    b_Disk_write := b_Disk_write,
    mt_Disk_writes := ⟨a_Disk_writes, i_Disk_writes, F_Disk_writes.kp⟩,
    F_Disk_writes := F_Disk_writes,
    b_Disk_writes := b_Disk_writes,
    mt_Disk_stop_after := ⟨a_Disk_stop_after, i_Disk_stop_after, F_Disk_stop_after.kp⟩,
    F_Disk_stop_after := F_Disk_stop_after,
    b_Disk_stop_after := b_Disk_stop_after,
    mt_Disk_go_on := ⟨a_Disk_go_on, i_Disk_go_on, F_Disk_go_on.kp⟩,
    F_Disk_go_on := F_Disk_go_on,
    b_Disk_go_on := b_Disk_go_on,
    mt_Disk_twin := ⟨a_Disk_twin, i_Disk_twin, F_Disk_twin.kp⟩,
    F_Disk_twin := F_Disk_twin,
    b_Disk_twin := b_Disk_twin,
    g_is_tables := PySem.W.mg_of X G a_is_tables,
    k_is_tables := F_is_tables.kp,
    F_is_tables := F_is_tables,
    b_is_tables := b_is_tables,
    F_Layout_init := F_Layout_init,
    b_Layout_init := b_Layout_init,
    mt_Layout_most_node := ⟨a_Layout_most_node, i_Layout_most_node, F_Layout_most_node.kp⟩,
    F_Layout_most_node := F_Layout_most_node,
    b_Layout_most_node := b_Layout_most_node,
    g_L_cell_at := PySem.W.mg_of X G a_L_cell_at,
    k_L_cell_at := F_L_cell_at.kp,
    F_L_cell_at := F_L_cell_at,
    b_L_cell_at := b_L_cell_at,
    g_L_size := PySem.W.mg_of X G a_L_size,
    k_L_size := F_L_size.kp,
    F_L_size := F_L_size,
    b_L_size := b_L_size,
    g_L_block := PySem.W.mg_of X G a_L_block,
    k_L_block := F_L_block.kp,
    F_L_block := F_L_block,
    b_L_block := b_L_block,
    g_L_words := PySem.W.mg_of X G a_L_words,
    k_L_words := F_L_words.kp,
    F_L_words := F_L_words,
    b_L_words := b_L_words,
    g_L_places := PySem.W.mg_of X G a_L_places,
    k_L_places := F_L_places.kp,
    F_L_places := F_L_places,
    b_L_places := b_L_places,
    g_L_is_sound := PySem.W.mg_of X G a_L_is_sound,
    k_L_is_sound := F_L_is_sound.kp,
    F_L_is_sound := F_L_is_sound,
    b_L_is_sound := b_L_is_sound,
    g_L_nodes := PySem.W.mg_of X G a_L_nodes,
    k_L_nodes := F_L_nodes.kp,
    F_L_nodes := F_L_nodes,
    b_L_nodes := b_L_nodes,
    g_L_written := PySem.W.mg_of X G a_L_written,
    k_L_written := F_L_written.kp,
    F_L_written := F_L_written,
    b_L_written := b_L_written,
    g_L_is_told := PySem.W.mg_of X G a_L_is_told,
    k_L_is_told := F_L_is_told.kp,
    F_L_is_told := F_L_is_told,
    b_L_is_told := b_L_is_told,
    g_law := PySem.W.mg_of X G a_law,
    k_law := F_law.kp,
    F_law := F_law,
    b_law := b_law,
    c_Disk := ⟨pg_Disk, hd_Disk, po_Disk, sa_Disk⟩,
    m_Disk := ⟨mk_Disk, a_Disk_init, i_Disk_init, kc_Disk⟩,
    na_Disk_done := na_Disk_done,
    na_Disk_left := na_Disk_left,
    na_Disk_rows := na_Disk_rows,
    c_Layout := ⟨pg_Layout, hd_Layout, po_Layout, sa_Layout⟩,
    m_Layout := ⟨mk_Layout, a_Layout_init, i_Layout_init, kc_Layout⟩,
    na_Layout_data_at := na_Layout_data_at,
    na_Layout_many := na_Layout_many,
    na_Layout_maps_at := na_Layout_maps_at,
    na_Layout_nodes_at := na_Layout_nodes_at,
    na_Layout_tables := na_Layout_tables,
    x_KeepError := ⟨xq_KeepError, xk_KeepError, xs_KeepError, xt_KeepError⟩,
    x_BadRow := ⟨xq_BadRow, xk_BadRow, xs_BadRow, xt_BadRow⟩,
    x_NoBlock := ⟨xq_NoBlock, xk_NoBlock, xs_NoBlock, xt_NoBlock⟩,
    x_Stopped := ⟨xq_Stopped, xk_Stopped, xs_Stopped, xt_Stopped⟩,
    x_BadDisk := ⟨xq_BadDisk, xk_BadDisk, xs_BadDisk, xt_BadDisk⟩,
    x_NoRoom := ⟨xq_NoRoom, xk_NoRoom, xs_NoRoom, xt_NoRoom⟩ }
  haveI Fx : Fc K { KeepError := C_KeepError, BadRow := C_BadRow, NoBlock := C_NoBlock, Stopped := C_Stopped, BadDisk := C_BadDisk, NoRoom := C_NoRoom, TooMuch := 0, BadLog := 0, NoNode := 0, NoNodes := 0, TooLong := 0, OutOfPlace := 0, BadName := 0, BadPath := 0, NotFolder := 0, NotFile := 0, NoName := 0, NameThere := 0, NotEmpty := 0, Within := 0, BadOrder := 0, Disk := C_Disk, Layout := C_Layout, Batch := 0, Keeper := 0, f1 := 0, f2 := 0 } := {
    c_Disk := ⟨pg_Disk, hd_Disk, po_Disk, sa_Disk⟩,
    na_Disk_done := na_Disk_done,
    na_Disk_left := na_Disk_left,
    na_Disk_rows := na_Disk_rows,
    c_Layout := ⟨pg_Layout, hd_Layout, po_Layout, sa_Layout⟩,
    na_Layout_data_at := na_Layout_data_at,
    na_Layout_many := na_Layout_many,
    na_Layout_maps_at := na_Layout_maps_at,
    na_Layout_nodes_at := na_Layout_nodes_at,
    na_Layout_tables := na_Layout_tables,
    xc_BadDisk := ⟨xc_hg_BadDisk, xc_hk_BadDisk, xs_BadDisk, xc_hd_BadDisk, xc_ha_BadDisk, xc_hn, xc_ht, xc_hm_BadDisk⟩,
    xc_BadRow := ⟨xc_hg_BadRow, xc_hk_BadRow, xs_BadRow, xc_hd_BadRow, xc_ha_BadRow, xc_hn, xc_ht, xc_hm_BadRow⟩,
    xc_NoBlock := ⟨xc_hg_NoBlock, xc_hk_NoBlock, xs_NoBlock, xc_hd_NoBlock, xc_ha_NoBlock, xc_hn, xc_ht, xc_hm_NoBlock⟩,
    xc_NoRoom := ⟨xc_hg_NoRoom, xc_hk_NoRoom, xs_NoRoom, xc_hd_NoRoom, xc_ha_NoRoom, xc_hn, xc_ht, xc_hm_NoRoom⟩,
    xc_Stopped := ⟨xc_hg_Stopped, xc_hk_Stopped, xs_Stopped, xc_hd_Stopped, xc_ha_Stopped, xc_hn, xc_ht, xc_hm_Stopped⟩ }
  exact ⟨_, bt_law, fun base _ _ => (ok_law T).imp fun vs H Q E q => law_pure  q⟩
theorem walk {l : PySem.W.OpenLaw} {q : Program} {loose : List Str} {XP : (Str → Option Value) → Heap → Prop} {YP : World → Heap → Prop} {d : DefRec} {K : Params → PySem.W.Frag} (hn : l.most = some 63) (hdf : d.params.defaults = [])
    (hY : ∀ (w : World) (h : Heap), YP w h → (K w.params).In h)
    (F : ∀ (w : World) (mg : Str → Option Value) (fa : Addr) (h : Heap), (K w.params).In h → h.Ns mainGlobals mg → mg d.name = some (.ref fa) →
      ∃ fd : FuncData, (∀ (s : Shared) (u : Value), BindsTo s fd ⟨[u], []⟩ [("_law_script", u)]) ∧ ∀ base : Heap, (K w.params).In base → base.Ns mainGlobals mg → FnOk l.prog w (K w.params) mg base (L2N.CX l.prog w) 7 fa fd ["_law_script"] (spLaw (K w.params))) :
    PySem.W.WalkO q loose XP YP l.row.toRowW d [] (fun f vs => PySem.call f vs) :=
  L2.walk_of (n := 63) (k := 7) (x := "_law_script") (CX := fun w => L2N.CX l.prog w) (sp := fun w => spLaw (K w.params)) hn (by decide) hdf ⟨rfl, by decide, by decide⟩ hY F (fun _ _ a ns hl _ hS => ⟨a, ns, rfl, hS, hl, fun _ => rfl⟩) fun _ _ _ _ _ z => by
    obtain ⟨_, _, _, _, _, _, _, _, _, _, _, _, z⟩ := z
    exact z
end Bk
open PySem PySem.W PyProof.Rows
set_option maxRecDepth 100000 in
set_option maxHeartbeats 0 in
theorem PySem.Challenge.cw_blockkeep_k23_users_of_blocks_holds : PySem.Challenge.rw_blockkeep_k23_users_of_blocks.Holds := by
  w_on; o_law; k_head; (case hw => w_witness2)
  k_fill
  refine Bk.walk (l := PySem.Challenge.rw_blockkeep_k23_users_of_blocks) rfl rfl (fun w h Y => PySem.W.kIn_of Y) ?F
  case F =>
    intro w mg fa h KX G hmg
    refine' Bk.all_mk KX G hmg ?a_WIDE ?a_MOST_WORD ?a_FILE ?a_FOLDER ?a_MOST_SIZE ?a_NODE_WORDS ?a_NEAR_PLACES ?a_FAR_PLACE ?a_TOP_NODE ?a_LEAST_BLOCKS ?a_MOST_BLOCKS ?a_MAPS_AT ?a_MOST_TABLES ?z_all ?z_bool ?z_enumerate ?z_int ?z_isinstance ?z_len ?z_list ?z_min ?z_range ?z_reversed ?z_sorted ?a_Disk ?a_Layout ?a_KeepError ?a_BadRow ?a_NoBlock ?a_Stopped ?a_BadDisk ?a_NoRoom ?a__wall ?e__wall ?a_is_word ?e_is_word ?a_is_row ?e_is_row ?a_need_row ?e_need_row ?a_empty_row ?e_empty_row ?a_node_rows ?e_node_rows ?a_is_kind_bad ?e_is_kind_bad ?a_is_size_bad ?e_is_size_bad ?a_is_sound ?e_is_sound ?a_is_data ?e_is_data ?a_wanted_blocks ?e_wanted_blocks ?a_places_told ?e_places_told ?a_users ?e_users ?a_is_many ?e_is_many ?a_Disk_init ?i_Disk_init ?e_Disk_init ?a_Disk_blocks ?i_Disk_blocks ?e_Disk_blocks ?a_Disk_need ?i_Disk_need ?e_Disk_need ?a_Disk_read ?i_Disk_read ?e_Disk_read ?a_Disk_write ?i_Disk_write ?e_Disk_write ?a_Disk_writes ?i_Disk_writes ?e_Disk_writes ?a_Disk_stop_after ?i_Disk_stop_after ?e_Disk_stop_after ?a_Disk_go_on ?i_Disk_go_on ?e_Disk_go_on ?a_Disk_twin ?i_Disk_twin ?e_Disk_twin ?a_is_tables ?e_is_tables ?a_Layout_init ?i_Layout_init ?e_Layout_init ?a_Layout_most_node ?i_Layout_most_node ?e_Layout_most_node ?a_L_cell_at ?e_L_cell_at ?a_L_size ?e_L_size ?a_L_block ?e_L_block ?a_L_words ?e_L_words ?a_L_places ?e_L_places ?a_L_is_sound ?e_L_is_sound ?a_L_nodes ?e_L_nodes ?a_L_written ?e_L_written ?a_L_is_told ?e_L_is_told ?a_law ?e_law ?pg_Disk ?hd_Disk ?po_Disk ?sa_Disk ?mk_Disk ?kc_Disk ?na_Disk_done ?na_Disk_left ?na_Disk_rows ?pg_Layout ?hd_Layout ?po_Layout ?sa_Layout ?mk_Layout ?kc_Layout ?na_Layout_data_at ?na_Layout_many ?na_Layout_maps_at ?na_Layout_nodes_at ?na_Layout_tables ?xq_KeepError ?xk_KeepError ?xs_KeepError ?xt_KeepError ?xq_BadRow ?xk_BadRow ?xs_BadRow ?xt_BadRow ?xq_NoBlock ?xk_NoBlock ?xs_NoBlock ?xt_NoBlock ?xq_Stopped ?xk_Stopped ?xs_Stopped ?xt_Stopped ?xq_BadDisk ?xk_BadDisk ?xs_BadDisk ?xt_BadDisk ?xq_NoRoom ?xk_NoRoom ?xs_NoRoom ?xt_NoRoom ?xc_hg_BadDisk ?xc_hk_BadDisk ?xc_hd_BadDisk ?xc_ha_BadDisk ?xc_hm_BadDisk ?xc_hg_BadRow ?xc_hk_BadRow ?xc_hd_BadRow ?xc_ha_BadRow ?xc_hm_BadRow ?xc_hg_NoBlock ?xc_hk_NoBlock ?xc_hd_NoBlock ?xc_ha_NoBlock ?xc_hm_NoBlock ?xc_hg_NoRoom ?xc_hk_NoRoom ?xc_hd_NoRoom ?xc_ha_NoRoom ?xc_hm_NoRoom ?xc_hg_Stopped ?xc_hk_Stopped ?xc_hd_Stopped ?xc_ha_Stopped ?xc_hm_Stopped ?xc_hn ?xc_ht
    (case a_WIDE => k_is)
    (case a_MOST_WORD => k_is)
    (case a_FILE => k_is)
    (case a_FOLDER => k_is)
    (case a_MOST_SIZE => k_is)
    (case a_NODE_WORDS => k_is)
    (case a_NEAR_PLACES => k_is)
    (case a_FAR_PLACE => k_is)
    (case a_TOP_NODE => k_is)
    (case a_LEAST_BLOCKS => k_is)
    (case a_MOST_BLOCKS => k_is)
    (case a_MAPS_AT => k_is)
    (case a_MOST_TABLES => k_is)
    (case z_all => k_is)
    (case z_bool => k_is)
    (case z_enumerate => k_is)
    (case z_int => k_is)
    (case z_isinstance => k_is)
    (case z_len => k_is)
    (case z_list => k_is)
    (case z_min => k_is)
    (case z_range => k_is)
    (case z_reversed => k_is)
    (case z_sorted => k_is)
    (case a_Disk => k_is)
    (case a_Layout => k_is)
    (case a_KeepError => k_is)
    (case a_BadRow => k_is)
    (case a_NoBlock => k_is)
    (case a_Stopped => k_is)
    (case a_BadDisk => k_is)
    (case a_NoRoom => k_is)
    (case a__wall => k_is)
    (case e__wall => refine' Bk.fx__wall ?l ?c ?k; (case l => k_is); (case c => k_is); (case k => k_is))
    (case a_is_word => k_is)
    (case e_is_word => refine' Bk.fx_is_word ?l ?c ?k; (case l => k_is); (case c => k_is); (case k => k_is))
    (case a_is_row => k_is)
    (case e_is_row => refine' Bk.fx_is_row ?l ?c ?k; (case l => k_is); (case c => k_is); (case k => k_is))
    (case a_need_row => k_is)
    (case e_need_row => refine' Bk.fx_need_row ?l ?c ?k; (case l => k_is); (case c => k_is); (case k => k_is))
    (case a_empty_row => k_is)
    (case e_empty_row => refine' Bk.fx_empty_row ?l ?c ?k; (case l => k_is); (case c => k_is); (case k => k_is))
    (case a_node_rows => k_is)
    (case e_node_rows => refine' Bk.fx_node_rows ?l ?c ?k; (case l => k_is); (case c => k_is); (case k => k_is))
    (case a_is_kind_bad => k_is)
    (case e_is_kind_bad => refine' Bk.fx_is_kind_bad ?l ?c ?k; (case l => k_is); (case c => k_is); (case k => k_is))
    (case a_is_size_bad => k_is)
    (case e_is_size_bad => refine' Bk.fx_is_size_bad ?l ?c ?k; (case l => k_is); (case c => k_is); (case k => k_is))
    (case a_is_sound => k_is)
    (case e_is_sound => refine' Bk.fx_is_sound ?l ?c ?k; (case l => k_is); (case c => k_is); (case k => k_is))
    (case a_is_data => k_is)
    (case e_is_data => refine' Bk.fx_is_data ?l ?c ?k; (case l => k_is); (case c => k_is); (case k => k_is))
    (case a_wanted_blocks => k_is)
    (case e_wanted_blocks => refine' Bk.fx_wanted_blocks ?l ?c ?k; (case l => k_is); (case c => k_is); (case k => k_is))
    (case a_places_told => k_is)
    (case e_places_told => refine' Bk.fx_places_told ?l ?c ?k; (case l => k_is); (case c => k_is); (case k => k_is))
    (case a_users => k_is)
    (case e_users => refine' Bk.fx_users ?l ?c ?k; (case l => k_is); (case c => k_is); (case k => k_is))
    (case a_is_many => k_is)
    (case e_is_many => refine' Bk.fx_is_many ?l ?c ?k; (case l => k_is); (case c => k_is); (case k => k_is))
    (case a_Disk_init => k_is)
    (case i_Disk_init => k_is)
    (case e_Disk_init => refine' Bk.fx_Disk_init ?l ?c ?k; (case l => k_is); (case c => k_is); (case k => k_is))
    (case a_Disk_blocks => k_is)
    (case i_Disk_blocks => k_is)
    (case e_Disk_blocks => refine' Bk.fx_Disk_blocks ?l ?c ?k; (case l => k_is); (case c => k_is); (case k => k_is))
    (case a_Disk_need => k_is)
    (case i_Disk_need => k_is)
    (case e_Disk_need => refine' Bk.fx_Disk_need ?l ?c ?k; (case l => k_is); (case c => k_is); (case k => k_is))
    (case a_Disk_read => k_is)
    (case i_Disk_read => k_is)
    (case e_Disk_read => refine' Bk.fx_Disk_read ?l ?c ?k; (case l => k_is); (case c => k_is); (case k => k_is))
    (case a_Disk_write => k_is)
    (case i_Disk_write => k_is)
    (case e_Disk_write => refine' Bk.fx_Disk_write ?l ?c ?k; (case l => k_is); (case c => k_is); (case k => k_is))
    (case a_Disk_writes => k_is)
    (case i_Disk_writes => k_is)
    (case e_Disk_writes => refine' Bk.fx_Disk_writes ?l ?c ?k; (case l => k_is); (case c => k_is); (case k => k_is))
    (case a_Disk_stop_after => k_is)
    (case i_Disk_stop_after => k_is)
    (case e_Disk_stop_after => refine' Bk.fx_Disk_stop_after ?l ?c ?k; (case l => k_is); (case c => k_is); (case k => k_is))
    (case a_Disk_go_on => k_is)
    (case i_Disk_go_on => k_is)
    (case e_Disk_go_on => refine' Bk.fx_Disk_go_on ?l ?c ?k; (case l => k_is); (case c => k_is); (case k => k_is))
    (case a_Disk_twin => k_is)
    (case i_Disk_twin => k_is)
    (case e_Disk_twin => refine' Bk.fx_Disk_twin ?l ?c ?k; (case l => k_is); (case c => k_is); (case k => k_is))
    (case a_is_tables => k_is)
    (case e_is_tables => refine' Bk.fx_is_tables ?l ?c ?k; (case l => k_is); (case c => k_is); (case k => k_is))
    (case a_Layout_init => k_is)
    (case i_Layout_init => k_is)
    (case e_Layout_init => refine' Bk.fx_Layout_init ?l ?c ?k; (case l => k_is); (case c => k_is); (case k => k_is))
    (case a_Layout_most_node => k_is)
    (case i_Layout_most_node => k_is)
    (case e_Layout_most_node => refine' Bk.fx_Layout_most_node ?l ?c ?k; (case l => k_is); (case c => k_is); (case k => k_is))
    (case a_L_cell_at => k_is)
    (case e_L_cell_at => refine' Bk.fx_L_cell_at ?l ?c ?k; (case l => k_is); (case c => k_is); (case k => k_is))
    (case a_L_size => k_is)
    (case e_L_size => refine' Bk.fx_L_size ?l ?c ?k; (case l => k_is); (case c => k_is); (case k => k_is))
    (case a_L_block => k_is)
    (case e_L_block => refine' Bk.fx_L_block ?l ?c ?k; (case l => k_is); (case c => k_is); (case k => k_is))
    (case a_L_words => k_is)
    (case e_L_words => refine' Bk.fx_L_words ?l ?c ?k; (case l => k_is); (case c => k_is); (case k => k_is))
    (case a_L_places => k_is)
    (case e_L_places => refine' Bk.fx_L_places ?l ?c ?k; (case l => k_is); (case c => k_is); (case k => k_is))
    (case a_L_is_sound => k_is)
    (case e_L_is_sound => refine' Bk.fx_L_is_sound ?l ?c ?k; (case l => k_is); (case c => k_is); (case k => k_is))
    (case a_L_nodes => k_is)
    (case e_L_nodes => refine' Bk.fx_L_nodes ?l ?c ?k; (case l => k_is); (case c => k_is); (case k => k_is))
    (case a_L_written => k_is)
    (case e_L_written => refine' Bk.fx_L_written ?l ?c ?k; (case l => k_is); (case c => k_is); (case k => k_is))
    (case a_L_is_told => k_is)
    (case e_L_is_told => refine' Bk.fx_L_is_told ?l ?c ?k; (case l => k_is); (case c => k_is); (case k => k_is))
    (case a_law => k_is)
    (case e_law => refine' Bk.fx_law ?l ?c ?k; (case l => k_is); (case c => k_is); (case k => k_is))
    (case pg_Disk => k_is)
    (case hd_Disk => k_is)
    (case po_Disk => k_is)
    (case sa_Disk => k_is)
    (case mk_Disk => k_is)
    (case kc_Disk => k_is)
    (case na_Disk_done => k_is)
    (case na_Disk_left => k_is)
    (case na_Disk_rows => k_is)
    (case pg_Layout => k_is)
    (case hd_Layout => k_is)
    (case po_Layout => k_is)
    (case sa_Layout => k_is)
    (case mk_Layout => k_is)
    (case kc_Layout => k_is)
    (case na_Layout_data_at => k_is)
    (case na_Layout_many => k_is)
    (case na_Layout_maps_at => k_is)
    (case na_Layout_nodes_at => k_is)
    (case na_Layout_tables => k_is)
    (case xq_KeepError => k_exc)
    (case xk_KeepError => k_is)
    (case xs_KeepError => k_is)
    (case xt_KeepError => k_is)
    (case xq_BadRow => k_exc)
    (case xk_BadRow => k_is)
    (case xs_BadRow => k_is)
    (case xt_BadRow => k_is)
    (case xq_NoBlock => k_exc)
    (case xk_NoBlock => k_is)
    (case xs_NoBlock => k_is)
    (case xt_NoBlock => k_is)
    (case xq_Stopped => k_exc)
    (case xk_Stopped => k_is)
    (case xs_Stopped => k_is)
    (case xt_Stopped => k_is)
    (case xq_BadDisk => k_exc)
    (case xk_BadDisk => k_is)
    (case xs_BadDisk => k_is)
    (case xt_BadDisk => k_is)
    (case xq_NoRoom => k_exc)
    (case xk_NoRoom => k_is)
    (case xs_NoRoom => k_is)
    (case xt_NoRoom => k_is)
    (case xc_hg_BadDisk => k_is)
    (case xc_hk_BadDisk => k_is)
    (case xc_hd_BadDisk => k_is)
    (case xc_ha_BadDisk => k_is)
    (case xc_hm_BadDisk => k_is)
    (case xc_hg_BadRow => k_is)
    (case xc_hk_BadRow => k_is)
    (case xc_hd_BadRow => k_is)
    (case xc_ha_BadRow => k_is)
    (case xc_hm_BadRow => k_is)
    (case xc_hg_NoBlock => k_is)
    (case xc_hk_NoBlock => k_is)
    (case xc_hd_NoBlock => k_is)
    (case xc_ha_NoBlock => k_is)
    (case xc_hm_NoBlock => k_is)
    (case xc_hg_NoRoom => k_is)
    (case xc_hk_NoRoom => k_is)
    (case xc_hd_NoRoom => k_is)
    (case xc_ha_NoRoom => k_is)
    (case xc_hm_NoRoom => k_is)
    (case xc_hg_Stopped => k_is)
    (case xc_hk_Stopped => k_is)
    (case xc_hd_Stopped => k_is)
    (case xc_ha_Stopped => k_is)
    (case xc_hm_Stopped => k_is)
    (case xc_hn => k_is)
    (case xc_ht => k_is)

