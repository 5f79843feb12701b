import PyProof.Rows.All
import Wide.All
import OpenK.AllK
import Wide.FinOn
import HandS.Base
import HandS.Call
import HandS.Exc
import HandS.ExcOwn
import HandS.TryMany
import HandS.ExcCtx
import HandS.HotCalls
import HandS.SuiteRaise
import HandS.ForMost
import HandS.ForExc
import HandS.More
import HandS.Small
import HandS.IsInst
import HandS.Style
import HandS.Flow
import HandS.ExcIs
import HandS.Replace
import HandS.Text
import PyProof.StrOps2
import HandS.Walk
import HandS.SortInts
import HandS.SortKw
import HandS.RevRange
import HandS.Conv
import HandS.DictComp
import HandS.RaiseMore
import HandS.Codes
import HandS.Zip
import KE.GoesRaise
import PySem.Challenge.RW_blockkeep_k27_orders_in_lines
set_option Elab.async false
set_option linter.all false
set_option maxRecDepth 100000
set_option maxHeartbeats 4000000
/-! our own: exceptions behind which none stands, or one that has none behind it -/
namespace Bk
namespace C
open PySem PySem.Spec L2 PyProof.Rows
/-- an exception's object: class, dict, what stands behind it -/
def Zx (cls : Value) (d : Option Addr) (c : Value) : Obj → Prop := fun o => (o.cls = cls ∧ o.dict = d) ∧ ∀ vs : Array Value, o.data = .fields vs → vs[2]? = some c
theorem Zx.steady {cls c : Value} {d : Option Addr} : PXN.Steady1 (Zx cls d c) := PXN.steady_and (PXN.steady_and PXN.steady_cls PXN.steady_dict) fun o v h => by
  obtain ⟨k, e, dt, sl⟩ := o
  cases dt with
  | fields w =>
    intro vs q
    have e1 : w.setIfInBounds 1 v = vs := Data.fields.inj q
    rw [← e1, Array.getElem?_setIfInBounds_ne (by decide)]
    exact h w rfl
  | _ => intro vs q; cases q
/-- what stands behind: none, or one that has none behind it, in h -/
def Past (h : Heap) (H : Hp) (c : Value) : Prop := c = .none ∨ ∃ (p : Addr × Obj) (ws : Array Value), c = .ref p.1 ∧ h.get? p.1 = some p.2 ∧ H p.1 = none ∧ p.2.data = .fields ws ∧ ws[2]? = some .none
/-- in the air of X -/
def XR (X : Cx) (nn : Bool) (W : WX) (u : Value) (s' : Shared) : Prop :=
  ∃ (a : Addr) (B : Heap) (sI : Shared) (pins : List (Addr × Obj)) (σ : L2.St) (H : Hp) (cls : Value) (d : Option Addr) (c : Value),
    u = .ref a ∧ (Inv X pins σ H sI ∧ (∀ b o, sI.heap.get? b = some o → b ∉ frs X.stack → B.get? b = some o) ∧ sI.heap.UpToSlots s'.heap) ∧
      Sky B X.stack a (Zx cls d c) X.env.locals s'.heap ∧ (Past B H c ∧ (nn = true → c = .none)) ∧ (H a = none ∧ s'.os = sI.os ∧ AllBare s'.gens) ∧ W cls d σ H
abbrev XE (X : Cx) (W : WX) : Value → Shared → Prop := XR X false W
def Takes (X : Cx) (W : WX) : Prop := ∀ u s', XE X W u s' → X.xe u s'
/-- nn: the ones behind which none stands -/
def TakesR (X : Cx) (nn : Bool) (W : WX) : Prop := ∀ u s', XR X nn W u s' → X.xe u s'
/-- out of a def -/
def CX (P : Program) (w : World) (outer : List Env) (H : Hp) (s : Shared) (E : XK) (u : Value) (s' : Shared) : Prop :=
  ∃ (a : Addr) (B : Heap) (H' : Hp) (cls : Value) (d : Option Addr) (c : Value), u = .ref a ∧ HandSPX.FlyingZ B outer a (Zx cls d c) s'.heap ∧ Past B H' c ∧ (HOk P w H' B ∧ UB (frs outer) H H' s.heap B s'.heap) ∧ (H' a = none ∧ s'.os = s.os ∧ AllBare s'.gens) ∧ E cls d H'
section
variable {X : Cx} {pins : List (Addr × Obj)} {σ : L2.St} {H : Hp} {sI s s' : Shared} {B : Heap} {W : WX} {E : XK} {u' : Value}
theorem sky_imp {l : List Env} {a L : Addr} {h : Heap} {Z Z' : Obj → Prop} (z : ∀ o, Z o → Z' o) (x : Sky B l a Z L h) : Sky B l a Z' L h := by
  rcases x with ⟨h1, h2, h3, oe, vs, e, hz, d, f⟩ | fl | hd
  · exact .inl ⟨h1, h2, h3, oe, vs, e, z _ hz, d, f⟩
  · exact .inr (.inl (L2H.flyingZ_imp z fl))
  · exact .inr (.inr ⟨hd.1, hd.2.1, hd.2.2.1, L2H.tracedZ_imp z hd.2.2.2⟩)
/-- who takes these takes the ones behind which none stands -/
theorem Takes.n (t : Takes X W) : L2N.Takes X W := by
  rintro u s' ⟨a, B, sI, pins, σ, H, cls, d, e, I, nb, up, sky, na, os, ag, w⟩
  exact t u s' ⟨a, B, sI, pins, σ, H, cls, d, .none, e, ⟨I, nb, up⟩, sky_imp (fun o h => ⟨⟨h.1, h.2.1⟩, h.2.2⟩) sky, ⟨.inl rfl, fun _ => rfl⟩, ⟨na, os, ag⟩, w⟩
theorem XR.n (h : XR X true W u' s') : L2N.XE X W u' s' := by
  obtain ⟨a, B, sI, pins, σ, H, cls, d, c, e, ⟨I, nb, up⟩, sky, ⟨_, cn⟩, ⟨na, os, ag⟩, w⟩ := h
  obtain rfl := cn rfl
  exact ⟨a, B, sI, pins, σ, H, cls, d, e, I, nb, up, sky_imp (fun o h => ⟨h.1.1, h.1.2, h.2⟩) sky, na, os, ag, w⟩
theorem TakesR.n (t : TakesR X true W) : L2N.Takes X W := by
  rintro u s' ⟨a, B, sI, pins, σ, H, cls, d, e, I, nb, up, sky, na, os, ag, w⟩
  exact t u s' ⟨a, B, sI, pins, σ, H, cls, d, .none, e, ⟨I, nb, up⟩, sky_imp (fun o h => ⟨⟨h.1, h.2.1⟩, h.2.2⟩) sky, ⟨.inl rfl, fun _ => rfl⟩, ⟨na, os, ag⟩, w⟩
theorem TakesR.c (t : TakesR X false W) : Takes X W := t
/-- a call let one out: it is in the caller's air -/
theorem XE.call (I : Inv X pins σ H s) {u : Value} (c : CX X.prog X.w X.stack H s (fun cls d H' => W cls d σ H') u s') : XE X W u s' := by
  obtain ⟨a, B, H', cls, d, c, rfl, fl, past, ⟨hok, ub⟩, rest, w⟩ := c
  -- the state without it: what is in B, and the frames as they are
  obtain ⟨G, in_, out⟩ := restrict s'.heap fun b => (B.get? b).isSome || decide (b ∈ frs X.stack)
  have hB : ∀ {b o}, B.get? b = some o → G.get? b = some o := fun {b o} e => (in_ b (by rw [e]; rfl)).trans (fl.1 b o e)
  have hF : ∀ {b}, b ∈ frs X.stack → G.get? b = s'.heap.get? b := fun {b} m => in_ b (by rw [decide_eq_true m, Bool.or_true])
  have back : ∀ b o, G.get? b = some o → s'.heap.get? b = some o := fun b o e => by
    by_cases q : ((B.get? b).isSome || decide (b ∈ frs X.stack)) = true
    · rw [← in_ b q]; exact e
    · rw [out b (Bool.eq_false_iff.mpr q)] at e; cases e
  have un : Un (frs X.stack) [] H H' s.heap G := by
    refine ⟨fun b o e n m _ => hB (ub.keep b o e n m), fun b o e n m _ => ?_, fun b o e n _ => ub.free b o e n, fun b o e _ => ?_, ub.tups, ub.frzs, ub.tbls⟩
    · obtain ⟨sl, q⟩ := ub.slot b o e m
      exact ⟨sl, (hF m).trans q⟩
    · by_cases m : b ∈ frs X.stack
      · obtain ⟨sl, q⟩ := ub.slot b o e m
        exact ⟨_, (hF m).trans q⟩
      · obtain ⟨o', q⟩ := ub.there b o e m
        exact ⟨o', hB q⟩
  have J := I.call (g' := s'.gens) (t' := s'.toks) (d' := s'.drawn) un (hok.kept fun b u e => hB e) rest.2.2 (fun _ z => nomatch z)
  refine ⟨a, B, _, pins, σ, H', cls, d, c, rfl, ⟨J, fun b o e m => ?_, Heap.UpToSlots.of_keeps back⟩, .inr (.inl fl), ⟨past, fun z => nomatch z⟩, rest, w⟩
  by_cases q : (B.get? b).isSome = true
  · obtain ⟨o', q'⟩ := Option.isSome_iff_exists.mp q
    have e1 : s'.heap.get? b = some o := back b o e
    rw [fl.1 b o' q'] at e1
    rw [q', e1]
  · have e : G.get? b = some o := e
    rw [out b (by rw [Bool.eq_false_iff.mpr q, decide_eq_false m]; rfl)] at e
    cases e
/-- it goes out of the def -/
theorem XE.leave (hs : X.stack = X.env :: X.outer) (hf : X.env.frame = some X.env.locals) (hex : X.ex = []) {E1 : Value → Shared → Prop} {u : Value} (x : XE X (fun cls d _ H => E cls d H) u s') :
    wpAny (model X.prog X.w) X.A (leaving X.env u) (fun _ s2 => CX X.prog X.w X.outer X.H_0 X.s_0 E u s2) E1 s' := by
  obtain ⟨a, B, sI, pins, σ, H, cls, d, c, rfl, ⟨I, nb, up⟩, sky, ⟨past, _⟩, ⟨na, os, ag⟩, w⟩ := x
  have fr : X.A.frames = some (X.env :: X.outer) := I.ok.frames.trans (congrArg some hs)
  have nex : ∀ b, b ∉ X.ex := fun b m => by rw [hex] at m; cases m
  have old : ∀ {b o}, X.s_0.heap.get? b = some o → b ∉ X.fs → b ∉ frs X.stack := fun {b o} e m k =>
    (List.mem_cons.mp (I.stkSub b k)).elim (fun z => absurd (Nat.lt_of_lt_of_le (Heap.lt_size e) I.ok.above) (by rw [z]; exact Nat.lt_irrefl _)) m
  have fin : ∀ h2, HandSPX.FlyingZ B X.outer a (Zx cls d c) h2 → s'.heap.UpToSlots h2 → CX X.prog X.w X.outer X.H_0 X.s_0 E (.ref a) { s' with heap := h2 } := fun h2 fl up2 => by
    refine ⟨a, B, H, cls, d, c, rfl, fl, past, ⟨I.inGround nb, ?_⟩, ⟨na, os.trans I.os, ag⟩, w⟩
    refine ⟨fun b o e n m => nb b o (I.base.keep b o e n m (nex b)) (old e m), fun b o e m => ?_, fun b o e n => I.base.free b o e n (nex b), fun b o e m => ?_, I.base.tups, I.base.frzs, I.base.tbls⟩
    · obtain ⟨_, o0, e0, nf⟩ := I.ok.funs.mem m
      cases e0.symm.trans e
      obtain ⟨sl, e1⟩ := I.base.slot b o e (I.ok.frf b m) m (nex b)
      obtain ⟨sl2, e2⟩ := up b _ e1 nf
      obtain ⟨sl3, e3⟩ := up2 b _ e2 nf
      exact ⟨sl3, e3⟩
    · obtain ⟨o', e1⟩ := I.base.there b o e (nex b)
      exact ⟨o', nb b o' e1 (old e m)⟩
  rw [hs] at sky
  rcases sky with ⟨hB, hn, hl, oe, vs, he, hz, hd, h1⟩ | fl | hd
  · exact PXN.leaving_firstZ Zx.steady fr hl hf he hB hn hd h1 hz fin
  · exact PXN.leaves_onZ Zx.steady fr hf fl fin
  · exact HandSPX.leaves_heldZ hf hd fin
theorem takes_of (hs : X.stack = X.env :: X.outer) (hf : X.env.frame = some X.env.locals) (hex : X.ex = []) {E1 : Value → Shared → Prop}
    (hx : X.xe = fun e s' => wpAny (model X.prog X.w) X.A (leaving X.env e) (fun _ s2 => CX X.prog X.w X.outer X.H_0 X.s_0 E e s2) E1 s') : Takes X (fun cls d _ H => E cls d H) := fun u s' x => by
  rw [hx]; exact x.leave hs hf hex
theorem passAt (tk : Takes X W) (σ : L2.St) : PassesAt (CX X.prog X.w) X σ (WE W σ) := fun _ _ _ e s' I c => tk e s' (XE.call I c)
end
end C
end Bk

namespace Bk
abbrev St := L2.St
open PySem L2 PyProof.Rows

/-! ### any of two rules -/
theorem peor {X : Cx} {e : Expr} {t u : TE} (h : PE X e t) (k : PE X e u) : PE X e (fun σ H Q => t σ H Q ∨ u σ H Q) :=
  ⟨fun pins s σ H Q I q => q.elim (fun q => h.run pins s σ H Q I q) fun q => k.run pins s σ H Q I q⟩
def tOr2 (t u : TE) : TE := fun σ H Q => t σ H Q ∨ u σ H Q
theorem pe_or2 {X : Cx} {e : Expr} {t u : TE} (h : PE X e t) (k : PE X e u) : PE X e (tOr2 t u) := peor h k
theorem call_or {X : Cx} {f : Value} {r r' : List V → Hp → VK → Prop} (h : CallR X f r) (k : CallR X f r') : CallR X f (fun xs H Q => r xs H Q ∨ r' xs H Q) :=
  fun pins s σ H xs us Q I r1 q => q.elim (fun q => h pins s σ H xs us Q I r1 q) fun q => k pins s σ H xs us Q I r1 q
theorem op_imp {X : Cx} {f : Value → Value → Sem Value} {r r' : R2} (h : OpR X f r) (i : ∀ x y H Q, r' x y H Q → r x y H Q) : OpR X f r' :=
  fun pins s σ H x y v u Q I rx ry q => h pins s σ H x y v u Q I rx ry (i _ _ _ _ q)
theorem pi_or {X : Cx} {tg l : Expr} {a b : TI} (h : PI X tg l a) (k : PI X tg l b) : PI X tg l (fun σ H R => a σ H R ∨ b σ H R) :=
  ⟨fun pins s σ H R I q => q.elim (fun q => h.run pins s σ H R I q) fun q => k.run pins s σ H R I q⟩
/-- a global name whose value stands -/
theorem pe_gl {X : Cx} {x : Str} {v : V} {pos : Pos} (hg : Gl X x) (h : ∃ u, X.mg x = some u ∧ RelV v u) (hd : (x == ("__debug__" : Str)) = false := by decide) : PE X (.Name x pos) (tC v) := by
  obtain ⟨u, hm, r⟩ := h
  exact pe_glob hg hm r hd

/-! ### the operators, of any kinds -/
def rAddP : R2 := fun x y H Q => rI0 (fun i j => .int (i + j)) x y H Q ∨ rCat x y H Q ∨ (∃ i j, x = .str i ∧ y = .str j ∧ i.length + j.length ≤ sizeLine ∧ Q (.str (i ++ j)) H)
def rSubP : R2 := rI0 fun i j => .int (i - j)
def rMulP : R2 := fun x y H Q => rI CMul (fun i j => .int (i * j)) x y H Q ∨ rRep x y H Q
def rDivP : R2 := rI CDiv fun i j => .int (i / j)
def rModP : R2 := rI (fun _ j => 0 < j) fun i j => .int (i % j)
def rPowP : R2 := rI CPow fun i j => .int (i ^ j.toNat)
def rEqP (K : PySem.W.Frag) : R2 := fun x y H Q => rEq x y H Q ∨ rEqD K x y H Q
def rNeP (K : PySem.W.Frag) : R2 := fun x y H Q => rNe x y H Q ∨ rNeD K x y H Q
def rLtP : R2 := rI0 fun i j => .bl (decide (i < j))
def rLeP : R2 := rI0 fun i j => .bl (decide (i ≤ j))
def rGtP : R2 := rI0 fun i j => .bl (decide (j < i))
def rGeP : R2 := rI0 fun i j => .bl (decide (j ≤ i))
def rIsP : R2 := fun x y H Q => (y = .non ∧ Q (.bl (decide (x = .non))) H) ∨ rIsB x y H Q
def rIsNotP : R2 := fun x y H Q => (y = .non ∧ Q (.bl (!decide (x = .non))) H) ∨ rNotB x y H Q
section
variable {X : Cx}
theorem op_addP : OpR X (binaryOp .Add) rAddP := op_add.or (op_cat.or op_add_str)
theorem op_subP : OpR X (binaryOp .Sub) rSubP := op_sub
theorem op_mulP : OpR X (binaryOp .Mult) rMulP := op_mul.or op_rep
theorem op_divP : OpR X (binaryOp .FloorDiv) rDivP := op_fdiv
theorem op_modP : OpR X (binaryOp .Mod) rModP := op_mod
theorem op_powP : OpR X (binaryOp .Pow) rPowP := op_pow
theorem op_eqP {k : Nat} (hr : Room k X.A) : OpR X (compareOp .Eq) (rEqP X.K) := op_eq.or (op_eqD hr.units)
theorem op_neP {k : Nat} (hr : Room k X.A) : OpR X (compareOp .NotEq) (rNeP X.K) := op_ne.or (op_neD hr.units)
theorem op_ltP : OpR X (compareOp .Lt) rLtP := op_lt
theorem op_leP : OpR X (compareOp .LtE) rLeP := op_le
theorem op_gtP : OpR X (compareOp .Gt) rGtP := op_gt
theorem op_geP : OpR X (compareOp .GtE) rGeP := op_ge
theorem op_isP : OpR X (compareOp .Is) rIsP := op_isN.or op_isBl
theorem op_isNotP : OpR X (compareOp .IsNot) rIsNotP := op_notN.or op_notBl
end
def rIxP (K : PySem.W.Frag) : R2 := rIx K
theorem ix_P {X : Cx} : IxR X (rIxP X.K) := ix_seq
section
variable {prog : Program} {w : World} {A : Around} {E : Value → Shared → Prop} {s : Shared}
theorem tup_whole {t sl : Addr} {items : Array Value} {vl vu : Value} {lo hi : Option Int} {Q : Value → Shared → Prop} (ht : IsTup s.heap t items) (hs : s.heap.IsSliceOf sl vl vu .none) (pl : IsPart vl lo) (pu : IsPart vu hi)
    (hw : HT.sIx items.size 0 lo = 0 ∧ HT.sIx items.size items.size hi = items.size) (h : Q (.ref t) s) : wpAny (model prog w) A (getItem (.ref t) (.ref sl)) Q E s := by
  obtain ⟨os, hos, hcs, hds⟩ := id hs
  have hTs : s.TypeIs (.ref sl) "slice" := ⟨os, hos, hcs⟩
  unfold getItem
  try with_reducible refine wpAny_holding ?_
  first | refine wpAny_bind (wpAny_pure ?_) | skip
  refine wpAny_bind (wpAny_sequenceKey ht.typeIs (by decide) ?_)
  refine wpAny_bind (wpAny_callSpecial?_slot (name := Str.ofString "__getitem__") ht.typeIs PyProof.Rows.slot_tuple_getitem (wpAny_call_entry PyProof.Rows.slot_tuple_getitem ht.typeIs entry_tuple_getitem ?_ (args_tuple_getitem _ _)))
  show wpAny _ _ (Builtin.Tuple.tupleItemsOf (.ref t) >>= _) _ _ s
  refine wpAny_bind (tupleItemsOf_ ht (wpAny_bind (wpAny_typeOf hTs ?_)))
  rw [if_pos (by decide)]
  refine wpAny_bind (HT.sliceApplied_gen hs pl pu ?_)
  have yes : ((((HT.sIx items.size 0 lo : Nat) : Int) == 0 && (1 : Int) == 1 && (HT.sIx items.size items.size hi - HT.sIx items.size 0 lo) == items.size) = true) := by
    rw [hw.1, hw.2]; simp
  show wpAny _ _ (if (((HT.sIx items.size 0 lo : Nat) : Int) == 0 && (1 : Int) == 1 && (HT.sIx items.size items.size hi - HT.sIx items.size 0 lo) == items.size) = true then _ else _) _ _ s
  rw [if_pos yes]
  refine wpAny_bind (m := Builtin.Tuple.tupleIsExact _) (wpAny_bind (wpAny_typeOf ht.typeIs (wpAny_pure ?_)))
  show wpAny _ _ (if (Value.type "tuple" == Value.type "tuple") = true then _ else _) _ _ s
  rw [if_pos (by decide)]
  first
    | exact wpAny_bind (wpAny_rule (wpAny_bind (wpAny_pure (wpAny_pure ⟨_, rfl, wpAny_pure h⟩))))
    | exact wpAny_bind (wpAny_rule (wpAny_pure ⟨_, rfl, wpAny_pure h⟩))
    | exact wpAny_bind (wpAny_rule (wpAny_bind (wpAny_pure ⟨_, rfl, wpAny_pure h⟩)))
end
def rSlW (K : PySem.W.Frag) : V → Option Int → Option Int → Hp → VK → Prop := fun x lo hi H Q => ∃ a xs, x = .ref a ∧ SqT K H a xs ∧ (HT.sIx xs.length 0 lo = 0 ∧ HT.sIx xs.length xs.length hi = xs.length) ∧ Q (.ref a) H
theorem sl_tupW {X : Cx} : SlR X (rSlW X.K) := by
  intro pins s σ H x v vl vu lo hi sl Q I rx hs pl pu h
  obtain ⟨a, xs, rfl, hx, hw, q⟩ := h
  cases rx
  obtain ⟨its, r, ht, hz⟩ := I.tuple hx
  have e : its.toArray.size = xs.length := r.length.symm
  exact ⟨"tuple", _, PyProof.Rows.slot_tuple_getitem.lookup, ht.typeIs, tup_whole ht hs pl pu (by rw [e]; exact hw) ⟨.ref a, H, I, rfl, q⟩⟩

def rSlP (K : PySem.W.Frag) : V → Option Int → Option Int → Hp → VK → Prop := fun x lo hi H Q => rSlL K x lo hi H Q ∨ rSlT K x lo hi H Q ∨ rSlS x lo hi H Q ∨ rSlW K x lo hi H Q
theorem sl_P {X : Cx} : SlR X (rSlP X.K) := sl_list.or (sl_tup.or (sl_str.or sl_tupW))
def rInP (K : PySem.W.Frag) : R2 := fun x y H Q => rIn K false x y H Q ∨ (∃ (c : Nat) (z : Str), x = .str ⟨#[c]⟩ ∧ y = .str z ∧ Q (.bl (decide (c ∈ z.cps.toList))) H)
def rNotInP (K : PySem.W.Frag) : R2 := fun x y H Q => rIn K true x y H Q ∨ (∃ (c : Nat) (z : Str), x = .str ⟨#[c]⟩ ∧ y = .str z ∧ Q (.bl (!decide (c ∈ z.cps.toList))) H)
theorem op_inP {X : Cx} : OpR X (compareOp .In) (rInP X.K) := op_in_seq.or op_in_sign
theorem op_notInP {X : Cx} : OpR X (compareOp .NotIn) (rNotInP X.K) := op_notIn_seq.or op_notIn_sign

/-! ### heaps -/
/-- a new object -/
structure New (H : Hp) (p : Addr) (o : HO) (H1 : Hp) : Prop where
  free : H p = none
  eq : H1 = upd H p o
/-- an object written -/
structure Wr (H : Hp) (a : Addr) (o : HO) (H1 : Hp) : Prop where
  was : ∃ u, H a = some u
  eq : H1 = upd H a o
section
variable {H H1 H2 : Hp} {p a b : Addr} {o u : HO}
theorem New.at (n : New H p o H1) : H1 p = some o := by rw [n.eq]; exact upd_same
theorem New.ne (n : New H p o H1) (h : H a = some u) : a ≠ p := ne_of_none h n.free
theorem New.old (n : New H p o H1) (h : H a = some u) : H1 a = some u := by rw [n.eq, upd_ne (n.ne h)]; exact h
theorem New.same (n : New H p o H1) : Same H H1 := fun _ _ h => n.old h
theorem Wr.at (n : Wr H a o H1) : H1 a = some o := by rw [n.eq]; exact upd_same
theorem Wr.old (n : Wr H a o H1) (hn : b ≠ a) (h : H b = some u) : H1 b = some u := by rw [n.eq, upd_ne hn]; exact h
theorem Same.at (s : Same H H1) (h : H a = some u) : H1 a = some u := s _ _ h
/-- what was new is written: what stood ahead stands -/
theorem Same.wr (s : Same H H1) (n : H a = none) (w : Wr H1 a o H2) : Same H H2 := fun b u h => w.old (ne_of_none h n) (s _ _ h)
theorem new_of {R : Addr → Hp → Prop} (h : ∀ p H1, New H p o H1 → R p H1) : ∀ p, H p = none → R p (upd H p o) := fun p n => h p _ ⟨n, rfl⟩
theorem wr_of {R : Hp → Prop} (hp : H a = some u) (h : ∀ H1, Wr H a o H1 → R H1) : R (upd H a o) := h _ ⟨⟨u, hp⟩, rfl⟩
end

/-! ### the steps -/
def BlK (Q : Bool → Hp → Prop) : VK := fun x H => ∃ k, x = .bl k ∧ Q k H
section
variable {σ : St} {H : Hp} {Q : VK} {QB : Bool → Hp → Prop} {QA : List V → Hp → Prop} {nx bk ct : St → Hp → Prop} {rt : VK} {ta tb tc te : TE} {t u : TS} {i j : Int} {v x y : V} {r r' : R2} {K : PySem.W.Frag} {tA tB' : TT} {l : TA}
theorem go_var {i : Nat} (h : σ[i]? = some (some v)) (q : Q v H) : tVar i σ H Q := ⟨v, h, q⟩
theorem go_c (q : Q v H) : tC v σ H Q := q
theorem go_op (q : ta σ H fun x H1 => tb σ H1 fun y H2 => r x y H2 Q) : tOp r ta tb σ H Q := q
theorem go_un {r : V → Hp → VK → Prop} (q : ta σ H fun x H1 => r x H1 Q) : tUn r ta σ H Q := q
theorem go_rU {g : Int → V} (q : Q (g i) H) : rU g (.int i) H Q := ⟨i, rfl, q⟩
theorem go_blk {k : Bool} (q : QB k H) : BlK QB (.bl k) H := ⟨k, rfl, q⟩
theorem go_blk' {k : Bool} (q : QB k H) : ∃ c, V.bl k = .bl c ∧ QB c H := ⟨k, rfl, q⟩
theorem go_test (q : te σ H (BlK QB)) : tTest te σ H QB := q
theorem go_tB (q : te σ H (BlK QB)) : tB te σ H QB := q
theorem go_and (q : tA σ H fun c H1 => if c = true then tB' σ H1 QB else QB false H1) : tAnd tA tB' σ H QB := q
theorem go_or (q : tA σ H fun c H1 => if c = true then QB true H1 else tB' σ H1 QB) : tOr tA tB' σ H QB := q
theorem go_not (q : tA σ H fun c H1 => QB (!c) H1) : tNot tA σ H QB := q
theorem go_andV (q : ta σ H (BlK fun c H1 => if c = true then tb σ H1 Q else Q (.bl false) H1)) : tAndV ta tb σ H Q := q
theorem go_orV (q : ta σ H (BlK fun c H1 => if c = true then Q (.bl true) H1 else tb σ H1 Q)) : tOrV ta tb σ H Q := q
theorem go_notV (q : ta σ H (BlK fun c H1 => Q (.bl (!c)) H1)) : tNotV ta σ H Q := q
theorem go_if (q : tA σ H fun c H1 => if c = true then ta σ H1 Q else tb σ H1 Q) : tIf tA ta tb σ H Q := q
theorem go_chain (q : ta σ H fun x H1 => tb σ H1 fun y H2 => r x y H2 (BlK fun k H3 => if k = true then tc σ H3 fun w' H4 => r' y w' H4 Q else Q (.bl false) H3)) : tChain r r' ta tb tc σ H Q := q
-- statements
theorem go_seq (q : t ⟨fun σ H => u ⟨nx, rt, bk, ct⟩ σ H, rt, bk, ct⟩ σ H) : tSeq t u ⟨nx, rt, bk, ct⟩ σ H := q
theorem go_ret (q : te σ H rt) : tRet te ⟨nx, rt, bk, ct⟩ σ H := q
theorem go_retN (q : rt .non H) : tRetN ⟨nx, rt, bk, ct⟩ σ H := q
theorem go_next (q : nx σ H) : tNext ⟨nx, rt, bk, ct⟩ σ H := q
theorem go_drop (q : te σ H fun _ H1 => nx σ H1) : tDrop te ⟨nx, rt, bk, ct⟩ σ H := q
theorem go_asg {g : TG} (q : te σ H fun x H1 => g x σ H1 nx) : tAsg te g ⟨nx, rt, bk, ct⟩ σ H := q
theorem go_name {i : Nat} {n : St → Hp → Prop} (q : n (σ.set i (some v)) H) : gName i v σ H n := q
theorem go_name2 {i : Nat} {n : St → Hp → Prop} {σ' : St} (h : σ.set i (some v) = σ') (q : n σ' H) : gName i v σ H n := by subst h; exact q
theorem go_ifS {c : TT} (q : c σ H fun b H1 => if b = true then t ⟨nx, rt, bk, ct⟩ σ H1 else u ⟨nx, rt, bk, ct⟩ σ H1) : tIfS c t u ⟨nx, rt, bk, ct⟩ σ H := q
theorem go_T {c : Bool} {A B : Prop} (h : c = true) (q : A) : if c = true then A else B := by rw [if_pos h]; exact q
theorem go_F {c : Bool} {A B : Prop} (h : c = false) (q : B) : if c = true then A else B := by rw [h, if_neg Bool.false_ne_true]; exact q
theorem go_ite {c : Bool} {A B : Prop} (h : c = true → A) (k : c = false → B) : if c = true then A else B := by
  cases c
  · exact iteF (k rfl)
  · exact iteT (h rfl)
theorem go_Td {p A B : Prop} [Decidable p] (h : p) (q : A) : if decide p = true then A else B := go_T (decide_eq_true h) q
theorem go_Fd {p A B : Prop} [Decidable p] (h : ¬ p) (q : B) : if decide p = true then A else B := go_F (decide_eq_false h) q
theorem go_Tn {p A B : Prop} [Decidable p] (h : ¬ p) (q : A) : if (!decide p) = true then A else B := go_T (by rw [decide_eq_false h]; rfl) q
theorem go_Fn {p A B : Prop} [Decidable p] (h : p) (q : B) : if (!decide p) = true then A else B := go_F (by rw [decide_eq_true h]; rfl) q
theorem go_dec {p A B : Prop} [Decidable p] (h : p → A) (k : ¬ p → B) : if decide p = true then A else B := by
  by_cases c : p
  · exact go_Td c (h c)
  · exact go_Fd c (k c)
-- operators
theorem go_addI (q : Q (.int (i + j)) H) : rAddP (.int i) (.int j) H Q := .inl ⟨i, j, rfl, rfl, q⟩
theorem go_addL {a b : Addr} {xs ys : List V} (h : H a = some (.lst xs)) (k : H b = some (.lst ys)) (hz : xs.length + ys.length ≤ sizeLine) (q : ∀ p H1, New H p (.lst (xs ++ ys)) H1 → Q (.ref p) H1) : rAddP (.ref a) (.ref b) H Q :=
  .inr (.inl ⟨a, b, xs, ys, rfl, rfl, h, k, hz, new_of q⟩)
theorem go_addS {z w : Str} (hz : z.length + w.length ≤ sizeLine) (q : Q (.str (z ++ w)) H) : rAddP (.str z) (.str w) H Q := .inr (.inr ⟨z, w, rfl, rfl, hz, q⟩)
theorem go_sub (q : Q (.int (i - j)) H) : rSubP (.int i) (.int j) H Q := ⟨i, j, rfl, rfl, q⟩
theorem go_mulI (h : CMul i j) (q : Q (.int (i * j)) H) : rMulP (.int i) (.int j) H Q := .inl ⟨i, j, rfl, rfl, h, q⟩
theorem go_mulL {a : Addr} {xs : List V} (h : H a = some (.lst xs)) (h1 : -(2 ^ 63) ≤ j ∧ j < 2 ^ 63 ∧ xs.length * j.toNat ≤ sizeLine) (q : ∀ p H1, New H p (.lst (List.replicate j.toNat xs).flatten) H1 → Q (.ref p) H1) : rMulP (.ref a) (.int j) H Q :=
  .inr ⟨a, j, xs, rfl, rfl, h, h1.1, h1.2.1, h1.2.2, new_of q⟩
theorem go_div (h : CDiv i j) (q : Q (.int (i / j)) H) : rDivP (.int i) (.int j) H Q := ⟨i, j, rfl, rfl, h, q⟩
theorem go_mod (h : 0 < j) (q : Q (.int (i % j)) H) : rModP (.int i) (.int j) H Q := ⟨i, j, rfl, rfl, h, q⟩
theorem go_pow (h : CPow i j) (q : Q (.int (i ^ j.toNat)) H) : rPowP (.int i) (.int j) H Q := ⟨i, j, rfl, rfl, h, q⟩
theorem go_lt (q : Q (.bl (decide (i < j))) H) : rLtP (.int i) (.int j) H Q := ⟨i, j, rfl, rfl, q⟩
theorem go_le (q : Q (.bl (decide (i ≤ j))) H) : rLeP (.int i) (.int j) H Q := ⟨i, j, rfl, rfl, q⟩
theorem go_gt (q : Q (.bl (decide (j < i))) H) : rGtP (.int i) (.int j) H Q := ⟨i, j, rfl, rfl, q⟩
theorem go_ge (q : Q (.bl (decide (j ≤ i))) H) : rGeP (.int i) (.int j) H Q := ⟨i, j, rfl, rfl, q⟩
theorem decI {i j : Int} : decide (V.int i = V.int j) = decide (i = j) := by by_cases h : i = j <;> simp [h]
theorem decB {i j : Bool} : decide (V.bl i = V.bl j) = decide (i = j) := by by_cases h : i = j <;> simp [h]
theorem decS {i j : Str} : decide (V.str i = V.str j) = decide (i = j) := by by_cases h : i = j <;> simp [h]
theorem go_eqI (q : Q (.bl (decide (i = j))) H) : rEqP K (.int i) (.int j) H Q := .inl ⟨rfl, by rw [decI]; exact q⟩
theorem go_eqB {i j : Bool} (q : Q (.bl (decide (i = j))) H) : rEqP K (.bl i) (.bl j) H Q := .inl ⟨rfl, by rw [decB]; exact q⟩
theorem go_eqS {i j : Str} (q : Q (.bl (decide (i = j))) H) : rEqP K (.str i) (.str j) H Q := .inl ⟨rfl, by rw [decS]; exact q⟩
theorem go_neI (q : Q (.bl (!decide (i = j))) H) : rNeP K (.int i) (.int j) H Q := .inl ⟨rfl, by rw [decI]; exact q⟩
theorem go_neB {i j : Bool} (q : Q (.bl (!decide (i = j))) H) : rNeP K (.bl i) (.bl j) H Q := .inl ⟨rfl, by rw [decB]; exact q⟩
theorem go_neS {i j : Str} (q : Q (.bl (!decide (i = j))) H) : rNeP K (.str i) (.str j) H Q := .inl ⟨rfl, by rw [decS]; exact q⟩
theorem go_eqSc (h : scal x y = true) (q : Q (.bl (decide (x = y))) H) : rEqP K x y H Q := .inl ⟨h, q⟩
theorem go_neSc (h : scal x y = true) (q : Q (.bl (!decide (x = y))) H) : rNeP K x y H Q := .inl ⟨h, q⟩
theorem go_isN (q : Q (.bl (decide (x = .non))) H) : rIsP x .non H Q := .inl ⟨rfl, q⟩
theorem go_isNotN (q : Q (.bl (!decide (x = .non))) H) : rIsNotP x .non H Q := .inl ⟨rfl, q⟩
theorem go_isB {i j : Bool} (q : Q (.bl (decide (i = j))) H) : rIsP (.bl i) (.bl j) H Q := .inr ⟨i, j, rfl, rfl, q⟩
theorem go_isNotB {i j : Bool} (q : Q (.bl (!decide (i = j))) H) : rIsNotP (.bl i) (.bl j) H Q := .inr ⟨i, j, rfl, rfl, q⟩
-- lists of arguments, displays
theorem go_nil (q : QA [] H) : tNil σ H QA := q
theorem go_cons (q : ta σ H fun x H1 => l σ H1 fun xs H2 => QA (x :: xs) H2) : tCons ta l σ H QA := q
theorem go_lst {xs : List V} (hz : xs.length ≤ sizeLine) (q : ∀ p H1, New H p (.lst xs) H1 → Q (.ref p) H1) : (fun xs H1 => xs.length ≤ sizeLine ∧ ∀ p, H1 p = none → Q (.ref p) (upd H1 p (.lst xs))) xs H := ⟨hz, new_of q⟩
def LstK (Q : VK) : List V → Hp → Prop := fun xs H1 => xs.length ≤ sizeLine ∧ ∀ p, H1 p = none → Q (.ref p) (upd H1 p (.lst xs))
def TupK (Q : VK) : List V → Hp → Prop := fun xs H1 => xs.length ≤ sizeLine ∧ ∀ p, H1 p = none → Q (.ref p) (upd H1 p (.tup xs))
theorem go_tLst (q : l σ H (LstK Q)) : tLst l σ H Q := q
theorem go_tTup (q : l σ H (TupK Q)) : tTup l σ H Q := q
theorem go_LstK {xs : List V} (hz : xs.length ≤ sizeLine) (q : ∀ p H1, New H p (.lst xs) H1 → Q (.ref p) H1) : LstK Q xs H := ⟨hz, new_of q⟩
theorem go_TupK {xs : List V} (hz : xs.length ≤ sizeLine) (q : ∀ p H1, New H p (.tup xs) H1 → Q (.ref p) H1) : TupK Q xs H := ⟨hz, new_of q⟩
-- slices, places
theorem go_sl {rs : V → Option Int → Option Int → Hp → VK → Prop} {tl th : TO} (q : te σ H fun x H1 => tl σ H1 fun l H2 => th σ H2 fun u H3 => rs x l u H3 Q) : tSl rs te tl th σ H Q := q
theorem go_noPart {QO : Option Int → Hp → Prop} (q : QO none H) : tNoPart σ H QO := q
def IntK (QO : Option Int → Hp → Prop) : VK := fun x H1 => ∃ i, x = .int i ∧ QO (some i) H1
theorem go_part {QO : Option Int → Hp → Prop} (q : te σ H (IntK QO)) : tPart te σ H QO := q
theorem go_intK {QO : Option Int → Hp → Prop} (q : QO (some i) H) : IntK QO (.int i) H := ⟨i, rfl, q⟩
theorem go_slL {a : Addr} {xs : List V} {lo hi : Option Int} (h : H a = some (.lst xs)) (q : ∀ p H1, New H p (.lst (cutV xs lo hi)) H1 → Q (.ref p) H1) : rSlP K (.ref a) lo hi H Q := .inl ⟨a, xs, rfl, SqL.of h, new_of q⟩
theorem go_slW {a : Addr} {xs : List V} (h : H a = some (.tup xs)) (q : Q (.ref a) H) : rSlP K (.ref a) none none H Q := .inr (.inr (.inr ⟨a, xs, rfl, SqT.of h, ⟨rfl, rfl⟩, q⟩))
theorem go_ixL {a : Addr} {xs : List V} (h : H a = some (.lst xs)) (hv : atI xs i = some v) (q : Q v H) : rIxP K (.ref a) (.int i) H Q := .inl ⟨a, xs, i, v, rfl, rfl, SqL.of h, hv, q⟩
theorem go_ixT {a : Addr} {xs : List V} (h : H a = some (.tup xs)) (hv : atI xs i = some v) (q : Q v H) : rIxP K (.ref a) (.int i) H Q := .inr (.inl ⟨a, xs, i, v, rfl, rfl, SqT.of h, hv, q⟩)
theorem go_ixS {z : Str} {c : Nat} (hz : z.length ≤ sizeLine) (hv : atI z.cps.toList i = some c) (q : Q (.str ⟨#[c]⟩) H) : rIxP K (.str z) (.int i) H Q := .inr (.inr ⟨z, i, c, rfl, rfl, hz, hv, q⟩)
-- calls
theorem go_cb {r : List V → Hp → VK → Prop} (q : l σ H fun vs H1 => r vs H1 Q) : tCB r l σ H Q := q
theorem go_callS {sp : Sp} {E : St → XK} (q : l σ H fun vs H1 => sp vs H1 Q (E σ)) : tCallS sp E l σ H Q := q
end
end Bk

/-! ### calls of the text's own defs, in any context; defs by their own readings -/
namespace Bk
open PySem L2 PyProof.Rows
/-- what is wanted of what is raised: at a def's body; where nothing may be -/
def WM (E : XK) : WX := fun cls d _ H => E cls d H
def W0 : WX := fun _ _ _ _ => False
def F0 : St → Hp → Prop := fun _ _ => False
theorem takesM {X : Cx} {E : XK} (hs : X.stack = X.env :: X.outer) (hf : X.env.frame = some X.env.locals) (hex : X.ex = []) {E₁ : Value → Shared → Prop}
    (hx : X.xe = fun e s' => wpAny (model X.prog X.w) X.A (leaving X.env e) (fun _ s'' => L2N.CX X.prog X.w X.outer X.H_0 X.s_0 E e s'') E₁ s') : L2N.Takes X (WM E) := L2N.takes_of hs hf hex hx
theorem takesN {X : Cx} : L2N.Takes X W0 := fun _ _ x => by
  obtain ⟨_, _, _, _, _, _, _, _, _, _, _, _, _, _, _, _, z⟩ := x
  exact z.elim
theorem okN {P : Program} {w : World} {K : PySem.W.Frag} {mg : Str → Option Value} {base : Heap} {x qual : Str} {st : Stmt} {f : Addr} {fd : FuncData} {N ps : List Str} {k : Nat} {t : XK → TS}
    (F : Fun K x qual st f fd) (S : FnScope N ps (defScope st))
    (hbody : ∀ (cdv : Value) (A : Around) (outer : List Env) (s : Shared) (H : Hp) (E : XK), Room k (A.deeper (envOfC qual (defScope st) s.heap.objs.size f cdv)) →
      PSs (cxOf (L2N.CX P w) P w K mg base N qual (defScope st) f cdv A outer s H E) (defBody st) (t E)) :
    FnOk P w K mg base (L2N.CX P w) (k + 1) f fd ps (fun vs H Q E => vs.length = ps.length ∧ t E ⟨fun _ H' => Q .non H', Q, F0, F0⟩ (start N vs) H) := by
  obtain ⟨oc, od, kV, doc, pm, an, cdv, ct, osl, rfl, lk, hcd⟩ := F.ex
  refine fn_of lk hcd S (fun _ _ _ _ h => h.1) fun A outer s H vs Q E hr h => ⟨t E, hbody cdv A outer s H E hr, h.2⟩
section
variable {X : Cx} {k j : Nat} {f C : Addr} {fd : FuncData} {ps : List Str} {sp : Sp} {W : WX} {x m : Str} {p pos apos : Pos} {e o : Expr} {es : List Expr} {ta : TE} {t : TA}
theorem callE (F : FnOk X.prog X.w X.K X.mg X.base (L2N.CX X.prog X.w) k f fd ps sp) (tk : L2N.Takes X W) (hr : Room j X.A) (hj : k ≤ j) (hg : Gl X x) (hm : X.mg x = some (.ref f)) (hk : PySem.W.keepIn X.K (.ref f) = true) (hb : Binds X.K fd ps [])
    (ha : PA X (e :: es) t) (hdb : (x == ("__debug__" : Str)) = false := by decide) (he : starEach (e :: es) X.env = (false, eval e X.env) :: starEach es X.env := by rfl) (hpl : (backTo pos (starEach es X.env)).any (·.1) = false := by rfl) :
    PE X (.Call (.Name x p) (e :: es) [] pos) (tCallS sp (WE W) t) := pe_callS F (hr.mono hj) hg hm hk hb (fun σ => L2N.passAt tk σ) ha hdb he hpl
def tCall0 (sp : Sp) (E : St → XK) : TE := fun σ H Q => sp [] H Q (E σ)
theorem callE0 (F : FnOk X.prog X.w X.K X.mg X.base (L2N.CX X.prog X.w) k f fd ps sp) (tk : L2N.Takes X W) (hr : Room j X.A) (hj : k ≤ j) (hg : Gl X x) (hm : X.mg x = some (.ref f)) (hk : PySem.W.keepIn X.K (.ref f) = true) (hb : Binds X.K fd ps [])
    (hdb : (x == ("__debug__" : Str)) = false := by decide) : PE X (.Call (.Name x p) [] [] pos) (tCall0 sp (WE W)) := by
  refine ⟨fun pins s σ H Q I h => ?_⟩
  refine wpAny_Call_Name_kw (ld_glob I hg hm ?_ hdb)
  exact PySem.W.callWith_K0 I.kIn hk (run_fnS (us := []) F (hr.mono hj) hb (L2N.passAt tk σ) I .nil h)
end
end Bk

/-! ### methods of own classes, makings -/
namespace Bk
open PySem L2 PyProof.Rows
/-- an own method that stands for the class at C -/
structure MethOk (X : Cx) (m : Str) (k : Nat) (C : Addr) (sp : Sp) : Prop where
  c : Cls X.K C
  ex : ∃ f fd ps, Meth X.K C m f ∧ FnOk X.prog X.w X.K X.mg X.base (L2N.CX X.prog X.w) k f fd ps sp ∧ Binds X.K fd ps []
inductive AltsOk (X : Cx) (m : Str) (k : Nat) : List (Addr × Sp) → Prop
  | nil : AltsOk X m k []
  | cons {C : Addr} {sp : Sp} {l : List (Addr × Sp)} (h : MethOk X m k C sp) (r : AltsOk X m k l) : AltsOk X m k ((C, sp) :: l)
theorem AltsOk.get {X : Cx} {m : Str} {k : Nat} : ∀ {l : List (Addr × Sp)}, AltsOk X m k l → ∀ {C : Addr} {sp : Sp}, (C, sp) ∈ l → MethOk X m k C sp
  | _, .nil, _, _, h => by cases h
  | _, .cons h r, _, _, q => by
    rcases List.mem_cons.mp q with e | q
    · cases e; exact h
    · exact r.get q
theorem MethOk.mk' {X : Cx} {m : Str} {k j : Nat} {C f : Addr} {sp : Sp} {fd : FuncData} {ps : List Str} (c : Cls X.K C) (hm : Meth X.K C m f) (F : FnOk X.prog X.w X.K X.mg X.base (L2N.CX X.prog X.w) j f fd ps sp) (hb : Binds X.K fd ps []) (hj : j ≤ k) : MethOk X m k C sp :=
  ⟨c, f, fd, ps, hm, F.mono hj, hb⟩
def tMethP (m : Str) (alts : List (Addr × Sp)) (E : St → XK) (ta : TE) (t : TA) : TE := fun σ H Q => ta σ H fun x H1 => ∃ a dx fs C sp, x = .ref a ∧ H1 a = some (.ins C dx fs) ∧ fs.lookup m = none ∧ (C, sp) ∈ alts ∧
  t σ H1 fun vs H2 => sp (x :: vs) H2 Q (E σ)
section
variable {X : Cx} {k j : Nat} {f C : Addr} {fd : FuncData} {ps : List Str} {sp : Sp} {W : WX} {x m : Str} {p pos apos : Pos} {e o : Expr} {es : List Expr} {ta : TE} {t : TA} {alts : List (Addr × Sp)}
theorem methE {pl : Sem Bool} (he : PE X o ta) (al : AltsOk X m k alts) (tk : L2N.Takes X W) (hr : Room j X.A) (hj : k ≤ j) (ha : PA X (e :: es) t)
    (hst : starEach (e :: es) X.env = (false, eval e X.env) :: starEach es X.env := by rfl) (hpl : (backTo pos (starEach es X.env)).any (·.1) = false := by rfl)
    (ht : eval (.Call (.Attribute o m apos) (e :: es) [] pos) X.env = (do
      let ov ← eval o X.env
      standAt apos.atName
      let (f, first) ← holding [ov] (getMethod ov m pl)
      callWith pos f first (backTo pos (starEach (e :: es) X.env)) (backToKw pos (keywordEach [] X.env))) := by rfl) :
    PE X (.Call (.Attribute o m apos) (e :: es) [] pos) (tMethP m alts (WE W) ta t) := by
  refine ⟨fun pins s σ H Q I h => ?_⟩
  refine PySem.W.methodCall_KW (pl := pl) (thn (he.run pins s σ H _ I h) fun u s1 ⟨x, H1, I1, rx, a, dx, fs, C, sp, ex, ea, l, hin, q⟩ => ?_) ht
  subst ex
  obtain rfl : u = Value.ref a := rx
  obtain ⟨c, f, fd, ps, hm, F, hb⟩ := al.get hin
  refine getmeth_ok I1 ea c hm l ?_
  refine PySem.W.callWith_K (first := [.ref a]) (h₀ := X.base) I.ok.mod.kin hm.kp (thn (ha.run pos pins s1 σ H1 _ I1 q) fun us s2 ⟨vs, H2, I2, r, q2⟩ => ⟨I2.kIn, ?_⟩) hst hpl
  exact run_fnS (us := .ref a :: us) (vs := .ref a :: vs) F (hr.mono hj) hb (L2N.passAt tk σ) I2 (.cons rfl r) q2
theorem methE0 {pl : Sem Bool} (he : PE X o ta) (al : AltsOk X m k alts) (tk : L2N.Takes X W) (hr : Room j X.A) (hj : k ≤ j)
    (ht : eval (.Call (.Attribute o m apos) [] [] pos) X.env = (do
      let ov ← eval o X.env
      standAt apos.atName
      let (f, first) ← holding [ov] (getMethod ov m pl)
      callWith pos f first (backTo pos (starEach [] X.env)) (backToKw pos (keywordEach [] X.env))) := by rfl) :
    PE X (.Call (.Attribute o m apos) [] [] pos) (tMethP m alts (WE W) ta tNil) := by
  refine ⟨fun pins s σ H Q I h => ?_⟩
  refine PySem.W.methodCall_KW (pl := pl) (thn (he.run pins s σ H _ I h) fun u s1 ⟨x, H1, I1, rx, a, dx, fs, C, sp, ex, ea, l, hin, q⟩ => ?_) ht
  subst ex
  obtain rfl : u = Value.ref a := rx
  obtain ⟨c, f, fd, ps, hm, F, hb⟩ := al.get hin
  refine getmeth_ok I1 ea c hm l ?_
  exact PySem.W.callWith_K0 (first := [.ref a]) I1.kIn hm.kp (run_fnS (us := [.ref a]) (vs := [.ref a]) F (hr.mono hj) hb (L2N.passAt tk σ) I1 (.cons rfl .nil) q)
def tMakeE (C : Addr) (sp : Sp) (E : St → XK) (t : TA) : TE := fun σ H Q => t σ H fun vs H1 => ∀ x dx, H1 x = none → H1 dx = none → dx ≠ x → sp (.ref x :: vs) (upd (upd H1 dx (.own x)) x (.ins C dx [])) (fun v H2 => v = .non ∧ Q (.ref x) H2) (E σ)
theorem run_makeS {pins : List (Addr × Obj)} {σ : St} {H : Hp} {s : Shared} {Q : VK} {us : List Value} {vs : List V} {E : St → XK} (M : Mk X.K C f) (F : FnOk X.prog X.w X.K X.mg X.base (L2N.CX X.prog X.w) k f fd ps sp) (hr : Room (k + 1) X.A) (hb : Binds X.K fd ps [])
    (hx : ∀ σ, PassesAt (L2N.CX X.prog X.w) X σ (E σ)) (I : Inv X pins σ H s) (r : Vals vs us)
    (h : ∀ x dx, H x = none → H dx = none → dx ≠ x → sp (.ref x :: vs) (upd (upd H dx (.own x)) x (.ins C dx [])) (fun v H2 => v = .non ∧ Q (.ref x) H2) (E σ)) :
    wpAny (model X.prog X.w) X.A (call (.ref C) us) (EP X pins σ Q) X.xe s := by
  have hq := h (s.heap.objs.size + 1) s.heap.objs.size (I.hok.fresh (Nat.le_succ _)) (I.hok.fresh (Nat.le_refl _)) (Nat.ne_of_lt (Nat.lt_succ_self _))
  have I2 := Inv.made (C := C) I
  have r2 : Vals (V.ref (s.heap.objs.size + 1) :: vs) (Value.ref (s.heap.objs.size + 1) :: us) := .cons rfl r
  have hl : (Value.ref (s.heap.objs.size + 1) :: us ++ []).length = ps.length := by
    have e := r2.length
    rw [F.len _ _ _ _ hq] at e
    rw [List.append_nil]
    exact e.symm
  have b := hb { s with heap := (s.heap.push { cls := .type "dict", data := .dict #[] }).push (PySem.W.instObj C s.heap.objs.size) } (Value.ref (s.heap.objs.size + 1) :: us) I2.kIn hl
  rw [List.append_nil] at b
  refine wpAny_call (make_map (f := f) I.kIn M.makes M.init (beq_iff_eq.mp M.fn) (codeAny_mono (F.run _ X.stack _ _ ⟨Value.ref (s.heap.objs.size + 1) :: us, []⟩ (Value.ref (s.heap.objs.size + 1) :: us) _ _ (E σ) (hr.make C us [])
    (I2.env0.make C us []) b r2 hq) fun r s' hq' => ?_))
  cases r with
  | error e => exact hx σ pins _ _ e s' I2 hq'
  | ok fl =>
    cases fl with
    | ret u =>
      obtain ⟨v, H', I3, rv, ev, q3⟩ := I2.after hq'
      subst ev
      exact ⟨rv, ⟨V.ref (s.heap.objs.size + 1), H', I3, rfl, q3⟩⟩
    | next => exact False.elim hq'
    | brk => exact False.elim hq'
    | cont => exact False.elim hq'
theorem makeE (M : Mk X.K C f) (F : FnOk X.prog X.w X.K X.mg X.base (L2N.CX X.prog X.w) k f fd ps sp) (tk : L2N.Takes X W) (hr : Room j X.A) (hj : k + 1 ≤ j) (hg : Gl X x) (hm : X.mg x = some (.ref C)) (hb : Binds X.K fd ps [])
    (ha : PA X (e :: es) t) (hdb : (x == ("__debug__" : Str)) = false := by decide) (he : starEach (e :: es) X.env = (false, eval e X.env) :: starEach es X.env := by rfl) (hpl : (backTo pos (starEach es X.env)).any (·.1) = false := by rfl) :
    PE X (.Call (.Name x p) (e :: es) [] pos) (tMakeE C sp (WE W) t) := by
  refine ⟨fun pins s σ H Q I h => ?_⟩
  refine wpAny_Call_Name_kw (ld_glob I hg hm ?_ hdb)
  refine PySem.W.callWith_K (h₀ := X.base) I.ok.mod.kin M.kp (thn (ha.run pos pins s σ H _ I h) fun us s1 ⟨vs, H1, I1, r, q⟩ => ⟨I1.kIn, ?_⟩) he hpl
  exact run_makeS M F (hr.mono hj) hb (fun σ => L2N.passAt tk σ) I1 r q
end
end Bk

/-! ### built-ins, of any kinds -/
namespace Bk
open PySem L2 PyProof.Rows
def rLenP (K : PySem.W.Frag) : List V → Hp → VK → Prop := fun xs H Q => (∃ x n, xs = [x] ∧ LenV K x H n ∧ Q (.int n) H) ∨ ∃ a kvs, xs = [V.ref a] ∧ H a = some (.dK kvs) ∧ Q (.int kvs.length) H
def rListP (K : PySem.W.Frag) : List V → Hp → VK → Prop := fun xs H Q => ∃ p ys, xs = [.ref p] ∧ (SqL K H p ys ∨ SqT K H p ys) ∧ ∀ l, H l = none → Q (.ref l) (upd H l (.lst ys))
def rTupleP (K : PySem.W.Frag) : List V → Hp → VK → Prop := fun xs H Q => ∃ p ys, xs = [.ref p] ∧ ((SqL K H p ys ∧ ∀ l, H l = none → Q (.ref l) (upd H l (.tup ys))) ∨ (SqT K H p ys ∧ Q (.ref p) H))
def rIntB : List V → Hp → VK → Prop := fun xs H Q => (∃ i, xs = [.int i] ∧ Q (.int i) H) ∨ ∃ k, xs = [.bl k] ∧ Q (.int (if k then 1 else 0)) H
def rIntP : List V → Hp → VK → Prop := fun xs H Q => rIntB xs H Q ∨ ∃ a n, xs = [.str a] ∧ PySem.intText? a = some n ∧ a.length ≤ 640 ∧ Q (.int n) H
def rAbsP : List V → Hp → VK → Prop := fun xs H Q => ∃ i, xs = [.int i] ∧ Q (.int (if i < 0 then -i else i)) H
def rMin2 : List V → Hp → VK → Prop := fun xs H Q => ∃ i j, xs = [.int i, .int j] ∧ Q (.int (if j < i then j else i)) H
def rMax2 : List V → Hp → VK → Prop := fun xs H Q => ∃ i j, xs = [.int i, .int j] ∧ Q (.int (if j > i then j else i)) H
section
variable {X : Cx}
theorem call_lenP : CallR X (.builtin "len") (rLenP X.K) := call_or call_len call_lenD
theorem call_listP : CallR X (.type "list") (rListP X.K) := call_list_of
theorem call_tupleP : CallR X (.type "tuple") (rTupleP X.K) := call_tuple_of
theorem call_intP : CallR X (.type "int") rIntP := call_or call_int1 call_int_str
/-- what is walked: a list, a tuple, a text; told when its value is known -/
def SeqC (K : PySem.W.Frag) (R : It → Hp → Prop) : VK := fun x H1 => (∃ a, x = .ref a ∧ ∃ xs, SqL K H1 a xs ∧ R (Itl K a) H1) ∨ (∃ a, x = .ref a ∧ ∃ xs, SqT K H1 a xs ∧ R (Itt K a) H1) ∨ ∃ z, x = .str z ∧ R (Its z) H1
def iSeqP (K : PySem.W.Frag) (tl : TE) : TI := fun σ H R => tl σ H (SeqC K R)
theorem pi_seqP {tg l : Expr} {tl : TE} (hl : PE X l tl) : PI X tg l (iSeqP X.K tl) := by
  refine ⟨fun pins s σ H R I h => thn (hl.run pins s σ H _ I h) ?_⟩
  rintro v s1 ⟨x, H1, I1, r1, ⟨a, rfl, xs, hq, q⟩ | ⟨a, rfl, xs, hq, q⟩ | ⟨z, rfl, q⟩⟩
  · cases r1
    obtain ⟨its, rv, p, hz⟩ := I1.list hq
    exact wpAny_pyIter_list p.isList (pi_one (tk := s1.toks) I1 _ (turn_list a _) ⟨_, Heap.get?_push_size _ rfl, rfl, rfl⟩ q)
  · cases r1
    obtain ⟨its, rv, p, hz⟩ := I1.tuple hq
    exact wpAny_pyIter_tuple p (pi_one (tk := s1.toks) I1 _ (turn_tuple a _) ⟨_, Heap.get?_push_size _ rfl, rfl, rfl⟩ q)
  · obtain ⟨t, rfl⟩ := r1
    cases ha : z.cps.all (· < 128)
    · exact wpAny_pyIter_wide ha (pi_one (tk := s1.toks) I1 _ (turn_str _ z t "str_iterator" (.inr rfl)) ⟨_, Heap.get?_push_size _ rfl, rfl, rfl⟩ q)
    · exact wpAny_pyIter_ascii ha (pi_one (tk := s1.toks) I1 _ (turn_str _ z t "str_ascii_iterator" (.inl rfl)) ⟨_, Heap.get?_push_size _ rfl, rfl, rfl⟩ q)
end
section
variable {H : Hp} {Q : VK} {K : PySem.W.Frag} {a : Addr} {xs : List V} {i j : Int} {z : Str}
theorem go_lenL (h : H a = some (.lst xs)) (q : Q (.int xs.length) H) : rLenP K [.ref a] H Q := .inl ⟨.ref a, xs.length, rfl, .inl ⟨xs, SqL.of h, rfl⟩, q⟩
theorem go_lenT (h : H a = some (.tup xs)) (q : Q (.int xs.length) H) : rLenP K [.ref a] H Q := .inl ⟨.ref a, xs.length, rfl, .inr ⟨xs, SqT.of h, rfl⟩, q⟩
theorem go_lenS (h : z.length ≤ sizeLine) (q : Q (.int z.length) H) : rLenP K [.str z] H Q := .inl ⟨.str z, z.length, rfl, ⟨h, rfl⟩, q⟩
theorem go_lenD {kvs : List (Key × V)} (h : H a = some (.dK kvs)) (q : Q (.int kvs.length) H) : rLenP K [.ref a] H Q := .inr ⟨a, kvs, rfl, h, q⟩
/-- the script's list, however it stands -/
theorem go_lenK (h : SqL K H a xs) (q : Q (.int xs.length) H) : rLenP K [.ref a] H Q := .inl ⟨.ref a, xs.length, rfl, .inl ⟨xs, h, rfl⟩, q⟩
theorem go_ixK {v : V} (h : SqL K H a xs) (hv : atI xs i = some v) (q : Q v H) : rIxP K (.ref a) (.int i) H Q := .inl ⟨a, xs, i, v, rfl, rfl, h, hv, q⟩
theorem go_listL (h : H a = some (.lst xs)) (q : ∀ p H1, New H p (.lst xs) H1 → Q (.ref p) H1) : rListP K [.ref a] H Q := ⟨a, xs, rfl, .inl (SqL.of h), new_of q⟩
theorem go_listT (h : H a = some (.tup xs)) (q : ∀ p H1, New H p (.lst xs) H1 → Q (.ref p) H1) : rListP K [.ref a] H Q := ⟨a, xs, rfl, .inr (SqT.of h), new_of q⟩
theorem go_tupleL (h : H a = some (.lst xs)) (q : ∀ p H1, New H p (.tup xs) H1 → Q (.ref p) H1) : rTupleP K [.ref a] H Q := ⟨a, xs, rfl, .inl ⟨SqL.of h, new_of q⟩⟩
theorem go_tupleT (h : H a = some (.tup xs)) (q : Q (.ref a) H) : rTupleP K [.ref a] H Q := ⟨a, xs, rfl, .inr ⟨SqT.of h, q⟩⟩
theorem go_intI (q : Q (.int i) H) : rIntP [.int i] H Q := .inl (.inl ⟨i, rfl, q⟩)
theorem go_intB {k : Bool} (q : Q (.int (if k then 1 else 0)) H) : rIntP [.bl k] H Q := .inl (.inr ⟨k, rfl, q⟩)
theorem go_abs (q : Q (.int (if i < 0 then -i else i)) H) : rAbsP [.int i] H Q := ⟨i, rfl, q⟩
theorem go_min2 (q : Q (.int (if j < i then j else i)) H) : rMin2 [.int i, .int j] H Q := ⟨i, j, rfl, q⟩
theorem go_max2 (q : Q (.int (if j > i then j else i)) H) : rMax2 [.int i, .int j] H Q := ⟨i, j, rfl, q⟩
theorem go_all {bs : List Bool} (h : H a = some (.lst (bs.map V.bl))) (q : Q (.bl (bs.all id)) H) : rAll K [.ref a] H Q := ⟨a, bs, rfl, SqL.of h, q⟩
theorem go_sum {ns : List Int} (h : H a = some (.lst (ns.map V.int))) (q : Q (.int ns.sum) H) : rSum K [.ref a] H Q := ⟨a, ns, rfl, SqL.of h, q⟩

/-! ### isinstance with a built-in class -/
/-- the kind of a value by its name -/
def tyN (H : Hp) : V → Option String
  | .non => some "NoneType"
  | .bl _ => some "bool"
  | .int _ => some "int"
  | .str _ => some "str"
  | .ref a => match H a with
    | some (.lst _) => some "list"
    | some (.tup _) => some "tuple"
    | some (.dK _) => some "dict"
    | _ => none
  | _ => none
theorem tyN_ok {x : V} {n : String} (h : tyN H x = some n) : TyX K H x (.type n) := by
  cases x with
  | non => cases h; exact .base .non
  | bl b => cases h; exact .base (.bl b)
  | int i => cases h; exact .base (.int i)
  | str s => cases h; exact .base (.str s)
  | byt b => cases h
  | flt b => cases h
  | ty n => cases h
  | ref a =>
    have h' : (match H a with | some (.lst _) => some "list" | some (.tup _) => some "tuple" | some (.dK _) => some "dict" | _ => none) = some n := h
    split at h'
    · rename_i e; cases h'; exact .base (.lst e)
    · rename_i e; cases h'; exact .base (.tup e)
    · rename_i e; cases h'; exact .base (.dK e)
    · cases h'
theorem tyN_L (h : H a = some (.lst xs)) : tyN H (.ref a) = some "list" := by simp [tyN, h]
theorem tyN_T (h : H a = some (.tup xs)) : tyN H (.ref a) = some "tuple" := by simp [tyN, h]
theorem tyN_D {kvs : List (Key × V)} (h : H a = some (.dK kvs)) : tyN H (.ref a) = some "dict" := by simp [tyN, h]
/-- isinstance(x, T), x of kind n -/
theorem go_isi {x : V} {n T : String} {r : Bool} (h : tyN H x = some n) (hr : kitB n T = some r) (q : Q (.bl r) H) : rIsi K [x, .ty T] H Q := ⟨x, .ty T, .type n, .type T, r, rfl, .ty T, tyN_ok h, kit_ty hr, q⟩
def isiB (n T : String) : Bool := (kitB n T).getD false
theorem kit_b' : ∀ n ∈ ["NoneType", "bool", "int", "str", "list", "tuple", "dict"], ∀ T ∈ ["bool", "int", "str", "list", "tuple", "dict"], kitB n T = some (n == T || (n == "bool" && T == "int")) := by decide +kernel
theorem kit_bb {n T : String} (h : n ∈ ["NoneType", "bool", "int", "str", "list", "tuple", "dict"]) (k : T ∈ ["bool", "int", "str", "list", "tuple", "dict"]) : kitB n T = some (n == T || (n == "bool" && T == "int")) := kit_b' n h T k
end
end Bk

/-! ### comprehensions and loops, by what each turn makes -/
namespace Bk
open PySem L2 PyProof.Rows
def LcK (g : TG) (tt : TT) (te : TE) (vs : List Nat) (σ : St) (Q : VK) : It → Hp → Prop := fun J H1 => tLc (fun _ H R => R J H) g tt te vs σ H1 Q
def ForK (g : TG) (tb : TS) (D : Ends) (σ : St) : It → Hp → Prop := fun J H1 => tFor (fun _ H R => R J H) g tb D σ H1
/-- one range's ends -/
def Rng1K (R : It → Hp → Prop) : List V → Hp → Prop := fun vs H1 => ∃ j : Int, vs = [.int j] ∧ -(2 ^ 62) ≤ j ∧ j < 2 ^ 62 ∧ R (Itr 0 j.toNat) H1
def Rng2K (R : It → Hp → Prop) : List V → Hp → Prop := fun vs H1 => ∃ i j : Int, vs = [.int i, .int j] ∧ (-(2 ^ 62) ≤ i ∧ i < 2 ^ 62 ∧ -(2 ^ 62) ≤ j ∧ j < 2 ^ 62) ∧ R (Itr i (j - i).toNat) H1
section
variable {σ : St} {H H1 : Hp} {Q : VK} {K : PySem.W.Frag} {wi : TI} {g : TG} {tt : TT} {te tl : TE} {vs : List Nat} {tb : TS} {D : Ends} {ta : TA} {R : It → Hp → Prop} {a : Addr} {xs : List V} {i j : Int} {z : Str} {nx bk ct : St → Hp → Prop} {rt : VK}
theorem go_lc (q : wi σ H (LcK g tt te vs σ Q)) : tLc wi g tt te vs σ H Q := q
theorem go_for (q : wi σ H (ForK g tb D σ)) : tFor wi g tb D σ H := q
theorem go_seqP (q : tl σ H (SeqC K R)) : iSeqP K tl σ H R := q
theorem go_seqL (h : H a = some (.lst xs)) (q : R (Itl K a) H) : SeqC K R (.ref a) H := .inl ⟨a, rfl, xs, SqL.of h, q⟩
theorem go_seqK (h : SqL K H a xs) (q : R (Itl K a) H) : SeqC K R (.ref a) H := .inl ⟨a, rfl, xs, h, q⟩
theorem go_seqT (h : H a = some (.tup xs)) (q : R (Itt K a) H) : SeqC K R (.ref a) H := .inr (.inl ⟨a, rfl, xs, SqT.of h, q⟩)
theorem go_seqS (q : R (Its z) H) : SeqC K R (.str z) H := .inr (.inr ⟨z, rfl, q⟩)
theorem go_rng1 (q : ta σ H (Rng1K R)) : iRng1 ta σ H R := q
theorem go_rng2 (q : ta σ H (Rng2K R)) : iRng2 ta σ H R := q
theorem go_rng1K (h : -(2 ^ 62) ≤ j ∧ j < 2 ^ 62) (q : R (Itr 0 j.toNat) H) : Rng1K R [.int j] H := ⟨j, rfl, h.1, h.2, q⟩
theorem go_rng2K (h : -(2 ^ 62) ≤ i ∧ i < 2 ^ 62 ∧ -(2 ^ 62) ≤ j ∧ j < 2 ^ 62) (q : R (Itr i (j - i).toNat) H) : Rng2K R [.int i, .int j] H := ⟨i, j, rfl, h, q⟩

theorem take_succ_of {α : Type} {l : List α} {i : Nat} {x : α} (h : l[i]? = some x) : l.take (i + 1) = l.take i ++ [x] := by rw [List.take_add_one, h]; rfl
/-- a list with tests and elements that leave what stands -/
theorem lc_L {m : Nat} {f : V → V} {p : V → Bool} (h : H1 a = some (.lst xs)) (hz : xs.length ≤ sizeLine)
    (test : ∀ (i : Nat) (x : V) (H' : Hp) (QB : Bool → Hp → Prop), xs[i]? = some x → Same H1 H' → (∀ H'', Same H' H'' → QB (p x) H'') → tt ((σ.set m none).set m (some x)) H' QB)
    (step : ∀ (i : Nat) (x : V) (H' : Hp) (Q' : VK), xs[i]? = some x → p x = true → Same H1 H' → (∀ H'', Same H' H'' → Q' (f x) H'') → te ((σ.set m none).set m (some x)) H' Q')
    (q : ∀ D H2, H1 D = none → Same H1 H2 → H2 D = some (.lst ((xs.filter p).map f)) → Q (.ref D) H2) : LcK (gName m) tt te [m] σ Q (Itl K a) H1 := by
  intro D hD
  refine lc_list (K := K) (a := a) (xs := xs) (fun i H => H D = some (.lst (((xs.take i).filter p).map f)) ∧ Same H1 H) ⟨upd_same, fun b o e => by rw [upd_ne (ne_of_none e hD)]; exact e⟩ (fun i H _ ⟨_, s⟩ => SqL.of (s _ _ h)) ?_ ?_
  · rintro i x H' hx ⟨hd, s⟩
    refine ⟨?_, test i x H' _ hx s ?_⟩
    · show ((σ.set m none).set m (some x)).set m none = σ.set m none
      rw [List.set_set, List.set_set]
    · rintro H'' s2
      have hd2 := s2 _ _ hd
      cases hb : p x with
      | false =>
        rw [if_neg Bool.false_ne_true]
        refine ⟨?_, s.trans s2⟩
        rw [take_succ_of hx, List.filter_append, List.filter_cons_of_neg (by rw [hb]; decide), List.filter_nil, List.append_nil]
        exact hd2
      | true =>
        rw [if_pos rfl]
        refine step i x H'' _ hx hb (s.trans s2) fun H3 s3 => ?_
        refine ⟨_, s3 _ _ hd2, ?_, ?_, fun b o e => ?_⟩
        · rw [List.length_map]
          have h1 := List.length_filter_le p (xs.take i)
          have h2 : (xs.take i).length ≤ i := by rw [List.length_take]; omega
          have h3 : i < xs.length := (List.getElem?_eq_some_iff.mp hx).1
          omega
        · rw [upd_same, take_succ_of hx, List.filter_append, List.filter_cons_of_pos hb, List.filter_nil, List.map_append]
          rfl
        · rw [upd_ne (ne_of_none e hD)]
          exact s3 _ _ (s2 _ _ (s _ _ e))
  · rintro H2 ⟨hd, s⟩
    rw [List.take_length] at hd
    exact q D H2 hD s hd
/-- no test -/
theorem yes_if {σ : St} {H : Hp} {A B : Hp → Prop} (h : A H) : tYes σ H (fun b H3 => if b = true then A H3 else B H3) := (iteT (B := B H) h : if true = true then A H else B H)
theorem monoYes : ∀ (σ : St) (H : Hp) (Q Q' : Bool → Hp → Prop), (∀ b H', Q b H' → Q' b H') → tYes σ H Q → tYes σ H Q' := fun _ _ _ _ h q => h _ _ q
theorem lc_mapL {m : Nat} {f : V → V} (h : H1 a = some (.lst xs)) (hz : xs.length ≤ sizeLine)
    (step : ∀ (i : Nat) (x : V) (H' : Hp) (Q' : VK), xs[i]? = some x → Same H1 H' → (∀ H'', Same H' H'' → Q' (f x) H'') → te ((σ.set m none).set m (some x)) H' Q')
    (q : ∀ D H2, H1 D = none → Same H1 H2 → H2 D = some (.lst (xs.map f)) → Q (.ref D) H2) : LcK (gName m) tYes te [m] σ Q (Itl K a) H1 := by
  intro D hD
  refine lc_list (K := K) (a := a) (xs := xs) (fun i H => H D = some (.lst ((xs.take i).map f)) ∧ Same H1 H) ⟨upd_same, fun b o e => by rw [upd_ne (ne_of_none e hD)]; exact e⟩ (fun i H _ ⟨_, s⟩ => SqL.of (s _ _ h)) ?_ ?_
  · rintro i x H' hx ⟨hd, s⟩
    refine ⟨?_, ?_⟩
    · show ((σ.set m none).set m (some x)).set m none = σ.set m none
      rw [List.set_set, List.set_set]
    · refine yes_if (step i x H' _ hx s fun H3 s3 => ?_)
      refine ⟨_, s3 _ _ hd, ?_, ?_, fun b o e => ?_⟩
      · rw [List.length_map]
        have h2 : (xs.take i).length ≤ i := by rw [List.length_take]; omega
        have h3 : i < xs.length := (List.getElem?_eq_some_iff.mp hx).1
        omega
      · rw [upd_same, take_succ_of hx, List.map_append]
        rfl
      · rw [upd_ne (ne_of_none e hD)]
        exact s3 _ _ (s _ _ e)
  · rintro H2 ⟨hd, s⟩
    rw [List.take_length] at hd
    exact q D H2 hD s hd
theorem lc_mapR {m n : Nat} {lo : Int} {f : Nat → V} (hz : n ≤ sizeLine)
    (step : ∀ i H' Q', i < n → Same H1 H' → (∀ H'', Same H' H'' → Q' (f i) H'') → te ((σ.set m none).set m (some (.int (lo + i)))) H' Q')
    (q : ∀ D H2, H1 D = none → Same H1 H2 → H2 D = some (.lst ((List.range n).map f)) → Q (.ref D) H2) : LcK (gName m) tYes te [m] σ Q (Itr lo n) H1 := by
  intro D hD
  refine lc_range (fun i H => H D = some (.lst ((List.range i).map f)) ∧ Same H1 H) ⟨upd_same, fun b o e => by rw [upd_ne (ne_of_none e hD)]; exact e⟩ ?_ ?_
  · rintro i H' hi ⟨hd, s⟩
    refine ⟨?_, ?_⟩
    · show ((σ.set m none).set m (some (.int (lo + i)))).set m none = σ.set m none
      rw [List.set_set, List.set_set]
    · refine yes_if (step i H' _ hi s fun H3 s3 => ?_)
      refine ⟨_, s3 _ _ hd, ?_, ?_, fun b o e => ?_⟩
      · rw [List.length_map, List.length_range]
        omega
      · rw [upd_same, List.range_succ, List.map_append]
        rfl
      · rw [upd_ne (ne_of_none e hD)]
        exact s3 _ _ (s _ _ e)
  · rintro H2 ⟨hd, s⟩
    exact q D H2 hD s hd

theorem len_cut (xs : List V) (lo hi : Option Int) : (cutV xs lo hi).length = min (HT.sIx xs.length xs.length hi - HT.sIx xs.length 0 lo) (xs.length - HT.sIx xs.length 0 lo) := by
  unfold cutV
  rw [List.length_take, List.length_drop]
/-! loops -/
theorem for_L {m : Nat} (INV : Nat → St → Hp → Prop) (h : ∀ i σ H, INV i σ H → H a = some (.lst xs)) (h0 : INV 0 σ H1)
    (hs : ∀ i x σ H, xs[i]? = some x → INV i σ H → tb ⟨INV (i + 1), rt, nx, INV (i + 1)⟩ (σ.set m (some x)) H) (hd : ∀ σ H, INV xs.length σ H → nx σ H) : ForK (gName m) tb ⟨nx, rt, bk, ct⟩ σ (Itl K a) H1 :=
  for_list (K := K) (a := a) (xs := xs) INV h0 (fun i σ H _ q => SqL.of (h i σ H q)) hs hd
theorem for_T {m : Nat} (INV : Nat → St → Hp → Prop) (h : ∀ i σ H, INV i σ H → H a = some (.tup xs)) (h0 : INV 0 σ H1)
    (hs : ∀ i x σ H, xs[i]? = some x → INV i σ H → tb ⟨INV (i + 1), rt, nx, INV (i + 1)⟩ (σ.set m (some x)) H) (hd : ∀ σ H, INV xs.length σ H → nx σ H) : ForK (gName m) tb ⟨nx, rt, bk, ct⟩ σ (Itt K a) H1 :=
  for_tup (K := K) (a := a) (xs := xs) INV h0 (fun i σ H _ q => SqT.of (h i σ H q)) hs hd
theorem for_R {m n : Nat} {lo : Int} (INV : Nat → St → Hp → Prop) (h0 : INV 0 σ H1)
    (hs : ∀ i σ H, i < n → INV i σ H → tb ⟨INV (i + 1), rt, nx, INV (i + 1)⟩ (σ.set m (some (.int (lo + i)))) H) (hd : ∀ σ H, INV n σ H → nx σ H) : ForK (gName m) tb ⟨nx, rt, bk, ct⟩ σ (Itr lo n) H1 :=
  for_range INV h0 hs hd
end
/-! what is raised -/
def tRaiseE (C : Addr) (W : WX) : TS := fun _ σ H => W (.ref C) none σ H
structure ExOk (K : PySem.W.Frag) (C : Addr) : Prop where
  q : PySem.W.excIn K C [.type "ValueError", .type "Exception", .type "BaseException", .type "object"] "ValueError.__new__" = true
  k : PySem.W.keepIn K (.ref C) = true
  s : PySem.W.subIn K (.ref C) (.type "BaseException") = some true
  t : PySem.W.typeIn K (.ref C) = some (.type "type")
theorem raiseE {X : Cx} {C : Addr} {W : WX} {x m : Str} {j : Nat} {p p2 pos pos' : Pos} (hc : X.calm = true) (tk : L2N.Takes X W) (e : ExOk X.K C) (hm : X.mg x = some (.ref C)) (hg : Gl X x := by rfl) (hdb : (x == ("__debug__" : Str)) = false := by decide) :
    PS X (.Raise (some (.Call (.Name x p) [.Constant (.str m) j p2] [] pos)) none pos') (tRaiseE C W) :=
  L2N.ps_raise hc tk (L2N.pmk_own PySem.F.excBase_ValueError e.q hm e.k (raises_own e.s e.t) hg hdb)
theorem go_raise {C : Addr} {W : WX} {D : Ends} {σ : St} {H : Hp} (q : W (.ref C) none σ H) : tRaiseE C W D σ H := q
/-! targets of several names -/
theorem pg_or {X : Cx} {tg : Expr} {g h : TG} (a : PG X tg g) (b : PG X tg h) : PG X tg (fun v σ H Q => g v σ H Q ∨ h v σ H Q) :=
  ⟨fun pins s σ H v u Q I r q => q.elim (fun q => a.run pins s σ H v u Q I r q) fun q => b.run pins s σ H v u Q I r q⟩
def gTupP (K : PySem.W.Frag) (n : Nat) (t : TGs) : TG := fun v σ H Q => gTup K n t v σ H Q ∨ gLst K n t v σ H Q
theorem pg_tupP {X : Cx} {pos : Pos} {es : List Expr} {k : Nat} {t : TGs} {n : Nat} (hc : X.calm = true) (h : PGs X es t) (hn : (assignEach es X.env).length = n := by rfl) (hst : (assignEach es X.env).findIdx? (·.1) = none := by rfl) :
    PG X (.Tuple es k pos) (gTupP X.K n t) := pg_or (pg_tup hc h hn hst) (pg_lst hc h hn hst)
section
variable {σ : St} {H : Hp} {K : PySem.W.Frag} {n : Nat} {t : TG} {u : TGs} {v : V} {a : Addr} {xs : List V} {Q : St → Hp → Prop}
theorem go_tupG (h : H a = some (.tup xs)) (hl : xs.length = n) (q : u xs σ H Q) : gTupP K n u (.ref a) σ H Q := .inl ⟨a, xs, rfl, SqT.of h, hl, q⟩
theorem go_lstG (h : H a = some (.lst xs)) (hl : xs.length = n) (q : u xs σ H Q) : gTupP K n u (.ref a) σ H Q := .inr ⟨a, xs, rfl, SqL.of h, hl, q⟩
theorem go_gNil (q : Q σ H) : gNil [] σ H Q := ⟨rfl, q⟩
theorem go_gCons {r : List V} (q : t v σ H fun σ' H' => u r σ' H' Q) : gCons t u (v :: r) σ H Q := ⟨v, r, rfl, q⟩
end
/-- the classes' places -/
structure Ac where
  (KeepError BadRow NoBlock Stopped BadDisk NoRoom TooMuch BadLog NoNode NoNodes TooLong OutOfPlace BadName BadPath NotFolder NotFile NoName NameThere NotEmpty Within BadOrder Disk Layout Batch Keeper f1 f2 : Addr)
end Bk

namespace Bk
open PySem L2 PyProof.Rows
/-! ### data -/
section
variable {K : PySem.W.Frag} {H H' : Hp} {Q : VK} {x y : V} {d e : PyData} {a b : Addr}
mutual
theorem Dp.same (s : Same H H') : ∀ {d : PyData} {v : V}, Dp K H v d → Dp K H' v d
  | _, _, .non => .non
  | _, _, .bl b => .bl b
  | _, _, .int i => .int i
  | _, _, .str x => .str x
  | _, _, .lst h k => .lst (s.seq h) (DpAll.same s k)
  | _, _, .tup h k => .tup (by rcases h with (h | ⟨o, h⟩) | h; exact .inl (.inl (s _ _ h)); exact .inl (.inr ⟨o, s _ _ h⟩); exact .inr h) (DpAll.same s k)
theorem DpAll.same (s : Same H H') : ∀ {ds : List PyData} {vs : List V}, DpAll K H vs ds → DpAll K H' vs ds
  | _, _, .nil => .nil
  | _, _, .cons h k => .cons (Dp.same s h) (DpAll.same s k)
end
theorem DpAll.ints : ∀ ns : List Int, DpAll K H (ns.map V.int) (ns.map PyData.int)
  | [] => .nil
  | n :: r => .cons (.int n) (DpAll.ints r)
theorem DpAll.bls : ∀ ns : List Bool, DpAll K H (ns.map V.bl) (ns.map PyData.bool)
  | [] => .nil
  | n :: r => .cons (.bl n) (DpAll.bls r)
theorem dp_ints {ns : List Int} (h : H a = some (.lst (ns.map V.int))) : Dp K H (.ref a) (.list (ns.map PyData.int)) := .lst (SqL.of h) (DpAll.ints ns)
theorem dp_bls {ns : List Bool} (h : H a = some (.lst (ns.map V.bl))) : Dp K H (.ref a) (.list (ns.map PyData.bool)) := .lst (SqL.of h) (DpAll.bls ns)
theorem eqv_ints : ∀ ns ms : List Int, PyData.eqvAll (ns.map PyData.int) (ms.map PyData.int) = decide (ns = ms)
  | [], [] => by simp [PyData.eqvAll]
  | [], _ :: _ => by simp [PyData.eqvAll]
  | _ :: _, [] => by simp [PyData.eqvAll]
  | n :: r, m :: q => by
    simp only [List.map_cons, PyData.eqvAll, PyData.eqv, eqv_ints r q, List.cons.injEq, Bool.decide_and]
    rfl
theorem eqv_bls : ∀ ns ms : List Bool, PyData.eqvAll (ns.map PyData.bool) (ms.map PyData.bool) = decide (ns = ms)
  | [], [] => by simp [PyData.eqvAll]
  | [], _ :: _ => by simp [PyData.eqvAll]
  | _ :: _, [] => by simp [PyData.eqvAll]
  | n :: r, m :: q => by
    simp only [List.map_cons, PyData.eqvAll, PyData.eqv, eqv_bls r q, List.cons.injEq, Bool.decide_and]
    cases n <;> cases m <;> rfl
theorem shaped_bls (ns : List Bool) : SeqAt.shaped (.list (ns.map PyData.bool)) = true := by
  have h1 : ∀ ns : List Bool, PyData.canLayAll0 (ns.map PyData.bool) = true := fun ns => by induction ns with
    | nil => simp [PyData.canLayAll0]
    | cons n r ih => simp [PyData.canLayAll0, PyData.canLay0, ih]
  have h2 : ∀ ns : List Bool, PyData.depthAll (ns.map PyData.bool) ≤ 1 := fun ns => by induction ns with
    | nil => simp [PyData.depthAll]
    | cons n r ih => simp only [List.map_cons, PyData.depthAll, PyData.depth]; omega
  have h3 := h2 ns
  unfold SeqAt.shaped
  rw [Bool.and_eq_true]
  exact ⟨by simp only [PyData.canLay0]; exact h1 ns, decide_eq_true (by simp only [PyData.depth]; omega)⟩
theorem go_eqD (h : Dp K H x d) (k : Dp K H y e) (hd : SeqAt.shaped d = true) (he : SeqAt.shaped e = true) (q : Q (.bl (PyData.eqv d e)) H) : rEqP K x y H Q := .inr ⟨d, e, h, k, hd, he, q⟩
theorem go_neD (h : Dp K H x d) (k : Dp K H y e) (hd : SeqAt.shaped d = true) (he : SeqAt.shaped e = true) (q : Q (.bl (!PyData.eqv d e)) H) : rNeP K x y H Q := .inr ⟨d, e, h, k, hd, he, q⟩
theorem go_eqIs {ns ms : List Int} (h : H a = some (.lst (ns.map V.int))) (k : H b = some (.lst (ms.map V.int))) (q : Q (.bl (decide (ns = ms))) H) : rEqP K (.ref a) (.ref b) H Q :=
  go_eqD (dp_ints h) (dp_ints k) (PySem.W.shaped_ints ns) (PySem.W.shaped_ints ms) (by rw [PyData.eqv, eqv_ints]; exact q)
theorem go_neIs {ns ms : List Int} (h : H a = some (.lst (ns.map V.int))) (k : H b = some (.lst (ms.map V.int))) (q : Q (.bl (!decide (ns = ms))) H) : rNeP K (.ref a) (.ref b) H Q :=
  go_neD (dp_ints h) (dp_ints k) (PySem.W.shaped_ints ns) (PySem.W.shaped_ints ms) (by rw [PyData.eqv, eqv_ints]; exact q)
theorem go_eqBs {ns ms : List Bool} (h : H a = some (.lst (ns.map V.bl))) (k : H b = some (.lst (ms.map V.bl))) (q : Q (.bl (decide (ns = ms))) H) : rEqP K (.ref a) (.ref b) H Q :=
  go_eqD (dp_bls h) (dp_bls k) (shaped_bls ns) (shaped_bls ms) (by rw [PyData.eqv, eqv_bls]; exact q)
/-- two that hold the same data -/
theorem go_neSame (h : Dp K H x d) (k : Dp K H y d) (hd : SeqAt.shaped d = true) (q : Q (.bl false) H) : rNeP K x y H Q :=
  go_neD h k hd hd (by rw [PySem.SeqAt.eqv_refl d (SeqAt.canLay_of_shaped hd)]; exact q)
theorem go_eqSame (h : Dp K H x d) (k : Dp K H y d) (hd : SeqAt.shaped d = true) (q : Q (.bl true) H) : rEqP K x y H Q :=
  go_eqD h k hd hd (by rw [PySem.SeqAt.eqv_refl d (SeqAt.canLay_of_shaped hd)]; exact q)
theorem tyN_same {n : String} (s : Same H H') (h : tyN H x = some n) : tyN H' x = some n := by
  cases x with
  | ref a =>
    have h' : (match H a with | some (.lst _) => some "list" | some (.tup _) => some "tuple" | some (.dK _) => some "dict" | _ => none) = some n := h
    split at h'
    · rename_i e; rw [← h']; exact tyN_L (s _ _ e)
    · rename_i e; rw [← h']; exact tyN_T (s _ _ e)
    · rename_i e; rw [← h']; exact tyN_D (s _ _ e)
    · cases h'
  | _ => exact h
end
end Bk

/-! ### a script's cells; items at open places; known things -/
namespace Bk
open PySem L2 PyProof.Rows
section
variable {K : PySem.W.Frag} {H H' : Hp} {Q : VK}
theorem atI_some {α : Type} {xs : List α} {j : Int} (h0 : 0 ≤ j) (h1 : j < xs.length) : ∃ v, atI xs j = some v ∧ v ∈ xs ∧ xs[j.toNat]? = some v := by
  have h2 : j.toNat < xs.length := by omega
  refine ⟨xs[j.toNat], ?_, List.getElem_mem h2, List.getElem?_eq_getElem h2⟩
  have := atI_nat (xs := xs) (j := j.toNat) (List.getElem?_eq_getElem h2)
  rwa [Int.toNat_of_nonneg h0] at this
theorem go_ixLo {a : Addr} {xs : List V} {j : Int} (h : H a = some (.lst xs)) (hj : 0 ≤ j ∧ j < xs.length) (q : ∀ v, v ∈ xs → xs[j.toNat]? = some v → Q v H) : rIxP K (.ref a) (.int j) H Q := by
  obtain ⟨v, h1, h2, h3⟩ := atI_some hj.1 hj.2
  exact go_ixL h h1 (q v h2 h3)
/-- the k-th cell of a script, nought behind its end -/
def cellI (ns : List Int) (k : Int) : Int := ns.getD k.toNat 0
theorem cell_in {ns : List Int} {k : Int} (h : 0 ≤ k) (h2 : k < ns.length) : atI (ns.map V.int) k = some (.int (cellI ns k)) := by
  obtain ⟨v, e, _, e2⟩ := atI_some (xs := ns.map V.int) h (by simpa using h2)
  rw [e]
  rw [List.getElem?_map] at e2
  unfold cellI
  cases q : ns[k.toNat]? with
  | none => rw [q] at e2; cases e2
  | some z => rw [q] at e2; cases e2; rw [List.getD_eq_getElem?_getD, q]; rfl
theorem cell_out {ns : List Int} {k : Int} (h : ¬ k < ns.length) : cellI ns k = 0 := by
  unfold cellI
  rw [List.getD_eq_getElem?_getD, List.getElem?_eq_none (by omega)]
  rfl
/-- a thing whose kind and data are known, no deeper than a list of plain things -/
def Itm (K : PySem.W.Frag) (H : Hp) (y : V) : Prop := (∃ n, tyN H y = some n) ∧ ∃ d, Dp K H y d ∧ d.canLay0 = true ∧ d.depth ≤ 2
theorem Itm.same {y : V} (s : Same H H') (h : Itm K H y) : Itm K H' y := ⟨let ⟨n, e⟩ := h.1; ⟨n, tyN_same s e⟩, let ⟨d, e, c⟩ := h.2; ⟨d, Dp.same s e, c⟩⟩
theorem Itm.int (i : Int) : Itm K H (.int i) := ⟨⟨_, rfl⟩, _, .int i, by simp [PyData.canLay0], by simp [PyData.depth]⟩
theorem Itm.str (i : Str) (h : PyData.strOk i = true) : Itm K H (.str i) := ⟨⟨_, rfl⟩, _, .str i, by simp [PyData.canLay0, h], by simp [PyData.depth]⟩
theorem Itm.bl (i : Bool) : Itm K H (.bl i) := ⟨⟨_, rfl⟩, _, .bl i, by simp [PyData.canLay0], by simp [PyData.depth]⟩
theorem Itm.non : Itm K H .non := ⟨⟨_, rfl⟩, _, .non, by simp [PyData.canLay0], by simp [PyData.depth]⟩
theorem Itm.ints {a : Addr} {ns : List Int} (h : H a = some (.lst (ns.map V.int))) : Itm K H (.ref a) := by
  have h1 := PySem.W.shaped_ints ns
  have h2 := PySem.W.depthAll_ints ns
  exact ⟨⟨_, tyN_L h⟩, _, dp_ints h, SeqAt.canLay_of_shaped h1, by simp only [PyData.depth]; omega⟩
theorem Itm.tup0 {a : Addr} (h : H a = some (.tup [])) : Itm K H (.ref a) := ⟨⟨_, tyN_T h⟩, .tuple [], .tup (SqT.of h) .nil, by simp [PyData.canLay0, PyData.canLayAll0], by simp [PyData.depth, PyData.depthAll]⟩
theorem itms {xs : List V} (h : ∀ y ∈ xs, Itm K H y) : ∃ ds, DpAll K H xs ds ∧ PyData.canLayAll0 ds = true ∧ PyData.depthAll ds ≤ 2 := by
  induction xs with
  | nil => exact ⟨[], .nil, by simp [PyData.canLayAll0], by simp [PyData.depthAll]⟩
  | cons x r ih =>
    obtain ⟨ds, h1, h2, h3⟩ := ih fun y hy => h y (List.mem_cons_of_mem _ hy)
    obtain ⟨_, d, k1, k2, k3⟩ := h x List.mem_cons_self
    exact ⟨d :: ds, .cons k1 h1, by simp [PyData.canLayAll0, k2, h2], by simp only [PyData.depthAll]; omega⟩
theorem shapedL {ds : List PyData} (h : PyData.canLayAll0 ds = true) (k : PyData.depthAll ds ≤ 2) : SeqAt.shaped (.list ds) = true := by
  unfold SeqAt.shaped
  rw [Bool.and_eq_true]
  exact ⟨by simp only [PyData.canLay0]; exact h, decide_eq_true (by simp only [PyData.depth]; omega)⟩
theorem shapedT {ds : List PyData} (h : PyData.canLayAll0 ds = true) (k : PyData.depthAll ds ≤ 2) : SeqAt.shaped (.tuple ds) = true := by
  unfold SeqAt.shaped
  rw [Bool.and_eq_true]
  exact ⟨by simp only [PyData.canLay0]; exact h, decide_eq_true (by simp only [PyData.depth]; omega)⟩
end
end Bk

namespace Bk
open PySem L2 PyProof.Rows
theorem kindR {H : Hp} {p : Addr} {n : String} (h : tyN H (.ref p) = some n) : (n = "list" ∧ ∃ xs, H p = some (.lst xs)) ∨ (n = "tuple" ∧ ∃ xs, H p = some (.tup xs)) ∨ (n = "dict" ∧ ∃ kvs, H p = some (.dK kvs)) := by
  have h' : (match H p with | some (.lst _) => some "list" | some (.tup _) => some "tuple" | some (.dK _) => some "dict" | _ => none) = some n := h
  split at h'
  · rename_i e; cases h'; exact .inl ⟨rfl, _, e⟩
  · rename_i e; cases h'; exact .inr (.inl ⟨rfl, _, e⟩)
  · rename_i e; cases h'; exact .inr (.inr ⟨rfl, _, e⟩)
  · cases h'
end Bk

/-! ### slices from and to a place -/
namespace Bk
open PySem L2 PyProof.Rows
theorem cut_take (xs : List V) {k : Int} (h : 0 ≤ k) : cutV xs none (some k) = xs.take k.toNat := by
  unfold cutV HT.sIx
  simp only [if_neg (show ¬ k < 0 by omega), Nat.sub_zero, List.drop_zero]
  by_cases c : k.toNat ≤ xs.length
  · rw [Nat.min_eq_left c]
  · rw [Nat.min_eq_right (by omega), List.take_length, List.take_of_length_le (by omega)]
theorem cut_drop (xs : List V) {k : Int} (h : 0 ≤ k) : cutV xs (some k) none = xs.drop k.toNat := by
  unfold cutV HT.sIx
  simp only [if_neg (show ¬ k < 0 by omega)]
  by_cases c : k.toNat ≤ xs.length
  · rw [Nat.min_eq_left c, List.take_of_length_le (by rw [List.length_drop]; omega)]
  · rw [Nat.min_eq_right (by omega), List.drop_length, List.drop_of_length_le (by omega)]
    simp
theorem cut_mid (xs : List V) {i k : Int} (h : 0 ≤ i) (h2 : 0 ≤ k) : cutV xs (some i) (some k) = (xs.drop i.toNat).take (k.toNat - i.toNat) := by
  unfold cutV HT.sIx
  simp only [if_neg (show ¬ k < 0 by omega), if_neg (show ¬ i < 0 by omega)]
  by_cases c : i.toNat ≤ xs.length
  · rw [Nat.min_eq_left c]
    by_cases c2 : k.toNat ≤ xs.length
    · rw [Nat.min_eq_left c2]
    · rw [Nat.min_eq_right (by omega), List.take_of_length_le (by rw [List.length_drop]; omega), List.take_of_length_le (by rw [List.length_drop]; omega)]
  · rw [Nat.min_eq_right (show xs.length ≤ i.toNat by omega), List.drop_length, List.drop_of_length_le (show xs.length ≤ i.toNat by omega)]
    simp
theorem cut_all (xs : List V) : cutV xs none none = xs := by
  unfold cutV HT.sIx
  simp
end Bk

/-! ### methods of lists; loops that only look -/
namespace Bk
open PySem L2 PyProof.Rows
def BmK (K : PySem.W.Frag) (T : String) (r : V → List V → Hp → VK → Prop) (t : TA) (σ : St) (Q : VK) : VK := fun x H1 => tyV K T x H1 ∧ t σ H1 fun xs H2 => r x xs H2 Q
section
variable {K : PySem.W.Frag} {H H1 : Hp} {Q : VK} {σ : St} {T : String} {r : V → List V → Hp → VK → Prop} {to : TE} {t : TA} {a b : Addr} {xs ys : List V} {y : V} {tb : TS} {nx bk ct : St → Hp → Prop} {rt : VK}
theorem go_bm (q : to σ H (BmK K T r t σ Q)) : tBM K T r to t σ H Q := q
theorem go_bm0 (q : to σ H (BmK K T r tNil σ Q)) : tBM0 K T r to σ H Q := q
theorem go_bmL (h : H a = some (.lst xs)) (q : t σ H fun xs H2 => r (.ref a) xs H2 Q) : BmK K "list" r t σ Q (.ref a) H := ⟨.inl ⟨rfl, _, SqL.of h⟩, q⟩
theorem go_append (h : H a = some (.lst xs)) (hz : xs.length < sizeLine) (q : ∀ H1, Wr H a (.lst (xs ++ [y])) H1 → Q .non H1) : rAppend (.ref a) [y] H Q := ⟨a, xs, y, rfl, rfl, h, hz, wr_of h q⟩
theorem go_extend (h : H a = some (.lst xs)) (k : H b = some (.lst ys)) (hz : xs.length + ys.length ≤ sizeLine) (q : ∀ H1, Wr H a (.lst (xs ++ ys)) H1 → Q .non H1) : rExtend (.ref a) [.ref b] H Q := ⟨a, b, xs, ys, rfl, rfl, h, k, hz, wr_of h q⟩
theorem go_clear (h : H a = some (.lst xs)) (q : ∀ H1, Wr H a (.lst []) H1 → Q .non H1) : rClear (.ref a) [] H Q := ⟨a, xs, rfl, rfl, h, wr_of h q⟩
theorem go_dnew (q : ∀ p H1, New H p (.dK []) H1 → Q (.ref p) H1) : tDNewK σ H Q := new_of q
theorem go_call0 {sp : Sp} {E : St → XK} (q : sp [] H Q (E σ)) : tCall0 sp E σ H Q := q
theorem seq' {K : PySem.W.Frag} {H H1 : Hp} {a : Addr} {xs : List V} (h : SqL K H a xs) (s : Same H H1) : SqL K H1 a xs := s.seq h
theorem ne_none {u : HO} (n : H b = none) (h : H a = some u) : a ≠ b := ne_of_none h n
/-- a loop whose turns let stand what stood -/
theorem for_lookL {m : Nat} (h : H1 a = some (.lst xs)) (h0 : ∃ v, σ = σ.set m v)
    (turn : ∀ (i : Nat) (x : V) (H' : Hp) (N : St → Hp → Prop), xs[i]? = some x → Same H1 H' → (∀ H'', Same H' H'' → N (σ.set m (some x)) H'') → tb ⟨N, rt, nx, N⟩ (σ.set m (some x)) H')
    (fin : ∀ v H', Same H1 H' → nx (σ.set m v) H') : ForK (gName m) tb ⟨nx, rt, bk, ct⟩ σ (Itl K a) H1 := by
  refine for_L (xs := xs) (fun i σ' H' => ∃ v, σ' = σ.set m v ∧ Same H1 H') (fun i σ' H' ⟨_, _, s⟩ => s _ _ h) (let ⟨v, e⟩ := h0; ⟨v, e, Same.refl _⟩) ?_ ?_
  · rintro i x σ' H' hx ⟨v, rfl, s⟩
    rw [List.set_set]
    exact turn i x H' _ hx s fun H'' s2 => ⟨_, rfl, s.trans s2⟩
  · rintro σ' H' ⟨v, rfl, s⟩
    exact fin v H' s
theorem for_lookT {m : Nat} (h : H1 a = some (.tup xs)) (h0 : ∃ v, σ = σ.set m v)
    (turn : ∀ (i : Nat) (x : V) (H' : Hp) (N : St → Hp → Prop), xs[i]? = some x → Same H1 H' → (∀ H'', Same H' H'' → N (σ.set m (some x)) H'') → tb ⟨N, rt, nx, N⟩ (σ.set m (some x)) H')
    (fin : ∀ v H', Same H1 H' → nx (σ.set m v) H') : ForK (gName m) tb ⟨nx, rt, bk, ct⟩ σ (Itt K a) H1 := by
  refine for_T (xs := xs) (fun i σ' H' => ∃ v, σ' = σ.set m v ∧ Same H1 H') (fun i σ' H' ⟨_, _, s⟩ => s _ _ h) (let ⟨v, e⟩ := h0; ⟨v, e, Same.refl _⟩) ?_ ?_
  · rintro i x σ' H' hx ⟨v, rfl, s⟩
    rw [List.set_set]
    exact turn i x H' _ hx s fun H'' s2 => ⟨_, rfl, s.trans s2⟩
  · rintro σ' H' ⟨v, rfl, s⟩
    exact fin v H' s
end
end Bk

/-! our own: loops, comprehensions, calls where an exception may be in hand (hot) or not (calm) -/
namespace Bk
open PySem L2 PyProof.Rows L2H HotX
/-- the exception in hand, p, and behind it none, or one of L that has none behind it -/
def Hot2 (A : Around) (p : Addr × Obj) (L : List (Addr × Obj)) : Prop :=
  A.handled = some (.ref p.1) ∧ ∃ (vs : Array Value) (c : Value), p.2.data = .fields vs ∧ vs[2]? = some c ∧ (c = .none ∨ ∃ q ∈ L, c = .ref q.1 ∧ ∃ ws : Array Value, q.2.data = .fields ws ∧ ws[2]? = some .none)
/-- .. in a heap -/
def At2 (A : Around) (x1 : Addr) (h : Heap) : Prop :=
  A.handled = some (.ref x1) ∧ ∃ (o : Obj) (vs : Array Value) (c : Value), h.get? x1 = some o ∧ o.data = .fields vs ∧ vs[2]? = some c ∧
    (c = .none ∨ ∃ (x0 : Addr) (o0 : Obj) (ws : Array Value), c = .ref x0 ∧ h.get? x0 = some o0 ∧ o0.data = .fields ws ∧ ws[2]? = some .none)
theorem Hot2.one {A : Around} {p : Addr × Obj} (h : Hot1 A p) : Hot2 A p [] := let ⟨a, vs, e, c⟩ := h; ⟨a, vs, .none, e, c, .inl rfl⟩
theorem Hot2.at {A : Around} {p : Addr × Obj} {L : List (Addr × Obj)} {h : Heap} (x : Hot2 A p L) (k : ∀ q ∈ p :: L, h.get? q.1 = some q.2) : At2 A p.1 h := by
  obtain ⟨a, vs, c, e, ec, y⟩ := x
  refine ⟨a, p.2, vs, c, k p List.mem_cons_self, e, ec, y.imp id ?_⟩
  rintro ⟨q, hq, rfl, ws, f, g⟩
  exact ⟨q.1, q.2, ws, rfl, k q (List.mem_cons_of_mem _ hq), f, g⟩
/-- where an object has a third field it stands; so in the next heap -/
theorem At2.keep {A : Around} {x1 : Addr} {h h' : Heap} (x : At2 A x1 h) (k : ∀ b (o : Obj) (vs : Array Value) (v : Value), h.get? b = some o → o.data = .fields vs → vs[2]? = some v → h'.get? b = some o) : At2 A x1 h' := by
  obtain ⟨a, o, vs, c, e, d, ec, y⟩ := x
  refine ⟨a, o, vs, c, k _ _ _ _ e d ec, d, ec, y.imp id ?_⟩
  rintro ⟨x0, o0, ws, rfl, f, g, z⟩
  exact ⟨x0, o0, ws, rfl, k _ _ _ _ f g z, g, z⟩
section
variable {prog : Program} {w : World} {A : Around} {E : Value → Shared → Prop} {s : Shared}
/-- nothing is cut: a is not among those that stand behind -/
theorem uncut {x1 a : Addr} {Q : Value → Shared → Prop} {o : Obj} {vs : Array Value} {c : Value} (h1 : s.heap.get? x1 = some o) (d1 : o.data = .fields vs) (c1 : vs[2]? = some c)
    (y : c = .none ∨ ∃ (x0 : Addr) (o0 : Obj) (ws : Array Value), c = .ref x0 ∧ x0 ≠ a ∧ s.heap.get? x0 = some o0 ∧ o0.data = .fields ws ∧ ws[2]? = some .none) (q : Q .none s) :
    wpAny (model prog w) A (holding [Value.ref a] (runValue (.builtin "proto.unchain" ⟨[.ref a, .ref x1, .ref x1, .bool false], []⟩))) Q E s := by
  refine wpAny_holding (wpAny_runValue (codeAny_builtin PySem.entry_unchain ?_))
  show wpAny _ _ (field (.ref x1) 2 >>= _) _ _ s
  refine wpAny_bind (wpAny_field h1 d1 c1 ?_)
  rcases y with rfl | ⟨x0, o0, ws, rfl, na, h0, d0, c0⟩
  · rw [if_pos (show (Value.none == Value.none) = true from rfl)]
    first
    | exact wpAny_bind (wpAny_pure (wpAny_pure q))
    | exact wpAny_pure q
  · have ne : x0 ≠ x1 := fun z => by
      rw [z, h1] at h0
      cases h0
      rw [d1] at d0
      cases d0
      rw [c1] at c0
      cases c0
    have f1 : ¬ ((Value.ref x0 == Value.none) = true) := by simp
    have f2 : ¬ ((Value.ref x0 == Value.ref a) = true) := fun z => na (Value.ref.inj (beq_iff_eq.mp z))
    have f3 : ¬ ((Value.ref x0 == Value.ref x1) = true) := fun z => ne (Value.ref.inj (beq_iff_eq.mp z))
    rw [if_neg f1]
    simp only [f2, f3, if_false, Bool.false_eq_true]
    refine wpAny_pure ⟨Code.quiet_builtin _ (by first | kernel_rfl | decide +kernel), codeAny_builtin PySem.entry_unchain ?_⟩
    show wpAny _ _ (field (.ref x0) 2 >>= _) _ _ s
    refine wpAny_bind (wpAny_field h0 d0 c0 ?_)
    rw [if_pos (show (Value.none == Value.none) = true from rfl)]
    first
    | exact wpAny_bind (wpAny_pure (wpAny_pure q))
    | exact wpAny_pure q
/-- a new one is raised: what is in hand stands behind it -/
theorem raise2 {α : Type} {a x1 : Addr} {oe : Obj} {vs : Array Value} {Q : α → Shared → Prop} {h0 : Heap} (hot : At2 A x1 h0) (k : ∀ b o, h0.get? b = some o → b ≠ a ∧ s.heap.get? b = some o) (ha : s.heap.get? a = some oe) (da : oe.data = .fields vs) (hi : 2 < vs.size)
    (hE : E (.ref a) { s with heap := s.heap.update a (Obj.mapFields (·.setIfInBounds 2 (.ref x1))) }) : wpAny (model prog w) A (raiseNew (.ref a) : Sem α) Q E s := by
  obtain ⟨hh, o1, vs1, c, h1, d1, c1, y⟩ := hot
  obtain ⟨n1, e1⟩ := k _ _ h1
  have y' : c = .none ∨ ∃ (x0 : Addr) (o0 : Obj) (ws : Array Value), c = .ref x0 ∧ x0 ≠ a ∧ s.heap.get? x0 = some o0 ∧ o0.data = .fields ws ∧ ws[2]? = some .none := y.imp id fun ⟨x0, o0, ws, e, f, g⟩ => ⟨x0, o0, ws, e, (k _ _ f).1, (k _ _ f).2, g⟩
  unfold raiseNew
  refine wpAny_bind (wpAny_handled ?_)
  rw [hh]
  have hb : (Value.ref x1 != Value.ref a) = true := ref_bne n1
  first
  | (show wpAny _ _ (if (Value.ref x1 != Value.ref a) = true then _ else _) _ _ _
     rw [if_pos hb]
     first
     | exact wpAny_bind (uncut e1 d1 c1 y' (wpAny_bind (chained ha da hi (wpAny_throw hE))))
     | exact wpAny_bind (wpAny_bind (uncut e1 d1 c1 y' (chained ha da hi (wpAny_throw hE)))))
  | (refine wpAny_bind ?_
     show wpAny _ _ (if (Value.ref x1 != Value.ref a) = true then _ else _) _ _ _
     rw [if_pos hb]
     exact wpAny_bind (uncut e1 d1 c1 y' (chained ha da hi (wpAny_throw hE))))
/-- a list's end while an exception is in hand -/
theorem list_end_hot {it l x1 : Addr} {i : Nat} {items : Array Value} {Q : Option Value → Shared → Prop} (hot : At2 A x1 s.heap)
    (hit : s.heap.IsListIter it l i) (hl : s.heap.IsList l items) (hx : items[i]? = none) (hQ : ∀ h', (∀ b o, b ≠ it → s.heap.get? b = some o → h'.get? b = some o) → Q none { s with heap := h' }) : wpAny (model prog w) A (pyNext (.ref it)) Q E s := by
  obtain ⟨o, ho, hc, hd⟩ := id hit
  obtain ⟨ol, hol, _, nl, hdl⟩ := hl
  have keep : ∀ b o', b ≠ it → s.heap.get? b = some o' → ((s.heap.update it (Obj.mapFields (·.setIfInBounds 0 Value.none))).get? b) = some o' := fun b o' hb e => (Heap.get?_update_other _ _ (Ne.symm hb)).trans e
  have hot' : At2 A x1 (s.heap.update it (Obj.mapFields (·.setIfInBounds 0 Value.none))) := hot.keep fun b o1 vs v e d c => keep b o1 (fun z => by
    rw [z, ho] at e; cases e
    rw [hd] at d; cases d
    simp at c) e
  unfold pyNext
  refine wpAny_bind (wpAny_attempt (wpAny_callSpecial?_slot (name := Str.ofString "__next__") hit.typeIs slot_listiter_next (wpAny_call_entry slot_listiter_next hit.typeIs entry_listiter_next ?_ (args_listiter_next _))))
  show wpAny _ _ (field (.ref it) 0 >>= _) _ _ s
  refine wpAny_bind (wpAny_field ho hd (x := .ref l) rfl ?_)
  show wpAny _ _ (if (Value.ref l == Value.none) = true then _ else _) _ _ s
  rw [if_neg (show ¬ ((Value.ref l == Value.none) = true) from Bool.false_ne_true)]
  show wpAny _ _ (field (.ref it) 1 >>= _) _ _ s
  refine wpAny_bind (wpAny_field ho hd (x := .int i 0) rfl ?_)
  show wpAny _ _ (seqItems? (.ref l) >>= _) _ _ s
  refine wpAny_bind (wpAny_seqItems hol hdl ?_)
  simp only [Int.toNat_natCast, hx]
  refine wpAny_bind (wpAny_rule (wpAny_bind (wpAny_setField ho hd (by simp) ?_)))
  show wpAny _ _ (newExc (.type "StopIteration") [] >>= _) _ _ _
  refine wpAny_bind ?_
  simp only [newExc, newTuple]
  refine wpAny_bind (wpAny_newObj_type ?_ (by size_fits))
  refine wpAny_bind (m := firstArgMember _ _) (wpAny_of_eq (a := Value.none) (by first | rfl | (simp only [firstArgMember]; rfl)) ?_)
  refine wpAny_newObj_type ?_ (by size_fits)
  refine raise2 hot' (fun b o e => ⟨Nat.ne_of_lt (Heap.lt_size (Heap.get?_push_of_some _ e)), Heap.get?_push_of_some _ (Heap.get?_push_of_some _ e)⟩) (Heap.get?_push_size _ rfl) rfl (by first | (simp; done) | (simp; omega) | (simp only [Array.size_append]; simp; omega)) ?_
  refine wpAny_bind (wpAny_isInstance (T := "StopIteration") (b := true) ⟨_, Heap.get?_update_self _ (Heap.get?_push_size _ rfl) rfl, rfl⟩ isSubtype_stop ?_)
  refine wpAny_pure (hQ _ fun b o' hb e => ?_)
  have e2 := keep b o' hb e
  rw [Heap.get?_update_other _ _ (Nat.ne_of_gt (Heap.lt_size (Heap.get?_push_of_some _ e2)))]
  exact Heap.get?_push_of_some _ (Heap.get?_push_of_some _ e2)
/-- .. a range's -/
theorem range_end2 {it x1 : Addr} {x left step : Int} {Q : Option Value → Shared → Prop} (hot : At2 A x1 s.heap) (hit : IsRangeIter s.heap it x left step) (hl : left ≤ 0)
    (hQ : ∀ h', (∀ b o, s.heap.get? b = some o → h'.get? b = some o) → Q none { s with heap := h' }) : wpAny (model prog w) A (pyNext (.ref it)) Q E s := by
  have hT : s.TypeIs (.ref it) "range_iterator" := ⟨_, hit, rfl⟩
  unfold pyNext
  refine wpAny_bind (wpAny_attempt (wpAny_callSpecial?_slot (name := Str.ofString "__next__") hT F.slot_range_iterator_next (wpAny_call_entry F.slot_range_iterator_next hT F.entry_range_iterator_next ?_ (F.args_range_iterator_next_1 _))))
  show wpAny _ _ (field (.ref it) 0 >>= _) _ _ s
  refine wpAny_bind (wpAny_field hit rfl (x := rawInt x) rfl ?_)
  show wpAny _ _ (field (.ref it) 1 >>= _) _ _ s
  refine wpAny_bind (wpAny_field hit rfl (x := rawInt left) rfl ?_)
  show wpAny _ _ (field (.ref it) 2 >>= _) _ _ s
  refine wpAny_bind (wpAny_field hit rfl (x := rawInt step) rfl ?_)
  show wpAny _ _ (if left ≤ 0 then _ else _) _ _ s
  rw [if_pos hl]
  refine wpAny_bind (wpAny_rule ?_)
  refine wpAny_bind ?_
  show wpAny _ _ (newExc (.type "StopIteration") [] >>= _) _ _ _
  refine wpAny_bind ?_
  simp only [newExc, newTuple]
  refine wpAny_bind (wpAny_newObj_type ?_ (by size_fits))
  refine wpAny_bind (m := firstArgMember _ _) (wpAny_of_eq (a := Value.none) (by first | rfl | (simp only [firstArgMember]; rfl)) ?_)
  refine wpAny_newObj_type ?_ (by size_fits)
  refine raise2 hot (fun b o e => ⟨Nat.ne_of_lt (Heap.lt_size (Heap.get?_push_of_some _ e)), Heap.get?_push_of_some _ (Heap.get?_push_of_some _ e)⟩) (Heap.get?_push_size _ rfl) rfl (by first | (simp; done) | (simp; omega) | (simp only [Array.size_append]; simp; omega)) ?_
  refine wpAny_bind (wpAny_isInstance (T := "StopIteration") (b := true) ⟨_, Heap.get?_update_self _ (Heap.get?_push_size _ rfl) rfl, rfl⟩ isSubtype_stop ?_)
  refine wpAny_pure (hQ _ fun b o e => ?_)
  rw [Heap.get?_update_other _ _ (Nat.ne_of_gt (Heap.lt_size (Heap.get?_push_of_some _ e)))]
  exact Heap.get?_push_of_some _ (Heap.get?_push_of_some _ e)
end
/-- it stands: pinned, or older than the entry -/
def Stands (X : Cx) (q : Addr × Obj) : Prop := q ∈ X.pn ∨ (X.s_0.heap.get? q.1 = some q.2 ∧ X.H_0 q.1 = none ∧ q.1 ∉ X.fs ∧ q.1 ∉ X.ex)
def HotY (X : Cx) : Prop := ∃ (p : Addr × Obj) (L : List (Addr × Obj)), Hot2 X.A p L ∧ ∀ q ∈ p :: L, Stands X q
def CoH (X : Cx) : Prop := X.calm = true ∨ HotY X
section
variable {X : Cx} {pins : List (Addr × Obj)} {σ : Bk.St} {H : Hp} {s : Shared}
theorem Stands.pin (I : Inv X pins σ H s) {p : Addr × Obj} (h : Stands X p) : s.heap.get? p.1 = some p.2 ∧ H p.1 = none := by
  rcases h with h | ⟨a, b, c, d⟩
  · have z := I.pin p (List.mem_append_left _ h)
    exact ⟨z.1, z.2.1⟩
  · exact ⟨I.base.keep _ _ a b c d, I.base.free _ _ a b d⟩
theorem HotY.at (c : HotY X) (I : Inv X pins σ H s) : ∃ x1, At2 X.A x1 s.heap := by
  obtain ⟨p, L, h, hp⟩ := c
  exact ⟨p.1, h.at fun q hq => ((hp q hq).pin I).1⟩
theorem HotY.of (c : HotC X) : HotY X := let ⟨p, h, k⟩ := c; ⟨p, [], .one h, fun q hq => by rw [List.mem_singleton.mp hq]; exact .inl k⟩
/-- .. so in a comprehension's block -/
theorem Stands.blk {p : Addr × Obj} {scope : Scope} {ce : Env} {fp : List Addr} (hp : Stands X p) (I : Inv X pins σ H s) (hf : ∀ b ∈ fp, FpOk X pins H b) : Stands (X.blk s H scope ce fp) p := by
  have z := hp.pin I
  refine .inr ⟨z.1, z.2, fun q => ?_, fun q => ?_⟩
  · have q' : p.1 ∈ X.env.locals :: X.fs := I.stkSub p.1 q
    rcases hp with hp | ⟨a, b, c, d⟩
    · have w := I.pin p (List.mem_append_left _ hp)
      exact (List.mem_cons.mp q').elim w.2.2.1 w.2.2.2.1
    · exact (List.mem_cons.mp q').elim (fun e => Nat.ne_of_lt (Nat.lt_of_lt_of_le (Heap.lt_size a) I.ok.above) e) c
  · obtain ⟨_, _, _, f3, _, f5⟩ := hf p.1 q
    rcases hp with hp | ⟨a, b, c, d⟩
    · exact f5 p (List.mem_append_left _ hp) rfl
    · rcases f3 with f3 | f3
      · exact d f3
      · exact absurd (Nat.lt_of_lt_of_le (Heap.lt_size a) f3) (Nat.lt_irrefl _)
theorem HotY.blk {scope : Scope} {ce : Env} {fp : List Addr} (c : HotY X) (I : Inv X pins σ H s) (hf : ∀ b ∈ fp, FpOk X pins H b) : HotY (X.blk s H scope ce fp) := by
  obtain ⟨p, L, h, hp⟩ := c
  exact ⟨p, L, h, fun q hq => (hp q hq).blk I hf⟩
theorem CoH.blk {scope : Scope} {ce : Env} {fp : List Addr} (c : CoH X) (I : Inv X pins σ H s) (hf : ∀ b ∈ fp, FpOk X pins H b) : CoH (X.blk s H scope ce fp) :=
  c.elim (fun h => .inl h) fun h => .inr (h.blk I hf)
end

/-! ### what is walked, calm or hot -/
structure TurnY (P : Program) (w : World) (K : PySem.W.Frag) (tg : Expr) (J : It) (fp : List Addr) (it : Addr) (tn : Nat → Heap → Prop) : Prop where
  mem : it ∈ fp
  obj : ∀ i h, tn i h → ∀ b ∈ fp, ∃ o, h.get? b = some o ∧ ∀ v, o.data ≠ .cell v
  keep : ∀ i h h', tn i h → (∀ b ∈ fp, ∀ o, h.get? b = some o → h'.get? b = some o) → tn i h'
  item : ∀ (X : Cx), X.prog = P → X.w = w → X.K = K → CoH X → ∀ (i : Nat) (pins : List (Addr × Obj)) (s : Shared) (σ : Bk.St) (H : Hp) (E : Value → Shared → Prop), Inv X pins σ H s → (∀ b ∈ fp, FpOk X pins H b) → tn i s.heap → J.go i H →
    wpAny (model P w) X.A (pyNext (.ref it)) (fun r s1 => ∃ u, r = some u ∧ wpAny (model P w) X.A (letOwnedTupleGo tg (.ref it) u) (fun _ s2 => ∃ x H', Inv X pins σ H' s2 ∧ RelV x u ∧ J.yld i H x H' ∧ tn (i + 1) s2.heap ∧ ∀ b ∈ fp, H' b = none) E s1) E s
  done : ∀ (X : Cx), X.prog = P → X.w = w → X.K = K → CoH X → ∀ (i : Nat) (pins : List (Addr × Obj)) (s : Shared) (σ : Bk.St) (H : Hp) (E : Value → Shared → Prop), Inv X pins σ H s → (∀ b ∈ fp, FpOk X pins H b) → tn i s.heap → J.stop i H →
    wpAny (model P w) X.A (pyNext (.ref it)) (fun r s1 => r = none ∧ Inv X pins σ H s1) E s
  self : ∀ (A : Around) (i : Nat) (s : Shared) (Q : Value → Shared → Prop) (E : Value → Shared → Prop), tn i s.heap → Q (.ref it) s → wpAny (model P w) A (pyIter (.ref it)) Q E s
theorem turnY_list {P : Program} {w : World} {K : PySem.W.Frag} {tg : Expr} (a it : Addr) : TurnY P w K tg (Itl K a) [it] it (fun i h => h.IsListIter it a i) where
  mem := by simp
  obj := (turn_list (P := P) (w := w) (K := K) (tg := tg) a it).obj
  keep := (turn_list (P := P) (w := w) (K := K) (tg := tg) a it).keep
  self := (turn_list (P := P) (w := w) (K := K) (tg := tg) a it).self
  item := by
    rintro X rfl rfl rfl hc i pins s σ H E I hf st ⟨xs, x, hq, hx⟩
    obtain ⟨its, rv, p, hz⟩ := I.list hq
    obtain ⟨u, hu, ru⟩ := rv.get hx
    obtain ⟨f0, f1, f2, f3, f4, f5⟩ := hf it (by simp)
    refine wpAny_pyNext_list_item st p.isList (x := u) (by simpa using hu) fun h' st' sb => ⟨u, rfl, ?_⟩
    have I1 : Inv X pins σ H { s with heap := h' } := I.turned (t' := s.toks) (fun b o hb e => (sb.2 b hb).trans e) f0 f1 f3 f4 f5
    obtain ⟨o, e, c, d⟩ := id st'
    exact go_of (s := { s with heap := h' }) e c d (by decide) ⟨x, H, I1, ru, ⟨rfl, fun ys hy => by rw [I.list_inj hy hq]; exact hx⟩, st', fun b hb => (hf b hb).1⟩
  done := by
    rintro X rfl rfl rfl hc i pins s σ H E I hf st ⟨xs, hq, hx⟩
    rcases hc with hc | hc
    · exact (turn_list (tg := tg) a it).done X rfl rfl rfl hc i pins s σ H E I hf st ⟨xs, hq, hx⟩
    · obtain ⟨its, rv, p, hz⟩ := I.list hq
      obtain ⟨f0, f1, f2, f3, f4, f5⟩ := hf it (by simp)
      obtain ⟨x1, hot⟩ := hc.at I
      have hl := rv.length
      exact list_end_hot hot st p.isList (by simp; omega) fun h' eb => ⟨rfl, I.turned (t' := s.toks) eb f0 f1 f3 f4 f5⟩
theorem turnY_range {P : Program} {w : World} {K : PySem.W.Frag} {tg : Expr} (it : Addr) (lo : Int) (n : Nat) : TurnY P w K tg (Itr lo n) [it] it (fun i h => IsRangeIter h it (lo + (i : Nat) * 1) ((n : Int) - (i : Nat)) 1) where
  mem := by simp
  obj := (turn_range (P := P) (w := w) (K := K) (tg := tg) it lo n).obj
  keep := (turn_range (P := P) (w := w) (K := K) (tg := tg) it lo n).keep
  self := (turn_range (P := P) (w := w) (K := K) (tg := tg) it lo n).self
  item := by
    rintro X rfl rfl rfl hc i pins s σ H E I hf st hlt
    obtain ⟨f0, f1, f2, f3, f4, f5⟩ := hf it (by simp)
    have hlt : i < n := hlt
    refine wpAny_pyNext_range_item st (by omega) fun h' st' sb => ⟨_, rfl, ?_⟩
    have st2 : IsRangeIter h' it (lo + ((i + 1 : Nat) : Int) * 1) ((n : Int) - ((i + 1 : Nat) : Int)) 1 := by
      rw [show lo + ((i + 1 : Nat) : Int) * 1 = lo + ((i : Nat) : Int) * 1 + 1 by omega, show (n : Int) - ((i + 1 : Nat) : Int) = (n : Int) - ((i : Nat) : Int) - 1 by omega]
      exact st'
    have I1 : Inv X pins σ H { s with heap := h', toks := s.toks + 1 } := I.turned (fun b o hb e => (sb.2 b hb).trans e) f0 f1 f3 f4 f5
    exact go_of (s := { s with heap := h', toks := s.toks + 1 }) (n := "range_iterator") st2 rfl rfl (by decide) ⟨.int (lo + i), H, I1, ⟨s.toks, by rw [Int.mul_one]⟩, ⟨rfl, rfl⟩, st2, fun b hb => (hf b hb).1⟩
  done := by
    rintro X rfl rfl rfl hc i pins s σ H E I hf st hg
    rcases hc with hc | hc
    · exact (turn_range (tg := tg) it lo n).done X rfl rfl rfl hc i pins s σ H E I hf st hg
    · obtain ⟨f0, f1, f2, f3, f4, f5⟩ := hf it (by simp)
      obtain ⟨x1, hot⟩ := hc.at I
      exact range_end2 hot st (by have : n ≤ i := hg; omega) fun h' eb => ⟨rfl, I.turned (t' := s.toks) (fun b o _ e => eb b o e) f0 f1 f3 f4 f5⟩
/-- an iterator has come -/
def PIEY (X : Cx) (pins : List (Addr × Obj)) (σ : Bk.St) (tg : Expr) (R : It → Hp → Prop) (itv : Value) (s2 : Shared) : Prop :=
  ∃ (it : Addr) (fp : List Addr) (tn : Nat → Heap → Prop) (J : It) (H' : Hp), itv = .ref it ∧ Inv X pins σ H' s2 ∧ TurnY X.prog X.w X.K tg J fp it tn ∧ tn 0 s2.heap ∧ (∀ b ∈ fp, FpOk X pins H' b) ∧ R J H'
structure PIY (X : Cx) (tg iter : Expr) (wi : TI) : Prop where
  run : ∀ (pins : List (Addr × Obj)) (s : Shared) (σ : Bk.St) (H : Hp) (R : It → Hp → Prop), Inv X pins σ H s → wi σ H R → wpAny (model X.prog X.w) X.A (eval iter X.env) (fun v s1 => wpAny (model X.prog X.w) X.A (pyIter v) (PIEY X pins σ tg R) X.xe s1) X.xe s
section
variable {X : Cx} {tg : Expr}
theorem piy_one {pins : List (Addr × Obj)} {σ : Bk.St} {H : Hp} {s : Shared} {R : It → Hp → Prop} {J : It} {tn : Nat → Heap → Prop} {tk : Nat} (I : Inv X pins σ H s) (o : Obj) (T : TurnY X.prog X.w X.K tg J [s.heap.objs.size] s.heap.objs.size tn)
    (t0 : tn 0 (s.heap.push o)) (q : R J H) : PIEY X pins σ tg R (.ref s.heap.objs.size) { s with heap := s.heap.push o, toks := tk } := by
  refine ⟨_, _, tn, J, H, rfl, I.kept (t' := tk) fun b ob e => Heap.get?_push_of_some _ e, T, t0, fun b hb => ?_, q⟩
  rw [show b = s.heap.objs.size by simpa using hb]
  have e : (s.heap.push o).objs.size = s.heap.objs.size + 1 := Heap.size_push _ _
  exact I.fpOk (Nat.le_refl _) (I.hok.fresh (Nat.le_refl _))
def iListY (K : PySem.W.Frag) (tl : TE) : TI := fun σ H R => tl σ H fun x H1 => ∃ a, x = .ref a ∧ ∃ xs, SqL K H1 a xs ∧ R (Itl K a) H1
theorem piy_list {l : Expr} {tl : TE} (hl : PE X l tl) : PIY X tg l (iListY X.K tl) := by
  refine ⟨fun pins s σ H R I h => thn (hl.run pins s σ H _ I h) ?_⟩
  rintro v s1 ⟨x, H1, I1, r1, a, rfl, xs, hq, q⟩
  cases r1
  obtain ⟨its, rv, p, hz⟩ := I1.list hq
  exact wpAny_pyIter_list p.isList (piy_one (tk := s1.toks) I1 _ (turnY_list a _) ⟨_, Heap.get?_push_size _ rfl, rfl, rfl⟩ q)
end
end Bk

namespace Bk
open PySem L2 PyProof.Rows L2H HotX
section
variable {X : Cx} {tg : Expr}
theorem rangeY {pins : List (Addr × Obj)} {σ : Bk.St} {H : Hp} {s : Shared} {R : It → Hp → Prop} {E : Value → Shared → Prop} {lo hi : Int} {t u v : Tok} {tk : Nat} (I : Inv X pins σ H s) (hb : -(2 ^ 62) ≤ lo ∧ lo < 2 ^ 62 ∧ -(2 ^ 62) ≤ hi ∧ hi < 2 ^ 62)
    (q : R (Itr lo (hi - lo).toNat) H) : wpAny (model X.prog X.w) X.A (pyIter (.ref s.heap.objs.size)) (PIEY X pins σ tg R) E { s with heap := s.heap.push { cls := .type "range", data := .fields #[.int lo t, .int hi u, .int 1 v] }, toks := tk } := by
  refine wpAny_pyIter_range (IsRange.new ..) (small_one hb.1 hb.2.1 hb.2.2.1 hb.2.2.2) ?_
  have I1 : Inv X pins σ H { s with heap := s.heap.push { cls := .type "range", data := .fields #[.int lo t, .int hi u, .int 1 v] }, toks := tk } := I.kept fun b o e => Heap.get?_push_of_some _ e
  refine piy_one (tk := tk) I1 _ (turnY_range _ lo (hi - lo).toNat) ?_ q
  have e1 : lo + ((0 : Nat) : Int) * 1 = lo := by simp
  have e2 : (((hi - lo).toNat : Nat) : Int) - ((0 : Nat) : Int) = Builtin.Range.rangeSize lo hi 1 := by rw [rangeSize_one]; split <;> omega
  show IsRangeIter _ _ (lo + ((0 : Nat) : Int) * 1) ((((hi - lo).toNat : Nat) : Int) - ((0 : Nat) : Int)) 1
  rw [e1, e2]
  exact Heap.get?_push_size _ rfl
theorem piy_range1 {a : Expr} {ta : TA} {p pos : Pos} (hg : Gl X "range") (hm : X.mg "range" = none) (ha : PA X [a] ta) (hs : starEach [a] X.env = [(false, eval a X.env)] := by rfl) : PIY X tg (.Call (.Name "range" p) [a] [] pos) (iRng1 ta) := by
  refine ⟨fun pins s σ H R I h => Call_ (ld_blt I hg hm boot_range (callWith_type1 (thn (ha.run pos pins s σ H _ I h) ?_) hs rfl))⟩
  rintro us s1 ⟨vs, H1, I1, r1, j, rfl, q1, q2, q⟩
  obtain ⟨u, rfl, t, rfl⟩ := Vals.one r1
  exact call_range_1 (rangeY I1 ⟨by omega, by omega, q1, q2⟩ (by simpa using q))
end
theorem ps_forY {X : Cx} {tg iter : Expr} {body : List Stmt} {wi : TI} {g : TG} {tb : TS} {pos : Pos} (hp : PassesOwn (model X.prog X.w) X.A X.env X.xe) (hc : CoH X) (hi : PIY X tg iter wi) (hg : PG X tg g) (hb : PSs X body tb)
    (hs : ∀ x, foldedSetIterable iter X.env x = pure x := by intro _; rfl) : PS X (.For tg iter body [] pos) (tFor wi g tb) := by
  refine ⟨fun pins s σ H D I h => wpAny_For (thn (hi.run pins s σ H _ I h) fun v s1 h1 => thn h1 ?_) hs⟩
  rintro itv s2 ⟨it, fp, tn, J, H2, rfl, I2, T, st2, f2, W, ⟨m0, w0⟩, turn⟩
  have stat : ∀ {H' : Hp}, (∀ b ∈ fp, H' b = none) → ∀ b ∈ fp, FpOk X pins H' b := fun hn b hb => ⟨hn b hb, (f2 b hb).2⟩
  refine codeAny_forLoop_any (fun n s' => ∃ i σ' H', Inv X pins σ' H' s' ∧ tn i s'.heap ∧ (∀ b ∈ fp, H' b = none) ∧ W i n σ' H') ?_ m0 ⟨0, σ, H2, I2, st2, fun b hb => (f2 b hb).1, w0⟩
  rintro n s3 ⟨i, σ3, H3, I3, st3, fr3, w3⟩
  rcases turn i n σ3 H3 w3 with ⟨stop, qn⟩ | ⟨go, N, hN, step⟩
  · refine wpAny_passesOwn hp (thn (T.done X rfl rfl rfl hc i pins s3 σ3 H3 X.xe I3 (stat fr3) st3 stop) ?_)
    rintro r s4 ⟨rfl, I4⟩
    exact wpAny_execs_nil ⟨σ3, H3, I4, qn⟩
  · refine wpAny_passesOwn hp (thn (T.item X rfl rfl rfl hc i pins s3 σ3 H3 X.xe I3 (stat fr3) st3 go) ?_)
    rintro r s4 ⟨u, rfl, h4⟩
    refine wpAny_passesOwn hp (thn h4 ?_)
    rintro _ s5 ⟨x, H5, I5, r5, y5, st5, fr5⟩
    refine wpAny_passesOwn hp (thn (hg.run _ s5 σ3 H5 x u _ (I5.pinned (stat fr5) (T.obj _ _ st5)) r5 (step x H5 y5)) ?_)
    rintro _ s6 ⟨σ6, H6, I6, q6⟩
    refine wpAny_passesOwn hp (thn (hb.run _ s6 σ6 H6 _ I6 q6) fun f s7 q7 => ?_)
    have again : ∀ {σ7 : Bk.St} {H7 : Hp}, Inv X (pins ++ pinsAt fp s5.heap) σ7 H7 s7 → N σ7 H7 → ∃ m, m < n ∧ ∃ i σ' H', Inv X pins σ' H' s7 ∧ tn i s7.heap ∧ (∀ b ∈ fp, H' b = none) ∧ W i m σ' H' := fun {σ7 H7} I7 n7 => by
      obtain ⟨m', hm, w7⟩ := hN σ7 H7 n7
      have pin : ∀ b ∈ fp, ∀ o, s5.heap.get? b = some o → s7.heap.get? b = some o ∧ H7 b = none := fun b hb o e => let z := I7.pin (b, o) (List.mem_append_right _ (List.mem_append_right _ (mem_pinsAt hb e))); ⟨z.1, z.2.1⟩
      refine ⟨m', hm, i + 1, σ7, H7, I7.unpinned, T.keep _ _ _ st5 fun b hb o e => (pin b hb o e).1, fun b hb => ?_, w7⟩
      obtain ⟨o, e, d⟩ := T.obj _ _ st5 b hb
      exact (pin b hb o e).2
    cases f with
    | next => exact let ⟨σ7, H7, I7, n7⟩ := q7; again I7 n7
    | cont => exact let ⟨σ7, H7, I7, n7⟩ := q7; again I7 n7
    | brk => exact let ⟨σ7, H7, I7, q⟩ := q7; ⟨σ7, H7, I7.unpinned, q⟩
    | ret v => exact let ⟨x7, σ7, H7, I7, r7, q⟩ := q7; ⟨x7, σ7, H7, I7.unpinned, r7, q⟩
/-- a comprehension, calm or hot -/
theorem lcY {X : Cx} {pins : List (Addr × Obj)} {s : Shared} {σ : Bk.St} {H : Hp} {Q : VK} {elt tg iter : Expr} {ifs : List Expr} {scope : Scope} {own : List (Str × Nat)} {pos pos' : Pos} {wi : TI} {g : TG} {tt : TT} {te : TE} {use : Option (Value → Sem Unit)} {Qf : Value → Shared → Prop}
    (hc : CoH X) (hN : X.N.Nodup) (I : Inv X pins σ H s) (hi : PIY X tg iter wi) (ok : BlkOk X.N X.env.scope scope own)
    (hg : ∀ (s : Shared) (H : Hp) (C : Addr) (cl : List (Str × Addr)) (fp : List Addr), PG (X.blk s H scope (compEnvC scope cl C X.env) fp) tg g) (ht : ∀ (s : Shared) (H : Hp) (C : Addr) (cl : List (Str × Addr)) (fp : List Addr), PTs (X.blk s H scope (compEnvC scope cl C X.env) fp) ifs tt)
    (he : ∀ (s : Shared) (H : Hp) (C : Addr) (cl : List (Str × Addr)) (fp : List Addr), PE (X.blk s H scope (compEnvC scope cl C X.env) fp) elt te) (hs : ∀ x, foldedSetIterable iter X.env x = pure x) (h : tLc wi g tt te (own.map (·.2)) σ H Q)
    (hRR : ∀ D C s' m H', Inv X pins σ H' s' → Q (.ref D) H' → s'.heap.Ns C m → FpOk X pins H' C → compPost (model X.prog X.w) X.A X.xe use Qf (.ref D) C (.ok .next) s') :
    wpAny (model X.prog X.w) X.A (comprehension (.ListComp elt [⟨tg, iter, ifs, 0⟩] scope pos) scope X.env pos' (newList []) false (eval iter X.env) use) Qf X.xe s := by
  have hfree : ∀ y ∈ scope.names, y.2 = .free → ∃ c, X.env.cells.lookup y.1 = some c := fun y hy e => I.ok.has _ (ok.free y hy e)
  refine wpAny_comprehension_free (use := use) rfl hs (closure_ok hfree) ok.kind (fun y hy e => by rw [ok.uniq y hy, e]) (thn (hi.run pins s σ H _ I h) fun xv s1 hx => thn hx ?_)
  rintro itv s2 ⟨it, fp, tn, J, H2, rfl, I2, T, st2, f2, q⟩
  refine wpAny_newObj_type (newEnv_comp ?_) (by show 0 ≤ sizeLine; decide)
  generalize hD : s2.heap.objs.size = D
  have hDn : H2 D = none := I2.hok.fresh (Nat.le_of_eq hD)
  obtain ⟨W, ⟨m0, w0⟩, turn⟩ := q D hDn
  generalize hs3 : ({ s2 with heap := s2.heap.push { cls := .type "list", data := .seq ([] : List Value).toArray } } : Shared) = s3
  have h3 : s3.heap = s2.heap.push { cls := .type "list", data := .seq ([] : List Value).toArray } := by rw [← hs3]
  have I3 : Inv X pins σ (upd H2 D (.lst [])) s3 := by
    subst hs3 hD
    exact I2.laid (t' := s2.toks) (fun b o e => Heap.get?_push_of_some _ e) (Nat.le_refl _) ⟨Nat.zero_le _, [], 0, .nil, Heap.get?_push_size _ rfl⟩
  have f3 : ∀ b ∈ fp, FpOk X pins (upd H2 D (.lst [])) b ∧ b < s3.heap.objs.size := fun b hb => by
    obtain ⟨o, e, _⟩ := T.obj _ _ st2 b hb
    have hlt := Heap.lt_size e
    refine ⟨⟨?_, (f2 b hb).2⟩, by rw [h3, Heap.size_push]; exact Nat.lt_succ_of_lt hlt⟩
    rw [upd_ne (by rw [← hD]; exact Nat.ne_of_lt hlt)]
    exact (f2 b hb).1
  have st3 : tn 0 s3.heap := T.keep _ _ _ st2 fun b _ o e => by rw [h3]; exact Heap.get?_push_of_some _ e
  have I4 := block_start I3 ok hN f3
  have cl := fun {ce : Env} => hc.blk (scope := scope) (ce := ce) I3 fun b hb => (f3 b hb).1
  have pg := hg s3 (upd H2 D (.lst [])) s3.heap.objs.size (cellsFrom (s3.heap.objs.size + 1) scope.names (cloFrom X.env.cells scope.names [])) fp
  have pt := ht s3 (upd H2 D (.lst [])) s3.heap.objs.size (cellsFrom (s3.heap.objs.size + 1) scope.names (cloFrom X.env.cells scope.names [])) fp
  have pe := he s3 (upd H2 D (.lst [])) s3.heap.objs.size (cellsFrom (s3.heap.objs.size + 1) scope.names (cloFrom X.env.cells scope.names [])) fp
  show codeAny _ _ (.compStart (.ListComp elt [⟨tg, iter, ifs, 0⟩] scope pos) 0 (.ref it) (.ref D) (compEnvC scope (cellsFrom (s3.heap.objs.size + 1) scope.names (cloFrom X.env.cells scope.names [])) s3.heap.objs.size X.env)) (compPost (model X.prog X.w) X.A X.xe use Qf (.ref D) s3.heap.objs.size) { s3 with heap := pushCells (s3.heap.push { cls := .type "dict", data := .dict #[] }) scope.names }
  have nfp : ∀ b ∈ fp, (upd H2 D (.lst [])) b = none := fun b hb => (f3 b hb).1.1
  generalize hce : compEnvC scope (cellsFrom (s3.heap.objs.size + 1) scope.names (cloFrom X.env.cells scope.names [])) s3.heap.objs.size X.env = ce at I4 pg pt pe ⊢
  have cL : ce.locals = s3.heap.objs.size := by subst hce; rfl
  have cl := cl (ce := ce)
  generalize hH3 : upd H2 D (.lst []) = H3 at I3 I4 pg pt pe w0 nfp f3 cl
  generalize hs4 : ({ s3 with heap := pushCells (s3.heap.push { cls := .type "dict", data := .dict #[] }) scope.names } : Shared) = s4 at I4 ⊢
  have st4 : tn 0 s4.heap := T.keep _ _ _ st3 fun b _ o e => by rw [← hs4]; exact pushCells_keeps _ _ _ _ (Heap.get?_push_of_some _ e)
  have stat : ∀ {σ' : Bk.St} {H' : Hp} {s' : Shared}, Inv (X.blk s3 H3 scope ce fp) [] σ' H' s' → (∀ b ∈ fp, H' b = none) → ∀ b ∈ fp, FpOk (X.blk s3 H3 scope ce fp) [] H' b := fun {σ' H' s'} I' hn b hb =>
    ⟨hn b hb, (I'.ok.exf b hb).1, I'.ok.exfs b hb, .inl hb, fun x c e => (I'.ok.exf b hb).2 x c e, fun p hp => by cases (show p ∈ ([] : List (Addr × Obj)) from hp)⟩
  refine (fun loop => codeAny_compStart_list loop (T.self X.A 0 _ _ _ st4 loop)) ?_
  refine compLoop_any (fun n s' => ∃ i H', Inv (X.blk s3 H3 scope ce fp) [] (wipe σ (own.map (·.2))) H' s' ∧ tn i s'.heap ∧ (∀ b ∈ fp, H' b = none) ∧ W i n H') ?_ m0 ⟨0, H3, I4, st4, nfp, w0⟩
  rintro n s5 ⟨i, H5, I5, st5, n5, w5⟩
  rcases turn i n H5 w5 with ⟨stop, qq⟩ | ⟨go, Nx, hNx, step⟩
  · refine thnF (T.done (X.blk s3 H3 scope ce fp) rfl rfl rfl cl i [] s5 _ H5 (fun _ _ => False) I5 (stat I5 n5) st5 stop) ?_
    rintro r s6 ⟨rfl, I6⟩
    have I7 : Inv X pins σ H5 s6 := I3.call' (ch := fp) I6.os I6.base I6.hok I6.bare fun b hb => let z := (f3 b hb).1; ⟨z.2.2.2.1, z.2.1, z.2.2.2.2.1, z.2.2.2.2.2⟩
    have nC : H5 s3.heap.objs.size = none := by rw [← cL]; exact I6.free
    obtain ⟨m, hn, _⟩ := I6.loc
    exact hRR D s3.heap.objs.size s6 m H5 I7 qq (by rw [← cL]; exact hn) (I3.fpOk (Nat.le_refl _) nC)
  · refine thnF (T.item (X.blk s3 H3 scope ce fp) rfl rfl rfl cl i [] s5 _ H5 (fun _ _ => False) I5 (stat I5 n5) st5 go) ?_
    rintro r s6 ⟨u, rfl, h6⟩
    refine thnF h6 ?_
    rintro _ s7 ⟨x, H7, I7, r7, y7, st7, n7⟩
    refine thnF (pg.run _ s7 _ H7 x u _ (I7.pinned (stat I7 n7) (T.obj _ _ st7)) r7 (step x H7 y7)) ?_
    rintro _ s8 ⟨σ8, H8, I8, hw8, q8⟩
    refine thnF (pt.run _ s8 σ8 H8 _ I8 q8) ?_
    rintro b s9 ⟨H9, I9, q9⟩
    have fin : ∀ {s' : Shared} {H' : Hp}, Inv (X.blk s3 H3 scope ce fp) ([] ++ pinsAt fp s7.heap) σ8 H' s' → Nx H' → ∃ m, m < n ∧ ∃ i H', Inv (X.blk s3 H3 scope ce fp) [] (wipe σ (own.map (·.2))) H' s' ∧ tn i s'.heap ∧ (∀ b ∈ fp, H' b = none) ∧ W i m H' := fun {s' H'} I' nx => by
      obtain ⟨m', hm, w'⟩ := hNx H' nx
      have pin : ∀ b ∈ fp, ∀ o, s7.heap.get? b = some o → s'.heap.get? b = some o ∧ H' b = none := fun b hb o e => let z := I'.pin (b, o) (List.mem_append_right _ (List.mem_append_right _ (mem_pinsAt hb e))); ⟨z.1, z.2.1⟩
      have hl : (wipe σ (own.map (·.2))).length = σ8.length := by rw [← hw8, wipe_length]
      refine ⟨m', hm, i + 1, H', (I'.unpinned (pins := [])).weak hl (fun j v e => ?_), T.keep _ _ _ st7 fun b hb o e => (pin b hb o e).1, fun b hb => ?_, w'⟩
      · rw [← hw8] at e
        exact (wipe_some e).1
      · obtain ⟨o, e, _⟩ := T.obj _ _ st7 b hb
        exact (pin b hb o e).2
    cases b with
    | false =>
      simp only [Bool.false_eq_true, if_false] at q9 ⊢
      exact fin I9 q9
    | true =>
      simp only [if_true] at q9 ⊢
      refine thnF (pe.run _ s9 σ8 H9 _ I9 q9) ?_
      rintro z s10 ⟨yv, H10, I10, r10, acc, hD10, hz10, nx⟩
      exact app_ok (X := X.blk s3 H3 scope ce fp) I10 hD10 hz10 r10 fun s11 I11 => fin I11 nx
theorem pe_lcY {X : Cx} {elt tg iter : Expr} {ifs : List Expr} {scope : Scope} {own : List (Str × Nat)} {pos : Pos} {wi : TI} {g : TG} {tt : TT} {te : TE} (hc : CoH X) (hN : X.N.Nodup) (hi : PIY X tg iter wi) (ok : BlkOk X.N X.env.scope scope own)
    (hg : ∀ (s : Shared) (H : Hp) (C : Addr) (cl : List (Str × Addr)) (fp : List Addr), PG (X.blk s H scope (compEnvC scope cl C X.env) fp) tg g) (ht : ∀ (s : Shared) (H : Hp) (C : Addr) (cl : List (Str × Addr)) (fp : List Addr), PTs (X.blk s H scope (compEnvC scope cl C X.env) fp) ifs tt)
    (he : ∀ (s : Shared) (H : Hp) (C : Addr) (cl : List (Str × Addr)) (fp : List Addr), PE (X.blk s H scope (compEnvC scope cl C X.env) fp) elt te) (hs : ∀ x, foldedSetIterable iter X.env x = pure x := by intro _; rfl) :
    PE X (.ListComp elt [⟨tg, iter, ifs, 0⟩] scope pos) (tLc wi g tt te (own.map (·.2))) := by
  refine ⟨fun pins s σ H Q I h => ?_⟩
  rw [eval_ListComp]
  refine lcY hc hN I hi ok hg ht he hs h fun D C s' m H' I' q hn f => ⟨m, hn, fun h'' sb => ?_⟩
  obtain ⟨f0, f1, f2, f3, f4, f5⟩ := f
  exact ⟨.ref D, H', I'.turned (t' := s'.toks) (fun b o hb e => (sb.2 b hb).trans e) f0 f1 f3 f4 f5, rfl, q⟩
end Bk

/-! our own: defs called while a known exception is in hand; try suites; facts of classes by instances -/
namespace Bk
open PySem L2 PyProof.Rows L2H HotX

/-! ### facts of the text, by instances -/
class ClsF (K : PySem.W.Frag) (C : Addr) : Prop where h : Cls K C
class NoAF (K : PySem.W.Frag) (C : Addr) (f : Str) : Prop where h : NoAttr K C f
class ExcF (K : PySem.W.Frag) (D : Addr) : Prop where h : ExcC K D
class KitF (K : PySem.W.Frag) (D c : Value) (b : outParam Bool) : Prop where h : PySem.W.kitOne K D c = some b
class ExmF (K : PySem.W.Frag) (D c : Value) (b : outParam Bool) : Prop where h : PySem.W.exmOne K D c = some b

section
variable {K : PySem.W.Frag} {C D : Addr} {b : Bool}
theorem kitCls_of (h2 : PySem.W.isClsIn K C = true) (h3 : PySem.W.typeIn K (.ref C) = some (.type "type")) (h4 : PySem.W.subIn K (.ref D) (.ref C) = some b) : PySem.W.kitCls K (.ref D) (.ref C) = some b := by
  have e2 : ((PySem.W.clsIn K C).isSome && PySem.W.typeIn K (.ref C) == some (.type "type")) = true := by
    have z : (PySem.W.clsIn K C).isSome = true := h2
    rw [z, h3] <;> rfl
  unfold PySem.W.kitCls
  dsimp only
  rw [if_pos e2]
  exact h4
theorem kit_of_own (h2 : PySem.W.isClsIn K C = true) (h3 : PySem.W.typeIn K (.ref C) = some (.type "type")) (h4 : PySem.W.subIn K (.ref D) (.ref C) = some b) (h5 : PySem.W.subIn K (.ref C) (.ref C) = some true) : PySem.W.kitOne K (.ref D) (.ref C) = some b := by
  unfold PySem.W.kitOne
  by_cases e : (Value.ref D == Value.ref C) = true
  · have e1 : D = C := Value.ref.inj (beq_iff_eq.mp e)
    subst e1
    rw [if_pos e, ← h5, h4]
  · rw [if_neg e]
    exact kitCls_of h2 h3 h4
theorem kit_of_VE (h : PySem.W.subIn K (.ref D) (.type "ValueError") = some b) : PySem.W.kitOne K (.ref D) (.type "ValueError") = some b := by
  unfold PySem.W.kitOne
  rw [if_neg (by intro z; exact absurd (beq_iff_eq.mp z) (fun e => nomatch e))]
  unfold PySem.W.kitCls
  dsimp only
  rw [if_pos (by decide +kernel)]
  exact h
theorem exm_of_own (h1 : PySem.W.subIn K (.ref C) (.type "BaseException") = some true) (h2 : PySem.W.isClsIn K C = true) (h3 : PySem.W.typeIn K (.ref C) = some (.type "type")) (h4 : PySem.W.subIn K (.ref D) (.ref C) = some b) : PySem.W.exmOne K (.ref D) (.ref C) = some b := by
  have e1 : (PySem.W.subIn K (.ref C) (.type "BaseException") == some true) = true := by rw [h1] <;> rfl
  unfold PySem.W.exmOne
  rw [if_pos e1]
  exact kitCls_of h2 h3 h4
end

/-! ### a known exception in hand -/
/-- behind the exception stands one of L, or none -/
def Behind (c : Value) (L : List (Addr × Obj)) : Prop := c = .none ∨ ∃ q ∈ L, c = .ref q.1 ∧ ∃ ws : Array Value, q.2.data = .fields ws ∧ ws[2]? = some .none
structure HotP (X : Cx) (e D : Addr) : Prop where
  ex : ∃ (oe : Obj) (L : List (Addr × Obj)), Hot2 X.A (e, oe) L ∧ (∀ q ∈ (e, oe) :: L, q ∈ X.pn) ∧ Zc (.ref D) none oe
  c : ExcC X.K D
theorem HotP.hot {X : Cx} {e D : Addr} (h : HotP X e D) : HotY X := let ⟨oe, L, a, b, _⟩ := h.ex; ⟨(e, oe), L, a, fun q hq => .inl (b q hq)⟩
theorem HotP.co {X : Cx} {e D : Addr} (h : HotP X e D) : CoH X := .inr h.hot
theorem HotP.of {X : Cx} {a D : Addr} {oe : Obj} {c : Value} {L : List (Addr × Obj)} (hA : X.A.handled = some (.ref a)) (hz : C.Zx (.ref D) none c oe) (hf : ∃ vs, oe.data = .fields vs) (hb : Behind c L) (hp : ∀ q ∈ (a, oe) :: L, q ∈ X.pn) (cc : ExcC X.K D) : HotP X a D := by
  obtain ⟨vs, hv⟩ := hf
  exact ⟨⟨oe, L, ⟨hA, vs, c, hv, hz.2 vs hv, hb⟩, hp, hz.1⟩, cc⟩
theorem HotP.suite {X : Cx} {a D : Addr} {oe : Obj} {pn : List (Addr × Obj)} (hz : L2N.Zn (.ref D) none oe) (hf : ∃ vs, oe.data = .fields vs) (c : ExcC X.K D) : HotP (X.suite a ((a, oe) :: pn)) a D :=
  .of (L := []) (c := .none) rfl ⟨hz.zc, hz.2.2⟩ hf (.inl rfl) (fun q hq => by rw [List.mem_singleton.mp hq]; exact List.mem_cons_self) c
theorem roomS {k : Nat} {A : Around} {x : Option Value} (r : Room k A) : RoomH k (A.mark x) := ⟨r.dp, r.un⟩
theorem huH {A : Around} {k : Nat} (hr : RoomH k A) : A.units + 1 < cLine := by have := hr.un; omega
theorem op_eqH {X : Cx} {k : Nat} (hr : RoomH k X.A) : OpR X (compareOp .Eq) (rEqP X.K) := op_eq.or (op_eqD (by have := hr.un; omega))
theorem op_neH {X : Cx} {k : Nat} (hr : RoomH k X.A) : OpR X (compareOp .NotEq) (rNeP X.K) := op_ne.or (op_neD (by have := hr.un; omega))
/-- isinstance, also of the exception in hand -/
def rIsET (K : PySem.W.Frag) (D e : Addr) : List V → Hp → VK → Prop := fun xs H Q => ∃ (tp : Addr) (cs : List V) (us : List Value) (b : Bool), xs = [.ref e, .ref tp] ∧ H tp = some (.tup cs) ∧ Paired ClsV cs us ∧ PySem.W.kitAny K (.ref D) us = some b ∧ Q (.bl b) H
def rIsiH (K : PySem.W.Frag) (D e : Addr) : List V → Hp → VK → Prop := fun xs H Q => rIsE K D e xs H Q ∨ rIsET K D e xs H Q
theorem call_isX {X : Cx} {e D : Addr} (h : HotP X e D) : CallR X (.builtin "isinstance") (rIsiH X.K D e) := by
  obtain ⟨⟨oe, L, ⟨_, vs, _, hv, _⟩, hp, hz⟩, C⟩ := h
  have hp := hp _ List.mem_cons_self
  dsimp only at hv
  have J : ∀ {pins : List (Addr × Obj)} {σ : Bk.St} {H : Hp} {s : Shared}, Inv X pins σ H s → PySem.W.InstAt s.heap e oe D none := fun I => by
    have hget := (I.pin (e, oe) (List.mem_append_left _ hp)).1
    obtain ⟨oc, od, oda, osl⟩ := oe
    obtain ⟨h1, h2⟩ := hz
    dsimp only at h1 h2 hv
    subst h1 h2 hv
    exact ⟨hget, rfl, rfl, trivial⟩
  refine call_or ?_ ?_
  · rintro pins s σ H xs us Q I r ⟨c, cv, b, rfl, hcv, e1, q⟩
    obtain ⟨u1, u2, rfl, r1, r2⟩ := vals2 r
    cases r1
    have ec := hcv _ r2
    subst ec
    exact PySem.W.kia_one (PySem.W.handS_kitx_exc C.hg C.hk C.hs C.hd C.ha C.hn C.ht C.hm) I.kIn (J I) e1 (fun z => nomatch z) fun tk => ⟨.bl b, H, I.tok tk, rfl, q⟩
  · rintro pins s σ H xs us Q I r ⟨tp, cs, ws, b, rfl, hT, k, e1, q⟩
    obtain ⟨u1, u2, rfl, r1, r2⟩ := vals2 r
    cases r1
    cases (show u2 = Value.ref tp from r2)
    obtain ⟨_, its, rv, o, h1, h2, n, h3⟩ := (show ObjOk X.prog X.w H s.heap tp (.tup cs) from I.hok tp _ hT)
    have e3 := ClsV.all k rv
    subst e3
    obtain ⟨oc, od, dt, sl⟩ := o
    simp only at h2 h3
    subst h2 h3
    exact PySem.W.kia_tup (PySem.W.handS_kitx_exc C.hg C.hk C.hs C.hd C.ha C.hn C.ht C.hm) I.kIn (J I) h1 e1 (fun z => nomatch z) fun tk => ⟨.bl b, H, I.tok tk, rfl, q⟩
section
variable {K : PySem.W.Frag} {D e C : Addr} {H : Hp} {Q : VK} {b : Bool}
theorem go_isX [k : KitF K (.ref D) (.ref C) b] (q : Q (.bl b) H) : rIsiH K D e [.ref e, .ref C] H Q := .inl ⟨.ref C, .ref C, b, rfl, fun u r => r, k.h, q⟩
theorem go_isXt {T : String} [k : KitF K (.ref D) (.type T) b] (q : Q (.bl b) H) : rIsiH K D e [.ref e, .ty T] H Q := .inl ⟨.ty T, .type T, b, rfl, fun u r => r, k.h, q⟩
end

/-! ### defs called so -/
/-- the context of such a def's body -/
def cxP (P : Program) (w : World) (K : PySem.W.Frag) (mg : Str → Option Value) (base : Heap) (N : List Str) (qual : Str) (scope : Scope) (f : Addr) (cd : Value) (A : Around) (outer : List Env) (s : Shared) (H : Hp) (E : XK) (pl : List (Addr × Obj)) : Cx :=
  { cxOf (L2N.CX P w) P w K mg base N qual scope f cd A outer s H E with calm := false, pn := pl }
structure FnP (P : Program) (w : World) (K : PySem.W.Frag) (mg : Str → Option Value) (base : Heap) (k : Nat) (f : Addr) (fd : FuncData) (ps : List Str) (sp : Addr → Addr → Sp) : Prop where
  len : ∀ e D vs H Q E, sp e D vs H Q E → vs.length = ps.length
  run : ∀ (A : Around) (outer : List Env) (s : Shared) (H : Hp) (args : Args) (us : List Value) (vs : List V) (Q : VK) (E : XK) (p : Addr × Obj) (L : List (Addr × Obj)) (D : Addr), ExcC K D → Zc (.ref D) none p.2 → RoomH k A → Hot2 A p L → (∀ q ∈ p :: L, PinOk outer H s q) → Env0 P w K mg base A outer s H →
    BindsTo s fd args (ps.zip us) → Vals vs us → sp p.1 D vs H Q E → codeAny (model P w) A (.call (.ref f) args) (CR (L2N.CX P w) outer P w H s Q E) s
theorem inv_startP {P : Program} {w : World} {K : PySem.W.Frag} {mg : Str → Option Value} {base : Heap} {N ps : List Str} {qual : Str} {scope : Scope} {f : Addr} {cd : Value} {A : Around} {outer : List Env} {s s1 : Shared} {H : Hp} {E : XK} {us : List Value} {vs : List V}
    (S : FnScope N ps scope) {p : Addr × Obj} {L : List (Addr × Obj)} (hpin : ∀ q ∈ p :: L, PinOk outer H s q) (e0 : Env0 P w K mg base A outer s H) (hl : vs.length = ps.length) (r : Vals vs us)
    (x : InCallC s s.heap.objs.size (bindL (envOfC qual scope s.heap.objs.size f cd).kindOf (ps.zip us) fun _ => none) (cellsFrom (s.heap.objs.size + 1) scope.names []) (bindC (envOfC qual scope s.heap.objs.size f cd).kindOf (ps.zip us) fun _ => none) s1) :
    Inv (cxP P w K mg base N qual scope f cd A outer s H E (p :: L)) [] (L2.start N vs) H s1 := by
  have I : Inv (cxH (L2N.CX P w) P w K mg base N qual scope f cd A outer s H E p) [] (L2.start N vs) H s1 := inv_startH S (hpin p List.mem_cons_self) e0 hl r x
  obtain ⟨h1, tk, rfl, hk⟩ := x.done
  refine ⟨⟨I.ok.mod, I.ok.kind, I.ok.glob, I.ok.blt, I.ok.above, I.ok.inj, I.ok.has, I.ok.cab, (fun z => nomatch z), I.ok.frames, I.ok.stk, I.ok.exf, I.ok.bs, I.ok.bsz, I.ok.noex, I.ok.exfs, I.ok.funs, I.ok.frf⟩, I.os, I.bare, I.base, I.loc, I.cell, I.free, I.freeC, fun q hq => ?_, I.hok, I.len⟩
  have z := hpin q (by rw [List.append_nil] at hq; exact hq)
  exact ⟨hk q.1 q.2 z.get, z.free, Nat.ne_of_lt (Heap.lt_size z.get), z.nofs, z.nocell⟩
theorem okP {P : Program} {w : World} {K : PySem.W.Frag} {mg : Str → Option Value} {base : Heap} {x qual : Str} {st : Stmt} {f : Addr} {fd : FuncData} {N ps : List Str} {k : Nat} {t : Addr → Addr → XK → TS}
    (F : Fun K x qual st f fd) (S : FnScope N ps (defScope st))
    (hbody : ∀ (cdv : Value) (A : Around) (outer : List Env) (s : Shared) (H : Hp) (E : XK) (pl : List (Addr × Obj)) (e D : Addr), HotP (cxP P w K mg base N qual (defScope st) f cdv A outer s H E pl) e D → RoomH k (A.deeper (envOfC qual (defScope st) s.heap.objs.size f cdv)) →
      PSs (cxP P w K mg base N qual (defScope st) f cdv A outer s H E pl) (defBody st) (t e D E)) :
    FnP P w K mg base (k + 1) f fd ps (fun e D vs H Q E => vs.length = ps.length ∧ t e D E ⟨fun _ H' => Q .non H', Q, F0, F0⟩ (start N vs) H) := by
  obtain ⟨oc, od, kV, doc, pm, an, cdv, ct, osl, rfl, lk, hcd⟩ := F.ex
  refine ⟨fun _ _ _ _ _ _ h => h.1, fun A outer s H args us vs Q E p L D hC hz hr hot hpin en hbd rv hsp => ?_⟩
  have kx : K.In s.heap := en.mod.kin.keeps fun b o e => (en.bs b o e).1
  have nl : s.heap.NoLimit := en.mod.nolimit.keeps fun b o e => (en.bs b o e).1
  have pk : ∀ y ∈ ps.zip us, (defScope st).names.lookup y.1 = some .local ∨ ((defScope st).names.lookup y.1 = some .cell ∧ ((cellsFrom (s.heap.objs.size + 1) (defScope st).names []).lookup y.1).isSome = true) := fun y hy =>
    (S.par y.1 (List.of_mem_zip (a := y.1) (b := y.2) hy).1).elim .inl fun q => .inr ⟨q, PySem.W.cellsFrom_some _ _ _ (.inl q)⟩
  refine codeAny_call_function hr.depth (kx _ _ lk) rfl S.co S.gen rfl (PySem.W.codeRec_of kx hcd) (hbd _ _ _ _ ?_)
  refine wpAny_newFunctionEnv_cells S.kind pk fun env ee s1 x => ?_
  subst ee
  refine ⟨nl.keeps x.toInCall.keep, codeAny_func ?_⟩
  have J : Inv (cxP P w K mg base N qual (defScope st) f cdv A outer s H E (p :: L)) [] (L2.start N vs) H s1 := inv_startP S hpin en hsp.1 rv x
  have hp : HotP (cxP P w K mg base N qual (defScope st) f cdv A outer s H E (p :: L)) p.1 D := ⟨⟨p.2, L, hot, fun q hq => hq, hz⟩, hC⟩
  have fin : ∀ {σ' : Bk.St} {H' : Hp} {v : V} {u : Value} {s' : Shared}, Inv (cxP P w K mg base N qual (defScope st) f cdv A outer s H E (p :: L)) [] σ' H' s' → RelV v u → Q v H' → CE outer P w H s Q u s' :=
    fun {_ H' v _ _} I2 r2 q => ⟨v, H', I2.os, I2.bare, I2.base, I2.hok, r2, q⟩
  refine wpAny_mono ((hbody cdv A outer s H E _ p.1 D hp (hr.deeper _)).run [] s1 _ H _ J hsp.2) (fun fl s' hs => ?_) fun e s' hs => hs
  match fl, hs with
  | .ret u, hs => obtain ⟨v, σ', H', I2, r2, q⟩ := hs; exact fin I2 r2 q
  | .next, hs => obtain ⟨σ', H', I2, q⟩ := hs; exact fin (v := V.non) (u := Value.none) I2 rfl q
  | .brk, hs => obtain ⟨_, _, _, q⟩ := hs; exact q.elim
  | .cont, hs => obtain ⟨_, _, _, q⟩ := hs; exact q.elim
section
variable {X : Cx} {k j : Nat} {f C ex D : Addr} {fd : FuncData} {ps : List Str} {sp : Addr → Addr → Sp} {W : WX} {x m : Str} {q pos apos : Pos} {e o : Expr} {es : List Expr} {ta : TE} {t : TA}
theorem run_fnP {pins : List (Addr × Obj)} {σ : Bk.St} {H : Hp} {s : Shared} {Q : VK} {us : List Value} {vs : List V} {E : Bk.St → XK} (F : FnP X.prog X.w X.K X.mg X.base k f fd ps sp) (hr : RoomH k X.A) (hc : HotP X ex D) (hb : Binds X.K fd ps []) (hx : PassesAt (L2N.CX X.prog X.w) X σ (E σ))
    (I : Inv X pins σ H s) (r : Vals vs us) (h : sp ex D vs H Q (E σ)) : wpAny (model X.prog X.w) X.A (call (.ref f) us) (EP X pins σ Q) X.xe s := by
  obtain ⟨⟨oe, L, hot, hp, hz⟩, hC⟩ := hc
  have hl : us.length = ps.length := by rw [← r.length]; exact F.len _ _ _ _ _ _ h
  have b := hb s us I.kIn (by rw [List.append_nil]; exact hl)
  rw [List.append_nil] at b
  have pk : ∀ q ∈ (ex, oe) :: L, PinOk X.stack H s q := fun q hq => by
    obtain ⟨p1, p2, p3, p4, p5⟩ := I.pin q (List.mem_append_left _ (hp q hq))
    exact ⟨p1, p2, fun hm => (List.mem_cons.mp (I.stkSub _ hm)).elim p3 p4, p5⟩
  refine wpAny_call (codeAny_mono (F.run X.A X.stack s H ⟨us, []⟩ us vs Q (E σ) (ex, oe) L D hC hz hr hot pk I.env0 b r h) fun r s' hq => ?_)
  match r, hq with
  | .error e, hq => exact hx pins H s e s' I hq
  | .ok (.ret u), hq => exact I.after hq
  | .ok .next, hq => exact hq.elim
  | .ok .brk, hq => exact hq.elim
  | .ok .cont, hq => exact hq.elim
def tCallX (sp : Addr → Addr → Sp) (ex D : Addr) (E : Bk.St → XK) (t : TA) : TE := fun σ H Q => t σ H fun vs H1 => sp ex D vs H1 Q (E σ)
theorem callX (F : FnP X.prog X.w X.K X.mg X.base k f fd ps sp) (hc : HotP X ex D) (tk : L2N.Takes X W) (hr : RoomH j X.A) (hj : k ≤ j) (hg : Gl X x) (hm : X.mg x = some (.ref f)) (hk : PySem.W.keepIn X.K (.ref f) = true) (hb : Binds X.K fd ps [])
    (ha : PA X (e :: es) t) (hdb : (x == ("__debug__" : Str)) = false := by decide) (he : starEach (e :: es) X.env = (false, eval e X.env) :: starEach es X.env := by rfl) (hpl : (backTo pos (starEach es X.env)).any (·.1) = false := by rfl) :
    PE X (.Call (.Name x q) (e :: es) [] pos) (tCallX sp ex D (WE W) t) := by
  refine ⟨fun pins s σ H Q I h => wpAny_Call_Name_kw (ld_glob I hg hm ?_ hdb)⟩
  refine PySem.W.callWith_K (h₀ := X.base) I.ok.mod.kin hk (thn (ha.run pos pins s σ H _ I h) fun us s1 ⟨vs, H1, I1, r, q⟩ => ⟨I1.kIn, ?_⟩) he hpl
  exact run_fnP F (hr.mono hj) hc hb (L2N.passAt tk σ) I1 r q
/-- an own method that stands for the class at C -/
structure MethOkX (X : Cx) (m : Str) (k : Nat) (C : Addr) (sp : Addr → Addr → Sp) : Prop where
  c : Cls X.K C
  ex : ∃ f fd ps, Meth X.K C m f ∧ FnP X.prog X.w X.K X.mg X.base k f fd ps sp ∧ Binds X.K fd ps []
def tMethX (m : Str) (C : Addr) (sp : Addr → Addr → Sp) (ex D : Addr) (E : Bk.St → XK) (ta : TE) (t : TA) : TE := fun σ H Q => ta σ H fun x H1 => ∃ a dx fs, x = .ref a ∧ H1 a = some (.ins C dx fs) ∧ fs.lookup m = none ∧ t σ H1 fun vs H2 => sp ex D (x :: vs) H2 Q (E σ)
theorem methX0 {pl : Sem Bool} (he : PE X o ta) (M : MethOkX X m k C sp) (hc : HotP X ex D) (tk : L2N.Takes X W) (hr : RoomH j X.A) (hj : k ≤ j)
    (ht : eval (.Call (.Attribute o m apos) [] [] pos) X.env = (do
      let ov ← eval o X.env
      standAt apos.atName
      let (f, first) ← holding [ov] (getMethod ov m pl)
      callWith pos f first (backTo pos (starEach [] X.env)) (backToKw pos (keywordEach [] X.env))) := by rfl) :
    PE X (.Call (.Attribute o m apos) [] [] pos) (tMethX m C sp ex D (WE W) ta tNil) := by
  refine ⟨fun pins s σ H Q I h => PySem.W.methodCall_KW (pl := pl) (thn (he.run pins s σ H _ I h) ?_) ht⟩
  rintro u s1 ⟨x, H1, I1, rx, a, dx, fs, rfl, ea, l, q⟩
  obtain rfl : u = Value.ref a := rx
  obtain ⟨c, f, fd, ps, hm, F, hb⟩ := M
  refine getmeth_ok I1 ea c hm l ?_
  exact PySem.W.callWith_K0 (first := [.ref a]) I1.kIn hm.kp (run_fnP (us := [.ref a]) (vs := [.ref a]) F (hr.mono hj) hc hb (L2N.passAt tk σ) I1 (.cons rfl .nil) q)
end

/-! ### try -/
/-- a suite that knows what it has: e the exception, C its class -/
def tSu (K : PySem.W.Frag) (t : Addr → Addr → TS) : Addr → Value → Option Addr → TS := fun e cls d D σ H => ∃ C, cls = .ref C ∧ d = none ∧ ExcC K C ∧ t e C D σ H
theorem suX {X : Cx} {ss : List Stmt} {t : Addr → Addr → TS} (h : ∀ (a C : Addr) (oe : Obj) (pn : List (Addr × Obj)), HotP (X.suite a ((a, oe) :: pn)) a C → PSs (X.suite a ((a, oe) :: pn)) ss (t a C)) :
    ∀ (a : Addr) (oe : Obj) (cls : Value) (d : Option Addr) (pn : List (Addr × Obj)), L2N.Zn cls d oe → (∃ vs, oe.data = .fields vs) → PSs (X.suite a ((a, oe) :: pn)) ss (tSu X.K t a cls d) := by
  refine fun a oe cls d pn hz hf => ⟨fun pins s σ H D I q => ?_⟩
  obtain ⟨C, rfl, rfl, hC, q⟩ := q
  exact (h a C oe pn (.suite hz hf hC)).run pins s σ H D I q
def tTryAs (K : PySem.W.Frag) (c : Value) (i : Nat) (tb : WX → TS) (ts : Addr → Addr → TS) (Wout : WX) : TS := fun D σ H => tb (wAs K c i (tSu K ts) Wout D) D σ H
theorem tryAs {X : Cx} {x n : Str} {c : Value} {i : Nat} {body suite : List Stmt} {b0 : Stmt} {np pos pos' : Pos} {tb : WX → TS} {ts : Addr → Addr → TS} {Wout : WX} (hN : X.N.Nodup) (hi : X.N[i]? = some n) (hln : X.env.kindOf n = some .local) (hc : Names X x c) (tk : L2N.Takes X Wout)
    (hb : ∀ (W : WX) (pn : List (Addr × Obj)) (xe : Value → Shared → Prop), L2N.Takes (X.tr pn xe) W → PassesOwn (model X.prog X.w) X.A X.env xe → PSs (X.tr pn xe) body (tb W))
    (hsu : ∀ (a C : Addr) (oe : Obj) (pn : List (Addr × Obj)), HotP (X.suite a ((a, oe) :: pn)) a C → PSs (X.suite a ((a, oe) :: pn)) (b0 :: suite) (ts a C)) (hs : X.stack = X.env :: X.outer := by rfl) (hf : X.env.frame = some X.env.locals := by rfl) :
    PS X (.Try body [.ExceptHandler (some (.Name x np)) (some n) (b0 :: suite) pos'] [] [] pos) (tTryAs X.K c i tb ts Wout) := L2N.ps_try_as hs hf hN hi hln hc tk hb (suX hsu)
def tTryMany (K : PySem.W.Frag) (tb : WX → TS) (l : List (Value × (Addr → Addr → TS))) (Wout : WX) : TS := fun D σ H => tb (wMany K Wout D (l.map fun p => (p.1, tSu K p.2))) D σ H
inductive HdsX (X : Cx) : List ExceptHandler → List (Value × (Addr → Addr → TS)) → Prop
  | nil : HdsX X [] []
  | cons {x : Str} {c : Value} {ts : Addr → Addr → TS} {b0 : Stmt} {suite : List Stmt} {np pos' : Pos} {hds : List ExceptHandler} {l : List (Value × (Addr → Addr → TS))} (hc : Names X x c)
      (hsu : ∀ (a C : Addr) (oe : Obj) (pn : List (Addr × Obj)), HotP (X.suite a ((a, oe) :: pn)) a C → PSs (X.suite a ((a, oe) :: pn)) (b0 :: suite) (ts a C)) (r : HdsX X hds l) :
      HdsX X (.ExceptHandler (some (.Name x np)) none (b0 :: suite) pos' :: hds) ((c, ts) :: l)
theorem HdsX.ok {X : Cx} {hds : List ExceptHandler} {l : List (Value × (Addr → Addr → TS))} (h : HdsX X hds l) : L2N.HdsOk X hds (l.map fun p => (p.1, tSu X.K p.2)) := by
  induction h with
  | nil => exact .nil
  | cons hc hsu r ih => exact .cons hc (suX hsu) ih
theorem tryMany {X : Cx} {body : List Stmt} {h0 : ExceptHandler} {hds : List ExceptHandler} {l : List (Value × (Addr → Addr → TS))} {pos : Pos} {tb : WX → TS} {Wout : WX} (tk : L2N.Takes X Wout)
    (hb : ∀ (W : WX) (pn : List (Addr × Obj)) (xe : Value → Shared → Prop), L2N.Takes (X.tr pn xe) W → PassesOwn (model X.prog X.w) X.A X.env xe → PSs (X.tr pn xe) body (tb W))
    (hh : HdsX X (h0 :: hds) l) (hs : X.stack = X.env :: X.outer := by rfl) (hf : X.env.frame = some X.env.locals := by rfl) : PS X (.Try body (h0 :: hds) [] [] pos) (tTryMany X.K tb l Wout) := L2N.ps_try_many hs hf tk hb hh.ok
section
variable {K : PySem.W.Frag} {σ : Bk.St} {H : Hp} {Q : VK} {D : Ends} {nx bk ct : Bk.St → Hp → Prop} {rt : VK} {c cls : Value} {C e : Addr} {i : Nat} {ts : Addr → Value → Option Addr → TS} {t : Addr → Addr → TS} {tb : WX → TS} {Wout : WX} {E : XK} {d : Option Addr} {l : List (Value × (Addr → Addr → TS))} {l' : List (Value × (Addr → Value → Option Addr → TS))}
theorem go_tryAs (q : tb (wAs K c i (tSu K t) Wout D) D σ H) : tTryAs K c i tb t Wout D σ H := q
theorem go_tryMany (q : tb (wMany K Wout D (l.map fun p => (p.1, tSu K p.2))) D σ H) : tTryMany K tb l Wout D σ H := q
theorem go_WM (q : E cls d H) : WM E cls d σ H := q
theorem go_asT [k : ExmF K (.ref C) c true] [x : ExcF K C] (q : ∀ e, H e = none → t e C ⟨fun σ' H' => nx (σ'.set i none) H', rt, fun σ' H' => bk (σ'.set i none) H', fun σ' H' => ct (σ'.set i none) H'⟩ (σ.set i (some (.ref e))) H) : wAs K c i (tSu K t) Wout ⟨nx, rt, bk, ct⟩ (.ref C) none σ H :=
  ⟨true, k.h, fun _ e he => ⟨C, rfl, rfl, x.h, q e he⟩, fun z => Bool.noConfusion z⟩
theorem go_asF [k : ExmF K cls c false] (q : Wout cls d σ H) : wAs K c i ts Wout D cls d σ H := ⟨false, k.h, fun z => Bool.noConfusion z, fun _ => q⟩
theorem go_manyT [k : ExmF K (.ref C) c true] [x : ExcF K C] (q : ∀ e, H e = none → t e C D σ H) : wMany K Wout D ((c, tSu K t) :: l') (.ref C) none σ H := ⟨true, k.h, fun _ e he => ⟨C, rfl, rfl, x.h, q e he⟩, fun z => Bool.noConfusion z⟩
theorem go_manyF [k : ExmF K cls c false] (q : wMany K Wout D l' cls d σ H) : wMany K Wout D ((c, ts) :: l') cls d σ H := ⟨false, k.h, fun z => Bool.noConfusion z, fun _ => q⟩
theorem go_manyN (q : Wout cls d σ H) : wMany K Wout D [] cls d σ H := q
end

/-! ### steps: objects, calls, loops in hot code -/
/-- a list walked, calm or hot -/
def ListYK (K : PySem.W.Frag) (R : It → Hp → Prop) : VK := fun x H1 => ∃ a, x = .ref a ∧ ∃ xs, SqL K H1 a xs ∧ R (Itl K a) H1
section
variable {K : PySem.W.Frag} {σ : Bk.St} {H H1 : Hp} {Q : VK} {tl ta tv : TE} {R : It → Hp → Prop} {a C dx : Addr} {xs : List V} {fs : List (Str × V)} {f m : Str} {v y : V} {nx bk ct : Bk.St → Hp → Prop} {rt : VK} {E : Bk.St → XK} {t : TA} {sp : Sp} {alts : List (Addr × Sp)}
theorem go_listY (q : tl σ H (ListYK K R)) : iListY K tl σ H R := q
theorem go_listYL (h : H a = some (.lst xs)) (q : R (Itl K a) H) : ListYK K R (.ref a) H := ⟨a, rfl, xs, SqL.of h, q⟩
def FldK (K : PySem.W.Frag) (f : Str) (Q : VK) : VK := fun x H1 => ∃ a C dx fs v, x = .ref a ∧ H1 a = some (.ins C dx fs) ∧ Cls K C ∧ NoAttr K C f ∧ fs.lookup f = some v ∧ Q v H1
theorem go_fld (q : ta σ H (FldK K f Q)) : tFld K ta f σ H Q := q
theorem go_FldK (h : H a = some (.ins C dx fs)) (c : ClsF K C) (n : NoAF K C f) (l : fs.lookup f = some v) (q : Q v H) : FldK K f Q (.ref a) H := ⟨a, C, dx, fs, v, rfl, h, c.h, n.h, l, q⟩
def SFldK (K : PySem.W.Frag) (f : Str) (y : V) (σ : Bk.St) (nx : Bk.St → Hp → Prop) : VK := fun x H2 => ∃ a C dx fs, x = .ref a ∧ H2 a = some (.ins C dx fs) ∧ Cls K C ∧ NoAttr K C f ∧ fs.length < 1000 ∧ nx σ (upd H2 a (.ins C dx (putF f y fs)))
theorem go_sfld (q : tv σ H fun y H1 => ta σ H1 (SFldK K f y σ nx)) : sFld K ta tv f ⟨nx, rt, bk, ct⟩ σ H := q
theorem go_SFldK (h : H a = some (.ins C dx fs)) (c : ClsF K C) (n : NoAF K C f) (hl : fs.length < 1000) {fs' : List (Str × V)} (e : putF f y fs = fs') (q : ∀ H1, Wr H a (.ins C dx fs') H1 → nx σ H1) : SFldK K f y σ nx (.ref a) H := by
  subst e
  exact ⟨a, C, dx, fs, rfl, h, c.h, n.h, hl, wr_of h q⟩
def MethK (m : Str) (alts : List (Addr × Sp)) (E : Bk.St → XK) (t : TA) (σ : Bk.St) (Q : VK) : VK := fun x H1 => ∃ a dx fs C sp, x = .ref a ∧ H1 a = some (.ins C dx fs) ∧ fs.lookup m = none ∧ (C, sp) ∈ alts ∧ t σ H1 fun vs H2 => sp (x :: vs) H2 Q (E σ)
theorem go_meth (q : ta σ H (MethK m alts E t σ Q)) : tMethP m alts E ta t σ H Q := q
/-- the class at hand: the n-th of those that have the method -/
theorem go_MethK (n : Nat) (h : H a = some (.ins C dx fs)) (l : fs.lookup m = none) (hn : alts[n]? = some (C, sp)) (q : t σ H fun vs H2 => sp (.ref a :: vs) H2 Q (E σ)) : MethK m alts E t σ Q (.ref a) H := ⟨a, dx, fs, C, sp, rfl, h, l, List.mem_of_getElem? hn, q⟩
def MakeK (C : Addr) (sp : Sp) (E : XK) (Q : VK) : List V → Hp → Prop := fun vs H1 => ∀ x dx, H1 x = none → H1 dx = none → dx ≠ x → sp (.ref x :: vs) (upd (upd H1 dx (.own x)) x (.ins C dx [])) (fun v H2 => v = .non ∧ Q (.ref x) H2) E
theorem go_make (q : t σ H (MakeK C sp (E σ) Q)) : tMakeE C sp E t σ H Q := q
theorem go_MakeK {vs : List V} {E : XK} (q : ∀ dx H1 x H2, New H dx (.own x) H1 → New H1 x (.ins C dx []) H2 → sp (.ref x :: vs) H2 (fun v H3 => v = .non ∧ Q (.ref x) H3) E) : MakeK C sp E Q vs H :=
  fun x dx hx hd ne => q dx _ x _ ⟨hd, rfl⟩ ⟨by rw [upd_ne (Ne.symm ne)]; exact hx, rfl⟩
theorem go_non {R : Prop} (q : R) : V.non = V.non ∧ R := ⟨rfl, q⟩
theorem go_callX {sp : Addr → Addr → Sp} {ex D : Addr} (q : t σ H fun vs H1 => sp ex D vs H1 Q (E σ)) : tCallX sp ex D E t σ H Q := q
def MethXK (m : Str) (C : Addr) (sp : Addr → Addr → Sp) (ex D : Addr) (E : XK) (t : TA) (σ : Bk.St) (Q : VK) : VK := fun x H1 => ∃ a dx fs, x = .ref a ∧ H1 a = some (.ins C dx fs) ∧ fs.lookup m = none ∧ t σ H1 fun vs H2 => sp ex D (x :: vs) H2 Q E
theorem go_methX {sp : Addr → Addr → Sp} {ex D : Addr} (q : ta σ H (MethXK m C sp ex D (E σ) t σ Q)) : tMethX m C sp ex D E ta t σ H Q := q
theorem go_MethXK {sp : Addr → Addr → Sp} {ex D : Addr} {E : XK} (h : H a = some (.ins C dx fs)) (l : fs.lookup m = none) (q : t σ H fun vs H2 => sp ex D (.ref a :: vs) H2 Q E) : MethXK m C sp ex D E t σ Q (.ref a) H := ⟨a, dx, fs, rfl, h, l, q⟩
-- dicts
def DGetK (Q : VK) (x : V) : VK := fun y H2 => ∃ a v, x = .ref a ∧ DGet H2 a y (some v) ∧ Q v H2
theorem go_dget {ty : TE} (q : ta σ H fun x H1 => ty σ H1 (DGetK Q x)) : tDGet ta ty σ H Q := q
theorem go_DGetS {kvs : List (Key × V)} {k : Str} (h : H a = some (.dK kvs)) (l : valV kvs (.inr k) = some v) (q : Q v H) : DGetK Q (.ref a) (.str k) H := ⟨a, v, rfl, l ▸ DGet.k (k := .inr k) h, q⟩
theorem go_DGetI {kvs : List (Key × V)} {k : Int} (h : H a = some (.dK kvs)) (l : valV kvs (.inl k) = some v) (q : Q v H) : DGetK Q (.ref a) (.int k) H := ⟨a, v, rfl, l ▸ DGet.k (k := .inl k) h, q⟩
def DPutK (v x : V) (σ : Bk.St) (nx : Bk.St → Hp → Prop) : VK := fun y H3 => ∃ a H4, x = .ref a ∧ DPut H3 a y v H4 ∧ nx σ H4
theorem go_dput {td ty : TE} (q : tv σ H fun v H1 => td σ H1 fun x H2 => ty σ H2 (DPutK v x σ nx)) : sDPut td ty tv ⟨nx, rt, bk, ct⟩ σ H := q
theorem go_DPutS {kvs kvs' : List (Key × V)} {k : Str} (h : H a = some (.dK kvs)) (hl : kvs.length < 1000) (e : putK kvs (.inr k) v = kvs') (q : ∀ H1, Wr H a (.dK kvs') H1 → nx σ H1) : DPutK v (.ref a) σ nx (.str k) H := by
  subst e
  exact ⟨a, _, rfl, DPut.k (k := .inr k) h (by rw [sizeLine_eq]; omega), wr_of h q⟩
theorem go_DPutI {kvs kvs' : List (Key × V)} {k : Int} (h : H a = some (.dK kvs)) (hl : kvs.length < 1000) (e : putK kvs (.inl k) v = kvs') (q : ∀ H1, Wr H a (.dK kvs') H1 → nx σ H1) : DPutK v (.ref a) σ nx (.int k) H := by
  subst e
  exact ⟨a, _, rfl, DPut.k (k := .inl k) h (by rw [sizeLine_eq]; omega), wr_of h q⟩
def DispK (p : Addr) (Q : VK) : List (V × V) → Hp → Prop := fun ps H2 => H2 p = some (.dK []) ∧ ∃ kvs : List (Key × V), ps = kvs.map (fun kv => (kV kv.1, kv.2)) ∧ kvs.length ≤ 15 ∧ Q (.ref p) (upd H2 p (.dK (mergeK [] kvs)))
theorem go_disp {trs : List (TE × TE)} (q : ∀ p H1, New H p (.dK []) H1 → tPairs trs σ H1 (DispK p Q)) : tDisp trs σ H Q := fun p hp => q p _ ⟨hp, rfl⟩
theorem go_pairs {tk tv : TE} {r : List (TE × TE)} {QP : List (V × V) → Hp → Prop} (q : tk σ H fun x H1 => tv σ H1 fun y H2 => tPairs r σ H2 fun ps H3 => QP ((x, y) :: ps) H3) : tPairs ((tk, tv) :: r) σ H QP := q
theorem go_pairs0 {QP : List (V × V) → Hp → Prop} (q : QP [] H) : tPairs [] σ H QP := q
theorem go_DispK (kvs : List (Key × V)) {kvs' : List (Key × V)} {p : Addr} {ps : List (V × V)} (h : H p = some (.dK [])) (e : ps = kvs.map (fun kv => (kV kv.1, kv.2))) (hl : kvs.length ≤ 15) (m : mergeK [] kvs = kvs') (q : ∀ H1, Wr H p (.dK kvs') H1 → Q (.ref p) H1) : DispK p Q ps H := by
  subst m
  exact ⟨h, kvs, e, hl, wr_of h q⟩
-- a pair of names
def ParK (i j : Nat) (σ : Bk.St) (nx : Bk.St → Hp → Prop) : List V → Hp → Prop := fun vs H1 => ∃ v w, vs = [v, w] ∧ nx ((σ.set i (some v)).set j (some w)) H1
theorem go_par {i j : Nat} (q : t σ H (ParK i j σ nx)) : tPar i j t ⟨nx, rt, bk, ct⟩ σ H := q
theorem go_ParK {i j : Nat} {σ' : Bk.St} (h : (σ.set i (some v)).set j (some y) = σ') (q : nx σ' H) : ParK i j σ nx [v, y] H := by subst h; exact ⟨v, y, rfl, q⟩
-- a place of a list written
def SubK (r : TSet) (v : V) (o : V) (σ : Bk.St) (nx : Bk.St → Hp → Prop) : VK := fun i H2 => r o i v H2 fun H3 => nx σ H3
theorem go_sub_ {to ti : TE} {r : TSet} (q : to σ H fun o H1 => ti σ H1 (SubK r v o σ nx)) : gSub to ti r v σ H nx := q
theorem go_setL {i : Int} {j : Nat} (h : H a = some (.lst xs)) (hi : ixN xs.length i = some j) (q : ∀ H1, Wr H a (.lst (xs.set j v)) H1 → nx σ H1) : SubK rSetL v (.ref a) σ nx (.int i) H := ⟨a, xs, i, j, rfl, rfl, h, hi, wr_of h q⟩
end
end Bk

/-! our own: try statements whose exceptions may have another one behind them; suites that raise -/
namespace Bk
open PySem PySem.Spec L2 PyProof.Rows L2H HotX
section
variable {X : Cx} {pins : List (Addr × Obj)} {Wout W : WX}
/-- an exception has come down in X: a, of class cls, with c behind it -/
structure Land (X : Cx) (pins L : List (Addr × Obj)) (a : Addr) (cls : Value) (d : Option Addr) (c : Value) (Wout : WX) (σ : Bk.St) (H : Hp) (s : Shared) : Prop where
  beh : Behind c L
  na : H a = none
  kin : X.K.In s.heap
  ok : X.Ok
  test : ∃ oe, s.heap.get? a = some oe ∧ oe.cls = cls ∧ Inv (X.suite a ((a, oe) :: (X.pn ++ (pins ++ L)))) [] σ H s
  again : ∀ {A' : Around} {E : Value → Shared → Prop} {Q : Unit → Shared → Prop}, (∀ h oe, C.Zx cls d c oe → (∃ vs, oe.data = .fields vs) → Inv (X.suite a ((a, oe) :: (X.pn ++ (pins ++ L)))) [] σ H { s with heap := h } → Q () { s with heap := h }) →
    wpAny (model X.prog X.w) A' (setFlight (.ref a) none) Q E s
  pass : Wout cls d σ H → ∀ Q, wpAny (model X.prog X.w) X.A (handleBy (.ref a) X.env []) Q X.xe s
theorem land {nn : Bool} {xe : Value → Shared → Prop} {u : Value} {s' : Shared} {Q : Value → Shared → Prop} (hs : X.stack = X.env :: X.outer) (hf : X.env.frame = some X.env.locals) (tk : C.Takes X Wout) (ok : X.Ok) (x : C.XR (X.tr (X.pn ++ pins) xe) nn W u s')
    (q : ∀ a cls d c L σ H s, W cls d σ H → (nn = true → c = .none) → Land X pins L a cls d c Wout σ H s → Q (.ref a) s) :
    wpAny (model X.prog X.w) X.A (noteFrame u X.env) (fun _ s2 => wpAny (model X.prog X.w) X.A (setFlight u none) (fun _ s3 => Q u s3) X.xe s2) X.xe s' := by
  obtain ⟨a, B, sI, pins', σ, H, cls, d, c, rfl, ⟨J', nb, up⟩, sky, ⟨past, cn⟩, ⟨na, os, ag⟩, w⟩ := x
  have J : Inv X pins σ H sI := J'.ofTry ok
  have fr : X.A.frames = some (X.env :: X.outer) := ok.frames.trans (congrArg some hs)
  have sky' : Sky B (X.env :: X.outer) a (C.Zx cls d c) X.env.locals s'.heap := by rw [← hs]; exact sky
  -- an exception is no frame
  have nfr : ∀ {h : Heap} {b : Addr} {o : Obj} {vs : Array Value}, h.FunFrames B (X.env :: X.outer) → h.get? b = some o → o.data = .fields vs → b ≠ X.env.locals ∧ b ∉ X.fs := fun {h b o vs} ff e dd => by
    have z : b ∉ frs (X.env :: X.outer) := fun m => by
      obtain ⟨_, o', e', nf⟩ := ff.mem m
      cases e.symm.trans e'
      exact nf _ dd
    refine ⟨fun y => z (List.mem_filterMap.mpr ⟨X.env, List.mem_cons_self, by rw [hf, y]⟩), fun y => ?_⟩
    obtain ⟨v, hv, k⟩ := List.mem_filterMap.mp y
    exact z (List.mem_filterMap.mpr ⟨v, List.mem_cons_of_mem _ hv, k⟩)
  obtain ⟨L, beh, hL⟩ : ∃ L : List (Addr × Obj), Behind c L ∧ ∀ q ∈ L, B.get? q.1 = some q.2 ∧ H q.1 = none ∧ ∃ ws : Array Value, q.2.data = .fields ws := by
    rcases past with rfl | ⟨p, ws, rfl, e, n, f, g⟩
    · exact ⟨[], .inl rfl, fun q hq => nomatch hq⟩
    · exact ⟨[p], .inr ⟨p, List.mem_cons_self, rfl, ws, f, g⟩, fun q hq => by rw [List.mem_singleton.mp hq]; exact ⟨e, n, ws, f⟩⟩
  have inv : ∀ {h : Heap} {oe : Obj}, HandSPX.FlyingZ B (X.env :: X.outer) a (C.Zx cls d c) h → s'.heap.UpToSlots h → h.get? a = some oe → (∃ vs, oe.data = .fields vs) → Inv (X.suite a ((a, oe) :: (X.pn ++ (pins ++ L)))) [] σ H { s' with heap := h } := fun {h oe} fl u e ⟨vs, dd⟩ => by
    have J3 : Inv X pins σ H { s' with heap := h } := J.landed nb fl.1 (up.trans u) os ag
    have J4 : Inv X (pins ++ L) σ H { s' with heap := h } := J3.pins_of fun p hp => (List.mem_append.mp hp).elim (fun z => J3.pin p (List.mem_append_right _ z)) fun z => by
      obtain ⟨e1, e2, ws, e3⟩ := hL p z
      have g := fl.1 _ _ e1
      obtain ⟨n1, n2⟩ := nfr fl.2.2.1 g e3
      exact ⟨g, e2, n1, n2, fun v y => by rw [e3] at y; cases y⟩
    obtain ⟨n1, n2⟩ := nfr fl.2.2.1 e dd
    exact J4.suite e dd na n1 n2
  refine L2N.Sky.land C.Zx.steady fr hf sky' fun h3 fl3 up3 => q a cls d c L σ H _ w cn ⟨beh, na, ?_, ok, ?_, ?_, ?_⟩
  · exact Inv.kIn (s := { s' with heap := h3 }) (J.landed nb fl3.1 (up.trans up3) os ag)
  · obtain ⟨oe, vs, e, hz, dd⟩ := fl3.there
    exact ⟨oe, e, hz.1.1, inv fl3 up3 e ⟨vs, dd⟩⟩
  · intro A' E Q' qq
    refine HandSPX.lands_againZ fl3 fun h4 fl4 up4 => ?_
    obtain ⟨oe, vs, e, hz, dd⟩ := fl4.there
    exact qq h4 oe hz ⟨vs, dd⟩ (inv fl4 (up3.trans up4) e ⟨vs, dd⟩)
  · intro wo Q'
    refine wpAny_handleBy_nil ?_
    obtain ⟨k1, k2, k3, oe, vs, T, oT, ts, he, hz, hd, h1, hr⟩ := id fl3
    unfold PySem.passOn
    refine wpAny_bind (wpAny_field he hd h1 ?_)
    rw [if_neg (show ¬ ((Value.ref T == Value.none) = true) from by simp)]
    have fin : wpAny (model X.prog X.w) X.A (setFlight (.ref a) X.env.frame) (fun _ s4 => wpAny (model X.prog X.w) X.A (throw (.ref a) : Sem Flow) Q' X.xe s4) X.xe { s' with heap := h3 } := by
      rw [hf]
      refine HandSPX.setFlight_upZ fl3 fun h4 hh4 up4 => wpAny_throw (tk _ _ ?_)
      exact ⟨a, B, sI, pins, σ, H, cls, d, c, rfl, ⟨J, nb, (up.trans up3).trans up4⟩, .inr (.inr (by rw [hs]; exact hh4)), ⟨past, fun z => nomatch z⟩, ⟨na, os, ag⟩, wo⟩
    first
      | exact wpAny_bind (wpAny_pure (wpAny_bind fin))
      | exact wpAny_bind fin
/-- a clause is asked -/
theorem Land.clause {L : List (Addr × Obj)} {a : Addr} {cls cv c : Value} {d : Option Addr} {σ : Bk.St} {H : Hp} {s : Shared} {x : Str} {b : Bool} {nm : Option Str} {b0 : Stmt} {suite : List Stmt} {np pos' : Pos} {hds : List ExceptHandler} {Q : Flow → Shared → Prop}
    (l : Land X pins L a cls d c Wout σ H s) (hc : Names X x cv) (hb : PySem.W.exmOne X.K cls cv = some b)
    (yes : b = true → codeAny (model X.prog X.w) (X.A.mark (some (.ref a))) (.handlers (.ref a) [.ExceptHandler none nm (b0 :: suite) pos'] X.env) (fun r s2 => match r with
      | .ok f => (match nm with
        | none => Q f s2
        | some n => wpAny (model X.prog X.w) X.A (do bindName X.env n .none; unbindBehindTheSuite X.env n pos') (fun _ s3 => Q f s3) X.xe s2)
      | .error y => cameBackBy (model X.prog X.w) X.A X.env X.xe y s2) s)
    (no : b = false → wpAny (model X.prog X.w) X.A (handleBy (.ref a) X.env hds) Q X.xe s) :
    wpAny (model X.prog X.w) X.A (handleBy (.ref a) X.env (.ExceptHandler (some (.Name x np)) nm (b0 :: suite) pos' :: hds)) Q X.xe s := by
  obtain ⟨oe, he, hcl, S⟩ := l.test
  refine wpAny_handleBy_cons (codeAny_handlers_test ?_) (by intro q; cases q)
  have LT : PySem.W.Looks (model X.prog X.w) s.heap (typeOf (.ref a)) cls := fun A Q E s k q => wpAny_typeOf_ref (k _ _ he) (by rw [hcl]; exact q)
  have LM := PySem.W.exm_one (M := model X.prog X.w) l.kin LT hb
  have named : ∀ {Q : Value → Shared → Prop} {E : Value → Shared → Prop}, Q cv s → wpAny (model X.prog X.w) (X.A.mark (some (.ref a))) (eval (.Name x np) X.env) Q E s := fun {Q E} q => by
    obtain ⟨hg, hdb, hm | ⟨hm, hv, hn⟩⟩ := hc
    · exact ld_glob (X := X.suite a ((a, oe) :: (X.pn ++ (pins ++ L)))) S hg hm q hdb
    · exact ld_blt (X := X.suite a ((a, oe) :: (X.pn ++ (pins ++ L)))) S hg hm hv q hn hdb
  refine named (LM.here ?_)
  cases b with
  | true => exact yes rfl
  | false => exact no rfl
end
/-- the clauses: suites that may raise what Wout takes -/
inductive HdsR (X : Cx) (nn : Bool) (Wout : WX) : List ExceptHandler → List (Value × (Addr → Addr → TS)) → Prop
  | nil : HdsR X nn Wout [] []
  | cons {x : Str} {c : Value} {ts : Addr → Addr → TS} {b0 : Stmt} {suite : List Stmt} {np pos' : Pos} {hds : List ExceptHandler} {l : List (Value × (Addr → Addr → TS))} (hc : Names X x c)
      (hsu : ∀ (a C : Addr) (oe : Obj) (pn : List (Addr × Obj)), HotP (suiteX X a ((a, oe) :: pn)) a C → (nn = true → HotC (suiteX X a ((a, oe) :: pn))) → Bk.C.Takes (suiteX X a ((a, oe) :: pn)) Wout → PSs (suiteX X a ((a, oe) :: pn)) (b0 :: suite) (ts a C)) (r : HdsR X nn Wout hds l) :
      HdsR X nn Wout (.ExceptHandler (some (.Name x np)) none (b0 :: suite) pos' :: hds) ((c, ts) :: l)
section
variable {X : Cx} {x n : Str} {c : Value} {i : Nat} {body suite : List Stmt} {b0 : Stmt} {np pos pos' : Pos} {tb : WX → TS} {Wout : WX} {nn : Bool}
theorem suiteX_un {X : Cx} {pins pl : List (Addr × Obj)} {σ : Bk.St} {H : Hp} {s : Shared} {a : Addr} {q : Addr × Obj} {pn' : List (Addr × Obj)} (I : Inv (suiteX X a (q :: (X.pn ++ (pins ++ pl)))) pn' σ H s) (ok : X.Ok) : Inv X pins σ H s := (unsuiteX I ok).unpinned
theorem tryManyR {h0 : ExceptHandler} {hds : List ExceptHandler} {l : List (Value × (Addr → Addr → TS))} (tk : C.Takes X Wout) (hpa : ∀ hd : Option Value, PassesOwnAt (model X.prog X.w) (X.A.mark hd) X.A X.env X.xe)
    (hb : ∀ (W : WX) (pn : List (Addr × Obj)) (xe : Value → Shared → Prop), C.TakesR (X.tr pn xe) nn W → PassesOwn (model X.prog X.w) X.A X.env xe → PSs (X.tr pn xe) body (tb W))
    (hh : HdsR X nn Wout (h0 :: hds) l) (hs : X.stack = X.env :: X.outer := by rfl) (hf : X.env.frame = some X.env.locals := by rfl) : PS X (.Try body (h0 :: hds) [] [] pos) (tTryMany X.K tb l Wout) := by
  refine ⟨fun pins s σ H D I h => ?_⟩
  have ok := I.ok
  refine wpAny_Try_except ?_
  refine wpAny_mono ((hb (wMany X.K Wout D (l.map fun p => (p.1, tSu X.K p.2))) (X.pn ++ pins) (fun e s1 => wpAny (model X.prog X.w) X.A (noteFrame e X.env) (fun _ s2 => wpAny (model X.prog X.w) X.A (setFlight e none) (fun _ s3 =>
    wpAny (model X.prog X.w) X.A (handleBy e X.env (h0 :: hds)) (SP X pins D) X.xe s3) X.xe s2) X.xe s1) (fun u s' xx => ?_) PassesOwn.looking).run [] s σ H D (I.toTry _) h) (fun f s1 hsp => ?_) (fun e s1 he => he)
  · show wpAny (model X.prog X.w) X.A (noteFrame u X.env) _ _ _
    refine land (Q := fun e s3 => wpAny (model X.prog X.w) X.A (handleBy e X.env (h0 :: hds)) (SP X pins D) X.xe s3) hs hf tk ok xx fun a cls d c L σ' H' s3 w cn ld => ?_
    have go : ∀ {hds' : List ExceptHandler} {l' : List (Value × (Addr → Addr → TS))}, HdsR X nn Wout hds' l' → wMany X.K Wout D (l'.map fun p => (p.1, tSu X.K p.2)) cls d σ' H' → wpAny (model X.prog X.w) X.A (handleBy (.ref a) X.env hds') (SP X pins D) X.xe s3 := by
      intro hds' l' hk
      induction hk with
      | nil => exact fun w => ld.pass w _
      | cons hc hsu r ih =>
        rintro ⟨b, hb1, yes, no⟩
        refine ld.clause hc hb1 (fun eb => ?_) fun eb => ih (no eb)
        refine codeAny_handlers_suite (ld.again fun h4 oe hz hf4 S => ?_)
        obtain ⟨C0, rfl, rfl, hC, q⟩ := yes eb a ld.na
        have hin : ∀ q ∈ (a, oe) :: L, q ∈ (a, oe) :: (X.pn ++ (pins ++ L)) := fun q hq => (List.mem_cons.mp hq).elim (fun e => by rw [e]; exact List.mem_cons_self) fun z => List.mem_cons_of_mem _ (List.mem_append_right _ (List.mem_append_right _ z))
        have hot : HotP (suiteX X a ((a, oe) :: (X.pn ++ (pins ++ L)))) a C0 := .of rfl hz hf4 ld.beh hin hC
        have hotC : nn = true → HotC (suiteX X a ((a, oe) :: (X.pn ++ (pins ++ L)))) := fun e => by
          obtain ⟨vs, hv⟩ := hf4
          exact ⟨(a, oe), ⟨rfl, vs, hv, by rw [hz.2 vs hv, cn e]⟩, List.mem_cons_self⟩
        have tkS : C.Takes (suiteX X a ((a, oe) :: (X.pn ++ (pins ++ L)))) Wout := fun u2 s2 x2 => by
          obtain ⟨a2, B2, sI2, pn2, σ2, H2, cls2, d2, c2, e2, ⟨I2, nb2, up2⟩, sky2, past2, rest2, w2⟩ := x2
          exact tk u2 s2 ⟨a2, B2, sI2, pins, σ2, H2, cls2, d2, c2, e2, ⟨suiteX_un I2 ok, nb2, up2⟩, sky2, past2, rest2, w2⟩
        refine wpAny_mono ((hsu a C0 oe _ hot hotC tkS).run [] _ _ H' _ (suiteX_of S) q) (fun f s6 hsp => ?_) (fun e6 s6 z => hpa (some (.ref a)) e6 s6 z)
        cases f with
        | next => exact let ⟨σ6, H6, S6, q6⟩ := hsp; ⟨_, _, suiteX_un S6 ok, q6⟩
        | brk => exact let ⟨σ6, H6, S6, q6⟩ := hsp; ⟨_, _, suiteX_un S6 ok, q6⟩
        | cont => exact let ⟨σ6, H6, S6, q6⟩ := hsp; ⟨_, _, suiteX_un S6 ok, q6⟩
        | ret u => exact let ⟨v6, σ6, H6, S6, r6, q6⟩ := hsp; ⟨_, _, _, suiteX_un S6 ok, r6, q6⟩
    exact go hh w
  · cases f with
    | next => exact let ⟨σ', H', J', q⟩ := hsp; wpAny_execs_nil ⟨σ', H', J'.ofTry ok, q⟩
    | brk => exact let ⟨σ', H', J', q⟩ := hsp; ⟨σ', H', J'.ofTry ok, q⟩
    | cont => exact let ⟨σ', H', J', q⟩ := hsp; ⟨σ', H', J'.ofTry ok, q⟩
    | ret u => exact let ⟨v, σ', H', J', r, q⟩ := hsp; ⟨v, σ', H', J'.ofTry ok, r, q⟩
/-- one clause with a name; its suite raises nothing -/
theorem tryAsR {ts : Addr → Addr → TS} (hN : X.N.Nodup) (hi : X.N[i]? = some n) (hln : X.env.kindOf n = some .local) (hc : Names X x c) (tk : C.Takes X Wout)
    (hb : ∀ (W : WX) (pn : List (Addr × Obj)) (xe : Value → Shared → Prop), C.Takes (X.tr pn xe) W → PassesOwn (model X.prog X.w) X.A X.env xe → PSs (X.tr pn xe) body (tb W))
    (hsu : ∀ (a C : Addr) (oe : Obj) (pn : List (Addr × Obj)), HotP (X.suite a ((a, oe) :: pn)) a C → PSs (X.suite a ((a, oe) :: pn)) (b0 :: suite) (ts a C)) (hs : X.stack = X.env :: X.outer := by rfl) (hf : X.env.frame = some X.env.locals := by rfl) :
    PS X (.Try body [.ExceptHandler (some (.Name x np)) (some n) (b0 :: suite) pos'] [] [] pos) (tTryAs X.K c i tb ts Wout) := by
  refine ⟨fun pins s σ H D I h => ?_⟩
  have ok := I.ok
  refine wpAny_Try_except ?_
  refine wpAny_mono ((hb (wAs X.K c i (tSu X.K ts) Wout D) (X.pn ++ pins) (fun e s1 => wpAny (model X.prog X.w) X.A (noteFrame e X.env) (fun _ s2 => wpAny (model X.prog X.w) X.A (setFlight e none) (fun _ s3 =>
    wpAny (model X.prog X.w) X.A (handleBy e X.env [.ExceptHandler (some (.Name x np)) (some n) (b0 :: suite) pos']) (SP X pins D) X.xe s3) X.xe s2) X.xe s1) (fun u s' xx => ?_) PassesOwn.looking).run [] s σ H D (I.toTry _) h) (fun f s1 hsp => ?_) (fun e s1 he => he)
  · show wpAny (model X.prog X.w) X.A (noteFrame u X.env) _ _ _
    refine land (Q := fun e s3 => wpAny (model X.prog X.w) X.A (handleBy e X.env [.ExceptHandler (some (.Name x np)) (some n) (b0 :: suite) pos']) (SP X pins D) X.xe s3) hs hf tk ok xx fun a cls d c L σ' H' s3 w cn ld => ?_
    obtain ⟨b, hb1, yes, no⟩ := w
    refine ld.clause hc hb1 (fun eb => ?_) fun eb => ld.pass (no eb) _
    refine codeAny_handlers_suite_as (ld.again fun h4 oe hz hf4 S => ?_)
    obtain ⟨C0, rfl, rfl, hC, q⟩ := yes eb a ld.na
    have hot : HotP (X.suite a ((a, oe) :: (X.pn ++ (pins ++ L)))) a C0 := .of rfl hz hf4 ld.beh (fun q hq => (List.mem_cons.mp hq).elim (fun e => by rw [e]; exact List.mem_cons_self) fun z => List.mem_cons_of_mem _ (List.mem_append_right _ (List.mem_append_right _ z))) hC
    refine store_ok (X := X.suite a ((a, oe) :: (X.pn ++ (pins ++ L)))) (v := .ref a) S hN hi (.inl hln) rfl (fun s5 S5 => ?_) (.inr hln)
    refine wpAny_mono ((hsu a C0 oe _ hot).run [] s5 _ H' _ S5 q) (fun f s6 hsp => ?_) (fun _ _ z => False.elim z)
    have gone : ∀ {σ6 : Bk.St} {H6 : Hp} {Q : Shared → Prop}, Inv (X.suite a ((a, oe) :: (X.pn ++ (pins ++ L)))) [] σ6 H6 s6 → (∀ s7, Inv X pins (σ6.set i none) H6 s7 → Q s7) →
        wpAny (model X.prog X.w) X.A (do bindName X.env n .none; unbindBehindTheSuite X.env n pos') (fun _ s7 => Q s7) X.xe s6 := fun S6 hq => gone_ok (S6.unsuite ok).unpinned hN hi hln hq
    cases f with
    | next => exact let ⟨σ6, H6, S6, q6⟩ := hsp; gone S6 fun s7 J7 => ⟨_, _, J7, q6⟩
    | brk => exact let ⟨σ6, H6, S6, q6⟩ := hsp; gone S6 fun s7 J7 => ⟨_, _, J7, q6⟩
    | cont => exact let ⟨σ6, H6, S6, q6⟩ := hsp; gone S6 fun s7 J7 => ⟨_, _, J7, q6⟩
    | ret u => exact let ⟨v6, σ6, H6, S6, r6, q6⟩ := hsp; gone S6 fun s7 J7 => ⟨_, _, _, J7, r6, q6⟩
  · cases f with
    | next => exact let ⟨σ', H', J', q⟩ := hsp; wpAny_execs_nil ⟨σ', H', J'.ofTry ok, q⟩
    | brk => exact let ⟨σ', H', J', q⟩ := hsp; ⟨σ', H', J'.ofTry ok, q⟩
    | cont => exact let ⟨σ', H', J', q⟩ := hsp; ⟨σ', H', J'.ofTry ok, q⟩
    | ret u => exact let ⟨v, σ', H', J', r, q⟩ := hsp; ⟨v, σ', H', J'.ofTry ok, r, q⟩
end
/-! ### raised while another one is in hand; defs that let such out -/
section
variable {X : Cx} {k j : Nat} {f c0 : Addr} {fd : FuncData} {ps : List Str} {sp : Sp} {W : WX} {x m : Str} {p p2 pos pos' apos : Pos} {e o : Expr} {es : List Expr} {ta : TE} {t : TA}
theorem raised {pins : List (Addr × Obj)} {σ : Bk.St} {H : Hp} {sI s' : Shared} {a : Addr} {oe : Obj} {vs : Array Value} {cls : Value} {d : Option Addr} {q : Addr × Obj} {ws : Array Value} (I : Inv X pins σ H sI) (st : ∀ b o, sI.heap.get? b = some o → s'.heap.get? b = some o) (new : sI.heap.get? a = none) (he : s'.heap.get? a = some oe)
    (hz : C.Zx cls d (.ref q.1) oe) (hd : oe.data = .fields vs) (h1 : vs[1]? = some .none) (hq : q ∈ X.pn) (qd : q.2.data = .fields ws) (q2 : ws[2]? = some .none) (rest : H a = none ∧ s'.os = sI.os ∧ AllBare s'.gens) (w : W cls d σ H) : C.XE X W (.ref a) s' := by
  obtain ⟨g1, g2, g3, g4, g5⟩ := I.pin q (List.mem_append_left _ hq)
  have nf : q.1 ∉ frs X.stack := fun z => (List.mem_cons.mp (I.stkSub _ z)).elim g3 g4
  refine ⟨a, PySem.W.hideAll sI.heap (frs X.stack), sI, pins, σ, H, cls, d, .ref q.1, rfl, ⟨I, fun b o e hb => PySem.W.hideAll_get _ e hb, Heap.UpToSlots.of_keeps st⟩,
    .inl ⟨fun b o e => st b o (PySem.W.of_hideAll _ e), ?_, ?_, oe, vs, he, hz, hd, h1⟩, ⟨.inr ⟨q, ws, rfl, PySem.W.hideAll_get _ g1 nf, g2, qd, q2⟩, fun z => nomatch z⟩, rest, w⟩
  · cases y : (PySem.W.hideAll sI.heap (frs X.stack)).get? a with
    | none => rfl
    | some o => have z := PySem.W.of_hideAll _ y; rw [new] at z; cases z
  · exact Heap.FunFrames.of_keeps (fun b o e _ => ⟨o, st b o e, rfl⟩) (funFrames_none I.stack fun b hb => PySem.W.hideAll_none _ hb)
theorem raiseH {i : Nat} (hc : HotC X) (tk : C.Takes X W) (eo : ExOk X.K c0) (hm : X.mg x = some (.ref c0)) (hg : Gl X x := by rfl) (hdb : (x == ("__debug__" : Str)) = false := by decide) :
    PS X (.Raise (some (.Call (.Name x p) [.Constant (.str m) i p2] [] pos)) none pos') (tRaiseE c0 W) := by
  have mk : L2N.PMk X (.Call (.Name x p) [.Constant (.str m) i p2] [] pos) (fun _ H Q => Q (.ref c0) none H) := L2N.pmk_own PySem.F.excBase_ValueError eo.q hm eo.k (raises_own eo.s eo.t) hg hdb
  refine ⟨fun pins s σ H D I h => ?_⟩
  obtain ⟨q, ⟨hh, v1, e1, c1⟩, hq⟩ := hc
  show wpAny _ _ (do standAt pos'; raiseStmt X.env (some (do let v ← eval (.Call (.Name x p) [.Constant (.str m) i p2] [] pos) X.env; standAt pos'; pure v)) none) _ _ _
  refine wpAny_bind (wpAny_standAt (raise_made_hot (x1 := q.1) (wpAny_bind (wpAny_mono (mk pins s σ H (fun cls d H' => W cls d σ H') I h) (fun u s1 hu => wpAny_bind (wpAny_standAt (wpAny_pure ?_))) fun _ _ x => x))))
  obtain ⟨a, oe, vs, sI, H', cls, d, rfl, J, st, new, ha, hz, hd, h1, na, os, ag, r, w⟩ := hu
  obtain ⟨r1, r2⟩ := r (model X.prog X.w) s1.heap (J.kIn.keeps st)
  have g1 := (J.pin q (List.mem_append_left _ hq)).1
  have ne : q.1 ≠ a := fun z => by rw [z, new] at g1; cases g1
  have hi : 2 < vs.size := (Array.getElem?_eq_some_iff.mp (hz.2.2 vs hd)).1
  have nz : ∀ {b u}, sI.heap.get? b = some u → (s1.heap.update a (Obj.mapFields (·.setIfInBounds 2 (.ref q.1)))).get? b = some u := fun {b u} e => by
    rw [Heap.get?_update_other _ _ (fun y => by rw [← y, new] at e; cases e)]
    exact st b u e
  have hd' := Obj.data_mapFields hd (·.setIfInBounds 2 (Value.ref q.1))
  refine ⟨a, oe, vs, cls, rfl, ha, hz.1, hd, h1, hi, ne, ⟨hh, q.2, v1, st _ _ g1, e1, c1⟩, r1, r2, tk _ _ (raised (q := q) J (fun b u e => nz e) new (Heap.get?_update_self _ ha (Obj.isFreed_of_fields hd')) ⟨⟨(Obj.cls_mapFields ..).trans hz.1, (HandSPX.dict_mapFields ..).trans hz.2.1⟩, fun us e => ?_⟩ hd' ?_ hq e1 c1 ⟨na, os, ag⟩ w)⟩
  · rw [hd'] at e
    cases e
    simp [hi]
  · rw [Array.getElem?_setIfInBounds_ne (by decide)]
    exact h1
theorem takesMC {E : XK} (hs : X.stack = X.env :: X.outer) (hf : X.env.frame = some X.env.locals) (hex : X.ex = []) {E1 : Value → Shared → Prop}
    (hx : X.xe = fun e s' => wpAny (model X.prog X.w) X.A (leaving X.env e) (fun _ s'' => C.CX X.prog X.w X.outer X.H_0 X.s_0 E e s'') E1 s') : C.Takes X (WM E) := C.takes_of hs hf hex hx
theorem okC {P : Program} {w : World} {K : PySem.W.Frag} {mg : Str → Option Value} {base : Heap} {x qual : Str} {st : Stmt} {f : Addr} {fd : FuncData} {N ps : List Str} {k : Nat} {t : XK → TS}
    (F : Fun K x qual st f fd) (S : FnScope N ps (defScope st))
    (hbody : ∀ (cdv : Value) (A : Around) (outer : List Env) (s : Shared) (H : Hp) (E : XK), Room k (A.deeper (envOfC qual (defScope st) s.heap.objs.size f cdv)) →
      PSs (cxOf (C.CX P w) P w K mg base N qual (defScope st) f cdv A outer s H E) (defBody st) (t E)) :
    FnOk P w K mg base (C.CX P w) (k + 1) f fd ps (fun vs H Q E => vs.length = ps.length ∧ t E ⟨fun _ H' => Q .non H', Q, F0, F0⟩ (start N vs) H) := by
  obtain ⟨oc, od, kV, doc, pm, an, cdv, ct, osl, rfl, lk, hcd⟩ := F.ex
  exact fn_of lk hcd S (fun _ _ _ _ h => h.1) fun A outer s H vs Q E hr h => ⟨t E, hbody cdv A outer s H E hr, h.2⟩
theorem callC (F : FnOk X.prog X.w X.K X.mg X.base (C.CX X.prog X.w) k f fd ps sp) (tk : C.Takes X W) (hr : Room j X.A) (hj : k ≤ j) (hg : Gl X x) (hm : X.mg x = some (.ref f)) (hk : PySem.W.keepIn X.K (.ref f) = true) (hb : Binds X.K fd ps [])
    (ha : PA X (e :: es) t) (hdb : (x == ("__debug__" : Str)) = false := by decide) (he : starEach (e :: es) X.env = (false, eval e X.env) :: starEach es X.env := by rfl) (hpl : (backTo pos (starEach es X.env)).any (·.1) = false := by rfl) :
    PE X (.Call (.Name x p) (e :: es) [] pos) (tCallS sp (WE W) t) := pe_callS F (hr.mono hj) hg hm hk hb (fun σ => C.passAt tk σ) ha hdb he hpl
end
end Bk

/-! our own: an exception kept beyond its suite; a call of one of a list's defs -/
namespace Bk
open PySem PySem.Spec L2 PyProof.Rows L2H HotX
/-- an exception that is kept: it stands, it is no longer in hand -/
structure HeldP (X : Cx) (e D : Addr) : Prop where
  ex : ∃ (oe : Obj) (vs : Array Value), (e, oe) ∈ X.pn ∧ oe.data = .fields vs ∧ Zc (.ref D) none oe
  c : ExcC X.K D
theorem call_isK {X : Cx} {e D : Addr} (h : HeldP X e D) : CallR X (.builtin "isinstance") (rIsiH X.K D e) := by
  obtain ⟨⟨oe, vs, hp, hv, hz⟩, C⟩ := h
  have J : ∀ {pins : List (Addr × Obj)} {σ : Bk.St} {H : Hp} {s : Shared}, Inv X pins σ H s → PySem.W.InstAt s.heap e oe D none := fun I => by
    have hget := (I.pin (e, oe) (List.mem_append_left _ hp)).1
    obtain ⟨oc, od, oda, osl⟩ := oe
    obtain ⟨h1, h2⟩ := hz
    dsimp only at h1 h2 hv
    subst h1 h2 hv
    exact ⟨hget, rfl, rfl, trivial⟩
  refine call_or ?_ ?_
  · rintro pins s σ H xs us Q I r ⟨c, cv, b, rfl, hcv, e1, q⟩
    obtain ⟨u1, u2, rfl, r1, r2⟩ := vals2 r
    cases r1
    have ec := hcv _ r2
    subst ec
    exact PySem.W.kia_one (PySem.W.handS_kitx_exc C.hg C.hk C.hs C.hd C.ha C.hn C.ht C.hm) I.kIn (J I) e1 (fun z => nomatch z) fun tk => ⟨.bl b, H, I.tok tk, rfl, q⟩
  · rintro pins s σ H xs us Q I r ⟨tp, cs, ws, b, rfl, hT, k, e1, q⟩
    obtain ⟨u1, u2, rfl, r1, r2⟩ := vals2 r
    cases r1
    cases (show u2 = Value.ref tp from r2)
    obtain ⟨_, its, rv, o, h1, h2, n, h3⟩ := (show ObjOk X.prog X.w H s.heap tp (.tup cs) from I.hok tp _ hT)
    have e3 := ClsV.all k rv
    subst e3
    obtain ⟨oc, od, dt, sl⟩ := o
    simp only at h2 h3
    subst h2 h3
    exact PySem.W.kia_tup (PySem.W.handS_kitx_exc C.hg C.hk C.hs C.hd C.ha C.hn C.ht C.hm) I.kIn (J I) h1 e1 (fun z => nomatch z) fun tk => ⟨.bl b, H, I.tok tk, rfl, q⟩
/-! ### defs that are handed such a one -/
def cxK (P : Program) (w : World) (K : PySem.W.Frag) (mg : Str → Option Value) (base : Heap) (N : List Str) (qual : Str) (scope : Scope) (f : Addr) (cd : Value) (A : Around) (outer : List Env) (s : Shared) (H : Hp) (E : XK) (p : Addr × Obj) : Cx :=
  { cxOf (L2N.CX P w) P w K mg base N qual scope f cd A outer s H E with pn := [p] }
structure FnK (P : Program) (w : World) (K : PySem.W.Frag) (mg : Str → Option Value) (base : Heap) (k : Nat) (f : Addr) (fd : FuncData) (ps : List Str) (sp : Addr → Addr → Sp) : Prop where
  len : ∀ e D vs H Q E, sp e D vs H Q E → vs.length = ps.length
  run : ∀ (A : Around) (outer : List Env) (s : Shared) (H : Hp) (args : Args) (us : List Value) (vs : List V) (Q : VK) (E : XK) (p : Addr × Obj) (D : Addr), ExcC K D → Zc (.ref D) none p.2 → (∃ ws : Array Value, p.2.data = .fields ws) → Room k A → PinOk outer H s p → Env0 P w K mg base A outer s H →
    BindsTo s fd args (ps.zip us) → Vals vs us → sp p.1 D vs H Q E → codeAny (model P w) A (.call (.ref f) args) (CR (L2N.CX P w) outer P w H s Q E) s
theorem okK {P : Program} {w : World} {K : PySem.W.Frag} {mg : Str → Option Value} {base : Heap} {x qual : Str} {st : Stmt} {f : Addr} {fd : FuncData} {N ps : List Str} {k : Nat} {t : Addr → Addr → XK → TS}
    (F : Fun K x qual st f fd) (S : FnScope N ps (defScope st))
    (hbody : ∀ (cdv : Value) (A : Around) (outer : List Env) (s : Shared) (H : Hp) (E : XK) (p : Addr × Obj) (e D : Addr), HeldP (cxK P w K mg base N qual (defScope st) f cdv A outer s H E p) e D → Room k (A.deeper (envOfC qual (defScope st) s.heap.objs.size f cdv)) →
      PSs (cxK P w K mg base N qual (defScope st) f cdv A outer s H E p) (defBody st) (t e D E)) :
    FnK P w K mg base (k + 1) f fd ps (fun e D vs H Q E => vs.length = ps.length ∧ t e D E ⟨fun _ H' => Q .non H', Q, F0, F0⟩ (start N vs) H) := by
  obtain ⟨oc, od, kV, doc, pm, an, cdv, ct, osl, rfl, lk, hcd⟩ := F.ex
  refine ⟨fun _ _ _ _ _ _ h => h.1, fun A outer s H args us vs Q E p D hC hz hfl hr hpin en hbd rv hsp => ?_⟩
  have kx : K.In s.heap := en.mod.kin.keeps fun b o e => (en.bs b o e).1
  have nl : s.heap.NoLimit := en.mod.nolimit.keeps fun b o e => (en.bs b o e).1
  have pk : ∀ y ∈ ps.zip us, (defScope st).names.lookup y.1 = some .local ∨ ((defScope st).names.lookup y.1 = some .cell ∧ ((cellsFrom (s.heap.objs.size + 1) (defScope st).names []).lookup y.1).isSome = true) := fun y hy =>
    (S.par y.1 (List.of_mem_zip (a := y.1) (b := y.2) hy).1).elim .inl fun q => .inr ⟨q, PySem.W.cellsFrom_some _ _ _ (.inl q)⟩
  refine codeAny_call_function hr.depth (kx _ _ lk) rfl S.co S.gen rfl (PySem.W.codeRec_of kx hcd) (hbd _ _ _ _ ?_)
  refine wpAny_newFunctionEnv_cells S.kind pk fun env ee s1 x => ?_
  subst ee
  refine ⟨nl.keeps x.toInCall.keep, codeAny_func ?_⟩
  have J : Inv (cxK P w K mg base N qual (defScope st) f cdv A outer s H E p) [] (L2.start N vs) H s1 := by
    have I : Inv (cxOf (L2N.CX P w) P w K mg base N qual (defScope st) f cdv A outer s H E) [] (L2.start N vs) H s1 := inv_start S hr.hd en hsp.1 rv x
    obtain ⟨h1, tk, rfl, hk⟩ := x.done
    refine ⟨⟨I.ok.mod, I.ok.kind, I.ok.glob, I.ok.blt, I.ok.above, I.ok.inj, I.ok.has, I.ok.cab, I.ok.hd, I.ok.frames, I.ok.stk, I.ok.exf, I.ok.bs, I.ok.bsz, I.ok.noex, I.ok.exfs, I.ok.funs, I.ok.frf⟩, I.os, I.bare, I.base, I.loc, I.cell, I.free, I.freeC, fun q hq => ?_, I.hok, I.len⟩
    rw [List.append_nil] at hq
    rw [List.mem_singleton.mp hq]
    exact ⟨hk p.1 p.2 hpin.get, hpin.free, Nat.ne_of_lt (Heap.lt_size hpin.get), hpin.nofs, hpin.nocell⟩
  obtain ⟨ws, hw⟩ := hfl
  have hp : HeldP (cxK P w K mg base N qual (defScope st) f cdv A outer s H E p) p.1 D := ⟨⟨p.2, ws, List.mem_cons_self, hw, hz⟩, hC⟩
  have fin : ∀ {σ' : Bk.St} {H' : Hp} {v : V} {u : Value} {s' : Shared}, Inv (cxK P w K mg base N qual (defScope st) f cdv A outer s H E p) [] σ' H' s' → RelV v u → Q v H' → CE outer P w H s Q u s' :=
    fun {_ H' v _ _} I2 r2 q => ⟨v, H', I2.os, I2.bare, I2.base, I2.hok, r2, q⟩
  refine wpAny_mono ((hbody cdv A outer s H E p p.1 D hp (hr.deeper _)).run [] s1 _ H _ J hsp.2) (fun fl s' hs => ?_) fun e s' hs => hs
  match fl, hs with
  | .ret u, hs => obtain ⟨v, σ', H', I2, r2, q⟩ := hs; exact fin I2 r2 q
  | .next, hs => obtain ⟨σ', H', I2, q⟩ := hs; exact fin (v := V.non) (u := Value.none) I2 rfl q
  | .brk, hs => obtain ⟨_, _, _, q⟩ := hs; exact q.elim
  | .cont, hs => obtain ⟨_, _, _, q⟩ := hs; exact q.elim
section
variable {X : Cx} {k j : Nat} {f ex D : Addr} {fd : FuncData} {ps : List Str} {sp : Addr → Addr → Sp} {W : WX} {x m : Str} {q pos apos : Pos} {e o : Expr} {es : List Expr} {ta : TE} {t : TA}
theorem callK (F : FnK X.prog X.w X.K X.mg X.base k f fd ps sp) (hc : HeldP X ex D) (tk : L2N.Takes X W) (hr : Room j X.A) (hj : k ≤ j) (hg : Gl X x) (hm : X.mg x = some (.ref f)) (hk : PySem.W.keepIn X.K (.ref f) = true) (hb : Binds X.K fd ps [])
    (ha : PA X (e :: es) t) (hdb : (x == ("__debug__" : Str)) = false := by decide) (he : starEach (e :: es) X.env = (false, eval e X.env) :: starEach es X.env := by rfl) (hpl : (backTo pos (starEach es X.env)).any (·.1) = false := by rfl) :
    PE X (.Call (.Name x q) (e :: es) [] pos) (tCallX sp ex D (WE W) t) := by
  refine ⟨fun pins s σ H Q I h => wpAny_Call_Name_kw (ld_glob I hg hm ?_ hdb)⟩
  refine PySem.W.callWith_K (h₀ := X.base) I.ok.mod.kin hk (thn (ha.run pos pins s σ H _ I h) fun us s1 ⟨vs, H1, I1, r, q⟩ => ⟨I1.kIn, ?_⟩) he hpl
  obtain ⟨⟨oe, ws, hp, hw, hz⟩, hC⟩ := hc
  have hl : us.length = ps.length := by rw [← r.length]; exact F.len _ _ _ _ _ _ q
  have b := hb s1 us I1.kIn (by rw [List.append_nil]; exact hl)
  rw [List.append_nil] at b
  obtain ⟨p1, p2, p3, p4, p5⟩ := I1.pin (ex, oe) (List.mem_append_left _ hp)
  have pk : PinOk X.stack H1 s1 (ex, oe) := ⟨p1, p2, fun hm => (List.mem_cons.mp (I1.stkSub _ hm)).elim p3 p4, p5⟩
  refine wpAny_call (codeAny_mono (F.run X.A X.stack s1 H1 ⟨us, []⟩ us vs Q (WE W σ) (ex, oe) D hC hz ⟨ws, hw⟩ (hr.mono hj) pk I1.env0 b r q) fun r s' hq => ?_)
  match r, hq with
  | .error e, hq => exact L2N.passAt tk σ pins H1 s1 e s' I1 hq
  | .ok (.ret u), hq => exact I1.after hq
  | .ok .next, hq => exact hq.elim
  | .ok .brk, hq => exact hq.elim
  | .ok .cont, hq => exact hq.elim
/-! ### a call of one of a list's defs -/
def tCallL (sps : List (Addr × Sp)) (ix : TE) (E : Bk.St → XK) (t : TA) : TE := fun σ H Q => ix σ H fun x H1 => ∃ f sp, (f, sp) ∈ sps ∧ x = .ref f ∧ t σ H1 fun vs H2 => sp vs H2 Q (E σ)
structure LOk (X : Cx) (j : Nat) (p : Addr × Sp) : Prop where
  ex : ∃ k fd ps, FnOk X.prog X.w X.K X.mg X.base (L2N.CX X.prog X.w) k p.1 fd ps p.2 ∧ Binds X.K fd ps [] ∧ k ≤ j
  kp : PySem.W.keepIn X.K (.ref p.1) = true
theorem forall_two {α : Type} {P : α → Prop} {x y : α} (h : P x) (k : P y) : ∀ z ∈ [x, y], P z := fun z hz => by
  rcases List.mem_cons.mp hz with rfl | hz
  · exact h
  · rw [List.mem_singleton.mp hz]; exact k
theorem LOk.mk' {f f' : Addr} {y : Str} {sp : Sp} (h1 : X.mg y = some (.ref f')) (h2 : X.mg y = some (.ref f)) (F : FnOk X.prog X.w X.K X.mg X.base (L2N.CX X.prog X.w) k f fd ps sp) (hb : Binds X.K fd ps []) (hj : k ≤ j) (kp : PySem.W.keepIn X.K (.ref f) = true) : LOk X j (f', sp) := by
  obtain rfl : f' = f := Value.ref.inj (Option.some.inj (h1.symm.trans h2))
  exact ⟨⟨k, fd, ps, F, hb, hj⟩, kp⟩
def tNever : TE := fun _ _ _ => False
theorem pe_never {e : Expr} : PE X e tNever := ⟨fun _ _ _ _ _ _ h => h.elim⟩
theorem callL {sps : List (Addr × Sp)} {ie : Expr} {tix : TE} (hl : ∀ p ∈ sps, LOk X j p) (hi : PE X ie tix) (tk : L2N.Takes X W) (hr : Room j X.A) (ha : PA X (e :: es) t)
    (he : starEach (e :: es) X.env = (false, eval e X.env) :: starEach es X.env := by rfl) (hpl : (backTo pos (starEach es X.env)).any (·.1) = false := by rfl)
    (ht : eval (.Call ie (e :: es) [] pos) X.env = (do callWith pos (← eval ie X.env) [] (backTo pos (starEach (e :: es) X.env)) (backToKw pos (keywordEach [] X.env))) := by rfl) :
    PE X (.Call ie (e :: es) [] pos) (tCallL sps tix (WE W) t) := by
  refine ⟨fun pins s σ H Q I h => ?_⟩
  rw [ht]
  refine wpAny_bind (thn (hi.run pins s σ H _ I h) ?_)
  rintro u s1 ⟨x, H1, I1, rx, f, sp, hm, rfl, q⟩
  obtain rfl : u = Value.ref f := rx
  obtain ⟨⟨k, fd, ps, F, hb, hj⟩, kp⟩ := hl _ hm
  refine PySem.W.callWith_K (h₀ := X.base) I1.ok.mod.kin kp (thn (ha.run pos pins s1 σ H1 _ I1 q) fun us s2 ⟨vs, H2, I2, r, q⟩ => ⟨I2.kIn, ?_⟩) he hpl
  exact run_fnS F (hr.mono hj) hb (fun _ => L2N.passAt tk σ _) I2 r q
end
/-! ### a text split, a text several times -/
def rSplitP : V → List V → Hp → VK → Prop := fun x xs H Q => ∃ a b, x = .str a ∧ xs = [.str b] ∧ (b.length == 0) = false ∧ a.length + 2 ≤ sizeLine ∧ rNewStrs (Txt.split a b) H Q
theorem mt_splitP {X : Cx} : MtR X "str.split" rSplitP := mt_split
def rMulS : R2 := fun x y H Q => ∃ (z : Str) (n : Int), x = .str z ∧ y = .int n ∧ (2 ≤ n ∧ n ≤ 1000) ∧ (1 ≤ z.length ∧ z.length ≤ 1000) ∧ (⟨(List.replicate n.toNat z.cps).foldl (· ++ ·) #[]⟩ : Str).length ≤ sizeLine ∧ Q (.str ⟨(List.replicate n.toNat z.cps).foldl (· ++ ·) #[]⟩) H
theorem op_mulS {X : Cx} : OpR X (binaryOp .Mult) rMulS := by
  intro pins s σ H x y v u Q I rx ry h
  obtain ⟨z, n, rfl, rfl, hn, hz, hl, q⟩ := h
  obtain ⟨t, rfl⟩ := rx
  obtain ⟨t', rfl⟩ := ry
  refine P.mul_str (by rw [decide_eq_false (by omega), decide_eq_false (by omega)]; rfl) (fun _ _ c => ?_) (fun _ _ => ?_) ?_
  · have : (1001 : Int) ≤ (2 ^ 63 - 1) / n := Int.le_ediv_of_mul_le (by omega) (by omega)
    omega
  · have h1 : z.length * n.toNat ≤ 1000 * 1000 := Nat.mul_le_mul hz.2 (by omega)
    unfold Builtin.Str.tooLong
    exact decide_eq_false (by rw [sizeLine_eq]; omega)
  · rw [if_neg (by omega), if_neg (by
      have e1 : (n == 1) = false := by rw [beq_eq_false_iff_ne]; omega
      have e2 : (z.length == 0) = false := by rw [beq_eq_false_iff_ne]; omega
      rw [e1, e2]; decide)]
    exact ⟨hl, .str _, H, I.tok _, ⟨_, rfl⟩, q⟩
/-! ### a text's index -/
def rIndexS : V → List V → Hp → VK → Prop := fun x xs H Q => ∃ a b i rest, x = .str a ∧ xs = [.str b] ∧ Builtin.Str.occurrences a b 0 a.length 1 = i :: rest ∧ Q (.int (i : Nat)) H
theorem mt_indexS {X : Cx} : MtR X "str.index" rIndexS := mt_sindex
/-! ### try, the exception kept in another name, and what comes behind -/
/-- slot i: the clause's name; ts the suite; t0 what comes behind, t1 that with the exception -/
def tKeep (K : PySem.W.Frag) (c : Value) (i : Nat) (tb : WX → TS) (ts : TS) (t0 : TS) (t1 : Addr → Addr → TS) (Wout : WX) : TS := fun D σ H =>
  tb (fun cls d σ' H' => ∃ b, PySem.W.exmOne K cls c = some b ∧ (b = true → ∀ a, H' a = none → ∃ C, cls = .ref C ∧ d = none ∧ ExcC K C ∧ ts ⟨fun σ6 H6 => t1 a C D (σ6.set i none) H6, fun _ _ => False, F0, F0⟩ (σ'.set i (some (.ref a))) H') ∧ (b = false → Wout cls d σ' H')) { D with nx := t0 D } σ H
theorem psKeep {X : Cx} {x n : Str} {c : Value} {i : Nat} {body suite rest : List Stmt} {b0 : Stmt} {np pos pos' : Pos} {tb : WX → TS} {ts t0 : TS} {t1 : Addr → Addr → TS} {Wout : WX} (hN : X.N.Nodup) (hi : X.N[i]? = some n) (hln : X.env.kindOf n = some .local) (hc : Names X x c) (tk : C.Takes X Wout)
    (hb : ∀ (W : WX) (pn : List (Addr × Obj)) (xe : Value → Shared → Prop), C.Takes (X.tr pn xe) W → PassesOwn (model X.prog X.w) X.A X.env xe → PSs (X.tr pn xe) body (tb W))
    (hsu : ∀ (a : Addr) (pn : List (Addr × Obj)), PSs (X.suite a pn) (b0 :: suite) ts) (h0 : PSs X rest t0)
    (h1 : ∀ (a C : Addr) (pn : List (Addr × Obj)), HeldP (X.tr pn X.xe) a C → Bk.C.Takes (X.tr pn X.xe) Wout → PSs (X.tr pn X.xe) rest (t1 a C)) (hs : X.stack = X.env :: X.outer := by rfl) (hf : X.env.frame = some X.env.locals := by rfl) :
    PSs X (.Try body [.ExceptHandler (some (.Name x np)) (some n) (b0 :: suite) pos'] [] [] pos :: rest) (tKeep X.K c i tb ts t0 t1 Wout) := by
  refine ⟨fun pins s σ H D I h => ?_⟩
  have ok := I.ok
  -- what comes behind
  have rest0 : ∀ {f : Flow} {s1 : Shared}, SP X pins { D with nx := t0 D } f s1 → (match f with | .next => wpAny (model X.prog X.w) X.A (execs rest X.env) (SP X pins D) X.xe s1 | f => SP X pins D f s1) := fun {f s1} q => by
    cases f with
    | next => exact let ⟨σ', H', J, q⟩ := q; h0.run pins s1 σ' H' D J q
    | brk => exact q
    | cont => exact q
    | ret u => exact q
  refine wpAny_execs_cons ?_
  have key : wpAny (model X.prog X.w) X.A (exec (.Try body [.ExceptHandler (some (.Name x np)) (some n) (b0 :: suite) pos'] [] [] pos) X.env) (fun f s1 => match f with | .next => wpAny (model X.prog X.w) X.A (execs rest X.env) (SP X pins D) X.xe s1 | f => SP X pins D f s1) X.xe s := by
    refine wpAny_Try_except ?_
    refine wpAny_mono ((hb _ (X.pn ++ pins) (fun e s1 => wpAny (model X.prog X.w) X.A (noteFrame e X.env) (fun _ s2 => wpAny (model X.prog X.w) X.A (setFlight e none) (fun _ s3 =>
      wpAny (model X.prog X.w) X.A (handleBy e X.env [.ExceptHandler (some (.Name x np)) (some n) (b0 :: suite) pos']) (fun f s1 => match f with | .next => wpAny (model X.prog X.w) X.A (execs rest X.env) (SP X pins D) X.xe s1 | f => SP X pins D f s1) X.xe s3) X.xe s2) X.xe s1) (fun u s' xx => ?_) PassesOwn.looking).run [] s σ H _ (I.toTry _) h) (fun f s1 hsp => ?_) (fun e s1 he => he)
    · show wpAny (model X.prog X.w) X.A (noteFrame u X.env) _ _ _
      refine land (Q := fun e s3 => wpAny (model X.prog X.w) X.A (handleBy e X.env [.ExceptHandler (some (.Name x np)) (some n) (b0 :: suite) pos']) _ X.xe s3) hs hf tk ok xx fun a cls d c0 L σ' H' s3 w cn ld => ?_
      obtain ⟨b, hb1, yes, no⟩ := w
      refine ld.clause hc hb1 (fun eb => ?_) fun eb => ld.pass (no eb) _
      refine codeAny_handlers_suite_as (ld.again fun h4 oe hz hf4 S => ?_)
      obtain ⟨C0, rfl, rfl, hC, q⟩ := yes eb a ld.na
      refine store_ok (X := X.suite a ((a, oe) :: (X.pn ++ (pins ++ L)))) (v := .ref a) S hN hi (.inl hln) rfl (fun s5 S5 => ?_) (.inr hln)
      refine wpAny_mono ((hsu a ((a, oe) :: (X.pn ++ (pins ++ L)))).run [] s5 _ H' _ S5 q) (fun f s6 hsp => ?_) (fun _ _ z => False.elim z)
      cases f with
      | brk => exact let ⟨_, _, _, z⟩ := hsp; z.elim
      | cont => exact let ⟨_, _, _, z⟩ := hsp; z.elim
      | ret u => exact let ⟨_, _, _, _, _, z⟩ := hsp; z.elim
      | next =>
        obtain ⟨σ6, H6, S6, q6⟩ := hsp
        have J6 : Inv (X.tr ((a, oe) :: (X.pn ++ (pins ++ L))) X.xe) [] σ6 H6 s6 := ⟨ok.toTry _ _, S6.os, S6.bare, S6.base, S6.loc, S6.cell, S6.free, S6.freeC, S6.pin, S6.hok, S6.len⟩
        obtain ⟨ws, hw⟩ := hf4
        have hp : HeldP (X.tr ((a, oe) :: (X.pn ++ (pins ++ L))) X.xe) a C0 := ⟨⟨oe, ws, List.mem_cons_self, hw, hz.1⟩, hC⟩
        have back : ∀ {σ7 : Bk.St} {H7 : Hp} {s7 : Shared}, Inv (X.tr ((a, oe) :: (X.pn ++ (pins ++ L))) X.xe) [] σ7 H7 s7 → Inv X pins σ7 H7 s7 := fun J => ⟨ok, J.os, J.bare, J.base, J.loc, J.cell, J.free, J.freeC, fun p hp => J.pin p (by
          rw [List.append_nil]
          refine List.mem_cons_of_mem _ ?_
          rw [← List.append_assoc]
          exact List.mem_append_left _ hp), J.hok, J.len⟩
        have tk1 : C.Takes (X.tr ((a, oe) :: (X.pn ++ (pins ++ L))) X.xe) Wout := fun u2 s2 x2 => by
          obtain ⟨a2, B2, sI2, pn2, σ2, H2, cls2, d2, c2, e2, ⟨I2, nb2, up2⟩, y2⟩ := x2
          refine tk u2 s2 ⟨a2, B2, sI2, pins, σ2, H2, cls2, d2, c2, e2, ⟨⟨ok, I2.os, I2.bare, I2.base, I2.loc, I2.cell, I2.free, I2.freeC, fun p hp => I2.pin p ?_, I2.hok, I2.len⟩, nb2, up2⟩, y2⟩
          refine List.mem_append_left _ (List.mem_cons_of_mem _ ?_)
          rw [← List.append_assoc]
          exact List.mem_append_left _ hp
        refine gone_ok (X := X.tr ((a, oe) :: (X.pn ++ (pins ++ L))) X.xe) J6 hN hi hln fun s7 J7 => ?_
        refine wpAny_mono ((h1 a C0 _ hp tk1).run [] s7 _ H6 D J7 q6) (fun f s8 z => ?_) (fun _ _ z => z)
        cases f with
        | next => exact let ⟨σ8, H8, J8, q8⟩ := z; ⟨σ8, H8, back J8, q8⟩
        | brk => exact let ⟨σ8, H8, J8, q8⟩ := z; ⟨σ8, H8, back J8, q8⟩
        | cont => exact let ⟨σ8, H8, J8, q8⟩ := z; ⟨σ8, H8, back J8, q8⟩
        | ret u => exact let ⟨v8, σ8, H8, J8, r8, q8⟩ := z; ⟨v8, σ8, H8, back J8, r8, q8⟩
    · cases f with
      | next => exact let ⟨σ', H', J', q⟩ := hsp; wpAny_execs_nil (h0.run pins s1 σ' H' D (J'.ofTry ok) q)
      | brk => exact let ⟨σ', H', J', q⟩ := hsp; ⟨σ', H', J'.ofTry ok, q⟩
      | cont => exact let ⟨σ', H', J', q⟩ := hsp; ⟨σ', H', J'.ofTry ok, q⟩
      | ret u => exact let ⟨v, σ', H', J', r, q⟩ := hsp; ⟨v, σ', H', J'.ofTry ok, r, q⟩
  refine thn key fun f s1 q => ?_
  cases f with
  | next => exact q
  | brk => exact q
  | cont => exact q
  | ret u => exact q
end Bk

/-! our own: comprehensions that make objects, changes of a few places, places of lists -/
namespace Bk
open PySem L2 PyProof.Rows
/-- all stands but at the places of S -/
def Chg (S : List Addr) (H H' : Hp) : Prop := ∀ b o, H b = some o → b ∉ S → H' b = some o
section
variable {S S' : List Addr} {H H1 H2 H3 : Hp} {a b p : Addr} {o u : HO}
theorem Chg.at (c : Chg S H H1) (hn : b ∉ S) (h : H b = some u) : H1 b = some u := c _ _ h hn
theorem Chg.of (s : Same H H1) : Chg S H H1 := fun b o h _ => s _ _ h
theorem Chg.refl : Chg S H H := fun b o h _ => h
theorem Chg.trans (c : Chg S H H1) (d : Chg S H1 H2) : Chg S H H2 := fun b o h n => d _ _ (c _ _ h n) n
theorem Chg.mono (c : Chg S H H1) (h : ∀ x ∈ S, x ∈ S') : Chg S' H H1 := fun b o e n => c _ _ e fun z => n (h _ z)
theorem Chg.same (c : Chg [] H H1) : Same H H1 := fun b o h => c _ _ h (by simp)
theorem Chg.wr (w : Wr H a o H1) (h : a ∈ S) : Chg S H H1 := fun b u e n => w.old (fun z => n (z ▸ h)) e
theorem Chg.new (n : New H p o H1) : Chg S H H1 := .of n.same
/-- a place that was free may be written -/
theorem Chg.fresh (c : Chg S H H1) (n : H p = none) (d : Chg (p :: S) H1 H2) : Chg S H H2 := fun b u h hn => d _ _ (c _ _ h hn) fun z => (List.mem_cons.mp z).elim (fun e => by rw [e, n] at h; cases h) hn
theorem Chg.drop (c : Chg (p :: S) H H1) (n : H p = none) : Chg S H H1 := Chg.fresh .refl n c
theorem ni_nil : b ∉ ([] : List Addr) := by simp
theorem ni_cons {x : Addr} {l : List Addr} (h : b ≠ x) (k : b ∉ l) : b ∉ x :: l := fun z => (List.mem_cons.mp z).elim h k
/-- unlike contents, unlike places -/
theorem ne_obj (h : H a = some o) (k : H b = some u) (n : o ≠ u) : a ≠ b := fun e => n (by rw [e, k] at h; exact (Option.some.inj h).symm)
end
/-- places of ints in range -/
theorem ixN_in {n : Nat} {i : Int} (h : 0 ≤ i ∧ i < n) : ixN n i = some i.toNat := by
  unfold ixN
  rw [if_pos h.1, if_pos h.2]
theorem atI_in {α : Type} {xs : List α} {i : Int} (h : 0 ≤ i) : atI xs i = xs[i.toNat]? := by
  unfold atI
  by_cases c : i < xs.length
  · rw [ixN_in ⟨h, c⟩]; rfl
  · have e : ixN xs.length i = none := by unfold ixN; rw [if_pos h, if_neg c]
    rw [e, List.getElem?_eq_none (by omega)]; rfl
section
variable {K : PySem.W.Frag} {σ : Bk.St} {H H1 : Hp} {Q : VK} {a : Addr} {xs : List V} {te : TE} {tt : TT} {m n : Nat} {lo : Int} {v x : V} {nx : Bk.St → Hp → Prop}
theorem go_setLi {i : Int} (h : H a = some (.lst xs)) (hi : 0 ≤ i ∧ i < xs.length) (q : ∀ H1, Wr H a (.lst (xs.set i.toNat v)) H1 → nx σ H1) : SubK rSetL v (.ref a) σ nx (.int i) H := go_setL h (ixN_in hi) q
theorem go_decN {p A B : Prop} [Decidable p] (h : ¬ p → A) (k : p → B) : if (!decide p) = true then A else B := by
  by_cases c : p
  · exact go_Fn c (k c)
  · exact go_Tn c (h c)
/-- a place told by the list's own word of it -/
theorem go_ixAt {i : Int} (h : H a = some (.lst xs)) (h0 : 0 ≤ i) (e : xs[i.toNat]? = some v) (q : Q v H) : rIxP K (.ref a) (.int i) H Q := go_ixL h (by rw [atI_in h0]; exact e) q
theorem go_ixAtT {i : Int} (h : H a = some (.tup xs)) (h0 : 0 ≤ i) (e : xs[i.toNat]? = some v) (q : Q v H) : rIxP K (.ref a) (.int i) H Q := go_ixT h (by rw [atI_in h0]; exact e) q
/-- a comprehension over a list: INV of what was made so far, stable under changes of the list that is made -/
theorem lc_genL (INV : Addr → List V → Hp → Prop) (h : H1 a = some (.lst xs)) (hz : xs.length ≤ sizeLine)
    (stab : ∀ D acc H' H'', INV D acc H' → Chg [D] H' H'' → INV D acc H'') (h0 : ∀ D H', H1 D = none → New H1 D (.lst []) H' → INV D [] H')
    (step : ∀ D acc i x H' Q', H1 D = none → xs[i]? = some x → acc.length = i → Same H1 H' → H' D = some (.lst acc) → INV D acc H' → (∀ v H'', Same H' H'' → INV D (acc ++ [v]) H'' → Q' v H'') → te ((σ.set m none).set m (some x)) H' Q')
    (q : ∀ D vs H2, H1 D = none → Same H1 H2 → vs.length = xs.length → INV D vs H2 → H2 D = some (.lst vs) → Q (.ref D) H2) : LcK (gName m) tYes te [m] σ Q (Itl K a) H1 := by
  intro D hD
  refine lc_list (K := K) (a := a) (xs := xs) (fun i H => ∃ acc : List V, acc.length = i ∧ H D = some (.lst acc) ∧ INV D acc H ∧ Same H1 H) ⟨[], rfl, upd_same, h0 D _ hD ⟨hD, rfl⟩, fun b o e => by rw [upd_ne (ne_of_none e hD)]; exact e⟩ (fun i H _ ⟨_, _, _, _, s⟩ => SqL.of (s _ _ h)) ?_ ?_
  · rintro i x H' hx ⟨acc, hl, hd, iv, s⟩
    refine ⟨?_, yes_if (step D acc i x H' _ hD hx hl s hd iv fun v H3 s3 iv3 => ?_)⟩
    · show ((σ.set m none).set m (some x)).set m none = σ.set m none
      rw [List.set_set, List.set_set]
    · have h3 : i < xs.length := (List.getElem?_eq_some_iff.mp hx).1
      refine ⟨acc, s3 _ _ hd, by omega, acc ++ [v], by simp [hl], upd_same, stab D _ _ _ iv3 fun b o e hb => ?_, fun b o e => ?_⟩
      · rw [upd_ne (by simpa using hb)]; exact e
      · rw [upd_ne (ne_of_none e hD)]; exact s3 _ _ (s _ _ e)
  · rintro H2 ⟨acc, hl, hd, iv, s⟩
    exact q D acc H2 hD s hl iv hd
theorem lc_genR (INV : Addr → List V → Hp → Prop) (hz : n ≤ sizeLine)
    (stab : ∀ D acc H' H'', INV D acc H' → Chg [D] H' H'' → INV D acc H'') (h0 : ∀ D H', H1 D = none → New H1 D (.lst []) H' → INV D [] H')
    (step : ∀ D acc i H' Q', H1 D = none → i < n → acc.length = i → Same H1 H' → H' D = some (.lst acc) → INV D acc H' → (∀ v H'', Same H' H'' → INV D (acc ++ [v]) H'' → Q' v H'') → te ((σ.set m none).set m (some (.int (lo + i)))) H' Q')
    (q : ∀ D vs H2, H1 D = none → Same H1 H2 → vs.length = n → INV D vs H2 → H2 D = some (.lst vs) → Q (.ref D) H2) : LcK (gName m) tYes te [m] σ Q (Itr lo n) H1 := by
  intro D hD
  refine lc_range (fun i H => ∃ acc : List V, acc.length = i ∧ H D = some (.lst acc) ∧ INV D acc H ∧ Same H1 H) ⟨[], rfl, upd_same, h0 D _ hD ⟨hD, rfl⟩, fun b o e => by rw [upd_ne (ne_of_none e hD)]; exact e⟩ ?_ ?_
  · rintro i H' hi ⟨acc, hl, hd, iv, s⟩
    refine ⟨?_, yes_if (step D acc i H' _ hD hi hl s hd iv fun v H3 s3 iv3 => ?_)⟩
    · show ((σ.set m none).set m (some (.int (lo + i)))).set m none = σ.set m none
      rw [List.set_set, List.set_set]
    · refine ⟨acc, s3 _ _ hd, by omega, acc ++ [v], by simp [hl], upd_same, stab D _ _ _ iv3 fun b o e hb => ?_, fun b o e => ?_⟩
      · rw [upd_ne (by simpa using hb)]; exact e
      · rw [upd_ne (ne_of_none e hD)]; exact s3 _ _ (s _ _ e)
  · rintro H2 ⟨acc, hl, hd, iv, s⟩
    exact q D acc H2 hD s hl iv hd
/-- new objects, one by one: their places, unlike one another -/
structure News (H1 : Hp) (o : Nat → HO) (D : Addr) (ps : List Addr) (H2 : Hp) : Prop where
  free : ∀ p ∈ ps, H1 p = none
  ne : ∀ p ∈ ps, p ≠ D
  at_ : ∀ (i : Nat) (p : Addr), ps[i]? = some p → H2 p = some (o i)
  nd : ps.Nodup
theorem News.chg {o : Nat → HO} {D : Addr} {ps : List Addr} {H2 H3 : Hp} (w : News H1 o D ps H2) (c : Chg [D] H2 H3) : News H1 o D ps H3 :=
  ⟨w.free, w.ne, fun i p e => c.at (by simpa using w.ne p (List.mem_of_getElem? e)) (w.at_ i p e), w.nd⟩
theorem News.nil {o : Nat → HO} {D : Addr} {H2 : Hp} : News H1 o D [] H2 := ⟨by simp, by simp, by simp, by simp⟩
theorem News.snoc {o : Nat → HO} {D p : Addr} {ps : List Addr} {H2 H3 : Hp} {u : HO} (w : News H1 o D ps H2) (hD : H2 D = some u) (s : Same H2 H3) (s0 : Same H1 H2) (hp : H2 p = none) (h : H3 p = some (o ps.length)) : News H1 o D (ps ++ [p]) H3 := by
  have old : ∀ q ∈ ps, ∃ u, H2 q = some u := fun q hq => by
    obtain ⟨i, hi⟩ := List.mem_iff_getElem?.mp hq
    exact ⟨_, w.at_ i q hi⟩
  refine ⟨fun q hq => ?_, fun q hq => ?_, fun i q e => ?_, ?_⟩
  · rcases List.mem_append.mp hq with hq | hq
    · exact w.free q hq
    · rw [List.mem_singleton.mp hq]; exact s0.free hp
  · rcases List.mem_append.mp hq with hq | hq
    · exact w.ne q hq
    · rw [List.mem_singleton.mp hq]; exact Ne.symm (ne_none hp hD)
  · by_cases c : i < ps.length
    · rw [List.getElem?_append_left c] at e
      exact s _ _ (w.at_ i q e)
    · rw [List.getElem?_append_right (by omega)] at e
      have e1 : i - ps.length = 0 := by
        have := (List.getElem?_eq_some_iff.mp e).1
        simp at this; omega
      rw [e1] at e
      cases e
      rw [show i = ps.length by omega]
      exact h
  · rw [List.nodup_append]
    refine ⟨w.nd, by simp, fun q hq r hr => ?_⟩
    rw [List.mem_singleton.mp hr]
    obtain ⟨u, e⟩ := old q hq
    exact ne_none hp e
theorem map_snoc {ps : List Addr} {p : Addr} : ps.map V.ref ++ [V.ref p] = (ps ++ [p]).map V.ref := by simp
theorem lc_newL {o : Nat → HO} (h : H1 a = some (.lst xs)) (hz : xs.length ≤ sizeLine)
    (step : ∀ i x H' Q', xs[i]? = some x → Same H1 H' → (∀ p H'', Same H' H'' → H' p = none → H'' p = some (o i) → Q' (.ref p) H'') → te ((σ.set m none).set m (some x)) H' Q')
    (q : ∀ D ps H2, H1 D = none → Same H1 H2 → ps.length = xs.length → News H1 o D ps H2 → H2 D = some (.lst (ps.map V.ref)) → Q (.ref D) H2) : LcK (gName m) tYes te [m] σ Q (Itl K a) H1 := by
  refine lc_genL (fun D acc H' => ∃ ps : List Addr, acc = ps.map V.ref ∧ News H1 o D ps H') h hz (fun D acc H' H'' ⟨ps, e, w⟩ c => ⟨ps, e, w.chg c⟩) (fun D H' _ _ => ⟨[], rfl, .nil⟩) ?_ ?_
  · rintro D acc i x H' Q' hD hx hl s hd ⟨ps, rfl, w⟩ k
    refine step i x H' Q' hx s fun p H'' s2 hp hp2 => k _ _ s2 ⟨ps ++ [p], map_snoc, w.snoc hd s2 s hp ?_⟩
    rw [show ps.length = i by simpa using hl]; exact hp2
  · rintro D vs H2 hD s hl ⟨ps, rfl, w⟩ hd
    exact q D ps H2 hD s (by simpa using hl) w hd
theorem lc_newR {o : Nat → HO} (hz : n ≤ sizeLine)
    (step : ∀ i H' Q', i < n → Same H1 H' → (∀ p H'', Same H' H'' → H' p = none → H'' p = some (o i) → Q' (.ref p) H'') → te ((σ.set m none).set m (some (.int (lo + i)))) H' Q')
    (q : ∀ D ps H2, H1 D = none → Same H1 H2 → ps.length = n → News H1 o D ps H2 → H2 D = some (.lst (ps.map V.ref)) → Q (.ref D) H2) : LcK (gName m) tYes te [m] σ Q (Itr lo n) H1 := by
  refine lc_genR (fun D acc H' => ∃ ps : List Addr, acc = ps.map V.ref ∧ News H1 o D ps H') hz (fun D acc H' H'' ⟨ps, e, w⟩ c => ⟨ps, e, w.chg c⟩) (fun D H' _ _ => ⟨[], rfl, .nil⟩) ?_ ?_
  · rintro D acc i H' Q' hD hi hl s hd ⟨ps, rfl, w⟩ k
    refine step i H' Q' hi s fun p H'' s2 hp hp2 => k _ _ s2 ⟨ps ++ [p], map_snoc, w.snoc hd s2 s hp ?_⟩
    rw [show ps.length = i by simpa using hl]; exact hp2
  · rintro D vs H2 hD s hl ⟨ps, rfl, w⟩ hd
    exact q D ps H2 hD s (by simpa using hl) w hd
end
/-! attributes and keys by their names -/
section
variable {f g : Str} {v x : V} {r r' : List (Str × V)}
theorem putF_nil : putF f v [] = [(f, v)] := rfl
theorem putF_hit : putF f v ((f, x) :: r) = (f, v) :: r := by rw [putF, if_pos rfl]
theorem putF_miss (h : g ≠ f) (k : putF f v r = r') : putF f v ((g, x) :: r) = (g, x) :: r' := by rw [putF, if_neg h, k]
end
section
variable {k g : Key} {v x : V} {r r' : List (Key × V)}
theorem putK_nil : putK ([] : List (Key × V)) k v = [(k, v)] := rfl
theorem putK_hit (h : (r.map (·.1)).all (fun y => decide (y ≠ k)) = true) : putK ((k, x) :: r) k v = (k, v) :: r := by
  unfold putK
  rw [if_pos (by simp)]
  simp only [List.map_cons, if_true]
  refine congrArg _ ?_
  refine (List.map_congr_left fun y hy => ?_).trans (List.map_id _)
  have := List.all_eq_true.mp h y.1 (List.mem_map_of_mem hy)
  rw [if_neg (of_decide_eq_true this)]
  rfl
theorem putK_miss (h : g ≠ k) (e : putK r k v = r') : putK ((g, x) :: r) k v = (g, x) :: r' := by
  subst e
  unfold putK
  by_cases c : (r.any fun kv => decide (kv.1 = k)) = true
  · rw [if_pos c, if_pos (by rw [List.any_cons, c, Bool.or_true]), List.map_cons, if_neg h]
  · have c' : (r.any fun kv => decide (kv.1 = k)) = false := Bool.eq_false_iff.mpr c
    rw [if_neg c, if_neg (by rw [List.any_cons, c', decide_eq_false h]; decide)]
    rfl
theorem mergeK_go : ∀ (kvs acc : List (Key × V)), ((acc ++ kvs).map (·.1)).Nodup → mergeK acc kvs = acc ++ kvs
  | [], acc, _ => by simp [mergeK]
  | (k, v) :: r, acc, h => by
    have e : putK acc k v = acc ++ [(k, v)] := by
      unfold putK
      rw [if_neg]
      rw [List.any_eq_true]
      rintro ⟨y, hy, e⟩
      have e := of_decide_eq_true e
      rw [List.map_append, List.nodup_append] at h
      exact h.2.2 y.1 (List.mem_map_of_mem hy) k (by simp) e
    have := mergeK_go r (acc ++ [(k, v)]) (by simpa using h)
    unfold mergeK at this ⊢
    rw [List.foldl_cons, e, this]
    simp
theorem mergeK_nd {kvs : List (Key × V)} (h : (kvs.map (·.1)).Nodup) : mergeK [] kvs = kvs := mergeK_go kvs [] h
end
/-- string keys of a display -/
def unS : List (V × V) → List (Key × V)
  | (.str k, v) :: r => (.inr k, v) :: unS r
  | _ => []
theorem go_DispS {H : Hp} {Q : VK} {kvs' : List (Key × V)} {p : Addr} {ps : List (V × V)} (h : H p = some (.dK [])) (e : ps = (unS ps).map (fun kv => (kV kv.1, kv.2))) (hl : (unS ps).length ≤ 15) (k : unS ps = kvs') {ks : List Key} (km : kvs'.map (·.1) = ks) (m : ks.Nodup) (q : ∀ H1, Wr H p (.dK kvs') H1 → Q (.ref p) H1) : DispK p Q ps H :=
  go_DispK (unS ps) h e hl (by subst k; exact mergeK_nd (km ▸ m)) q
end Bk

/-! our own: more steps -/
namespace Bk
open PySem L2 PyProof.Rows
theorem Same.chg {H0 H H' : Hp} {S : List Addr} (s : Same H0 H) (c : Chg S H H') (n : ∀ b ∈ S, H0 b = none) : Same H0 H' := fun b o e => c _ _ (s _ _ e) fun z => by rw [n b z] at e; cases e
section
variable {K : PySem.W.Frag} {σ : Bk.St} {H H1 : Hp} {Q : VK} {a : Addr} {xs : List V} {te : TE} {tt : TT} {m n : Nat} {lo : Int} {v x : V} {nx : Bk.St → Hp → Prop}
/-- a slice of the script -/
theorem go_slK {lo hi : Option Int} (h : SqL K H a xs) (q : ∀ p H1, New H p (.lst (cutV xs lo hi)) H1 → Q (.ref p) H1) : rSlP K (.ref a) lo hi H Q := .inl ⟨a, xs, rfl, h, new_of q⟩
theorem go_indexB {bs : List Bool} {j : Nat} (h : H a = some (.lst (bs.map V.bl))) (hj : bs[j]? = some true) (hl : ∀ m, m < j → bs[m]? = some false) (q : Q (.int j) H) : rIndex K (.ref a) [.bl true] H Q := by
  refine ⟨a, bs.map V.bl, .bl true, j, .bl true, rfl, rfl, SqL.of h, rfl, List.all_eq_true.mpr fun y hy => ?_, by rw [List.getElem?_map, hj]; rfl, rfl, fun m z' hm e => ?_, q⟩
  · obtain ⟨b, _, rfl⟩ := List.mem_map.mp hy
    rfl
  · rw [List.getElem?_map, hl m hm] at e
    cases e; rfl
theorem lc_bools {bs : List Bool} (h : H1 a = some (.lst (bs.map V.bl))) (hz : bs.length ≤ 1000) (hm : m < σ.length) (q : ∀ D H2, H1 D = none → Same H1 H2 → H2 D = some (.lst ((bs.filter id).map V.bl)) → Q (.ref D) H2) : LcK (gName m) (tB (tVar m)) (tVar m) [m] σ Q (Itl K a) H1 := by
  have at_ : ∀ x, ((σ.set m none).set m (some x))[m]? = some (some x) := fun x => List.getElem?_set_self (by simpa using hm)
  refine lc_L (f := id) (p := fun x => decide (x = .bl true)) h (by rw [sizeLine_eq, List.length_map]; omega) (fun i x H' QB hx s k => ?_) (fun i x H' Q' hx hp s k => ?_) (fun D H2 hD s hd => ?_)
  · obtain ⟨b, _, rfl⟩ := List.mem_map.mp (List.mem_of_getElem? hx)
    refine ⟨.bl b, at_ _, b, rfl, ?_⟩
    have := k H' (Same.refl _)
    cases b <;> exact this
  · exact ⟨x, at_ _, k H' (Same.refl _)⟩
  · refine q D H2 hD s ?_
    rw [hd, List.map_id, List.filter_map]
    congr 2
    congr 1
    refine List.filter_congr fun b _ => ?_
    cases b <;> rfl
end
/-- a heap without some places -/
def mask (H : Hp) (S : List Addr) : Hp := fun b => if b ∈ S then none else H b
theorem mask_same {H : Hp} {S : List Addr} : Same (mask H S) H := fun b o e => by
  unfold mask at e
  by_cases c : b ∈ S
  · rw [if_pos c] at e; cases e
  · rw [if_neg c] at e; exact e
theorem mask_in {H : Hp} {S : List Addr} {b : Addr} (h : b ∈ S) : mask H S b = none := by unfold mask; rw [if_pos h]
theorem mask_out {H : Hp} {S : List Addr} {b : Addr} (h : b ∉ S) : mask H S b = H b := by unfold mask; rw [if_neg h]
/-- lists of rows, as data -/
def rowsD (R : List (List Int)) : List PyData := R.map fun row => PyData.list (row.map PyData.int)
theorem dp_rows {K : PySem.W.Frag} {H : Hp} : ∀ {ks : List Addr} {R : List (List Int)}, ks.length = R.length → (∀ (i : Nat) (p : Addr), ks[i]? = some p → ∃ row, R[i]? = some row ∧ H p = some (.lst (row.map V.int))) → DpAll K H (ks.map V.ref) (rowsD R)
  | [], [], _, _ => .nil
  | p :: ks, row :: R, hl, h => by
    obtain ⟨row', e1, e2⟩ := h 0 p rfl
    cases e1
    exact .cons (dp_ints e2) (dp_rows (by simpa using hl) fun i q e => h (i + 1) q e)
theorem shaped_rows (R : List (List Int)) : SeqAt.shaped (.list (rowsD R)) = true := by
  have : PyData.canLayAll0 (rowsD R) = true ∧ PyData.depthAll (rowsD R) ≤ 2 := by
    induction R with
    | nil => exact ⟨by simp [rowsD, PyData.canLayAll0], by simp [rowsD, PyData.depthAll]⟩
    | cons row R ih =>
      have h1 := PySem.W.shaped_ints row
      have h2 := PySem.W.depthAll_ints row
      refine ⟨?_, ?_⟩
      · show PyData.canLayAll0 (PyData.list (row.map PyData.int) :: rowsD R) = true
        simp [PyData.canLayAll0, SeqAt.canLay_of_shaped h1, ih.1]
      · show PyData.depthAll (PyData.list (row.map PyData.int) :: rowsD R) ≤ 2
        simp only [PyData.depthAll, PyData.depth]
        have := ih.2
        omega
  exact shapedL this.1 this.2
/-! loops with targets of any kind; numbered lists -/
section
variable {K : PySem.W.Frag} {σ : Bk.St} {H H1 : Hp} {Q : VK} {a : Addr} {xs : List V} {g : TG} {tb : TS} {nx bk ct : Bk.St → Hp → Prop} {rt : VK} {te : TE} {tt : TT} {m n : Nat} {lo : Int}
theorem for_Lg (INV : Nat → Bk.St → Hp → Prop) (h : ∀ i σ H, INV i σ H → H a = some (.lst xs)) (h0 : INV 0 σ H1)
    (hs : ∀ i x σ H, xs[i]? = some x → INV i σ H → g x σ H fun σ2 H2 => tb ⟨INV (i + 1), rt, nx, INV (i + 1)⟩ σ2 H2) (hd : ∀ σ H, INV xs.length σ H → nx σ H) : ForK g tb ⟨nx, rt, bk, ct⟩ σ (Itl K a) H1 :=
  for_list (K := K) (a := a) (xs := xs) INV h0 (fun i σ H _ q => SqL.of (h i σ H q)) hs hd
theorem for_E (INV : Nat → Bk.St → Hp → Prop) (h : ∀ i σ H, INV i σ H → H a = some (.lst xs)) (h0 : INV 0 σ H1)
    (hs : ∀ i x σ H T H', xs[i]? = some x → INV i σ H → New H T (.tup [.int (i : Nat), x]) H' → g (.ref T) σ H' fun σ2 H2 => tb ⟨INV (i + 1), rt, nx, INV (i + 1)⟩ σ2 H2) (hd : ∀ σ H, INV xs.length σ H → nx σ H) : ForK g tb ⟨nx, rt, bk, ct⟩ σ (Ite K a) H1 := by
  refine ⟨fun i m σ H => m = xs.length - i ∧ i ≤ xs.length ∧ INV i σ H, ⟨xs.length, by simp, Nat.zero_le _, h0⟩, ?_⟩
  rintro i m σ H ⟨rfl, hi, p⟩
  have q := SqL.of (K := K) (h i σ H p)
  by_cases hlt : i < xs.length
  · refine .inr ⟨⟨xs, xs[i], q, by simp [hlt]⟩, INV (i + 1), fun σ' H' p' => ⟨xs.length - (i + 1), by omega, rfl, hlt, p'⟩, fun x H' y => ?_⟩
    obtain ⟨T, x, rfl, hT, rfl, y⟩ := y
    exact hs i x σ H T _ (y xs q) p ⟨hT, rfl⟩
  · have e : i = xs.length := by omega
    subst e
    exact .inl ⟨⟨xs, q, Nat.le_refl _⟩, hd σ H p⟩
def EnumK (K : PySem.W.Frag) (R : It → Hp → Prop) : List V → Hp → Prop := fun vs H1 => ∃ a xs, vs = [.ref a] ∧ SqL K H1 a xs ∧ R (Ite K a) H1
theorem go_enum {ta : TA} {R : It → Hp → Prop} (q : ta σ H (EnumK K R)) : iEnum K ta σ H R := q
theorem go_EnumL {R : It → Hp → Prop} (h : H a = some (.lst xs)) (q : R (Ite K a) H) : EnumK K R [.ref a] H := ⟨a, xs, rfl, SqL.of h, q⟩
/-- elements told by their numbers -/
theorem lc_idxL (f : Nat → V) (h : H1 a = some (.lst xs)) (hz : xs.length ≤ sizeLine)
    (step : ∀ i x H' Q', xs[i]? = some x → Same H1 H' → (∀ H'', Same H' H'' → Q' (f i) H'') → te ((σ.set m none).set m (some x)) H' Q')
    (q : ∀ D H2, H1 D = none → Same H1 H2 → H2 D = some (.lst ((List.range xs.length).map f)) → Q (.ref D) H2) : LcK (gName m) tYes te [m] σ Q (Itl K a) H1 := by
  refine lc_genL (fun D acc H' => acc = (List.range acc.length).map f) h hz (fun D acc H' H'' e _ => e) (fun D H' _ _ => rfl) ?_ ?_
  · rintro D acc i x H' Q' hD hx hl s hd iv k
    refine step i x H' Q' hx s fun H'' s2 => k _ _ s2 ?_
    rw [List.length_append, List.length_singleton, List.range_succ, List.map_append, ← iv, hl]
    rfl
  · rintro D vs H2 hD s hl iv hd
    exact q D H2 hD s (by rw [hd, iv, hl])
/-! ### lists of pairs of a number and a row -/
structure PrsAt (H : Hp) (P : Addr) (ts qs : List Addr) (prs : List (Int × List Int)) : Prop where
  rr : H P = some (.lst (ts.map V.ref))
  lt : ts.length = prs.length
  lq : qs.length = prs.length
  at_ : ∀ (i : Nat) (b : Int) (row : List Int), prs[i]? = some (b, row) → ∃ t q, ts[i]? = some t ∧ qs[i]? = some q ∧ H t = some (.tup [.int b, .ref q]) ∧ H q = some (.lst (row.map V.int))
theorem PrsAt.same {H H' : Hp} {P : Addr} {ts qs : List Addr} {prs : List (Int × List Int)} (h : PrsAt H P ts qs prs) (s : Same H H') : PrsAt H' P ts qs prs :=
  ⟨s _ _ h.rr, h.lt, h.lq, fun i b row e => let ⟨t, q, e1, e2, e3, e4⟩ := h.at_ i b row e; ⟨t, q, e1, e2, s _ _ e3, s _ _ e4⟩⟩
theorem PrsAt.chg {H H' : Hp} {S : List Addr} {P : Addr} {ts qs : List Addr} {prs : List (Int × List Int)} (h : PrsAt H P ts qs prs) (c : Chg S H H') (hP : P ∉ S) (ht : ∀ t ∈ ts, t ∉ S) (hq : ∀ q ∈ qs, q ∉ S) : PrsAt H' P ts qs prs :=
  ⟨c.at hP h.rr, h.lt, h.lq, fun i b row e => let ⟨t, q, e1, e2, e3, e4⟩ := h.at_ i b row e; ⟨t, q, e1, e2, c.at (ht t (List.mem_of_getElem? e1)) e3, c.at (hq q (List.mem_of_getElem? e2)) e4⟩⟩
/-- such pairs, made one by one -/
structure PrsNew (H1 : Hp) (D : Addr) (ts qs : List Addr) (prs : List (Int × List Int)) (H : Hp) : Prop where
  lt : ts.length = qs.length
  at_ : ∀ (i : Nat) (t q : Addr), ts[i]? = some t → qs[i]? = some q → ∃ b row, prs[i]? = some (b, row) ∧ H t = some (.tup [.int b, .ref q]) ∧ H q = some (.lst (row.map V.int))
  nt : ∀ t ∈ ts, t ≠ D ∧ H1 t = none
  nq : ∀ q ∈ qs, q ≠ D
theorem PrsNew.chg {H1 : Hp} {D : Addr} {ts qs : List Addr} {prs : List (Int × List Int)} {H H' : Hp} (w : PrsNew H1 D ts qs prs H) (c : Chg [D] H H') : PrsNew H1 D ts qs prs H' :=
  ⟨w.lt, fun i t q e1 e2 => let ⟨b, row, e3, e4, e5⟩ := w.at_ i t q e1 e2; ⟨b, row, e3, c.at (by simpa using (w.nt t (List.mem_of_getElem? e1)).1) e4, c.at (by simpa using w.nq q (List.mem_of_getElem? e2)) e5⟩, w.nt, w.nq⟩
theorem PrsNew.nil {H1 : Hp} {D : Addr} {prs : List (Int × List Int)} {H : Hp} : PrsNew H1 D [] [] prs H := ⟨rfl, by simp, by simp, by simp⟩
theorem get_snoc {α : Type} {l : List α} {x y : α} {i : Nat} (h : (l ++ [x])[i]? = some y) : l[i]? = some y ∨ (i = l.length ∧ y = x) := by
  by_cases c : i < l.length
  · rw [List.getElem?_append_left c] at h; exact .inl h
  · rw [List.getElem?_append_right (by omega)] at h
    have e1 : i - l.length = 0 := by
      have := (List.getElem?_eq_some_iff.mp h).1
      simp at this; omega
    rw [e1] at h
    cases h
    exact .inr ⟨by omega, rfl⟩
theorem PrsNew.snoc {H1 : Hp} {D t q : Addr} {ts qs : List Addr} {prs : List (Int × List Int)} {H H' : Hp} {u : HO} {b : Int} {row : List Int} (w : PrsNew H1 D ts qs prs H) (hD : H D = some u) (s : Same H H') (s0 : Same H1 H) (h1D : H1 D = none) (e : prs[ts.length]? = some (b, row))
    (ht : H t = none) (h : H' t = some (.tup [.int b, .ref q])) (hq : (∃ u, H1 q = some u) ∨ H q = none) (k : H' q = some (.lst (row.map V.int))) : PrsNew H1 D (ts ++ [t]) (qs ++ [q]) prs H' := by
  refine ⟨by simp [w.lt], fun i t' q' e1 e2 => ?_, fun t' ht' => ?_, fun q' hq' => ?_⟩
  · rcases get_snoc e1 with e1 | ⟨e1', rfl⟩
    · rcases get_snoc e2 with e2 | ⟨e2', rfl⟩
      · obtain ⟨b', row', e3, e4, e5⟩ := w.at_ i t' q' e1 e2
        exact ⟨b', row', e3, s _ _ e4, s _ _ e5⟩
      · have := (List.getElem?_eq_some_iff.mp e1).1
        rw [w.lt] at this; omega
    · rcases get_snoc e2 with e2 | ⟨e2', rfl⟩
      · have := (List.getElem?_eq_some_iff.mp e2).1
        rw [← w.lt] at this; omega
      · exact ⟨b, row, by rw [e1']; exact e, h, k⟩
  · rcases List.mem_append.mp ht' with z | z
    · exact w.nt t' z
    · rw [List.mem_singleton.mp z]; exact ⟨Ne.symm (ne_none ht hD), s0.free ht⟩
  · rcases List.mem_append.mp hq' with z | z
    · exact w.nq q' z
    · rw [List.mem_singleton.mp z]
      rcases hq with ⟨u, e⟩ | e
      · intro z; rw [z, h1D] at e; cases e
      · exact Ne.symm (ne_none e hD)
theorem PrsNew.prs {H1 : Hp} {D : Addr} {ts qs : List Addr} {prs : List (Int × List Int)} {H : Hp} (w : PrsNew H1 D ts qs prs H) (hl : ts.length = prs.length) (hd : H D = some (.lst (ts.map V.ref))) : PrsAt H D ts qs prs :=
  ⟨hd, hl, w.lt ▸ hl, fun i b row e => by
    have hi : i < prs.length := (List.getElem?_eq_some_iff.mp e).1
    have e1 : ts[i]? = some (ts[i]'(by omega)) := List.getElem?_eq_getElem _
    have e2 : qs[i]? = some (qs[i]'(by have := w.lt; omega)) := List.getElem?_eq_getElem _
    obtain ⟨b', row', e3, e4, e5⟩ := w.at_ i _ _ e1 e2
    rw [e] at e3; cases e3
    exact ⟨_, _, e1, e2, e4, e5⟩⟩
theorem lc_prsL {prs : List (Int × List Int)} (h : H1 a = some (.lst xs)) (hl : xs.length = prs.length) (hz : xs.length ≤ 1000)
    (step : ∀ (i : Nat) (x : V) (b : Int) (row : List Int) (H' : Hp) (Q' : VK), xs[i]? = some x → prs[i]? = some (b, row) → Same H1 H' → (∀ t q H'', Same H' H'' → H' t = none → H'' t = some (.tup [.int b, .ref q]) → ((∃ u, H1 q = some u) ∨ H' q = none) → H'' q = some (.lst (row.map V.int)) → Q' (.ref t) H'') → te ((σ.set m none).set m (some x)) H' Q')
    (q : ∀ D ts qs H2, H1 D = none → Same H1 H2 → PrsAt H2 D ts qs prs → (∀ t ∈ ts, H1 t = none) → Q (.ref D) H2) : LcK (gName m) tYes te [m] σ Q (Itl K a) H1 := by
  refine lc_genL (fun D acc H' => ∃ ts qs : List Addr, acc = ts.map V.ref ∧ PrsNew H1 D ts qs prs H') h (by rw [sizeLine_eq]; omega) (fun D acc H' H'' ⟨ts, qs, e, w⟩ c => ⟨ts, qs, e, w.chg c⟩) (fun D H' _ _ => ⟨[], [], rfl, .nil⟩) ?_ ?_
  · rintro D acc i x H' Q' hD hx hl2 s hd ⟨ts, qs, rfl, w⟩ k
    have hi : i < prs.length := by have := (List.getElem?_eq_some_iff.mp hx).1; omega
    have e : prs[i]? = some (prs[i].1, prs[i].2) := List.getElem?_eq_getElem hi
    refine step i x _ _ H' Q' hx e s fun t q H'' s2 ht ht2 hq hq2 => k _ _ s2 ⟨ts ++ [t], qs ++ [q], map_snoc, w.snoc hd s2 s hD (b := prs[i].1) (row := prs[i].2) ?_ ht ht2 hq hq2⟩
    rw [show ts.length = i by simpa using hl2]; exact e
  · rintro D vs H2 hD s hl2 ⟨ts, qs, rfl, w⟩ hd
    exact q D ts qs H2 hD s (w.prs (by simp at hl2; omega) hd) fun t ht => (w.nt t ht).2
theorem lc_prsR {prs : List (Int × List Int)} (hl : n = prs.length) (hz : n ≤ 1000)
    (step : ∀ (i : Nat) (b : Int) (row : List Int) (H' : Hp) (Q' : VK), i < n → prs[i]? = some (b, row) → Same H1 H' → (∀ t q H'', Same H' H'' → H' t = none → H'' t = some (.tup [.int b, .ref q]) → ((∃ u, H1 q = some u) ∨ H' q = none) → H'' q = some (.lst (row.map V.int)) → Q' (.ref t) H'') → te ((σ.set m none).set m (some (.int (lo + i)))) H' Q')
    (q : ∀ D ts qs H2, H1 D = none → Same H1 H2 → PrsAt H2 D ts qs prs → (∀ t ∈ ts, H1 t = none) → Q (.ref D) H2) : LcK (gName m) tYes te [m] σ Q (Itr lo n) H1 := by
  refine lc_genR (fun D acc H' => ∃ ts qs : List Addr, acc = ts.map V.ref ∧ PrsNew H1 D ts qs prs H') (by rw [sizeLine_eq]; omega) (fun D acc H' H'' ⟨ts, qs, e, w⟩ c => ⟨ts, qs, e, w.chg c⟩) (fun D H' _ _ => ⟨[], [], rfl, .nil⟩) ?_ ?_
  · rintro D acc i H' Q' hD hx hl2 s hd ⟨ts, qs, rfl, w⟩ k
    have hi : i < prs.length := by omega
    have e : prs[i]? = some (prs[i].1, prs[i].2) := List.getElem?_eq_getElem hi
    refine step i _ _ H' Q' hx e s fun t q H'' s2 ht ht2 hq hq2 => k _ _ s2 ⟨ts ++ [t], qs ++ [q], map_snoc, w.snoc hd s2 s hD (b := prs[i].1) (row := prs[i].2) ?_ ht ht2 hq hq2⟩
    rw [show ts.length = i by simpa using hl2]; exact e
  · rintro D vs H2 hD s hl2 ⟨ts, qs, rfl, w⟩ hd
    exact q D ts qs H2 hD s (w.prs (by simp at hl2; omega) hd) fun t ht => (w.nt t ht).2
end
def prsD (prs : List (Int × List Int)) : List PyData := prs.map fun p => PyData.tuple [.int p.1, .list (p.2.map PyData.int)]
theorem dp_prs {K : PySem.W.Frag} {H : Hp} : ∀ {ts qs : List Addr} {prs : List (Int × List Int)}, ts.length = prs.length → (∀ (i : Nat) (b : Int) (row : List Int), prs[i]? = some (b, row) → ∃ t q, ts[i]? = some t ∧ qs[i]? = some q ∧ H t = some (.tup [.int b, .ref q]) ∧ H q = some (.lst (row.map V.int))) → DpAll K H (ts.map V.ref) (prsD prs)
  | [], _, [], _, _ => .nil
  | t :: ts, qs, (b, row) :: prs, hl, h => by
    obtain ⟨t', q, e1, e2, e3, e4⟩ := h 0 b row rfl
    cases e1
    refine .cons (.tup (SqT.of e3) (.cons (.int b) (.cons (dp_ints e4) .nil))) (dp_prs (qs := qs.tail) (by simpa using hl) fun i b' row' e => ?_)
    obtain ⟨t', q', f1, f2, f3, f4⟩ := h (i + 1) b' row' e
    exact ⟨t', q', f1, by simpa [List.getElem?_tail] using f2, f3, f4⟩
theorem PrsAt.dp {K : PySem.W.Frag} {H : Hp} {P : Addr} {ts qs : List Addr} {prs : List (Int × List Int)} (h : PrsAt H P ts qs prs) : Dp K H (.ref P) (.list (prsD prs)) := .lst (SqL.of h.rr) (dp_prs h.lt h.at_)
theorem shaped_prs (prs : List (Int × List Int)) : SeqAt.shaped (.list (prsD prs)) = true := by
  have : PyData.canLayAll0 (prsD prs) = true ∧ PyData.depthAll (prsD prs) ≤ 3 := by
    induction prs with
    | nil => exact ⟨by simp [prsD, PyData.canLayAll0], by simp [prsD, PyData.depthAll]⟩
    | cons p prs ih =>
      have h1 := PySem.W.shaped_ints p.2
      have h2 := PySem.W.depthAll_ints p.2
      refine ⟨?_, ?_⟩
      · show PyData.canLayAll0 (PyData.tuple [.int p.1, .list (p.2.map PyData.int)] :: prsD prs) = true
        simp [PyData.canLayAll0, PyData.canLay0, SeqAt.canLay_of_shaped h1, ih.1]
        have := SeqAt.canLay_of_shaped h1
        simpa [PyData.canLay0] using this
      · show PyData.depthAll (PyData.tuple [.int p.1, .list (p.2.map PyData.int)] :: prsD prs) ≤ 3
        simp only [PyData.depthAll, PyData.depth]
        have := ih.2
        omega
  unfold SeqAt.shaped
  rw [Bool.and_eq_true]
  exact ⟨by simp only [PyData.canLay0]; exact this.1, decide_eq_true (by simp only [PyData.depth]; omega)⟩
end Bk

/-! our own: sorted, dicts with whole numbers for keys -/
namespace Bk
open PySem L2 PyProof.Rows
def rSortDI : List V → Hp → VK → Prop := fun xs H Q => ∃ (a : Addr) (kvs : List (Key × V)) (ks : List Int), xs = [.ref a] ∧ Rd H a (.dK kvs) ∧ kvs.map (·.1) = ks.map Sum.inl ∧ ks.length < 64 ∧
    ∀ (ys : List Int) (p : Addr), ys.Perm ks → ys.Pairwise (· ≤ ·) → H p = none → Q (.ref p) (upd H p (.lst (ys.map V.int)))
def rSortedP (K : PySem.W.Frag) : List V → Hp → VK → Prop := fun xs H Q => rSortDI xs H Q
theorem call_sortedP {X : Cx} (hc : X.calm = true) : CallR X (.builtin "sorted") (rSortedP X.K) := call_sortedDI hc
section
variable {K : PySem.W.Frag} {H : Hp} {Q : VK} {a : Addr}
theorem go_sortDI {kvs : List (Key × V)} {ks : List Int} (h : H a = some (.dK kvs)) (hk : kvs.map (·.1) = ks.map Sum.inl) (hl : ks.length < 64)
    (q : ∀ (ys : List Int) (p : Addr) (H1 : Hp), ys.Perm ks → ys.Pairwise (· ≤ ·) → New H p (.lst (ys.map V.int)) H1 → Q (.ref p) H1) : rSortedP K [.ref a] H Q :=
  ⟨a, kvs, ks, rfl, .inl h, hk, hl, fun ys p h1 h2 h3 => q ys p _ h1 h2 ⟨h3, rfl⟩⟩
end
/-! ### dicts whose keys are whole numbers, told as lists -/
/-- the dict d of pairs -/
def dI (ps : List (Int × V)) : List (Key × V) := ps.map fun p => (.inl p.1, p.2)
/-- put: in its place, or at the end -/
def putI (ps : List (Int × V)) (k : Int) (v : V) : List (Int × V) := if (ps.any fun p => decide (p.1 = k)) = true then ps.map (fun p => if p.1 = k then (p.1, v) else p) else ps ++ [(k, v)]
theorem putK_dI (ps : List (Int × V)) (k : Int) (v : V) : putK (dI ps) (.inl k) v = dI (putI ps k v) := by
  unfold putK putI dI
  have e : ((ps.map fun p => ((Sum.inl p.1 : Key), p.2)).any fun kv => decide (kv.1 = Sum.inl k)) = ps.any fun p => decide (p.1 = k) := by
    rw [List.any_map]
    congr 1
    funext p
    by_cases c : p.1 = k <;> simp [c]
  rw [e]
  by_cases c : (ps.any fun p => decide (p.1 = k)) = true
  · rw [if_pos c, if_pos c, List.map_map, List.map_map]
    refine List.map_congr_left fun p _ => ?_
    by_cases z : p.1 = k <;> simp [z]
  · rw [if_neg c, if_neg c]
    simp
theorem putI_len (ps : List (Int × V)) (k : Int) (v : V) : (putI ps k v).length ≤ ps.length + 1 := by
  unfold putI
  split
  · simp
  · simp
theorem mem_putI {ps : List (Int × V)} {k : Int} {v : V} {p : Int × V} (h : p ∈ putI ps k v) : p = (k, v) ∨ (p ∈ ps ∧ p.1 ≠ k) := by
  unfold putI at h
  split at h
  · obtain ⟨q, hq, e⟩ := List.mem_map.mp h
    by_cases z : q.1 = k
    · rw [if_pos z] at e; subst e; exact .inl (by rw [z])
    · rw [if_neg z] at e; subst e; exact .inr ⟨hq, z⟩
  · rename_i c
    rcases List.mem_append.mp h with h | h
    · refine .inr ⟨h, fun z => c ?_⟩
      exact List.any_eq_true.mpr ⟨p, h, decide_eq_true z⟩
    · exact .inl (List.mem_singleton.mp h)
theorem keys_putI {ps : List (Int × V)} {k : Int} {v : V} (h : (ps.map (·.1)).Nodup) : ((putI ps k v).map (·.1)).Nodup := by
  unfold putI
  split
  · rw [List.map_map]
    have : (ps.map ((fun p => p.1) ∘ fun p => if p.1 = k then (p.1, v) else p)) = ps.map (·.1) := List.map_congr_left fun p _ => by
      show (if p.1 = k then (p.1, v) else p).1 = p.1
      split <;> rfl
    rw [this]; exact h
  · rename_i c
    rw [List.map_append, List.nodup_append]
    refine ⟨h, by simp, fun x hx y hy e => c ?_⟩
    obtain ⟨p, hp, e1⟩ := List.mem_map.mp hx
    have e2 : y = k := by simpa using hy
    exact List.any_eq_true.mpr ⟨p, hp, decide_eq_true (by rw [e1, e, e2])⟩
theorem valV_dI {ps : List (Int × V)} {k : Int} {v : V} (hn : (ps.map (·.1)).Nodup) (h : (k, v) ∈ ps) : valV (dI ps) (.inl k) = some v := by
  induction ps with
  | nil => cases h
  | cons p ps ih =>
    rw [List.map_cons, List.nodup_cons] at hn
    rcases List.mem_cons.mp h with e | h
    · subst e
      exact valV_pos rfl
    · have ne : ¬ p.1 = k := fun e => hn.1 (by rw [e]; exact List.mem_map_of_mem (f := (·.1)) h)
      show valV ((Sum.inl p.1, p.2) :: dI ps) (Sum.inl k) = _
      rw [valV_neg (by simpa using ne)]
      exact ih hn.2 h
theorem keys_dI (ps : List (Int × V)) : (dI ps).map (·.1) = (ps.map (·.1)).map Sum.inl := by simp [dI]
/-- sorted, and each once: rising -/
theorem rising {ys : List Int} (h : ys.Pairwise (· ≤ ·)) (n : ys.Nodup) : ys.Pairwise (· < ·) := by
  refine (h.and n).imp fun ⟨a, b⟩ => ?_
  rcases Int.lt_or_eq_of_le a with h | h
  · exact h
  · exact absurd h b
section
variable {H : Hp} {Q : VK}
theorem go_p109 (q : Q (.int 1000000000) H) : rPowP (.int 10) (.int 9) H Q := go_pow (by unfold CPow; omega) q
theorem go_p1020 (q : Q (.int 100000000000000000000) H) : rPowP (.int 10) (.int 20) H Q := go_pow (by unfold CPow; omega) q
end
theorem skol {α : Type} {ys : List Int} {P : Int → α → Prop} (x0 : α) (h : ∀ y ∈ ys, ∃ x, P y x) : ∃ f : Int → α, ∀ y ∈ ys, P y (f y) := by
  classical
  exact ⟨fun y => if c : y ∈ ys then Classical.choose (h y c) else x0, fun y hy => by dsimp only; rw [dif_pos hy]; exact Classical.choose_spec (h y hy)⟩
/-- entries: pairs of a number and a row, without the list that holds them -/
structure Ent (H : Hp) (ts qs : List Addr) (prs : List (Int × List Int)) : Prop where
  lt : ts.length = prs.length
  lq : qs.length = prs.length
  at_ : ∀ (i : Nat) (b : Int) (row : List Int), prs[i]? = some (b, row) → ∃ t q, ts[i]? = some t ∧ qs[i]? = some q ∧ H t = some (.tup [.int b, .ref q]) ∧ H q = some (.lst (row.map V.int))
theorem PrsAt.ent {H : Hp} {P : Addr} {ts qs : List Addr} {prs : List (Int × List Int)} (h : PrsAt H P ts qs prs) : Ent H ts qs prs := ⟨h.lt, h.lq, h.at_⟩
theorem Ent.prs {H : Hp} {P : Addr} {ts qs : List Addr} {prs : List (Int × List Int)} (h : Ent H ts qs prs) (e : H P = some (.lst (ts.map V.ref))) : PrsAt H P ts qs prs := ⟨e, h.lt, h.lq, h.at_⟩
theorem Ent.same {H H' : Hp} {ts qs : List Addr} {prs : List (Int × List Int)} (h : Ent H ts qs prs) (s : Same H H') : Ent H' ts qs prs :=
  ⟨h.lt, h.lq, fun i b row e => let ⟨t, q, e1, e2, e3, e4⟩ := h.at_ i b row e; ⟨t, q, e1, e2, s _ _ e3, s _ _ e4⟩⟩
theorem Ent.one {H : Hp} {t q : Addr} {b : Int} {row : List Int} (h : H t = some (.tup [.int b, .ref q])) (k : H q = some (.lst (row.map V.int))) : Ent H [t] [q] [(b, row)] :=
  ⟨rfl, rfl, fun i b' row' e => by
    rcases i with _ | i
    · cases e; exact ⟨t, q, rfl, rfl, h, k⟩
    · simp at e⟩
theorem Ent.app {H : Hp} {ts qs ts' qs' : List Addr} {prs prs' : List (Int × List Int)} (h : Ent H ts qs prs) (k : Ent H ts' qs' prs') : Ent H (ts ++ ts') (qs ++ qs') (prs ++ prs') := by
  refine ⟨by simp [h.lt, k.lt], by simp [h.lq, k.lq], fun i b row e => ?_⟩
  by_cases c : i < prs.length
  · rw [List.getElem?_append_left c] at e
    obtain ⟨t, q, e1, e2, e3, e4⟩ := h.at_ i b row e
    exact ⟨t, q, by rw [List.getElem?_append_left (by rw [h.lt]; exact c)]; exact e1, by rw [List.getElem?_append_left (by rw [h.lq]; exact c)]; exact e2, e3, e4⟩
  · rw [List.getElem?_append_right (by omega)] at e
    obtain ⟨t, q, e1, e2, e3, e4⟩ := k.at_ _ b row e
    exact ⟨t, q, by rw [List.getElem?_append_right (by rw [h.lt]; omega), h.lt]; exact e1, by rw [List.getElem?_append_right (by rw [h.lq]; omega), h.lq]; exact e2, e3, e4⟩
section
variable {K : PySem.W.Frag} {σ : Bk.St} {H H1 : Hp} {Q : VK} {a : Addr} {xs : List V} {te : TE} {m : Nat}
/-- pairs made with new rows -/
theorem lc_prsN {prs : List (Int × List Int)} (h : H1 a = some (.lst xs)) (hl : xs.length = prs.length) (hz : xs.length ≤ 1000)
    (step : ∀ (i : Nat) (x : V) (b : Int) (row : List Int) (H' : Hp) (Q' : VK), xs[i]? = some x → prs[i]? = some (b, row) → Same H1 H' → (∀ t q H'', Same H' H'' → H' t = none → H'' t = some (.tup [.int b, .ref q]) → H' q = none → H'' q = some (.lst (row.map V.int)) → Q' (.ref t) H'') → te ((σ.set m none).set m (some x)) H' Q')
    (q : ∀ D ts qs H2, H1 D = none → Same H1 H2 → PrsAt H2 D ts qs prs → (∀ t ∈ ts, H1 t = none) → (∀ t ∈ qs, H1 t = none) → Q (.ref D) H2) : LcK (gName m) tYes te [m] σ Q (Itl K a) H1 := by
  refine lc_genL (fun D acc H' => ∃ ts qs : List Addr, acc = ts.map V.ref ∧ PrsNew H1 D ts qs prs H' ∧ ∀ q ∈ qs, H1 q = none) h (by rw [sizeLine_eq]; omega) (fun D acc H' H'' ⟨ts, qs, e, w, f⟩ c => ⟨ts, qs, e, w.chg c, f⟩) (fun D H' _ _ => ⟨[], [], rfl, .nil, by simp⟩) ?_ ?_
  · rintro D acc i x H' Q' hD hx hl2 s hd ⟨ts, qs, rfl, w, f⟩ k
    have hi : i < prs.length := by have := (List.getElem?_eq_some_iff.mp hx).1; omega
    have e : prs[i]? = some (prs[i].1, prs[i].2) := List.getElem?_eq_getElem hi
    refine step i x _ _ H' Q' hx e s fun t q H'' s2 ht ht2 hq hq2 => k _ _ s2 ⟨ts ++ [t], qs ++ [q], map_snoc, w.snoc hd s2 s hD (b := prs[i].1) (row := prs[i].2) ?_ ht ht2 (.inr hq) hq2, fun q' hq' => ?_⟩
    · rw [show ts.length = i by simpa using hl2]; exact e
    · rcases List.mem_append.mp hq' with z | z
      · exact f q' z
      · rw [List.mem_singleton.mp z]; exact s.free hq
  · rintro D vs H2 hD s hl2 ⟨ts, qs, rfl, w, f⟩ hd
    exact q D ts qs H2 hD s (w.prs (by simp at hl2; omega) hd) (fun t ht => (w.nt t ht).2) f
end
end Bk

/-! our own: max of ints with a default -/
namespace Bk
open PySem L2 PyProof PyProof.Rows
theorem maxD_args (a d : Value) : argsOk "max" ⟨[a], [(Str.ofString "default", d)]⟩ := by unfold argsOk; kernel_rfl
section
variable {prog : Program} {w : World} {A : Around} {I : Addr} {fp wr : List Addr} {n : Nat} {P : Nat → Value → Prop} {St : Nat → Heap → Prop} {d : Value}
theorem maxD_name : (toString "max" ++ toString ".loop" : String) = "max.loop" := by decide
/-- the loop, from its second turn on -/
theorem maxD_turn (W : Walks prog w A.in1 I fp wr n P St) (bt : Nat → Nat → Bool) (hc : CmpOf prog w A.in1 .Gt P bt) (S : Addr) (hSf : S ∉ fp) {R : Result → Shared → Prop} : ∀ (k j : Nat) (s : Shared) (vb : Value) (c : Nat), n = k + (j + 1) → St (j + 1) s.heap → P (argBest bt j) vb →
    s.heap.get? S = some ⟨.type "list", none, .seq #[vb, vb] c, #[]⟩ →
    (∀ v h' tk, P (argBest bt (n - 1)) v → (∀ b o, b ∉ wr → b ≠ S → s.heap.get? b = some o → h'.get? b = some o) → R (.ok (.ret v)) { s with heap := h', toks := tk }) →
    codeAny (model prog w) A (.builtin "max.loop" ⟨[.ref I, .none, .ref S], [(Str.ofString "default", d)]⟩) R s := by
  have nw : S ∉ wr := fun h => hSf (W.sub _ h)
  intro k
  induction k with
  | zero =>
    intro j s vb c hn st pb gS hR
    refine codeAny_builtin F.entry_max_loop ?_
    rw [Around.under_plainId F.plain_max_loop _]
    show wpAny _ A.in1 (seqItems? (.ref S) >>= _) _ _ s
    refine wpAny_bind (wpAny_seqItems gS rfl ?_)
    show wpAny _ A.in1 (tryCatch (pyNext (.ref I)) _ >>= _) _ _ s
    refine wpAny_bind (wpAny_tryCatch (W.done s _ _ (by rw [show n = j + 1 by omega]; exact st) fun h1 tk k1 => ?_))
    show wpAny _ A.in1 (updateSeq S (fun _ => #[]) >>= _) _ _ _
    refine wpAny_bind (wpAny_updateSeq (k1 S _ nw gS) rfl (wpAny_bind (wpAny_letGo (wpAny_pure ?_))))
    exact hR vb _ tk (by rw [show n - 1 = j by omega]; exact pb) fun b o hb ne e => (Heap.get?_update_other _ _ (Ne.symm ne)).trans (k1 b o hb e)
  | succ k ih =>
    intro j s vb c hn st pb gS hR
    refine codeAny_builtin F.entry_max_loop ?_
    rw [Around.under_plainId F.plain_max_loop _]
    show wpAny _ A.in1 (seqItems? (.ref S) >>= _) _ _ s
    refine wpAny_bind (wpAny_seqItems gS rfl ?_)
    show wpAny _ A.in1 (tryCatch (pyNext (.ref I)) _ >>= _) _ _ s
    refine wpAny_bind (wpAny_tryCatch (W.item (j + 1) s _ _ (by omega) st fun v h1 tk pv st1 k1 => ?_))
    have gS1 := k1 S _ nw gS
    show wpAny _ A.in1 (tryCatch (holding [v, v] (richCompare .Gt v vb >>= _)) _ >>= _) _ _ _
    refine wpAny_bind (wpAny_tryCatch (wpAny_holding (wpAny_bind (hc (j + 1) (argBest bt j) v vb _ _ _ pv pb ?_))))
    refine wpAny_bind (wpAny_holding (wpAny_truthy_bool ?_))
    refine wpAny_bind (wpAny_letGo (wpAny_pure ?_))
    cases e : bt (j + 1) (argBest bt j) with
    | true =>
      simp only [if_true]
      refine wpAny_bind (wpAny_updateSeq gS1 rfl (wpAny_bind (wpAny_letGo ?_)))
      rw [maxD_name]
      refine wpAny_pure ⟨plainId_quiet F.plain_max_loop _, ih (j + 1) _ v _ (by omega) (W.frame _ _ _ st1 fun b hb o eb => ?_) (by simp only [argBest, e, if_true]; exact pv) (Heap.get?_update_self _ gS1 rfl) fun v2 h2 tk2 pv2 k2 => ?_⟩
      · exact (Heap.get?_update_other _ _ (fun z : S = b => hSf (z ▸ hb))).trans eb
      · exact hR v2 h2 tk2 pv2 fun b o hb ne eb => k2 b o hb ne ((Heap.get?_update_other _ _ (Ne.symm ne)).trans (k1 b o hb eb))
    | false =>
      simp only [Bool.false_eq_true, if_false]
      refine wpAny_bind (wpAny_letGo ?_)
      rw [maxD_name]
      refine wpAny_pure ⟨plainId_quiet F.plain_max_loop _, ih (j + 1) _ vb c (by omega) st1 (by simp only [argBest, e, Bool.false_eq_true, if_false]; exact pb) gS1 fun v2 h2 tk2 pv2 k2 => ?_⟩
      exact hR v2 h2 tk2 pv2 fun b o hb ne eb => k2 b o hb ne (k1 b o hb eb)
theorem maxD_first (W : Walks prog w A.in1 I fp wr n P St) (bt : Nat → Nat → Bool) (hc : CmpOf prog w A.in1 .Gt P bt) (S : Addr) (hSf : S ∉ fp) {R : Result → Shared → Prop} {s : Shared} {c : Nat} (st : St 0 s.heap) (gS : s.heap.get? S = some ⟨.type "list", none, .seq #[] c, #[]⟩)
    (h0 : n = 0 → ∀ h' tk, (∀ b o, b ∉ wr → s.heap.get? b = some o → h'.get? b = some o) → R (.ok (.ret d)) { s with heap := h', toks := tk })
    (hR : 0 < n → ∀ v h' tk, P (argBest bt (n - 1)) v → (∀ b o, b ∉ wr → b ≠ S → s.heap.get? b = some o → h'.get? b = some o) → R (.ok (.ret v)) { s with heap := h', toks := tk }) :
    codeAny (model prog w) A (.builtin "max.loop" ⟨[.ref I, .none, .ref S], [(Str.ofString "default", d)]⟩) R s := by
  have nw : S ∉ wr := fun h => hSf (W.sub _ h)
  refine codeAny_builtin F.entry_max_loop ?_
  rw [Around.under_plainId F.plain_max_loop _]
  show wpAny _ A.in1 (seqItems? (.ref S) >>= _) _ _ s
  refine wpAny_bind (wpAny_seqItems gS rfl ?_)
  show wpAny _ A.in1 (tryCatch (pyNext (.ref I)) _ >>= _) _ _ s
  by_cases z : n = 0
  · subst z
    refine wpAny_bind (wpAny_tryCatch (W.done s _ _ st fun h1 tk k1 => ?_))
    show wpAny _ A.in1 (rule _ >>= _) _ _ _
    exact wpAny_bind (wpAny_rule (wpAny_pure (h0 rfl h1 tk k1)))
  · refine wpAny_bind (wpAny_tryCatch (W.item 0 s _ _ (by omega) st fun v h1 tk pv st1 k1 => ?_))
    have gS1 := k1 S _ nw gS
    show wpAny _ A.in1 (updateSeq S (fun _ => #[v, v]) >>= _) _ _ _
    refine wpAny_bind (wpAny_updateSeq gS1 rfl ?_)
    rw [maxD_name]
    refine wpAny_pure ⟨plainId_quiet F.plain_max_loop _, maxD_turn W bt hc S hSf (n - 1) 0 _ v _ (by omega) (W.frame _ _ _ st1 fun b hb o eb => ?_) pv (Heap.get?_update_self _ gS1 rfl) fun v2 h2 tk2 pv2 k2 => ?_⟩
    · exact (Heap.get?_update_other _ _ (fun z : S = b => hSf (z ▸ hb))).trans eb
    · exact hR (by omega) v2 h2 tk2 pv2 fun b o hb ne eb => k2 b o hb ne ((Heap.get?_update_other _ _ (Ne.symm ne)).trans (k1 b o hb eb))
end
section
variable {prog : Program} {w : World} {A : Around} {E : Value → Shared → Prop} {s : Shared} {l : Addr} {d : Value}
theorem call_fn_kw {id : String} {bi : Builtin} {args : List Value} {kw : List (Str × Value)} {Q : Value → Shared → Prop} (hk : builtinKind id = none) (hp : plainId id = true) (hb : entryFor table id = some bi) (ha : argsOk id ⟨args, kw⟩)
    (hc : wpAny (model prog w) A.in1 (bi ⟨args, kw⟩) (fun fin s' => match fin with
      | .done f => (match (Except.ok f : Result) with | .ok (.ret v) => Q v s' | .ok _ => False | .error e => E e s')
      | .again c' => c'.quiet = true ∧ codeAny (model prog w) A c' (fun r s' => match r with | .ok (.ret v) => Q v s' | .ok _ => False | .error e => E e s') s') E s) : wpAny (model prog w) A (call (.builtin id) args kw) Q E s := by
  refine wpAny_call (codeAny_call_builtin hp hb ?_)
  simp only [checkBuiltinCall, hk]
  cases hg : Manifest.signature? id with
  | none => exact wpAny_pure hc
  | some sg =>
    simp only [argsOk, hg] at ha
    show wpAny _ A.in1 (Bind.checkArgs id sg ⟨args, kw⟩) _ _ s
    rw [show Bind.checkArgs id sg ⟨args, kw⟩ = pure () from ha]
    exact wpAny_pure hc
theorem maxD_list {xs : Array (Int × Tok)} {Q : Value → Shared → Prop} (hh : A.handled = none) (hl : s.heap.IsList l (intItems xs))
    (h0 : xs.size = 0 → ∀ h' tk, (∀ b o, s.heap.get? b = some o → h'.get? b = some o) → Q d { s with heap := h', toks := tk })
    (h : 0 < xs.size → ∀ v h' tk, (intItems xs)[argBest (fun i j => decide (numAt xs i > numAt xs j)) (xs.size - 1)]? = some v → (∀ b o, s.heap.get? b = some o → h'.get? b = some o) → Q v { s with heap := h', toks := tk }) :
    wpAny (model prog w) A (call (.builtin "max") [.ref l] [(Str.ofString "default", d)]) Q E s := by
  refine call_fn_kw F.kind_max F.plain_max F.entry_max (maxD_args _ _) ?_
  show wpAny _ A.in1 (Builtin.Builtins.bindParams "max" ["key", "default"] 0 ⟨[], [(Str.ofString "default", d)]⟩ >>= _) _ _ s
  refine wpAny_bind (wpAny_of_eq (show Builtin.Builtins.bindParams "max" ["key", "default"] 0 ⟨[], [(Str.ofString "default", d)]⟩ = pure [none, some d] from rfl) ?_)
  refine wpAny_bind (wpAny_pure ?_)
  refine wpAny_bind (iter_intList (A := A.in1) hl fun s2 e st hfp hlI => ?_)
  subst e
  have hn : (intItems xs).size = xs.size := by simp [intItems]
  refine wpAny_bind (wpAny_newObj_type ?_)
  rw [maxD_name]
  have W := Walks.list (prog := prog) (w := w) (A := A.in1) hh s.heap.objs.size l hlI (intItems xs)
  have fr : ∀ {I : Addr} (fp : List Addr) (h : Heap), (∀ b ∈ fp, b < h.objs.size) → h.objs.size ∉ fp := fun fp h hf hm => Nat.lt_irrefl _ (hf _ hm)
  refine wpAny_pure ⟨plainId_quiet F.plain_max_loop _, maxD_first W (fun i j => decide (numAt xs i > numAt xs j)) (CmpOf.ints_gt (numAt xs) (fun _ _ => intItems_at)) _ (fun hm => Nat.lt_irrefl _ (hfp _ hm)) (W.frame _ _ _ st fun b _ o e => Heap.get?_push_of_some _ e) (Heap.get?_push_size _ rfl) (fun hz h' tk k => ?_) (fun hz v h' tk pv k => ?_)⟩
  · exact h0 (by rw [← hn]; exact hz) h' tk fun b o e => k b o (by simpa using Nat.ne_of_lt (Heap.lt_size e)) (Heap.get?_push_of_some _ (Heap.get?_push_of_some _ e))
  · rw [hn] at pv hz
    refine h hz v h' tk pv fun b o e => k b o (by simpa using Nat.ne_of_lt (Heap.lt_size e)) ?_ (Heap.get?_push_of_some _ (Heap.get?_push_of_some _ e))
    exact Nat.ne_of_lt (Heap.lt_size (Heap.get?_push_of_some { cls := .type "list_iterator", data := .fields #[.ref l, .int 0 0] } e))
end
def rMaxD (K : PySem.W.Frag) : List V → List V → Hp → VK → Prop := fun vs zs H Q => ∃ (a : Addr) (ns : List Int) (d : Int), vs = [V.ref a] ∧ zs = [.int d] ∧ SqL K H a (ns.map V.int) ∧ ∀ m, (ns = [] → m = d) → (ns ≠ [] → m ∈ ns ∧ ∀ x ∈ ns, x ≤ m) → Q (.int m) H
theorem cr_maxD {X : Cx} (hc : X.calm = true) : CallRK X (.builtin "max") [Str.ofString "default"] (rMaxD X.K) := by
  intro pins s σ H vs zs us ws Q I r rz h
  obtain ⟨a, ns, d, rfl, rfl, hs, q⟩ := h
  obtain ⟨its, rv, hl, _⟩ := I.list hs
  rw [Vals.ref1 r]
  obtain ⟨w1, rfl, t1, e1⟩ := vals1 rz
  subst e1
  obtain ⟨xs, e⟩ := rv.ints.allInts.items
  have hn : numsOf (intItems xs).toList = ns := by rw [← e]; exact rv.ints.numsOf
  rw [nums_intItems] at hn
  have hl := hl.isList
  rw [e] at hl
  refine maxD_list (I.ok.hd hc) hl (fun hz h' tk hk => ⟨.int d, H, I.kept hk, ⟨_, rfl⟩, q d (fun _ => rfl) (fun hne => ?_)⟩) (fun hz v h' tk hv hk => ?_)
  · refine absurd ?_ hne
    rw [← hn, List.map_eq_nil_iff]
    exact Array.toList_eq_nil_iff.mpr (Array.eq_empty_of_size_eq_zero hz)
  · obtain ⟨t, rfl⟩ := intItems_at hv
    obtain ⟨h1, h2⟩ := argBest_gt (numAt xs) (xs.size - 1)
    refine ⟨.int _, H, I.kept hk, ⟨_, rfl⟩, q _ (fun hne => ?_) (fun _ => ⟨?_, fun a ha => ?_⟩)⟩
    · rw [← hn, List.map_eq_nil_iff] at hne
      have : xs.size = 0 := by rw [← Array.length_toList, hne]; rfl
      omega
    · rw [← hn, numAt_eq]; exact PySem.getD_mem (by rw [List.length_map, Array.length_toList]; omega)
    · rw [← hn] at ha
      obtain ⟨j, hj, rfl⟩ := mem_getD ha
      rw [List.length_map, Array.length_toList] at hj
      rw [← numAt_eq]; exact h2 j (by omega)
end Bk
namespace Bk
open PySem L2 PyProof PyProof.Rows
/-- list(range(..)) -/
def tListR (tr : Bk.St → Hp → (Int → Int → Hp → Prop) → Prop) : TE := fun σ H Q => tr σ H fun a b H1 => -(2 ^ 62) ≤ a ∧ a < 2 ^ 62 ∧ -(2 ^ 62) ≤ b ∧ b < 2 ^ 62 ∧ (b - a).toNat ≤ 1000 ∧ ∀ p, H1 p = none → Q (.ref p) (upd H1 p (.lst ((List.range (b - a).toNat).map fun i : Nat => V.int (a + i))))
theorem pe_listR {X : Cx} {e : Expr} {tr : Bk.St → Hp → (Int → Int → Hp → Prop) → Prop} {p pos : Pos} (hc : X.calm = true) (hg : Gl X "list") (hm : X.mg "list" = none) (he : PRg X e tr) (hs : starEach [e] X.env = (false, eval e X.env) :: starEach [] X.env := by rfl) :
    PE X (.Call (.Name "list" p) [e] [] pos) (tListR tr) := by
  refine ⟨fun pins s σ H Q I h => ?_⟩
  have hb : bootBuiltins "list" = some (.type "list") := by decide +kernel
  refine Call_ (ld_blt I hg hm hb (PyProof.Rows.callWith_type1 (args_cons (thn (he pins s σ H _ I h) fun u s1 hx => args_nil ?_) hs) hs rfl))
  obtain ⟨r, a, b, t, w1, v, H1, eu, hr, I1, b1, b2, b3, b4, hz, q⟩ := hx
  subst eu
  have hn : Builtin.Range.rangeSize a b 1 = (((b - a).toNat : Nat) : Int) := rangeSize_nat a b
  refine call_list_range (I1.ok.hd hc) hr (small_one b1 b2 b3 b4) hn (by omega) fun h' tk acc c' hk hS hacc => ?_
  have hv : Vals ((List.range (b - a).toNat).map fun i : Nat => V.int (a + i)) acc.toList := by
    have hl : acc.toList.length = (b - a).toNat := by rw [Array.length_toList, hacc.1]
    have : ∀ (n : Nat) (l : List Value) (c : Int), l.length = n → (∀ (j : Nat) (v : Value), l[j]? = some v → ∃ t, v = .int (c + j) t) → Vals ((List.range n).map fun i : Nat => V.int (c + i)) l := by
      intro n
      induction n with
      | zero => intro l c h _; rw [List.length_eq_zero_iff.mp h]; exact .nil
      | succ n ih =>
        intro l c h k
        cases l with
        | nil => cases h
        | cons x l =>
          rw [List.range_succ_eq_map, List.map_cons, List.map_map]
          obtain ⟨t, e⟩ := k 0 x rfl
          refine .cons ⟨t, by rw [e]⟩ ?_
          have := ih l (c + 1) (by simpa using h) fun j v e => by
            obtain ⟨t, e2⟩ := k (j + 1) v (by simpa using e)
            exact ⟨t, by rw [e2]; congr 1; omega⟩
          have e3 : ((fun i : Nat => V.int (c + i)) ∘ Nat.succ) = fun i : Nat => V.int (c + 1 + i) := by
            funext i; show V.int (c + ((i + 1 : Nat) : Int)) = _; congr 1; omega
          rw [e3]; exact this
    refine this _ _ a hl fun j v e => ?_
    obtain ⟨t, e2⟩ := hacc.2 j v (by rw [← Array.getElem?_toList]; exact e)
    exact ⟨t, by rw [e2]; congr 1; omega⟩
  exact ⟨.ref _, _, I1.laid (t' := tk) hk (Nat.le_refl _) (show ObjOk X.prog X.w _ h' _ (.lst _) from ⟨by rw [sizeLine_eq, List.length_map, List.length_range]; omega, acc.toList, c', hv, by simpa using hS⟩), rfl, q _ (I1.hok.fresh (Nat.le_refl _))⟩
section
variable {K : PySem.W.Frag} {σ : Bk.St} {H : Hp} {Q : VK} {t tk : TA} {a : Addr}
theorem go_ckw {r : List V → List V → Hp → VK → Prop} (q : t σ H fun vs H1 => tk σ H1 fun zs H2 => r vs zs H2 Q) : tCKw r t tk σ H Q := q
theorem go_maxD {ns : List Int} {d : Int} (h : H a = some (.lst (ns.map V.int))) (q : ∀ m, (ns = [] → m = d) → (ns ≠ [] → m ∈ ns ∧ ∀ x ∈ ns, x ≤ m) → Q (.int m) H) : rMaxD K [.ref a] [.int d] H Q := ⟨a, ns, d, rfl, rfl, SqL.of h, q⟩
def ListRK (Q : VK) : Int → Int → Hp → Prop := fun a b H1 => -(2 ^ 62) ≤ a ∧ a < 2 ^ 62 ∧ -(2 ^ 62) ≤ b ∧ b < 2 ^ 62 ∧ (b - a).toNat ≤ 1000 ∧ ∀ p, H1 p = none → Q (.ref p) (upd H1 p (.lst ((List.range (b - a).toNat).map fun i : Nat => V.int (a + i))))
theorem go_listR {tr : Bk.St → Hp → (Int → Int → Hp → Prop) → Prop} (q : tr σ H (ListRK Q)) : tListR tr σ H Q := q
theorem go_ListRK {a b : Int} (h : -(2 ^ 62) ≤ a ∧ a < 2 ^ 62 ∧ -(2 ^ 62) ≤ b ∧ b < 2 ^ 62 ∧ (b - a).toNat ≤ 1000) (q : ∀ p H1, New H p (.lst ((List.range (b - a).toNat).map fun i : Nat => V.int (a + i))) H1 → Q (.ref p) H1) : ListRK Q a b H := ⟨h.1, h.2.1, h.2.2.1, h.2.2.2.1, h.2.2.2.2, new_of q⟩
def Rg2K (x : V) (Q : Int → Int → Hp → Prop) : VK := fun y H2 => ∃ i j, x = .int i ∧ y = .int j ∧ Q i j H2
theorem go_rg2 {ta tb : TE} {QI : Int → Int → Hp → Prop} (q : ta σ H fun x H1 => tb σ H1 (Rg2K x QI)) : tRg2 ta tb σ H QI := q
theorem go_Rg2K {i j : Int} {QI : Int → Int → Hp → Prop} (q : QI i j H) : Rg2K (.int i) QI (.int j) H := ⟨i, j, rfl, rfl, q⟩
def Rg1K (Q : Int → Int → Hp → Prop) : VK := fun x H1 => ∃ n, x = .int n ∧ Q 0 n H1
theorem go_rg1 {ta : TE} {QI : Int → Int → Hp → Prop} (q : ta σ H (Rg1K QI)) : tRg1 ta σ H QI := q
theorem go_Rg1K {j : Int} {QI : Int → Int → Hp → Prop} (q : QI 0 j H) : Rg1K QI (.int j) H := ⟨j, rfl, q⟩
theorem go_tryMany1 {D : Ends} {tb : WX → TS} {c : Value} {ts : Addr → Addr → TS} {Wout : WX} (q : tb (wMany K Wout D [(c, tSu K ts)]) D σ H) : tTryMany K tb [(c, ts)] Wout D σ H := q
theorem go_tryMany2 {D : Ends} {tb : WX → TS} {c c' : Value} {ts ts' : Addr → Addr → TS} {Wout : WX} (q : tb (wMany K Wout D [(c, tSu K ts), (c', tSu K ts')]) D σ H) : tTryMany K tb [(c, ts), (c', ts')] Wout D σ H := q
end
end Bk

/-! our own: texts joined; filtered ranges -/
namespace Bk
open PySem L2 PyProof PyProof.Rows
def rJoinP (K : PySem.W.Frag) : V → List V → Hp → VK → Prop := fun x xs H Q => ∃ a p, ∃ ys : List Str, x = .str a ∧ xs = [.ref p] ∧ (SqL K H p (ys.map V.str) ∨ SqT K H p (ys.map V.str)) ∧ (ys.map (·.length)).sum + ys.length * a.length ≤ 16777216 ∧ Q (.str (Txt.join a ys)) H
theorem mt_joinP {X : Cx} : MtR X "str.join" (rJoinP X.K) := mt_join
section
variable {K : PySem.W.Frag} {σ : Bk.St} {H H1 : Hp} {Q : VK} {p : Addr} {z w : Str} {t : TA} {te : TE} {tt : TT} {m n : Nat} {lo : Int}
theorem go_bmS {r : V → List V → Hp → VK → Prop} (q : t σ H fun xs H2 => r (.str z) xs H2 Q) : BmK K "str" r t σ Q (.str z) H := ⟨rfl, q⟩
theorem go_join1 (h : H p = some (.lst [.str w])) (hw : w.length ≤ 1000) (hz : z.length ≤ 1000) (q : Q (.str w) H) : rJoinP K (.str z) [.ref p] H Q := by
  refine ⟨z, p, [w], rfl, rfl, .inl (SqL.of h), by simp; omega, ?_⟩
  have e : Txt.join z [w] = w := by first | rfl | simp [Txt.join]
  rw [e]; exact q
/-- numbers of a range that meet a test -/
theorem lc_filtR {f : Nat → V} {pp : Nat → Bool} (hz : n ≤ sizeLine)
    (test : ∀ i (H' : Hp) (QB : Bool → Hp → Prop), i < n → Same H1 H' → (∀ H'', Same H' H'' → QB (pp i) H'') → tt ((σ.set m none).set m (some (.int (lo + i)))) H' QB)
    (step : ∀ i (H' : Hp) (Q' : VK), i < n → pp i = true → Same H1 H' → (∀ H'', Same H' H'' → Q' (f i) H'') → te ((σ.set m none).set m (some (.int (lo + i)))) H' Q')
    (q : ∀ D H2, H1 D = none → Same H1 H2 → H2 D = some (.lst (((List.range n).filter pp).map f)) → Q (.ref D) H2) : LcK (gName m) tt te [m] σ Q (Itr lo n) H1 := by
  intro D hD
  refine lc_range (fun i H => H D = some (.lst (((List.range i).filter pp).map f)) ∧ Same H1 H) ⟨upd_same, fun b o e => by rw [upd_ne (ne_of_none e hD)]; exact e⟩ ?_ ?_
  · rintro i H' hi ⟨hd, s⟩
    refine ⟨?_, test i H' _ hi s ?_⟩
    · show ((σ.set m none).set m (some (.int (lo + i)))).set m none = σ.set m none
      rw [List.set_set, List.set_set]
    · rintro H'' s2
      have hd2 := s2 _ _ hd
      cases hb : pp i with
      | false =>
        rw [if_neg Bool.false_ne_true]
        refine ⟨?_, s.trans s2⟩
        rw [List.range_succ, List.filter_append, List.filter_cons_of_neg (by rw [hb]; decide), List.filter_nil, List.append_nil]
        exact hd2
      | true =>
        rw [if_pos rfl]
        refine step i H'' _ hi hb (s.trans s2) fun H3 s3 => ?_
        refine ⟨_, s3 _ _ hd2, ?_, ?_, fun b o e => ?_⟩
        · rw [List.length_map]
          have h1 := List.length_filter_le pp (List.range i)
          rw [List.length_range] at h1
          omega
        · rw [upd_same, List.range_succ, List.filter_append, List.filter_cons_of_pos hb, List.filter_nil, List.map_append]
          rfl
        · rw [upd_ne (ne_of_none e hD)]
          exact s3 _ _ (s2 _ _ (s _ _ e))
  · rintro H2 ⟨hd, s⟩
    exact q D H2 hD s hd
end
end Bk

/-! our own: more of dicts and lists: in, get, pop, count, against the empty dict; a batch's rows -/
namespace Bk
open PySem L2 PyProof PyProof.Rows
def rCountP (K : PySem.W.Frag) : V → List V → Hp → VK → Prop := fun x xs H Q => ∃ (a : Addr) (ys : List V) (y : V), x = .ref a ∧ xs = [y] ∧ SqL K H a ys ∧ flatV y = true ∧ ys.all flatV = true ∧ Q (.int (ys.countP (fun z => eqV z y) : Nat)) H
theorem count_rel {y : V} {uy : Value} (ry : RelV y uy) : ∀ {ys : List V} {us : List Value}, Vals ys us → ys.all flatV = true → us.countP (eqU y) = ys.countP fun z => eqV z y
  | _, _, .nil, _ => rfl
  | z :: ys, u :: us, .cons r t, f => by
    rw [List.all_cons, Bool.and_eq_true] at f
    rw [List.countP_cons, List.countP_cons, count_rel ry t f.2, eqU_of r f.1]
theorem mt_countP {X : Cx} : MtR X "list.count" (rCountP X.K) := by
  intro pins s σ H x xs v us Q I rx rxs h
  obtain ⟨a, ys, y, rfl, rfl, hs, fy, fys, q⟩ := h
  cases rx
  obtain ⟨uy, rfl, ry⟩ := rxs.one
  obtain ⟨its, rv, ⟨⟨cls, dd, data, sl⟩, n, ho, hc, hdn, hd⟩, hlen⟩ := I.list hs
  simp only at hc hd
  subst hc hd
  refine call_meets PySem.F.slot_list_count ⟨_, ho, rfl⟩ PySem.F.entry_list_count (PySem.F.args_list_count_2 _ _) (SeqAt.list_countAt a its.toArray n dd sl uy (eqU y)) ⟨ho, fun u' hu' => mem_eqAt ry fy rv fys u' (by simpa using hu'), ?_⟩
  refine ⟨.int (ys.countP (fun z => eqV z y) : Nat), H, I.tok _, ⟨s.toks, ?_⟩, q⟩
  have : its.toArray.toList.countP (eqU y) = ys.countP fun z => eqV z y := by rw [List.toList_toArray]; exact count_rel ry rv fys
  rw [this]
/-- against the empty dict -/
def rEqDE : R2 := fun x y H Q => ∃ a b ks, x = .ref a ∧ y = .ref b ∧ H a = some (.dK ks) ∧ H b = some (.dK []) ∧ Q (.bl (decide (ks = []))) H
def rNeDE : R2 := fun x y H Q => ∃ a b ks, x = .ref a ∧ y = .ref b ∧ H a = some (.dK ks) ∧ H b = some (.dK []) ∧ Q (.bl (!decide (ks = []))) H
theorem op_eqDE {X : Cx} {k : Nat} (hr : Room k X.A) : OpR X (compareOp .Eq) rEqDE := by
  intro pins s σ H x y v u Q I rx ry h
  obtain ⟨a, b, ks, rfl, rfl, ea, eb, q⟩ := h
  cases rx
  cases ry
  have hu := hr.units
  obtain ⟨_, ya, va, ra, da⟩ := (show ObjOk X.prog X.w H s.heap a (.dK ks) from I.hok a _ ea)
  obtain ⟨_, yb, vb, rb, db⟩ := (show ObjOk X.prog X.w H s.heap b (.dK []) from I.hok b _ eb)
  cases rb
  have la := ra.length
  refine PySem.W.keq_eq (knd := mixKind X.prog X.w) (r := true) ya yb da db (by omega) (fun hl => ?_) (fin_bl I q ?_)
  · have : va = [] := List.eq_nil_of_length_eq_zero hl
    subst this
    cases ra
    exact hits_all (κ := Key) .nil .nil (fun p hp => nomatch hp)
  · cases ra with
    | nil => rfl
    | cons _ _ => simp
theorem op_neDE {X : Cx} {k : Nat} (hr : Room k X.A) : OpR X (compareOp .NotEq) rNeDE := by
  intro pins s σ H x y v u Q I rx ry h
  obtain ⟨a, b, ks, rfl, rfl, ea, eb, q⟩ := h
  cases rx
  cases ry
  have hu := hr.units
  obtain ⟨_, ya, va, ra, da⟩ := (show ObjOk X.prog X.w H s.heap a (.dK ks) from I.hok a _ ea)
  obtain ⟨_, yb, vb, rb, db⟩ := (show ObjOk X.prog X.w H s.heap b (.dK []) from I.hok b _ eb)
  cases rb
  have la := ra.length
  refine PySem.W.keq_ne (knd := mixKind X.prog X.w) (r := true) ya yb da db (by omega) (fun hl => ?_) (fin_bl I q ?_)
  · have : va = [] := List.eq_nil_of_length_eq_zero hl
    subst this
    cases ra
    exact hits_all (κ := Key) .nil .nil (fun p hp => nomatch hp)
  · cases ra with
    | nil => rfl
    | cons _ _ => simp
def rSortedQ (K : PySem.W.Frag) : List V → Hp → VK → Prop := fun xs H Q => rSortDI xs H Q ∨ rSortedI K xs H Q
theorem call_sortedQ {X : Cx} (hc : X.calm = true) : CallR X (.builtin "sorted") (rSortedQ X.K) := call_or (call_sortedDI hc) cr_sortedI
section
variable {K : PySem.W.Frag} {σ : Bk.St} {H H1 : Hp} {Q : VK} {a b : Addr} {kvs : List (Key × V)} {ta td ty tx : TE} {z y : V}
theorem go_sortQ {ks : List Int} (h : H a = some (.dK kvs)) (hk : kvs.map (·.1) = ks.map Sum.inl) (hl : ks.length < 64)
    (q : ∀ (ys : List Int) (p : Addr) (H1 : Hp), ys.Perm ks → ys.Pairwise (· ≤ ·) → New H p (.lst (ys.map V.int)) H1 → Q (.ref p) H1) : rSortedQ K [.ref a] H Q :=
  .inl ⟨a, kvs, ks, rfl, .inl h, hk, hl, fun ys p h1 h2 h3 => q ys p _ h1 h2 ⟨h3, rfl⟩⟩
theorem go_countB {bs : List Bool} (h : H a = some (.lst (bs.map V.bl))) (q : Q (.int (bs.countP id : Nat)) H) : rCountP K (.ref a) [.bl true] H Q := by
  refine ⟨a, bs.map V.bl, .bl true, rfl, rfl, SqL.of h, rfl, List.all_eq_true.mpr fun y hy => ?_, ?_⟩
  · obtain ⟨b, _, rfl⟩ := List.mem_map.mp hy
    rfl
  · have : (bs.map V.bl).countP (fun z => eqV z (.bl true)) = bs.countP id := by
      rw [List.countP_map]
      congr 1
      funext b
      cases b <;> rfl
    rw [this]; exact q
def DInK (Q : VK) (y : V) : VK := fun x H2 => ∃ a o, x = .ref a ∧ DGet H2 a y o ∧ Q (.bl o.isSome) H2
def DNotInK (Q : VK) (y : V) : VK := fun x H2 => ∃ a o, x = .ref a ∧ DGet H2 a y o ∧ Q (.bl (!o.isSome)) H2
theorem go_din (q : ty σ H fun y H1 => td σ H1 (DInK Q y)) : tDIn ty td σ H Q := q
theorem go_dnotin (q : ty σ H fun y H1 => td σ H1 (DNotInK Q y)) : tDNotIn ty td σ H Q := q
theorem go_DInI {k : Int} (h : H a = some (.dK kvs)) (q : Q (.bl (valV kvs (.inl k)).isSome) H) : DInK Q (.int k) (.ref a) H := ⟨a, _, rfl, DGet.k (k := .inl k) h, q⟩
theorem go_DNotInI {k : Int} (h : H a = some (.dK kvs)) (q : Q (.bl (!(valV kvs (.inl k)).isSome)) H) : DNotInK Q (.int k) (.ref a) H := ⟨a, _, rfl, DGet.k (k := .inl k) h, q⟩
def DGet2E (a : Addr) (Q : VK) (y z : V) (H3 : Hp) : Prop := ∃ o, DGet H3 a y o ∧ Q (o.getD z) H3
def DGet2K (ty tx : TE) (σ : Bk.St) (Q : VK) : VK := fun x H1 => ∃ a, x = .ref a ∧ IsD H1 a ∧ ty σ H1 fun y H2 => tx σ H2 fun z H3 => DGet2E a Q y z H3
theorem go_dget2 (q : td σ H (DGet2K ty tx σ Q)) : tDGet2 td ty tx σ H Q := q
theorem go_DGet2K (h : H a = some (.dK kvs)) (q : ty σ H fun y H2 => tx σ H2 fun z H3 => DGet2E a Q y z H3) : DGet2K ty tx σ Q (.ref a) H := ⟨a, rfl, .inl ⟨_, .inl h⟩, q⟩
theorem go_DGet2E {k : Int} (h : H a = some (.dK kvs)) (q : Q ((valV kvs (.inl k)).getD z) H) : DGet2E a Q (.int k) z H := ⟨_, DGet.k (k := .inl k) h, q⟩
def DPop1K (ty : TE) (σ : Bk.St) (Q : VK) : VK := fun x H1 => ∃ a, x = .ref a ∧ IsD H1 a ∧ ty σ H1 fun y H2 => ∃ kvs k v, H2 a = some (.dK kvs) ∧ y = kV k ∧ valV kvs k = some v ∧ Q v (upd H2 a (.dK (dropK kvs k)))
theorem go_dpop1 (q : td σ H (DPop1K ty σ Q)) : tDPop1 td ty σ H Q := q
theorem go_eqDE (h : H a = some (.dK kvs)) (k : H b = some (.dK [])) (q : Q (.bl (decide (kvs = []))) H) : rEqDE (.ref a) (.ref b) H Q := ⟨a, b, kvs, rfl, rfl, h, k, q⟩
theorem go_neDE (h : H a = some (.dK kvs)) (k : H b = some (.dK [])) (q : Q (.bl (!decide (kvs = []))) H) : rNeDE (.ref a) (.ref b) H Q := ⟨a, b, kvs, rfl, rfl, h, k, q⟩
end
/-! ### what a batch shows -/
theorem valV_none {ps : List (Int × V)} {k : Int} (h : ∀ p ∈ ps, p.1 ≠ k) : valV (dI ps) (.inl k) = none := by
  induction ps with
  | nil => rfl
  | cons p ps ih =>
    show valV ((Sum.inl p.1, p.2) :: dI ps) (Sum.inl k) = _
    rw [valV_neg (by simpa using h p List.mem_cons_self)]
    exact ih fun q hq => h q (List.mem_cons_of_mem _ hq)
theorem valV_at {ps : List (Int × V)} {k : Int} {v : V} (h : valV (dI ps) (.inl k) = some v) : (k, v) ∈ ps := by
  induction ps with
  | nil => cases h
  | cons p ps ih =>
    have h : valV ((Sum.inl p.1, p.2) :: dI ps) (Sum.inl k) = some v := h
    by_cases c : p.1 = k
    · rw [valV_pos (by simpa using c)] at h
      cases h; subst c
      exact List.mem_cons_self
    · rw [valV_neg (by simpa using c)] at h
      exact List.mem_cons_of_mem _ (ih h)
theorem mem_putI_of {ps : List (Int × V)} {k : Int} {v : V} {p : Int × V} (h : p ∈ ps) (n : p.1 ≠ k) : p ∈ putI ps k v := by
  unfold putI
  split
  · exact List.mem_map.mpr ⟨p, h, if_neg n⟩
  · exact List.mem_append_left _ h
theorem mem_putI_self {ps : List (Int × V)} {k : Int} {v : V} : (k, v) ∈ putI ps k v := by
  unfold putI
  split
  · rename_i c
    obtain ⟨p, hp, e⟩ := List.any_eq_true.mp c
    have e := of_decide_eq_true e
    exact List.mem_map.mpr ⟨p, hp, by rw [if_pos e, e]⟩
  · exact List.mem_append_right _ (List.mem_singleton.mpr rfl)
/-- the keys behind a put -/
def putKs (ks : List Int) (k : Int) : List Int := if k ∈ ks then ks else ks ++ [k]
theorem putI_keys {ps : List (Int × V)} {k : Int} {v : V} : (putI ps k v).map (·.1) = putKs (ps.map (·.1)) k := by
  unfold putI putKs
  by_cases c : (ps.any fun p => decide (p.1 = k)) = true
  · rw [if_pos c, if_pos (by
      obtain ⟨p, hp, e⟩ := List.any_eq_true.mp c
      exact List.mem_map.mpr ⟨p, hp, of_decide_eq_true e⟩), List.map_map]
    refine List.map_congr_left fun p _ => ?_
    by_cases z : p.1 = k
    · simp [z]
    · simp [z]
  · rw [if_neg c, if_neg (fun z => by
      obtain ⟨p, hp, e⟩ := List.mem_map.mp z
      exact c (List.any_eq_true.mpr ⟨p, hp, decide_eq_true e⟩)), List.map_append]
    rfl
theorem nodup_le {lo : Int} : ∀ {n : Nat} {ks : List Int}, ks.Nodup → (∀ k ∈ ks, lo ≤ k ∧ k < lo + n) → ks.length ≤ n
  | 0, ks, h, b => by
    cases ks with
    | nil => exact Nat.le_refl _
    | cons k r => have := b k List.mem_cons_self; omega
  | n + 1, ks, h, b => by
    by_cases c : lo + n ∈ ks
    · have := nodup_le (lo := lo) (n := n) (h.erase (lo + n)) fun k hk => by
        have := (h.mem_erase_iff).mp hk
        have := b k this.2
        omega
      rw [List.length_erase_of_mem c] at this
      omega
    · have := nodup_le (lo := lo) (n := n) h fun k hk => by
        have := b k hk
        have : k ≠ lo + n := fun z => c (z ▸ hk)
        omega
      omega
/-- a dict of rows, by their blocks -/
structure DRows (H : Hp) (D : Addr) (psl : List (Int × V)) (R Z : List (List Int)) : Prop where
  dd : H D = some (.dK (dI psl))
  nd : (psl.map (·.1)).Nodup
  len : Z.length = R.length
  hit : ∀ p ∈ psl, ∃ q row, p.2 = .ref q ∧ H q = some (.lst (row.map V.int)) ∧ row.length = 16 ∧ (∀ z ∈ row, 0 ≤ z ∧ z ≤ 999999999) ∧ 17 ≤ p.1 ∧ p.1 < R.length ∧ Z[p.1.toNat]? = some row
  miss : ∀ i : Nat, (∀ p ∈ psl, p.1 ≠ i) → Z[i]? = R[i]?
theorem DRows.same {H H' : Hp} {D : Addr} {psl : List (Int × V)} {R Z : List (List Int)} (h : DRows H D psl R Z) (s : Same H H') : DRows H' D psl R Z :=
  ⟨s _ _ h.dd, h.nd, h.len, fun p hp => let ⟨q, row, e, f, g⟩ := h.hit p hp; ⟨q, row, e, s _ _ f, g⟩, h.miss⟩
theorem DRows.put {H H' : Hp} {D q : Addr} {psl : List (Int × V)} {R Z : List (List Int)} {b : Int} {row : List Int} (h : DRows H D psl R Z) (w : Wr H D (.dK (dI (putI psl b (.ref q)))) H') (b1 : 17 ≤ b) (b2 : b < R.length) (hq : H q = some (.lst (row.map V.int))) (g : row.length = 16) (g2 : ∀ z ∈ row, 0 ≤ z ∧ z ≤ 999999999) :
    DRows H' D (putI psl b (.ref q)) R (Z.set b.toNat row) := by
  have ne : ∀ {x : Addr} {row : List Int}, H x = some (.lst (row.map V.int)) → x ≠ D := fun e => ne_obj e h.dd (by simp)
  have hl := h.len
  refine ⟨w.at, keys_putI h.nd, by simp [h.len], fun p hp => ?_, fun i hi => ?_⟩
  · rcases mem_putI hp with rfl | ⟨hp, n⟩
    · exact ⟨q, row, rfl, w.old (ne hq) hq, g, g2, b1, b2, List.getElem?_set_self (by omega)⟩
    · obtain ⟨q', row', e1, e2, e3, e4, e5, e6, e7⟩ := h.hit p hp
      exact ⟨q', row', e1, w.old (ne e2) e2, e3, e4, e5, e6, by rw [List.getElem?_set_ne (by omega)]; exact e7⟩
  · have hb := hi _ mem_putI_self
    rw [List.getElem?_set_ne (by omega)]
    refine h.miss i fun p hp z => ?_
    by_cases c : p.1 = b
    · exact hb (c ▸ z)
    · exact hi p (mem_putI_of hp c) z
theorem DRows.ints {H : Hp} {D : Addr} {psl : List (Int × V)} {R Z : List (List Int)} (h : DRows H D psl R Z) : ∀ {b : Addr} {row : List Int}, H b = some (.lst (row.map V.int)) → b ≠ D := fun e => ne_obj e h.dd (by simp)
end Bk

namespace Bk
open PySem L2 PyProof.Rows
/-! ### three comparisons; a slice stored -/
/-- a op1 b op2 c op3 d -/
def tChain3 (r r' r'' : R2) (ta tb tc td : TE) : TE := fun σ H Q => ta σ H fun x H1 => tb σ H1 fun y H2 => r x y H2 fun z H3 => ∃ k, z = .bl k ∧
  (if k = true then tc σ H3 fun w' H4 => r' y w' H4 fun z' H5 => ∃ k', z' = .bl k' ∧ (if k' = true then td σ H5 fun v' H6 => r'' w' v' H6 Q else Q (.bl false) H5) else Q (.bl false) H3)
section
variable {X : Cx} {a b c d : Expr} {ta tb tc td : TE} {pos : Pos} {op op' op'' : CmpOp} {r r' r'' : R2}
theorem pe_chain3 (ho : OpR X (compareOp op) r) (ho' : OpR X (compareOp op') r') (ho'' : OpR X (compareOp op'') r'') (ha : PE X a ta) (hb : PE X b tb) (hc : PE X c tc) (hd : PE X d td)
    (hm : lastMarks [op, op', op''] [b, c, d] = false := by with_unfolding_all rfl) : PE X (.Compare a [op, op', op''] [b, c, d] pos) (tChain3 r r' r'' ta tb tc td) := by
  refine ⟨fun pins s σ H Q I h => ?_⟩
  refine Compare_chain (thn (ha.run pins s σ H _ I h) fun v s1 ⟨x, H1, I1, r1, q1⟩ => chain_link (thn (hb.run pins s1 σ H1 _ I1 q1) fun u s2 ⟨y, H2, I2, r2, q2⟩ =>
    thn (ho pins s2 σ H2 x y v u _ I2 r1 r2 q2) fun d s3 ⟨z, H3, I3, r3, k, e, q3⟩ => ?_)) hm
  subst e
  cases r3
  refine wpAny_truthy_bool ?_
  cases k with
  | false => exact ite_ff ⟨.bl false, H3, I3, rfl, q3⟩
  | true =>
    refine ite_tt (chain_link (thn (hc.run pins s3 σ H3 _ I3 q3) fun w' s4 ⟨z', H4, I4, r4, q4⟩ => thn (ho' pins s4 σ H4 y z' u w' _ I4 r2 r4 q4) fun d' s5 ⟨z2, H5, I5, r5, k2, e2, q5⟩ => ?_))
    subst e2
    cases r5
    refine wpAny_truthy_bool ?_
    cases k2 with
    | false => exact ite_ff ⟨.bl false, H5, I5, rfl, q5⟩
    | true => exact ite_tt (chain_last (thn (hd.run pins s5 σ H5 _ I5 q5) fun w2 s6 ⟨z3, H6, I6, r6, q6⟩ => ho'' pins s6 σ H6 z' z3 w' w2 Q I6 r4 r6 q6))
theorem pt_chain3 (ho : OpR X (compareOp op) r) (ho' : OpR X (compareOp op') r') (ho'' : OpR X (compareOp op'') r'') (ha : PE X a ta) (hb : PE X b tb) (hc : PE X c tc) (hd : PE X d td)
    (hm : lastMarks [op, op', op''] [b, c, d] = false := by with_unfolding_all rfl) : PT X (.Compare a [op, op', op''] [b, c, d] pos) (tTest (tChain3 r r' r'' ta tb tc td)) := by
  refine ⟨fun pins s σ H Q I h => ?_⟩
  refine isTrue_chain (thn (ha.run pins s σ H _ I h) fun v s1 ⟨x, H1, I1, r1, q1⟩ => test_link (thn (hb.run pins s1 σ H1 _ I1 q1) fun u s2 ⟨y, H2, I2, r2, q2⟩ =>
    thn (ho pins s2 σ H2 x y v u _ I2 r1 r2 q2) fun d s3 ⟨z, H3, I3, r3, k, e, q3⟩ => ?_)) hm
  subst e
  cases r3
  refine wpAny_truthy_bool ?_
  cases k with
  | false =>
    obtain ⟨k', e', q'⟩ := q3
    cases e'
    exact ite_ff ⟨H3, I3, q'⟩
  | true =>
    refine ite_tt (test_link (thn (hc.run pins s3 σ H3 _ I3 q3) fun w' s4 ⟨z', H4, I4, r4, q4⟩ => thn (ho' pins s4 σ H4 y z' u w' _ I4 r2 r4 q4) fun d' s5 ⟨z2, H5, I5, r5, k2, e2, q5⟩ => ?_))
    subst e2
    cases r5
    refine wpAny_truthy_bool ?_
    cases k2 with
    | false =>
      obtain ⟨k', e', q'⟩ := q5
      cases e'
      exact ite_ff ⟨H5, I5, q'⟩
    | true =>
      refine ite_tt (test_last (thn (hd.run pins s5 σ H5 _ I5 q5) fun w2 s6 ⟨z3, H6, I6, r6, q6⟩ => thn (ho'' pins s6 σ H6 z' z3 w' w2 _ I6 r4 r6 q6) fun d2 s7 ⟨z4, H7, I7, r7, k3, e3, q7⟩ => ?_))
      subst e3
      cases r7
      exact wpAny_truthy_bool ⟨H7, I7, q7⟩
end
/-- xs[lo:hi] = ys, the places at hand -/
def SetSlK (σ : Bk.St) (Q : Bk.St → Hp → Prop) (v o x y : V) (H3 : Hp) : Prop := ∃ a b xs ys i j, o = .ref a ∧ v = .ref b ∧ x = .int i ∧ y = .int j ∧ H3 a = some (.lst xs) ∧ H3 b = some (.lst ys) ∧ a ≠ b ∧ 0 ≤ i ∧ i ≤ j ∧ j ≤ xs.length ∧ xs.length + ys.length ≤ sizeLine ∧ Q σ (upd H3 a (.lst (xs.take i.toNat ++ ys ++ xs.drop j.toNat)))
def gSl (to tl th : TE) : TG := fun v σ H Q => to σ H fun o H1 => tl σ H1 fun x H2 => th σ H2 fun y H3 => SetSlK σ Q v o x y H3
section
variable {X : Cx} {o lo hi : Expr} {to tl th : TE} {pos p2 : Pos}
theorem pg_sl (ho : PE X o to) (hl : PE X lo tl) (hu : PE X hi th)
    (ha : ∀ v, assign (.Subscript o (.Slice (some lo) (some hi) none p2) pos) X.env v = (do
      let ov ← holding [v] (eval o X.env)
      let iv ← holding [v, ov] (eval (.Slice (some lo) (some hi) none p2) X.env)
      standAt pos
      holding [v, ov, iv] (setItem ov iv v)
      release [iv, v, ov] []) := by intro _; rfl) : PG X (.Subscript o (.Slice (some lo) (some hi) none p2) pos) (gSl to tl th) := by
  refine ⟨fun pins s σ H v u Q I r h => ?_⟩
  rw [ha]
  refine wpAny_bind (wpAny_holding (thn (ho.run pins s σ H _ I h) fun ov s1 ⟨x, H1, I1, r1, q1⟩ => ?_))
  refine wpAny_bind (wpAny_holding (wpAny_Slice ?_))
  rw [evalPart_some]
  refine thn (hl.run pins s1 σ H1 _ I1 q1) fun vl s2 ⟨x2, H2, I2, r2, q2⟩ => ?_
  rw [evalPart_some]
  refine thn (hu.run pins s2 σ H2 _ I2 q2) fun vu s3 ⟨x3, H3, I3, r3, q3⟩ => ?_
  rw [evalPart_none]
  refine wpAny_pure ?_
  obtain ⟨aa, bb, xs, ys, i, j, rfl, rfl, rfl, rfl, hxs, hys, hne, h0, hij, hj, hz, q⟩ := q3
  obtain rfl : ov = .ref aa := r1
  obtain rfl : u = .ref bb := r
  have I4 : Inv X pins σ H3 { s3 with heap := s3.heap.push { cls := .type "slice", data := .fields #[vl, vu, .none] } } := I3.kept (t' := s3.toks) fun b ob q => Heap.get?_push_of_some _ q
  refine wpAny_bind (wpAny_standAt (wpAny_bind (wpAny_holding (set_slice I4 hxs hys hne (Heap.IsSliceOf.new ..) r2 r3 h0 hij hj hz fun s' I' => ?_))))
  exact wpAny_release ⟨σ, _, I', q⟩
end
section
variable {σ : Bk.St} {H : Hp} {Q : VK} {ta tb tc td : TE} {r r' r'' : R2} {a b : Addr} {xs ys : List V} {i j : Int} {QS : Bk.St → Hp → Prop} {v : V}
def Link (r : R2) (td : TE) (σ : Bk.St) (y : V) (Q : VK) : VK := fun z H3 => ∃ k, z = .bl k ∧ (if k = true then td σ H3 fun w' H4 => r y w' H4 Q else Q (.bl false) H3)
def Link2 (r' r'' : R2) (tc td : TE) (σ : Bk.St) (y : V) (Q : VK) : VK := fun z H3 => ∃ k, z = .bl k ∧ (if k = true then tc σ H3 fun w' H4 => r' y w' H4 (Link r'' td σ w' Q) else Q (.bl false) H3)
theorem go_chain3 (q : ta σ H fun x H1 => tb σ H1 fun y H2 => r x y H2 (Link2 r' r'' tc td σ y Q)) : tChain3 r r' r'' ta tb tc td σ H Q := q
theorem go_LinkT {y : V} (q : td σ H fun w' H4 => r y w' H4 Q) : Link r td σ y Q (.bl true) H := ⟨true, rfl, by rw [if_pos rfl]; exact q⟩
theorem go_LinkF {y : V} (q : Q (.bl false) H) : Link r td σ y Q (.bl false) H := ⟨false, rfl, by rw [if_neg Bool.false_ne_true]; exact q⟩
theorem go_Link2T {y : V} (q : tc σ H fun w' H4 => r' y w' H4 (Link r'' td σ w' Q)) : Link2 r' r'' tc td σ y Q (.bl true) H := ⟨true, rfl, by rw [if_pos rfl]; exact q⟩
theorem go_Link2F {y : V} (q : Q (.bl false) H) : Link2 r' r'' tc td σ y Q (.bl false) H := ⟨false, rfl, by rw [if_neg Bool.false_ne_true]; exact q⟩
theorem go_gSl {to tl th : TE} (q : to σ H fun o H1 => tl σ H1 fun x H2 => th σ H2 fun y H3 => SetSlK σ QS v o x y H3) : gSl to tl th v σ H QS := q
theorem go_SetSl (h : H a = some (.lst xs)) (k : H b = some (.lst ys)) (n : a ≠ b) (h0 : 0 ≤ i) (hij : i ≤ j) (hj : j ≤ xs.length) (hz : xs.length + ys.length ≤ sizeLine) (q : ∀ H1, Wr H a (.lst (xs.take i.toNat ++ ys ++ xs.drop j.toNat)) H1 → QS σ H1) : SetSlK σ QS (.ref b) (.ref a) (.int i) (.int j) H :=
  ⟨a, b, xs, ys, i, j, rfl, rfl, rfl, rfl, h, k, n, h0, hij, hj, hz, wr_of h q⟩
end
/-! ### insert -/
def rInsert : V → List V → Hp → VK → Prop := fun x vs H Q => ∃ (l : Addr) (xs : List V) (i : Int) (y : V), x = .ref l ∧ vs = [.int i, y] ∧ H l = some (.lst xs) ∧ xs.length < sizeLine ∧ 0 ≤ i ∧ i < 2 ^ 63 ∧ Q .non (upd H l (.lst (xs.take i.toNat ++ [y] ++ xs.drop i.toNat)))
theorem mt_insertP {X : Cx} : MtR X "list.insert" rInsert := mt_insert
theorem go_insert {H : Hp} {Q : VK} {l : Addr} {xs : List V} {i : Int} {y : V} (h : H l = some (.lst xs)) (hz : xs.length < sizeLine) (h0 : 0 ≤ i) (h1 : i < 2 ^ 63) (q : ∀ H1, Wr H l (.lst (xs.take i.toNat ++ [y] ++ xs.drop i.toNat)) H1 → Q .non H1) : rInsert (.ref l) [.int i, y] H Q := ⟨l, xs, i, y, rfl, rfl, h, hz, h0, h1, wr_of h q⟩
/-! ### sorted, of pairs too -/
def rSortedR (K : PySem.W.Frag) : List V → Hp → VK → Prop := fun xs H Q => rSortedQ K xs H Q ∨ L2.rSortedP K xs H Q
theorem call_sortedR {X : Cx} (hc : X.calm = true) : CallR X (.builtin "sorted") (rSortedR X.K) := call_or (call_sortedQ hc) L2.cr_sortedP
theorem go_sortPairs {K : PySem.W.Frag} {H : Hp} {Q : VK} {a : Addr} {xs : List V} (h : H a = some (.lst xs)) (hx : ∀ x ∈ xs, ∃ t i j, x = V.ref t ∧ H t = some (.tup [.int i, .int j])) (q : ∀ ys p H1, ys.Perm xs → New H p (.lst ys) H1 → Q (.ref p) H1) : rSortedR K [.ref a] H Q :=
  .inr ⟨a, xs, rfl, SqL.of h, hx, fun ys p hp hn => q ys p _ hp ⟨hn, rfl⟩⟩
end Bk

namespace Bk
open PySem L2 PyProof.Rows
/-! ### str(..); zip of tuples; comprehensions over tuples -/
def rStrP : List V → Hp → VK → Prop := fun xs H Q => (∃ i, xs = [.int i] ∧ i.natAbs.log2 < 1920 ∧ Q (.str (toString i)) H) ∨ ∃ a, xs = [.str a] ∧ Q (.str a) H
theorem call_strP {X : Cx} : CallR X (.type "str") rStrP := call_or call_str_int SkE.call_str_str
section
variable {K : PySem.W.Frag} {σ : Bk.St} {H H1 : Hp} {Q : VK} {a b : Addr} {xs ys : List V} {te : TE} {tt : TT} {m n : Nat} {v x : V} {g : TG} {tb : TS} {nx bk ct : Bk.St → Hp → Prop} {rt : VK} {ta : TA} {R : It → Hp → Prop}
theorem go_strS {z : Str} (q : Q (.str z) H) : rStrP [.str z] H Q := .inr ⟨z, rfl, q⟩
theorem go_strN {k : Nat} (h : k < 2 ^ 64) (q : Q (.str (SX.S (TL.numL k))) H) : rStrP [.int k] H Q := by
  refine .inl ⟨k, rfl, ?_, ?_⟩
  · show k.log2 < 1920
    by_cases c : k = 0
    · subst c; decide
    · exact Nat.lt_trans ((Nat.log2_lt c).mpr h) (by omega)
  · have e : (toString (k : Int) : String) = toString ((k : Nat) : Int) := rfl
    show Q (.str (Str.ofString (toString ((k : Nat) : Int)))) H
    rw [SX.num_S]; exact q
def ZipK (K : PySem.W.Frag) (R : It → Hp → Prop) : List V → Hp → Prop := fun vs H1 => ∃ a b xs ys, vs = [.ref a, .ref b] ∧ ((SqL K H1 a xs ∧ SqL K H1 b ys ∧ R (Itz K a b) H1) ∨ (SqT K H1 a xs ∧ SqT K H1 b ys ∧ R (RZ.ItzT K a b) H1))
theorem go_zip (q : ta σ H (ZipK K R)) : RZ.iZipA K ta σ H R := q
theorem go_ZipL (h : H a = some (.lst xs)) (k : H b = some (.lst ys)) (q : R (Itz K a b) H) : ZipK K R [.ref a, .ref b] H := ⟨a, b, xs, ys, rfl, .inl ⟨SqL.of h, SqL.of k, q⟩⟩
theorem go_ZipT (h : H a = some (.tup xs)) (k : H b = some (.tup ys)) (q : R (RZ.ItzT K a b) H) : ZipK K R [.ref a, .ref b] H := ⟨a, b, xs, ys, rfl, .inr ⟨SqT.of h, SqT.of k, q⟩⟩
theorem for_Z (INV : Nat → Bk.St → Hp → Prop) (hl : xs.length = ys.length) (h : ∀ i σ H, INV i σ H → H a = some (.lst xs) ∧ H b = some (.lst ys)) (h0 : INV 0 σ H1)
    (hs : ∀ i x y σ H T H', xs[i]? = some x → ys[i]? = some y → INV i σ H → New H T (.tup [x, y]) H' → g (.ref T) σ H' fun σ2 H2 => tb ⟨INV (i + 1), rt, nx, INV (i + 1)⟩ σ2 H2) (hd : ∀ σ H, INV xs.length σ H → nx σ H) : ForK g tb ⟨nx, rt, bk, ct⟩ σ (Itz K a b) H1 :=
  RZ.for_zipL hl INV h0 (fun i σ H p => ⟨SqL.of (h i σ H p).1, SqL.of (h i σ H p).2⟩) (fun i x y T σ H hx hy p hT => hs i x y σ H T _ hx hy p ⟨hT, rfl⟩) hd
theorem for_ZT (INV : Nat → Bk.St → Hp → Prop) (hl : xs.length = ys.length) (h : ∀ i σ H, INV i σ H → H a = some (.tup xs) ∧ H b = some (.tup ys)) (h0 : INV 0 σ H1)
    (hs : ∀ i x y σ H T H', xs[i]? = some x → ys[i]? = some y → INV i σ H → New H T (.tup [x, y]) H' → g (.ref T) σ H' fun σ2 H2 => tb ⟨INV (i + 1), rt, nx, INV (i + 1)⟩ σ2 H2) (hd : ∀ σ H, INV xs.length σ H → nx σ H) : ForK g tb ⟨nx, rt, bk, ct⟩ σ (RZ.ItzT K a b) H1 :=
  RZ.for_zipT hl INV h0 (fun i σ H p => ⟨SqT.of (h i σ H p).1, SqT.of (h i σ H p).2⟩) (fun i x y T σ H hx hy p hT => hs i x y σ H T _ hx hy p ⟨hT, rfl⟩) hd
/-- a comprehension over a tuple -/
theorem lc_genT (INV : Addr → List V → Hp → Prop) (h : H1 a = some (.tup xs)) (hz : xs.length ≤ sizeLine)
    (stab : ∀ D acc H' H'', INV D acc H' → Chg [D] H' H'' → INV D acc H'') (h0 : ∀ D H', H1 D = none → New H1 D (.lst []) H' → INV D [] H')
    (step : ∀ D acc i x H' Q', H1 D = none → xs[i]? = some x → acc.length = i → Same H1 H' → H' D = some (.lst acc) → INV D acc H' → (∀ v H'', Same H' H'' → INV D (acc ++ [v]) H'' → Q' v H'') → te ((σ.set m none).set m (some x)) H' Q')
    (q : ∀ D vs H2, H1 D = none → Same H1 H2 → vs.length = xs.length → INV D vs H2 → H2 D = some (.lst vs) → Q (.ref D) H2) : LcK (gName m) tYes te [m] σ Q (Itt K a) H1 := by
  intro D hD
  refine lc_it (walk_tup (K := K) (a := a) (xs := xs)) (fun i H => ∃ acc : List V, acc.length = i ∧ H D = some (.lst acc) ∧ INV D acc H ∧ Same H1 H) ⟨[], rfl, upd_same, h0 D _ hD ⟨hD, rfl⟩, fun b o e => by rw [upd_ne (ne_of_none e hD)]; exact e⟩ (fun i H _ ⟨_, _, _, _, s⟩ => SqT.of (s _ _ h)) ?_ ?_
  · rintro i x H' _ hi ⟨acc, hl, hd, iv, s⟩ ⟨rfl, hx⟩
    refine ⟨?_, yes_if (step D acc i x _ _ hD hx hl s hd iv fun v H3 s3 iv3 => ?_)⟩
    · show ((σ.set m none).set m (some x)).set m none = σ.set m none
      rw [List.set_set, List.set_set]
    · have h3 : i < xs.length := (List.getElem?_eq_some_iff.mp hx).1
      refine ⟨acc, s3 _ _ hd, by omega, acc ++ [v], by simp [hl], upd_same, stab D _ _ _ iv3 fun b o e hb => ?_, fun b o e => ?_⟩
      · rw [upd_ne (by simpa using hb)]; exact e
      · rw [upd_ne (ne_of_none e hD)]; exact s3 _ _ (s _ _ e)
  · rintro H2 ⟨acc, hl, hd, iv, s⟩
    exact q D acc H2 hD s hl iv hd
end
end Bk
/-! ### a comprehension whose element may raise (out of a call) -/
namespace Bk
open PySem PySem.Spec L2 PyProof.Rows
/-- the context of a comprehension's block, with its own end for what is raised -/
abbrev blkX (X : Cx) (s : Shared) (H : Hp) (scope : Scope) (cenv : Env) (fp : List Addr) (xe : Value → Shared → Prop) : Cx := { X.blk s H scope cenv fp with xe := xe }
theorem frames_sub {h base base' : Heap} (k : ∀ L, base.get? L = none → base'.get? L = none) : ∀ {l : List Env}, h.FunFrames base l → h.FunFrames base' l
  | [], _ => trivial
  | _ :: _, ⟨h1, ⟨L, o, h2, h3, h4⟩, r⟩ => ⟨h1, ⟨L, o, h2, k L h3, h4⟩, frames_sub k r⟩
theorem traced_sub {h base base' : Heap} {e : Addr} {Z : Obj → Prop} {fl : Value} (k : ∀ L, base.get? L = none → base'.get? L = none) (t : HandSPX.TracedZ h base e Z fl) : HandSPX.TracedZ h base' e Z fl := by
  obtain ⟨oe, vs, T, oT, ts, h1, h2, h3, h4, h5, r⟩ := t
  exact ⟨oe, vs, T, oT, ts, h1, h2, h3, h4, k T h5, r⟩
theorem traced_but {h h' base : Heap} {e C : Addr} {Z : Obj → Prop} {fl : Value} {m : Str → Option Value} (hn : h.Ns C m) (sb : Heap.SameBut C h h') (t : HandSPX.TracedZ h base e Z fl) : HandSPX.TracedZ h' base e Z fl := by
  obtain ⟨oe, vs, T, oT, ts, h1, h2, h3, h4, h5, h6, h7, h8, h9⟩ := t
  obtain ⟨oC, es, ep, hC, dC, _⟩ := hn
  have ne : ∀ {b o vs}, h.get? b = some o → o.data = .fields vs → b ≠ C := fun {b o vs} e1 e2 z => by
    rw [z, hC] at e1; cases e1
    rw [dC] at e2; cases e2
  exact ⟨oe, vs, T, oT, ts, (sb.2 e (ne h1 h3)).trans h1, h2, h3, h4, h5, h6, (sb.2 T (ne h7 h8)).trans h7, h8, h9⟩
section
variable {X : Cx} {W : WX} {pins pins' : List (Addr × Obj)} {σ σ' : L2.St} {H3 H' : Hp} {s3 s s' : Shared} {scope : Scope} {ce : Env} {fp : List Addr} {u : Value} {xe : Value → Shared → Prop}
theorem comp_fails (hs : X.stack = X.env :: X.outer) (hf : X.env.frame = some X.env.locals) (tk : L2N.Takes X W) (I3 : Inv X pins σ H3 s3) (hfp : ∀ b ∈ fp, FpOk X pins H3 b) (hC : ce.locals = s3.heap.objs.size) (hfr : ce.frame = X.env.frame)
    (I : Inv (blkX X s3 H3 scope ce fp xe) pins' σ' H' s) (c : L2N.CX X.prog X.w X.stack H' s (WE W σ) u s') : notedBy (model X.prog X.w) X.A ce (CompFails (model X.prog X.w) X.A X.xe ce) u s' := by
  obtain ⟨a, B, H'', cls, d, rfl, fl, hok, ub, na, os, ag, w⟩ := c
  -- the state without it
  obtain ⟨G, in_, out⟩ := restrict s'.heap fun b => (B.get? b).isSome || decide (b ∈ frs X.stack)
  have hB : ∀ {b o}, B.get? b = some o → G.get? b = some o := fun {b o} e => (in_ b (by rw [e]; rfl)).trans (fl.1 b o e)
  have hF : ∀ {b}, b ∈ frs X.stack → G.get? b = s'.heap.get? b := fun {b} m => in_ b (by rw [decide_eq_true m, Bool.or_true])
  have back : ∀ b o, G.get? b = some o → s'.heap.get? b = some o := fun b o e => by
    by_cases q : ((B.get? b).isSome || decide (b ∈ frs X.stack)) = true
    · rw [← in_ b q]; exact e
    · rw [out b (Bool.eq_false_iff.mpr q)] at e; cases e
  have un : Un (frs X.stack) [] H' H'' s.heap G := by
    refine ⟨fun b o e n m _ => hB (ub.keep b o e n m), fun b o e n m _ => ?_, fun b o e n _ => ub.free b o e n, fun b o e _ => ?_, ub.tups, ub.frzs, ub.tbls⟩
    · obtain ⟨sl, q⟩ := ub.slot b o e m
      exact ⟨sl, (hF m).trans q⟩
    · by_cases m : b ∈ frs X.stack
      · obtain ⟨sl, q⟩ := ub.slot b o e m
        exact ⟨_, (hF m).trans q⟩
      · obtain ⟨o', q⟩ := ub.there b o e m
        exact ⟨o', hB q⟩
  have J := I.call (g' := s'.gens) (t' := s'.toks) (d' := s'.drawn) un (hok.kept fun b u e => hB e) ag (fun _ z => nomatch z)
  have JX : Inv X pins σ H'' { s with heap := G, gens := s'.gens, toks := s'.toks, drawn := s'.drawn } := I3.call' (ch := fp) J.os J.base J.hok J.bare fun b hb => ⟨(hfp b hb).2.2.2.1, (hfp b hb).2.1, (hfp b hb).2.2.2.2.1, (hfp b hb).2.2.2.2.2⟩
  have nC : H'' ce.locals = none := J.free
  obtain ⟨G1, in1, out1⟩ := restrict G fun b => !decide (b = ce.locals)
  obtain ⟨B1, inB, outB⟩ := restrict B fun b => !decide (b = ce.locals)
  have ne1 : ∀ {b o}, G1.get? b = some o → b ≠ ce.locals ∧ G.get? b = some o := fun {b o} e => by
    by_cases q : b = ce.locals
    · rw [out1 b (by simp [q])] at e; cases e
    · exact ⟨q, by rw [← in1 b (by simp [q])]; exact e⟩
  have neB : ∀ {b o}, B1.get? b = some o → b ≠ ce.locals ∧ B.get? b = some o := fun {b o} e => by
    by_cases q : b = ce.locals
    · rw [outB b (by simp [q])] at e; cases e
    · exact ⟨q, by rw [← inB b (by simp [q])]; exact e⟩
  have subB : ∀ L, B.get? L = none → B1.get? L = none := fun L e => by
    by_cases q : L = ce.locals
    · exact outB L (by simp [q])
    · rw [inB L (by simp [q])]; exact e
  have J1 := JX.turnedL (h' := G1) (t' := s'.toks) (ch := [ce.locals]) (fun b o hb e => by rw [in1 b (by simpa using hb)]; exact e) (fun b hb => by
    rw [List.mem_singleton.mp hb]
    exact I3.fpOk (Nat.le_of_eq hC.symm) nC)
  obtain ⟨m0, hm0, _⟩ := J.loc
  have hm0 : G.Ns ce.locals m0 := hm0
  have hn : s'.heap.Ns ce.locals m0 := Heap.Ns.keeps hm0 back
  have fl1 : HandSPX.FlyingZ B1 (X.env :: X.outer) a (L2N.Zn cls d) s'.heap := by
    rw [hs] at fl
    exact ⟨fun b o e => fl.1 b o (neB e).2, subB a fl.2.1, frames_sub subB fl.2.2.1, traced_sub subB fl.2.2.2⟩
  have hA : X.A.frames = some (X.env :: X.outer) := by rw [I3.ok.frames, hs]
  show wpAny _ _ (noteFrame (.ref a) ce) _ _ s'
  rw [noteFrame_env _ hfr]
  refine PXN.looks_onZ L2N.Zn.steady hA hf fl1 fun h1 hd1 up1 => ?_
  refine ⟨m0, hn.upToSlots up1, fun h2 m2 hn2 sb2 => ?_⟩
  obtain ⟨k1, k2, k3, k4⟩ := hd1
  have b2 : B1.StaysIn h2 := fun b o e => (sb2.2 b (neB e).1).trans (k1 b o e)
  have f2 : h2.FunFrames B1 (X.env :: X.outer) := Heap.FunFrames.sameBut sb2 hn2 k3
  have t2 := traced_but (hn.upToSlots up1) sb2 k4
  obtain ⟨oe, vs, T, oT, ts, he, hz, hd, h1', r⟩ := id t2
  unfold PySem.passOn
  refine wpAny_bind (wpAny_field he hd h1' ?_)
  rw [if_neg (show ¬ ((Value.ref T == Value.none) = true) from by simp)]
  rw [hfr, hf]
  refine wpAny_bind (HandSPX.setFlight_anyZ (fr := some X.env.locals) b2 f2 t2 fun h3 b3 f3 t3 up3 => ?_)
  refine wpAny_throw (tk _ _ ?_)
  refine ⟨a, B1, _, pins, σ, H'', cls, d, rfl, J1, fun b o e nm => ?_, fun b o e nf => ?_, .inr (.inr ?_), na, os, ag, w⟩
  · obtain ⟨q1, q2⟩ := ne1 e
    by_cases q : (B.get? b).isSome = true
    · obtain ⟨o', q'⟩ := Option.isSome_iff_exists.mp q
      have e1 := back b o q2
      rw [fl.1 b o' q'] at e1
      rw [inB b (by simp [q1]), q', e1]
    · rw [out b (by rw [Bool.eq_false_iff.mpr q, decide_eq_false nm]; rfl)] at q2
      cases q2
  · obtain ⟨q1, q2⟩ := ne1 e
    obtain ⟨sl, e1⟩ := up1 b o (back b o q2) nf
    obtain ⟨sl2, e2⟩ := up3 b _ ((sb2.2 b q1).trans e1) nf
    exact ⟨sl2, e2⟩
  · rw [hs]
    exact ⟨b3, subB a (by rw [hs] at fl; exact fl.2.1), f3, t3⟩
/-- [f(..) for x in ..], f may raise -/
def tLcX (W : WX) (wi : TI) (g : TG) (tt : TT) (te : (Bk.St → XK) → TE) (vs : List Nat) : TE := fun σ H Q => tLc wi g tt (te fun _ => WE W σ) vs σ H Q
theorem pe_lcX {elt tg iter : Expr} {ifs : List Expr} {own : List (Str × Nat)} {pos : Pos} {wi : TI} {g : TG} {tt : TT} {te : (Bk.St → XK) → TE} (tk : L2N.Takes X W) (hc : X.calm = true) (hN : X.N.Nodup) (hi : PI X tg iter wi) (ok : BlkOk X.N X.env.scope scope own)
    (hg : ∀ (s : Shared) (H : Hp) (C : Addr) (cl : List (Str × Addr)) (fp : List Addr), PG (X.blk s H scope (compEnvC scope cl C X.env) fp) tg g) (ht : ∀ (s : Shared) (H : Hp) (C : Addr) (cl : List (Str × Addr)) (fp : List Addr), PTs (X.blk s H scope (compEnvC scope cl C X.env) fp) ifs tt)
    (he : ∀ (s : Shared) (H : Hp) (C : Addr) (cl : List (Str × Addr)) (fp : List Addr) (xe : Value → Shared → Prop) (E : XK), (∀ σ', PassesAt (L2N.CX X.prog X.w) (blkX X s H scope (compEnvC scope cl C X.env) fp xe) σ' E) → PE (blkX X s H scope (compEnvC scope cl C X.env) fp xe) elt (te fun _ => E))
    (hs : X.stack = X.env :: X.outer := by rfl) (hf : X.env.frame = some X.env.locals := by rfl) (hfs : ∀ x, foldedSetIterable iter X.env x = pure x := by intro _; rfl) :
    PE X (.ListComp elt [⟨tg, iter, ifs, 0⟩] scope pos) (tLcX W wi g tt te (own.map (·.2))) := by
  refine ⟨fun pins s σ H Q I h => ?_⟩
  have h : tLc wi g tt (te fun _ => WE W σ) (own.map (·.2)) σ H Q := h
  rw [eval_ListComp]
  have hfree : ∀ y ∈ scope.names, y.2 = .free → ∃ c, X.env.cells.lookup y.1 = some c := fun y hy e => by
    rcases ok.free y hy e with k | k
    · exact I.ok.has _ (.inl k)
    · exact I.ok.has _ (.inr k)
  refine comprehension_at (use := none) rfl hfs (closure_ok hfree) ok.kind (fun y hy e => by rw [ok.uniq y hy, e])
    (thn (hi.run pins s σ H _ I h) fun xv s1 hx => thn hx fun itv s2 h2 => ?_)
  obtain ⟨it, fp, tn, J, H2, e, I2, T, st2, f2, q⟩ := h2
  subst e
  refine wpAny_newObj_type (newEnv_comp ?_) (by show 0 ≤ sizeLine; decide)
  generalize hD : s2.heap.objs.size = D
  have hDn : H2 D = none := I2.hok.fresh (Nat.le_of_eq hD)
  obtain ⟨V, ⟨m0, w0⟩, turn⟩ := q D hDn
  generalize hs3 : ({ s2 with heap := s2.heap.push { cls := .type "list", data := .seq ([] : List Value).toArray } } : Shared) = s3
  have I3 : Inv X pins σ (upd H2 D (.lst [])) s3 := by
    rw [← hs3]
    refine I2.laid (t' := s2.toks) (fun b o e => Heap.get?_push_of_some _ e) (Nat.le_of_eq hD) ⟨Nat.zero_le _, [], 0, .nil, ?_⟩
    rw [← hD]
    exact Heap.get?_push_size _ rfl
  have h3 : s3.heap = s2.heap.push { cls := .type "list", data := .seq ([] : List Value).toArray } := by rw [← hs3]
  have sz : ∀ b ∈ fp, b < s2.heap.objs.size := fun b hb => by
    obtain ⟨o, e, _⟩ := T.obj _ _ st2 b hb
    exact Heap.lt_size e
  have f3 : ∀ b ∈ fp, FpOk X pins (upd H2 D (.lst [])) b ∧ b < s3.heap.objs.size := fun b hb => by
    have hlt := sz b hb
    refine ⟨⟨?_, (f2 b hb).2⟩, by rw [h3, Heap.size_push]; exact Nat.lt_succ_of_lt hlt⟩
    rw [upd_ne (by rw [← hD]; exact Nat.ne_of_lt hlt)]
    exact (f2 b hb).1
  have st3 : tn 0 s3.heap := T.keep _ _ _ st2 fun b _ o e => by rw [h3]; exact Heap.get?_push_of_some _ e
  have I4 := block_start I3 ok hN f3
  have pg := hg s3 (upd H2 D (.lst [])) s3.heap.objs.size (cellsFrom (s3.heap.objs.size + 1) scope.names (cloFrom X.env.cells scope.names [])) fp
  have pt := ht s3 (upd H2 D (.lst [])) s3.heap.objs.size (cellsFrom (s3.heap.objs.size + 1) scope.names (cloFrom X.env.cells scope.names [])) fp
  have pe := he s3 (upd H2 D (.lst [])) s3.heap.objs.size (cellsFrom (s3.heap.objs.size + 1) scope.names (cloFrom X.env.cells scope.names [])) fp
  show codeAny _ _ (.compStart (.ListComp elt [⟨tg, iter, ifs, 0⟩] scope pos) 0 (.ref it) (.ref D) (compEnvC scope (cellsFrom (s3.heap.objs.size + 1) scope.names (cloFrom X.env.cells scope.names [])) s3.heap.objs.size X.env)) (compEnds (model X.prog X.w) X.A X.xe none _ (.ref D) (compEnvC scope (cellsFrom (s3.heap.objs.size + 1) scope.names (cloFrom X.env.cells scope.names [])) s3.heap.objs.size X.env)) { s3 with heap := pushCells (s3.heap.push { cls := .type "dict", data := .dict #[] }) scope.names }
  have nfp : ∀ b ∈ fp, (upd H2 D (.lst [])) b = none := fun b hb => (f3 b hb).1.1
  generalize hce : compEnvC scope (cellsFrom (s3.heap.objs.size + 1) scope.names (cloFrom X.env.cells scope.names [])) s3.heap.objs.size X.env = ce at I4 pg pt pe ⊢
  have cL : ce.locals = s3.heap.objs.size := by subst hce; rfl
  have cF : ce.frame = X.env.frame := by subst hce; rfl
  generalize hH3 : upd H2 D (.lst []) = H3 at I3 I4 pg pt pe w0 nfp f3
  generalize hs4 : ({ s3 with heap := pushCells (s3.heap.push { cls := .type "dict", data := .dict #[] }) scope.names } : Shared) = s4 at I4 ⊢
  have st4 : tn 0 s4.heap := T.keep _ _ _ st3 fun b _ o e => by rw [← hs4]; exact pushCells_keeps _ _ _ _ (Heap.get?_push_of_some _ e)
  have stat : ∀ {σ' : St} {H' : Hp} {s' : Shared}, Inv (X.blk s3 H3 scope ce fp) [] σ' H' s' → (∀ b ∈ fp, H' b = none) → ∀ b ∈ fp, FpOk (X.blk s3 H3 scope ce fp) [] H' b := fun {σ' H' s'} I' hn b hb =>
    ⟨hn b hb, (I'.ok.exf b hb).1, I'.ok.exfs b hb, .inl hb, fun x c e => (I'.ok.exf b hb).2 x c e, fun p hp => absurd (show p ∈ ([] : List (Addr × Obj)) ++ [] from hp) (by simp)⟩
  -- what is raised in the element
  have pe := pe (notedBy (model X.prog X.w) X.A ce (CompFails (model X.prog X.w) X.A X.xe ce)) (WE W σ) (fun σ' pins' H' s e s' I' c => comp_fails hs hf tk I3 (fun b hb => (f3 b hb).1) cL cF I' c)
  have loop : codeAny (model X.prog X.w) X.A (.compLoop (.ListComp elt [⟨tg, iter, ifs, 0⟩] scope pos) 0 (.ref it) (.ref D) ce) (compEnds (model X.prog X.w) X.A X.xe none (fun v s' => EP X pins σ Q v s') (.ref D) ce) s4 := by
    refine compLoop_any (fun n s' => ∃ i H', Inv (X.blk s3 H3 scope ce fp) [] (wipe σ (own.map (·.2))) H' s' ∧ tn i s'.heap ∧ (∀ b ∈ fp, H' b = none) ∧ V i n H') ?_ m0 ⟨0, H3, I4, st4, nfp, w0⟩
    rintro n s5 ⟨i, H5, I5, st5, n5, w5⟩
    rcases turn i n H5 w5 with ⟨stop, qq⟩ | ⟨go, Nx, hNx, step⟩
    · have td := T.done (X.blk s3 H3 scope ce fp) rfl rfl rfl hc i [] s5 _ H5 (fun _ _ => False) I5 (stat I5 n5) st5 stop
      refine thnF td fun r s6 ⟨hr, I6⟩ => ?_
      subst hr
      have I7 : Inv X pins σ H5 s6 := I3.call' (ch := fp) I6.os I6.base I6.hok I6.bare fun b hb => ⟨(f3 b hb).1.2.2.2.1, (f3 b hb).1.2.1, (f3 b hb).1.2.2.2.2.1, (f3 b hb).1.2.2.2.2.2⟩
      have nC : H5 ce.locals = none := I6.free
      obtain ⟨m, hn, _⟩ := I6.loc
      have hn : s6.heap.Ns ce.locals m := hn
      refine ⟨m, hn, fun h'' sb => ?_⟩
      obtain ⟨f0, f1, f2, f3, f4, f5⟩ : FpOk X pins H5 ce.locals := I3.fpOk (Nat.le_of_eq cL.symm) nC
      exact ⟨.ref D, H5, I7.turned (t' := s6.toks) (fun b o hb e => (sb.2 b hb).trans e) f0 f1 f3 f4 f5, rfl, qq⟩
    · have ti := T.item (X.blk s3 H3 scope ce fp) rfl rfl rfl hc i [] s5 _ H5 (fun _ _ => False) I5 (stat I5 n5) st5 go
      refine thnF ti fun r s6 ⟨u, hr, h6⟩ => ?_
      subst hr
      refine thnF h6 fun _ s7 ⟨x, H7, I7, r7, y7, st7, n7⟩ => ?_
      have I7' := I7.pinned (stat I7 n7) (T.obj _ _ st7)
      refine thnF (pg.run _ s7 _ H7 x u _ I7' r7 (step x H7 y7)) fun _ s8 ⟨σ8, H8, I8, hw8, q8⟩ => ?_
      refine thnF (pt.run _ s8 σ8 H8 _ I8 q8) fun b s9 ⟨H9, I9, q9⟩ => ?_
      have fin : ∀ {s' : Shared} {H' : Hp}, Inv (X.blk s3 H3 scope ce fp) ([] ++ pinsAt fp s7.heap) σ8 H' s' → Nx H' → ∃ m, m < n ∧ ∃ i H', Inv (X.blk s3 H3 scope ce fp) [] (wipe σ (own.map (·.2))) H' s' ∧ tn i s'.heap ∧ (∀ b ∈ fp, H' b = none) ∧ V i m H' := fun {s' H'} I' nx => by
        obtain ⟨m', hm, w'⟩ := hNx H' nx
        have pin' : ∀ b ∈ fp, ∀ o, s7.heap.get? b = some o → s'.heap.get? b = some o ∧ H' b = none := fun b hb o e =>
          let z := I'.pin (b, o) (List.mem_append_right _ (List.mem_append_right _ (mem_pinsAt hb e)))
          ⟨z.1, z.2.1⟩
        have hl : (wipe σ (own.map (·.2))).length = σ8.length := by rw [← hw8, wipe_length]
        refine ⟨m', hm, i + 1, H', (I'.unpinned (pins := [])).weak hl (fun j v e => ?_), T.keep _ _ _ st7 fun b hb o e => (pin' b hb o e).1, fun b hb => ?_, w'⟩
        · rw [← hw8] at e
          exact (wipe_some e).1
        · obtain ⟨o, e, _⟩ := T.obj _ _ st7 b hb
          exact (pin' b hb o e).2
      cases b with
      | false =>
        simp only [Bool.false_eq_true, if_false] at q9 ⊢
        exact fin I9 q9
      | true =>
        simp only [if_true] at q9 ⊢
        refine thn (pe.run _ s9 σ8 H9 _ (I9.wish _) q9) fun z s10 ⟨yv, H10, I10, r10, acc, hD10, hz10, nx⟩ => ?_
        have I10 : Inv (X.blk s3 H3 scope ce fp) ([] ++ pinsAt fp s7.heap) σ8 H10 s10 := (Inv.unwish (X := X.blk s3 H3 scope ce fp) I10)
        exact app_ok (X := X.blk s3 H3 scope ce fp) I10 hD10 hz10 r10 fun s11 I11 => fin I11 nx
  exact codeAny_compStart_list loop (T.self X.A 0 _ _ _ st4 loop)
end
end Bk

namespace Bk
open PySem L2 PyProof.Rows
def t_need_order (K : PySem.W.Frag) (a : Ac) (E : XK) : TS :=
  tIfS (tNot (tB (tVar 0))) (tRaiseE a.BadOrder (WM E)) (tNext)
def N_need_order : List Str := ["good"]
def sp_need_order (K : PySem.W.Frag) (a : Ac) : Sp := fun vs H Q E => vs.length = (["good"] : List Str).length ∧ t_need_order K a E ⟨fun _ H' => Q .non H', Q, F0, F0⟩ (start ["good"] vs) H
theorem in_need_order {K : PySem.W.Frag} {a : Ac} {x0 : V} {H : Hp} {Q : VK} {E : XK} (q : t_need_order K a E ⟨fun _ H' => Q .non H', Q, F0, F0⟩ [some x0] H) : sp_need_order K a [x0] H Q E := ⟨rfl, q⟩
def t_word_for (K : PySem.W.Frag) (a : Ac) (E : XK) : TS :=
  tSeq (tIfS (tB (tCB ((rIsi K)) (tCons (tVar 0) (tCons (tC (.ty "list")) (tNil))))) (tRet (tBM K "str" (rJoinP K) (tC (.str ",")) (tCons (tLc (iSeqP K (tVar 0)) (gName 1) (tYes) (tCB (rStrP) (tCons (tVar 1) (tNil))) [1]) (tNil)))) (tNext)) (tRet (tCB (rStrP) (tCons (tVar 0) (tNil))))
def N_word_for : List Str := ["part", "number"]
def sp_word_for (K : PySem.W.Frag) (a : Ac) : Sp := fun vs H Q E => vs.length = (["part"] : List Str).length ∧ t_word_for K a E ⟨fun _ H' => Q .non H', Q, F0, F0⟩ (start ["part", "number"] vs) H
theorem in_word_for {K : PySem.W.Frag} {a : Ac} {x0 : V} {H : Hp} {Q : VK} {E : XK} (q : t_word_for K a E ⟨fun _ H' => Q .non H', Q, F0, F0⟩ [some x0, none] H) : sp_word_for K a [x0] H Q E := ⟨rfl, q⟩
def t_L_cell_at (K : PySem.W.Frag) (a : Ac) (E : XK) : TS :=
  tSeq (tIfS (tTest (tOp rLtP (tVar 1) (tCB (rLenP K) (tCons (tVar 0) (tNil))))) (tRet (tOp (rIxP K) (tVar 0) (tVar 1))) (tNext)) (tRet (tC (.int 0)))
def N_L_cell_at : List Str := ["_law_script", "_law_k"]
def sp_L_cell_at (K : PySem.W.Frag) (a : Ac) : Sp := fun vs H Q E => vs.length = (["_law_script", "_law_k"] : List Str).length ∧ t_L_cell_at K a E ⟨fun _ H' => Q .non H', Q, F0, F0⟩ (start ["_law_script", "_law_k"] vs) H
theorem in_L_cell_at {K : PySem.W.Frag} {a : Ac} {x0 x1 : V} {H : Hp} {Q : VK} {E : XK} (q : t_L_cell_at K a E ⟨fun _ H' => Q .non H', Q, F0, F0⟩ [some x0, some x1] H) : sp_L_cell_at K a [x0, x1] H Q E := ⟨rfl, q⟩
def t_L_sign (K : PySem.W.Frag) (a : Ac) (E : XK) : TS :=
  tSeq (tAsg (tC (.str " !\"#$&'()*+,-./0123456789:;<=>?@ABCDEFGHIJKLMNOPQRSTUVWXYZ[\\]^_`abcdefghijklmnopqrstuvwxyz{|}~\n\t")) (gName 1)) (tRet (tOp (rIxP K) (tOp rAddP (tVar 1) (tC (.str "     ,,,,,00123456789"))) (tOp rModP (tVar 0) (tOp rAddP (tCB (rLenP K) (tCons (tVar 1) (tNil))) (tC (.int 21))))))
def N_L_sign : List Str := ["_law_cell", "_law_signs"]
def sp_L_sign (K : PySem.W.Frag) (a : Ac) : Sp := fun vs H Q E => vs.length = (["_law_cell"] : List Str).length ∧ t_L_sign K a E ⟨fun _ H' => Q .non H', Q, F0, F0⟩ (start ["_law_cell", "_law_signs"] vs) H
theorem in_L_sign {K : PySem.W.Frag} {a : Ac} {x0 : V} {H : Hp} {Q : VK} {E : XK} (q : t_L_sign K a E ⟨fun _ H' => Q .non H', Q, F0, F0⟩ [some x0, none] H) : sp_L_sign K a [x0] H Q E := ⟨rfl, q⟩
def t_L_path (K : PySem.W.Frag) (a : Ac) (E : XK) : TS :=
  tSeq (tAsg (tC (.str "/abcxyz/!-.,0Z~")) (gName 1)) (tSeq (tAsg (tC (.str "")) (gName 2)) (tSeq (tFor (iRng1 (tCons (tOp rAddP (tC (.int 1)) (tOp rModP (tVar 0) (tC (.int 9)))) (tNil))) (gName 3) (tSeq (tAsg (tOp rAddP (tVar 2) (tOp (rIxP K) (tVar 1) (tOp rModP (tOp rMulP (tOp rDivP (tVar 0) (tC (.int 9))) (tOp rAddP (tVar 3) (tC (.int 1)))) (tC (.int 15))))) (gName 2)) (tAsg (tOp rAddP (tVar 0) (tC (.int 7919))) (gName 0)))) (tRet (tVar 2))))
def N_L_path : List Str := ["_law_cell", "_law_some", "_law_text", "_law_k"]
def sp_L_path (K : PySem.W.Frag) (a : Ac) : Sp := fun vs H Q E => vs.length = (["_law_cell"] : List Str).length ∧ t_L_path K a E ⟨fun _ H' => Q .non H', Q, F0, F0⟩ (start ["_law_cell", "_law_some", "_law_text", "_law_k"] vs) H
theorem in_L_path {K : PySem.W.Frag} {a : Ac} {x0 : V} {H : Hp} {Q : VK} {E : XK} (q : t_L_path K a E ⟨fun _ H' => Q .non H', Q, F0, F0⟩ [some x0, none, none, none] H) : sp_L_path K a [x0] H Q E := ⟨rfl, q⟩
def t_L_number (K : PySem.W.Frag) (a : Ac) (E : XK) : TS :=
  tSeq (tIfS (tTest (tOp (rEqP K) (tOp rModP (tVar 0) (tC (.int 4))) (tC (.int 0)))) (tRet (tOp (rIxP K) (tLst (tCons (tC (.int 0)) (tCons (tC (.int 999999999)) (tCons (tC (.int 1)) (tCons (tC (.int 10)) (tCons (tC (.int 9)) (tCons (tC (.int 100000000)) (tNil)))))))) (tOp rModP (tOp rDivP (tVar 0) (tC (.int 4))) (tC (.int 6))))) (tNext)) (tRet (tOp rModP (tOp rDivP (tVar 0) (tC (.int 4))) (tOp rPowP (tC (.int 10)) (tC (.int 9)))))
def N_L_number : List Str := ["_law_cell"]
def sp_L_number (K : PySem.W.Frag) (a : Ac) : Sp := fun vs H Q E => vs.length = (["_law_cell"] : List Str).length ∧ t_L_number K a E ⟨fun _ H' => Q .non H', Q, F0, F0⟩ (start ["_law_cell"] vs) H
theorem in_L_number {K : PySem.W.Frag} {a : Ac} {x0 : V} {H : Hp} {Q : VK} {E : XK} (q : t_L_number K a E ⟨fun _ H' => Q .non H', Q, F0, F0⟩ [some x0] H) : sp_L_number K a [x0] H Q E := ⟨rfl, q⟩
def t_L_line (K : PySem.W.Frag) (a : Ac) (E : XK) : TS :=
  tSeq (tAsg (tOp (rIxP K) (tVar 0) (tC (.int 0))) (gName 1)) (tSeq (tFor (iSeqP K (tSl (rSlP K) (tVar 0) (tPart (tC (.int 1))) (tNoPart))) (gName 2) (tIfS (tB (tCB ((rIsi K)) (tCons (tVar 2) (tCons (tC (.ty "list")) (tNil))))) (tAsg (tOp rAddP (tOp rAddP (tVar 1) (tC (.str " "))) (tBM K "str" (rJoinP K) (tC (.str ",")) (tCons (tLc (iSeqP K (tVar 2)) (gName 3) (tYes) (tCB (rStrP) (tCons (tVar 3) (tNil))) [3]) (tNil)))) (gName 1)) (tAsg (tOp rAddP (tOp rAddP (tVar 1) (tC (.str " "))) (tCB (rStrP) (tCons (tVar 2) (tNil)))) (gName 1)))) (tRet (tVar 1)))
def N_L_line : List Str := ["_law_order_here", "_law_line_here", "_law_part", "_law_number_here"]
def sp_L_line (K : PySem.W.Frag) (a : Ac) : Sp := fun vs H Q E => vs.length = (["_law_order_here"] : List Str).length ∧ t_L_line K a E ⟨fun _ H' => Q .non H', Q, F0, F0⟩ (start ["_law_order_here", "_law_line_here", "_law_part", "_law_number_here"] vs) H
theorem in_L_line {K : PySem.W.Frag} {a : Ac} {x0 : V} {H : Hp} {Q : VK} {E : XK} (q : t_L_line K a E ⟨fun _ H' => Q .non H', Q, F0, F0⟩ [some x0, none, none, none] H) : sp_L_line K a [x0] H Q E := ⟨rfl, q⟩
def t_L_number_of (K : PySem.W.Frag) (a : Ac) (E : XK) : TS :=
  tSeq (tIfS (tOr (tNot (tTest (tChain rLeP rLeP (tC (.int 1)) (tCB (rLenP K) (tCons (tVar 0) (tNil))) (tC (.int 9))))) (tTest (tOp (rNeP K) (tLc (iSeqP K (tVar 0)) (gName 1) (tTest (tOp (rNotInP K) (tVar 1) (tC (.str "0123456789")))) (tVar 1) [1]) (tLst (tNil))))) (tRet (tC .non)) (tNext)) (tSeq (tIfS (tAnd (tTest (tOp (rEqP K) (tOp (rIxP K) (tVar 0) (tC (.int 0))) (tC (.str "0")))) (tTest (tOp rGtP (tCB (rLenP K) (tCons (tVar 0) (tNil))) (tC (.int 1))))) (tRet (tC .non)) (tNext)) (tRet (tCB (rIntP) (tCons (tVar 0) (tNil)))))
def N_L_number_of : List Str := ["_law_word", "_law_sign_here"]
def sp_L_number_of (K : PySem.W.Frag) (a : Ac) : Sp := fun vs H Q E => vs.length = (["_law_word"] : List Str).length ∧ t_L_number_of K a E ⟨fun _ H' => Q .non H', Q, F0, F0⟩ (start ["_law_word", "_law_sign_here"] vs) H
theorem in_L_number_of {K : PySem.W.Frag} {a : Ac} {x0 : V} {H : Hp} {Q : VK} {E : XK} (q : t_L_number_of K a E ⟨fun _ H' => Q .non H', Q, F0, F0⟩ [some x0, none] H) : sp_L_number_of K a [x0] H Q E := ⟨rfl, q⟩
def t_L_parts (K : PySem.W.Frag) (a : Ac) (E : XK) : TS :=
  tSeq (tAsg (tC (.str "path")) (gName 1)) (tSeq (tAsg (tC (.str "number")) (gName 2)) (tSeq (tIfS (tTest (tOp (rInP K) (tOp (rIxP K) (tVar 0) (tC (.int 0))) (tTup (tCons (tC (.str "look")) (tCons (tC (.str "rise")) (tNil)))))) (tRet (tLst (tNil))) (tNext)) (tSeq (tIfS (tTest (tOp (rInP K) (tOp (rIxP K) (tVar 0) (tC (.int 0))) (tTup (tCons (tC (.str "file")) (tCons (tC (.str "folder")) (tCons (tC (.str "unlink")) (tCons (tC (.str "leave")) (tCons (tC (.str "names")) (tCons (tC (.str "kind")) (tCons (tC (.str "size")) (tNil))))))))))) (tRet (tLst (tCons (tVar 1) (tNil)))) (tNext)) (tSeq (tIfS (tTest (tOp (rInP K) (tOp (rIxP K) (tVar 0) (tC (.int 0))) (tTup (tCons (tC (.str "link")) (tCons (tC (.str "move")) (tNil)))))) (tRet (tLst (tCons (tVar 1) (tCons (tVar 1) (tNil))))) (tNext)) (tSeq (tIfS (tTest (tOp (rEqP K) (tOp (rIxP K) (tVar 0) (tC (.int 0))) (tC (.str "put")))) (tRet (tLst (tCons (tVar 1) (tCons (tVar 2) (tCons (tC (.str "list")) (tNil)))))) (tNext)) (tSeq (tIfS (tTest (tOp (rEqP K) (tOp (rIxP K) (tVar 0) (tC (.int 0))) (tC (.str "cut")))) (tRet (tLst (tCons (tVar 1) (tCons (tVar 2) (tNil))))) (tNext)) (tSeq (tIfS (tTest (tOp (rEqP K) (tOp (rIxP K) (tVar 0) (tC (.int 0))) (tC (.str "words")))) (tRet (tLst (tCons (tVar 1) (tCons (tVar 2) (tCons (tVar 2) (tNil)))))) (tNext)) (tSeq (tIfS (tTest (tOp (rEqP K) (tOp (rIxP K) (tVar 0) (tC (.int 0))) (tC (.str "stop")))) (tRet (tLst (tCons (tVar 2) (tNil)))) (tNext)) (tRet (tC .non))))))))))
def N_L_parts : List Str := ["_law_words", "_law_one", "_law_number_here"]
def sp_L_parts (K : PySem.W.Frag) (a : Ac) : Sp := fun vs H Q E => vs.length = (["_law_words"] : List Str).length ∧ t_L_parts K a E ⟨fun _ H' => Q .non H', Q, F0, F0⟩ (start ["_law_words", "_law_one", "_law_number_here"] vs) H
theorem in_L_parts {K : PySem.W.Frag} {a : Ac} {x0 : V} {H : Hp} {Q : VK} {E : XK} (q : t_L_parts K a E ⟨fun _ H' => Q .non H', Q, F0, F0⟩ [some x0, none, none] H) : sp_L_parts K a [x0] H Q E := ⟨rfl, q⟩
def t_L_alike (K : PySem.W.Frag) (a : Ac) (E : XK) : TS :=
  tSeq (tIfS (tOr (tNot (tB (tCB ((rIsi K)) (tCons (tVar 0) (tCons (tC (.ty "tuple")) (tNil)))))) (tTest (tOp (rNeP K) (tCB (rLenP K) (tCons (tVar 0) (tNil))) (tCB (rLenP K) (tCons (tVar 1) (tNil)))))) (tRet (tC (.bl false))) (tNext)) (tSeq (tFor (RZ.iZipA K (tCons (tVar 0) (tCons (tVar 1) (tNil)))) (gTupP K 2 (gCons (gName 2) (gCons (gName 3) (gNil)))) (tSeq (tIfS (tB (tCB ((rIsi K)) (tCons (tVar 3) (tCons (tC (.ty "list")) (tNil))))) (tIfS (tOr (tNot (tB (tCB ((rIsi K)) (tCons (tVar 2) (tCons (tC (.ty "list")) (tNil)))))) (tTest (tOp (rNeP K) (tLc (iSeqP K (tVar 2)) (gName 4) (tB (tCB ((rIsi K)) (tCons (tVar 4) (tCons (tC (.ty "bool")) (tNil))))) (tVar 4) [4]) (tLst (tNil))))) (tRet (tC (.bl false))) (tNext)) (tNext)) (tIfS (tOr (tB (tCB ((rIsi K)) (tCons (tVar 2) (tCons (tC (.ty "bool")) (tNil))))) (tTest (tOp (rNeP K) (tVar 2) (tVar 3)))) (tRet (tC (.bl false))) (tNext)))) (tRet (tC (.bl true))))
def N_L_alike : List Str := ["_law_found", "_law_due_here", "_law_one", "_law_other", "_law_number_here"]
def sp_L_alike (K : PySem.W.Frag) (a : Ac) : Sp := fun vs H Q E => vs.length = (["_law_found", "_law_due_here"] : List Str).length ∧ t_L_alike K a E ⟨fun _ H' => Q .non H', Q, F0, F0⟩ (start ["_law_found", "_law_due_here", "_law_one", "_law_other", "_law_number_here"] vs) H
theorem in_L_alike {K : PySem.W.Frag} {a : Ac} {x0 x1 : V} {H : Hp} {Q : VK} {E : XK} (q : t_L_alike K a E ⟨fun _ H' => Q .non H', Q, F0, F0⟩ [some x0, some x1, none, none, none] H) : sp_L_alike K a [x0, x1] H Q E := ⟨rfl, q⟩
def t_number_of (K : PySem.W.Frag) (a : Ac) (E : XK) : TS :=
  tSeq (tDrop (tCallS (sp_need_order K a) (WE (WM E)) (tCons (tAndV (tChain rLeP rLeP (tC (.int 1)) (tCB (rLenP K) (tCons (tVar 0) (tNil))) (tC (.int 9))) (tOrV (tOp (rEqP K) (tVar 0) (tC (.str "0"))) (tOp (rNeP K) (tOp (rIxP K) (tVar 0) (tC (.int 0))) (tC (.str "0"))))) (tNil)))) (tSeq (tFor (iSeqP K (tVar 0)) (gName 1) (tDrop (tCallS (sp_need_order K a) (WE (WM E)) (tCons (tOp (rInP K) (tVar 1) (tC (.str "0123456789"))) (tNil))))) (tRet (tCB (rIntP) (tCons (tVar 0) (tNil)))))
def N_number_of : List Str := ["word", "sign"]
def sp_number_of (K : PySem.W.Frag) (a : Ac) : Sp := fun vs H Q E => vs.length = (["word"] : List Str).length ∧ t_number_of K a E ⟨fun _ H' => Q .non H', Q, F0, F0⟩ (start ["word", "sign"] vs) H
theorem in_number_of {K : PySem.W.Frag} {a : Ac} {x0 : V} {H : Hp} {Q : VK} {E : XK} (q : t_number_of K a E ⟨fun _ H' => Q .non H', Q, F0, F0⟩ [some x0, none] H) : sp_number_of K a [x0] H Q E := ⟨rfl, q⟩
def t_line_of (K : PySem.W.Frag) (a : Ac) (E : XK) : TS :=
  tRet (tBM K "str" (rJoinP K) (tC (.str " ")) (tCons (tLc (iSeqP K (tVar 0)) (gName 1) (tYes) (tCallS (sp_word_for K a) (WE W0) (tCons (tVar 1) (tNil))) [1]) (tNil)))
def N_line_of : List Str := ["order", "part"]
def sp_line_of (K : PySem.W.Frag) (a : Ac) : Sp := fun vs H Q E => vs.length = (["order"] : List Str).length ∧ t_line_of K a E ⟨fun _ H' => Q .non H', Q, F0, F0⟩ (start ["order", "part"] vs) H
theorem in_line_of {K : PySem.W.Frag} {a : Ac} {x0 : V} {H : Hp} {Q : VK} {E : XK} (q : t_line_of K a E ⟨fun _ H' => Q .non H', Q, F0, F0⟩ [some x0, none] H) : sp_line_of K a [x0] H Q E := ⟨rfl, q⟩
def t_L_order (K : PySem.W.Frag) (a : Ac) (E : XK) : TS :=
  tSeq (tAsg (tLst (tCons (tC (.str "file")) (tCons (tC (.str "folder")) (tCons (tC (.str "unlink")) (tCons (tC (.str "leave")) (tCons (tC (.str "names")) (tCons (tC (.str "kind")) (tCons (tC (.str "size")) (tCons (tC (.str "link")) (tCons (tC (.str "move")) (tCons (tC (.str "put")) (tCons (tC (.str "cut")) (tCons (tC (.str "words")) (tNil)))))))))))))) (gName 1)) (tSeq (tAsg (tOp (rIxP K) (tOp rAddP (tVar 1) (tLst (tCons (tC (.str "look")) (tCons (tC (.str "stop")) (tCons (tC (.str "rise")) (tNil)))))) (tOp rModP (tCallS (sp_L_cell_at K a) (WE (WM E)) (tCons (tVar 0) (tCons (tC (.int 0)) (tNil)))) (tC (.int 15)))) (gName 1)) (tSeq (tAsg (tCallS (sp_L_path K a) (WE (WM E)) (tCons (tCallS (sp_L_cell_at K a) (WE (WM E)) (tCons (tVar 0) (tCons (tC (.int 1)) (tNil)))) (tNil))) (gName 2)) (tSeq (tAsg (tCallS (sp_L_number K a) (WE (WM E)) (tCons (tCallS (sp_L_cell_at K a) (WE (WM E)) (tCons (tVar 0) (tCons (tC (.int 2)) (tNil)))) (tNil))) (gName 3)) (tSeq (tIfS (tTest (tOp (rInP K) (tVar 1) (tTup (tCons (tC (.str "look")) (tCons (tC (.str "rise")) (tNil)))))) (tRet (tTup (tCons (tVar 1) (tNil)))) (tNext)) (tSeq (tIfS (tTest (tOp (rEqP K) (tVar 1) (tC (.str "stop")))) (tRet (tTup (tCons (tVar 1) (tCons (tVar 3) (tNil))))) (tNext)) (tSeq (tIfS (tTest (tOp (rInP K) (tVar 1) (tTup (tCons (tC (.str "link")) (tCons (tC (.str "move")) (tNil)))))) (tRet (tTup (tCons (tVar 1) (tCons (tVar 2) (tCons (tCallS (sp_L_path K a) (WE (WM E)) (tCons (tCallS (sp_L_cell_at K a) (WE (WM E)) (tCons (tVar 0) (tCons (tC (.int 3)) (tNil)))) (tNil))) (tNil)))))) (tNext)) (tSeq (tIfS (tTest (tOp (rEqP K) (tVar 1) (tC (.str "cut")))) (tRet (tTup (tCons (tVar 1) (tCons (tVar 2) (tCons (tVar 3) (tNil)))))) (tNext)) (tSeq (tIfS (tTest (tOp (rEqP K) (tVar 1) (tC (.str "words")))) (tRet (tTup (tCons (tVar 1) (tCons (tVar 2) (tCons (tVar 3) (tCons (tCallS (sp_L_number K a) (WE (WM E)) (tCons (tCallS (sp_L_cell_at K a) (WE (WM E)) (tCons (tVar 0) (tCons (tC (.int 3)) (tNil)))) (tNil))) (tNil))))))) (tNext)) (tSeq (tIfS (tTest (tOp (rEqP K) (tVar 1) (tC (.str "put")))) (tSeq (tAsg (tOp rAddP (tC (.int 1)) (tOp rModP (tCallS (sp_L_cell_at K a) (WE (WM E)) (tCons (tVar 0) (tCons (tC (.int 3)) (tNil)))) (tC (.int 9)))) (gName 4)) (tRet (tTup (tCons (tVar 1) (tCons (tVar 2) (tCons (tVar 3) (tCons (tLc (iRng1 (tCons (tVar 4) (tNil))) (gName 5) (tYes) (tCallS (sp_L_number K a) (WE W0) (tCons (tCallS (sp_L_cell_at K a) (WE W0) (tCons (tVar 0) (tCons (tOp rAddP (tC (.int 8)) (tVar 5)) (tNil)))) (tNil))) [5]) (tNil)))))))) (tNext)) (tRet (tTup (tCons (tVar 1) (tCons (tVar 2) (tNil))))))))))))))
def N_L_order : List Str := ["_law_script", "_law_word", "_law_path_here", "_law_one", "_law_many", "_law_k"]
def sp_L_order (K : PySem.W.Frag) (a : Ac) : Sp := fun vs H Q E => vs.length = (["_law_script"] : List Str).length ∧ t_L_order K a E ⟨fun _ H' => Q .non H', Q, F0, F0⟩ (start ["_law_script", "_law_word", "_law_path_here", "_law_one", "_law_many", "_law_k"] vs) H
theorem in_L_order {K : PySem.W.Frag} {a : Ac} {x0 : V} {H : Hp} {Q : VK} {E : XK} (q : t_L_order K a E ⟨fun _ H' => Q .non H', Q, F0, F0⟩ [some x0, none, none, none, none, none] H) : sp_L_order K a [x0] H Q E := ⟨rfl, q⟩
def t_L_bent (K : PySem.W.Frag) (a : Ac) (E : XK) : TS :=
  tSeq (tAsg (tBM K "str" rSplitP (tVar 0) (tCons (tC (.str " ")) (tNil))) (gName 2)) (tSeq (tAsg (tOp rModP (tOp rDivP (tVar 1) (tC (.int 9))) (tOp rAddP (tCB (rLenP K) (tCons (tVar 0) (tNil))) (tC (.int 1)))) (gName 3)) (tSeq (tAsg (tOp rModP (tOp rDivP (tVar 1) (tC (.int 9))) (tCB (rLenP K) (tCons (tVar 2) (tNil)))) (gName 4)) (tSeq (tAsg (tCallS (sp_L_sign K a) (WE (WM E)) (tCons (tOp rDivP (tOp rDivP (tVar 1) (tC (.int 9))) (tOp rAddP (tCB (rLenP K) (tCons (tVar 0) (tNil))) (tC (.int 1)))) (tNil))) (gName 5)) (tSeq (tIfS (tTest (tOp (rEqP K) (tOp rModP (tVar 1) (tC (.int 9))) (tC (.int 0)))) (tRet (tOp rAddP (tOp rAddP (tSl (rSlP K) (tVar 0) (tNoPart) (tPart (tVar 3))) (tVar 5)) (tSl (rSlP K) (tVar 0) (tPart (tVar 3)) (tNoPart)))) (tNext)) (tSeq (tIfS (tTest (tOp (rEqP K) (tOp rModP (tVar 1) (tC (.int 9))) (tC (.int 1)))) (tRet (tOp rAddP (tSl (rSlP K) (tVar 0) (tNoPart) (tPart (tVar 3))) (tSl (rSlP K) (tVar 0) (tPart (tOp rAddP (tVar 3) (tC (.int 1)))) (tNoPart)))) (tNext)) (tSeq (tIfS (tTest (tOp (rEqP K) (tOp rModP (tVar 1) (tC (.int 9))) (tC (.int 2)))) (tRet (tOp rAddP (tOp rAddP (tSl (rSlP K) (tVar 0) (tNoPart) (tPart (tVar 3))) (tVar 5)) (tSl (rSlP K) (tVar 0) (tPart (tOp rAddP (tVar 3) (tC (.int 1)))) (tNoPart)))) (tNext)) (tSeq (tIfS (tTest (tOp (rEqP K) (tOp rModP (tVar 1) (tC (.int 9))) (tC (.int 3)))) (tRet (tBM K "str" (rJoinP K) (tC (.str " ")) (tCons (tOp rAddP (tSl (rSlP K) (tVar 2) (tNoPart) (tPart (tVar 4))) (tSl (rSlP K) (tVar 2) (tPart (tOp rAddP (tVar 4) (tC (.int 1)))) (tNoPart))) (tNil)))) (tNext)) (tSeq (tIfS (tTest (tOp (rEqP K) (tOp rModP (tVar 1) (tC (.int 9))) (tC (.int 4)))) (tRet (tBM K "str" (rJoinP K) (tC (.str " ")) (tCons (tOp rAddP (tOp rAddP (tSl (rSlP K) (tVar 2) (tNoPart) (tPart (tVar 4))) (tSl (rSlP K) (tVar 2) (tPart (tVar 4)) (tPart (tOp rAddP (tVar 4) (tC (.int 1)))))) (tSl (rSlP K) (tVar 2) (tPart (tVar 4)) (tNoPart))) (tNil)))) (tNext)) (tSeq (tIfS (tTest (tOp (rEqP K) (tOp rModP (tVar 1) (tC (.int 9))) (tC (.int 5)))) (tSeq (tAsg (tCB rMax2 (tCons (tC (.int 1)) (tCons (tVar 4) (tNil)))) (gName 4)) (tRet (tBM K "str" (rJoinP K) (tC (.str " ")) (tCons (tOp rAddP (tOp rAddP (tSl (rSlP K) (tVar 2) (tNoPart) (tPart (tVar 4))) (tLst (tCons (tC (.str "")) (tNil)))) (tSl (rSlP K) (tVar 2) (tPart (tOp rAddP (tVar 4) (tC (.int 1)))) (tNoPart))) (tNil))))) (tNext)) (tSeq (tIfS (tTest (tOp (rEqP K) (tOp rModP (tVar 1) (tC (.int 9))) (tC (.int 6)))) (tRet (tBM K "str" (rJoinP K) (tC (.str " ")) (tCons (tOp rAddP (tSl (rSlP K) (tVar 2) (tNoPart) (tPart (tUn (rU fun i => .int (-i)) (tC (.int 1))))) (tLst (tCons (tOp rAddP (tC (.str "0")) (tOp (rIxP K) (tVar 2) (tUn (rU fun i => .int (-i)) (tC (.int 1))))) (tNil)))) (tNil)))) (tNext)) (tSeq (tIfS (tTest (tOp (rEqP K) (tOp rModP (tVar 1) (tC (.int 9))) (tC (.int 7)))) (tRet (tBM K "str" (rJoinP K) (tC (.str " ")) (tCons (tOp rAddP (tSl (rSlP K) (tVar 2) (tNoPart) (tPart (tUn (rU fun i => .int (-i)) (tC (.int 1))))) (tLst (tCons (tSl (rSlP K) (tOp rAddP (tOp (rIxP K) (tVar 2) (tUn (rU fun i => .int (-i)) (tC (.int 1)))) (tC (.str "1234567890"))) (tNoPart) (tPart (tOp rAddP (tC (.int 10)) (tOp rModP (tOp rDivP (tVar 1) (tC (.int 9))) (tC (.int 2)))))) (tNil)))) (tNil)))) (tNext)) (tSeq (tAsg (tLst (tCons (tC (.str "")) (tCons (tC (.str " ")) (tCons (tC (.str "File /a")) (tCons (tC (.str "file")) (tCons (tC (.str "rise ")) (tCons (tC (.str "stop -1")) (tCons (tC (.str "stop 1000000000")) (tCons (tC (.str "stop 01")) (tCons (tC (.str "put /a 0 ")) (tCons (tC (.str "put /a 0 1,,2")) (tNil)))))))))))) (gName 6)) (tRet (tOp (rIxP K) (tVar 6) (tOp rModP (tOp rDivP (tVar 1) (tC (.int 9))) (tC (.int 10)))))))))))))))))
def N_L_bent : List Str := ["_law_line_here", "_law_cell", "_law_words", "_law_at", "_law_place", "_law_sign_here", "_law_odd"]
def sp_L_bent (K : PySem.W.Frag) (a : Ac) : Sp := fun vs H Q E => vs.length = (["_law_line_here", "_law_cell"] : List Str).length ∧ t_L_bent K a E ⟨fun _ H' => Q .non H', Q, F0, F0⟩ (start ["_law_line_here", "_law_cell", "_law_words", "_law_at", "_law_place", "_law_sign_here", "_law_odd"] vs) H
theorem in_L_bent {K : PySem.W.Frag} {a : Ac} {x0 x1 : V} {H : Hp} {Q : VK} {E : XK} (q : t_L_bent K a E ⟨fun _ H' => Q .non H', Q, F0, F0⟩ [some x0, some x1, none, none, none, none, none] H) : sp_L_bent K a [x0, x1] H Q E := ⟨rfl, q⟩
def t_L_due (K : PySem.W.Frag) (a : Ac) (E : XK) : TS :=
  tSeq (tAsg (tBM K "str" rSplitP (tVar 0) (tCons (tC (.str " ")) (tNil))) (gName 1)) (tSeq (tAsg (tCallS (sp_L_parts K a) (WE (WM E)) (tCons (tVar 1) (tNil))) (gName 2)) (tSeq (tIfS (tOr (tTest (tOp (rInP K) (tC (.str "")) (tVar 1))) (tOr (tTest (tOp rIsP (tVar 2) (tC .non))) (tTest (tOp (rNeP K) (tCB (rLenP K) (tCons (tVar 2) (tNil))) (tOp rSubP (tCB (rLenP K) (tCons (tVar 1) (tNil))) (tC (.int 1))))))) (tRet (tC .non)) (tNext)) (tSeq (tAsg (tLst (tCons (tOp (rIxP K) (tVar 1) (tC (.int 0))) (tNil))) (gName 3)) (tSeq (tFor (RZ.iZipA K (tCons (tVar 2) (tCons (tSl (rSlP K) (tVar 1) (tPart (tC (.int 1))) (tNoPart)) (tNil)))) (gTupP K 2 (gCons (gName 4) (gCons (gName 5) (gNil)))) (tSeq (tAsg (tVar 5) (gName 6)) (tSeq (tIfS (tTest (tOp (rEqP K) (tVar 4) (tC (.str "number")))) (tAsg (tCallS (sp_L_number_of K a) (WE (WM E)) (tCons (tVar 5) (tNil))) (gName 6)) (tNext)) (tSeq (tIfS (tTest (tOp (rEqP K) (tVar 4) (tC (.str "list")))) (tAsg (tLc (iSeqP K (tBM K "str" rSplitP (tVar 5) (tCons (tC (.str ",")) (tNil)))) (gName 7) (tYes) (tCallS (sp_L_number_of K a) (WE W0) (tCons (tVar 7) (tNil))) [7]) (gName 6)) (tNext)) (tSeq (tIfS (tOr (tTest (tOp rIsP (tVar 6) (tC .non))) (tAnd (tTest (tOp (rEqP K) (tVar 4) (tC (.str "list")))) (tTest (tOp (rInP K) (tC .non) (tVar 6))))) (tRet (tC .non)) (tNext)) (tDrop (tBM K "list" rAppend (tVar 3) (tCons (tVar 6) (tNil))))))))) (tRet (tCB ((rTupleP K)) (tCons (tVar 3) (tNil))))))))
def N_L_due : List Str := ["_law_line_here", "_law_words", "_law_parts_here", "_law_order_here", "_law_part", "_law_word", "_law_found", "_law_one"]
def sp_L_due (K : PySem.W.Frag) (a : Ac) : Sp := fun vs H Q E => vs.length = (["_law_line_here"] : List Str).length ∧ t_L_due K a E ⟨fun _ H' => Q .non H', Q, F0, F0⟩ (start ["_law_line_here", "_law_words", "_law_parts_here", "_law_order_here", "_law_part", "_law_word", "_law_found", "_law_one"] vs) H
theorem in_L_due {K : PySem.W.Frag} {a : Ac} {x0 : V} {H : Hp} {Q : VK} {E : XK} (q : t_L_due K a E ⟨fun _ H' => Q .non H', Q, F0, F0⟩ [some x0, none, none, none, none, none, none, none] H) : sp_L_due K a [x0] H Q E := ⟨rfl, q⟩
def t_numbers_of (K : PySem.W.Frag) (a : Ac) (E : XK) : TS :=
  tRet (tLcX (WM E) (iSeqP K (tBM K "str" rSplitP (tVar 0) (tCons (tC (.str ",")) (tNil)))) (gName 1) (tYes) (fun F_ => tCallS (sp_number_of K a) F_ (tCons (tVar 1) (tNil))) [1])
def N_numbers_of : List Str := ["word", "part"]
def sp_numbers_of (K : PySem.W.Frag) (a : Ac) : Sp := fun vs H Q E => vs.length = (["word"] : List Str).length ∧ t_numbers_of K a E ⟨fun _ H' => Q .non H', Q, F0, F0⟩ (start ["word", "part"] vs) H
theorem in_numbers_of {K : PySem.W.Frag} {a : Ac} {x0 : V} {H : Hp} {Q : VK} {E : XK} (q : t_numbers_of K a E ⟨fun _ H' => Q .non H', Q, F0, F0⟩ [some x0, none] H) : sp_numbers_of K a [x0] H Q E := ⟨rfl, q⟩
def t_with_numbers (K : PySem.W.Frag) (a : Ac) (E : XK) : TS :=
  tSeq (tIfS (tTest (tOp (rEqP K) (tOp (rIxP K) (tVar 0) (tC (.int 0))) (tC (.str "stop")))) (tSeq (tDrop (tCallS (sp_need_order K a) (WE (WM E)) (tCons (tOp (rEqP K) (tCB (rLenP K) (tCons (tVar 0) (tNil))) (tC (.int 2))) (tNil)))) (tRet (tTup (tCons (tC (.str "stop")) (tCons (tCallS (sp_number_of K a) (WE (WM E)) (tCons (tOp (rIxP K) (tVar 0) (tC (.int 1))) (tNil))) (tNil)))))) (tNext)) (tSeq (tIfS (tTest (tOp (rEqP K) (tOp (rIxP K) (tVar 0) (tC (.int 0))) (tC (.str "cut")))) (tSeq (tDrop (tCallS (sp_need_order K a) (WE (WM E)) (tCons (tOp (rEqP K) (tCB (rLenP K) (tCons (tVar 0) (tNil))) (tC (.int 3))) (tNil)))) (tRet (tTup (tCons (tC (.str "cut")) (tCons (tOp (rIxP K) (tVar 0) (tC (.int 1))) (tCons (tCallS (sp_number_of K a) (WE (WM E)) (tCons (tOp (rIxP K) (tVar 0) (tC (.int 2))) (tNil))) (tNil))))))) (tNext)) (tSeq (tDrop (tCallS (sp_need_order K a) (WE (WM E)) (tCons (tOp (rEqP K) (tCB (rLenP K) (tCons (tVar 0) (tNil))) (tC (.int 4))) (tNil)))) (tSeq (tIfS (tTest (tOp (rEqP K) (tOp (rIxP K) (tVar 0) (tC (.int 0))) (tC (.str "put")))) (tRet (tTup (tCons (tC (.str "put")) (tCons (tOp (rIxP K) (tVar 0) (tC (.int 1))) (tCons (tCallS (sp_number_of K a) (WE (WM E)) (tCons (tOp (rIxP K) (tVar 0) (tC (.int 2))) (tNil))) (tCons (tCallS (sp_numbers_of K a) (WE (WM E)) (tCons (tOp (rIxP K) (tVar 0) (tC (.int 3))) (tNil))) (tNil))))))) (tNext)) (tRet (tTup (tCons (tC (.str "words")) (tCons (tOp (rIxP K) (tVar 0) (tC (.int 1))) (tCons (tCallS (sp_number_of K a) (WE (WM E)) (tCons (tOp (rIxP K) (tVar 0) (tC (.int 2))) (tNil))) (tCons (tCallS (sp_number_of K a) (WE (WM E)) (tCons (tOp (rIxP K) (tVar 0) (tC (.int 3))) (tNil))) (tNil))))))))))
def N_with_numbers : List Str := ["words"]
def sp_with_numbers (K : PySem.W.Frag) (a : Ac) : Sp := fun vs H Q E => vs.length = (["words"] : List Str).length ∧ t_with_numbers K a E ⟨fun _ H' => Q .non H', Q, F0, F0⟩ (start ["words"] vs) H
theorem in_with_numbers {K : PySem.W.Frag} {a : Ac} {x0 : V} {H : Hp} {Q : VK} {E : XK} (q : t_with_numbers K a E ⟨fun _ H' => Q .non H', Q, F0, F0⟩ [some x0] H) : sp_with_numbers K a [x0] H Q E := ⟨rfl, q⟩
def t_order_of (K : PySem.W.Frag) (a : Ac) (E : XK) : TS :=
  tSeq (tDrop (tCallS (sp_need_order K a) (WE (WM E)) (tCons (tCB ((rIsi K)) (tCons (tVar 0) (tCons (tC (.ty "str")) (tNil)))) (tNil)))) (tSeq (tAsg (tBM K "str" rSplitP (tVar 0) (tCons (tC (.str " ")) (tNil))) (gName 1)) (tSeq (tDrop (tCallS (sp_need_order K a) (WE (WM E)) (tCons (tOp (rNotInP K) (tC (.str "")) (tVar 1)) (tNil)))) (tSeq (tIfS (tTest (tOp (rInP K) (tOp (rIxP K) (tVar 1) (tC (.int 0))) (tTup (tCons (tC (.str "look")) (tCons (tC (.str "rise")) (tNil)))))) (tSeq (tDrop (tCallS (sp_need_order K a) (WE (WM E)) (tCons (tOp (rEqP K) (tCB (rLenP K) (tCons (tVar 1) (tNil))) (tC (.int 1))) (tNil)))) (tRet (tTup (tCons (tOp (rIxP K) (tVar 1) (tC (.int 0))) (tNil))))) (tNext)) (tSeq (tIfS (tTest (tOp (rInP K) (tOp (rIxP K) (tVar 1) (tC (.int 0))) (tTup (tCons (tC (.str "file")) (tCons (tC (.str "folder")) (tCons (tC (.str "unlink")) (tCons (tC (.str "leave")) (tCons (tC (.str "names")) (tCons (tC (.str "kind")) (tCons (tC (.str "size")) (tNil))))))))))) (tSeq (tDrop (tCallS (sp_need_order K a) (WE (WM E)) (tCons (tOp (rEqP K) (tCB (rLenP K) (tCons (tVar 1) (tNil))) (tC (.int 2))) (tNil)))) (tRet (tTup (tCons (tOp (rIxP K) (tVar 1) (tC (.int 0))) (tCons (tOp (rIxP K) (tVar 1) (tC (.int 1))) (tNil)))))) (tNext)) (tSeq (tIfS (tTest (tOp (rInP K) (tOp (rIxP K) (tVar 1) (tC (.int 0))) (tTup (tCons (tC (.str "link")) (tCons (tC (.str "move")) (tNil)))))) (tSeq (tDrop (tCallS (sp_need_order K a) (WE (WM E)) (tCons (tOp (rEqP K) (tCB (rLenP K) (tCons (tVar 1) (tNil))) (tC (.int 3))) (tNil)))) (tRet (tTup (tCons (tOp (rIxP K) (tVar 1) (tC (.int 0))) (tCons (tOp (rIxP K) (tVar 1) (tC (.int 1))) (tCons (tOp (rIxP K) (tVar 1) (tC (.int 2))) (tNil))))))) (tNext)) (tSeq (tDrop (tCallS (sp_need_order K a) (WE (WM E)) (tCons (tOp (rInP K) (tOp (rIxP K) (tVar 1) (tC (.int 0))) (tTup (tCons (tC (.str "put")) (tCons (tC (.str "cut")) (tCons (tC (.str "words")) (tCons (tC (.str "stop")) (tNil))))))) (tNil)))) (tRet (tCallS (sp_with_numbers K a) (WE (WM E)) (tCons (tVar 1) (tNil))))))))))
def N_order_of : List Str := ["line", "words"]
def sp_order_of (K : PySem.W.Frag) (a : Ac) : Sp := fun vs H Q E => vs.length = (["line"] : List Str).length ∧ t_order_of K a E ⟨fun _ H' => Q .non H', Q, F0, F0⟩ (start ["line", "words"] vs) H
theorem in_order_of {K : PySem.W.Frag} {a : Ac} {x0 : V} {H : Hp} {Q : VK} {E : XK} (q : t_order_of K a E ⟨fun _ H' => Q .non H', Q, F0, F0⟩ [some x0, none] H) : sp_order_of K a [x0] H Q E := ⟨rfl, q⟩
def t_L_read (K : PySem.W.Frag) (a : Ac) (E : XK) : TS :=
  tTryAs K (.ref a.KeepError) 1 (fun W => tRet (tCallS (sp_order_of K a) (WE W) (tCons (tVar 0) (tNil)))) (fun e D => tSeq (tIfS (tB (tCB (rIsiH K D e) (tCons (tVar 1) (tCons (tTup (tCons (tC (.ref a.BadRow)) (tCons (tC (.ref a.NoBlock)) (tCons (tC (.ref a.Stopped)) (tCons (tC (.ref a.BadDisk)) (tCons (tC (.ref a.NoRoom)) (tCons (tC (.ref a.TooMuch)) (tCons (tC (.ref a.BadLog)) (tCons (tC (.ref a.NoNode)) (tCons (tC (.ref a.NoNodes)) (tCons (tC (.ref a.TooLong)) (tNil)))))))))))) (tNil))))) (tRet (tC (.int 0))) (tNext)) (tSeq (tIfS (tB (tCB (rIsiH K D e) (tCons (tVar 1) (tCons (tTup (tCons (tC (.ref a.OutOfPlace)) (tCons (tC (.ref a.BadName)) (tCons (tC (.ref a.BadPath)) (tCons (tC (.ref a.NotFolder)) (tCons (tC (.ref a.NotFile)) (tCons (tC (.ref a.NoName)) (tCons (tC (.ref a.NameThere)) (tCons (tC (.ref a.NotEmpty)) (tCons (tC (.ref a.Within)) (tNil))))))))))) (tNil))))) (tRet (tC (.int 0))) (tNext)) (tRet (tOp (rIxP K) (tLst (tCons (tC (.int 0)) (tCons (tC .non) (tNil)))) (tCB (rIntP) (tCons (tAndV (tCB (rIsiH K D e) (tCons (tVar 1) (tCons (tC (.ref a.BadOrder)) (tNil)))) (tCB (rIsiH K D e) (tCons (tVar 1) (tCons (tC (.ty "ValueError")) (tNil))))) (tNil))))))) (WM E)
def N_L_read : List Str := ["_law_line_here", "error"]
def sp_L_read (K : PySem.W.Frag) (a : Ac) : Sp := fun vs H Q E => vs.length = (["_law_line_here"] : List Str).length ∧ t_L_read K a E ⟨fun _ H' => Q .non H', Q, F0, F0⟩ (start ["_law_line_here", "error"] vs) H
theorem in_L_read {K : PySem.W.Frag} {a : Ac} {x0 : V} {H : Hp} {Q : VK} {E : XK} (q : t_L_read K a E ⟨fun _ H' => Q .non H', Q, F0, F0⟩ [some x0, none] H) : sp_L_read K a [x0] H Q E := ⟨rfl, q⟩
def t_law_9 (K : PySem.W.Frag) (a : Ac) (E : XK) : TS :=
  tSeq (tAsg (tCallS (sp_L_due K a) (WE (WM E)) (tCons (tVar 2) (tNil))) (gName 6)) (tSeq (tAsg (tCallS (sp_L_read K a) (WE (WM E)) (tCons (tVar 2) (tNil))) (gName 4)) (tSeq (tIfS (tTest (tOp rIsP (tVar 6) (tC .non))) (tRet (tOp rIsP (tVar 4) (tC .non))) (tNext)) (tRet (tCallS (sp_L_alike K a) (WE (WM E)) (tCons (tVar 4) (tCons (tVar 6) (tNil)))))))
def t_law_7 (K : PySem.W.Frag) (a : Ac) (E : XK) : TS :=
  tSeq (tIfS (tTest (tOp rIsNotP (tCallS (sp_L_read K a) (WE (WM E)) (tCons (tVar 5) (tNil))) (tC .non))) (tRet (tC (.bl false))) (tNext)) (tSeq (tIfS (tTest (tOp rGtP (tOp rModP (tCallS (sp_L_cell_at K a) (WE (WM E)) (tCons (tVar 0) (tCons (tC (.int 4)) (tNil)))) (tC (.int 3))) (tC (.int 0)))) (tAsg (tCallS (sp_L_bent K a) (WE (WM E)) (tCons (tVar 2) (tCons (tOp rDivP (tCallS (sp_L_cell_at K a) (WE (WM E)) (tCons (tVar 0) (tCons (tC (.int 4)) (tNil)))) (tC (.int 3))) (tNil)))) (gName 2)) (tNext)) (t_law_9 K a E))
def t_law (K : PySem.W.Frag) (a : Ac) (E : XK) : TS :=
  tSeq (tAsg (tCallS (sp_L_order K a) (WE (WM E)) (tCons (tVar 0) (tNil))) (gName 1)) (tSeq (tAsg (tCallS (sp_L_line K a) (WE (WM E)) (tCons (tVar 1) (tNil))) (gName 2)) (tSeq (tAsg (tCB ((rTupleP K)) (tCons (tLc (iSeqP K (tVar 1)) (gName 7) (tYes) (tIf (tB (tCB ((rIsi K)) (tCons (tVar 7) (tCons (tC (.ty "list")) (tNil))))) (tCB ((rListP K)) (tCons (tVar 7) (tNil))) (tVar 7)) [7]) (tNil))) (gName 3)) (tSeq (tAsg (tCallS (sp_line_of K a) (WE (WM E)) (tCons (tVar 3) (tNil))) (gName 4)) (tSeq (tIfS (tOr (tNot (tB (tCB ((rIsi K)) (tCons (tVar 4) (tCons (tC (.ty "str")) (tNil)))))) (tOr (tTest (tOp (rNeP K) (tVar 4) (tVar 2))) (tTest (tOp (rNeP K) (tVar 3) (tVar 1))))) (tRet (tC (.bl false))) (tNext)) (tSeq (tIfS (tNot (tB (tCallS (sp_L_alike K a) (WE (WM E)) (tCons (tCallS (sp_L_read K a) (WE (WM E)) (tCons (tVar 2) (tNil))) (tCons (tVar 1) (tNil)))))) (tRet (tC (.bl false))) (tNext)) (tSeq (tAsg (tOp (rIxP K) (tLst (tCons (tC .non) (tCons (tC (.int 5)) (tCons (tC (.bl true)) (tCons (tLst (tCons (tC (.str "rise")) (tNil))) (tCons (tTup (tCons (tC (.str "rise")) (tNil))) (tCons (tDNewK) (tNil)))))))) (tOp rModP (tCallS (sp_L_cell_at K a) (WE (WM E)) (tCons (tVar 0) (tCons (tC (.int 5)) (tNil)))) (tC (.int 6)))) (gName 5)) (t_law_7 K a E)))))))
def N_law : List Str := ["_law_script", "_law_order_here", "_law_line_here", "_law_handed", "_law_found", "_law_odd", "_law_due_here", "_law_part"]
def sp_law (K : PySem.W.Frag) (a : Ac) : Sp := fun vs H Q E => vs.length = (["_law_script"] : List Str).length ∧ t_law K a E ⟨fun _ H' => Q .non H', Q, F0, F0⟩ (start ["_law_script", "_law_order_here", "_law_line_here", "_law_handed", "_law_found", "_law_odd", "_law_due_here", "_law_part"] vs) H
theorem in_law {K : PySem.W.Frag} {a : Ac} {x0 : V} {H : Hp} {Q : VK} {E : XK} (q : t_law K a E ⟨fun _ H' => Q .non H', Q, F0, F0⟩ [some x0, none, none, none, none, none, none, none] H) : sp_law K a [x0] H Q E := ⟨rfl, q⟩
class Fc (K : PySem.W.Frag) (a : Ac) : Prop where
  xc_BadOrder : ExcC K a.BadOrder
  ki_BadOrder_BadDisk : PySem.W.kitOne K (.ref a.BadOrder) (.ref a.BadDisk) = some false
  ki_BadOrder_BadLog : PySem.W.kitOne K (.ref a.BadOrder) (.ref a.BadLog) = some false
  ki_BadOrder_BadName : PySem.W.kitOne K (.ref a.BadOrder) (.ref a.BadName) = some false
  ki_BadOrder_BadOrder : PySem.W.kitOne K (.ref a.BadOrder) (.ref a.BadOrder) = some true
  ki_BadOrder_BadPath : PySem.W.kitOne K (.ref a.BadOrder) (.ref a.BadPath) = some false
  ki_BadOrder_BadRow : PySem.W.kitOne K (.ref a.BadOrder) (.ref a.BadRow) = some false
  ki_BadOrder_NameThere : PySem.W.kitOne K (.ref a.BadOrder) (.ref a.NameThere) = some false
  ki_BadOrder_NoBlock : PySem.W.kitOne K (.ref a.BadOrder) (.ref a.NoBlock) = some false
  ki_BadOrder_NoName : PySem.W.kitOne K (.ref a.BadOrder) (.ref a.NoName) = some false
  ki_BadOrder_NoNode : PySem.W.kitOne K (.ref a.BadOrder) (.ref a.NoNode) = some false
  ki_BadOrder_NoNodes : PySem.W.kitOne K (.ref a.BadOrder) (.ref a.NoNodes) = some false
  ki_BadOrder_NoRoom : PySem.W.kitOne K (.ref a.BadOrder) (.ref a.NoRoom) = some false
  ki_BadOrder_NotEmpty : PySem.W.kitOne K (.ref a.BadOrder) (.ref a.NotEmpty) = some false
  ki_BadOrder_NotFile : PySem.W.kitOne K (.ref a.BadOrder) (.ref a.NotFile) = some false
  ki_BadOrder_NotFolder : PySem.W.kitOne K (.ref a.BadOrder) (.ref a.NotFolder) = some false
  ki_BadOrder_OutOfPlace : PySem.W.kitOne K (.ref a.BadOrder) (.ref a.OutOfPlace) = some false
  ki_BadOrder_Stopped : PySem.W.kitOne K (.ref a.BadOrder) (.ref a.Stopped) = some false
  ki_BadOrder_TooLong : PySem.W.kitOne K (.ref a.BadOrder) (.ref a.TooLong) = some false
  ki_BadOrder_TooMuch : PySem.W.kitOne K (.ref a.BadOrder) (.ref a.TooMuch) = some false
  ki_BadOrder_ValueError : PySem.W.kitOne K (.ref a.BadOrder) (.type "ValueError") = some true
  ki_BadOrder_Within : PySem.W.kitOne K (.ref a.BadOrder) (.ref a.Within) = some false
  em_BadOrder_KeepError : PySem.W.exmOne K (.ref a.BadOrder) (.ref a.KeepError) = some true
section
variable {K : PySem.W.Frag} {a : Ac} [F : Fc K a]
instance : ExcF K a.BadOrder := ⟨F.xc_BadOrder⟩
instance : KitF K (.ref a.BadOrder) (.ref a.BadDisk) false := ⟨F.ki_BadOrder_BadDisk⟩
instance : KitF K (.ref a.BadOrder) (.ref a.BadLog) false := ⟨F.ki_BadOrder_BadLog⟩
instance : KitF K (.ref a.BadOrder) (.ref a.BadName) false := ⟨F.ki_BadOrder_BadName⟩
instance : KitF K (.ref a.BadOrder) (.ref a.BadOrder) true := ⟨F.ki_BadOrder_BadOrder⟩
instance : KitF K (.ref a.BadOrder) (.ref a.BadPath) false := ⟨F.ki_BadOrder_BadPath⟩
instance : KitF K (.ref a.BadOrder) (.ref a.BadRow) false := ⟨F.ki_BadOrder_BadRow⟩
instance : KitF K (.ref a.BadOrder) (.ref a.NameThere) false := ⟨F.ki_BadOrder_NameThere⟩
instance : KitF K (.ref a.BadOrder) (.ref a.NoBlock) false := ⟨F.ki_BadOrder_NoBlock⟩
instance : KitF K (.ref a.BadOrder) (.ref a.NoName) false := ⟨F.ki_BadOrder_NoName⟩
instance : KitF K (.ref a.BadOrder) (.ref a.NoNode) false := ⟨F.ki_BadOrder_NoNode⟩
instance : KitF K (.ref a.BadOrder) (.ref a.NoNodes) false := ⟨F.ki_BadOrder_NoNodes⟩
instance : KitF K (.ref a.BadOrder) (.ref a.NoRoom) false := ⟨F.ki_BadOrder_NoRoom⟩
instance : KitF K (.ref a.BadOrder) (.ref a.NotEmpty) false := ⟨F.ki_BadOrder_NotEmpty⟩
instance : KitF K (.ref a.BadOrder) (.ref a.NotFile) false := ⟨F.ki_BadOrder_NotFile⟩
instance : KitF K (.ref a.BadOrder) (.ref a.NotFolder) false := ⟨F.ki_BadOrder_NotFolder⟩
instance : KitF K (.ref a.BadOrder) (.ref a.OutOfPlace) false := ⟨F.ki_BadOrder_OutOfPlace⟩
instance : KitF K (.ref a.BadOrder) (.ref a.Stopped) false := ⟨F.ki_BadOrder_Stopped⟩
instance : KitF K (.ref a.BadOrder) (.ref a.TooLong) false := ⟨F.ki_BadOrder_TooLong⟩
instance : KitF K (.ref a.BadOrder) (.ref a.TooMuch) false := ⟨F.ki_BadOrder_TooMuch⟩
instance : KitF K (.ref a.BadOrder) (.type "ValueError") true := ⟨F.ki_BadOrder_ValueError⟩
instance : KitF K (.ref a.BadOrder) (.ref a.Within) false := ⟨F.ki_BadOrder_Within⟩
instance : ExmF K (.ref a.BadOrder) (.ref a.KeepError) true := ⟨F.em_BadOrder_KeepError⟩
end
end Bk

namespace Bk
open PySem L2 PyProof.Rows
/-! our own short tactics: h: what stands at a place; ne: two places; sm: what stood stands; z: a size; s: a step; go: steps -/
local macro_rules | `(tactic| walk_at "h") => `(tactic| first
  | assumption
  | exact New.at (by assumption)
  | exact Wr.at (by assumption)
  | (refine' New.old (by assumption) ?_; walk_at "h")
  | (refine' Same.at (by assumption) ?_; walk_at "h")
  | (refine' Wr.old (by assumption) ?_ ?_; walk_at "ne"; walk_at "h")
  | (refine' Chg.at (by assumption) ?_ ?_; walk_at "ni"; walk_at "h"))
local macro_rules | `(tactic| walk_at "ni") => `(tactic| first
  | exact ni_nil
  | assumption
  | (refine' ni_cons ?_ ?_; walk_at "ne"; walk_at "ni"))
local macro_rules | `(tactic| walk_at "ne") => `(tactic| first
  | assumption
  | exact Ne.symm (by assumption)
  | exact New.ne (by assumption) (by walk_at "h")
  | exact ne_none (by assumption) (by walk_at "h")
  | exact Ne.symm (ne_none (by assumption) (by walk_at "h"))
  | exact Ne.symm (New.ne (by assumption) (by walk_at "h")))
local macro_rules | `(tactic| walk_at "sm") => `(tactic| first
  | exact Same.refl _
  | assumption
  | (refine' Same.trans ?_ (New.same (by assumption)); walk_at "sm")
  | (refine' Same.trans ?_ (by assumption : Same _ _); walk_at "sm"))
local macro_rules | `(tactic| walk_at "z") => `(tactic| first
  | assumption
  | (rw [PySem.sizeLine_eq]; omega)
  | (rw [PySem.sizeLine_eq]; simp only [List.length_cons, List.length_nil, List.length_append, List.length_map, List.length_range, List.length_replicate, len_cut]; omega)
  | (rw [PySem.sizeLine_eq]; simp only [List.length_cons, List.length_nil, List.length_append, List.length_map, List.length_range, List.length_replicate, len_cut] at *; omega))
local macro_rules | `(tactic| walk_at "s") => `(tactic| first
  | ((with_reducible refine' go_var ?h ?_); (case h => exact rfl))
  | (with_reducible refine' go_c ?_)
  | (with_reducible refine' go_op ?_)
  | (with_reducible refine' go_un ?_)
  | (with_reducible refine' go_rU ?_)
  | (with_reducible refine' go_seq ?_)
  | (with_reducible refine' go_ret ?_)
  | (with_reducible refine' go_retN ?_)
  | (with_reducible refine' go_next ?_)
  | (with_reducible refine' go_drop ?_)
  | (with_reducible refine' go_asg ?_)
  | ((with_reducible refine' go_name2 ?h ?_); (case h => (simp only [List.set_cons_zero, List.set_cons_succ]; exact rfl)))
  | ((with_reducible refine' go_name2 ?h ?_); (case h => exact rfl))
  | (with_reducible refine' go_ifS ?_)
  | (with_reducible refine' go_blk ?_)
  | (with_reducible refine' go_test ?_)
  | (with_reducible refine' go_tB ?_)
  | (with_reducible refine' go_and ?_)
  | (with_reducible refine' go_or ?_)
  | (with_reducible refine' go_not ?_)
  | (with_reducible refine' go_andV ?_)
  | (with_reducible refine' go_orV ?_)
  | (with_reducible refine' go_notV ?_)
  | (with_reducible refine' go_if ?_)
  | (with_reducible refine' go_chain ?_)
  | (with_reducible refine' iteT ?_)
  | (with_reducible refine' iteF ?_)
  | ((with_reducible refine' go_Td ?h ?_); (case h => walk_at "pr"))
  | ((with_reducible refine' go_Fd ?h ?_); (case h => walk_at "pr"))
  | ((with_reducible refine' go_Tn ?h ?_); (case h => walk_at "pr"))
  | ((with_reducible refine' go_Fn ?h ?_); (case h => walk_at "pr"))
  | ((with_reducible refine' go_T ?h ?_); (case h => (first | decide | assumption | exact rfl)))
  | ((with_reducible refine' go_F ?h ?_); (case h => (first | decide | assumption | exact rfl)))
  | (with_reducible refine' go_nil ?_)
  | (with_reducible refine' go_cons ?_)
  | (with_reducible refine' go_tLst ?_)
  | (with_reducible refine' go_tTup ?_)
  | ((with_reducible refine' go_LstK ?h ?_); (case h => walk_at "z"); intro p H1 n1)
  | ((with_reducible refine' go_TupK ?h ?_); (case h => walk_at "z"); intro p H1 n1)
  | (with_reducible refine' go_addI ?_)
  | ((with_reducible refine' go_addL ?h ?k ?z ?_); (case h => walk_at "h"); (case k => walk_at "h"); (case z => walk_at "z"); intro p H1 n1)
  | (with_reducible refine' go_sub ?_)
  | ((with_reducible refine' go_mulI ?h ?_); (case h => (unfold CMul; omega)))
  | ((with_reducible refine' go_mulL ?h ?k ?_); (case h => walk_at "h"); (case k => (refine ⟨by omega, by omega, ?_⟩; walk_at "z")); intro p H1 n1)
  | ((with_reducible refine' go_div ?h ?_); (case h => (unfold CDiv; omega)))
  | ((with_reducible refine' go_mod ?h ?_); (case h => omega))
  | (with_reducible refine' go_p109 ?_)
  | (with_reducible refine' go_p1020 ?_)
  | ((with_reducible refine' go_pow ?h ?_); (case h => (unfold CPow; omega)))
  | (with_reducible refine' go_lt ?_)
  | (with_reducible refine' go_le ?_)
  | (with_reducible refine' go_gt ?_)
  | (with_reducible refine' go_ge ?_)
  | (with_reducible refine' go_eqI ?_)
  | (with_reducible refine' go_eqB ?_)
  | (with_reducible refine' go_eqS ?_)
  | (with_reducible refine' go_neI ?_)
  | (with_reducible refine' go_neB ?_)
  | (with_reducible refine' go_neS ?_)
  | (with_reducible refine' go_isN ?_)
  | (with_reducible refine' go_isNotN ?_)
  | (with_reducible refine' go_isB ?_)
  | (with_reducible refine' go_isNotB ?_)
  | (with_reducible refine' go_sl ?_)
  | (with_reducible refine' go_noPart ?_)
  | (with_reducible refine' go_part ?_)
  | (with_reducible refine' go_intK ?_)
  | ((with_reducible refine' go_slL ?h ?_); (case h => walk_at "h"); intro p H1 n1)
  | ((with_reducible refine' go_ixL ?h ?k ?_); (case h => walk_at "h"); (case k => exact rfl))
  | ((with_reducible refine' go_ixT ?h ?k ?_); (case h => walk_at "h"); (case k => exact rfl))
  | ((with_reducible refine' go_slW ?h ?_); (case h => walk_at "h"))
  | (with_reducible refine' go_bm ?_)
  | (with_reducible refine' go_bm0 ?_)
  | ((with_reducible refine' go_bmL ?h ?_); (case h => walk_at "h"))
  | ((with_reducible refine' go_append ?h ?k ?_); (case h => walk_at "h"); (case k => walk_at "z"); intro H1 n1)
  | ((with_reducible refine' go_extend ?h ?k ?z ?_); (case h => walk_at "h"); (case k => walk_at "h"); (case z => walk_at "z"); intro H1 n1)
  | ((with_reducible refine' go_clear ?h ?_); (case h => walk_at "h"); intro H1 n1)
  | ((with_reducible refine' go_dnew ?_); intro p H1 n1)
  | (with_reducible refine' go_cb ?_)
  | (with_reducible refine' go_callS ?_)
  | (with_reducible refine' go_call0 ?_)
  | ((with_reducible refine' go_lenL ?h ?_); (case h => walk_at "h"))
  | ((with_reducible refine' go_lenT ?h ?_); (case h => walk_at "h"))
  | ((with_reducible refine' go_lenK ?h ?_); (case h => walk_at "hk"))
  | ((with_reducible refine' go_listL ?h ?_); (case h => walk_at "h"); intro p H1 n1)
  | ((with_reducible refine' go_listT ?h ?_); (case h => walk_at "h"); intro p H1 n1)
  | ((with_reducible refine' go_tupleL ?h ?_); (case h => walk_at "h"); intro p H1 n1)
  | (with_reducible refine' go_intI ?_)
  | (with_reducible refine' go_intB ?_)
  | (with_reducible refine' go_abs ?_)
  | (with_reducible refine' go_min2 ?_)
  | (with_reducible refine' go_max2 ?_)
  | ((with_reducible refine' go_isi ?h ?k ?_); (case h => walk_at "ty"); (case k => exact kit_bb (by decide) (by decide)))
  | (with_reducible refine' go_lc ?_)
  | (with_reducible refine' go_for ?_)
  | (with_reducible refine' go_seqP ?_)
  | ((with_reducible refine' go_seqL ?h ?_); (case h => walk_at "h"))
  | ((with_reducible refine' go_seqT ?h ?_); (case h => walk_at "h"))
  | (with_reducible refine' go_seqS ?_)
  | (with_reducible refine' go_rng1 ?_)
  | (with_reducible refine' go_rng2 ?_)
  | ((with_reducible refine' go_rng1K ?h ?_); (case h => omega))
  | ((with_reducible refine' go_rng2K ?h ?_); (case h => omega))
  | (with_reducible refine' go_raise ?_)
  | ((with_reducible refine' go_tupG ?h ?k ?_); (case h => walk_at "h"); (case k => exact rfl))
  | ((with_reducible refine' go_lstG ?h ?k ?_); (case h => walk_at "h"); (case k => exact rfl))
  | (with_reducible refine' go_gNil ?_)
  | (with_reducible refine' go_tryAs ?_)
  | (with_reducible refine' go_tryMany1 ?_)
  | (with_reducible refine' go_tryMany2 ?_)
  | (with_reducible refine' go_WM ?_)
  | ((with_reducible refine' go_asT ?_); intro e he)
  | (with_reducible refine' go_asF ?_)
  | ((with_reducible refine' go_manyT ?_); intro e he)
  | (with_reducible refine' go_manyF ?_)
  | (with_reducible refine' go_manyN ?_)
  | (with_reducible refine' go_fld ?_)
  | ((with_reducible refine' go_FldK ?h ?c ?n ?l ?_); (case h => walk_at "h"); (case c => infer_instance); (case n => infer_instance); (case l => exact rfl))
  | (with_reducible refine' go_sfld ?_)
  | ((with_reducible refine' go_SFldK ?h ?c ?n ?l ?e ?_); (case h => walk_at "h"); (case c => infer_instance); (case n => infer_instance); (case l => exact Nat.le_of_ble_eq_true rfl); (case e => walk_at "pf"); intro H1 n1)
  | (with_reducible refine' go_meth ?_)
  | ((with_reducible refine' go_MethK 0 ?h ?l ?e ?_); (case h => walk_at "h"); (case l => exact rfl); (case e => exact rfl))
  | ((with_reducible refine' go_MethK 1 ?h ?l ?e ?_); (case h => walk_at "h"); (case l => exact rfl); (case e => exact rfl))
  | ((with_reducible refine' go_MethK 2 ?h ?l ?e ?_); (case h => walk_at "h"); (case l => exact rfl); (case e => exact rfl))
  | (with_reducible refine' go_make ?_)
  | (with_reducible refine' go_callX ?_)
  | (with_reducible refine' go_methX ?_)
  | ((with_reducible refine' go_MethXK ?h ?l ?_); (case h => walk_at "h"); (case l => exact rfl))
  | (with_reducible refine' go_dget ?_)
  | ((with_reducible refine' go_DGetS ?h ?l ?_); (case h => walk_at "h"); (case l => exact rfl))
  | (with_reducible refine' go_dput ?_)
  | ((with_reducible refine' go_DPutS ?h ?l ?e ?_); (case h => walk_at "h"); (case l => exact Nat.le_of_ble_eq_true rfl); (case e => walk_at "pk"); intro H1 n1)
  | ((with_reducible refine' go_disp ?_); intro p H1 n1)
  | (with_reducible refine' go_pairs ?_)
  | (with_reducible refine' go_pairs0 ?_)
  | ((with_reducible refine' go_DispS ?h ?e ?l ?k ?j ?m ?_); (case h => walk_at "h"); (case e => exact rfl); (case l => exact Nat.le_of_ble_eq_true rfl); (case k => (simp only [unS]; exact rfl)); (case j => (simp only [List.map_cons, List.map_nil]; exact rfl)); (case m => decide +kernel); intro H1 n1)
  | (with_reducible refine' go_par ?_)
  | ((with_reducible refine' go_ParK ?h ?_); (case h => (simp only [List.set_cons_zero, List.set_cons_succ]; exact rfl)))
  | (with_reducible refine' go_sub_ ?_)
  | ((with_reducible refine' go_setLi ?h ?k ?_); (case h => walk_at "h"); (case k => walk_at "ix"); intro H1 n1)
  | (with_reducible refine' go_listY ?_)
  | ((with_reducible refine' go_listYL ?h ?_); (case h => walk_at "h"))
  | (with_reducible refine' go_bmS ?_)
  | (with_reducible refine' go_ckw ?_)
  | ((with_reducible refine' go_maxD ?h ?_); (case h => walk_at "h"))
  | (with_reducible refine' go_listR ?_)
  | (with_reducible refine' go_rg2 ?_)
  | (with_reducible refine' go_Rg2K ?_)
  | (with_reducible refine' go_rg1 ?_)
  | (with_reducible refine' go_Rg1K ?_)
  | ((with_reducible refine' go_ListRK ?h ?_); (case h => omega); intro p H1 n1)
  | (with_reducible refine' go_enum ?_)
  | ((with_reducible refine' go_EnumL ?h ?_); (case h => walk_at "h"))
  | (with_reducible refine' go_isX ?_)
  | (with_reducible refine' go_isXt ?_)
  | (with_reducible refine' go_din ?_)
  | (with_reducible refine' go_dnotin ?_)
  | ((with_reducible refine' go_DInI ?h ?_); (case h => walk_at "h"))
  | ((with_reducible refine' go_DNotInI ?h ?_); (case h => walk_at "h"))
  | (with_reducible refine' go_dget2 ?_)
  | ((with_reducible refine' go_DGet2K ?h ?_); (case h => walk_at "h"))
  | (with_reducible refine' go_dpop1 ?_)
  | ((with_reducible refine' go_eqDE ?h ?k ?_); (case h => walk_at "h"); (case k => walk_at "h"))
  | ((with_reducible refine' go_neDE ?h ?k ?_); (case h => walk_at "h"); (case k => walk_at "h"))
  | (with_reducible refine' go_chain3 ?_)
  | (with_reducible refine' go_LinkT ?_)
  | (with_reducible refine' go_LinkF ?_)
  | (with_reducible refine' go_Link2T ?_)
  | (with_reducible refine' go_Link2F ?_)
  | (with_reducible refine' go_gSl ?_)
  | ((with_reducible refine' go_insert ?h ?k ?l ?m ?_); (case h => walk_at "h"); (case k => walk_at "z"); (case l => omega); (case m => omega); intro H1 n1)
  | (with_reducible refine' go_gCons ?_))
local macro_rules | `(tactic| walk_at "pf") => `(tactic| first
  | exact putF_nil
  | exact putF_hit
  | (refine' putF_miss ?h ?k; (case h => decide +kernel); (case k => walk_at "pf")))
local macro_rules | `(tactic| walk_at "pk") => `(tactic| first
  | exact putK_nil
  | exact putK_hit (by (simp only [List.map_cons, List.map_nil]; decide +kernel))
  | (refine' putK_miss ?h ?k; (case h => decide +kernel); (case k => walk_at "pk")))
local macro_rules | `(tactic| walk_at "ix") => `(tactic| first
  | assumption
  | omega
  | (simp only [List.length_cons, List.length_nil, List.length_append, List.length_map, List.length_range, List.length_replicate, List.length_set] at *; omega))
local macro_rules | `(tactic| walk_at "pr") => `(tactic| first
  | assumption
  | decide
  | omega
  | exact rfl
  | (intro z; cases z; done))
local macro_rules | `(tactic| walk_at "hk") => `(tactic| first
  | assumption
  | exact seq' (by assumption) (by walk_at "sm"))
local macro_rules | `(tactic| walk_at "ty") => `(tactic| first
  | exact rfl
  | assumption
  | exact tyN_L (by walk_at "h")
  | exact tyN_T (by walk_at "h")
  | exact tyN_D (by walk_at "h"))
local macro_rules | `(tactic| walk_at "go") => `(tactic| repeat (walk_at "s"))
/-! ### texts, by their signs -/
def tx (cs : List Nat) : Str := ⟨cs.toArray⟩
def lets : List Nat := (List.range 26).map (97 + ·)
theorem tx_lets : Str.ofString "abcdefghijklmnopqrstuvwxyz" = tx lets := by decide +kernel
theorem tx_nil : Str.ofString "" = tx [] := by decide +kernel
theorem tx_of (z : Str) : z = tx z.cps.toList := by cases z; simp [tx]
theorem tx_len {cs : List Nat} : (tx cs).length = cs.length := by simp [tx, Str.length]
theorem tx_list {cs : List Nat} : (tx cs).cps.toList = cs := by simp [tx]
theorem tx_inj {a b : List Nat} : tx a = tx b ↔ a = b := ⟨fun h => by have := congrArg (fun z : Str => z.cps.toList) h; simpa [tx] using this, fun h => h ▸ rfl⟩
theorem tx_app {a b : List Nat} : tx a ++ tx b = tx (a ++ b) := by
  show (⟨a.toArray ++ b.toArray⟩ : Str) = ⟨(a ++ b).toArray⟩
  simp
theorem mem_lets {c : Nat} : c ∈ lets ↔ 97 ≤ c ∧ c ≤ 122 := by
  unfold lets
  rw [List.mem_map]
  exact ⟨fun ⟨k, hk, e⟩ => by have := List.mem_range.mp hk; omega, fun h => ⟨c - 97, List.mem_range.mpr (by omega), by omega⟩⟩
def isL (c : Nat) : Bool := decide (97 ≤ c ∧ c ≤ 122)
theorem decL {c : Nat} : decide (c ∈ lets) = isL c := by
  unfold isL
  exact decide_eq_decide.mpr mem_lets
theorem tx_joinS : ∀ cs : List Nat, Str.join (tx []) (cs.map fun c => tx [c]) = tx cs
  | [] => rfl
  | [c] => rfl
  | c :: d :: cs => by
    have ih := tx_joinS (d :: cs)
    show tx [c] ++ tx [] ++ Str.join (tx []) ((d :: cs).map fun c => tx [c]) = _
    rw [ih, tx_app, tx_app]
    simp
theorem tx_join (cs : List Nat) : Txt.join (tx []) (cs.map fun c => tx [c]) = tx cs := by
  have e : Txt.join (tx []) (cs.map fun c => tx [c]) = Str.join (tx []) (cs.map fun c => tx [c]) := StrLaws.glued_eq_join _ _
  rw [e]
  exact tx_joinS cs
theorem cutS_take {cs : List Nat} {k : Int} (h : 0 ≤ k) : cutS (tx cs) none (some k) = tx (cs.take k.toNat) := by
  unfold cutS HT.sIx
  rw [tx_list, tx_len]
  simp only [if_neg (show ¬ k < 0 by omega), Nat.sub_zero, List.drop_zero]
  by_cases c : k.toNat ≤ cs.length
  · rw [show min k.toNat cs.length = k.toNat by omega]; rfl
  · show tx _ = tx _
    congr 1
    rw [List.take_of_length_le (by omega), List.take_of_length_le (by omega)]
theorem cutS_drop {cs : List Nat} {k : Int} (h : 0 ≤ k) : cutS (tx cs) (some k) none = tx (cs.drop k.toNat) := by
  unfold cutS HT.sIx
  rw [tx_list, tx_len]
  simp only [if_neg (show ¬ k < 0 by omega)]
  show tx _ = tx _
  congr 1
  by_cases c : k.toNat ≤ cs.length
  · rw [show min k.toNat cs.length = k.toNat by omega]
    rw [List.take_of_length_le (by rw [List.length_drop]; omega)]
  · rw [List.drop_of_length_le (by omega), List.drop_of_length_le (by omega), List.take_nil]
section
variable {K : PySem.W.Frag} {σ : Bk.St} {H H1 : Hp} {Q : VK} {a b : List Nat} {c : Nat} {cs : List Nat} {i : Int} {m : Nat} {tb : TS} {nx bk ct : Bk.St → Hp → Prop} {rt : VK} {tt : TT} {te : TE} {R : It → Hp → Prop}
theorem go_addTx (h : a.length + b.length ≤ 1000) (q : Q (.str (tx (a ++ b))) H) : rAddP (.str (tx a)) (.str (tx b)) H Q := .inr (.inr ⟨tx a, tx b, rfl, rfl, by rw [sizeLine_eq, tx_len, tx_len]; omega, by rw [tx_app]; exact q⟩)
theorem go_lenTx (h : cs.length ≤ 1000) (q : Q (.int cs.length) H) : rLenP K [.str (tx cs)] H Q := go_lenS (by rw [sizeLine_eq, tx_len]; omega) (by rw [tx_len]; exact q)
theorem go_slTx {lo hi : Option Int} (h : cs.length ≤ 1000) (q : Q (.str (cutS (tx cs) lo hi)) H) : rSlP K (.str (tx cs)) lo hi H Q := .inr (.inr (.inl ⟨tx cs, rfl, by rw [sizeLine_eq, tx_len]; omega, q⟩))
theorem go_ixTx (h : cs.length ≤ 1000) (hi : 0 ≤ i) (e : cs[i.toNat]? = some c) (q : Q (.str (tx [c])) H) : rIxP K (.str (tx cs)) (.int i) H Q := by
  refine go_ixS (c := c) (by rw [sizeLine_eq, tx_len]; omega) ?_ q
  rw [tx_list]
  have hl : i.toNat < cs.length := (List.getElem?_eq_some_iff.mp e).1
  rw [atI_in hi]; exact e
theorem go_inTx (q : Q (.bl (decide (c ∈ cs))) H) : rInP K (.str (tx [c])) (.str (tx cs)) H Q := .inr ⟨c, tx cs, rfl, rfl, by rw [tx_list]; exact q⟩
theorem go_notInTx (q : Q (.bl (!decide (c ∈ cs))) H) : rNotInP K (.str (tx [c])) (.str (tx cs)) H Q := .inr ⟨c, tx cs, rfl, rfl, by rw [tx_list]; exact q⟩
theorem occ_lets : ∀ k : Fin 26, (Builtin.Str.occurrences (tx lets) (tx [97 + k.val]) 0 (tx lets).length 1).head? = some k.val := by decide +kernel
theorem go_indexTx (h : 97 ≤ c ∧ c ≤ 122) (q : Q (.int ((c - 97 : Nat) : Int)) H) : rIndexS (.str (tx lets)) [.str (tx [c])] H Q := by
  have o := occ_lets ⟨c - 97, by omega⟩
  simp only [show 97 + (c - 97) = c by omega] at o
  cases e : Builtin.Str.occurrences (tx lets) (tx [c]) 0 (tx lets).length 1 with
  | nil => rw [e] at o; cases o
  | cons k rest =>
    rw [e] at o
    cases o
    exact ⟨tx lets, tx [c], _, rest, rfl, rfl, e, q⟩
theorem go_eqTx (q : Q (.bl (decide (a = b))) H) : rEqP K (.str (tx a)) (.str (tx b)) H Q := go_eqS (by rw [show decide (tx a = tx b) = decide (a = b) from decide_eq_decide.mpr tx_inj]; exact q)
theorem go_neTx (q : Q (.bl (!decide (a = b))) H) : rNeP K (.str (tx a)) (.str (tx b)) H Q := go_neS (by rw [show decide (tx a = tx b) = decide (a = b) from decide_eq_decide.mpr tx_inj]; exact q)
theorem go_joinTx {p : Addr} (h : H p = some (.lst (cs.map fun c => V.str (tx [c])))) (hl : cs.length ≤ 1000) (q : Q (.str (tx cs)) H) : rJoinP K (.str (tx [])) [.ref p] H Q := by
  refine ⟨tx [], p, cs.map fun c => tx [c], rfl, rfl, .inl (SqL.of (by rw [h, List.map_map]; rfl)), ?_, by rw [tx_join]; exact q⟩
  rw [tx_len, List.map_map]
  have : ((cs.map ((·.length) ∘ fun c => tx [c])).sum) = cs.length := by
    clear h q hl
    induction cs with
    | nil => rfl
    | cons x cs ih => rw [List.map_cons, List.sum_cons, ih, List.length_cons]; show (tx [x]).length + _ = _; rw [tx_len]; simp; omega
  rw [this]
  simp
  omega
theorem for_S (INV : Nat → Bk.St → Hp → Prop) (h0 : INV 0 σ H1) (hs : ∀ i c σ H, cs[i]? = some c → INV i σ H → tb ⟨INV (i + 1), rt, nx, INV (i + 1)⟩ (σ.set m (some (.str (tx [c])))) H) (hd : ∀ σ H, INV cs.length σ H → nx σ H) :
    ForK (gName m) tb ⟨nx, rt, bk, ct⟩ σ (Its (tx cs)) H1 := by
  have hz : (tx cs).cps.size = cs.length := by simp [tx]
  refine for_it (walk_str (z := tx cs)) INV h0 (fun _ _ _ _ _ => trivial) (fun i v σ' H H' hi p y => ?_) (fun σ' H p => hd σ' H (by rw [← hz]; exact p))
  obtain ⟨rfl, c, e, rfl⟩ := y
  have e' : cs[i]? = some c := by simpa [tx] using e
  exact hs i c σ' _ e' p
theorem lc_S {f : Nat → V} {p : Nat → Bool} (hz : cs.length ≤ 1000)
    (test : ∀ (i c : Nat) (H' : Hp) (QB : Bool → Hp → Prop), cs[i]? = some c → Same H1 H' → (∀ H'', Same H' H'' → QB (p c) H'') → tt ((σ.set m none).set m (some (.str (tx [c])))) H' QB)
    (step : ∀ (i c : Nat) (H' : Hp) (Q' : VK), cs[i]? = some c → p c = true → Same H1 H' → (∀ H'', Same H' H'' → Q' (f c) H'') → te ((σ.set m none).set m (some (.str (tx [c])))) H' Q')
    (q : ∀ D H2, H1 D = none → Same H1 H2 → H2 D = some (.lst ((cs.filter p).map f)) → Q (.ref D) H2) : LcK (gName m) tt te [m] σ Q (Its (tx cs)) H1 := by
  intro D hD
  have hsz : (tx cs).cps.size = cs.length := by simp [tx]
  refine lc_it (walk_str (z := tx cs)) (fun i H => H D = some (.lst (((cs.take i).filter p).map f)) ∧ Same H1 H) ⟨upd_same, fun b o e => by rw [upd_ne (ne_of_none e hD)]; exact e⟩ (fun _ _ _ _ => trivial) ?_ ?_
  · rintro i v H H' hi ⟨hd, s⟩ ⟨rfl, c, e, rfl⟩
    have e' : cs[i]? = some c := by simpa [tx] using e
    refine ⟨?_, test i c _ _ e' s ?_⟩
    · show ((σ.set m none).set m (some _)).set m none = σ.set m none
      rw [List.set_set, List.set_set]
    · rintro H'' s2
      have hd2 := s2 _ _ hd
      cases hb : p c with
      | false =>
        rw [if_neg Bool.false_ne_true]
        refine ⟨?_, s.trans s2⟩
        rw [take_succ_of e', List.filter_append, List.filter_cons_of_neg (by rw [hb]; decide), List.filter_nil, List.append_nil]
        exact hd2
      | true =>
        rw [if_pos rfl]
        refine step i c H'' _ e' hb (s.trans s2) fun H3 s3 => ?_
        refine ⟨_, s3 _ _ hd2, ?_, ?_, fun b o e => ?_⟩
        · rw [sizeLine_eq, List.length_map]
          have h1 := List.length_filter_le p (cs.take i)
          have h2 : (cs.take i).length ≤ cs.length := by rw [List.length_take]; omega
          omega
        · rw [upd_same, take_succ_of e', List.filter_append, List.filter_cons_of_pos hb, List.filter_nil, List.map_append]
          rfl
        · rw [upd_ne (ne_of_none e hD)]
          exact s3 _ _ (s2 _ _ (s _ _ e))
  · rintro H2 ⟨hd, s⟩
    rw [hsz, List.take_length] at hd
    exact q D H2 hD s hd
theorem lc_mapS {f : Nat → V} (hz : cs.length ≤ 1000)
    (step : ∀ (i c : Nat) (H' : Hp) (Q' : VK), cs[i]? = some c → Same H1 H' → (∀ H'', Same H' H'' → Q' (f c) H'') → te ((σ.set m none).set m (some (.str (tx [c])))) H' Q')
    (q : ∀ D H2, H1 D = none → Same H1 H2 → H2 D = some (.lst (cs.map f)) → Q (.ref D) H2) : LcK (gName m) tYes te [m] σ Q (Its (tx cs)) H1 := by
  refine lc_S (p := fun _ => true) (f := f) hz (fun i c H' QB e s k => k H' (Same.refl _)) (fun i c H' Q' e _ s k => step i c H' Q' e s k) fun D H2 hD s hd => q D H2 hD s ?_
  rw [hd, List.filter_eq_self.mpr (fun _ _ => rfl)]
end
/-! ### data of small depth, against the empty list -/
def DpB (K : PySem.W.Frag) (H : Hp) (y : V) (n : Nat) : Prop := ∃ d, Dp K H y d ∧ d.canLay0 = true ∧ d.depth ≤ n
theorem dpbs {K : PySem.W.Frag} {H : Hp} {n : Nat} : ∀ {xs : List V}, (∀ y ∈ xs, DpB K H y n) → ∃ ds, DpAll K H xs ds ∧ PyData.canLayAll0 ds = true ∧ PyData.depthAll ds ≤ n
  | [], _ => ⟨[], .nil, by simp [PyData.canLayAll0], by simp [PyData.depthAll]⟩
  | x :: r, h => by
    obtain ⟨ds, h1, h2, h3⟩ := dpbs fun y hy => h y (List.mem_cons_of_mem _ hy)
    obtain ⟨d, k1, k2, k3⟩ := h x List.mem_cons_self
    exact ⟨d :: ds, .cons k1 h1, by simp [PyData.canLayAll0, k2, h2], by simp only [PyData.depthAll]; omega⟩
theorem shaped_of {d : PyData} {n : Nat} (h : d.canLay0 = true) (k : d.depth ≤ n) (hn : n ≤ 64) : SeqAt.shaped d = true := by
  unfold SeqAt.shaped
  rw [Bool.and_eq_true]
  exact ⟨h, decide_eq_true (by omega)⟩
theorem go_eqNil {K : PySem.W.Frag} {H : Hp} {Q : VK} {p p0 : Addr} {xs : List V} {n : Nat} (e : H p = some (.lst xs)) (e0 : H p0 = some (.lst [])) (h : ∀ y ∈ xs, DpB K H y n) (hn : n ≤ 60) (q : Q (.bl (decide (xs = []))) H) : rEqP K (.ref p) (.ref p0) H Q := by
  obtain ⟨ds, h1, h2, h3⟩ := dpbs h
  refine go_eqD (d := .list ds) (e := .list []) (.lst (SqL.of e) h1) (.lst (SqL.of e0) .nil) (shaped_of (n := n + 1) (by simp only [PyData.canLay0]; exact h2) (by simp only [PyData.depth]; omega) (by omega)) (by decide) ?_
  have : (PyData.eqv (.list ds) (.list [])) = decide (xs = []) := by
    cases h1 with
    | nil => rfl
    | cons _ _ => simp [PyData.eqv, PyData.eqvAll]
  rw [this]; exact q
theorem dpb_tx {K : PySem.W.Frag} {H : Hp} {cs : List Nat} (h : ∀ c ∈ cs, c < 1000) : DpB K H (.str (tx cs)) 1 := by
  refine ⟨.str (tx cs), .str _, ?_, by simp [PyData.depth]⟩
  simp only [PyData.canLay0, PyData.strOk]
  have : (tx cs).cps = cs.toArray := rfl
  rw [this]
  simp only [List.all_toArray, List.all_eq_true, decide_eq_true_eq]
  exact fun c hc => Nat.lt_trans (h c hc) (by omega)

/-! ### more steps: ranges with a test, ranges by sixteen, index and in of whole numbers, more kinds at once -/
section
variable {K : PySem.W.Frag} {σ : Bk.St} {H H1 : Hp} {Q : VK} {E : XK} {a b : Addr} {ns : List Int} {k : Int} {ta : TA} {R : It → Hp → Prop} {nx bk ct : Bk.St → Hp → Prop} {rt : VK} {tb : TS}
theorem lc_fR {m n : Nat} {lo : Int} {f : Nat → V} {p : Nat → Bool} {tt : TT} {te : TE} (hz : n ≤ sizeLine)
    (test : ∀ i H' QB, i < n → Same H1 H' → (∀ H'', Same H' H'' → QB (p i) H'') → tt ((σ.set m none).set m (some (.int (lo + i)))) H' QB)
    (step : ∀ i H' Q', i < n → p i = true → Same H1 H' → (∀ H'', Same H' H'' → Q' (f i) H'') → te ((σ.set m none).set m (some (.int (lo + i)))) H' Q')
    (q : ∀ D H2, H1 D = none → Same H1 H2 → H2 D = some (.lst (((List.range n).filter p).map f)) → Q (.ref D) H2) : LcK (gName m) tt te [m] σ Q (Itr lo n) H1 := by
  intro D hD
  refine lc_range (fun i H => H D = some (.lst (((List.range i).filter p).map f)) ∧ Same H1 H) ⟨upd_same, fun b o e => by rw [upd_ne (ne_of_none e hD)]; exact e⟩ ?_ ?_
  · rintro i H' hi ⟨hd, s⟩
    refine ⟨?_, test i H' _ hi s ?_⟩
    · show ((σ.set m none).set m (some (.int (lo + i)))).set m none = σ.set m none
      rw [List.set_set, List.set_set]
    · rintro H'' s2
      have hd2 := s2 _ _ hd
      cases hb : p i with
      | false =>
        rw [if_neg Bool.false_ne_true]
        refine ⟨?_, s.trans s2⟩
        rw [List.range_succ, List.filter_append, List.filter_cons_of_neg (by rw [hb]; decide), List.filter_nil, List.append_nil]
        exact hd2
      | true =>
        rw [if_pos rfl]
        refine step i H'' _ hi hb (s.trans s2) fun H3 s3 => ?_
        refine ⟨_, s3 _ _ hd2, ?_, ?_, fun b o e => ?_⟩
        · rw [List.length_map]
          have h1 := List.length_filter_le p (List.range i)
          rw [List.length_range] at h1
          omega
        · rw [upd_same, List.range_succ, List.filter_append, List.filter_cons_of_pos hb, List.filter_nil, List.map_append]
          rfl
        · rw [upd_ne (ne_of_none e hD)]
          exact s3 _ _ (s2 _ _ (s _ _ e))
  · rintro H2 ⟨hd, s⟩
    exact q D H2 hD s hd
theorem inV_ints : inV (.int k) (ns.map V.int) = decide (k ∈ ns) := by
  unfold inV
  induction ns with
  | nil => rfl
  | cons n ns ih =>
    rw [List.map_cons, List.any_cons, ih]
    show ((n == k) || _) = _
    by_cases c : n = k
    · subst c; simp
    · have : ¬ k = n := fun z => c z.symm
      simp [c, this]
theorem flat_ints : (ns.map V.int).all flatV = true := List.all_eq_true.mpr fun y hy => by
  obtain ⟨b, _, rfl⟩ := List.mem_map.mp hy
  rfl
theorem go_inI (h : H b = some (.lst (ns.map V.int))) (q : Q (.bl (decide (k ∈ ns))) H) : rInP K (.int k) (.ref b) H Q :=
  .inl ⟨b, _, rfl, .inl (SqL.of h), rfl, flat_ints, by rw [inV_ints]; exact q⟩
theorem go_indexI {j : Nat} (h : H a = some (.lst (ns.map V.int))) (hj : ns[j]? = some k) (hl : ∀ m, m < j → ns[m]? ≠ some k) (q : Q (.int j) H) : rIndex K (.ref a) [.int k] H Q := by
  refine ⟨a, ns.map V.int, .int k, j, .int k, rfl, rfl, SqL.of h, rfl, flat_ints, by rw [List.getElem?_map, hj]; rfl, by show (k == k) = true; simp, fun m z' hm e => ?_, q⟩
  rw [List.getElem?_map] at e
  cases hn : ns[m]? with
  | none => rw [hn] at e; cases e
  | some n =>
    rw [hn] at e; cases e
    show (n == k) = false
    have : n ≠ k := fun z => hl m hm (z ▸ hn)
    simp [this]
theorem go_minI (h : H a = some (.lst (ns.map V.int))) (hn : 0 < ns.length) (q : ∀ m, m ∈ ns → (∀ y ∈ ns, m ≤ y) → Q (.int m) H) : rMin K [.ref a] H Q := ⟨a, ns, rfl, SqL.of h, hn, q⟩
theorem go_sortI (h : H a = some (.lst (ns.map V.int))) (q : ∀ (ys : List Int) (p : Addr) (H1 : Hp), ys.Perm ns → ys.Pairwise (· ≤ ·) → New H p (.lst (ys.map V.int)) H1 → Q (.ref p) H1) : rSortedQ K [.ref a] H Q :=
  .inr ⟨a, ns, rfl, SqL.of h, fun ys p h1 h2 h3 => q ys p _ h1 h2 ⟨h3, rfl⟩⟩
theorem go_listD {ps : List (Int × V)} (h : H a = some (.dK (dI ps))) (q : ∀ p H1, New H p (.lst ((ps.map (·.1)).map V.int)) H1 → Q (.ref p) H1) : rListD [.ref a] H Q := by
  refine ⟨a, _, rfl, h, fun p hp => q p _ ⟨hp, ?_⟩⟩
  unfold dI
  rw [List.map_map, List.map_map]
  rfl
theorem go_isXT2 {D e t C1 C2 : Addr} {b1 b2 : Bool} [k1 : KitF K (.ref D) (.ref C1) b1] [k2 : KitF K (.ref D) (.ref C2) b2] (h : H t = some (.tup [.ref C1, .ref C2])) (q : Q (.bl (b1 || b2)) H) : rIsiH K D e [.ref e, .ref t] H Q := by
  refine .inr ⟨t, _, [.ref C1, .ref C2], b1 || b2, rfl, h, ?_, ?_, q⟩
  · exact .cons (ClsV.own _) (.cons (ClsV.own _) .nil)
  · show (match PySem.W.kitOne K (.ref D) (.ref C1) with | some true => _ | some false => _ | none => _) = _
    rw [k1.h]
    cases b1 with
    | true => rfl
    | false =>
      show (match PySem.W.kitOne K (.ref D) (.ref C2) with | some true => _ | some false => _ | none => _) = _
      rw [k2.h]
      cases b2 <;> rfl
def Rng3K (R : It → Hp → Prop) : List V → Hp → Prop := fun vs H1 => ∃ (i j c : Int) (n : Nat), vs = [.int i, .int j, .int c] ∧ RgC i j c n ∧ R (Itc i c n) H1
theorem go_rng3 (q : ta σ H (Rng3K R)) : iRng3 ta σ H R := q
theorem go_rng3K {m : Int} (h : 0 ≤ m ∧ m ≤ 1000) (q : R (Itc 0 16 ((m + 15) / 16).toNat) H) : Rng3K R [.int 0, .int m, .int 16] H := by
  have e : PySem.Builtin.Range.rangeSize 0 m 16 = (((m + 15) / 16).toNat : Nat) := by
    unfold PySem.Builtin.Range.rangeSize
    simp only [show (16 : Int) > 0 by decide, if_true]
    split <;> omega
  refine ⟨0, m, 16, _, rfl, ⟨by decide, by decide, ?_, e⟩, q⟩
  unfold PySem.Builtin.Range.small
  rw [e]
  simp only [PySem.Builtin.Range.rangeFitsLong, Bool.and_eq_true, Bool.or_eq_true, decide_eq_true_eq, beq_iff_eq, show (16 : Int) > 0 by decide, if_true]
  omega
theorem for_C {m n : Nat} {lo c : Int} (INV : Nat → Bk.St → Hp → Prop) (h0 : INV 0 σ H1)
    (hs : ∀ i σ H, i < n → INV i σ H → tb ⟨INV (i + 1), rt, nx, INV (i + 1)⟩ (σ.set m (some (.int (lo + i * c)))) H) (hd : ∀ σ H, INV n σ H → nx σ H) : ForK (gName m) tb ⟨nx, rt, bk, ct⟩ σ (Itc lo c n) H1 :=
  for_rangeC INV h0 hs hd
end

/-! ### texts in parts, by any sign between -/
def tv (cs : List Nat) : V := .str (tx cs)
def tp (cs : List Nat) : PyData := .str (tx cs)
def psp (s : Nat) : List Nat → List Nat → List (List Nat)
  | acc, [] => [acc]
  | acc, c :: r => if c = s then acc :: psp s [] r else psp s (acc ++ [c]) r
/-- with a stroke between -/
def jns (s : Nat) : List (List Nat) → List Nat
  | [] => []
  | [p] => p
  | p :: q :: r => p ++ s :: jns s (q :: r)
section
variable {s : Nat}
theorem psp_cons : ∀ (cs acc : List Nat), ∃ p r, psp s acc cs = p :: r
  | [], acc => ⟨acc, [], rfl⟩
  | c :: cs, acc => by
    unfold psp
    split
    · exact ⟨_, _, rfl⟩
    · exact psp_cons cs _
theorem jns_psp : ∀ (cs acc : List Nat), jns s (psp s acc cs) = acc ++ cs
  | [], acc => by simp [psp, jns]
  | c :: cs, acc => by
    unfold psp
    split
    · rename_i h
      obtain ⟨p, r, e⟩ := psp_cons (s := s) cs []
      have ih := jns_psp cs []
      rw [e] at ih ⊢
      show acc ++ s :: jns s (p :: r) = _
      rw [ih, h]
      rfl
    · rw [jns_psp cs]
      simp
theorem psp_pre {p : List Nat} (h : s ∉ p) : ∀ (acc cs : List Nat), psp s acc (p ++ cs) = psp s (acc ++ p) cs := by
  induction p with
  | nil => simp
  | cons c p ih =>
    intro acc cs
    show (if c = s then acc :: psp s [] (p ++ cs) else psp s (acc ++ [c]) (p ++ cs)) = _
    rw [if_neg (fun z => h (by rw [← z]; exact List.mem_cons_self)), ih (fun z => h (List.mem_cons_of_mem _ z))]
    simp
theorem psp_jns : ∀ {ps : List (List Nat)}, ps ≠ [] → (∀ p ∈ ps, s ∉ p) → psp s [] (jns s ps) = ps
  | [], h, _ => absurd rfl h
  | [p], _, h => by
    have := psp_pre (h p List.mem_cons_self) [] []
    rw [List.append_nil] at this
    show psp s [] p = [p]
    rw [this]; rfl
  | p :: q :: r, _, h => by
    have ih := psp_jns (ps := q :: r) (by simp) fun x hx => h x (List.mem_cons_of_mem _ hx)
    show psp s [] (p ++ s :: jns s (q :: r)) = _
    rw [psp_pre (h p List.mem_cons_self)]
    show psp s ([] ++ p) (s :: jns s (q :: r)) = _
    unfold psp
    rw [if_pos rfl, ih, List.nil_append]
theorem psp_len : ∀ (cs acc : List Nat), ∀ z ∈ psp s acc cs, z.length ≤ acc.length + cs.length
  | [], acc => fun z hz => by rw [List.mem_singleton.mp hz]; simp
  | c :: cs, acc => fun z hz => by
    unfold psp at hz
    split at hz
    · rcases List.mem_cons.mp hz with rfl | hz
      · simp
      · have := psp_len cs [] z hz
        simp at this ⊢
        omega
    · have := psp_len cs _ z hz
      simp at this ⊢
      omega
theorem spl_psp : ∀ (cs acc : List Nat), TL.spl [s] 0 acc cs = psp s acc cs
  | [], acc => TL.spl_nil _ _ _
  | c :: cs, acc => by
    show (if TL.pre [s] (c :: cs) = true then acc :: TL.spl [s] ([s].length - 1) [] cs else TL.spl [s] 0 (acc ++ [c]) cs) = _
    unfold psp
    by_cases h : c = s
    · rw [if_pos (by rw [h]; simp [TL.pre]), if_pos h]
      show acc :: TL.spl [s] 0 [] cs = _
      rw [spl_psp cs]
    · rw [if_neg (by simp [TL.pre]; exact fun z => h z), if_neg h, spl_psp cs]
theorem split_txs {cs : List Nat} (hs : s < 256) : Txt.split (tx cs) (tx [s]) = (psp s [] cs).map tx := by
  have h := TL.split_spl (tx cs) (tx [s]) (by show [s] ≠ []; simp) (TL.kind_ok (by show ([s].toArray).all (· < 256) = true; simp [hs]))
  have e1 : TL.tl (tx [s]) = [s] := rfl
  have e2 : TL.tl (tx cs) = cs := tx_list
  rw [e1, e2, spl_psp] at h
  have : ((Txt.split (tx cs) (tx [s])).map TL.tl).map tx = Txt.split (tx cs) (tx [s]) := by
    rw [List.map_map]
    conv => rhs; rw [← List.map_id (Txt.split (tx cs) (tx [s]))]
    exact List.map_congr_left fun z _ => (tx_of z).symm
  rw [← this, h]
theorem joinS_jns : ∀ ps : List (List Nat), Str.join (tx [s]) (ps.map tx) = tx (jns s ps)
  | [] => rfl
  | [p] => rfl
  | p :: q :: r => by
    have ih := joinS_jns (q :: r)
    show tx p ++ tx [s] ++ Str.join (tx [s]) ((q :: r).map tx) = _
    rw [ih, tx_app, tx_app]
    show tx _ = tx (p ++ s :: jns s (q :: r))
    simp
theorem join_jns (ps : List (List Nat)) : Txt.join (tx [s]) (ps.map tx) = tx (jns s ps) := by
  have e : Txt.join (tx [s]) (ps.map tx) = Str.join (tx [s]) (ps.map tx) := StrLaws.glued_eq_join _ _
  rw [e, joinS_jns]
theorem jns_len : ∀ {ps : List (List Nat)}, (jns s ps).length + 1 = (ps.map List.length).sum + ps.length + (if ps = [] then 1 else 0)
  | [] => rfl
  | [p] => by simp [jns]
  | p :: q :: r => by
    have ih := jns_len (ps := q :: r)
    simp only [reduceCtorEq, if_false] at ih ⊢
    show (p ++ s :: jns s (q :: r)).length + 1 = _
    rw [List.length_append, List.length_cons, List.map_cons, List.sum_cons, List.length_cons (a := p)]
    omega
end
section
variable {s : Nat} {K : PySem.W.Frag} {H : Hp} {Q : VK} {a b : Addr} {zs ws : List (List Nat)}
theorem dpall_strs : ∀ zs : List (List Nat), DpAll K H (zs.map tv) (zs.map tp)
  | [] => .nil
  | z :: r => .cons (.str _) (dpall_strs r)
theorem tp_ok {cs : List Nat} (h : ∀ c ∈ cs, c < 1000) : (tp cs).canLay0 = true := by
  simp only [tp, PyData.canLay0, PyData.strOk]
  have : (tx cs).cps = cs.toArray := rfl
  rw [this]
  simp only [List.all_toArray, List.all_eq_true, decide_eq_true_eq]
  exact fun c hc => Nat.lt_trans (h c hc) (by omega)
theorem shaped_strs (h : ∀ cs ∈ zs, ∀ c ∈ cs, c < 1000) : (PyData.list (zs.map tp)).canLay0 = true ∧ (PyData.list (zs.map tp)).depth ≤ 2 := by
  have h1 : PyData.canLayAll0 (zs.map tp) = true := by
    induction zs with
    | nil => simp [PyData.canLayAll0]
    | cons n r ih => simp [PyData.canLayAll0, tp_ok (h n List.mem_cons_self), ih fun cs hc => h cs (List.mem_cons_of_mem _ hc)]
  have h2 : PyData.depthAll (zs.map tp) ≤ 1 := by
    clear h h1
    induction zs with
    | nil => simp [PyData.depthAll]
    | cons n r ih => simp only [List.map_cons, PyData.depthAll, tp, PyData.depth] at ih ⊢; omega
  exact ⟨by simp only [PyData.canLay0]; exact h1, by simp only [PyData.depth]; omega⟩
theorem eqv_strs : ∀ zs ws : List (List Nat), PyData.eqvAll (zs.map tp) (ws.map tp) = decide (zs = ws)
  | [], [] => by simp [PyData.eqvAll]
  | [], _ :: _ => by simp [PyData.eqvAll]
  | _ :: _, [] => by simp [PyData.eqvAll]
  | n :: r, m :: q => by
    have e : PyData.eqv (tp n) (tp m) = decide (n = m) := by
      have : PyData.eqv (tp n) (tp m) = (tx n == tx m) := rfl
      rw [this, Bool.eq_iff_iff, beq_iff_eq, decide_eq_true_iff, tx_inj]
    simp only [List.map_cons, PyData.eqvAll, e, eqv_strs r q, List.cons.injEq, Bool.decide_and]
theorem go_neTs (h : H a = some (.lst (zs.map tv))) (k : H b = some (.lst (ws.map tv))) (l1 : ∀ cs ∈ zs, ∀ c ∈ cs, c < 1000) (l2 : ∀ cs ∈ ws, ∀ c ∈ cs, c < 1000) (q : Q (.bl (!decide (zs = ws))) H) : rNeP K (.ref a) (.ref b) H Q :=
  go_neD (.lst (SqL.of h) (dpall_strs zs)) (.lst (SqL.of k) (dpall_strs ws)) (shaped_of (shaped_strs l1).1 (shaped_strs l1).2 (by omega)) (shaped_of (shaped_strs l2).1 (shaped_strs l2).2 (by omega)) (by rw [PyData.eqv, eqv_strs]; exact q)
theorem go_splitS {cs : List Nat} (hs : s < 256) (h : cs.length ≤ 1000) (q : ∀ p H1, New H p (.lst ((psp s [] cs).map tv)) H1 → Q (.ref p) H1) : rSplitP (.str (tx cs)) [.str (tx [s])] H Q := by
  refine ⟨tx cs, tx [s], rfl, rfl, rfl, by rw [sizeLine_eq, tx_len]; omega, fun p hp => ?_⟩
  rw [split_txs hs, List.map_map]
  exact q p _ ⟨hp, rfl⟩
theorem go_joinS {p : Addr} (h : H p = some (.lst (zs.map tv))) (hl : (jns s zs).length ≤ 1000) (hz : zs.length ≤ 1000) (q : Q (.str (tx (jns s zs))) H) : rJoinP K (.str (tx [s])) [.ref p] H Q := by
  refine ⟨tx [s], p, zs.map tx, rfl, rfl, .inl (SqL.of (by rw [h, List.map_map]; rfl)), ?_, by rw [join_jns]; exact q⟩
  have e1 : (zs.map tx).map (·.length) = zs.map List.length := by
    rw [List.map_map]; exact List.map_congr_left fun z _ => tx_len
  rw [e1, List.length_map, tx_len]
  have := jns_len (s := s) (ps := zs)
  show _ + zs.length * 1 ≤ _
  split at this <;> omega
end
/-! ### numbers as texts -/
def dgs : List Nat := (List.range 10).map (48 + ·)
theorem mem_dgs {c : Nat} : c ∈ dgs ↔ 48 ≤ c ∧ c ≤ 57 := by
  unfold dgs
  rw [List.mem_map]
  exact ⟨fun ⟨k, hk, e⟩ => by have := List.mem_range.mp hk; omega, fun h => ⟨c - 48, List.mem_range.mpr (by omega), by omega⟩⟩
theorem tx_dgs : Str.ofString "0123456789" = tx dgs := by decide +kernel
def okNum (w : List Nat) : Bool := decide (1 ≤ w.length ∧ w.length ≤ 9) && (decide (w = [48]) || !decide (w.head? = some 48)) && w.all fun c => decide (c ∈ dgs)
def numOf (w : List Nat) : Option Nat := if okNum w then some (NumText.digitsVal w) else none
theorem all_dgs (n : Nat) : ∀ c ∈ TL.numL n, c ∈ dgs := fun c hc => mem_dgs.mpr (TL.numL_digits n c hc)
theorem head_numL : ∀ n : Nat, 0 < n → (TL.numL n).head? ≠ some 48 := by
  intro n
  induction n using Nat.strongRecOn with
  | _ n ih =>
    intro h
    by_cases k : n < 10
    · rw [TL.numL_lt k]
      intro z
      have : 48 + n = 48 := Option.some.inj z
      omega
    · rw [TL.numL_step (by omega)]
      have := ih (n / 10) (by omega) (by omega)
      cases e : TL.numL (n / 10) with
      | nil => exact absurd e (TL.numL_ne _)
      | cons x r => rw [e] at this; exact this
theorem numOf_numL {n : Nat} (h : n < 10 ^ 9) : numOf (TL.numL n) = some n := by
  have l : (TL.numL n).length ≤ 9 := TL.numL_len (by omega) h
  have p : 1 ≤ (TL.numL n).length := by
    have := TL.numL_ne n
    cases e : TL.numL n with
    | nil => exact absurd e this
    | cons _ _ => simp
  have ok : okNum (TL.numL n) = true := by
    unfold okNum
    rw [Bool.and_eq_true, Bool.and_eq_true]
    refine ⟨⟨decide_eq_true ⟨p, l⟩, ?_⟩, List.all_eq_true.mpr fun c hc => decide_eq_true (all_dgs n c hc)⟩
    rw [Bool.or_eq_true]
    by_cases c : n = 0
    · subst c
      exact .inl (by rw [TL.numL_lt (by omega)]; rfl)
    · exact .inr (by rw [decide_eq_false (head_numL n (by omega))]; rfl)
  unfold numOf
  rw [if_pos ok, TL.numL_val]
theorem int_tx {w : List Nat} (h : okNum w = true) : PySem.intText? (tx w) = some ((NumText.digitsVal w : Nat) : Int) := by
  unfold okNum at h
  rw [Bool.and_eq_true, Bool.and_eq_true] at h
  have l := of_decide_eq_true h.1.1
  refine SX.int_S (a := w) (List.all_eq_true.mpr fun c hc => ?_) (fun z => by rw [z] at l; simp at l) (by omega)
  have := mem_dgs.mp (of_decide_eq_true (List.all_eq_true.mp h.2 c hc))
  rw [Bool.and_eq_true]
  exact ⟨decide_eq_true this.1, decide_eq_true this.2⟩
/-! ### orders -/
def tx0 (s : String) : List Nat := s.toList.map Char.toNat
theorem tx0_eq (s : String) : Str.ofString s = tx (tx0 s) := by
  rw [tx_of (Str.ofString s)]
  show tx _ = tx _
  congr 1
  exact TL.tl_ofString s
inductive Pt | t (cs : List Nat) | n (k : Nat) | l (ns : List Nat)
inductive Kd | p | n | l
  deriving DecidableEq
def wordP : Pt → List Nat
  | .t cs => cs
  | .n k => TL.numL k
  | .l ns => jns 44 (ns.map TL.numL)
def rd : Kd → List Nat → Option Pt
  | .p, w => some (.t w)
  | .n, w => (numOf w).map .n
  | .l, w => if (psp 44 [] w).all okNum then some (.l ((psp 44 [] w).map NumText.digitsVal)) else none
def rdAll : List Kd → List (List Nat) → Option (List Pt)
  | [], [] => some []
  | k :: ks, w :: ws => (rd k w).bind fun p => (rdAll ks ws).map (p :: ·)
  | _, _ => none
def Low (cs : List Nat) : Prop := ∀ c ∈ cs, c < 1000
def Fits : Kd → Pt → Prop
  | .p, .t cs => cs ≠ [] ∧ 32 ∉ cs ∧ cs.length ≤ 9 ∧ Low cs
  | .n, .n k => k < 10 ^ 9
  | .l, .l ns => ns ≠ [] ∧ ns.length ≤ 9 ∧ ∀ k ∈ ns, k < 10 ^ 9
  | _, _ => False
theorem numL_free44 {n : Nat} : 44 ∉ TL.numL n := TL.numL_free (by omega)
theorem numL_free32 {n : Nat} : 32 ∉ TL.numL n := TL.numL_free (by omega)
theorem okNum_numL {n : Nat} (h : n < 10 ^ 9) : okNum (TL.numL n) = true := by
  have := numOf_numL h
  unfold numOf at this
  split at this
  · assumption
  · cases this
theorem rd_fits {k : Kd} {p : Pt} (h : Fits k p) : rd k (wordP p) = some p := by
  cases k <;> cases p <;> try exact h.elim
  · rfl
  · show (numOf (TL.numL _)).map Pt.n = _
    rw [numOf_numL h]; rfl
  · rename_i ns
    have e : psp 44 [] (jns 44 (ns.map TL.numL)) = ns.map TL.numL := psp_jns (fun z => h.1 (List.map_eq_nil_iff.mp z)) fun p hp => by
      obtain ⟨k, _, rfl⟩ := List.mem_map.mp hp
      exact numL_free44
    show (if (psp 44 [] (jns 44 (ns.map TL.numL))).all okNum then some (Pt.l ((psp 44 [] (jns 44 (ns.map TL.numL))).map NumText.digitsVal)) else none) = _
    rw [e, if_pos (List.all_eq_true.mpr fun w hw => by obtain ⟨k, hk, rfl⟩ := List.mem_map.mp hw; exact okNum_numL (h.2.2 k hk)), List.map_map]
    rw [show ns.map (NumText.digitsVal ∘ TL.numL) = ns from by
      conv => rhs; rw [← List.map_id ns]
      exact List.map_congr_left fun k _ => TL.numL_val k]
def L1 : List (List Nat) := [tx0 "look", tx0 "rise"]
def L2_ : List (List Nat) := [tx0 "file", tx0 "folder", tx0 "unlink", tx0 "leave", tx0 "names", tx0 "kind", tx0 "size"]
def L3 : List (List Nat) := [tx0 "link", tx0 "move"]
def L4 : List (List Nat) := [tx0 "put", tx0 "cut", tx0 "words", tx0 "stop"]
def kinds (w : List Nat) : Option (List Kd) :=
  if w ∈ L1 then some []
  else if w ∈ L2_ then some [.p]
  else if w ∈ L3 then some [.p, .p]
  else if w = tx0 "put" then some [.p, .n, .l]
  else if w = tx0 "cut" then some [.p, .n]
  else if w = tx0 "words" then some [.p, .n, .n]
  else if w = tx0 "stop" then some [.n]
  else none
def due (cs : List Nat) : Option (List Pt) :=
  if [] ∈ psp 32 [] cs then none
  else match psp 32 [] cs with
  | [] => none
  | w :: ws => (kinds w).bind fun ks => if ks.length = ws.length then (rdAll ks ws).map (.t w :: ·) else none

/-! ### the law's own defs -/
def spLaw (K : PySem.W.Frag) : Sp := fun vs H Q _ => ∃ (a : Addr) (ns : List Int), vs = [.ref a] ∧ SqL K H a (ns.map V.int) ∧ ns.length ≤ 63 ∧ ∀ H', Q (.bl true) H'
section
variable {K : PySem.W.Frag} {a : Ac} {H : Hp} {Q : VK} {E : XK}
theorem p_cell_at {p : Addr} {ns : List Int} {k : Int} (h : SqL K H p (ns.map V.int)) (hk : 0 ≤ k) (q : Q (.int (cellI ns k)) H) : sp_L_cell_at K a [.ref p, .int k] H Q E := by
  refine in_L_cell_at ?_
  unfold t_L_cell_at
  walk_at "go"
  rw [List.length_map]
  refine go_dec (fun c => ?_) (fun c => ?_)
  all_goals walk_at "go"
  · exact go_ixK h (cell_in hk c) q
  · rwa [cell_out c] at q
end

/-! ### the program's own defs of orders -/
section
variable {K : PySem.W.Frag} {a : Ac} {H : Hp} {Q : VK} {E : XK} [F : Fc K a] {w cs : List Nat} {ws : List (List Nat)} {p : Addr} {x : V} {n : String}
theorem p_need_order {b : Bool} (q : b = true → Q .non H) (e : b = false → E (.ref a.BadOrder) none H) : sp_need_order K a [.bl b] H Q E := by
  refine in_need_order ?_
  unfold t_need_order
  cases b with
  | true => walk_at "go"; exact q rfl
  | false => walk_at "go"; exact e rfl
omit F in
theorem okNum_head (h : okNum w = true) : (1 ≤ w.length ∧ w.length ≤ 9) ∧ (w = [48] ∨ w.head? ≠ some 48) ∧ ∀ c ∈ w, c ∈ dgs := by
  unfold okNum at h
  rw [Bool.and_eq_true, Bool.and_eq_true, Bool.or_eq_true] at h
  refine ⟨of_decide_eq_true h.1.1, ?_, fun c hc => of_decide_eq_true (List.all_eq_true.mp h.2 c hc)⟩
  rcases h.1.2 with z | z
  · exact .inl (of_decide_eq_true z)
  · exact .inr (by simpa using z)
omit F in
theorem okNum_of (h1 : 1 ≤ w.length ∧ w.length ≤ 9) (h2 : w = [48] ∨ w.head? ≠ some 48) (h3 : ∀ c ∈ w, c ∈ dgs) : okNum w = true := by
  unfold okNum
  rw [Bool.and_eq_true, Bool.and_eq_true, Bool.or_eq_true]
  refine ⟨⟨decide_eq_true h1, ?_⟩, List.all_eq_true.mpr fun c hc => decide_eq_true (h3 c hc)⟩
  rcases h2 with z | z
  · exact .inl (decide_eq_true z)
  · exact .inr (by rw [decide_eq_false z]; rfl)
theorem p_number_of (hl : w.length ≤ 1000) (q : okNum w = true → Q (.int (NumText.digitsVal w : Nat)) H) (e : okNum w = false → E (.ref a.BadOrder) none H) : sp_number_of K a [.str (tx w)] H Q E := by
  refine in_number_of ?_
  unfold t_number_of
  have e48 : Str.ofString "0" = tx [48] := by decide +kernel
  rw [e48, tx_dgs]
  have no : ¬ okNum w = true → E (.ref a.BadOrder) none H := fun z => e (by cases h : okNum w; rfl; exact absurd h z)
  walk_at "go"
  refine go_lenTx hl ?_
  walk_at "go"
  refine go_dec (fun c1 => ?_) (fun c1 => ?_)
  rotate_left
  · walk_at "go"
    refine p_need_order (fun z => nomatch z) fun _ => ?_
    walk_at "go"
    exact no fun z => c1 (by have := (okNum_head z).1; omega)
  walk_at "go"
  refine go_dec (fun c2 => ?_) (fun c2 => ?_)
  rotate_left
  · walk_at "go"
    refine p_need_order (fun z => nomatch z) fun _ => ?_
    walk_at "go"
    exact no fun z => c2 (by have := (okNum_head z).1; omega)
  walk_at "go"
  rw [show decide (tx w = tx [48]) = decide (w = [48]) from decide_eq_decide.mpr tx_inj]
  have tl : (w = [48] ∨ w.head? ≠ some 48) → tSeq
                    (tFor (iSeqP K (tVar 0)) (gName 1)
                      (tDrop
                        (tCallS (sp_need_order K a) (WE (WM E))
                          (tCons (tOp (rInP K) (tVar 1) (tC (V.str (tx dgs)))) tNil))))
                    (tRet (tCB rIntP (tCons (tVar 0) tNil)))
                    { nx := fun x H' => Q V.non H', rt := Q, bk := F0, ct := F0 } [some (V.str (tx w)), none] H := fun hd => by
    walk_at "go"
    refine for_S (cs := w) (fun i σ H' => (∃ v, σ = [some (.str (tx w)), v]) ∧ H' = H ∧ ∀ c ∈ w.take i, c ∈ dgs) ⟨⟨_, rfl⟩, rfl, by simp⟩ ?_ ?_
    · rintro i c σ H' hc ⟨⟨v, rfl⟩, rfl, hi⟩
      simp only [List.set_cons_zero, List.set_cons_succ]
      walk_at "go"
      refine go_inTx ?_
      walk_at "go"
      refine p_need_order (fun z => ?_) (fun z => ?_)
      · walk_at "go"
        refine ⟨⟨_, rfl⟩, rfl, fun d hd => ?_⟩
        rw [take_succ_of hc] at hd
        rcases List.mem_append.mp hd with hd | hd
        · exact hi d hd
        · rw [List.mem_singleton.mp hd]; exact of_decide_eq_true z
      · walk_at "go"
        exact no fun y => (of_decide_eq_false z) ((okNum_head y).2.2 c (List.mem_of_getElem? hc))
    · rintro σ H' ⟨⟨v, rfl⟩, rfl, hi⟩
      rw [List.take_length] at hi
      have ok : okNum w = true := okNum_of (by omega) hd hi
      walk_at "go"
      exact .inr ⟨tx w, _, rfl, int_tx ok, by rw [tx_len]; omega, q ok⟩
  cases hw : decide (w = [48]) with
  | true =>
    walk_at "go"
    refine p_need_order (fun _ => ?_) (fun z => nomatch z)
    exact tl (.inl (of_decide_eq_true hw))
  | false =>
    obtain ⟨c, r, rfl⟩ : ∃ c r, w = c :: r := by
      cases w with
      | nil => simp at c1
      | cons c r => exact ⟨c, r, rfl⟩
    walk_at "go"
    refine go_ixTx (c := c) hl (by omega) rfl ?_
    walk_at "go"
    rw [show decide (tx [c] = tx [48]) = decide ([c] = [48]) from decide_eq_decide.mpr tx_inj]
    refine p_need_order (fun z => ?_) (fun z => ?_)
    · exact tl (.inr (by simpa using z))
    · walk_at "go"
      refine no fun y => ?_
      have h := (okNum_head y).2.1
      rcases h with h | h
      · exact of_decide_eq_false hw h
      · exact h (by simpa using z)
end

end Bk

namespace Bk
open PySem L2 PyProof.Rows
/-! our own short tactics: h: what stands at a place; ne: two places; sm: what stood stands; z: a size; s: a step; go: steps -/
local macro_rules | `(tactic| walk_at "h") => `(tactic| first
  | assumption
  | exact New.at (by assumption)
  | exact Wr.at (by assumption)
  | (refine' New.old (by assumption) ?_; walk_at "h")
  | (refine' Same.at (by assumption) ?_; walk_at "h")
  | (refine' Wr.old (by assumption) ?_ ?_; walk_at "ne"; walk_at "h")
  | (refine' Chg.at (by assumption) ?_ ?_; walk_at "ni"; walk_at "h"))
local macro_rules | `(tactic| walk_at "ni") => `(tactic| first
  | exact ni_nil
  | assumption
  | (refine' ni_cons ?_ ?_; walk_at "ne"; walk_at "ni"))
local macro_rules | `(tactic| walk_at "ne") => `(tactic| first
  | assumption
  | exact Ne.symm (by assumption)
  | exact New.ne (by assumption) (by walk_at "h")
  | exact ne_none (by assumption) (by walk_at "h")
  | exact Ne.symm (ne_none (by assumption) (by walk_at "h"))
  | exact Ne.symm (New.ne (by assumption) (by walk_at "h")))
local macro_rules | `(tactic| walk_at "sm") => `(tactic| first
  | exact Same.refl _
  | assumption
  | (refine' Same.trans ?_ (New.same (by assumption)); walk_at "sm")
  | (refine' Same.trans ?_ (by assumption : Same _ _); walk_at "sm"))
local macro_rules | `(tactic| walk_at "z") => `(tactic| first
  | assumption
  | (rw [PySem.sizeLine_eq]; omega)
  | (rw [PySem.sizeLine_eq]; simp only [List.length_cons, List.length_nil, List.length_append, List.length_map, List.length_range, List.length_replicate, len_cut]; omega)
  | (rw [PySem.sizeLine_eq]; simp only [List.length_cons, List.length_nil, List.length_append, List.length_map, List.length_range, List.length_replicate, len_cut] at *; omega))
local macro_rules | `(tactic| walk_at "s") => `(tactic| first
  | ((with_reducible refine' go_var ?h ?_); (case h => exact rfl))
  | (with_reducible refine' go_c ?_)
  | (with_reducible refine' go_op ?_)
  | (with_reducible refine' go_un ?_)
  | (with_reducible refine' go_rU ?_)
  | (with_reducible refine' go_seq ?_)
  | (with_reducible refine' go_ret ?_)
  | (with_reducible refine' go_retN ?_)
  | (with_reducible refine' go_next ?_)
  | (with_reducible refine' go_drop ?_)
  | (with_reducible refine' go_asg ?_)
  | ((with_reducible refine' go_name2 ?h ?_); (case h => (simp only [List.set_cons_zero, List.set_cons_succ]; exact rfl)))
  | ((with_reducible refine' go_name2 ?h ?_); (case h => exact rfl))
  | (with_reducible refine' go_ifS ?_)
  | (with_reducible refine' go_blk ?_)
  | (with_reducible refine' go_test ?_)
  | (with_reducible refine' go_tB ?_)
  | (with_reducible refine' go_and ?_)
  | (with_reducible refine' go_or ?_)
  | (with_reducible refine' go_not ?_)
  | (with_reducible refine' go_andV ?_)
  | (with_reducible refine' go_orV ?_)
  | (with_reducible refine' go_notV ?_)
  | (with_reducible refine' go_if ?_)
  | (with_reducible refine' go_chain ?_)
  | (with_reducible refine' iteT ?_)
  | (with_reducible refine' iteF ?_)
  | ((with_reducible refine' go_Td ?h ?_); (case h => walk_at "pr"))
  | ((with_reducible refine' go_Fd ?h ?_); (case h => walk_at "pr"))
  | ((with_reducible refine' go_Tn ?h ?_); (case h => walk_at "pr"))
  | ((with_reducible refine' go_Fn ?h ?_); (case h => walk_at "pr"))
  | ((with_reducible refine' go_T ?h ?_); (case h => (first | decide | assumption | exact rfl)))
  | ((with_reducible refine' go_F ?h ?_); (case h => (first | decide | assumption | exact rfl)))
  | (with_reducible refine' go_nil ?_)
  | (with_reducible refine' go_cons ?_)
  | (with_reducible refine' go_tLst ?_)
  | (with_reducible refine' go_tTup ?_)
  | ((with_reducible refine' go_LstK ?h ?_); (case h => walk_at "z"); intro p H1 n1)
  | ((with_reducible refine' go_TupK ?h ?_); (case h => walk_at "z"); intro p H1 n1)
  | (with_reducible refine' go_addI ?_)
  | ((with_reducible refine' go_addL ?h ?k ?z ?_); (case h => walk_at "h"); (case k => walk_at "h"); (case z => walk_at "z"); intro p H1 n1)
  | (with_reducible refine' go_sub ?_)
  | ((with_reducible refine' go_mulI ?h ?_); (case h => (unfold CMul; omega)))
  | ((with_reducible refine' go_mulL ?h ?k ?_); (case h => walk_at "h"); (case k => (refine ⟨by omega, by omega, ?_⟩; walk_at "z")); intro p H1 n1)
  | ((with_reducible refine' go_div ?h ?_); (case h => (unfold CDiv; omega)))
  | ((with_reducible refine' go_mod ?h ?_); (case h => omega))
  | (with_reducible refine' go_p109 ?_)
  | (with_reducible refine' go_p1020 ?_)
  | ((with_reducible refine' go_pow ?h ?_); (case h => (unfold CPow; omega)))
  | (with_reducible refine' go_lt ?_)
  | (with_reducible refine' go_le ?_)
  | (with_reducible refine' go_gt ?_)
  | (with_reducible refine' go_ge ?_)
  | (with_reducible refine' go_eqI ?_)
  | (with_reducible refine' go_eqB ?_)
  | (with_reducible refine' go_eqS ?_)
  | (with_reducible refine' go_neI ?_)
  | (with_reducible refine' go_neB ?_)
  | (with_reducible refine' go_neS ?_)
  | (with_reducible refine' go_isN ?_)
  | (with_reducible refine' go_isNotN ?_)
  | (with_reducible refine' go_isB ?_)
  | (with_reducible refine' go_isNotB ?_)
  | (with_reducible refine' go_sl ?_)
  | (with_reducible refine' go_noPart ?_)
  | (with_reducible refine' go_part ?_)
  | (with_reducible refine' go_intK ?_)
  | ((with_reducible refine' go_slL ?h ?_); (case h => walk_at "h"); intro p H1 n1)
  | ((with_reducible refine' go_ixL ?h ?k ?_); (case h => walk_at "h"); (case k => exact rfl))
  | ((with_reducible refine' go_ixT ?h ?k ?_); (case h => walk_at "h"); (case k => exact rfl))
  | ((with_reducible refine' go_slW ?h ?_); (case h => walk_at "h"))
  | (with_reducible refine' go_bm ?_)
  | (with_reducible refine' go_bm0 ?_)
  | ((with_reducible refine' go_bmL ?h ?_); (case h => walk_at "h"))
  | ((with_reducible refine' go_append ?h ?k ?_); (case h => walk_at "h"); (case k => walk_at "z"); intro H1 n1)
  | ((with_reducible refine' go_extend ?h ?k ?z ?_); (case h => walk_at "h"); (case k => walk_at "h"); (case z => walk_at "z"); intro H1 n1)
  | ((with_reducible refine' go_clear ?h ?_); (case h => walk_at "h"); intro H1 n1)
  | ((with_reducible refine' go_dnew ?_); intro p H1 n1)
  | (with_reducible refine' go_cb ?_)
  | (with_reducible refine' go_callS ?_)
  | (with_reducible refine' go_call0 ?_)
  | ((with_reducible refine' go_lenL ?h ?_); (case h => walk_at "h"))
  | ((with_reducible refine' go_lenT ?h ?_); (case h => walk_at "h"))
  | ((with_reducible refine' go_lenK ?h ?_); (case h => walk_at "hk"))
  | ((with_reducible refine' go_listL ?h ?_); (case h => walk_at "h"); intro p H1 n1)
  | ((with_reducible refine' go_listT ?h ?_); (case h => walk_at "h"); intro p H1 n1)
  | ((with_reducible refine' go_tupleL ?h ?_); (case h => walk_at "h"); intro p H1 n1)
  | (with_reducible refine' go_intI ?_)
  | (with_reducible refine' go_intB ?_)
  | (with_reducible refine' go_abs ?_)
  | (with_reducible refine' go_min2 ?_)
  | (with_reducible refine' go_max2 ?_)
  | ((with_reducible refine' go_isi ?h ?k ?_); (case h => walk_at "ty"); (case k => exact kit_bb (by decide) (by decide)))
  | (with_reducible refine' go_lc ?_)
  | (with_reducible refine' go_for ?_)
  | (with_reducible refine' go_seqP ?_)
  | ((with_reducible refine' go_seqL ?h ?_); (case h => walk_at "h"))
  | ((with_reducible refine' go_seqT ?h ?_); (case h => walk_at "h"))
  | (with_reducible refine' go_seqS ?_)
  | (with_reducible refine' go_rng1 ?_)
  | (with_reducible refine' go_rng2 ?_)
  | ((with_reducible refine' go_rng1K ?h ?_); (case h => omega))
  | ((with_reducible refine' go_rng2K ?h ?_); (case h => omega))
  | (with_reducible refine' go_raise ?_)
  | ((with_reducible refine' go_tupG ?h ?k ?_); (case h => walk_at "h"); (case k => exact rfl))
  | ((with_reducible refine' go_lstG ?h ?k ?_); (case h => walk_at "h"); (case k => exact rfl))
  | (with_reducible refine' go_gNil ?_)
  | (with_reducible refine' go_tryAs ?_)
  | (with_reducible refine' go_tryMany1 ?_)
  | (with_reducible refine' go_tryMany2 ?_)
  | (with_reducible refine' go_WM ?_)
  | ((with_reducible refine' go_asT ?_); intro e he)
  | (with_reducible refine' go_asF ?_)
  | ((with_reducible refine' go_manyT ?_); intro e he)
  | (with_reducible refine' go_manyF ?_)
  | (with_reducible refine' go_manyN ?_)
  | (with_reducible refine' go_fld ?_)
  | ((with_reducible refine' go_FldK ?h ?c ?n ?l ?_); (case h => walk_at "h"); (case c => infer_instance); (case n => infer_instance); (case l => exact rfl))
  | (with_reducible refine' go_sfld ?_)
  | ((with_reducible refine' go_SFldK ?h ?c ?n ?l ?e ?_); (case h => walk_at "h"); (case c => infer_instance); (case n => infer_instance); (case l => exact Nat.le_of_ble_eq_true rfl); (case e => walk_at "pf"); intro H1 n1)
  | (with_reducible refine' go_meth ?_)
  | ((with_reducible refine' go_MethK 0 ?h ?l ?e ?_); (case h => walk_at "h"); (case l => exact rfl); (case e => exact rfl))
  | ((with_reducible refine' go_MethK 1 ?h ?l ?e ?_); (case h => walk_at "h"); (case l => exact rfl); (case e => exact rfl))
  | ((with_reducible refine' go_MethK 2 ?h ?l ?e ?_); (case h => walk_at "h"); (case l => exact rfl); (case e => exact rfl))
  | (with_reducible refine' go_make ?_)
  | (with_reducible refine' go_callX ?_)
  | (with_reducible refine' go_methX ?_)
  | ((with_reducible refine' go_MethXK ?h ?l ?_); (case h => walk_at "h"); (case l => exact rfl))
  | (with_reducible refine' go_dget ?_)
  | ((with_reducible refine' go_DGetS ?h ?l ?_); (case h => walk_at "h"); (case l => exact rfl))
  | (with_reducible refine' go_dput ?_)
  | ((with_reducible refine' go_DPutS ?h ?l ?e ?_); (case h => walk_at "h"); (case l => exact Nat.le_of_ble_eq_true rfl); (case e => walk_at "pk"); intro H1 n1)
  | ((with_reducible refine' go_disp ?_); intro p H1 n1)
  | (with_reducible refine' go_pairs ?_)
  | (with_reducible refine' go_pairs0 ?_)
  | ((with_reducible refine' go_DispS ?h ?e ?l ?k ?j ?m ?_); (case h => walk_at "h"); (case e => exact rfl); (case l => exact Nat.le_of_ble_eq_true rfl); (case k => (simp only [unS]; exact rfl)); (case j => (simp only [List.map_cons, List.map_nil]; exact rfl)); (case m => decide +kernel); intro H1 n1)
  | (with_reducible refine' go_par ?_)
  | ((with_reducible refine' go_ParK ?h ?_); (case h => (simp only [List.set_cons_zero, List.set_cons_succ]; exact rfl)))
  | (with_reducible refine' go_sub_ ?_)
  | ((with_reducible refine' go_setLi ?h ?k ?_); (case h => walk_at "h"); (case k => walk_at "ix"); intro H1 n1)
  | (with_reducible refine' go_listY ?_)
  | ((with_reducible refine' go_listYL ?h ?_); (case h => walk_at "h"))
  | (with_reducible refine' go_bmS ?_)
  | (with_reducible refine' go_ckw ?_)
  | ((with_reducible refine' go_maxD ?h ?_); (case h => walk_at "h"))
  | (with_reducible refine' go_listR ?_)
  | (with_reducible refine' go_rg2 ?_)
  | (with_reducible refine' go_Rg2K ?_)
  | (with_reducible refine' go_rg1 ?_)
  | (with_reducible refine' go_Rg1K ?_)
  | ((with_reducible refine' go_ListRK ?h ?_); (case h => omega); intro p H1 n1)
  | (with_reducible refine' go_enum ?_)
  | ((with_reducible refine' go_EnumL ?h ?_); (case h => walk_at "h"))
  | (with_reducible refine' go_isX ?_)
  | (with_reducible refine' go_isXt ?_)
  | (with_reducible refine' go_din ?_)
  | (with_reducible refine' go_dnotin ?_)
  | ((with_reducible refine' go_DInI ?h ?_); (case h => walk_at "h"))
  | ((with_reducible refine' go_DNotInI ?h ?_); (case h => walk_at "h"))
  | (with_reducible refine' go_dget2 ?_)
  | ((with_reducible refine' go_DGet2K ?h ?_); (case h => walk_at "h"))
  | (with_reducible refine' go_dpop1 ?_)
  | ((with_reducible refine' go_eqDE ?h ?k ?_); (case h => walk_at "h"); (case k => walk_at "h"))
  | ((with_reducible refine' go_neDE ?h ?k ?_); (case h => walk_at "h"); (case k => walk_at "h"))
  | (with_reducible refine' go_chain3 ?_)
  | (with_reducible refine' go_LinkT ?_)
  | (with_reducible refine' go_LinkF ?_)
  | (with_reducible refine' go_Link2T ?_)
  | (with_reducible refine' go_Link2F ?_)
  | (with_reducible refine' go_gSl ?_)
  | ((with_reducible refine' go_insert ?h ?k ?l ?m ?_); (case h => walk_at "h"); (case k => walk_at "z"); (case l => omega); (case m => omega); intro H1 n1)
  | (with_reducible refine' go_gCons ?_))
local macro_rules | `(tactic| walk_at "pf") => `(tactic| first
  | exact putF_nil
  | exact putF_hit
  | (refine' putF_miss ?h ?k; (case h => decide +kernel); (case k => walk_at "pf")))
local macro_rules | `(tactic| walk_at "pk") => `(tactic| first
  | exact putK_nil
  | exact putK_hit (by (simp only [List.map_cons, List.map_nil]; decide +kernel))
  | (refine' putK_miss ?h ?k; (case h => decide +kernel); (case k => walk_at "pk")))
local macro_rules | `(tactic| walk_at "ix") => `(tactic| first
  | assumption
  | omega
  | (simp only [List.length_cons, List.length_nil, List.length_append, List.length_map, List.length_range, List.length_replicate, List.length_set] at *; omega))
local macro_rules | `(tactic| walk_at "pr") => `(tactic| first
  | assumption
  | decide
  | omega
  | exact rfl
  | (intro z; cases z; done))
local macro_rules | `(tactic| walk_at "hk") => `(tactic| first
  | assumption
  | exact seq' (by assumption) (by walk_at "sm"))
local macro_rules | `(tactic| walk_at "ty") => `(tactic| first
  | exact rfl
  | assumption
  | exact tyN_L (by walk_at "h")
  | exact tyN_T (by walk_at "h")
  | exact tyN_D (by walk_at "h"))
local macro_rules | `(tactic| walk_at "go") => `(tactic| repeat (walk_at "s"))
section
variable {K : PySem.W.Frag} {a : Ac} {H : Hp} {Q : VK} {E : XK} [F : Fc K a] {w cs : List Nat} {ws : List (List Nat)} {p r : Addr} {x : V} {n : String} {vs : List V} {pt : Pt} {ps : List Pt}
omit F in
theorem psp_low {s : Nat} : ∀ (cs acc : List Nat), Low acc → Low cs → ∀ z ∈ psp s acc cs, Low z
  | [], acc, h, _ => fun z hz => by rw [List.mem_singleton.mp hz]; exact h
  | c :: cs, acc, h, k => fun z hz => by
    unfold psp at hz
    have kc : Low cs := fun x hx => k x (List.mem_cons_of_mem _ hx)
    split at hz
    · rcases List.mem_cons.mp hz with rfl | hz
      · exact h
      · exact psp_low cs [] (fun x hx => absurd hx List.not_mem_nil) kc z hz
    · refine psp_low cs _ (fun x hx => ?_) kc z hz
      rcases List.mem_append.mp hx with hx | hx
      · exact h x hx
      · rw [List.mem_singleton.mp hx]; exact k c List.mem_cons_self
omit F in
theorem psp_count {s : Nat} : ∀ (cs acc : List Nat), (psp s acc cs).length ≤ cs.length + 1
  | [], acc => by simp [psp]
  | c :: cs, acc => by
    unfold psp
    split
    · have := psp_count (s := s) cs []
      simp; omega
    · have := psp_count (s := s) cs (acc ++ [c])
      simp; omega
theorem p_numbers_of (hl : w.length ≤ 900) (q : ∀ D H', (psp 44 [] w).all okNum = true → Same H H' → H D = none → H' D = some (.lst (((psp 44 [] w).map NumText.digitsVal).map fun k : Nat => V.int k)) → Q (.ref D) H')
    (e : (psp 44 [] w).all okNum = false → ∀ H', Same H H' → E (.ref a.BadOrder) none H') : sp_numbers_of K a [.str (tx w)] H Q E := by
  refine in_numbers_of ?_
  unfold t_numbers_of tLcX
  have e44 : Str.ofString "," = tx [44] := by decide +kernel
  rw [e44]
  walk_at "go"
  refine go_splitS (by omega) (by omega) fun p H1 n1 => ?_
  have cnt := psp_count (s := 44) w []
  have len := psp_len (s := 44) w []
  generalize psp 44 [] w = ws at *
  walk_at "go"
  refine lc_genL (fun D acc H' => acc = ((ws.take acc.length).map fun w => V.int (NumText.digitsVal w : Nat)) ∧ ∀ w ∈ ws.take acc.length, okNum w = true) n1.at (by rw [sizeLine_eq, List.length_map]; omega) (fun D acc H' H'' h _ => h) (fun D H' _ _ => ⟨rfl, by simp⟩) ?_ ?_
  · rintro D acc i x H' Q' hD hx hl2 s hd ⟨e1, e2⟩ k
    rw [List.getElem?_map] at hx
    obtain ⟨z, hz, rfl⟩ := Option.map_eq_some_iff.mp hx
    have lz := len z (List.mem_of_getElem? hz)
    simp only [List.set_cons_zero, List.set_cons_succ, tv]
    walk_at "go"
    refine p_number_of (by simp at lz; omega) (fun ok => ?_) (fun no => ?_)
    · refine k _ _ (Same.refl _) ⟨?_, ?_⟩
      · rw [List.length_append, List.length_singleton, hl2, take_succ_of hz, List.map_append, ← hl2, ← e1]; rfl
      · rw [List.length_append, List.length_singleton, hl2, take_succ_of hz]
        intro y hy
        rcases List.mem_append.mp hy with hy | hy
        · exact e2 y (by rw [hl2]; exact hy)
        · rw [List.mem_singleton.mp hy]; exact ok
    · walk_at "go"
      refine e ?_ H' (n1.same.trans s)
      rw [Bool.eq_false_iff]
      intro y
      have := List.all_eq_true.mp y z (List.mem_of_getElem? hz)
      rw [no] at this; cases this
  · rintro D acc H2 hD s hl2 ⟨e1, e2⟩ hd
    rw [List.length_map] at hl2
    rw [hl2, List.take_length] at e1 e2
    walk_at "go"
    refine q D H2 (List.all_eq_true.mpr e2) (n1.same.trans s) (n1.same.free hD) ?_
    rw [hd, e1, List.map_map]; rfl
/-! parts -/
def Ok : Pt → Prop
  | .t cs => cs.length ≤ 9 ∧ Low cs
  | .n k => k < 10 ^ 9
  | .l ns => ns.length ≤ 9 ∧ ∀ k ∈ ns, k < 10 ^ 9
def PAt (H : Hp) (x : V) : Pt → Prop
  | .t cs => x = .str (tx cs)
  | .n k => x = .int k
  | .l ns => ∃ p, x = .ref p ∧ H p = some (.lst (ns.map fun k : Nat => V.int k))
omit F in
theorem PAt.same {H H' : Hp} (h : PAt H x pt) (s : Same H H') : PAt H' x pt := by
  cases pt with
  | t cs => exact h
  | n k => exact h
  | l ns =>
    obtain ⟨p, rfl, e⟩ := h
    exact ⟨p, rfl, s _ _ e⟩
omit F in
theorem numL_len9 {k : Nat} (h : k < 10 ^ 9) : (TL.numL k).length ≤ 9 := TL.numL_len (by omega) h
omit F in
theorem wordP_len (h : Ok pt) : (wordP pt).length ≤ 100 := by
  cases pt with
  | t cs => have := h.1; show cs.length ≤ 100; omega
  | n k => have := numL_len9 h; show (TL.numL k).length ≤ 100; omega
  | l ns =>
    show (jns 44 (ns.map TL.numL)).length ≤ 100
    have h1 := jns_len (s := 44) (ps := ns.map TL.numL)
    have h2 : ((ns.map TL.numL).map List.length).sum ≤ 9 * ns.length := by
      have all := h.2
      clear h h1
      induction ns with
      | nil => simp
      | cons k r ih =>
        have := numL_len9 (all k List.mem_cons_self)
        have := ih fun y hy => all y (List.mem_cons_of_mem _ hy)
        rw [List.map_cons, List.map_cons, List.sum_cons, List.length_cons]; omega
    have := h.1
    rw [List.length_map] at h1
    split at h1 <;> omega
theorem p_word_for (h : PAt H x pt) (ok : Ok pt) (q : ∀ H', Same H H' → Q (.str (tx (wordP pt))) H') : sp_word_for K a [x] H Q E := by
  refine in_word_for ?_
  unfold t_word_for
  have e44 : Str.ofString "," = tx [44] := by decide +kernel
  rw [e44]
  cases pt with
  | t cs =>
    obtain rfl : x = .str (tx cs) := h
    walk_at "go"
    refine go_strS ?_
    walk_at "go"
    exact q _ (Same.refl _)
  | n k =>
    obtain rfl : x = .int k := h
    walk_at "go"
    refine go_strN (by have : k < 10 ^ 9 := ok; omega) ?_
    walk_at "go"
    exact q _ (Same.refl _)
  | l ns =>
    obtain ⟨p, rfl, e⟩ := h
    walk_at "go"
    refine lc_mapL (f := fun v => match v with | .int k => tv (TL.numL k.toNat) | v => v) e (by rw [sizeLine_eq, List.length_map]; have := ok.1; omega) (fun i y H' Q' hy s k => ?_) fun D H2 hD s hd => ?_
    · rw [List.getElem?_map] at hy
      obtain ⟨z, hz, rfl⟩ := Option.map_eq_some_iff.mp hy
      simp only [List.set_cons_zero, List.set_cons_succ]
      walk_at "go"
      refine go_strN (by have := ok.2 z (List.mem_of_getElem? hz); omega) ?_
      exact k _ (Same.refl _)
    · have hd' : H2 D = some (.lst ((ns.map TL.numL).map tv)) := by
        rw [hd, List.map_map, List.map_map]; rfl
      have wl := wordP_len ok
      walk_at "go"
      refine go_joinS hd' (by show (wordP (.l ns)).length ≤ 1000; omega) (by rw [List.length_map]; have := ok.1; omega) ?_
      walk_at "go"
      exact q _ s
/-! orders -/
def OAt (H : Hp) (r : Addr) (ps : List Pt) : Prop := ∃ vs, H r = some (.tup vs) ∧ vs.length = ps.length ∧ ∀ (i : Nat) (v : V) (p : Pt), vs[i]? = some v → ps[i]? = some p → PAt H v p
omit F in
theorem OAt.same {H H' : Hp} (h : OAt H r ps) (s : Same H H') : OAt H' r ps := by
  obtain ⟨vs, e, l, k⟩ := h
  exact ⟨vs, s _ _ e, l, fun i v p h1 h2 => (k i v p h1 h2).same s⟩
def lineP (ps : List Pt) : List Nat := jns 32 (ps.map wordP)
omit F in
theorem jns_snoc {s : Nat} {y : List Nat} : ∀ {xs : List (List Nat)}, xs ≠ [] → jns s (xs ++ [y]) = jns s xs ++ s :: y
  | [], h => absurd rfl h
  | [x], _ => rfl
  | x :: z :: r, _ => by
    have ih := jns_snoc (s := s) (y := y) (xs := z :: r) (by simp)
    show x ++ s :: jns s (z :: r ++ [y]) = _
    rw [ih]
    show _ = (x ++ s :: jns s (z :: r)) ++ s :: y
    simp
omit F in
theorem lineP_len (h : ∀ p ∈ ps, Ok p) (hl : ps.length ≤ 4) : (lineP ps).length ≤ 410 := by
  have h1 := jns_len (s := 32) (ps := ps.map wordP)
  have h2 : ((ps.map wordP).map List.length).sum ≤ 100 * ps.length := by
    clear h1 hl
    induction ps with
    | nil => simp
    | cons k r ih =>
      have := wordP_len (h k List.mem_cons_self)
      have := ih fun y hy => h y (List.mem_cons_of_mem _ hy)
      rw [List.map_cons, List.map_cons, List.sum_cons, List.length_cons]; omega
  rw [List.length_map] at h1
  show (jns 32 (ps.map wordP)).length ≤ 410
  split at h1 <;> omega
theorem p_line_of (h : OAt H r ps) (ok : ∀ p ∈ ps, Ok p) (hl : ps.length ≤ 4) (q : ∀ H', Same H H' → Q (.str (tx (lineP ps))) H') : sp_line_of K a [.ref r] H Q E := by
  obtain ⟨vs, er, lv, at_⟩ := h
  refine in_line_of ?_
  unfold t_line_of
  have e32 : Str.ofString " " = tx [32] := by decide +kernel
  rw [e32]
  walk_at "go"
  refine lc_genT (fun D acc H' => acc = (ps.take acc.length).map fun p => tv (wordP p)) er (by rw [sizeLine_eq]; omega) (fun D acc H' H'' h _ => h) (fun D H' _ _ => rfl) ?_ ?_
  · rintro D acc i x H' Q' hD hx hl2 s hd e1 k
    have hi := (List.getElem?_eq_some_iff.mp hx).1
    have hp : ps[i]? = some (ps[i]'(by omega)) := List.getElem?_eq_getElem (by omega)
    simp only [List.set_cons_zero, List.set_cons_succ]
    walk_at "go"
    refine p_word_for ((at_ i x _ hx hp).same s) (ok _ (List.mem_of_getElem? hp)) fun H'' s2 => ?_
    refine k _ _ s2 ?_
    rw [List.length_append, List.length_singleton, hl2, take_succ_of hp, List.map_append]
    rw [hl2] at e1
    exact congrArg (· ++ [V.str (tx (wordP (ps[i]'(by omega))))]) e1
  · rintro D acc H2 hD s hl2 e1 hd
    rw [hl2, lv, List.take_length] at e1
    have hd' : H2 D = some (.lst ((ps.map wordP).map tv)) := by
      rw [hd, e1, List.map_map]; rfl
    have ll := lineP_len ok hl
    walk_at "go"
    refine go_joinS hd' (by show (lineP ps).length ≤ 1000; omega) (by rw [List.length_map]; omega) ?_
    walk_at "go"
    exact q _ s
end

end Bk

namespace Bk
open PySem L2 PyProof.Rows
/-! our own short tactics: h: what stands at a place; ne: two places; sm: what stood stands; z: a size; s: a step; go: steps -/
local macro_rules | `(tactic| walk_at "h") => `(tactic| first
  | assumption
  | exact New.at (by assumption)
  | exact Wr.at (by assumption)
  | (refine' New.old (by assumption) ?_; walk_at "h")
  | (refine' Same.at (by assumption) ?_; walk_at "h")
  | (refine' Wr.old (by assumption) ?_ ?_; walk_at "ne"; walk_at "h")
  | (refine' Chg.at (by assumption) ?_ ?_; walk_at "ni"; walk_at "h"))
local macro_rules | `(tactic| walk_at "ni") => `(tactic| first
  | exact ni_nil
  | assumption
  | (refine' ni_cons ?_ ?_; walk_at "ne"; walk_at "ni"))
local macro_rules | `(tactic| walk_at "ne") => `(tactic| first
  | assumption
  | exact Ne.symm (by assumption)
  | exact New.ne (by assumption) (by walk_at "h")
  | exact ne_none (by assumption) (by walk_at "h")
  | exact Ne.symm (ne_none (by assumption) (by walk_at "h"))
  | exact Ne.symm (New.ne (by assumption) (by walk_at "h")))
local macro_rules | `(tactic| walk_at "sm") => `(tactic| first
  | exact Same.refl _
  | assumption
  | (refine' Same.trans ?_ (New.same (by assumption)); walk_at "sm")
  | (refine' Same.trans ?_ (by assumption : Same _ _); walk_at "sm"))
local macro_rules | `(tactic| walk_at "z") => `(tactic| first
  | assumption
  | (rw [PySem.sizeLine_eq]; omega)
  | (rw [PySem.sizeLine_eq]; simp only [List.length_cons, List.length_nil, List.length_append, List.length_map, List.length_range, List.length_replicate, len_cut]; omega)
  | (rw [PySem.sizeLine_eq]; simp only [List.length_cons, List.length_nil, List.length_append, List.length_map, List.length_range, List.length_replicate, len_cut] at *; omega))
local macro_rules | `(tactic| walk_at "s") => `(tactic| first
  | ((with_reducible refine' go_var ?h ?_); (case h => exact rfl))
  | (with_reducible refine' go_c ?_)
  | (with_reducible refine' go_op ?_)
  | (with_reducible refine' go_un ?_)
  | (with_reducible refine' go_rU ?_)
  | (with_reducible refine' go_seq ?_)
  | (with_reducible refine' go_ret ?_)
  | (with_reducible refine' go_retN ?_)
  | (with_reducible refine' go_next ?_)
  | (with_reducible refine' go_drop ?_)
  | (with_reducible refine' go_asg ?_)
  | ((with_reducible refine' go_name2 ?h ?_); (case h => (simp only [List.set_cons_zero, List.set_cons_succ]; exact rfl)))
  | ((with_reducible refine' go_name2 ?h ?_); (case h => exact rfl))
  | (with_reducible refine' go_ifS ?_)
  | (with_reducible refine' go_blk ?_)
  | (with_reducible refine' go_test ?_)
  | (with_reducible refine' go_tB ?_)
  | (with_reducible refine' go_and ?_)
  | (with_reducible refine' go_or ?_)
  | (with_reducible refine' go_not ?_)
  | (with_reducible refine' go_andV ?_)
  | (with_reducible refine' go_orV ?_)
  | (with_reducible refine' go_notV ?_)
  | (with_reducible refine' go_if ?_)
  | (with_reducible refine' go_chain ?_)
  | (with_reducible refine' iteT ?_)
  | (with_reducible refine' iteF ?_)
  | ((with_reducible refine' go_Td ?h ?_); (case h => walk_at "pr"))
  | ((with_reducible refine' go_Fd ?h ?_); (case h => walk_at "pr"))
  | ((with_reducible refine' go_Tn ?h ?_); (case h => walk_at "pr"))
  | ((with_reducible refine' go_Fn ?h ?_); (case h => walk_at "pr"))
  | ((with_reducible refine' go_T ?h ?_); (case h => (first | decide | assumption | exact rfl)))
  | ((with_reducible refine' go_F ?h ?_); (case h => (first | decide | assumption | exact rfl)))
  | (with_reducible refine' go_nil ?_)
  | (with_reducible refine' go_cons ?_)
  | (with_reducible refine' go_tLst ?_)
  | (with_reducible refine' go_tTup ?_)
  | ((with_reducible refine' go_LstK ?h ?_); (case h => walk_at "z"); intro p H1 n1)
  | ((with_reducible refine' go_TupK ?h ?_); (case h => walk_at "z"); intro p H1 n1)
  | (with_reducible refine' go_addI ?_)
  | ((with_reducible refine' go_addL ?h ?k ?z ?_); (case h => walk_at "h"); (case k => walk_at "h"); (case z => walk_at "z"); intro p H1 n1)
  | (with_reducible refine' go_sub ?_)
  | ((with_reducible refine' go_mulI ?h ?_); (case h => (unfold CMul; omega)))
  | ((with_reducible refine' go_mulL ?h ?k ?_); (case h => walk_at "h"); (case k => (refine ⟨by omega, by omega, ?_⟩; walk_at "z")); intro p H1 n1)
  | ((with_reducible refine' go_div ?h ?_); (case h => (unfold CDiv; omega)))
  | ((with_reducible refine' go_mod ?h ?_); (case h => omega))
  | (with_reducible refine' go_p109 ?_)
  | (with_reducible refine' go_p1020 ?_)
  | ((with_reducible refine' go_pow ?h ?_); (case h => (unfold CPow; omega)))
  | (with_reducible refine' go_lt ?_)
  | (with_reducible refine' go_le ?_)
  | (with_reducible refine' go_gt ?_)
  | (with_reducible refine' go_ge ?_)
  | (with_reducible refine' go_eqI ?_)
  | (with_reducible refine' go_eqB ?_)
  | (with_reducible refine' go_eqS ?_)
  | (with_reducible refine' go_neI ?_)
  | (with_reducible refine' go_neB ?_)
  | (with_reducible refine' go_neS ?_)
  | (with_reducible refine' go_isN ?_)
  | (with_reducible refine' go_isNotN ?_)
  | (with_reducible refine' go_isB ?_)
  | (with_reducible refine' go_isNotB ?_)
  | (with_reducible refine' go_sl ?_)
  | (with_reducible refine' go_noPart ?_)
  | (with_reducible refine' go_part ?_)
  | (with_reducible refine' go_intK ?_)
  | ((with_reducible refine' go_slL ?h ?_); (case h => walk_at "h"); intro p H1 n1)
  | ((with_reducible refine' go_ixL ?h ?k ?_); (case h => walk_at "h"); (case k => exact rfl))
  | ((with_reducible refine' go_ixT ?h ?k ?_); (case h => walk_at "h"); (case k => exact rfl))
  | ((with_reducible refine' go_slW ?h ?_); (case h => walk_at "h"))
  | (with_reducible refine' go_bm ?_)
  | (with_reducible refine' go_bm0 ?_)
  | ((with_reducible refine' go_bmL ?h ?_); (case h => walk_at "h"))
  | ((with_reducible refine' go_append ?h ?k ?_); (case h => walk_at "h"); (case k => walk_at "z"); intro H1 n1)
  | ((with_reducible refine' go_extend ?h ?k ?z ?_); (case h => walk_at "h"); (case k => walk_at "h"); (case z => walk_at "z"); intro H1 n1)
  | ((with_reducible refine' go_clear ?h ?_); (case h => walk_at "h"); intro H1 n1)
  | ((with_reducible refine' go_dnew ?_); intro p H1 n1)
  | (with_reducible refine' go_cb ?_)
  | (with_reducible refine' go_callS ?_)
  | (with_reducible refine' go_call0 ?_)
  | ((with_reducible refine' go_lenL ?h ?_); (case h => walk_at "h"))
  | ((with_reducible refine' go_lenT ?h ?_); (case h => walk_at "h"))
  | ((with_reducible refine' go_lenK ?h ?_); (case h => walk_at "hk"))
  | ((with_reducible refine' go_listL ?h ?_); (case h => walk_at "h"); intro p H1 n1)
  | ((with_reducible refine' go_listT ?h ?_); (case h => walk_at "h"); intro p H1 n1)
  | ((with_reducible refine' go_tupleL ?h ?_); (case h => walk_at "h"); intro p H1 n1)
  | (with_reducible refine' go_intI ?_)
  | (with_reducible refine' go_intB ?_)
  | (with_reducible refine' go_abs ?_)
  | (with_reducible refine' go_min2 ?_)
  | (with_reducible refine' go_max2 ?_)
  | ((with_reducible refine' go_isi ?h ?k ?_); (case h => walk_at "ty"); (case k => exact kit_bb (by decide) (by decide)))
  | (with_reducible refine' go_lc ?_)
  | (with_reducible refine' go_for ?_)
  | (with_reducible refine' go_seqP ?_)
  | ((with_reducible refine' go_seqL ?h ?_); (case h => walk_at "h"))
  | ((with_reducible refine' go_seqT ?h ?_); (case h => walk_at "h"))
  | (with_reducible refine' go_seqS ?_)
  | (with_reducible refine' go_rng1 ?_)
  | (with_reducible refine' go_rng2 ?_)
  | ((with_reducible refine' go_rng1K ?h ?_); (case h => omega))
  | ((with_reducible refine' go_rng2K ?h ?_); (case h => omega))
  | (with_reducible refine' go_raise ?_)
  | ((with_reducible refine' go_tupG ?h ?k ?_); (case h => walk_at "h"); (case k => exact rfl))
  | ((with_reducible refine' go_lstG ?h ?k ?_); (case h => walk_at "h"); (case k => exact rfl))
  | (with_reducible refine' go_gNil ?_)
  | (with_reducible refine' go_tryAs ?_)
  | (with_reducible refine' go_tryMany1 ?_)
  | (with_reducible refine' go_tryMany2 ?_)
  | (with_reducible refine' go_WM ?_)
  | ((with_reducible refine' go_asT ?_); intro e he)
  | (with_reducible refine' go_asF ?_)
  | ((with_reducible refine' go_manyT ?_); intro e he)
  | (with_reducible refine' go_manyF ?_)
  | (with_reducible refine' go_manyN ?_)
  | (with_reducible refine' go_fld ?_)
  | ((with_reducible refine' go_FldK ?h ?c ?n ?l ?_); (case h => walk_at "h"); (case c => infer_instance); (case n => infer_instance); (case l => exact rfl))
  | (with_reducible refine' go_sfld ?_)
  | ((with_reducible refine' go_SFldK ?h ?c ?n ?l ?e ?_); (case h => walk_at "h"); (case c => infer_instance); (case n => infer_instance); (case l => exact Nat.le_of_ble_eq_true rfl); (case e => walk_at "pf"); intro H1 n1)
  | (with_reducible refine' go_meth ?_)
  | ((with_reducible refine' go_MethK 0 ?h ?l ?e ?_); (case h => walk_at "h"); (case l => exact rfl); (case e => exact rfl))
  | ((with_reducible refine' go_MethK 1 ?h ?l ?e ?_); (case h => walk_at "h"); (case l => exact rfl); (case e => exact rfl))
  | ((with_reducible refine' go_MethK 2 ?h ?l ?e ?_); (case h => walk_at "h"); (case l => exact rfl); (case e => exact rfl))
  | (with_reducible refine' go_make ?_)
  | (with_reducible refine' go_callX ?_)
  | (with_reducible refine' go_methX ?_)
  | ((with_reducible refine' go_MethXK ?h ?l ?_); (case h => walk_at "h"); (case l => exact rfl))
  | (with_reducible refine' go_dget ?_)
  | ((with_reducible refine' go_DGetS ?h ?l ?_); (case h => walk_at "h"); (case l => exact rfl))
  | (with_reducible refine' go_dput ?_)
  | ((with_reducible refine' go_DPutS ?h ?l ?e ?_); (case h => walk_at "h"); (case l => exact Nat.le_of_ble_eq_true rfl); (case e => walk_at "pk"); intro H1 n1)
  | ((with_reducible refine' go_disp ?_); intro p H1 n1)
  | (with_reducible refine' go_pairs ?_)
  | (with_reducible refine' go_pairs0 ?_)
  | ((with_reducible refine' go_DispS ?h ?e ?l ?k ?j ?m ?_); (case h => walk_at "h"); (case e => exact rfl); (case l => exact Nat.le_of_ble_eq_true rfl); (case k => (simp only [unS]; exact rfl)); (case j => (simp only [List.map_cons, List.map_nil]; exact rfl)); (case m => decide +kernel); intro H1 n1)
  | (with_reducible refine' go_par ?_)
  | ((with_reducible refine' go_ParK ?h ?_); (case h => (simp only [List.set_cons_zero, List.set_cons_succ]; exact rfl)))
  | (with_reducible refine' go_sub_ ?_)
  | ((with_reducible refine' go_setLi ?h ?k ?_); (case h => walk_at "h"); (case k => walk_at "ix"); intro H1 n1)
  | (with_reducible refine' go_listY ?_)
  | ((with_reducible refine' go_listYL ?h ?_); (case h => walk_at "h"))
  | (with_reducible refine' go_bmS ?_)
  | (with_reducible refine' go_ckw ?_)
  | ((with_reducible refine' go_maxD ?h ?_); (case h => walk_at "h"))
  | (with_reducible refine' go_listR ?_)
  | (with_reducible refine' go_rg2 ?_)
  | (with_reducible refine' go_Rg2K ?_)
  | (with_reducible refine' go_rg1 ?_)
  | (with_reducible refine' go_Rg1K ?_)
  | ((with_reducible refine' go_ListRK ?h ?_); (case h => omega); intro p H1 n1)
  | (with_reducible refine' go_enum ?_)
  | ((with_reducible refine' go_EnumL ?h ?_); (case h => walk_at "h"))
  | (with_reducible refine' go_isX ?_)
  | (with_reducible refine' go_isXt ?_)
  | (with_reducible refine' go_din ?_)
  | (with_reducible refine' go_dnotin ?_)
  | ((with_reducible refine' go_DInI ?h ?_); (case h => walk_at "h"))
  | ((with_reducible refine' go_DNotInI ?h ?_); (case h => walk_at "h"))
  | (with_reducible refine' go_dget2 ?_)
  | ((with_reducible refine' go_DGet2K ?h ?_); (case h => walk_at "h"))
  | (with_reducible refine' go_dpop1 ?_)
  | ((with_reducible refine' go_eqDE ?h ?k ?_); (case h => walk_at "h"); (case k => walk_at "h"))
  | ((with_reducible refine' go_neDE ?h ?k ?_); (case h => walk_at "h"); (case k => walk_at "h"))
  | (with_reducible refine' go_chain3 ?_)
  | (with_reducible refine' go_LinkT ?_)
  | (with_reducible refine' go_LinkF ?_)
  | (with_reducible refine' go_Link2T ?_)
  | (with_reducible refine' go_Link2F ?_)
  | (with_reducible refine' go_gSl ?_)
  | ((with_reducible refine' go_insert ?h ?k ?l ?m ?_); (case h => walk_at "h"); (case k => walk_at "z"); (case l => omega); (case m => omega); intro H1 n1)
  | (with_reducible refine' go_gCons ?_))
local macro_rules | `(tactic| walk_at "pf") => `(tactic| first
  | exact putF_nil
  | exact putF_hit
  | (refine' putF_miss ?h ?k; (case h => decide +kernel); (case k => walk_at "pf")))
local macro_rules | `(tactic| walk_at "pk") => `(tactic| first
  | exact putK_nil
  | exact putK_hit (by (simp only [List.map_cons, List.map_nil]; decide +kernel))
  | (refine' putK_miss ?h ?k; (case h => decide +kernel); (case k => walk_at "pk")))
local macro_rules | `(tactic| walk_at "ix") => `(tactic| first
  | assumption
  | omega
  | (simp only [List.length_cons, List.length_nil, List.length_append, List.length_map, List.length_range, List.length_replicate, List.length_set] at *; omega))
local macro_rules | `(tactic| walk_at "pr") => `(tactic| first
  | assumption
  | decide
  | omega
  | exact rfl
  | (intro z; cases z; done))
local macro_rules | `(tactic| walk_at "hk") => `(tactic| first
  | assumption
  | exact seq' (by assumption) (by walk_at "sm"))
local macro_rules | `(tactic| walk_at "ty") => `(tactic| first
  | exact rfl
  | assumption
  | exact tyN_L (by walk_at "h")
  | exact tyN_T (by walk_at "h")
  | exact tyN_D (by walk_at "h"))
local macro_rules | `(tactic| walk_at "go") => `(tactic| repeat (walk_at "s"))
section
variable {K : PySem.W.Frag} {a : Ac} {H : Hp} {Q : VK} {E : XK} [F : Fc K a] {w w0 cs : List Nat} {ws zs : List (List Nat)} {p r T : Addr} {x : V} {n : String} {vs : List V} {pt : Pt} {ps : List Pt}
def AllP (H : Hp) : List V → List Pt → Prop
  | [], [] => True
  | v :: vs, p :: ps => PAt H v p ∧ AllP H vs ps
  | _, _ => False
omit F in
theorem AllP.at : ∀ {vs : List V} {ps : List Pt}, AllP H vs ps → vs.length = ps.length ∧ ∀ (i : Nat) (v : V) (p : Pt), vs[i]? = some v → ps[i]? = some p → PAt H v p
  | [], [], _ => ⟨rfl, fun i v p h => by simp at h⟩
  | v :: vs, p :: ps, h => by
    obtain ⟨l, k⟩ := AllP.at h.2
    refine ⟨by simp [l], fun i => ?_⟩
    cases i with
    | zero => intro v' p' h1 h2; cases h1; cases h2; exact h.1
    | succ i => intro v' p' h1 h2; exact k i v' p' h1 h2
  | [], _ :: _, h => h.elim
  | _ :: _, [], h => h.elim
omit F in
theorem oat_of (e : H T = some (.tup vs)) (h : AllP H vs ps) : OAt H T ps := ⟨vs, e, h.at.1, h.at.2⟩
omit F in
theorem inV_tv : inV (.str (tx w)) (zs.map tv) = decide (w ∈ zs) := by
  unfold inV
  induction zs with
  | nil => rfl
  | cons z zs ih =>
    rw [List.map_cons, List.any_cons, ih]
    show ((tx z == tx w) || _) = _
    by_cases c : z = w
    · subst c; simp
    · have : ¬ w = z := fun y => c y.symm
      have h : (tx z == tx w) = false := by
        rw [Bool.eq_false_iff]; intro y
        exact c (tx_inj.mp (by simpa using y))
      simp [h, this]
omit F in
theorem flat_tv : (zs.map tv).all flatV = true := List.all_eq_true.mpr fun y hy => by
  obtain ⟨b, _, rfl⟩ := List.mem_map.mp hy
  rfl
omit F in
theorem go_inTs {b : Addr} (h : H b = some (.tup (zs.map tv))) (q : Q (.bl (decide (w ∈ zs))) H) : rInP K (.str (tx w)) (.ref b) H Q :=
  .inl ⟨b, _, rfl, .inr (SqT.of h), rfl, flat_tv, by rw [inV_tv]; exact q⟩
omit F in
theorem go_inLs {b : Addr} (h : H b = some (.lst (zs.map tv))) (q : Q (.bl (decide (w ∈ zs))) H) : rInP K (.str (tx w)) (.ref b) H Q :=
  .inl ⟨b, _, rfl, .inl (SqL.of h), rfl, flat_tv, by rw [inV_tv]; exact q⟩
omit F in
theorem go_notInLs {b : Addr} (h : H b = some (.lst (zs.map tv))) (q : Q (.bl (!decide (w ∈ zs))) H) : rNotInP K (.str (tx w)) (.ref b) H Q :=
  .inl ⟨b, _, rfl, .inl (SqL.of h), rfl, flat_tv, by rw [inV_tv]; exact q⟩
omit F in
theorem rd_n : rd .n w = if okNum w then some (.n (NumText.digitsVal w)) else none := by
  show (numOf w).map Pt.n = _
  unfold numOf
  split <;> rfl
omit F in
theorem go_eqTxT (q : Q (.bl true) H) : rEqP K (.str (tx w)) (.str (tx w)) H Q := go_eqTx (by rw [decide_eq_true rfl]; exact q)
omit F in
theorem go_eqTxF (h : w ≠ w0) (q : Q (.bl false) H) : rEqP K (.str (tx w)) (.str (tx w0)) H Q := go_eqTx (by rw [decide_eq_false h]; exact q)
omit F in
theorem k_stop : kinds (tx0 "stop") = some [.n] := by decide +kernel
omit F in
theorem k_cut : kinds (tx0 "cut") = some [.p, .n] := by decide +kernel
omit F in
theorem k_put : kinds (tx0 "put") = some [.p, .n, .l] := by decide +kernel
omit F in
theorem k_words : kinds (tx0 "words") = some [.p, .n, .n] := by decide +kernel
theorem p_with_numbers (er : H p = some (.lst ((w0 :: ws).map tv))) (hw : w0 ∈ [tx0 "put", tx0 "cut", tx0 "words", tx0 "stop"]) (hl : ∀ w ∈ ws, w.length ≤ 900) (hz : ws.length ≤ 900)
    (q : ∀ ks ps, kinds w0 = some ks → ks.length = ws.length → rdAll ks ws = some ps → ∀ T H', Same H H' → OAt H' T (.t w0 :: ps) → Q (.ref T) H')
    (e : ∀ ks, kinds w0 = some ks → (ks.length = ws.length → rdAll ks ws = none) → ∀ H', Same H H' → E (.ref a.BadOrder) none H') : sp_with_numbers K a [.ref p] H Q E := by
  have ln : (((w0 :: ws).map tv).length : Int) = ws.length + 1 := by simp
  have nope : ∀ ks, kinds w0 = some ks → (ks.length = ws.length → rdAll ks ws = none) → ∀ H', Same H H' → E (.ref a.BadOrder) none H' := e
  refine in_with_numbers ?_
  unfold t_with_numbers
  simp only [tx0_eq]
  simp only [List.mem_cons, List.not_mem_nil, or_false] at hw
  walk_at "go"
  refine go_ixAt er (by omega) rfl ?_
  walk_at "go"
  rcases hw with rfl | rfl | rfl | rfl
  · refine go_eqTxF (by decide +kernel) ?_
    walk_at "go"
    refine go_ixAt er (by omega) rfl ?_
    walk_at "go"
    refine go_eqTxF (by decide +kernel) ?_
    walk_at "go"
    rw [ln]
    refine p_need_order (fun z => ?_) (fun z => ?_)
    rotate_left
    · walk_at "go"
      refine e _ k_put (fun y => ?_) _ (Same.refl _)
      have z := of_decide_eq_false z
      have y : 3 = ws.length := y
      omega
    have z := of_decide_eq_true z
    obtain ⟨w1, w2, w3, rfl⟩ : ∃ w1 w2 w3, ws = [w1, w2, w3] := by
      match ws, z with
      | [w1, w2, w3], _ => exact ⟨w1, w2, w3, rfl⟩
      | [], z => simp at z
      | [_], z => simp at z
      | [_, _], z => simp at z
      | _ :: _ :: _ :: _ :: _, z => simp at z; omega
    walk_at "go"
    refine go_eqTxT ?_
    walk_at "go"
    refine p_number_of (by have := hl w2 (by simp); omega) (fun ok2 => ?_) (fun no => ?_)
    rotate_left
    · walk_at "go"
      refine e _ k_put (fun y => ?_) _ (Same.refl _)
      simp [rdAll, numOf, no, rd]
    walk_at "go"
    refine p_numbers_of (by have := hl w3 (by simp); omega) (fun D H1 ok3 s1 nD eD => ?_) (fun no H1 s1 => ?_)
    rotate_left
    · walk_at "go"
      refine e _ k_put (fun y => ?_) _ s1
      simp [rdAll, numOf, no, rd, ok2]
    walk_at "go"
    rename_i T H2 n2
    refine q _ [.t w1, .n (NumText.digitsVal w2), .l ((psp 44 [] w3).map NumText.digitsVal)] k_put rfl ?_ T H2 (s1.trans n2.same) (oat_of n2.at ⟨rfl, rfl, rfl, ⟨D, rfl, n2.old eD⟩, trivial⟩)
    simp [rdAll, numOf, rd, ok2, ok3]
  · refine go_eqTxF (by decide +kernel) ?_
    walk_at "go"
    refine go_ixAt er (by omega) rfl ?_
    walk_at "go"
    refine go_eqTxT ?_
    walk_at "go"
    rw [ln]
    refine p_need_order (fun z => ?_) (fun z => ?_)
    rotate_left
    · walk_at "go"
      refine e _ k_cut (fun y => ?_) _ (Same.refl _)
      have z := of_decide_eq_false z
      have y : 2 = ws.length := y
      omega
    have z := of_decide_eq_true z
    obtain ⟨w1, w2, rfl⟩ : ∃ w1 w2, ws = [w1, w2] := by
      match ws, z with
      | [w1, w2], _ => exact ⟨w1, w2, rfl⟩
      | [], z => simp at z
      | [_], z => simp at z
      | _ :: _ :: _ :: _, z => simp at z; omega
    walk_at "go"
    refine p_number_of (by have := hl w2 (by simp); omega) (fun ok2 => ?_) (fun no => ?_)
    rotate_left
    · walk_at "go"
      refine e _ k_cut (fun y => ?_) _ (Same.refl _)
      simp [rdAll, numOf, no, rd]
    walk_at "go"
    rename_i T H2 n2
    refine q _ [.t w1, .n (NumText.digitsVal w2)] k_cut rfl ?_ T H2 n2.same (oat_of n2.at ⟨rfl, rfl, rfl, trivial⟩)
    simp [rdAll, numOf, rd, ok2]
  · refine go_eqTxF (by decide +kernel) ?_
    walk_at "go"
    refine go_ixAt er (by omega) rfl ?_
    walk_at "go"
    refine go_eqTxF (by decide +kernel) ?_
    walk_at "go"
    rw [ln]
    refine p_need_order (fun z => ?_) (fun z => ?_)
    rotate_left
    · walk_at "go"
      refine e _ k_words (fun y => ?_) _ (Same.refl _)
      have z := of_decide_eq_false z
      have y : 3 = ws.length := y
      omega
    have z := of_decide_eq_true z
    obtain ⟨w1, w2, w3, rfl⟩ : ∃ w1 w2 w3, ws = [w1, w2, w3] := by
      match ws, z with
      | [w1, w2, w3], _ => exact ⟨w1, w2, w3, rfl⟩
      | [], z => simp at z
      | [_], z => simp at z
      | [_, _], z => simp at z
      | _ :: _ :: _ :: _ :: _, z => simp at z; omega
    walk_at "go"
    refine go_eqTxF (by decide +kernel) ?_
    walk_at "go"
    refine p_number_of (by have := hl w2 (by simp); omega) (fun ok2 => ?_) (fun no => ?_)
    rotate_left
    · walk_at "go"
      refine e _ k_words (fun y => ?_) _ (Same.refl _)
      simp [rdAll, numOf, no, rd]
    walk_at "go"
    refine p_number_of (by have := hl w3 (by simp); omega) (fun ok3 => ?_) (fun no => ?_)
    rotate_left
    · walk_at "go"
      refine e _ k_words (fun y => ?_) _ (Same.refl _)
      simp [rdAll, numOf, no, rd, ok2]
    walk_at "go"
    rename_i T H2 n2
    refine q _ [.t w1, .n (NumText.digitsVal w2), .n (NumText.digitsVal w3)] k_words rfl ?_ T H2 n2.same (oat_of n2.at ⟨rfl, rfl, rfl, rfl, trivial⟩)
    simp [rdAll, numOf, rd, ok2, ok3]
  · refine go_eqTxT ?_
    walk_at "go"
    rw [ln]
    refine p_need_order (fun z => ?_) (fun z => ?_)
    rotate_left
    · walk_at "go"
      refine e _ k_stop (fun y => ?_) _ (Same.refl _)
      have z := of_decide_eq_false z
      have y : 1 = ws.length := y
      omega
    have z := of_decide_eq_true z
    obtain ⟨w1, rfl⟩ : ∃ w1, ws = [w1] := by
      match ws, z with
      | [w1], _ => exact ⟨w1, rfl⟩
      | [], z => simp at z
      | _ :: _ :: _, z => simp at z; omega
    walk_at "go"
    refine p_number_of (by have := hl w1 (by simp); omega) (fun ok2 => ?_) (fun no => ?_)
    rotate_left
    · walk_at "go"
      refine e _ k_stop (fun y => ?_) _ (Same.refl _)
      simp [rdAll, numOf, no, rd]
    walk_at "go"
    rename_i T H2 n2
    refine q _ [.n (NumText.digitsVal w1)] k_stop rfl ?_ T H2 n2.same (oat_of n2.at ⟨rfl, rfl, trivial⟩)
    simp [rdAll, numOf, rd, ok2]
end

end Bk

namespace Bk
open PySem L2 PyProof.Rows
/-! our own short tactics: h: what stands at a place; ne: two places; sm: what stood stands; z: a size; s: a step; go: steps -/
local macro_rules | `(tactic| walk_at "h") => `(tactic| first
  | assumption
  | exact New.at (by assumption)
  | exact Wr.at (by assumption)
  | (refine' New.old (by assumption) ?_; walk_at "h")
  | (refine' Same.at (by assumption) ?_; walk_at "h")
  | (refine' Wr.old (by assumption) ?_ ?_; walk_at "ne"; walk_at "h")
  | (refine' Chg.at (by assumption) ?_ ?_; walk_at "ni"; walk_at "h"))
local macro_rules | `(tactic| walk_at "ni") => `(tactic| first
  | exact ni_nil
  | assumption
  | (refine' ni_cons ?_ ?_; walk_at "ne"; walk_at "ni"))
local macro_rules | `(tactic| walk_at "ne") => `(tactic| first
  | assumption
  | exact Ne.symm (by assumption)
  | exact New.ne (by assumption) (by walk_at "h")
  | exact ne_none (by assumption) (by walk_at "h")
  | exact Ne.symm (ne_none (by assumption) (by walk_at "h"))
  | exact Ne.symm (New.ne (by assumption) (by walk_at "h")))
local macro_rules | `(tactic| walk_at "sm") => `(tactic| first
  | exact Same.refl _
  | assumption
  | (refine' Same.trans ?_ (New.same (by assumption)); walk_at "sm")
  | (refine' Same.trans ?_ (by assumption : Same _ _); walk_at "sm"))
local macro_rules | `(tactic| walk_at "z") => `(tactic| first
  | assumption
  | (rw [PySem.sizeLine_eq]; omega)
  | (rw [PySem.sizeLine_eq]; simp only [List.length_cons, List.length_nil, List.length_append, List.length_map, List.length_range, List.length_replicate, len_cut]; omega)
  | (rw [PySem.sizeLine_eq]; simp only [List.length_cons, List.length_nil, List.length_append, List.length_map, List.length_range, List.length_replicate, len_cut] at *; omega))
local macro_rules | `(tactic| walk_at "s") => `(tactic| first
  | ((with_reducible refine' go_var ?h ?_); (case h => exact rfl))
  | (with_reducible refine' go_c ?_)
  | (with_reducible refine' go_op ?_)
  | (with_reducible refine' go_un ?_)
  | (with_reducible refine' go_rU ?_)
  | (with_reducible refine' go_seq ?_)
  | (with_reducible refine' go_ret ?_)
  | (with_reducible refine' go_retN ?_)
  | (with_reducible refine' go_next ?_)
  | (with_reducible refine' go_drop ?_)
  | (with_reducible refine' go_asg ?_)
  | ((with_reducible refine' go_name2 ?h ?_); (case h => (simp only [List.set_cons_zero, List.set_cons_succ]; exact rfl)))
  | ((with_reducible refine' go_name2 ?h ?_); (case h => exact rfl))
  | (with_reducible refine' go_ifS ?_)
  | (with_reducible refine' go_blk ?_)
  | (with_reducible refine' go_test ?_)
  | (with_reducible refine' go_tB ?_)
  | (with_reducible refine' go_and ?_)
  | (with_reducible refine' go_or ?_)
  | (with_reducible refine' go_not ?_)
  | (with_reducible refine' go_andV ?_)
  | (with_reducible refine' go_orV ?_)
  | (with_reducible refine' go_notV ?_)
  | (with_reducible refine' go_if ?_)
  | (with_reducible refine' go_chain ?_)
  | (with_reducible refine' iteT ?_)
  | (with_reducible refine' iteF ?_)
  | ((with_reducible refine' go_Td ?h ?_); (case h => walk_at "pr"))
  | ((with_reducible refine' go_Fd ?h ?_); (case h => walk_at "pr"))
  | ((with_reducible refine' go_Tn ?h ?_); (case h => walk_at "pr"))
  | ((with_reducible refine' go_Fn ?h ?_); (case h => walk_at "pr"))
  | ((with_reducible refine' go_T ?h ?_); (case h => (first | decide | assumption | exact rfl)))
  | ((with_reducible refine' go_F ?h ?_); (case h => (first | decide | assumption | exact rfl)))
  | (with_reducible refine' go_nil ?_)
  | (with_reducible refine' go_cons ?_)
  | (with_reducible refine' go_tLst ?_)
  | (with_reducible refine' go_tTup ?_)
  | ((with_reducible refine' go_LstK ?h ?_); (case h => walk_at "z"); intro p H1 n1)
  | ((with_reducible refine' go_TupK ?h ?_); (case h => walk_at "z"); intro p H1 n1)
  | (with_reducible refine' go_addI ?_)
  | ((with_reducible refine' go_addL ?h ?k ?z ?_); (case h => walk_at "h"); (case k => walk_at "h"); (case z => walk_at "z"); intro p H1 n1)
  | (with_reducible refine' go_sub ?_)
  | ((with_reducible refine' go_mulI ?h ?_); (case h => (unfold CMul; omega)))
  | ((with_reducible refine' go_mulL ?h ?k ?_); (case h => walk_at "h"); (case k => (refine ⟨by omega, by omega, ?_⟩; walk_at "z")); intro p H1 n1)
  | ((with_reducible refine' go_div ?h ?_); (case h => (unfold CDiv; omega)))
  | ((with_reducible refine' go_mod ?h ?_); (case h => omega))
  | (with_reducible refine' go_p109 ?_)
  | (with_reducible refine' go_p1020 ?_)
  | ((with_reducible refine' go_pow ?h ?_); (case h => (unfold CPow; omega)))
  | (with_reducible refine' go_lt ?_)
  | (with_reducible refine' go_le ?_)
  | (with_reducible refine' go_gt ?_)
  | (with_reducible refine' go_ge ?_)
  | (with_reducible refine' go_eqI ?_)
  | (with_reducible refine' go_eqB ?_)
  | (with_reducible refine' go_eqS ?_)
  | (with_reducible refine' go_neI ?_)
  | (with_reducible refine' go_neB ?_)
  | (with_reducible refine' go_neS ?_)
  | (with_reducible refine' go_isN ?_)
  | (with_reducible refine' go_isNotN ?_)
  | (with_reducible refine' go_isB ?_)
  | (with_reducible refine' go_isNotB ?_)
  | (with_reducible refine' go_sl ?_)
  | (with_reducible refine' go_noPart ?_)
  | (with_reducible refine' go_part ?_)
  | (with_reducible refine' go_intK ?_)
  | ((with_reducible refine' go_slL ?h ?_); (case h => walk_at "h"); intro p H1 n1)
  | ((with_reducible refine' go_ixL ?h ?k ?_); (case h => walk_at "h"); (case k => exact rfl))
  | ((with_reducible refine' go_ixT ?h ?k ?_); (case h => walk_at "h"); (case k => exact rfl))
  | ((with_reducible refine' go_slW ?h ?_); (case h => walk_at "h"))
  | (with_reducible refine' go_bm ?_)
  | (with_reducible refine' go_bm0 ?_)
  | ((with_reducible refine' go_bmL ?h ?_); (case h => walk_at "h"))
  | ((with_reducible refine' go_append ?h ?k ?_); (case h => walk_at "h"); (case k => walk_at "z"); intro H1 n1)
  | ((with_reducible refine' go_extend ?h ?k ?z ?_); (case h => walk_at "h"); (case k => walk_at "h"); (case z => walk_at "z"); intro H1 n1)
  | ((with_reducible refine' go_clear ?h ?_); (case h => walk_at "h"); intro H1 n1)
  | ((with_reducible refine' go_dnew ?_); intro p H1 n1)
  | (with_reducible refine' go_cb ?_)
  | (with_reducible refine' go_callS ?_)
  | (with_reducible refine' go_call0 ?_)
  | ((with_reducible refine' go_lenL ?h ?_); (case h => walk_at "h"))
  | ((with_reducible refine' go_lenT ?h ?_); (case h => walk_at "h"))
  | ((with_reducible refine' go_lenK ?h ?_); (case h => walk_at "hk"))
  | ((with_reducible refine' go_listL ?h ?_); (case h => walk_at "h"); intro p H1 n1)
  | ((with_reducible refine' go_listT ?h ?_); (case h => walk_at "h"); intro p H1 n1)
  | ((with_reducible refine' go_tupleL ?h ?_); (case h => walk_at "h"); intro p H1 n1)
  | (with_reducible refine' go_intI ?_)
  | (with_reducible refine' go_intB ?_)
  | (with_reducible refine' go_abs ?_)
  | (with_reducible refine' go_min2 ?_)
  | (with_reducible refine' go_max2 ?_)
  | ((with_reducible refine' go_isi ?h ?k ?_); (case h => walk_at "ty"); (case k => exact kit_bb (by decide) (by decide)))
  | (with_reducible refine' go_lc ?_)
  | (with_reducible refine' go_for ?_)
  | (with_reducible refine' go_seqP ?_)
  | ((with_reducible refine' go_seqL ?h ?_); (case h => walk_at "h"))
  | ((with_reducible refine' go_seqT ?h ?_); (case h => walk_at "h"))
  | (with_reducible refine' go_seqS ?_)
  | (with_reducible refine' go_rng1 ?_)
  | (with_reducible refine' go_rng2 ?_)
  | ((with_reducible refine' go_rng1K ?h ?_); (case h => omega))
  | ((with_reducible refine' go_rng2K ?h ?_); (case h => omega))
  | (with_reducible refine' go_raise ?_)
  | ((with_reducible refine' go_tupG ?h ?k ?_); (case h => walk_at "h"); (case k => exact rfl))
  | ((with_reducible refine' go_lstG ?h ?k ?_); (case h => walk_at "h"); (case k => exact rfl))
  | (with_reducible refine' go_gNil ?_)
  | (with_reducible refine' go_tryAs ?_)
  | (with_reducible refine' go_tryMany1 ?_)
  | (with_reducible refine' go_tryMany2 ?_)
  | (with_reducible refine' go_WM ?_)
  | ((with_reducible refine' go_asT ?_); intro e he)
  | (with_reducible refine' go_asF ?_)
  | ((with_reducible refine' go_manyT ?_); intro e he)
  | (with_reducible refine' go_manyF ?_)
  | (with_reducible refine' go_manyN ?_)
  | (with_reducible refine' go_fld ?_)
  | ((with_reducible refine' go_FldK ?h ?c ?n ?l ?_); (case h => walk_at "h"); (case c => infer_instance); (case n => infer_instance); (case l => exact rfl))
  | (with_reducible refine' go_sfld ?_)
  | ((with_reducible refine' go_SFldK ?h ?c ?n ?l ?e ?_); (case h => walk_at "h"); (case c => infer_instance); (case n => infer_instance); (case l => exact Nat.le_of_ble_eq_true rfl); (case e => walk_at "pf"); intro H1 n1)
  | (with_reducible refine' go_meth ?_)
  | ((with_reducible refine' go_MethK 0 ?h ?l ?e ?_); (case h => walk_at "h"); (case l => exact rfl); (case e => exact rfl))
  | ((with_reducible refine' go_MethK 1 ?h ?l ?e ?_); (case h => walk_at "h"); (case l => exact rfl); (case e => exact rfl))
  | ((with_reducible refine' go_MethK 2 ?h ?l ?e ?_); (case h => walk_at "h"); (case l => exact rfl); (case e => exact rfl))
  | (with_reducible refine' go_make ?_)
  | (with_reducible refine' go_callX ?_)
  | (with_reducible refine' go_methX ?_)
  | ((with_reducible refine' go_MethXK ?h ?l ?_); (case h => walk_at "h"); (case l => exact rfl))
  | (with_reducible refine' go_dget ?_)
  | ((with_reducible refine' go_DGetS ?h ?l ?_); (case h => walk_at "h"); (case l => exact rfl))
  | (with_reducible refine' go_dput ?_)
  | ((with_reducible refine' go_DPutS ?h ?l ?e ?_); (case h => walk_at "h"); (case l => exact Nat.le_of_ble_eq_true rfl); (case e => walk_at "pk"); intro H1 n1)
  | ((with_reducible refine' go_disp ?_); intro p H1 n1)
  | (with_reducible refine' go_pairs ?_)
  | (with_reducible refine' go_pairs0 ?_)
  | ((with_reducible refine' go_DispS ?h ?e ?l ?k ?j ?m ?_); (case h => walk_at "h"); (case e => exact rfl); (case l => exact Nat.le_of_ble_eq_true rfl); (case k => (simp only [unS]; exact rfl)); (case j => (simp only [List.map_cons, List.map_nil]; exact rfl)); (case m => decide +kernel); intro H1 n1)
  | (with_reducible refine' go_par ?_)
  | ((with_reducible refine' go_ParK ?h ?_); (case h => (simp only [List.set_cons_zero, List.set_cons_succ]; exact rfl)))
  | (with_reducible refine' go_sub_ ?_)
  | ((with_reducible refine' go_setLi ?h ?k ?_); (case h => walk_at "h"); (case k => walk_at "ix"); intro H1 n1)
  | (with_reducible refine' go_listY ?_)
  | ((with_reducible refine' go_listYL ?h ?_); (case h => walk_at "h"))
  | (with_reducible refine' go_bmS ?_)
  | (with_reducible refine' go_ckw ?_)
  | ((with_reducible refine' go_maxD ?h ?_); (case h => walk_at "h"))
  | (with_reducible refine' go_listR ?_)
  | (with_reducible refine' go_rg2 ?_)
  | (with_reducible refine' go_Rg2K ?_)
  | (with_reducible refine' go_rg1 ?_)
  | (with_reducible refine' go_Rg1K ?_)
  | ((with_reducible refine' go_ListRK ?h ?_); (case h => omega); intro p H1 n1)
  | (with_reducible refine' go_enum ?_)
  | ((with_reducible refine' go_EnumL ?h ?_); (case h => walk_at "h"))
  | (with_reducible refine' go_isX ?_)
  | (with_reducible refine' go_isXt ?_)
  | (with_reducible refine' go_din ?_)
  | (with_reducible refine' go_dnotin ?_)
  | ((with_reducible refine' go_DInI ?h ?_); (case h => walk_at "h"))
  | ((with_reducible refine' go_DNotInI ?h ?_); (case h => walk_at "h"))
  | (with_reducible refine' go_dget2 ?_)
  | ((with_reducible refine' go_DGet2K ?h ?_); (case h => walk_at "h"))
  | (with_reducible refine' go_dpop1 ?_)
  | ((with_reducible refine' go_eqDE ?h ?k ?_); (case h => walk_at "h"); (case k => walk_at "h"))
  | ((with_reducible refine' go_neDE ?h ?k ?_); (case h => walk_at "h"); (case k => walk_at "h"))
  | (with_reducible refine' go_chain3 ?_)
  | (with_reducible refine' go_LinkT ?_)
  | (with_reducible refine' go_LinkF ?_)
  | (with_reducible refine' go_Link2T ?_)
  | (with_reducible refine' go_Link2F ?_)
  | (with_reducible refine' go_gSl ?_)
  | ((with_reducible refine' go_insert ?h ?k ?l ?m ?_); (case h => walk_at "h"); (case k => walk_at "z"); (case l => omega); (case m => omega); intro H1 n1)
  | (with_reducible refine' go_gCons ?_))
local macro_rules | `(tactic| walk_at "pf") => `(tactic| first
  | exact putF_nil
  | exact putF_hit
  | (refine' putF_miss ?h ?k; (case h => decide +kernel); (case k => walk_at "pf")))
local macro_rules | `(tactic| walk_at "pk") => `(tactic| first
  | exact putK_nil
  | exact putK_hit (by (simp only [List.map_cons, List.map_nil]; decide +kernel))
  | (refine' putK_miss ?h ?k; (case h => decide +kernel); (case k => walk_at "pk")))
local macro_rules | `(tactic| walk_at "ix") => `(tactic| first
  | assumption
  | omega
  | (simp only [List.length_cons, List.length_nil, List.length_append, List.length_map, List.length_range, List.length_replicate, List.length_set] at *; omega))
local macro_rules | `(tactic| walk_at "pr") => `(tactic| first
  | assumption
  | decide
  | omega
  | exact rfl
  | (intro z; cases z; done))
local macro_rules | `(tactic| walk_at "hk") => `(tactic| first
  | assumption
  | exact seq' (by assumption) (by walk_at "sm"))
local macro_rules | `(tactic| walk_at "ty") => `(tactic| first
  | exact rfl
  | assumption
  | exact tyN_L (by walk_at "h")
  | exact tyN_T (by walk_at "h")
  | exact tyN_D (by walk_at "h"))
local macro_rules | `(tactic| walk_at "go") => `(tactic| repeat (walk_at "s"))
section
variable {K : PySem.W.Frag} {a : Ac} {H : Hp} {Q : VK} {E : XK} [F : Fc K a] {w w0 cs : List Nat} {ws zs : List (List Nat)} {p r T : Addr} {x : V} {n : String} {vs : List V} {pt : Pt} {ps : List Pt}
omit F in
theorem kinds1 (h : w ∈ L1) : kinds w = some [] := if_pos h
omit F in
theorem kinds2 (h1 : w ∉ L1) (h : w ∈ L2_) : kinds w = some [.p] := by
  unfold kinds; rw [if_neg h1, if_pos h]
omit F in
theorem kinds3 (h1 : w ∉ L1) (h2 : w ∉ L2_) (h : w ∈ L3) : kinds w = some [.p, .p] := by
  unfold kinds; rw [if_neg h1, if_neg h2, if_pos h]
omit F in
theorem kinds4 (h1 : w ∉ L1) (h2 : w ∉ L2_) (h3 : w ∉ L3) (h4 : w ∉ L4) : kinds w = none := by
  unfold L4 at h4
  simp only [List.mem_cons, List.not_mem_nil, or_false, not_or] at h4
  unfold kinds
  rw [if_neg h1, if_neg h2, if_neg h3, if_neg h4.1, if_neg h4.2.1, if_neg h4.2.2.1, if_neg h4.2.2.2]
omit F in
theorem due_eq (e : psp 32 [] cs = w0 :: ws) (h : [] ∉ w0 :: ws) : due cs = (kinds w0).bind fun ks => if ks.length = ws.length then (rdAll ks ws).map (.t w0 :: ·) else none := by
  unfold due
  rw [e, if_neg h]
omit F in
theorem due_nil (h : [] ∈ psp 32 [] cs) : due cs = none := by
  unfold due
  rw [if_pos h]
theorem p_order_odd (h : tyN H x = some n) (hn : n ∈ ["NoneType", "bool", "int", "list", "tuple", "dict"]) (e : E (.ref a.BadOrder) none H) : sp_order_of K a [x] H Q E := by
  refine in_order_of ?_
  unfold t_order_of
  simp only [List.mem_cons, List.not_mem_nil, or_false] at hn
  rcases hn with rfl | rfl | rfl | rfl | rfl | rfl
  all_goals
    walk_at "go"
    refine p_need_order (fun z => nomatch z) fun _ => ?_
    walk_at "go"
    exact e
theorem p_order_of (lz : cs.length ≤ 850) (q : ∀ ps, due cs = some ps → ∀ T H', Same H H' → OAt H' T ps → Q (.ref T) H')
    (e : due cs = none → ∀ H', Same H H' → E (.ref a.BadOrder) none H') : sp_order_of K a [.str (tx cs)] H Q E := by
  refine in_order_of ?_
  unfold t_order_of
  simp only [tx0_eq]
  walk_at "go"
  refine p_need_order (fun _ => ?_) (fun z => nomatch z)
  walk_at "go"
  have en : tx0 " " = [32] := by decide +kernel
  rw [en]
  refine go_splitS (by omega) (by omega) fun p H1 n1 => ?_
  have cnt := psp_count (s := 32) cs []
  have len := psp_len (s := 32) cs []
  obtain ⟨w0, ws, ew⟩ := psp_cons (s := 32) cs []
  rw [ew] at n1 cnt len
  walk_at "go"
  have e0 : tx0 "" = [] := rfl
  rw [e0]
  refine go_notInLs n1.at ?_
  walk_at "go"
  refine p_need_order (fun z => ?_) (fun z => ?_)
  rotate_left
  · walk_at "go"
    exact e (due_nil (by rw [ew]; exact Decidable.byContradiction fun y => by rw [decide_eq_false y] at z; cases z)) _ n1.same
  have nn : [] ∉ w0 :: ws := by simpa using z
  have dq := due_eq ew nn
  have lw : ∀ w ∈ ws, w.length ≤ 900 := fun w hw => by have := len w (List.mem_cons_of_mem _ hw); simp at this; omega
  have ln : (((w0 :: ws).map tv).length : Int) = ws.length + 1 := by simp
  simp only [List.length_cons] at cnt
  walk_at "go"
  refine go_ixAt n1.at (by omega) rfl ?_
  walk_at "go"
  rename_i p2 H2 n2
  refine go_inTs (zs := L1) n2.at ?_
  cases h1 : decide (w0 ∈ L1) with
  | true =>
    rw [kinds1 (of_decide_eq_true h1)] at dq
    walk_at "go"
    rw [ln]
    refine p_need_order (fun z => ?_) (fun z => ?_)
    rotate_left
    · walk_at "go"
      refine e (dq.trans ?_) _ (n1.same.trans n2.same)
      refine if_neg fun y => ?_
      have z := of_decide_eq_false z
      have y : 0 = ws.length := y
      omega
    have z := of_decide_eq_true z
    obtain rfl : ws = [] := List.eq_nil_of_length_eq_zero (by omega)
    walk_at "go"
    rename_i T H3 n3
    exact q _ dq T H3 ((n1.same.trans n2.same).trans n3.same) (oat_of n3.at ⟨rfl, trivial⟩)
  | false =>
    walk_at "go"
    refine go_ixAt (n2.old n1.at) (by omega) rfl ?_
    walk_at "go"
    rename_i p3 H3 n3
    refine go_inTs (zs := L2_) n3.at ?_
    cases h2 : decide (w0 ∈ L2_) with
    | true =>
      rw [kinds2 (of_decide_eq_false h1) (of_decide_eq_true h2)] at dq
      walk_at "go"
      rw [ln]
      refine p_need_order (fun z => ?_) (fun z => ?_)
      rotate_left
      · walk_at "go"
        refine e (dq.trans ?_) _ ((n1.same.trans n2.same).trans n3.same)
        refine if_neg fun y => ?_
        have z := of_decide_eq_false z
        have y : 1 = ws.length := y
        omega
      have z := of_decide_eq_true z
      obtain ⟨w1, rfl⟩ : ∃ w1, ws = [w1] := by
        match ws, z with
        | [w1], _ => exact ⟨w1, rfl⟩
        | [], z => simp at z
        | _ :: _ :: _, z => simp at z; omega
      walk_at "go"
      rename_i T H4 n4
      exact q _ dq T H4 (((n1.same.trans n2.same).trans n3.same).trans n4.same) (oat_of n4.at ⟨rfl, rfl, trivial⟩)
    | false =>
      walk_at "go"
      refine go_ixAt (n3.old (n2.old n1.at)) (by omega) rfl ?_
      walk_at "go"
      rename_i p4 H4 n4
      refine go_inTs (zs := L3) n4.at ?_
      cases h3 : decide (w0 ∈ L3) with
      | true =>
        rw [kinds3 (of_decide_eq_false h1) (of_decide_eq_false h2) (of_decide_eq_true h3)] at dq
        walk_at "go"
        rw [ln]
        refine p_need_order (fun z => ?_) (fun z => ?_)
        rotate_left
        · walk_at "go"
          refine e (dq.trans ?_) _ (((n1.same.trans n2.same).trans n3.same).trans n4.same)
          refine if_neg fun y => ?_
          have z := of_decide_eq_false z
          have y : 2 = ws.length := y
          omega
        have z := of_decide_eq_true z
        obtain ⟨w1, w2, rfl⟩ : ∃ w1 w2, ws = [w1, w2] := by
          match ws, z with
          | [w1, w2], _ => exact ⟨w1, w2, rfl⟩
          | [], z => simp at z
          | [_], z => simp at z
          | _ :: _ :: _ :: _, z => simp at z; omega
        walk_at "go"
        rename_i T H5 n5
        exact q _ dq T H5 ((((n1.same.trans n2.same).trans n3.same).trans n4.same).trans n5.same) (oat_of n5.at ⟨rfl, rfl, rfl, trivial⟩)
      | false =>
        walk_at "go"
        refine go_ixAt (n4.old (n3.old (n2.old n1.at))) (by omega) rfl ?_
        walk_at "go"
        rename_i p5 H5 n5
        have s5 := (((n1.same.trans n2.same).trans n3.same).trans n4.same).trans n5.same
        refine go_inTs (zs := L4) n5.at ?_
        walk_at "go"
        refine p_need_order (fun z => ?_) (fun z => ?_)
        rotate_left
        · walk_at "go"
          rw [kinds4 (of_decide_eq_false h1) (of_decide_eq_false h2) (of_decide_eq_false h3) (of_decide_eq_false z)] at dq
          exact e dq _ s5
        walk_at "go"
        refine p_with_numbers (n5.old (n4.old (n3.old (n2.old n1.at)))) (of_decide_eq_true z) lw (by omega) (fun ks ps hk hl hr T H6 s6 o6 => ?_) (fun ks hk hr H6 s6 => ?_)
        · rw [hk] at dq
          walk_at "go"
          refine q _ (dq.trans ?_) T H6 (s5.trans s6) o6
          show (if ks.length = ws.length then _ else _) = _
          rw [if_pos hl, hr]; rfl
        · rw [hk] at dq
          walk_at "go"
          refine e (dq.trans ?_) _ (s5.trans s6)
          show (if ks.length = ws.length then _ else _) = _
          by_cases c : ks.length = ws.length
          · rw [if_pos c, hr c]; rfl
          · rw [if_neg c]
omit F in
theorem paired_own : ∀ Cs : List Addr, Paired ClsV (Cs.map V.ref) (Cs.map Value.ref)
  | [] => .nil
  | C :: Cs => .cons (ClsV.own C) (paired_own Cs)
omit F in
theorem kitAny_none {D : Addr} : ∀ Cs : List Addr, (∀ C ∈ Cs, PySem.W.kitOne K (.ref D) (.ref C) = some false) → PySem.W.kitAny K (.ref D) (Cs.map Value.ref) = some false
  | [], _ => rfl
  | C :: Cs, h => by
    show (match PySem.W.kitOne K (.ref D) (.ref C) with | some true => _ | some false => _ | none => _) = _
    rw [h C List.mem_cons_self]
    exact kitAny_none Cs fun C hC => h C (List.mem_cons_of_mem _ hC)
omit F in
theorem go_isXn {D e t : Addr} (Cs : List Addr) (h : H t = some (.tup (Cs.map V.ref))) (hk : ∀ C ∈ Cs, PySem.W.kitOne K (.ref D) (.ref C) = some false) (q : Q (.bl false) H) : rIsiH K D e [.ref e, .ref t] H Q :=
  .inr ⟨t, _, _, false, rfl, h, paired_own Cs, kitAny_none Cs hk, q⟩
theorem p_L_read_odd (h : tyN H x = some n) (hn : n ∈ ["NoneType", "bool", "int", "list", "tuple", "dict"]) (q : ∀ H', Same H H' → Q .non H') : sp_L_read K a [x] H Q E := by
  refine in_L_read ?_
  unfold t_L_read
  walk_at "go"
  refine p_order_odd h hn ?_
  refine ⟨true, ExmF.h, fun _ e' he => ⟨a.BadOrder, rfl, rfl, ExcF.h, ?_⟩, fun z => nomatch z⟩
  walk_at "go"
  rename_i T H1 n1
  refine go_isXn [a.BadRow, a.NoBlock, a.Stopped, a.BadDisk, a.NoRoom, a.TooMuch, a.BadLog, a.NoNode, a.NoNodes, a.TooLong] n1.at (fun C hC => ?_) ?_
  · simp only [List.mem_cons, List.not_mem_nil, or_false] at hC
    rcases hC with rfl | rfl | rfl | rfl | rfl | rfl | rfl | rfl | rfl | rfl
    all_goals exact KitF.h
  walk_at "go"
  rename_i T2 H2 n2
  refine go_isXn [a.OutOfPlace, a.BadName, a.BadPath, a.NotFolder, a.NotFile, a.NoName, a.NameThere, a.NotEmpty, a.Within] n2.at (fun C hC => ?_) ?_
  · simp only [List.mem_cons, List.not_mem_nil, or_false] at hC
    rcases hC with rfl | rfl | rfl | rfl | rfl | rfl | rfl | rfl | rfl
    all_goals exact KitF.h
  walk_at "go"
  rename_i T3 H3 n3
  exact q H3 ((n1.same.trans n2.same).trans n3.same)
theorem p_L_read (lz : cs.length ≤ 850) (q : ∀ ps, due cs = some ps → ∀ T H', Same H H' → OAt H' T ps → Q (.ref T) H') (e : due cs = none → ∀ H', Same H H' → Q .non H') : sp_L_read K a [.str (tx cs)] H Q E := by
  refine in_L_read ?_
  unfold t_L_read
  walk_at "go"
  refine p_order_of lz (fun ps hd T H1 s1 o1 => ?_) (fun hd H0 s0 => ?_)
  · exact q ps hd T H1 s1 o1
  refine ⟨true, ExmF.h, fun _ e' he => ⟨a.BadOrder, rfl, rfl, ExcF.h, ?_⟩, fun z => nomatch z⟩
  walk_at "go"
  rename_i T H1 n1
  refine go_isXn [a.BadRow, a.NoBlock, a.Stopped, a.BadDisk, a.NoRoom, a.TooMuch, a.BadLog, a.NoNode, a.NoNodes, a.TooLong] n1.at (fun C hC => ?_) ?_
  · simp only [List.mem_cons, List.not_mem_nil, or_false] at hC
    rcases hC with rfl | rfl | rfl | rfl | rfl | rfl | rfl | rfl | rfl | rfl
    all_goals exact KitF.h
  walk_at "go"
  rename_i T2 H2 n2
  refine go_isXn [a.OutOfPlace, a.BadName, a.BadPath, a.NotFolder, a.NotFile, a.NoName, a.NameThere, a.NotEmpty, a.Within] n2.at (fun C hC => ?_) ?_
  · simp only [List.mem_cons, List.not_mem_nil, or_false] at hC
    rcases hC with rfl | rfl | rfl | rfl | rfl | rfl | rfl | rfl | rfl
    all_goals exact KitF.h
  walk_at "go"
  rename_i T3 H3 n3
  exact e hd H3 (((s0.trans n1.same).trans n2.same).trans n3.same)
end

end Bk

namespace Bk
open PySem L2 PyProof.Rows
/-! our own short tactics: h: what stands at a place; ne: two places; sm: what stood stands; z: a size; s: a step; go: steps -/
local macro_rules | `(tactic| walk_at "h") => `(tactic| first
  | assumption
  | exact New.at (by assumption)
  | exact Wr.at (by assumption)
  | (refine' New.old (by assumption) ?_; walk_at "h")
  | (refine' Same.at (by assumption) ?_; walk_at "h")
  | (refine' Wr.old (by assumption) ?_ ?_; walk_at "ne"; walk_at "h")
  | (refine' Chg.at (by assumption) ?_ ?_; walk_at "ni"; walk_at "h"))
local macro_rules | `(tactic| walk_at "ni") => `(tactic| first
  | exact ni_nil
  | assumption
  | (refine' ni_cons ?_ ?_; walk_at "ne"; walk_at "ni"))
local macro_rules | `(tactic| walk_at "ne") => `(tactic| first
  | assumption
  | exact Ne.symm (by assumption)
  | exact New.ne (by assumption) (by walk_at "h")
  | exact ne_none (by assumption) (by walk_at "h")
  | exact Ne.symm (ne_none (by assumption) (by walk_at "h"))
  | exact Ne.symm (New.ne (by assumption) (by walk_at "h")))
local macro_rules | `(tactic| walk_at "sm") => `(tactic| first
  | exact Same.refl _
  | assumption
  | (refine' Same.trans ?_ (New.same (by assumption)); walk_at "sm")
  | (refine' Same.trans ?_ (by assumption : Same _ _); walk_at "sm"))
local macro_rules | `(tactic| walk_at "z") => `(tactic| first
  | assumption
  | (rw [PySem.sizeLine_eq]; omega)
  | (rw [PySem.sizeLine_eq]; simp only [List.length_cons, List.length_nil, List.length_append, List.length_map, List.length_range, List.length_replicate, len_cut]; omega)
  | (rw [PySem.sizeLine_eq]; simp only [List.length_cons, List.length_nil, List.length_append, List.length_map, List.length_range, List.length_replicate, len_cut] at *; omega))
local macro_rules | `(tactic| walk_at "s") => `(tactic| first
  | ((with_reducible refine' go_var ?h ?_); (case h => exact rfl))
  | (with_reducible refine' go_c ?_)
  | (with_reducible refine' go_op ?_)
  | (with_reducible refine' go_un ?_)
  | (with_reducible refine' go_rU ?_)
  | (with_reducible refine' go_seq ?_)
  | (with_reducible refine' go_ret ?_)
  | (with_reducible refine' go_retN ?_)
  | (with_reducible refine' go_next ?_)
  | (with_reducible refine' go_drop ?_)
  | (with_reducible refine' go_asg ?_)
  | ((with_reducible refine' go_name2 ?h ?_); (case h => (simp only [List.set_cons_zero, List.set_cons_succ]; exact rfl)))
  | ((with_reducible refine' go_name2 ?h ?_); (case h => exact rfl))
  | (with_reducible refine' go_ifS ?_)
  | (with_reducible refine' go_blk ?_)
  | (with_reducible refine' go_test ?_)
  | (with_reducible refine' go_tB ?_)
  | (with_reducible refine' go_and ?_)
  | (with_reducible refine' go_or ?_)
  | (with_reducible refine' go_not ?_)
  | (with_reducible refine' go_andV ?_)
  | (with_reducible refine' go_orV ?_)
  | (with_reducible refine' go_notV ?_)
  | (with_reducible refine' go_if ?_)
  | (with_reducible refine' go_chain ?_)
  | (with_reducible refine' iteT ?_)
  | (with_reducible refine' iteF ?_)
  | ((with_reducible refine' go_Td ?h ?_); (case h => walk_at "pr"))
  | ((with_reducible refine' go_Fd ?h ?_); (case h => walk_at "pr"))
  | ((with_reducible refine' go_Tn ?h ?_); (case h => walk_at "pr"))
  | ((with_reducible refine' go_Fn ?h ?_); (case h => walk_at "pr"))
  | ((with_reducible refine' go_T ?h ?_); (case h => (first | decide | assumption | exact rfl)))
  | ((with_reducible refine' go_F ?h ?_); (case h => (first | decide | assumption | exact rfl)))
  | (with_reducible refine' go_nil ?_)
  | (with_reducible refine' go_cons ?_)
  | (with_reducible refine' go_tLst ?_)
  | (with_reducible refine' go_tTup ?_)
  | ((with_reducible refine' go_LstK ?h ?_); (case h => walk_at "z"); intro p H1 n1)
  | ((with_reducible refine' go_TupK ?h ?_); (case h => walk_at "z"); intro p H1 n1)
  | (with_reducible refine' go_addI ?_)
  | ((with_reducible refine' go_addL ?h ?k ?z ?_); (case h => walk_at "h"); (case k => walk_at "h"); (case z => walk_at "z"); intro p H1 n1)
  | (with_reducible refine' go_sub ?_)
  | ((with_reducible refine' go_mulI ?h ?_); (case h => (unfold CMul; omega)))
  | ((with_reducible refine' go_mulL ?h ?k ?_); (case h => walk_at "h"); (case k => (refine ⟨by omega, by omega, ?_⟩; walk_at "z")); intro p H1 n1)
  | ((with_reducible refine' go_div ?h ?_); (case h => (unfold CDiv; omega)))
  | ((with_reducible refine' go_mod ?h ?_); (case h => omega))
  | (with_reducible refine' go_p109 ?_)
  | (with_reducible refine' go_p1020 ?_)
  | ((with_reducible refine' go_pow ?h ?_); (case h => (unfold CPow; omega)))
  | (with_reducible refine' go_lt ?_)
  | (with_reducible refine' go_le ?_)
  | (with_reducible refine' go_gt ?_)
  | (with_reducible refine' go_ge ?_)
  | (with_reducible refine' go_eqI ?_)
  | (with_reducible refine' go_eqB ?_)
  | (with_reducible refine' go_eqS ?_)
  | (with_reducible refine' go_neI ?_)
  | (with_reducible refine' go_neB ?_)
  | (with_reducible refine' go_neS ?_)
  | (with_reducible refine' go_isN ?_)
  | (with_reducible refine' go_isNotN ?_)
  | (with_reducible refine' go_isB ?_)
  | (with_reducible refine' go_isNotB ?_)
  | (with_reducible refine' go_sl ?_)
  | (with_reducible refine' go_noPart ?_)
  | (with_reducible refine' go_part ?_)
  | (with_reducible refine' go_intK ?_)
  | ((with_reducible refine' go_slL ?h ?_); (case h => walk_at "h"); intro p H1 n1)
  | ((with_reducible refine' go_ixL ?h ?k ?_); (case h => walk_at "h"); (case k => exact rfl))
  | ((with_reducible refine' go_ixT ?h ?k ?_); (case h => walk_at "h"); (case k => exact rfl))
  | ((with_reducible refine' go_slW ?h ?_); (case h => walk_at "h"))
  | (with_reducible refine' go_bm ?_)
  | (with_reducible refine' go_bm0 ?_)
  | ((with_reducible refine' go_bmL ?h ?_); (case h => walk_at "h"))
  | ((with_reducible refine' go_append ?h ?k ?_); (case h => walk_at "h"); (case k => walk_at "z"); intro H1 n1)
  | ((with_reducible refine' go_extend ?h ?k ?z ?_); (case h => walk_at "h"); (case k => walk_at "h"); (case z => walk_at "z"); intro H1 n1)
  | ((with_reducible refine' go_clear ?h ?_); (case h => walk_at "h"); intro H1 n1)
  | ((with_reducible refine' go_dnew ?_); intro p H1 n1)
  | (with_reducible refine' go_cb ?_)
  | (with_reducible refine' go_callS ?_)
  | (with_reducible refine' go_call0 ?_)
  | ((with_reducible refine' go_lenL ?h ?_); (case h => walk_at "h"))
  | ((with_reducible refine' go_lenT ?h ?_); (case h => walk_at "h"))
  | ((with_reducible refine' go_lenK ?h ?_); (case h => walk_at "hk"))
  | ((with_reducible refine' go_listL ?h ?_); (case h => walk_at "h"); intro p H1 n1)
  | ((with_reducible refine' go_listT ?h ?_); (case h => walk_at "h"); intro p H1 n1)
  | ((with_reducible refine' go_tupleL ?h ?_); (case h => walk_at "h"); intro p H1 n1)
  | (with_reducible refine' go_intI ?_)
  | (with_reducible refine' go_intB ?_)
  | (with_reducible refine' go_abs ?_)
  | (with_reducible refine' go_min2 ?_)
  | (with_reducible refine' go_max2 ?_)
  | ((with_reducible refine' go_isi ?h ?k ?_); (case h => walk_at "ty"); (case k => exact kit_bb (by decide) (by decide)))
  | (with_reducible refine' go_lc ?_)
  | (with_reducible refine' go_for ?_)
  | (with_reducible refine' go_seqP ?_)
  | ((with_reducible refine' go_seqL ?h ?_); (case h => walk_at "h"))
  | ((with_reducible refine' go_seqT ?h ?_); (case h => walk_at "h"))
  | (with_reducible refine' go_seqS ?_)
  | (with_reducible refine' go_rng1 ?_)
  | (with_reducible refine' go_rng2 ?_)
  | ((with_reducible refine' go_rng1K ?h ?_); (case h => omega))
  | ((with_reducible refine' go_rng2K ?h ?_); (case h => omega))
  | (with_reducible refine' go_raise ?_)
  | ((with_reducible refine' go_tupG ?h ?k ?_); (case h => walk_at "h"); (case k => exact rfl))
  | ((with_reducible refine' go_lstG ?h ?k ?_); (case h => walk_at "h"); (case k => exact rfl))
  | (with_reducible refine' go_gNil ?_)
  | (with_reducible refine' go_tryAs ?_)
  | (with_reducible refine' go_tryMany1 ?_)
  | (with_reducible refine' go_tryMany2 ?_)
  | (with_reducible refine' go_WM ?_)
  | ((with_reducible refine' go_asT ?_); intro e he)
  | (with_reducible refine' go_asF ?_)
  | ((with_reducible refine' go_manyT ?_); intro e he)
  | (with_reducible refine' go_manyF ?_)
  | (with_reducible refine' go_manyN ?_)
  | (with_reducible refine' go_fld ?_)
  | ((with_reducible refine' go_FldK ?h ?c ?n ?l ?_); (case h => walk_at "h"); (case c => infer_instance); (case n => infer_instance); (case l => exact rfl))
  | (with_reducible refine' go_sfld ?_)
  | ((with_reducible refine' go_SFldK ?h ?c ?n ?l ?e ?_); (case h => walk_at "h"); (case c => infer_instance); (case n => infer_instance); (case l => exact Nat.le_of_ble_eq_true rfl); (case e => walk_at "pf"); intro H1 n1)
  | (with_reducible refine' go_meth ?_)
  | ((with_reducible refine' go_MethK 0 ?h ?l ?e ?_); (case h => walk_at "h"); (case l => exact rfl); (case e => exact rfl))
  | ((with_reducible refine' go_MethK 1 ?h ?l ?e ?_); (case h => walk_at "h"); (case l => exact rfl); (case e => exact rfl))
  | ((with_reducible refine' go_MethK 2 ?h ?l ?e ?_); (case h => walk_at "h"); (case l => exact rfl); (case e => exact rfl))
  | (with_reducible refine' go_make ?_)
  | (with_reducible refine' go_callX ?_)
  | (with_reducible refine' go_methX ?_)
  | ((with_reducible refine' go_MethXK ?h ?l ?_); (case h => walk_at "h"); (case l => exact rfl))
  | (with_reducible refine' go_dget ?_)
  | ((with_reducible refine' go_DGetS ?h ?l ?_); (case h => walk_at "h"); (case l => exact rfl))
  | (with_reducible refine' go_dput ?_)
  | ((with_reducible refine' go_DPutS ?h ?l ?e ?_); (case h => walk_at "h"); (case l => exact Nat.le_of_ble_eq_true rfl); (case e => walk_at "pk"); intro H1 n1)
  | ((with_reducible refine' go_disp ?_); intro p H1 n1)
  | (with_reducible refine' go_pairs ?_)
  | (with_reducible refine' go_pairs0 ?_)
  | ((with_reducible refine' go_DispS ?h ?e ?l ?k ?j ?m ?_); (case h => walk_at "h"); (case e => exact rfl); (case l => exact Nat.le_of_ble_eq_true rfl); (case k => (simp only [unS]; exact rfl)); (case j => (simp only [List.map_cons, List.map_nil]; exact rfl)); (case m => decide +kernel); intro H1 n1)
  | (with_reducible refine' go_par ?_)
  | ((with_reducible refine' go_ParK ?h ?_); (case h => (simp only [List.set_cons_zero, List.set_cons_succ]; exact rfl)))
  | (with_reducible refine' go_sub_ ?_)
  | ((with_reducible refine' go_setLi ?h ?k ?_); (case h => walk_at "h"); (case k => walk_at "ix"); intro H1 n1)
  | (with_reducible refine' go_listY ?_)
  | ((with_reducible refine' go_listYL ?h ?_); (case h => walk_at "h"))
  | (with_reducible refine' go_bmS ?_)
  | (with_reducible refine' go_ckw ?_)
  | ((with_reducible refine' go_maxD ?h ?_); (case h => walk_at "h"))
  | (with_reducible refine' go_listR ?_)
  | (with_reducible refine' go_rg2 ?_)
  | (with_reducible refine' go_Rg2K ?_)
  | (with_reducible refine' go_rg1 ?_)
  | (with_reducible refine' go_Rg1K ?_)
  | ((with_reducible refine' go_ListRK ?h ?_); (case h => omega); intro p H1 n1)
  | (with_reducible refine' go_enum ?_)
  | ((with_reducible refine' go_EnumL ?h ?_); (case h => walk_at "h"))
  | (with_reducible refine' go_isX ?_)
  | (with_reducible refine' go_isXt ?_)
  | (with_reducible refine' go_din ?_)
  | (with_reducible refine' go_dnotin ?_)
  | ((with_reducible refine' go_DInI ?h ?_); (case h => walk_at "h"))
  | ((with_reducible refine' go_DNotInI ?h ?_); (case h => walk_at "h"))
  | (with_reducible refine' go_dget2 ?_)
  | ((with_reducible refine' go_DGet2K ?h ?_); (case h => walk_at "h"))
  | (with_reducible refine' go_dpop1 ?_)
  | ((with_reducible refine' go_eqDE ?h ?k ?_); (case h => walk_at "h"); (case k => walk_at "h"))
  | ((with_reducible refine' go_neDE ?h ?k ?_); (case h => walk_at "h"); (case k => walk_at "h"))
  | (with_reducible refine' go_chain3 ?_)
  | (with_reducible refine' go_LinkT ?_)
  | (with_reducible refine' go_LinkF ?_)
  | (with_reducible refine' go_Link2T ?_)
  | (with_reducible refine' go_Link2F ?_)
  | (with_reducible refine' go_gSl ?_)
  | ((with_reducible refine' go_insert ?h ?k ?l ?m ?_); (case h => walk_at "h"); (case k => walk_at "z"); (case l => omega); (case m => omega); intro H1 n1)
  | (with_reducible refine' go_gCons ?_))
local macro_rules | `(tactic| walk_at "pf") => `(tactic| first
  | exact putF_nil
  | exact putF_hit
  | (refine' putF_miss ?h ?k; (case h => decide +kernel); (case k => walk_at "pf")))
local macro_rules | `(tactic| walk_at "pk") => `(tactic| first
  | exact putK_nil
  | exact putK_hit (by (simp only [List.map_cons, List.map_nil]; decide +kernel))
  | (refine' putK_miss ?h ?k; (case h => decide +kernel); (case k => walk_at "pk")))
local macro_rules | `(tactic| walk_at "ix") => `(tactic| first
  | assumption
  | omega
  | (simp only [List.length_cons, List.length_nil, List.length_append, List.length_map, List.length_range, List.length_replicate, List.length_set] at *; omega))
local macro_rules | `(tactic| walk_at "pr") => `(tactic| first
  | assumption
  | decide
  | omega
  | exact rfl
  | (intro z; cases z; done))
local macro_rules | `(tactic| walk_at "hk") => `(tactic| first
  | assumption
  | exact seq' (by assumption) (by walk_at "sm"))
local macro_rules | `(tactic| walk_at "ty") => `(tactic| first
  | exact rfl
  | assumption
  | exact tyN_L (by walk_at "h")
  | exact tyN_T (by walk_at "h")
  | exact tyN_D (by walk_at "h"))
local macro_rules | `(tactic| walk_at "go") => `(tactic| repeat (walk_at "s"))
/-! ### the law's own look at a line -/
section
variable {K : PySem.W.Frag} {a : Ac} {H : Hp} {Q : VK} {E : XK} [F : Fc K a] {w w0 cs : List Nat} {ws zs : List (List Nat)} {p r T : Addr} {x : V} {n : String} {vs : List V} {pt : Pt} {ps : List Pt}
theorem p_L_number_of (hl : w.length ≤ 900) (lo : Low w) (q : okNum w = true → ∀ H', Same H H' → Q (.int (NumText.digitsVal w : Nat)) H') (e : okNum w = false → ∀ H', Same H H' → Q .non H') : sp_L_number_of K a [.str (tx w)] H Q E := by
  refine in_L_number_of ?_
  unfold t_L_number_of
  have e48 : Str.ofString "0" = tx [48] := by decide +kernel
  rw [e48, tx_dgs]
  have no : ¬ okNum w = true → ∀ H', Same H H' → Q .non H' := fun z => e (by cases h : okNum w; rfl; exact absurd h z)
  walk_at "go"
  refine go_lenTx (by omega) ?_
  walk_at "go"
  refine go_dec (fun c1 => ?_) (fun c1 => ?_)
  rotate_left
  · walk_at "go"
    exact no (fun z => c1 (by have := (okNum_head z).1; omega)) _ (Same.refl _)
  walk_at "go"
  refine go_decN (fun c2 => ?_) (fun c2 => ?_)
  · walk_at "go"
    exact no (fun z => c2 (by have := (okNum_head z).1; omega)) _ (Same.refl _)
  walk_at "go"
  refine lc_S (p := fun c => !decide (c ∈ dgs)) (f := fun c => tv [c]) (by omega) (fun i c H' QB hc s k => ?_) (fun i c H' Q' hc hp s k => ?_) fun D H2 hD s hd => ?_
  · simp only [List.set_cons_zero, List.set_cons_succ]
    walk_at "go"
    refine go_notInTx ?_
    walk_at "go"
    exact k _ (Same.refl _)
  · simp only [List.set_cons_zero, List.set_cons_succ]
    walk_at "go"
    exact k _ (Same.refl _)
  walk_at "go"
  rename_i p0 H3 n3
  have hd' : H2 D = some (.lst (((w.filter fun c => !decide (c ∈ dgs)).map fun c => [c]).map tv)) := by rw [hd, List.map_map]; rfl
  refine go_neTs (n3.old hd') (ws := []) n3.at (fun cs hcs c hc => ?_) (fun cs hcs => absurd hcs List.not_mem_nil) ?_
  · obtain ⟨d, hd2, rfl⟩ := List.mem_map.mp hcs
    rw [List.mem_singleton.mp hc]
    exact lo d (List.mem_filter.mp hd2).1
  have s3 := s.trans n3.same
  by_cases c3 : ∀ c ∈ w, c ∈ dgs
  rotate_left
  · have : ¬ ((w.filter fun c => !decide (c ∈ dgs)).map fun c => [c]) = [] := fun z => c3 fun c hc => by
      have := List.filter_eq_nil_iff.mp (List.map_eq_nil_iff.mp z) c hc
      simpa using this
    rw [decide_eq_false this]
    walk_at "go"
    exact no (fun z => c3 (okNum_head z).2.2) _ s3
  rw [decide_eq_true (show ((w.filter fun c => !decide (c ∈ dgs)).map fun c => [c]) = [] from by rw [List.filter_eq_nil_iff.mpr fun c hc => by simp [c3 c hc]]; rfl)]
  obtain ⟨c, r, rfl⟩ : ∃ c r, w = c :: r := by
    cases w with
    | nil => simp at c1
    | cons c r => exact ⟨c, r, rfl⟩
  walk_at "go"
  refine go_ixTx (c := c) (by omega) (by omega) rfl ?_
  walk_at "go"
  have fin : okNum (c :: r) = true → Q (.int (NumText.digitsVal (c :: r) : Nat)) H3 := fun ok => q ok _ s3
  rw [show decide (tx [c] = tx [48]) = decide ([c] = [48]) from decide_eq_decide.mpr tx_inj]
  walk_at "go"
  refine go_dec (fun h48 => ?_) (fun h48 => ?_)
  · walk_at "go"
    refine go_lenTx (by omega) ?_
    walk_at "go"
    refine go_dec (fun l1 => ?_) (fun l1 => ?_)
    · walk_at "go"
      refine no (fun z => ?_) _ s3
      rcases (okNum_head z).2.1 with y | y
      · rw [y] at l1; simp at l1
      · exact y (by rw [(List.cons.inj h48).1]; rfl)
    · walk_at "go"
      have hr : r = [] := List.eq_nil_of_length_eq_zero (by simp at l1; omega)
      have ok : okNum (c :: r) = true := okNum_of (by omega) (.inl (by rw [hr, (List.cons.inj h48).1])) c3
      exact .inr ⟨tx (c :: r), _, rfl, int_tx ok, by rw [tx_len]; omega, fin ok⟩
  · walk_at "go"
    have ok : okNum (c :: r) = true := okNum_of (by omega) (.inr fun y => h48 (by rw [Option.some.inj y])) c3
    exact .inr ⟨tx (c :: r), _, rfl, int_tx ok, by rw [tx_len]; omega, fin ok⟩
def kv : Kd → V
  | .p => .str (tx (tx0 "path"))
  | .n => .str (tx (tx0 "number"))
  | .l => .str (tx (tx0 "list"))
theorem p_L_parts (er : H p = some (.lst ((w0 :: ws).map tv))) (q : ∀ ks, kinds w0 = some ks → ∀ P H', Same H H' → H P = none → H' P = some (.lst (ks.map kv)) → Q (.ref P) H') (e : kinds w0 = none → ∀ H', Same H H' → Q .non H') : sp_L_parts K a [.ref p] H Q E := by
  refine in_L_parts ?_
  unfold t_L_parts
  simp only [tx0_eq]
  walk_at "go"
  refine go_ixAt er (by omega) rfl ?_
  walk_at "go"
  rename_i p1 H1 n1
  refine go_inTs (zs := L1) n1.at ?_
  walk_at "go"
  refine go_dec (fun h1 => ?_) (fun h1 => ?_)
  · walk_at "go"
    rename_i P H2 n2
    exact q _ (kinds1 h1) P H2 (n1.same.trans n2.same) (n1.same.free n2.free) n2.at
  walk_at "go"
  refine go_ixAt (n1.old er) (by omega) rfl ?_
  walk_at "go"
  rename_i p2 H2 n2
  refine go_inTs (zs := L2_) n2.at ?_
  have s2 := n1.same.trans n2.same
  walk_at "go"
  refine go_dec (fun h2 => ?_) (fun h2 => ?_)
  · walk_at "go"
    rename_i P H3 n3
    exact q _ (kinds2 h1 h2) P H3 (s2.trans n3.same) (s2.free n3.free) n3.at
  walk_at "go"
  refine go_ixAt (n2.old (n1.old er)) (by omega) rfl ?_
  walk_at "go"
  rename_i p3 H3 n3
  refine go_inTs (zs := L3) n3.at ?_
  have s3 := s2.trans n3.same
  have er3 := s3 _ _ er
  walk_at "go"
  refine go_dec (fun h3 => ?_) (fun h3 => ?_)
  · walk_at "go"
    rename_i P H4 n4
    exact q _ (kinds3 h1 h2 h3) P H4 (s3.trans n4.same) (s3.free n4.free) n4.at
  walk_at "go"
  refine go_ixAt er3 (by omega) rfl ?_
  walk_at "go"
  refine go_eqTx (a := w0) ?_
  walk_at "go"
  refine go_dec (fun h4 => ?_) (fun h4 => ?_)
  · subst h4
    walk_at "go"
    rename_i P H4 n4
    exact q _ k_put P H4 (s3.trans n4.same) (s3.free n4.free) n4.at
  walk_at "go"
  refine go_ixAt er3 (by omega) rfl ?_
  walk_at "go"
  refine go_eqTx (a := w0) ?_
  walk_at "go"
  refine go_dec (fun h5 => ?_) (fun h5 => ?_)
  · subst h5
    walk_at "go"
    rename_i P H4 n4
    exact q _ k_cut P H4 (s3.trans n4.same) (s3.free n4.free) n4.at
  walk_at "go"
  refine go_ixAt er3 (by omega) rfl ?_
  walk_at "go"
  refine go_eqTx (a := w0) ?_
  walk_at "go"
  refine go_dec (fun h6 => ?_) (fun h6 => ?_)
  · subst h6
    walk_at "go"
    rename_i P H4 n4
    exact q _ k_words P H4 (s3.trans n4.same) (s3.free n4.free) n4.at
  walk_at "go"
  refine go_ixAt er3 (by omega) rfl ?_
  walk_at "go"
  refine go_eqTx (a := w0) ?_
  walk_at "go"
  refine go_dec (fun h7 => ?_) (fun h7 => ?_)
  · subst h7
    walk_at "go"
    rename_i P H4 n4
    exact q _ k_stop P H4 (s3.trans n4.same) (s3.free n4.free) n4.at
  walk_at "go"
  refine e (kinds4 h1 h2 h3 ?_) _ s3
  unfold L4
  simp only [List.mem_cons, List.not_mem_nil, or_false, not_or]
  exact ⟨h4, h5, h6, h7⟩
end

end Bk

namespace Bk
open PySem L2 PyProof.Rows
/-! our own short tactics: h: what stands at a place; ne: two places; sm: what stood stands; z: a size; s: a step; go: steps -/
local macro_rules | `(tactic| walk_at "h") => `(tactic| first
  | assumption
  | exact New.at (by assumption)
  | exact Wr.at (by assumption)
  | (refine' New.old (by assumption) ?_; walk_at "h")
  | (refine' Same.at (by assumption) ?_; walk_at "h")
  | (refine' Wr.old (by assumption) ?_ ?_; walk_at "ne"; walk_at "h")
  | (refine' Chg.at (by assumption) ?_ ?_; walk_at "ni"; walk_at "h"))
local macro_rules | `(tactic| walk_at "ni") => `(tactic| first
  | exact ni_nil
  | assumption
  | (refine' ni_cons ?_ ?_; walk_at "ne"; walk_at "ni"))
local macro_rules | `(tactic| walk_at "ne") => `(tactic| first
  | assumption
  | exact Ne.symm (by assumption)
  | exact New.ne (by assumption) (by walk_at "h")
  | exact ne_none (by assumption) (by walk_at "h")
  | exact Ne.symm (ne_none (by assumption) (by walk_at "h"))
  | exact Ne.symm (New.ne (by assumption) (by walk_at "h")))
local macro_rules | `(tactic| walk_at "sm") => `(tactic| first
  | exact Same.refl _
  | assumption
  | (refine' Same.trans ?_ (New.same (by assumption)); walk_at "sm")
  | (refine' Same.trans ?_ (by assumption : Same _ _); walk_at "sm"))
local macro_rules | `(tactic| walk_at "z") => `(tactic| first
  | assumption
  | (rw [PySem.sizeLine_eq]; omega)
  | (rw [PySem.sizeLine_eq]; simp only [List.length_cons, List.length_nil, List.length_append, List.length_map, List.length_range, List.length_replicate, len_cut]; omega)
  | (rw [PySem.sizeLine_eq]; simp only [List.length_cons, List.length_nil, List.length_append, List.length_map, List.length_range, List.length_replicate, len_cut] at *; omega))
local macro_rules | `(tactic| walk_at "s") => `(tactic| first
  | ((with_reducible refine' go_var ?h ?_); (case h => exact rfl))
  | (with_reducible refine' go_c ?_)
  | (with_reducible refine' go_op ?_)
  | (with_reducible refine' go_un ?_)
  | (with_reducible refine' go_rU ?_)
  | (with_reducible refine' go_seq ?_)
  | (with_reducible refine' go_ret ?_)
  | (with_reducible refine' go_retN ?_)
  | (with_reducible refine' go_next ?_)
  | (with_reducible refine' go_drop ?_)
  | (with_reducible refine' go_asg ?_)
  | ((with_reducible refine' go_name2 ?h ?_); (case h => (simp only [List.set_cons_zero, List.set_cons_succ]; exact rfl)))
  | ((with_reducible refine' go_name2 ?h ?_); (case h => exact rfl))
  | (with_reducible refine' go_ifS ?_)
  | (with_reducible refine' go_blk ?_)
  | (with_reducible refine' go_test ?_)
  | (with_reducible refine' go_tB ?_)
  | (with_reducible refine' go_and ?_)
  | (with_reducible refine' go_or ?_)
  | (with_reducible refine' go_not ?_)
  | (with_reducible refine' go_andV ?_)
  | (with_reducible refine' go_orV ?_)
  | (with_reducible refine' go_notV ?_)
  | (with_reducible refine' go_if ?_)
  | (with_reducible refine' go_chain ?_)
  | (with_reducible refine' iteT ?_)
  | (with_reducible refine' iteF ?_)
  | ((with_reducible refine' go_Td ?h ?_); (case h => walk_at "pr"))
  | ((with_reducible refine' go_Fd ?h ?_); (case h => walk_at "pr"))
  | ((with_reducible refine' go_Tn ?h ?_); (case h => walk_at "pr"))
  | ((with_reducible refine' go_Fn ?h ?_); (case h => walk_at "pr"))
  | ((with_reducible refine' go_T ?h ?_); (case h => (first | decide | assumption | exact rfl)))
  | ((with_reducible refine' go_F ?h ?_); (case h => (first | decide | assumption | exact rfl)))
  | (with_reducible refine' go_nil ?_)
  | (with_reducible refine' go_cons ?_)
  | (with_reducible refine' go_tLst ?_)
  | (with_reducible refine' go_tTup ?_)
  | ((with_reducible refine' go_LstK ?h ?_); (case h => walk_at "z"); intro p H1 n1)
  | ((with_reducible refine' go_TupK ?h ?_); (case h => walk_at "z"); intro p H1 n1)
  | (with_reducible refine' go_addI ?_)
  | ((with_reducible refine' go_addL ?h ?k ?z ?_); (case h => walk_at "h"); (case k => walk_at "h"); (case z => walk_at "z"); intro p H1 n1)
  | (with_reducible refine' go_sub ?_)
  | ((with_reducible refine' go_mulI ?h ?_); (case h => (unfold CMul; omega)))
  | ((with_reducible refine' go_mulL ?h ?k ?_); (case h => walk_at "h"); (case k => (refine ⟨by omega, by omega, ?_⟩; walk_at "z")); intro p H1 n1)
  | ((with_reducible refine' go_div ?h ?_); (case h => (unfold CDiv; omega)))
  | ((with_reducible refine' go_mod ?h ?_); (case h => omega))
  | (with_reducible refine' go_p109 ?_)
  | (with_reducible refine' go_p1020 ?_)
  | ((with_reducible refine' go_pow ?h ?_); (case h => (unfold CPow; omega)))
  | (with_reducible refine' go_lt ?_)
  | (with_reducible refine' go_le ?_)
  | (with_reducible refine' go_gt ?_)
  | (with_reducible refine' go_ge ?_)
  | (with_reducible refine' go_eqI ?_)
  | (with_reducible refine' go_eqB ?_)
  | (with_reducible refine' go_eqS ?_)
  | (with_reducible refine' go_neI ?_)
  | (with_reducible refine' go_neB ?_)
  | (with_reducible refine' go_neS ?_)
  | (with_reducible refine' go_isN ?_)
  | (with_reducible refine' go_isNotN ?_)
  | (with_reducible refine' go_isB ?_)
  | (with_reducible refine' go_isNotB ?_)
  | (with_reducible refine' go_sl ?_)
  | (with_reducible refine' go_noPart ?_)
  | (with_reducible refine' go_part ?_)
  | (with_reducible refine' go_intK ?_)
  | ((with_reducible refine' go_slL ?h ?_); (case h => walk_at "h"); intro p H1 n1)
  | ((with_reducible refine' go_ixL ?h ?k ?_); (case h => walk_at "h"); (case k => exact rfl))
  | ((with_reducible refine' go_ixT ?h ?k ?_); (case h => walk_at "h"); (case k => exact rfl))
  | ((with_reducible refine' go_slW ?h ?_); (case h => walk_at "h"))
  | (with_reducible refine' go_bm ?_)
  | (with_reducible refine' go_bm0 ?_)
  | ((with_reducible refine' go_bmL ?h ?_); (case h => walk_at "h"))
  | ((with_reducible refine' go_append ?h ?k ?_); (case h => walk_at "h"); (case k => walk_at "z"); intro H1 n1)
  | ((with_reducible refine' go_extend ?h ?k ?z ?_); (case h => walk_at "h"); (case k => walk_at "h"); (case z => walk_at "z"); intro H1 n1)
  | ((with_reducible refine' go_clear ?h ?_); (case h => walk_at "h"); intro H1 n1)
  | ((with_reducible refine' go_dnew ?_); intro p H1 n1)
  | (with_reducible refine' go_cb ?_)
  | (with_reducible refine' go_callS ?_)
  | (with_reducible refine' go_call0 ?_)
  | ((with_reducible refine' go_lenL ?h ?_); (case h => walk_at "h"))
  | ((with_reducible refine' go_lenT ?h ?_); (case h => walk_at "h"))
  | ((with_reducible refine' go_lenK ?h ?_); (case h => walk_at "hk"))
  | ((with_reducible refine' go_listL ?h ?_); (case h => walk_at "h"); intro p H1 n1)
  | ((with_reducible refine' go_listT ?h ?_); (case h => walk_at "h"); intro p H1 n1)
  | ((with_reducible refine' go_tupleL ?h ?_); (case h => walk_at "h"); intro p H1 n1)
  | (with_reducible refine' go_intI ?_)
  | (with_reducible refine' go_intB ?_)
  | (with_reducible refine' go_abs ?_)
  | (with_reducible refine' go_min2 ?_)
  | (with_reducible refine' go_max2 ?_)
  | ((with_reducible refine' go_isi ?h ?k ?_); (case h => walk_at "ty"); (case k => exact kit_bb (by decide) (by decide)))
  | (with_reducible refine' go_lc ?_)
  | (with_reducible refine' go_for ?_)
  | (with_reducible refine' go_seqP ?_)
  | ((with_reducible refine' go_seqL ?h ?_); (case h => walk_at "h"))
  | ((with_reducible refine' go_seqT ?h ?_); (case h => walk_at "h"))
  | (with_reducible refine' go_seqS ?_)
  | (with_reducible refine' go_rng1 ?_)
  | (with_reducible refine' go_rng2 ?_)
  | ((with_reducible refine' go_rng1K ?h ?_); (case h => omega))
  | ((with_reducible refine' go_rng2K ?h ?_); (case h => omega))
  | (with_reducible refine' go_raise ?_)
  | ((with_reducible refine' go_tupG ?h ?k ?_); (case h => walk_at "h"); (case k => exact rfl))
  | ((with_reducible refine' go_lstG ?h ?k ?_); (case h => walk_at "h"); (case k => exact rfl))
  | (with_reducible refine' go_gNil ?_)
  | (with_reducible refine' go_tryAs ?_)
  | (with_reducible refine' go_tryMany1 ?_)
  | (with_reducible refine' go_tryMany2 ?_)
  | (with_reducible refine' go_WM ?_)
  | ((with_reducible refine' go_asT ?_); intro e he)
  | (with_reducible refine' go_asF ?_)
  | ((with_reducible refine' go_manyT ?_); intro e he)
  | (with_reducible refine' go_manyF ?_)
  | (with_reducible refine' go_manyN ?_)
  | (with_reducible refine' go_fld ?_)
  | ((with_reducible refine' go_FldK ?h ?c ?n ?l ?_); (case h => walk_at "h"); (case c => infer_instance); (case n => infer_instance); (case l => exact rfl))
  | (with_reducible refine' go_sfld ?_)
  | ((with_reducible refine' go_SFldK ?h ?c ?n ?l ?e ?_); (case h => walk_at "h"); (case c => infer_instance); (case n => infer_instance); (case l => exact Nat.le_of_ble_eq_true rfl); (case e => walk_at "pf"); intro H1 n1)
  | (with_reducible refine' go_meth ?_)
  | ((with_reducible refine' go_MethK 0 ?h ?l ?e ?_); (case h => walk_at "h"); (case l => exact rfl); (case e => exact rfl))
  | ((with_reducible refine' go_MethK 1 ?h ?l ?e ?_); (case h => walk_at "h"); (case l => exact rfl); (case e => exact rfl))
  | ((with_reducible refine' go_MethK 2 ?h ?l ?e ?_); (case h => walk_at "h"); (case l => exact rfl); (case e => exact rfl))
  | (with_reducible refine' go_make ?_)
  | (with_reducible refine' go_callX ?_)
  | (with_reducible refine' go_methX ?_)
  | ((with_reducible refine' go_MethXK ?h ?l ?_); (case h => walk_at "h"); (case l => exact rfl))
  | (with_reducible refine' go_dget ?_)
  | ((with_reducible refine' go_DGetS ?h ?l ?_); (case h => walk_at "h"); (case l => exact rfl))
  | (with_reducible refine' go_dput ?_)
  | ((with_reducible refine' go_DPutS ?h ?l ?e ?_); (case h => walk_at "h"); (case l => exact Nat.le_of_ble_eq_true rfl); (case e => walk_at "pk"); intro H1 n1)
  | ((with_reducible refine' go_disp ?_); intro p H1 n1)
  | (with_reducible refine' go_pairs ?_)
  | (with_reducible refine' go_pairs0 ?_)
  | ((with_reducible refine' go_DispS ?h ?e ?l ?k ?j ?m ?_); (case h => walk_at "h"); (case e => exact rfl); (case l => exact Nat.le_of_ble_eq_true rfl); (case k => (simp only [unS]; exact rfl)); (case j => (simp only [List.map_cons, List.map_nil]; exact rfl)); (case m => decide +kernel); intro H1 n1)
  | (with_reducible refine' go_par ?_)
  | ((with_reducible refine' go_ParK ?h ?_); (case h => (simp only [List.set_cons_zero, List.set_cons_succ]; exact rfl)))
  | (with_reducible refine' go_sub_ ?_)
  | ((with_reducible refine' go_setLi ?h ?k ?_); (case h => walk_at "h"); (case k => walk_at "ix"); intro H1 n1)
  | (with_reducible refine' go_listY ?_)
  | ((with_reducible refine' go_listYL ?h ?_); (case h => walk_at "h"))
  | (with_reducible refine' go_bmS ?_)
  | (with_reducible refine' go_ckw ?_)
  | ((with_reducible refine' go_maxD ?h ?_); (case h => walk_at "h"))
  | (with_reducible refine' go_listR ?_)
  | (with_reducible refine' go_rg2 ?_)
  | (with_reducible refine' go_Rg2K ?_)
  | (with_reducible refine' go_rg1 ?_)
  | (with_reducible refine' go_Rg1K ?_)
  | ((with_reducible refine' go_ListRK ?h ?_); (case h => omega); intro p H1 n1)
  | (with_reducible refine' go_enum ?_)
  | ((with_reducible refine' go_EnumL ?h ?_); (case h => walk_at "h"))
  | (with_reducible refine' go_isX ?_)
  | (with_reducible refine' go_isXt ?_)
  | (with_reducible refine' go_din ?_)
  | (with_reducible refine' go_dnotin ?_)
  | ((with_reducible refine' go_DInI ?h ?_); (case h => walk_at "h"))
  | ((with_reducible refine' go_DNotInI ?h ?_); (case h => walk_at "h"))
  | (with_reducible refine' go_dget2 ?_)
  | ((with_reducible refine' go_DGet2K ?h ?_); (case h => walk_at "h"))
  | (with_reducible refine' go_dpop1 ?_)
  | ((with_reducible refine' go_eqDE ?h ?k ?_); (case h => walk_at "h"); (case k => walk_at "h"))
  | ((with_reducible refine' go_neDE ?h ?k ?_); (case h => walk_at "h"); (case k => walk_at "h"))
  | (with_reducible refine' go_chain3 ?_)
  | (with_reducible refine' go_LinkT ?_)
  | (with_reducible refine' go_LinkF ?_)
  | (with_reducible refine' go_Link2T ?_)
  | (with_reducible refine' go_Link2F ?_)
  | (with_reducible refine' go_gSl ?_)
  | ((with_reducible refine' go_insert ?h ?k ?l ?m ?_); (case h => walk_at "h"); (case k => walk_at "z"); (case l => omega); (case m => omega); intro H1 n1)
  | (with_reducible refine' go_gCons ?_))
local macro_rules | `(tactic| walk_at "pf") => `(tactic| first
  | exact putF_nil
  | exact putF_hit
  | (refine' putF_miss ?h ?k; (case h => decide +kernel); (case k => walk_at "pf")))
local macro_rules | `(tactic| walk_at "pk") => `(tactic| first
  | exact putK_nil
  | exact putK_hit (by (simp only [List.map_cons, List.map_nil]; decide +kernel))
  | (refine' putK_miss ?h ?k; (case h => decide +kernel); (case k => walk_at "pk")))
local macro_rules | `(tactic| walk_at "ix") => `(tactic| first
  | assumption
  | omega
  | (simp only [List.length_cons, List.length_nil, List.length_append, List.length_map, List.length_range, List.length_replicate, List.length_set] at *; omega))
local macro_rules | `(tactic| walk_at "pr") => `(tactic| first
  | assumption
  | decide
  | omega
  | exact rfl
  | (intro z; cases z; done))
local macro_rules | `(tactic| walk_at "hk") => `(tactic| first
  | assumption
  | exact seq' (by assumption) (by walk_at "sm"))
local macro_rules | `(tactic| walk_at "ty") => `(tactic| first
  | exact rfl
  | assumption
  | exact tyN_L (by walk_at "h")
  | exact tyN_T (by walk_at "h")
  | exact tyN_D (by walk_at "h"))
local macro_rules | `(tactic| walk_at "go") => `(tactic| repeat (walk_at "s"))
section
variable {K : PySem.W.Frag} {a : Ac} {H H' : Hp} {Q : VK} {E : XK} [F : Fc K a] {w w0 cs : List Nat} {ws zs : List (List Nat)} {p r T T1 T2 O : Addr} {x v : V} {n : String} {vs : List V} {pt : Pt} {ps : List Pt} {ks : List Kd} {k : Kd}
omit F in
theorem rdAll_snoc : ∀ {ks : List Kd} {ws : List (List Nat)} {ps : List Pt}, rdAll ks ws = some ps → rd k w = some pt → rdAll (ks ++ [k]) (ws ++ [w]) = some (ps ++ [pt])
  | [], [], ps, h, e => by
    cases h
    show (rd k w).bind _ = _
    rw [e]; rfl
  | k' :: ks, w' :: ws, ps, h, e => by
    have h : (rd k' w').bind (fun p => (rdAll ks ws).map (p :: ·)) = some ps := h
    show (rd k' w').bind (fun p => (rdAll (ks ++ [k]) (ws ++ [w])).map (p :: ·)) = _
    cases h1 : rd k' w' with
    | none => rw [h1] at h; cases h
    | some p1 =>
      rw [h1] at h
      cases h2 : rdAll ks ws with
      | none => rw [h2] at h; cases h
      | some ps2 =>
        rw [h2] at h
        cases h
        show (rdAll (ks ++ [k]) (ws ++ [w])).map (p1 :: ·) = _
        rw [rdAll_snoc h2 e]; rfl
  | [], _ :: _, _, h, _ => by cases h
  | _ :: _, [], _, h, _ => by cases h
omit F in
theorem rdAll_bad : ∀ {i : Nat} {ks : List Kd} {ws : List (List Nat)}, ks[i]? = some k → ws[i]? = some w → rd k w = none → rdAll ks ws = none
  | _, [], _, h, _, _ => by cases h
  | _, _ :: _, [], _, h, _ => by cases h
  | 0, k' :: ks, w' :: ws, h1, h2, e => by
    cases h1; cases h2
    show (rd k w).bind _ = none
    rw [e]; rfl
  | i + 1, k' :: ks, w' :: ws, h1, h2, e => by
    have ih := rdAll_bad (i := i) (ks := ks) (ws := ws) h1 h2 e
    show (rd k' w').bind (fun p => (rdAll ks ws).map (p :: ·)) = _
    rw [ih]
    cases rd k' w' <;> rfl
omit F in
theorem PAt.chg (h : PAt H x pt) (c : Chg [O] H H') (n : x ≠ .ref O) : PAt H' x pt := by
  cases pt with
  | t cs => exact h
  | n k => exact h
  | l ns =>
    obtain ⟨p, rfl, e⟩ := h
    exact ⟨p, rfl, c.at (fun z => n (by rw [List.mem_singleton.mp z])) e⟩
omit F in
theorem AllP.chg : ∀ {vs : List V} {ps : List Pt}, AllP H vs ps → Chg [O] H H' → (∀ v ∈ vs, v ≠ .ref O) → AllP H' vs ps
  | [], [], _, _, _ => trivial
  | v :: vs, p :: ps, h, c, n => ⟨h.1.chg c (n v List.mem_cons_self), AllP.chg h.2 c fun y hy => n y (List.mem_cons_of_mem _ hy)⟩
  | [], _ :: _, h, _, _ => h.elim
  | _ :: _, [], h, _, _ => h.elim
omit F in
theorem AllP.same : ∀ {vs : List V} {ps : List Pt}, AllP H vs ps → Same H H' → AllP H' vs ps
  | [], [], _, _ => trivial
  | v :: vs, p :: ps, h, c => ⟨h.1.same c, AllP.same h.2 c⟩
  | [], _ :: _, h, _ => h.elim
  | _ :: _, [], h, _ => h.elim
omit F in
theorem AllP.snoc : ∀ {vs : List V} {ps : List Pt}, AllP H vs ps → PAt H v pt → AllP H (vs ++ [v]) (ps ++ [pt])
  | [], [], _, h => ⟨h, trivial⟩
  | v :: vs, p :: ps, h, k => ⟨h.1, AllP.snoc h.2 k⟩
  | [], _ :: _, h, _ => h.elim
  | _ :: _, [], h, _ => h.elim
def nv (w : List Nat) : V := if okNum w = true then .int (NumText.digitsVal w : Nat) else .non
omit F in
theorem nv_flat : flatV (nv w) = true := by
  unfold nv
  split <;> rfl
omit F in
theorem inV_nv : inV .non (zs.map nv) = !(zs.all okNum) := by
  unfold inV
  induction zs with
  | nil => rfl
  | cons z zs ih =>
    rw [List.map_cons, List.any_cons, ih, List.all_cons, Bool.not_and]
    congr 1
    unfold nv
    cases h : okNum z <;> simp <;> rfl
omit F in
theorem nv_all (h : zs.all okNum = true) : zs.map nv = (zs.map NumText.digitsVal).map fun k : Nat => V.int k := by
  rw [List.map_map]
  refine List.map_congr_left fun z hz => ?_
  unfold nv
  rw [if_pos (List.all_eq_true.mp h z hz)]; rfl
theorem p_L_number_nv (hl : w.length ≤ 900) (lo : Low w) (q : ∀ H', Same H H' → Q (nv w) H') : sp_L_number_of K a [.str (tx w)] H Q E := by
  refine p_L_number_of hl lo (fun ok H' s => ?_) (fun no H' s => ?_)
  · have := q H' s
    unfold nv at this
    rwa [if_pos ok] at this
  · have := q H' s
    unfold nv at this
    rwa [if_neg (by rw [no]; exact Bool.false_ne_true)] at this
theorem p_L_due (lz : cs.length ≤ 850) (lo : Low cs) (q : ∀ ps, due cs = some ps → ∀ T H', Same H H' → OAt H' T ps → Q (.ref T) H') (e : due cs = none → ∀ H', Same H H' → Q .non H') : sp_L_due K a [.str (tx cs)] H Q E := by
  refine in_L_due ?_
  unfold t_L_due
  simp only [tx0_eq]
  have en : tx0 " " = [32] := by decide +kernel
  have e44 : tx0 "," = [44] := by decide +kernel
  have e0 : tx0 "" = [] := rfl
  rw [en, e44, e0]
  walk_at "go"
  refine go_splitS (by omega) (by omega) fun p H1 n1 => ?_
  have cnt := psp_count (s := 32) cs []
  have len := psp_len (s := 32) cs []
  have low := psp_low (s := 32) cs [] (fun x hx => absurd hx List.not_mem_nil) lo
  obtain ⟨w0, ws, ew⟩ := psp_cons (s := 32) cs []
  rw [ew] at n1 cnt len low
  have lw : ∀ w ∈ ws, w.length ≤ 900 := fun w hw => by have := len w (List.mem_cons_of_mem _ hw); simp at this; omega
  have ln : (((w0 :: ws).map tv).length : Int) = ws.length + 1 := by simp
  simp only [List.length_cons] at cnt
  walk_at "go"
  refine p_L_parts n1.at (fun ks hk P H2 s2 nP eP => ?_) (fun hk H2 s2 => ?_)
  rotate_left
  · walk_at "go"
    refine go_inLs (s2 _ _ n1.at) ?_
    walk_at "go"
    refine go_dec (fun c => ?_) (fun c => ?_)
    · walk_at "go"
      exact e (due_nil (by rw [ew]; exact c)) _ (n1.same.trans s2)
    · walk_at "go"
      exact e ((due_eq ew c).trans (by rw [hk]; rfl)) _ (n1.same.trans s2)
  have e1 := s2 _ _ n1.at
  have s02 := n1.same.trans s2
  walk_at "go"
  refine go_inLs e1 ?_
  walk_at "go"
  refine go_dec (fun c0 => ?_) (fun c0 => ?_)
  · walk_at "go"
    exact e (due_nil (by rw [ew]; exact c0)) _ s02
  have dq := due_eq ew c0
  rw [hk] at dq
  have dq : due cs = if ks.length = ws.length then (rdAll ks ws).map (.t w0 :: ·) else none := dq
  walk_at "go"
  rw [ln, List.length_map]
  refine go_decN (fun c1 => ?_) (fun c1 => ?_)
  · walk_at "go"
    exact e (dq.trans (if_neg fun z => c1 (by omega))) _ s02
  have hlen : ks.length = ws.length := by omega
  rw [if_pos hlen] at dq
  have bad : rdAll ks ws = none → due cs = none := fun z => by rw [dq, z]; rfl
  have good : ∀ ps, rdAll ks ws = some ps → due cs = some (.t w0 :: ps) := fun ps z => by rw [dq, z]; rfl
  walk_at "go"
  refine go_ixAt e1 (by omega) rfl ?_
  walk_at "go"
  rename_i O H3 n3
  refine go_zip ?_
  walk_at "go"
  rename_i S H4 n4
  have e3 := n3.old e1
  have eS : H4 S = some (.lst (ws.map tv)) := by rw [n4.at, cut_drop _ (by omega)]; rfl
  have eP4 := n4.old (n3.old eP)
  have nPO : P ≠ O := n3.ne eP
  have nSO : S ≠ O := (n4.ne n3.at).symm
  have fO : H O = none := s02.free n3.free
  have same : ∀ {H5}, Chg [O] H4 H5 → Same H H5 := fun c => Chg.same (Chg.fresh (.of (s02.trans (n3.same.trans n4.same))) fO c)
  refine go_ZipL eP4 eS ?_
  refine for_Z (xs := ks.map kv) (ys := ws.map tv) (fun i σ' H' => ∃ v4 v5 v6 v7 vs ps, σ' = [some (.str (tx cs)), some (.ref p), some (.ref P), some (.ref O), v4, v5, v6, v7] ∧ H' O = some (.lst vs) ∧ vs.length = i + 1 ∧ rdAll (ks.take i) (ws.take i) = some ps ∧ AllP H' vs (.t w0 :: ps) ∧ (∀ v ∈ vs, v ≠ .ref O) ∧ Chg [O] H4 H')
    (by rw [List.length_map, List.length_map, hlen]) (fun i σ' H' ⟨_, _, _, _, _, _, _, _, _, _, _, _, c⟩ => ⟨c.at (by simpa using nPO) eP4, c.at (by simpa using nSO) eS⟩)
    ⟨_, _, _, _, _, [], rfl, n4.old n3.at, rfl, by simp [rdAll], ⟨rfl, trivial⟩, fun v hv => by rw [List.mem_singleton.mp hv]; exact fun z => (nomatch z), .refl⟩ ?_ ?_
  · rintro i x y σ' H' T H'' hx hy ⟨v4, v5, v6, v7, vs, ps, rfl, eO, lv, hr, hp, no, c⟩ nT
    rw [List.getElem?_map] at hx hy
    obtain ⟨k, hk', rfl⟩ := Option.map_eq_some_iff.mp hx
    obtain ⟨w, hw, rfl⟩ := Option.map_eq_some_iff.mp hy
    have lw' := lw w (List.mem_of_getElem? hw)
    have li : i < ws.length := (List.getElem?_eq_some_iff.mp hw).1
    have low' : Low w := low w (List.mem_cons_of_mem _ (List.mem_of_getElem? hw))
    have eO1 := nT.old eO
    have c1 : Chg [O] H4 H'' := c.trans (.new nT)
    have lv1 : vs.length < 1000 := by omega
    have fin : ∀ (found : V) (pt : Pt) (H5 H6 : Hp) (σ2 : Bk.St), rd k w = some pt → Same H'' H5 → PAt H5 found pt → found ≠ .ref O → Wr H5 O (.lst (vs ++ [found])) H6 → (∃ v4 v5 v6 v7, σ2 = [some (.str (tx cs)), some (.ref p), some (.ref P), some (.ref O), v4, v5, v6, v7]) →
        ∃ v4 v5 v6 v7 vs ps, σ2 = [some (.str (tx cs)), some (.ref p), some (.ref P), some (.ref O), v4, v5, v6, v7] ∧ H6 O = some (.lst vs) ∧ vs.length = (i + 1) + 1 ∧ rdAll (ks.take (i + 1)) (ws.take (i + 1)) = some ps ∧ AllP H6 vs (.t w0 :: ps) ∧ (∀ v ∈ vs, v ≠ .ref O) ∧ Chg [O] H4 H6 := by
      rintro found pt H5 H6 σ2 er s5 hpt nf w6 ⟨v4, v5, v6, v7, rfl⟩
      have c6 : Chg [O] H5 H6 := .wr w6 (List.mem_singleton.mpr rfl)
      have no' : ∀ v ∈ vs ++ [found], v ≠ .ref O := fun v hv => (List.mem_append.mp hv).elim (no v) fun hv => by rw [List.mem_singleton.mp hv]; exact nf
      refine ⟨v4, v5, v6, v7, vs ++ [found], ps ++ [pt], rfl, w6.at, by rw [List.length_append, lv]; rfl, ?_, ?_, no', (c1.trans (.of s5)).trans c6⟩
      · rw [take_succ_of hk', take_succ_of hw]
        exact rdAll_snoc hr er
      · exact AllP.chg (AllP.snoc (hp.same (nT.same.trans s5)) hpt) c6 no'
    cases k with
    | p =>
      replace nT : New H' T (.tup [kv .p, .str (tx w)]) H'' := nT
      walk_at "go"
      refine go_eqTxF (by decide +kernel) ?_
      walk_at "go"
      refine go_eqTxF (by decide +kernel) ?_
      walk_at "go"
      refine go_eqTxF (by decide +kernel) ?_
      walk_at "go"
      rename_i H6 w6
      exact fin (.str (tx w)) (.t w) H'' H6 _ rfl (Same.refl _) rfl (fun z => nomatch z) w6 ⟨_, _, _, _, rfl⟩
    | n =>
      replace nT : New H' T (.tup [kv .n, .str (tx w)]) H'' := nT
      walk_at "go"
      refine go_eqTxT ?_
      walk_at "go"
      refine p_L_number_of lw' low' (fun ok H5 s5 => ?_) (fun no' H5 s5 => ?_)
      · have eO5 := s5 _ _ eO1
        walk_at "go"
        refine go_eqTxF (by decide +kernel) ?_
        walk_at "go"
        refine go_eqTxF (by decide +kernel) ?_
        walk_at "go"
        rename_i H6 w6
        exact fin _ (.n (NumText.digitsVal w)) H5 H6 _ (by rw [rd_n, if_pos ok]) s5 rfl (fun z => nomatch z) w6 ⟨_, _, _, _, rfl⟩
      · walk_at "go"
        refine go_eqTxF (by decide +kernel) ?_
        walk_at "go"
        exact e (bad (rdAll_bad hk' hw (by rw [rd_n, if_neg (by rw [no']; exact Bool.false_ne_true)]))) _ ((same c1).trans s5)
    | l =>
      replace nT : New H' T (.tup [kv .l, .str (tx w)]) H'' := nT
      walk_at "go"
      refine go_eqTxF (by decide +kernel) ?_
      walk_at "go"
      refine go_eqTxT ?_
      walk_at "go"
      refine go_splitS (by omega) (by omega) fun p5 H5 n5 => ?_
      have cnt5 := psp_count (s := 44) w []
      have len5 := psp_len (s := 44) w []
      have low5 := psp_low (s := 44) w [] (fun x hx => absurd hx List.not_mem_nil) low'
      have rl : rd .l w = if (psp 44 [] w).all okNum then some (.l ((psp 44 [] w).map NumText.digitsVal)) else none := rfl
      generalize psp 44 [] w = zs at *
      walk_at "go"
      refine lc_mapL (f := fun v => match v with | .str z => nv z.cps.toList | v => v) n5.at (by rw [sizeLine_eq, List.length_map]; omega) (fun j y H6 Q' hy s k => ?_) fun D H6 hD s6 hd => ?_
      · rw [List.getElem?_map] at hy
        obtain ⟨z, hz, rfl⟩ := Option.map_eq_some_iff.mp hy
        have lz := len5 z (List.mem_of_getElem? hz)
        simp only [List.set_cons_zero, List.set_cons_succ, tv]
        walk_at "go"
        refine p_L_number_nv (by simp at lz; omega) (low5 z (List.mem_of_getElem? hz)) fun H7 s7 => ?_
        have := k H7 s7
        simp only [tv, tx_list] at this
        exact this
      have hd' : H6 D = some (.lst (zs.map nv)) := by
        rw [hd, List.map_map]
        congr 2
      have eO6 := s6 _ _ (n5.old eO1)
      have s06 : Same H'' H6 := n5.same.trans s6
      have nD : D ≠ O := fun z => by rw [z, n5.old eO1] at hD; cases hD
      walk_at "go"
      refine go_eqTxT ?_
      walk_at "go"
      refine .inl ⟨D, _, rfl, .inl (SqL.of hd'), rfl, List.all_eq_true.mpr fun y hy => by obtain ⟨b, _, rfl⟩ := List.mem_map.mp hy; exact nv_flat, ?_⟩
      rw [inV_nv]
      cases hz : zs.all okNum with
      | false =>
        walk_at "go"
        refine e (bad (rdAll_bad hk' hw ?_)) _ ((same c1).trans s06)
        rw [rl, hz]; rfl
      | true =>
        walk_at "go"
        rename_i H7 w7
        exact fin (.ref D) (.l (zs.map NumText.digitsVal)) H6 H7 _ (by rw [rl, hz]; rfl) s06 ⟨D, rfl, by rw [hd', nv_all hz]⟩ (fun z => nD (V.ref.inj z)) w7 ⟨_, _, _, _, rfl⟩
  · rintro σ' H' ⟨v4, v5, v6, v7, vs, ps, rfl, eO, lv, hr, hp, no, c⟩
    rw [List.length_map] at hr
    rw [List.take_length, hlen, List.take_length] at hr
    walk_at "go"
    rename_i T H5 n5
    exact q _ (good _ hr) T H5 ((same c).trans n5.same) (oat_of n5.at (hp.same n5.same))
end

end Bk

namespace Bk
open PySem L2 PyProof.Rows
/-! our own short tactics: h: what stands at a place; ne: two places; sm: what stood stands; z: a size; s: a step; go: steps -/
local macro_rules | `(tactic| walk_at "h") => `(tactic| first
  | assumption
  | exact New.at (by assumption)
  | exact Wr.at (by assumption)
  | (refine' New.old (by assumption) ?_; walk_at "h")
  | (refine' Same.at (by assumption) ?_; walk_at "h")
  | (refine' Wr.old (by assumption) ?_ ?_; walk_at "ne"; walk_at "h")
  | (refine' Chg.at (by assumption) ?_ ?_; walk_at "ni"; walk_at "h"))
local macro_rules | `(tactic| walk_at "ni") => `(tactic| first
  | exact ni_nil
  | assumption
  | (refine' ni_cons ?_ ?_; walk_at "ne"; walk_at "ni"))
local macro_rules | `(tactic| walk_at "ne") => `(tactic| first
  | assumption
  | exact Ne.symm (by assumption)
  | exact New.ne (by assumption) (by walk_at "h")
  | exact ne_none (by assumption) (by walk_at "h")
  | exact Ne.symm (ne_none (by assumption) (by walk_at "h"))
  | exact Ne.symm (New.ne (by assumption) (by walk_at "h")))
local macro_rules | `(tactic| walk_at "sm") => `(tactic| first
  | exact Same.refl _
  | assumption
  | (refine' Same.trans ?_ (New.same (by assumption)); walk_at "sm")
  | (refine' Same.trans ?_ (by assumption : Same _ _); walk_at "sm"))
local macro_rules | `(tactic| walk_at "z") => `(tactic| first
  | assumption
  | (rw [PySem.sizeLine_eq]; omega)
  | (rw [PySem.sizeLine_eq]; simp only [List.length_cons, List.length_nil, List.length_append, List.length_map, List.length_range, List.length_replicate, len_cut]; omega)
  | (rw [PySem.sizeLine_eq]; simp only [List.length_cons, List.length_nil, List.length_append, List.length_map, List.length_range, List.length_replicate, len_cut] at *; omega))
local macro_rules | `(tactic| walk_at "s") => `(tactic| first
  | ((with_reducible refine' go_var ?h ?_); (case h => exact rfl))
  | (with_reducible refine' go_c ?_)
  | (with_reducible refine' go_op ?_)
  | (with_reducible refine' go_un ?_)
  | (with_reducible refine' go_rU ?_)
  | (with_reducible refine' go_seq ?_)
  | (with_reducible refine' go_ret ?_)
  | (with_reducible refine' go_retN ?_)
  | (with_reducible refine' go_next ?_)
  | (with_reducible refine' go_drop ?_)
  | (with_reducible refine' go_asg ?_)
  | ((with_reducible refine' go_name2 ?h ?_); (case h => (simp only [List.set_cons_zero, List.set_cons_succ]; exact rfl)))
  | ((with_reducible refine' go_name2 ?h ?_); (case h => exact rfl))
  | (with_reducible refine' go_ifS ?_)
  | (with_reducible refine' go_blk ?_)
  | (with_reducible refine' go_test ?_)
  | (with_reducible refine' go_tB ?_)
  | (with_reducible refine' go_and ?_)
  | (with_reducible refine' go_or ?_)
  | (with_reducible refine' go_not ?_)
  | (with_reducible refine' go_andV ?_)
  | (with_reducible refine' go_orV ?_)
  | (with_reducible refine' go_notV ?_)
  | (with_reducible refine' go_if ?_)
  | (with_reducible refine' go_chain ?_)
  | (with_reducible refine' iteT ?_)
  | (with_reducible refine' iteF ?_)
  | ((with_reducible refine' go_Td ?h ?_); (case h => walk_at "pr"))
  | ((with_reducible refine' go_Fd ?h ?_); (case h => walk_at "pr"))
  | ((with_reducible refine' go_Tn ?h ?_); (case h => walk_at "pr"))
  | ((with_reducible refine' go_Fn ?h ?_); (case h => walk_at "pr"))
  | ((with_reducible refine' go_T ?h ?_); (case h => (first | decide | assumption | exact rfl)))
  | ((with_reducible refine' go_F ?h ?_); (case h => (first | decide | assumption | exact rfl)))
  | (with_reducible refine' go_nil ?_)
  | (with_reducible refine' go_cons ?_)
  | (with_reducible refine' go_tLst ?_)
  | (with_reducible refine' go_tTup ?_)
  | ((with_reducible refine' go_LstK ?h ?_); (case h => walk_at "z"); intro p H1 n1)
  | ((with_reducible refine' go_TupK ?h ?_); (case h => walk_at "z"); intro p H1 n1)
  | (with_reducible refine' go_addI ?_)
  | ((with_reducible refine' go_addL ?h ?k ?z ?_); (case h => walk_at "h"); (case k => walk_at "h"); (case z => walk_at "z"); intro p H1 n1)
  | (with_reducible refine' go_sub ?_)
  | ((with_reducible refine' go_mulI ?h ?_); (case h => (unfold CMul; omega)))
  | ((with_reducible refine' go_mulL ?h ?k ?_); (case h => walk_at "h"); (case k => (refine ⟨by omega, by omega, ?_⟩; walk_at "z")); intro p H1 n1)
  | ((with_reducible refine' go_div ?h ?_); (case h => (unfold CDiv; omega)))
  | ((with_reducible refine' go_mod ?h ?_); (case h => omega))
  | (with_reducible refine' go_p109 ?_)
  | (with_reducible refine' go_p1020 ?_)
  | ((with_reducible refine' go_pow ?h ?_); (case h => (unfold CPow; omega)))
  | (with_reducible refine' go_lt ?_)
  | (with_reducible refine' go_le ?_)
  | (with_reducible refine' go_gt ?_)
  | (with_reducible refine' go_ge ?_)
  | (with_reducible refine' go_eqI ?_)
  | (with_reducible refine' go_eqB ?_)
  | (with_reducible refine' go_eqS ?_)
  | (with_reducible refine' go_neI ?_)
  | (with_reducible refine' go_neB ?_)
  | (with_reducible refine' go_neS ?_)
  | (with_reducible refine' go_isN ?_)
  | (with_reducible refine' go_isNotN ?_)
  | (with_reducible refine' go_isB ?_)
  | (with_reducible refine' go_isNotB ?_)
  | (with_reducible refine' go_sl ?_)
  | (with_reducible refine' go_noPart ?_)
  | (with_reducible refine' go_part ?_)
  | (with_reducible refine' go_intK ?_)
  | ((with_reducible refine' go_slL ?h ?_); (case h => walk_at "h"); intro p H1 n1)
  | ((with_reducible refine' go_ixL ?h ?k ?_); (case h => walk_at "h"); (case k => exact rfl))
  | ((with_reducible refine' go_ixT ?h ?k ?_); (case h => walk_at "h"); (case k => exact rfl))
  | ((with_reducible refine' go_slW ?h ?_); (case h => walk_at "h"))
  | (with_reducible refine' go_bm ?_)
  | (with_reducible refine' go_bm0 ?_)
  | ((with_reducible refine' go_bmL ?h ?_); (case h => walk_at "h"))
  | ((with_reducible refine' go_append ?h ?k ?_); (case h => walk_at "h"); (case k => walk_at "z"); intro H1 n1)
  | ((with_reducible refine' go_extend ?h ?k ?z ?_); (case h => walk_at "h"); (case k => walk_at "h"); (case z => walk_at "z"); intro H1 n1)
  | ((with_reducible refine' go_clear ?h ?_); (case h => walk_at "h"); intro H1 n1)
  | ((with_reducible refine' go_dnew ?_); intro p H1 n1)
  | (with_reducible refine' go_cb ?_)
  | (with_reducible refine' go_callS ?_)
  | (with_reducible refine' go_call0 ?_)
  | ((with_reducible refine' go_lenL ?h ?_); (case h => walk_at "h"))
  | ((with_reducible refine' go_lenT ?h ?_); (case h => walk_at "h"))
  | ((with_reducible refine' go_lenK ?h ?_); (case h => walk_at "hk"))
  | ((with_reducible refine' go_listL ?h ?_); (case h => walk_at "h"); intro p H1 n1)
  | ((with_reducible refine' go_listT ?h ?_); (case h => walk_at "h"); intro p H1 n1)
  | ((with_reducible refine' go_tupleL ?h ?_); (case h => walk_at "h"); intro p H1 n1)
  | (with_reducible refine' go_intI ?_)
  | (with_reducible refine' go_intB ?_)
  | (with_reducible refine' go_abs ?_)
  | (with_reducible refine' go_min2 ?_)
  | (with_reducible refine' go_max2 ?_)
  | ((with_reducible refine' go_isi ?h ?k ?_); (case h => walk_at "ty"); (case k => exact kit_bb (by decide) (by decide)))
  | (with_reducible refine' go_lc ?_)
  | (with_reducible refine' go_for ?_)
  | (with_reducible refine' go_seqP ?_)
  | ((with_reducible refine' go_seqL ?h ?_); (case h => walk_at "h"))
  | ((with_reducible refine' go_seqT ?h ?_); (case h => walk_at "h"))
  | (with_reducible refine' go_seqS ?_)
  | (with_reducible refine' go_rng1 ?_)
  | (with_reducible refine' go_rng2 ?_)
  | ((with_reducible refine' go_rng1K ?h ?_); (case h => omega))
  | ((with_reducible refine' go_rng2K ?h ?_); (case h => omega))
  | (with_reducible refine' go_raise ?_)
  | ((with_reducible refine' go_tupG ?h ?k ?_); (case h => walk_at "h"); (case k => exact rfl))
  | ((with_reducible refine' go_lstG ?h ?k ?_); (case h => walk_at "h"); (case k => exact rfl))
  | (with_reducible refine' go_gNil ?_)
  | (with_reducible refine' go_tryAs ?_)
  | (with_reducible refine' go_tryMany1 ?_)
  | (with_reducible refine' go_tryMany2 ?_)
  | (with_reducible refine' go_WM ?_)
  | ((with_reducible refine' go_asT ?_); intro e he)
  | (with_reducible refine' go_asF ?_)
  | ((with_reducible refine' go_manyT ?_); intro e he)
  | (with_reducible refine' go_manyF ?_)
  | (with_reducible refine' go_manyN ?_)
  | (with_reducible refine' go_fld ?_)
  | ((with_reducible refine' go_FldK ?h ?c ?n ?l ?_); (case h => walk_at "h"); (case c => infer_instance); (case n => infer_instance); (case l => exact rfl))
  | (with_reducible refine' go_sfld ?_)
  | ((with_reducible refine' go_SFldK ?h ?c ?n ?l ?e ?_); (case h => walk_at "h"); (case c => infer_instance); (case n => infer_instance); (case l => exact Nat.le_of_ble_eq_true rfl); (case e => walk_at "pf"); intro H1 n1)
  | (with_reducible refine' go_meth ?_)
  | ((with_reducible refine' go_MethK 0 ?h ?l ?e ?_); (case h => walk_at "h"); (case l => exact rfl); (case e => exact rfl))
  | ((with_reducible refine' go_MethK 1 ?h ?l ?e ?_); (case h => walk_at "h"); (case l => exact rfl); (case e => exact rfl))
  | ((with_reducible refine' go_MethK 2 ?h ?l ?e ?_); (case h => walk_at "h"); (case l => exact rfl); (case e => exact rfl))
  | (with_reducible refine' go_make ?_)
  | (with_reducible refine' go_callX ?_)
  | (with_reducible refine' go_methX ?_)
  | ((with_reducible refine' go_MethXK ?h ?l ?_); (case h => walk_at "h"); (case l => exact rfl))
  | (with_reducible refine' go_dget ?_)
  | ((with_reducible refine' go_DGetS ?h ?l ?_); (case h => walk_at "h"); (case l => exact rfl))
  | (with_reducible refine' go_dput ?_)
  | ((with_reducible refine' go_DPutS ?h ?l ?e ?_); (case h => walk_at "h"); (case l => exact Nat.le_of_ble_eq_true rfl); (case e => walk_at "pk"); intro H1 n1)
  | ((with_reducible refine' go_disp ?_); intro p H1 n1)
  | (with_reducible refine' go_pairs ?_)
  | (with_reducible refine' go_pairs0 ?_)
  | ((with_reducible refine' go_DispS ?h ?e ?l ?k ?j ?m ?_); (case h => walk_at "h"); (case e => exact rfl); (case l => exact Nat.le_of_ble_eq_true rfl); (case k => (simp only [unS]; exact rfl)); (case j => (simp only [List.map_cons, List.map_nil]; exact rfl)); (case m => decide +kernel); intro H1 n1)
  | (with_reducible refine' go_par ?_)
  | ((with_reducible refine' go_ParK ?h ?_); (case h => (simp only [List.set_cons_zero, List.set_cons_succ]; exact rfl)))
  | (with_reducible refine' go_sub_ ?_)
  | ((with_reducible refine' go_setLi ?h ?k ?_); (case h => walk_at "h"); (case k => walk_at "ix"); intro H1 n1)
  | (with_reducible refine' go_listY ?_)
  | ((with_reducible refine' go_listYL ?h ?_); (case h => walk_at "h"))
  | (with_reducible refine' go_bmS ?_)
  | (with_reducible refine' go_ckw ?_)
  | ((with_reducible refine' go_maxD ?h ?_); (case h => walk_at "h"))
  | (with_reducible refine' go_listR ?_)
  | (with_reducible refine' go_rg2 ?_)
  | (with_reducible refine' go_Rg2K ?_)
  | (with_reducible refine' go_rg1 ?_)
  | (with_reducible refine' go_Rg1K ?_)
  | ((with_reducible refine' go_ListRK ?h ?_); (case h => omega); intro p H1 n1)
  | (with_reducible refine' go_enum ?_)
  | ((with_reducible refine' go_EnumL ?h ?_); (case h => walk_at "h"))
  | (with_reducible refine' go_isX ?_)
  | (with_reducible refine' go_isXt ?_)
  | (with_reducible refine' go_din ?_)
  | (with_reducible refine' go_dnotin ?_)
  | ((with_reducible refine' go_DInI ?h ?_); (case h => walk_at "h"))
  | ((with_reducible refine' go_DNotInI ?h ?_); (case h => walk_at "h"))
  | (with_reducible refine' go_dget2 ?_)
  | ((with_reducible refine' go_DGet2K ?h ?_); (case h => walk_at "h"))
  | (with_reducible refine' go_dpop1 ?_)
  | ((with_reducible refine' go_eqDE ?h ?k ?_); (case h => walk_at "h"); (case k => walk_at "h"))
  | ((with_reducible refine' go_neDE ?h ?k ?_); (case h => walk_at "h"); (case k => walk_at "h"))
  | (with_reducible refine' go_chain3 ?_)
  | (with_reducible refine' go_LinkT ?_)
  | (with_reducible refine' go_LinkF ?_)
  | (with_reducible refine' go_Link2T ?_)
  | (with_reducible refine' go_Link2F ?_)
  | (with_reducible refine' go_gSl ?_)
  | ((with_reducible refine' go_insert ?h ?k ?l ?m ?_); (case h => walk_at "h"); (case k => walk_at "z"); (case l => omega); (case m => omega); intro H1 n1)
  | (with_reducible refine' go_gCons ?_))
local macro_rules | `(tactic| walk_at "pf") => `(tactic| first
  | exact putF_nil
  | exact putF_hit
  | (refine' putF_miss ?h ?k; (case h => decide +kernel); (case k => walk_at "pf")))
local macro_rules | `(tactic| walk_at "pk") => `(tactic| first
  | exact putK_nil
  | exact putK_hit (by (simp only [List.map_cons, List.map_nil]; decide +kernel))
  | (refine' putK_miss ?h ?k; (case h => decide +kernel); (case k => walk_at "pk")))
local macro_rules | `(tactic| walk_at "ix") => `(tactic| first
  | assumption
  | omega
  | (simp only [List.length_cons, List.length_nil, List.length_append, List.length_map, List.length_range, List.length_replicate, List.length_set] at *; omega))
local macro_rules | `(tactic| walk_at "pr") => `(tactic| first
  | assumption
  | decide
  | omega
  | exact rfl
  | (intro z; cases z; done))
local macro_rules | `(tactic| walk_at "hk") => `(tactic| first
  | assumption
  | exact seq' (by assumption) (by walk_at "sm"))
local macro_rules | `(tactic| walk_at "ty") => `(tactic| first
  | exact rfl
  | assumption
  | exact tyN_L (by walk_at "h")
  | exact tyN_T (by walk_at "h")
  | exact tyN_D (by walk_at "h"))
local macro_rules | `(tactic| walk_at "go") => `(tactic| repeat (walk_at "s"))
section
variable {K : PySem.W.Frag} {a : Ac} {H H' : Hp} {Q : VK} {E : XK} [F : Fc K a] {w w0 cs : List Nat} {ws zs : List (List Nat)} {p r T T1 T2 O : Addr} {x v : V} {n : String} {vs : List V} {pt : Pt} {ps : List Pt} {ks : List Kd} {k : Kd}
def Sh : Pt → Prop
  | .l ns => ns.length ≤ 1000
  | _ => True
omit F in
theorem pat_l {ns : List Nat} (h : PAt H x (.l ns)) : ∃ p, x = .ref p ∧ H p = some (.lst ((ns.map fun k : Nat => (k : Int)).map V.int)) := by
  obtain ⟨p, rfl, e⟩ := h
  exact ⟨p, rfl, by rw [e, List.map_map]; rfl⟩
theorem p_L_alike (h1 : OAt H T1 ps) (h2 : OAt H T2 ps) (ok : ∀ p ∈ ps, Sh p) (q : ∀ H', Same H H' → Q (.bl true) H') : sp_L_alike K a [.ref T1, .ref T2] H Q E := by
  obtain ⟨vs1, e1, l1, k1⟩ := h1
  obtain ⟨vs2, e2, l2, k2⟩ := h2
  refine in_L_alike ?_
  unfold t_L_alike
  walk_at "go"
  refine go_zip ?_
  walk_at "go"
  refine go_ZipT e1 e2 ?_
  refine for_ZT (xs := vs1) (ys := vs2) (fun i σ' H' => ∃ v2 v3 v4, σ' = [some (.ref T1), some (.ref T2), v2, v3, v4] ∧ Same H H') (by omega) (fun i σ' H' ⟨_, _, _, _, s⟩ => ⟨s _ _ e1, s _ _ e2⟩) ⟨_, _, _, rfl, Same.refl _⟩ ?_ ?_
  · rintro i x y σ' H1 T H2 hx hy ⟨v2, v3, v4, rfl, s⟩ nT
    have li : i < vs1.length := (List.getElem?_eq_some_iff.mp hx).1
    have hp : ps[i]? = some (ps[i]'(by omega)) := List.getElem?_eq_getElem (by omega)
    have s2 := s.trans nT.same
    have a1 := (k1 i x _ hx hp).same s2
    have a2 := (k2 i y _ hy hp).same s2
    have o := ok _ (List.mem_of_getElem? hp)
    generalize ps[i]'(by omega) = pt at a1 a2 o
    cases pt with
    | t cs =>
      obtain rfl : x = .str (tx cs) := a1
      obtain rfl : y = .str (tx cs) := a2
      walk_at "go"
      exact ⟨_, _, _, rfl, s2⟩
    | n k =>
      obtain rfl : x = .int k := a1
      obtain rfl : y = .int k := a2
      walk_at "go"
      exact ⟨_, _, _, rfl, s2⟩
    | l ns =>
      have o : ns.length ≤ 1000 := o
      obtain ⟨p1, rfl, b1⟩ := pat_l a1
      obtain ⟨p2, rfl, b2⟩ := pat_l a2
      walk_at "go"
      refine lc_L (f := id) (p := fun _ => false) b1 (by rw [sizeLine_eq, List.length_map, List.length_map]; omega) (fun i y H' QB hy s k => ?_) (fun i y H' Q' hy hp s k => by cases hp) fun D5 H5 hD5 s5 hd5 => ?_
      · obtain ⟨z, _, rfl⟩ := List.mem_map.mp (List.mem_of_getElem? hy)
        simp only [List.set_cons_zero, List.set_cons_succ]
        walk_at "go"
        exact k _ (Same.refl _)
      have e5 : H5 D5 = some (.lst (([] : List Int).map V.int)) := by
        rw [hd5, List.filter_eq_nil_iff.mpr (fun _ _ => by simp)]; rfl
      walk_at "go"
      rename_i p6 H6 n6
      refine go_neIs (n6.old e5) (ms := []) n6.at ?_
      rw [decide_eq_true rfl]
      walk_at "go"
      refine go_neIs (n6.old (s5 _ _ b1)) (n6.old (s5 _ _ b2)) ?_
      rw [decide_eq_true rfl]
      walk_at "go"
      exact ⟨_, _, _, rfl, (s2.trans s5).trans n6.same⟩
  · rintro σ' H1 ⟨v2, v3, v4, rfl, s⟩
    walk_at "go"
    exact q _ s
omit F in
theorem go_slT1 {p : Addr} {y : V} {xs : List V} (h : H p = some (.tup (y :: xs))) (q : ∀ p H1, New H p (.tup xs) H1 → Q (.ref p) H1) : rSlP K (.ref p) (some 1) none H Q := by
  refine .inr (.inl ⟨p, _, rfl, SqT.of h, ?_, fun p1 h1 => ?_⟩)
  · rintro ⟨z, _⟩
    unfold HT.sIx at z
    simp at z
  · have := q p1 _ ⟨h1, rfl⟩
    rwa [show cutV (y :: xs) (some 1) none = xs from by rw [cut_drop _ (by omega)]; rfl]
theorem p_L_line (h : OAt H T (.t w0 :: ps)) (ok : ∀ p ∈ Pt.t w0 :: ps, Ok p) (hl : ps.length ≤ 3) (q : ∀ H', Same H H' → Q (.str (tx (lineP (.t w0 :: ps)))) H') : sp_L_line K a [.ref T] H Q E := by
  obtain ⟨vs, e, l, k⟩ := h
  refine in_L_line ?_
  unfold t_L_line
  have e32 : Str.ofString " " = tx [32] := by decide +kernel
  have e44 : Str.ofString "," = tx [44] := by decide +kernel
  rw [e32, e44]
  obtain ⟨v0, vs, rfl⟩ : ∃ v0 r, vs = v0 :: r := by
    cases vs with
    | nil => cases l
    | cons v0 r => exact ⟨v0, r, rfl⟩
  obtain rfl : v0 = .str (tx w0) := k 0 _ _ rfl rfl
  have l' : vs.length = ps.length := by simpa using l
  have lb : ∀ i, (lineP (.t w0 :: ps.take i)).length ≤ 410 := fun i => lineP_len (fun p hp => by
    rcases List.mem_cons.mp hp with rfl | hp
    · exact ok _ List.mem_cons_self
    · exact ok _ (List.mem_cons_of_mem _ (List.mem_of_mem_take hp))) (by rw [List.length_cons, List.length_take]; omega)
  have st : ∀ i pt, ps[i]? = some pt → lineP (.t w0 :: ps.take (i + 1)) = lineP (.t w0 :: ps.take i) ++ [32] ++ wordP pt := fun i pt hp => by
    unfold lineP
    rw [take_succ_of hp, List.map_cons, List.map_cons, List.map_append, ← List.cons_append]
    show jns 32 (_ ++ [wordP pt]) = _
    rw [jns_snoc (by simp), List.append_assoc]; rfl
  walk_at "go"
  refine go_ixAtT e (by omega) rfl ?_
  walk_at "go"
  refine go_slT1 e fun P H1 n1 => ?_
  walk_at "go"
  refine for_T (xs := vs) (fun i σ' H' => ∃ v2 v3, σ' = [some (.ref T), some (.str (tx (lineP (.t w0 :: ps.take i)))), v2, v3] ∧ Same H1 H') (fun i σ' H' ⟨_, _, _, s⟩ => s _ _ n1.at) ⟨_, _, rfl, Same.refl _⟩ ?_ ?_
  · rintro i x σ' H2 hx ⟨v2, v3, rfl, s⟩
    have li : i < vs.length := (List.getElem?_eq_some_iff.mp hx).1
    have hp : ps[i]? = some (ps[i]'(by omega)) := List.getElem?_eq_getElem (by omega)
    have a1 := (k (i + 1) x _ hx hp).same (n1.same.trans s)
    have o := ok _ (List.mem_cons_of_mem _ (List.mem_of_getElem? hp))
    have st := st i _ hp
    have b1 := lb i
    generalize ps[i]'(by omega) = pt at a1 o st
    have wl := wordP_len o
    simp only [List.set_cons_zero, List.set_cons_succ]
    cases pt with
    | t cs =>
      obtain rfl : x = .str (tx cs) := a1
      walk_at "go"
      refine go_addTx (by show _ + 1 ≤ _; omega) ?_
      walk_at "go"
      refine go_strS ?_
      refine go_addTx (by rw [List.length_append]; have : cs.length ≤ 100 := wl; show _ + 1 + _ ≤ _; omega) ?_
      walk_at "go"
      exact ⟨_, _, by rw [st]; rfl, s⟩
    | n k =>
      obtain rfl : x = .int k := a1
      walk_at "go"
      refine go_addTx (by show _ + 1 ≤ _; omega) ?_
      walk_at "go"
      refine go_strN (by have : k < 10 ^ 9 := o; omega) ?_
      refine go_addTx (b := TL.numL k) (by rw [List.length_append]; have : (TL.numL k).length ≤ 100 := wl; show _ + 1 + _ ≤ _; omega) ?_
      walk_at "go"
      exact ⟨_, _, by rw [st]; rfl, s⟩
    | l ns =>
      obtain ⟨p, rfl, e⟩ := a1
      walk_at "go"
      refine go_addTx (by show _ + 1 ≤ _; omega) ?_
      walk_at "go"
      refine lc_mapL (f := fun v => match v with | .int k => tv (TL.numL k.toNat) | v => v) e (by rw [sizeLine_eq, List.length_map]; have := o.1; omega) (fun i y H' Q' hy s k => ?_) fun D H3 hD s3 hd => ?_
      · rw [List.getElem?_map] at hy
        obtain ⟨z, hz, rfl⟩ := Option.map_eq_some_iff.mp hy
        simp only [List.set_cons_zero, List.set_cons_succ]
        walk_at "go"
        refine go_strN (by have := o.2 z (List.mem_of_getElem? hz); omega) ?_
        exact k _ (Same.refl _)
      have hd' : H3 D = some (.lst ((ns.map TL.numL).map tv)) := by
        rw [hd, List.map_map, List.map_map]; rfl
      have wl : (jns 44 (ns.map TL.numL)).length ≤ 100 := wl
      walk_at "go"
      refine go_joinS hd' (by omega) (by rw [List.length_map]; have := o.1; omega) ?_
      refine go_addTx (by rw [List.length_append]; show _ + 1 + _ ≤ _; omega) ?_
      walk_at "go"
      exact ⟨_, _, by rw [st]; rfl, s.trans s3⟩
  · rintro σ' H2 ⟨v2, v3, rfl, s⟩
    rw [l', List.take_length]
    walk_at "go"
    exact q _ (n1.same.trans s)
end

end Bk

namespace Bk
open PySem L2 PyProof.Rows
/-! our own short tactics: h: what stands at a place; ne: two places; sm: what stood stands; z: a size; s: a step; go: steps -/
local macro_rules | `(tactic| walk_at "h") => `(tactic| first
  | assumption
  | exact New.at (by assumption)
  | exact Wr.at (by assumption)
  | (refine' New.old (by assumption) ?_; walk_at "h")
  | (refine' Same.at (by assumption) ?_; walk_at "h")
  | (refine' Wr.old (by assumption) ?_ ?_; walk_at "ne"; walk_at "h")
  | (refine' Chg.at (by assumption) ?_ ?_; walk_at "ni"; walk_at "h"))
local macro_rules | `(tactic| walk_at "ni") => `(tactic| first
  | exact ni_nil
  | assumption
  | (refine' ni_cons ?_ ?_; walk_at "ne"; walk_at "ni"))
local macro_rules | `(tactic| walk_at "ne") => `(tactic| first
  | assumption
  | exact Ne.symm (by assumption)
  | exact New.ne (by assumption) (by walk_at "h")
  | exact ne_none (by assumption) (by walk_at "h")
  | exact Ne.symm (ne_none (by assumption) (by walk_at "h"))
  | exact Ne.symm (New.ne (by assumption) (by walk_at "h")))
local macro_rules | `(tactic| walk_at "sm") => `(tactic| first
  | exact Same.refl _
  | assumption
  | (refine' Same.trans ?_ (New.same (by assumption)); walk_at "sm")
  | (refine' Same.trans ?_ (by assumption : Same _ _); walk_at "sm"))
local macro_rules | `(tactic| walk_at "z") => `(tactic| first
  | assumption
  | (rw [PySem.sizeLine_eq]; omega)
  | (rw [PySem.sizeLine_eq]; simp only [List.length_cons, List.length_nil, List.length_append, List.length_map, List.length_range, List.length_replicate, len_cut]; omega)
  | (rw [PySem.sizeLine_eq]; simp only [List.length_cons, List.length_nil, List.length_append, List.length_map, List.length_range, List.length_replicate, len_cut] at *; omega))
local macro_rules | `(tactic| walk_at "s") => `(tactic| first
  | ((with_reducible refine' go_var ?h ?_); (case h => exact rfl))
  | (with_reducible refine' go_c ?_)
  | (with_reducible refine' go_op ?_)
  | (with_reducible refine' go_un ?_)
  | (with_reducible refine' go_rU ?_)
  | (with_reducible refine' go_seq ?_)
  | (with_reducible refine' go_ret ?_)
  | (with_reducible refine' go_retN ?_)
  | (with_reducible refine' go_next ?_)
  | (with_reducible refine' go_drop ?_)
  | (with_reducible refine' go_asg ?_)
  | ((with_reducible refine' go_name2 ?h ?_); (case h => (simp only [List.set_cons_zero, List.set_cons_succ]; exact rfl)))
  | ((with_reducible refine' go_name2 ?h ?_); (case h => exact rfl))
  | (with_reducible refine' go_ifS ?_)
  | (with_reducible refine' go_blk ?_)
  | (with_reducible refine' go_test ?_)
  | (with_reducible refine' go_tB ?_)
  | (with_reducible refine' go_and ?_)
  | (with_reducible refine' go_or ?_)
  | (with_reducible refine' go_not ?_)
  | (with_reducible refine' go_andV ?_)
  | (with_reducible refine' go_orV ?_)
  | (with_reducible refine' go_notV ?_)
  | (with_reducible refine' go_if ?_)
  | (with_reducible refine' go_chain ?_)
  | (with_reducible refine' iteT ?_)
  | (with_reducible refine' iteF ?_)
  | ((with_reducible refine' go_Td ?h ?_); (case h => walk_at "pr"))
  | ((with_reducible refine' go_Fd ?h ?_); (case h => walk_at "pr"))
  | ((with_reducible refine' go_Tn ?h ?_); (case h => walk_at "pr"))
  | ((with_reducible refine' go_Fn ?h ?_); (case h => walk_at "pr"))
  | ((with_reducible refine' go_T ?h ?_); (case h => (first | decide | assumption | exact rfl)))
  | ((with_reducible refine' go_F ?h ?_); (case h => (first | decide | assumption | exact rfl)))
  | (with_reducible refine' go_nil ?_)
  | (with_reducible refine' go_cons ?_)
  | (with_reducible refine' go_tLst ?_)
  | (with_reducible refine' go_tTup ?_)
  | ((with_reducible refine' go_LstK ?h ?_); (case h => walk_at "z"); intro p H1 n1)
  | ((with_reducible refine' go_TupK ?h ?_); (case h => walk_at "z"); intro p H1 n1)
  | (with_reducible refine' go_addI ?_)
  | ((with_reducible refine' go_addL ?h ?k ?z ?_); (case h => walk_at "h"); (case k => walk_at "h"); (case z => walk_at "z"); intro p H1 n1)
  | (with_reducible refine' go_sub ?_)
  | ((with_reducible refine' go_mulI ?h ?_); (case h => (unfold CMul; omega)))
  | ((with_reducible refine' go_mulL ?h ?k ?_); (case h => walk_at "h"); (case k => (refine ⟨by omega, by omega, ?_⟩; walk_at "z")); intro p H1 n1)
  | ((with_reducible refine' go_div ?h ?_); (case h => (unfold CDiv; omega)))
  | ((with_reducible refine' go_mod ?h ?_); (case h => omega))
  | (with_reducible refine' go_p109 ?_)
  | (with_reducible refine' go_p1020 ?_)
  | ((with_reducible refine' go_pow ?h ?_); (case h => (unfold CPow; omega)))
  | (with_reducible refine' go_lt ?_)
  | (with_reducible refine' go_le ?_)
  | (with_reducible refine' go_gt ?_)
  | (with_reducible refine' go_ge ?_)
  | (with_reducible refine' go_eqI ?_)
  | (with_reducible refine' go_eqB ?_)
  | (with_reducible refine' go_eqS ?_)
  | (with_reducible refine' go_neI ?_)
  | (with_reducible refine' go_neB ?_)
  | (with_reducible refine' go_neS ?_)
  | (with_reducible refine' go_isN ?_)
  | (with_reducible refine' go_isNotN ?_)
  | (with_reducible refine' go_isB ?_)
  | (with_reducible refine' go_isNotB ?_)
  | (with_reducible refine' go_sl ?_)
  | (with_reducible refine' go_noPart ?_)
  | (with_reducible refine' go_part ?_)
  | (with_reducible refine' go_intK ?_)
  | ((with_reducible refine' go_slL ?h ?_); (case h => walk_at "h"); intro p H1 n1)
  | ((with_reducible refine' go_ixL ?h ?k ?_); (case h => walk_at "h"); (case k => exact rfl))
  | ((with_reducible refine' go_ixT ?h ?k ?_); (case h => walk_at "h"); (case k => exact rfl))
  | ((with_reducible refine' go_slW ?h ?_); (case h => walk_at "h"))
  | (with_reducible refine' go_bm ?_)
  | (with_reducible refine' go_bm0 ?_)
  | ((with_reducible refine' go_bmL ?h ?_); (case h => walk_at "h"))
  | ((with_reducible refine' go_append ?h ?k ?_); (case h => walk_at "h"); (case k => walk_at "z"); intro H1 n1)
  | ((with_reducible refine' go_extend ?h ?k ?z ?_); (case h => walk_at "h"); (case k => walk_at "h"); (case z => walk_at "z"); intro H1 n1)
  | ((with_reducible refine' go_clear ?h ?_); (case h => walk_at "h"); intro H1 n1)
  | ((with_reducible refine' go_dnew ?_); intro p H1 n1)
  | (with_reducible refine' go_cb ?_)
  | (with_reducible refine' go_callS ?_)
  | (with_reducible refine' go_call0 ?_)
  | ((with_reducible refine' go_lenL ?h ?_); (case h => walk_at "h"))
  | ((with_reducible refine' go_lenT ?h ?_); (case h => walk_at "h"))
  | ((with_reducible refine' go_lenK ?h ?_); (case h => walk_at "hk"))
  | ((with_reducible refine' go_listL ?h ?_); (case h => walk_at "h"); intro p H1 n1)
  | ((with_reducible refine' go_listT ?h ?_); (case h => walk_at "h"); intro p H1 n1)
  | ((with_reducible refine' go_tupleL ?h ?_); (case h => walk_at "h"); intro p H1 n1)
  | (with_reducible refine' go_intI ?_)
  | (with_reducible refine' go_intB ?_)
  | (with_reducible refine' go_abs ?_)
  | (with_reducible refine' go_min2 ?_)
  | (with_reducible refine' go_max2 ?_)
  | ((with_reducible refine' go_isi ?h ?k ?_); (case h => walk_at "ty"); (case k => exact kit_bb (by decide) (by decide)))
  | (with_reducible refine' go_lc ?_)
  | (with_reducible refine' go_for ?_)
  | (with_reducible refine' go_seqP ?_)
  | ((with_reducible refine' go_seqL ?h ?_); (case h => walk_at "h"))
  | ((with_reducible refine' go_seqT ?h ?_); (case h => walk_at "h"))
  | (with_reducible refine' go_seqS ?_)
  | (with_reducible refine' go_rng1 ?_)
  | (with_reducible refine' go_rng2 ?_)
  | ((with_reducible refine' go_rng1K ?h ?_); (case h => omega))
  | ((with_reducible refine' go_rng2K ?h ?_); (case h => omega))
  | (with_reducible refine' go_raise ?_)
  | ((with_reducible refine' go_tupG ?h ?k ?_); (case h => walk_at "h"); (case k => exact rfl))
  | ((with_reducible refine' go_lstG ?h ?k ?_); (case h => walk_at "h"); (case k => exact rfl))
  | (with_reducible refine' go_gNil ?_)
  | (with_reducible refine' go_tryAs ?_)
  | (with_reducible refine' go_tryMany1 ?_)
  | (with_reducible refine' go_tryMany2 ?_)
  | (with_reducible refine' go_WM ?_)
  | ((with_reducible refine' go_asT ?_); intro e he)
  | (with_reducible refine' go_asF ?_)
  | ((with_reducible refine' go_manyT ?_); intro e he)
  | (with_reducible refine' go_manyF ?_)
  | (with_reducible refine' go_manyN ?_)
  | (with_reducible refine' go_fld ?_)
  | ((with_reducible refine' go_FldK ?h ?c ?n ?l ?_); (case h => walk_at "h"); (case c => infer_instance); (case n => infer_instance); (case l => exact rfl))
  | (with_reducible refine' go_sfld ?_)
  | ((with_reducible refine' go_SFldK ?h ?c ?n ?l ?e ?_); (case h => walk_at "h"); (case c => infer_instance); (case n => infer_instance); (case l => exact Nat.le_of_ble_eq_true rfl); (case e => walk_at "pf"); intro H1 n1)
  | (with_reducible refine' go_meth ?_)
  | ((with_reducible refine' go_MethK 0 ?h ?l ?e ?_); (case h => walk_at "h"); (case l => exact rfl); (case e => exact rfl))
  | ((with_reducible refine' go_MethK 1 ?h ?l ?e ?_); (case h => walk_at "h"); (case l => exact rfl); (case e => exact rfl))
  | ((with_reducible refine' go_MethK 2 ?h ?l ?e ?_); (case h => walk_at "h"); (case l => exact rfl); (case e => exact rfl))
  | (with_reducible refine' go_make ?_)
  | (with_reducible refine' go_callX ?_)
  | (with_reducible refine' go_methX ?_)
  | ((with_reducible refine' go_MethXK ?h ?l ?_); (case h => walk_at "h"); (case l => exact rfl))
  | (with_reducible refine' go_dget ?_)
  | ((with_reducible refine' go_DGetS ?h ?l ?_); (case h => walk_at "h"); (case l => exact rfl))
  | (with_reducible refine' go_dput ?_)
  | ((with_reducible refine' go_DPutS ?h ?l ?e ?_); (case h => walk_at "h"); (case l => exact Nat.le_of_ble_eq_true rfl); (case e => walk_at "pk"); intro H1 n1)
  | ((with_reducible refine' go_disp ?_); intro p H1 n1)
  | (with_reducible refine' go_pairs ?_)
  | (with_reducible refine' go_pairs0 ?_)
  | ((with_reducible refine' go_DispS ?h ?e ?l ?k ?j ?m ?_); (case h => walk_at "h"); (case e => exact rfl); (case l => exact Nat.le_of_ble_eq_true rfl); (case k => (simp only [unS]; exact rfl)); (case j => (simp only [List.map_cons, List.map_nil]; exact rfl)); (case m => decide +kernel); intro H1 n1)
  | (with_reducible refine' go_par ?_)
  | ((with_reducible refine' go_ParK ?h ?_); (case h => (simp only [List.set_cons_zero, List.set_cons_succ]; exact rfl)))
  | (with_reducible refine' go_sub_ ?_)
  | ((with_reducible refine' go_setLi ?h ?k ?_); (case h => walk_at "h"); (case k => walk_at "ix"); intro H1 n1)
  | (with_reducible refine' go_listY ?_)
  | ((with_reducible refine' go_listYL ?h ?_); (case h => walk_at "h"))
  | (with_reducible refine' go_bmS ?_)
  | (with_reducible refine' go_ckw ?_)
  | ((with_reducible refine' go_maxD ?h ?_); (case h => walk_at "h"))
  | (with_reducible refine' go_listR ?_)
  | (with_reducible refine' go_rg2 ?_)
  | (with_reducible refine' go_Rg2K ?_)
  | (with_reducible refine' go_rg1 ?_)
  | (with_reducible refine' go_Rg1K ?_)
  | ((with_reducible refine' go_ListRK ?h ?_); (case h => omega); intro p H1 n1)
  | (with_reducible refine' go_enum ?_)
  | ((with_reducible refine' go_EnumL ?h ?_); (case h => walk_at "h"))
  | (with_reducible refine' go_isX ?_)
  | (with_reducible refine' go_isXt ?_)
  | (with_reducible refine' go_din ?_)
  | (with_reducible refine' go_dnotin ?_)
  | ((with_reducible refine' go_DInI ?h ?_); (case h => walk_at "h"))
  | ((with_reducible refine' go_DNotInI ?h ?_); (case h => walk_at "h"))
  | (with_reducible refine' go_dget2 ?_)
  | ((with_reducible refine' go_DGet2K ?h ?_); (case h => walk_at "h"))
  | (with_reducible refine' go_dpop1 ?_)
  | ((with_reducible refine' go_eqDE ?h ?k ?_); (case h => walk_at "h"); (case k => walk_at "h"))
  | ((with_reducible refine' go_neDE ?h ?k ?_); (case h => walk_at "h"); (case k => walk_at "h"))
  | (with_reducible refine' go_chain3 ?_)
  | (with_reducible refine' go_LinkT ?_)
  | (with_reducible refine' go_LinkF ?_)
  | (with_reducible refine' go_Link2T ?_)
  | (with_reducible refine' go_Link2F ?_)
  | (with_reducible refine' go_gSl ?_)
  | ((with_reducible refine' go_insert ?h ?k ?l ?m ?_); (case h => walk_at "h"); (case k => walk_at "z"); (case l => omega); (case m => omega); intro H1 n1)
  | (with_reducible refine' go_gCons ?_))
local macro_rules | `(tactic| walk_at "pf") => `(tactic| first
  | exact putF_nil
  | exact putF_hit
  | (refine' putF_miss ?h ?k; (case h => decide +kernel); (case k => walk_at "pf")))
local macro_rules | `(tactic| walk_at "pk") => `(tactic| first
  | exact putK_nil
  | exact putK_hit (by (simp only [List.map_cons, List.map_nil]; decide +kernel))
  | (refine' putK_miss ?h ?k; (case h => decide +kernel); (case k => walk_at "pk")))
local macro_rules | `(tactic| walk_at "ix") => `(tactic| first
  | assumption
  | omega
  | (simp only [List.length_cons, List.length_nil, List.length_append, List.length_map, List.length_range, List.length_replicate, List.length_set] at *; omega))
local macro_rules | `(tactic| walk_at "pr") => `(tactic| first
  | assumption
  | decide
  | omega
  | exact rfl
  | (intro z; cases z; done))
local macro_rules | `(tactic| walk_at "hk") => `(tactic| first
  | assumption
  | exact seq' (by assumption) (by walk_at "sm"))
local macro_rules | `(tactic| walk_at "ty") => `(tactic| first
  | exact rfl
  | assumption
  | exact tyN_L (by walk_at "h")
  | exact tyN_T (by walk_at "h")
  | exact tyN_D (by walk_at "h"))
local macro_rules | `(tactic| walk_at "go") => `(tactic| repeat (walk_at "s"))
/-! ### what the law draws -/
theorem Low.app {a b : List Nat} (h : Low a) (k : Low b) : Low (a ++ b) := fun c hc => (List.mem_append.mp hc).elim (h c) (k c)
theorem Low.take {a : List Nat} (h : Low a) (k : Nat) : Low (a.take k) := fun c hc => h c (List.mem_of_mem_take hc)
theorem Low.drop {a : List Nat} (h : Low a) (k : Nat) : Low (a.drop k) := fun c hc => h c (List.mem_of_mem_drop hc)
theorem Low.one {c : Nat} (h : c < 1000) : Low [c] := fun d hd => by rw [List.mem_singleton.mp hd]; exact h
theorem Low.nil : Low [] := fun d hd => absurd hd List.not_mem_nil
def someL : List Nat := tx0 "/abcxyz/!-.,0Z~"
theorem some_len : someL.length = 15 := by decide +kernel
theorem some_low : ∀ c ∈ someL, c < 1000 ∧ c ≠ 32 := by decide +kernel
def signsA : List Nat := tx0 " !\"#$&'()*+,-./0123456789:;<=>?@ABCDEFGHIJKLMNOPQRSTUVWXYZ[\\]^_`abcdefghijklmnopqrstuvwxyz{|}~\n\t"
theorem signsA_len : signsA.length = 96 := by decide +kernel
theorem signsA_low : Low signsA := by unfold Low; decide +kernel
def signsB : List Nat := tx0 "     ,,,,,00123456789"
theorem signsB_len : signsB.length = 21 := by decide +kernel
theorem signsB_low : Low signsB := by unfold Low; decide +kernel
def all15 : List (List Nat) := [tx0 "file", tx0 "folder", tx0 "unlink", tx0 "leave", tx0 "names", tx0 "kind", tx0 "size", tx0 "link", tx0 "move", tx0 "put", tx0 "cut", tx0 "words", tx0 "look", tx0 "stop", tx0 "rise"]
def AllF : List Kd → List Pt → Prop
  | [], [] => True
  | k :: ks, p :: ps => Fits k p ∧ AllF ks ps
  | _, _ => False
section
variable {K : PySem.W.Frag} {a : Ac} {H H' : Hp} {Q : VK} {E : XK} [F : Fc K a] {script : Addr} {ns : List Int} {w w0 cs : List Nat} {ws zs : List (List Nat)} {p r T T1 T2 O : Addr} {x v : V} {n : String} {vs : List V} {pt : Pt} {ps : List Pt} {ks : List Kd} {k : Kd}
omit F in
theorem p_L_path {c : Int} (q : ∀ cs, Fits .p (.t cs) → Q (.str (tx cs)) H) : sp_L_path K a [.int c] H Q E := by
  refine in_L_path ?_
  unfold t_L_path
  simp only [tx0_eq]
  have e0 : tx0 "" = [] := rfl
  rw [e0, show tx0 "/abcxyz/!-.,0Z~" = someL from rfl]
  have l15 := some_len
  have low := some_low
  generalize someL = sg at l15 low
  have m1 := Int.emod_nonneg c (show (9 : Int) ≠ 0 by omega)
  have m2 := Int.emod_lt_of_pos c (show (0 : Int) < 9 by omega)
  walk_at "go"
  refine for_R (fun i σ' H' => ∃ c' t v3, σ' = [some (.int c'), some (.str (tx sg)), some (.str (tx t)), v3] ∧ H' = H ∧ t.length = i ∧ Low t ∧ 32 ∉ t) ⟨_, _, _, rfl, rfl, rfl, .nil, by simp⟩ ?_ ?_
  · rintro i σ' H' hi ⟨c', t, v3, rfl, rfl, lt, lo, no⟩
    simp only [List.set_cons_zero, List.set_cons_succ]
    have k1 := Int.emod_nonneg (c' / 9 * (0 + (i : Int) + 1)) (show (15 : Int) ≠ 0 by omega)
    have k2 := Int.emod_lt_of_pos (c' / 9 * (0 + (i : Int) + 1)) (show (0 : Int) < 15 by omega)
    walk_at "go"
    refine go_ixTx (c := sg[(c' / 9 * (0 + (i : Int) + 1) % 15).toNat]'(by omega)) (by omega) k1 (List.getElem?_eq_getElem (by omega)) ?_
    have hs := low _ (List.getElem_mem (show (c' / 9 * (0 + (i : Int) + 1) % 15).toNat < sg.length by omega))
    generalize sg[(c' / 9 * (0 + (i : Int) + 1) % 15).toNat]'_ = sc at hs ⊢
    refine go_addTx (by show _ + 1 ≤ _; omega) ?_
    walk_at "go"
    refine ⟨_, _, _, rfl, rfl, by rw [List.length_append, lt]; rfl, lo.app (.one hs.1), fun z => ?_⟩
    rcases List.mem_append.mp z with z | z
    · exact no z
    · exact hs.2 (List.mem_singleton.mp z).symm
  · rintro σ' H' ⟨c', t, v3, rfl, rfl, lt, lo, no⟩
    walk_at "go"
    refine q t ⟨fun z => ?_, no, by omega, lo⟩
    rw [z] at lt
    simp at lt
    omega
omit F in
theorem p_L_number {c : Int} (q : ∀ k : Nat, k < 10 ^ 9 → ∀ H', Same H H' → Q (.int k) H') : sp_L_number K a [.int c] H Q E := by
  refine in_L_number ?_
  unfold t_L_number
  walk_at "go"
  refine go_dec (fun c1 => ?_) (fun c1 => ?_)
  · walk_at "go"
    rename_i p H1 n1
    refine go_ixLo n1.at ⟨by omega, by show _ < (6 : Int); omega⟩ fun v hv _ => ?_
    simp only [List.mem_cons, List.not_mem_nil, or_false] at hv
    rcases hv with rfl | rfl | rfl | rfl | rfl | rfl
    · exact q 0 (by omega) _ n1.same
    · exact q 999999999 (by omega) _ n1.same
    · exact q 1 (by omega) _ n1.same
    · exact q 10 (by omega) _ n1.same
    · exact q 9 (by omega) _ n1.same
    · exact q 100000000 (by omega) _ n1.same
  · walk_at "go"
    have m1 := Int.emod_nonneg (c / 4) (show (1000000000 : Int) ≠ 0 by omega)
    have m2 := Int.emod_lt_of_pos (c / 4) (show (0 : Int) < 1000000000 by omega)
    have := q (c / 4 % 1000000000).toNat (by omega) H (Same.refl _)
    rwa [Int.toNat_of_nonneg m1] at this
end

section
variable {K : PySem.W.Frag} {a : Ac} {H H' : Hp} {Q : VK} {E : XK} [F : Fc K a] {script : Addr} {ns : List Int} {w w0 cs : List Nat} {ws zs : List (List Nat)} {p r T T1 T2 O : Addr} {x v : V} {n : String} {vs : List V} {pt : Pt} {ps : List Pt} {ks : List Kd} {k : Kd}
theorem k_stop' : kinds (tx0 "stop") = some [.n] := by decide +kernel
omit F in
theorem p_L_order (hS : SqL K H script (ns.map V.int)) (q : ∀ w0 ks ps T H', w0 ∈ all15 → kinds w0 = some ks → AllF ks ps → Same H H' → OAt H' T (.t w0 :: ps) → Q (.ref T) H') : sp_L_order K a [.ref script] H Q E := by
  refine in_L_order ?_
  unfold t_L_order
  simp only [tx0_eq]
  walk_at "go"
  rename_i p1 H1 n1 p2 H2 n2 p3 H3 n3
  have s3 := (n1.same.trans n2.same).trans n3.same
  have hS3 := s3.seq hS
  refine p_cell_at (ns := ns) hS3 (by omega) ?_
  walk_at "go"
  refine go_ixLo n3.at ⟨by omega, by show _ < (15 : Int); omega⟩ fun v hv _ => ?_
  have hv : v ∈ all15.map tv := hv
  obtain ⟨w0, hw, rfl⟩ := List.mem_map.mp hv
  walk_at "go"
  refine p_cell_at (ns := ns) hS3 (by omega) ?_
  walk_at "go"
  refine p_L_path fun cs fp => ?_
  walk_at "go"
  refine p_cell_at (ns := ns) hS3 (by omega) ?_
  walk_at "go"
  refine p_L_number fun k hk H4 s4 => ?_
  have s4' := s3.trans s4
  have hS4 := s4.seq hS3
  walk_at "go"
  rename_i p5 H5 n5
  have s5' := s4'.trans n5.same
  have hS5 := n5.same.seq hS4
  refine go_inTs (zs := L1) n5.at ?_
  walk_at "go"
  refine go_dec (fun h1 => ?_) (fun h1 => ?_)
  · walk_at "go"
    rename_i T H6 n6
    exact q w0 [] [] T H6 hw (kinds1 h1) trivial (s5'.trans n6.same) (oat_of n6.at ⟨rfl, trivial⟩)
  walk_at "go"
  refine go_eqTx (a := w0) ?_
  walk_at "go"
  refine go_dec (fun h2 => ?_) (fun h2 => ?_)
  · subst h2
    walk_at "go"
    rename_i T H6 n6
    exact q _ [.n] [.n k] T H6 hw k_stop ⟨hk, trivial⟩ (s5'.trans n6.same) (oat_of n6.at ⟨rfl, rfl, trivial⟩)
  walk_at "go"
  rename_i p6 H6 n6
  have s6' := s5'.trans n6.same
  have hS6 := n6.same.seq hS5
  refine go_inTs (zs := L3) n6.at ?_
  walk_at "go"
  refine go_dec (fun h3 => ?_) (fun h3 => ?_)
  · have hk3 : kinds w0 = some [.p, .p] := by
      unfold L3 at h3
      simp only [List.mem_cons, List.not_mem_nil, or_false] at h3
      rcases h3 with rfl | rfl
      all_goals decide +kernel
    walk_at "go"
    refine p_cell_at (ns := ns) hS6 (by omega) ?_
    walk_at "go"
    refine p_L_path fun cs2 fp2 => ?_
    walk_at "go"
    rename_i T H7 n7
    exact q _ [.p, .p] [.t cs, .t cs2] T H7 hw hk3 ⟨fp, fp2, trivial⟩ (s6'.trans n7.same) (oat_of n7.at ⟨rfl, rfl, rfl, trivial⟩)
  walk_at "go"
  refine go_eqTx (a := w0) ?_
  walk_at "go"
  refine go_dec (fun h4 => ?_) (fun h4 => ?_)
  · subst h4
    walk_at "go"
    rename_i T H7 n7
    exact q _ [.p, .n] [.t cs, .n k] T H7 hw k_cut ⟨fp, hk, trivial⟩ (s6'.trans n7.same) (oat_of n7.at ⟨rfl, rfl, rfl, trivial⟩)
  walk_at "go"
  refine go_eqTx (a := w0) ?_
  walk_at "go"
  refine go_dec (fun h5 => ?_) (fun h5 => ?_)
  · subst h5
    walk_at "go"
    refine p_cell_at (ns := ns) hS6 (by omega) ?_
    walk_at "go"
    refine p_L_number fun k2 hk2 H7 s7 => ?_
    walk_at "go"
    rename_i T H8 n8
    exact q _ [.p, .n, .n] [.t cs, .n k, .n k2] T H8 hw k_words ⟨fp, hk, hk2, trivial⟩ ((s6'.trans s7).trans n8.same) (oat_of n8.at ⟨rfl, rfl, rfl, rfl, trivial⟩)
  walk_at "go"
  refine go_eqTx (a := w0) ?_
  walk_at "go"
  refine go_dec (fun h6 => ?_) (fun h6 => ?_)
  · subst h6
    walk_at "go"
    refine p_cell_at (ns := ns) hS6 (by omega) ?_
    walk_at "go"
    have m1 := Int.emod_nonneg (cellI ns 3) (show (9 : Int) ≠ 0 by omega)
    have m2 := Int.emod_lt_of_pos (cellI ns 3) (show (0 : Int) < 9 by omega)
    refine lc_genR (fun D acc H' => ∃ ks : List Nat, acc = (ks.map fun k : Nat => V.int k) ∧ ∀ k ∈ ks, k < 10 ^ 9) (by rw [sizeLine_eq]; omega) (fun D acc H' H'' h _ => h) (fun D H' _ _ => ⟨[], rfl, by simp⟩) ?_ ?_
    · rintro D acc i H' Q' hD hi hl s hd ⟨ks, rfl, hk⟩ k
      simp only [List.set_cons_zero, List.set_cons_succ, Int.zero_add]
      walk_at "go"
      refine p_cell_at (ns := ns) (s.seq hS6) (by omega) ?_
      walk_at "go"
      refine p_L_number fun k2 hk2 H7 s7 => ?_
      refine k _ _ s7 ⟨ks ++ [k2], by rw [List.map_append]; rfl, fun y hy => ?_⟩
      rcases List.mem_append.mp hy with hy | hy
      · exact hk y hy
      · rw [List.mem_singleton.mp hy]; exact hk2
    · rintro D acc H7 hD s hl ⟨ks, rfl, hks⟩ hd
      rw [List.length_map] at hl
      walk_at "go"
      rename_i T H8 n8
      exact q _ [.p, .n, .l] [.t cs, .n k, .l ks] T H8 hw k_put ⟨fp, hk, ⟨fun z => by rw [z] at hl; simp at hl; omega, by omega, hks⟩, trivial⟩ ((s6'.trans s).trans n8.same) (oat_of n8.at ⟨rfl, rfl, rfl, ⟨D, rfl, n8.old hd⟩, trivial⟩)
  walk_at "go"
  rename_i T H7 n7
  have hk2 : kinds w0 = some [.p] := by
    unfold all15 at hw
    unfold L1 at h1
    unfold L3 at h3
    simp only [List.mem_cons, List.not_mem_nil, or_false] at hw h1 h3
    have hw' : w0 = tx0 "file" ∨ w0 = tx0 "folder" ∨ w0 = tx0 "unlink" ∨ w0 = tx0 "leave" ∨ w0 = tx0 "names" ∨ w0 = tx0 "kind" ∨ w0 = tx0 "size" := by
      rcases hw with z | z | z | z | z | z | z | z | z | z | z | z | z | z | z
      · exact .inl z
      · exact .inr (.inl z)
      · exact .inr (.inr (.inl z))
      · exact .inr (.inr (.inr (.inl z)))
      · exact .inr (.inr (.inr (.inr (.inl z))))
      · exact .inr (.inr (.inr (.inr (.inr (.inl z)))))
      · exact .inr (.inr (.inr (.inr (.inr (.inr z)))))
      · exact absurd (.inl z) h3
      · exact absurd (.inr z) h3
      · exact absurd z h6
      · exact absurd z h4
      · exact absurd z h5
      · exact absurd (.inl z) h1
      · exact absurd z h2
      · exact absurd (.inr z) h1
    rcases hw' with rfl | rfl | rfl | rfl | rfl | rfl | rfl
    all_goals decide +kernel
  exact q w0 [.p] [.t cs] T H7 hw hk2 ⟨fp, trivial⟩ (s6'.trans n7.same) (oat_of n7.at ⟨rfl, rfl, trivial⟩)
omit F in
theorem p_sign {k : Int} (q : ∀ c : Nat, c < 1000 → Q (.str (tx [c])) H) : sp_L_sign K a [.int k] H Q E := by
  refine in_L_sign ?_
  unfold t_L_sign
  simp only [tx0_eq]
  rw [show tx0 " !\"#$&'()*+,-./0123456789:;<=>?@ABCDEFGHIJKLMNOPQRSTUVWXYZ[\\]^_`abcdefghijklmnopqrstuvwxyz{|}~\n\t" = signsA from rfl, show tx0 "     ,,,,,00123456789" = signsB from rfl]
  have l96 := signsA_len
  have l21 := signsB_len
  have low : Low (signsA ++ signsB) := signsA_low.app signsB_low
  generalize signsA = sg at *
  generalize signsB = sh at *
  walk_at "go"
  refine go_addTx (by omega) ?_
  walk_at "go"
  refine go_lenTx (by omega) ?_
  rw [l96]
  have h1 := Int.emod_nonneg k (show (117 : Int) ≠ 0 by omega)
  have h2 := Int.emod_lt_of_pos k (show (0 : Int) < 117 by omega)
  walk_at "go"
  have hi : (k % 117).toNat < (sg ++ sh).length := by rw [List.length_append]; omega
  exact go_ixTx (by rw [List.length_append]; omega) (by omega) (List.getElem?_eq_getElem hi) (q _ (low _ (List.getElem_mem hi)))
/-! words, and parts of rows of them -/
def tot (ws : List (List Nat)) : Nat := (ws.map List.length).sum + ws.length
omit F in
theorem tot_app {a b : List (List Nat)} : tot (a ++ b) = tot a + tot b := by
  unfold tot
  rw [List.map_append, List.sum_append, List.length_append]
  omega
omit F in
theorem tot_sub {a b : List (List Nat)} (h : a.Sublist b) : tot a ≤ tot b := by
  induction h with
  | slnil => exact Nat.le_refl _
  | cons x _ ih => unfold tot at *; rw [List.map_cons, List.sum_cons, List.length_cons]; omega
  | cons_cons x _ ih => unfold tot at *; rw [List.map_cons, List.sum_cons, List.length_cons, List.map_cons, List.sum_cons, List.length_cons]; omega
omit F in
theorem jns_tot {s : Nat} : (jns s ws).length ≤ tot ws := by
  have := jns_len (s := s) (ps := ws)
  unfold tot
  split at this <;> omega
omit F in
theorem psp_tot {s : Nat} : tot (psp s [] cs) = cs.length + 1 := by
  have := jns_len (s := s) (ps := psp s [] cs)
  rw [jns_psp, List.nil_append] at this
  obtain ⟨p, r, e⟩ := psp_cons (s := s) cs []
  rw [if_neg (by rw [e]; simp)] at this
  unfold tot
  omega
omit F in
theorem jns_low {s : Nat} (hs : s < 1000) : ∀ {ws : List (List Nat)}, (∀ w ∈ ws, Low w) → Low (jns s ws)
  | [], _ => .nil
  | [x], h => h x List.mem_cons_self
  | x :: y :: r, h => by
    show Low (x ++ s :: jns s (y :: r))
    refine (h x List.mem_cons_self).app fun c hc => ?_
    rcases List.mem_cons.mp hc with rfl | hc
    · exact hs
    · exact jns_low hs (fun w hw => h w (List.mem_cons_of_mem _ hw)) c hc
omit F in
theorem cut_tv (ws : List (List Nat)) (lo hi : Option Int) : ∃ zs : List (List Nat), cutV (ws.map tv) lo hi = zs.map tv ∧ zs.Sublist ws := by
  unfold cutV
  exact ⟨(ws.drop (HT.sIx (ws.map tv).length 0 lo)).take (HT.sIx (ws.map tv).length (ws.map tv).length hi - HT.sIx (ws.map tv).length 0 lo), by rw [List.map_take, List.map_drop], (List.take_sublist _ _).trans (List.drop_sublist _ _)⟩
omit F in
theorem at_last (h : ws ≠ []) : ∃ w, atI (ws.map tv) (-1) = some (tv w) ∧ w ∈ ws := by
  have l : 0 < ws.length := List.length_pos_iff.mpr h
  unfold atI ixN
  rw [if_neg (by omega), List.length_map, if_pos (by omega)]
  have e : (-1 + (ws.length : Int)).toNat = ws.length - 1 := by omega
  rw [e]
  refine ⟨ws[ws.length - 1]'(by omega), ?_, List.getElem_mem _⟩
  show (ws.map tv)[ws.length - 1]? = _
  rw [List.getElem?_map, List.getElem?_eq_getElem (by omega)]; rfl
omit F in
theorem go_joinW {p : Addr} (h : H p = some (.lst (zs.map tv))) (hl : tot zs ≤ 850) (lo : ∀ z ∈ zs, Low z) (q : ∀ cs', cs'.length ≤ 850 → Low cs' → Q (.str (tx cs')) H) : rJoinP K (.str (tx [32])) [.ref p] H Q := by
  have := jns_tot (s := 32) (ws := zs)
  refine go_joinS h (by omega) (by unfold tot at hl; omega) (q _ (by omega) (jns_low (by omega) lo))
end

end Bk

namespace Bk
open PySem L2 PyProof.Rows
/-! our own short tactics: h: what stands at a place; ne: two places; sm: what stood stands; z: a size; s: a step; go: steps -/
local macro_rules | `(tactic| walk_at "h") => `(tactic| first
  | assumption
  | exact New.at (by assumption)
  | exact Wr.at (by assumption)
  | (refine' New.old (by assumption) ?_; walk_at "h")
  | (refine' Same.at (by assumption) ?_; walk_at "h")
  | (refine' Wr.old (by assumption) ?_ ?_; walk_at "ne"; walk_at "h")
  | (refine' Chg.at (by assumption) ?_ ?_; walk_at "ni"; walk_at "h"))
local macro_rules | `(tactic| walk_at "ni") => `(tactic| first
  | exact ni_nil
  | assumption
  | (refine' ni_cons ?_ ?_; walk_at "ne"; walk_at "ni"))
local macro_rules | `(tactic| walk_at "ne") => `(tactic| first
  | assumption
  | exact Ne.symm (by assumption)
  | exact New.ne (by assumption) (by walk_at "h")
  | exact ne_none (by assumption) (by walk_at "h")
  | exact Ne.symm (ne_none (by assumption) (by walk_at "h"))
  | exact Ne.symm (New.ne (by assumption) (by walk_at "h")))
local macro_rules | `(tactic| walk_at "sm") => `(tactic| first
  | exact Same.refl _
  | assumption
  | (refine' Same.trans ?_ (New.same (by assumption)); walk_at "sm")
  | (refine' Same.trans ?_ (by assumption : Same _ _); walk_at "sm"))
local macro_rules | `(tactic| walk_at "z") => `(tactic| first
  | assumption
  | (rw [PySem.sizeLine_eq]; omega)
  | (rw [PySem.sizeLine_eq]; simp only [List.length_cons, List.length_nil, List.length_append, List.length_map, List.length_range, List.length_replicate, len_cut]; omega)
  | (rw [PySem.sizeLine_eq]; simp only [List.length_cons, List.length_nil, List.length_append, List.length_map, List.length_range, List.length_replicate, len_cut] at *; omega))
local macro_rules | `(tactic| walk_at "s") => `(tactic| first
  | ((with_reducible refine' go_var ?h ?_); (case h => exact rfl))
  | (with_reducible refine' go_c ?_)
  | (with_reducible refine' go_op ?_)
  | (with_reducible refine' go_un ?_)
  | (with_reducible refine' go_rU ?_)
  | (with_reducible refine' go_seq ?_)
  | (with_reducible refine' go_ret ?_)
  | (with_reducible refine' go_retN ?_)
  | (with_reducible refine' go_next ?_)
  | (with_reducible refine' go_drop ?_)
  | (with_reducible refine' go_asg ?_)
  | ((with_reducible refine' go_name2 ?h ?_); (case h => (simp only [List.set_cons_zero, List.set_cons_succ]; exact rfl)))
  | ((with_reducible refine' go_name2 ?h ?_); (case h => exact rfl))
  | (with_reducible refine' go_ifS ?_)
  | (with_reducible refine' go_blk ?_)
  | (with_reducible refine' go_test ?_)
  | (with_reducible refine' go_tB ?_)
  | (with_reducible refine' go_and ?_)
  | (with_reducible refine' go_or ?_)
  | (with_reducible refine' go_not ?_)
  | (with_reducible refine' go_andV ?_)
  | (with_reducible refine' go_orV ?_)
  | (with_reducible refine' go_notV ?_)
  | (with_reducible refine' go_if ?_)
  | (with_reducible refine' go_chain ?_)
  | (with_reducible refine' iteT ?_)
  | (with_reducible refine' iteF ?_)
  | ((with_reducible refine' go_Td ?h ?_); (case h => walk_at "pr"))
  | ((with_reducible refine' go_Fd ?h ?_); (case h => walk_at "pr"))
  | ((with_reducible refine' go_Tn ?h ?_); (case h => walk_at "pr"))
  | ((with_reducible refine' go_Fn ?h ?_); (case h => walk_at "pr"))
  | ((with_reducible refine' go_T ?h ?_); (case h => (first | decide | assumption | exact rfl)))
  | ((with_reducible refine' go_F ?h ?_); (case h => (first | decide | assumption | exact rfl)))
  | (with_reducible refine' go_nil ?_)
  | (with_reducible refine' go_cons ?_)
  | (with_reducible refine' go_tLst ?_)
  | (with_reducible refine' go_tTup ?_)
  | ((with_reducible refine' go_LstK ?h ?_); (case h => walk_at "z"); intro p H1 n1)
  | ((with_reducible refine' go_TupK ?h ?_); (case h => walk_at "z"); intro p H1 n1)
  | (with_reducible refine' go_addI ?_)
  | ((with_reducible refine' go_addL ?h ?k ?z ?_); (case h => walk_at "h"); (case k => walk_at "h"); (case z => walk_at "z"); intro p H1 n1)
  | (with_reducible refine' go_sub ?_)
  | ((with_reducible refine' go_mulI ?h ?_); (case h => (unfold CMul; omega)))
  | ((with_reducible refine' go_mulL ?h ?k ?_); (case h => walk_at "h"); (case k => (refine ⟨by omega, by omega, ?_⟩; walk_at "z")); intro p H1 n1)
  | ((with_reducible refine' go_div ?h ?_); (case h => (unfold CDiv; omega)))
  | ((with_reducible refine' go_mod ?h ?_); (case h => omega))
  | (with_reducible refine' go_p109 ?_)
  | (with_reducible refine' go_p1020 ?_)
  | ((with_reducible refine' go_pow ?h ?_); (case h => (unfold CPow; omega)))
  | (with_reducible refine' go_lt ?_)
  | (with_reducible refine' go_le ?_)
  | (with_reducible refine' go_gt ?_)
  | (with_reducible refine' go_ge ?_)
  | (with_reducible refine' go_eqI ?_)
  | (with_reducible refine' go_eqB ?_)
  | (with_reducible refine' go_eqS ?_)
  | (with_reducible refine' go_neI ?_)
  | (with_reducible refine' go_neB ?_)
  | (with_reducible refine' go_neS ?_)
  | (with_reducible refine' go_isN ?_)
  | (with_reducible refine' go_isNotN ?_)
  | (with_reducible refine' go_isB ?_)
  | (with_reducible refine' go_isNotB ?_)
  | (with_reducible refine' go_sl ?_)
  | (with_reducible refine' go_noPart ?_)
  | (with_reducible refine' go_part ?_)
  | (with_reducible refine' go_intK ?_)
  | ((with_reducible refine' go_slL ?h ?_); (case h => walk_at "h"); intro p H1 n1)
  | ((with_reducible refine' go_ixL ?h ?k ?_); (case h => walk_at "h"); (case k => exact rfl))
  | ((with_reducible refine' go_ixT ?h ?k ?_); (case h => walk_at "h"); (case k => exact rfl))
  | ((with_reducible refine' go_slW ?h ?_); (case h => walk_at "h"))
  | (with_reducible refine' go_bm ?_)
  | (with_reducible refine' go_bm0 ?_)
  | ((with_reducible refine' go_bmL ?h ?_); (case h => walk_at "h"))
  | ((with_reducible refine' go_append ?h ?k ?_); (case h => walk_at "h"); (case k => walk_at "z"); intro H1 n1)
  | ((with_reducible refine' go_extend ?h ?k ?z ?_); (case h => walk_at "h"); (case k => walk_at "h"); (case z => walk_at "z"); intro H1 n1)
  | ((with_reducible refine' go_clear ?h ?_); (case h => walk_at "h"); intro H1 n1)
  | ((with_reducible refine' go_dnew ?_); intro p H1 n1)
  | (with_reducible refine' go_cb ?_)
  | (with_reducible refine' go_callS ?_)
  | (with_reducible refine' go_call0 ?_)
  | ((with_reducible refine' go_lenL ?h ?_); (case h => walk_at "h"))
  | ((with_reducible refine' go_lenT ?h ?_); (case h => walk_at "h"))
  | ((with_reducible refine' go_lenK ?h ?_); (case h => walk_at "hk"))
  | ((with_reducible refine' go_listL ?h ?_); (case h => walk_at "h"); intro p H1 n1)
  | ((with_reducible refine' go_listT ?h ?_); (case h => walk_at "h"); intro p H1 n1)
  | ((with_reducible refine' go_tupleL ?h ?_); (case h => walk_at "h"); intro p H1 n1)
  | (with_reducible refine' go_intI ?_)
  | (with_reducible refine' go_intB ?_)
  | (with_reducible refine' go_abs ?_)
  | (with_reducible refine' go_min2 ?_)
  | (with_reducible refine' go_max2 ?_)
  | ((with_reducible refine' go_isi ?h ?k ?_); (case h => walk_at "ty"); (case k => exact kit_bb (by decide) (by decide)))
  | (with_reducible refine' go_lc ?_)
  | (with_reducible refine' go_for ?_)
  | (with_reducible refine' go_seqP ?_)
  | ((with_reducible refine' go_seqL ?h ?_); (case h => walk_at "h"))
  | ((with_reducible refine' go_seqT ?h ?_); (case h => walk_at "h"))
  | (with_reducible refine' go_seqS ?_)
  | (with_reducible refine' go_rng1 ?_)
  | (with_reducible refine' go_rng2 ?_)
  | ((with_reducible refine' go_rng1K ?h ?_); (case h => omega))
  | ((with_reducible refine' go_rng2K ?h ?_); (case h => omega))
  | (with_reducible refine' go_raise ?_)
  | ((with_reducible refine' go_tupG ?h ?k ?_); (case h => walk_at "h"); (case k => exact rfl))
  | ((with_reducible refine' go_lstG ?h ?k ?_); (case h => walk_at "h"); (case k => exact rfl))
  | (with_reducible refine' go_gNil ?_)
  | (with_reducible refine' go_tryAs ?_)
  | (with_reducible refine' go_tryMany1 ?_)
  | (with_reducible refine' go_tryMany2 ?_)
  | (with_reducible refine' go_WM ?_)
  | ((with_reducible refine' go_asT ?_); intro e he)
  | (with_reducible refine' go_asF ?_)
  | ((with_reducible refine' go_manyT ?_); intro e he)
  | (with_reducible refine' go_manyF ?_)
  | (with_reducible refine' go_manyN ?_)
  | (with_reducible refine' go_fld ?_)
  | ((with_reducible refine' go_FldK ?h ?c ?n ?l ?_); (case h => walk_at "h"); (case c => infer_instance); (case n => infer_instance); (case l => exact rfl))
  | (with_reducible refine' go_sfld ?_)
  | ((with_reducible refine' go_SFldK ?h ?c ?n ?l ?e ?_); (case h => walk_at "h"); (case c => infer_instance); (case n => infer_instance); (case l => exact Nat.le_of_ble_eq_true rfl); (case e => walk_at "pf"); intro H1 n1)
  | (with_reducible refine' go_meth ?_)
  | ((with_reducible refine' go_MethK 0 ?h ?l ?e ?_); (case h => walk_at "h"); (case l => exact rfl); (case e => exact rfl))
  | ((with_reducible refine' go_MethK 1 ?h ?l ?e ?_); (case h => walk_at "h"); (case l => exact rfl); (case e => exact rfl))
  | ((with_reducible refine' go_MethK 2 ?h ?l ?e ?_); (case h => walk_at "h"); (case l => exact rfl); (case e => exact rfl))
  | (with_reducible refine' go_make ?_)
  | (with_reducible refine' go_callX ?_)
  | (with_reducible refine' go_methX ?_)
  | ((with_reducible refine' go_MethXK ?h ?l ?_); (case h => walk_at "h"); (case l => exact rfl))
  | (with_reducible refine' go_dget ?_)
  | ((with_reducible refine' go_DGetS ?h ?l ?_); (case h => walk_at "h"); (case l => exact rfl))
  | (with_reducible refine' go_dput ?_)
  | ((with_reducible refine' go_DPutS ?h ?l ?e ?_); (case h => walk_at "h"); (case l => exact Nat.le_of_ble_eq_true rfl); (case e => walk_at "pk"); intro H1 n1)
  | ((with_reducible refine' go_disp ?_); intro p H1 n1)
  | (with_reducible refine' go_pairs ?_)
  | (with_reducible refine' go_pairs0 ?_)
  | ((with_reducible refine' go_DispS ?h ?e ?l ?k ?j ?m ?_); (case h => walk_at "h"); (case e => exact rfl); (case l => exact Nat.le_of_ble_eq_true rfl); (case k => (simp only [unS]; exact rfl)); (case j => (simp only [List.map_cons, List.map_nil]; exact rfl)); (case m => decide +kernel); intro H1 n1)
  | (with_reducible refine' go_par ?_)
  | ((with_reducible refine' go_ParK ?h ?_); (case h => (simp only [List.set_cons_zero, List.set_cons_succ]; exact rfl)))
  | (with_reducible refine' go_sub_ ?_)
  | ((with_reducible refine' go_setLi ?h ?k ?_); (case h => walk_at "h"); (case k => walk_at "ix"); intro H1 n1)
  | (with_reducible refine' go_listY ?_)
  | ((with_reducible refine' go_listYL ?h ?_); (case h => walk_at "h"))
  | (with_reducible refine' go_bmS ?_)
  | (with_reducible refine' go_ckw ?_)
  | ((with_reducible refine' go_maxD ?h ?_); (case h => walk_at "h"))
  | (with_reducible refine' go_listR ?_)
  | (with_reducible refine' go_rg2 ?_)
  | (with_reducible refine' go_Rg2K ?_)
  | (with_reducible refine' go_rg1 ?_)
  | (with_reducible refine' go_Rg1K ?_)
  | ((with_reducible refine' go_ListRK ?h ?_); (case h => omega); intro p H1 n1)
  | (with_reducible refine' go_enum ?_)
  | ((with_reducible refine' go_EnumL ?h ?_); (case h => walk_at "h"))
  | (with_reducible refine' go_isX ?_)
  | (with_reducible refine' go_isXt ?_)
  | (with_reducible refine' go_din ?_)
  | (with_reducible refine' go_dnotin ?_)
  | ((with_reducible refine' go_DInI ?h ?_); (case h => walk_at "h"))
  | ((with_reducible refine' go_DNotInI ?h ?_); (case h => walk_at "h"))
  | (with_reducible refine' go_dget2 ?_)
  | ((with_reducible refine' go_DGet2K ?h ?_); (case h => walk_at "h"))
  | (with_reducible refine' go_dpop1 ?_)
  | ((with_reducible refine' go_eqDE ?h ?k ?_); (case h => walk_at "h"); (case k => walk_at "h"))
  | ((with_reducible refine' go_neDE ?h ?k ?_); (case h => walk_at "h"); (case k => walk_at "h"))
  | (with_reducible refine' go_chain3 ?_)
  | (with_reducible refine' go_LinkT ?_)
  | (with_reducible refine' go_LinkF ?_)
  | (with_reducible refine' go_Link2T ?_)
  | (with_reducible refine' go_Link2F ?_)
  | (with_reducible refine' go_gSl ?_)
  | ((with_reducible refine' go_insert ?h ?k ?l ?m ?_); (case h => walk_at "h"); (case k => walk_at "z"); (case l => omega); (case m => omega); intro H1 n1)
  | (with_reducible refine' go_gCons ?_))
local macro_rules | `(tactic| walk_at "pf") => `(tactic| first
  | exact putF_nil
  | exact putF_hit
  | (refine' putF_miss ?h ?k; (case h => decide +kernel); (case k => walk_at "pf")))
local macro_rules | `(tactic| walk_at "pk") => `(tactic| first
  | exact putK_nil
  | exact putK_hit (by (simp only [List.map_cons, List.map_nil]; decide +kernel))
  | (refine' putK_miss ?h ?k; (case h => decide +kernel); (case k => walk_at "pk")))
local macro_rules | `(tactic| walk_at "ix") => `(tactic| first
  | assumption
  | omega
  | (simp only [List.length_cons, List.length_nil, List.length_append, List.length_map, List.length_range, List.length_replicate, List.length_set] at *; omega))
local macro_rules | `(tactic| walk_at "pr") => `(tactic| first
  | assumption
  | decide
  | omega
  | exact rfl
  | (intro z; cases z; done))
local macro_rules | `(tactic| walk_at "hk") => `(tactic| first
  | assumption
  | exact seq' (by assumption) (by walk_at "sm"))
local macro_rules | `(tactic| walk_at "ty") => `(tactic| first
  | exact rfl
  | assumption
  | exact tyN_L (by walk_at "h")
  | exact tyN_T (by walk_at "h")
  | exact tyN_D (by walk_at "h"))
local macro_rules | `(tactic| walk_at "go") => `(tactic| repeat (walk_at "s"))
section
variable {K : PySem.W.Frag} {a : Ac} {H H' : Hp} {Q : VK} {E : XK} [F : Fc K a] {script : Addr} {ns : List Int} {w w0 cs : List Nat} {ws zs : List (List Nat)} {p r T T1 T2 O : Addr} {x v : V} {n : String} {vs : List V} {pt : Pt} {ps : List Pt} {ks : List Kd} {k : Kd}
omit F in
theorem p_L_bent {c : Int} (hl : cs.length ≤ 410) (lo : Low cs) (q : ∀ cs' H', Same H H' → cs'.length ≤ 850 → Low cs' → Q (.str (tx cs')) H') : sp_L_bent K a [.str (tx cs), .int c] H Q E := by
  refine in_L_bent ?_
  unfold t_L_bent
  simp only [tx0_eq]
  have en : tx0 " " = [32] := by decide +kernel
  have e48 : tx0 "0" = [48] := by decide +kernel
  have lowB : Low (tx0 "1234567890") ∧ (tx0 "1234567890").length = 10 := by unfold Low; decide +kernel
  have e0 : tx0 "" = [] := rfl
  rw [en, e48, e0]
  generalize tx0 "1234567890" = tn at lowB
  obtain ⟨lowB, ltn⟩ := lowB
  walk_at "go"
  refine go_splitS (by omega) (by omega) fun p H1 n1 => ?_
  have low := psp_low (s := 32) cs [] Low.nil lo
  have tt := psp_tot (s := 32) (cs := cs)
  obtain ⟨w0, ws0, ew⟩ := psp_cons (s := 32) cs []
  have lpos : 0 < (psp 32 [] cs).length := by rw [ew]; simp
  have len := psp_len (s := 32) cs []
  generalize psp 32 [] cs = ws at n1 low tt lpos len
  have hne : ws ≠ [] := List.length_pos_iff.mp lpos
  have s1 := n1.same
  have k1 := Int.emod_nonneg (c / 9) (show ((cs.length : Int) + 1) ≠ 0 by omega)
  have k2 := Int.emod_lt_of_pos (c / 9) (show (0 : Int) < (cs.length : Int) + 1 by omega)
  have j1 := Int.emod_nonneg (c / 9) (show (ws.length : Int) ≠ 0 by omega)
  walk_at "go"
  refine go_lenTx (by omega) ?_
  walk_at "go"
  rw [List.length_map]
  walk_at "go"
  refine go_lenTx (by omega) ?_
  walk_at "go"
  refine p_sign fun sc hs => ?_
  generalize c / 9 % ((cs.length : Int) + 1) = at_ at k1 k2
  generalize c / 9 % (ws.length : Int) = pl at j1
  have e1 : (cs.take at_.toNat).length ≤ cs.length := by rw [List.length_take]; omega
  walk_at "go"
  refine go_dec (fun c1 => ?_) (fun c1 => ?_)
  · walk_at "go"
    refine go_slTx (by omega) ?_
    rw [cutS_take k1]
    walk_at "go"
    refine go_addTx (by show _ + 1 ≤ _; omega) ?_
    walk_at "go"
    refine go_slTx (by omega) ?_
    rw [cutS_drop k1]
    walk_at "go"
    refine go_addTx (by rw [List.length_append, List.length_drop]; show _ + 1 + _ ≤ _; omega) ?_
    refine q _ _ s1 ?_ (((lo.take _).app (.one hs)).app (lo.drop _))
    rw [List.length_append, List.length_append, List.length_take, List.length_drop, List.length_singleton]; omega
  walk_at "go"
  refine go_dec (fun c2 => ?_) (fun c2 => ?_)
  · walk_at "go"
    refine go_slTx (by omega) ?_
    rw [cutS_take k1]
    walk_at "go"
    refine go_slTx (by omega) ?_
    rw [cutS_drop (by omega)]
    walk_at "go"
    refine go_addTx (by rw [List.length_drop]; omega) ?_
    refine q _ _ s1 ?_ ((lo.take _).app (lo.drop _))
    rw [List.length_append, List.length_take, List.length_drop]; omega
  walk_at "go"
  refine go_dec (fun c3 => ?_) (fun c3 => ?_)
  · walk_at "go"
    refine go_slTx (by omega) ?_
    rw [cutS_take k1]
    walk_at "go"
    refine go_addTx (by show _ + 1 ≤ _; omega) ?_
    walk_at "go"
    refine go_slTx (by omega) ?_
    rw [cutS_drop (by omega)]
    walk_at "go"
    refine go_addTx (by rw [List.length_append, List.length_drop]; show _ + 1 + _ ≤ _; omega) ?_
    refine q _ _ s1 ?_ (((lo.take _).app (.one hs)).app (lo.drop _))
    rw [List.length_append, List.length_append, List.length_take, List.length_drop, List.length_singleton]; omega
  have lw1 : (ws.map tv).length ≤ 411 := by rw [List.length_map]; unfold tot at tt; omega
  walk_at "go"
  refine go_dec (fun c4 => ?_) (fun c4 => ?_)
  · walk_at "go"
    rename_i p2 H2 n2 p3 H3 n3 p4 H4 n4
    obtain ⟨z1, ez1, sb1⟩ := cut_tv ws none (some pl)
    obtain ⟨z2, ez2, sb2⟩ := cut_tv ws (some (pl + 1)) none
    have t1 := tot_sub sb1
    have t2 := tot_sub sb2
    refine go_joinW (zs := z1 ++ z2) (by rw [n4.at, ez1, ez2, List.map_append]) (by rw [tot_app]; omega) (fun z hz => ?_) fun cs' l' lo' => q _ _ (((s1.trans n2.same).trans n3.same).trans n4.same) l' lo'
    rcases List.mem_append.mp hz with hz | hz
    · exact low z (sb1.subset hz)
    · exact low z (sb2.subset hz)
  walk_at "go"
  refine go_dec (fun c5 => ?_) (fun c5 => ?_)
  · walk_at "go"
    rename_i p2 H2 n2 p3 H3 n3 p4 H4 n4 p5 H5 n5 p6 H6 n6
    obtain ⟨z2, ez2, sb2⟩ := cut_tv ws (some pl) (some (pl + 1))
    have t2 := tot_sub sb2
    have t3 : tot (ws.take pl.toNat) + tot (ws.drop pl.toNat) = tot ws := by rw [← tot_app, List.take_append_drop]
    refine go_joinW (zs := ws.take pl.toNat ++ z2 ++ ws.drop pl.toNat) ?_ (by rw [tot_app, tot_app]; omega) (fun z hz => ?_) fun cs' l' lo' => q _ _ (((((s1.trans n2.same).trans n3.same).trans n4.same).trans n5.same).trans n6.same) l' lo'
    · rw [n6.at, ez2, cut_take _ j1, cut_drop _ j1, List.map_append, List.map_append, List.map_take, List.map_drop]
    · rcases List.mem_append.mp hz with hz | hz
      · rcases List.mem_append.mp hz with hz | hz
        · exact low z (List.mem_of_mem_take hz)
        · exact low z (sb2.subset hz)
      · exact low z (List.mem_of_mem_drop hz)
  walk_at "go"
  refine go_dec (fun c6 => ?_) (fun c6 => ?_)
  · walk_at "go"
    rename_i p2 H2 n2 p3 H3 n3 p4 H4 n4 p5 H5 n5 p6 H6 n6
    generalize (if pl > 1 then pl else 1) = pm at *
    obtain ⟨z1, ez1, sb1⟩ := cut_tv ws none (some pm)
    obtain ⟨z2, ez2, sb2⟩ := cut_tv ws (some (pm + 1)) none
    have t1 := tot_sub sb1
    have t2 := tot_sub sb2
    refine go_joinW (zs := z1 ++ [[]] ++ z2) ?_ (by rw [tot_app, tot_app]; show _ + 1 + _ ≤ _; omega) (fun z hz => ?_) fun cs' l' lo' => q _ _ (((((s1.trans n2.same).trans n3.same).trans n4.same).trans n5.same).trans n6.same) l' lo'
    · rw [n6.at, ez1, ez2, List.map_append, List.map_append]; rfl
    · rcases List.mem_append.mp hz with hz | hz
      · rcases List.mem_append.mp hz with hz | hz
        · exact low z (sb1.subset hz)
        · rw [List.mem_singleton.mp hz]; exact Low.nil
      · exact low z (sb2.subset hz)
  obtain ⟨wl, ewl, mwl⟩ := at_last hne
  have lwl := len wl mwl
  have lowl := low wl mwl
  simp only [List.length_nil, Nat.zero_add] at lwl
  walk_at "go"
  refine go_dec (fun c7 => ?_) (fun c7 => ?_)
  · walk_at "go"
    rename_i p2 H2 n2
    refine go_ixL (n2.old n1.at) ewl ?_
    refine go_addTx (by show 1 + _ ≤ _; omega) ?_
    walk_at "go"
    rename_i p3 H3 n3 p4 H4 n4
    obtain ⟨z1, ez1, sb1⟩ := cut_tv ws none (some (-1))
    have t1 := tot_sub sb1
    refine go_joinW (zs := z1 ++ [[48] ++ wl]) ?_ (by rw [tot_app]; show _ + tot [[48] ++ wl] ≤ _; unfold tot at *; simp; omega) (fun z hz => ?_) fun cs' l' lo' => q _ _ (((s1.trans n2.same).trans n3.same).trans n4.same) l' lo'
    · rw [n4.at, ez1, List.map_append]; rfl
    · rcases List.mem_append.mp hz with hz | hz
      · exact low z (sb1.subset hz)
      · rw [List.mem_singleton.mp hz]; exact (Low.one (by omega)).app lowl
  walk_at "go"
  refine go_dec (fun c8 => ?_) (fun c8 => ?_)
  · walk_at "go"
    rename_i p2 H2 n2
    refine go_ixL (n2.old n1.at) ewl ?_
    refine go_addTx (b := tn) (by omega) ?_
    walk_at "go"
    have m1 := Int.emod_nonneg (c / 9) (show (2 : Int) ≠ 0 by omega)
    refine go_slTx (by rw [List.length_append]; omega) ?_
    rw [cutS_take (by omega)]
    walk_at "go"
    rename_i p3 H3 n3 p4 H4 n4
    obtain ⟨z1, ez1, sb1⟩ := cut_tv ws none (some (-1))
    have t1 := tot_sub sb1
    refine go_joinW (zs := z1 ++ [(wl ++ tn).take (10 + c / 9 % 2).toNat]) ?_ (by
      rw [tot_app]; unfold tot at *; simp; omega) (fun z hz => ?_) fun cs' l' lo' => q _ _ (((s1.trans n2.same).trans n3.same).trans n4.same) l' lo'
    · rw [n4.at, ez1, List.map_append]; rfl
    · rcases List.mem_append.mp hz with hz | hz
      · exact low z (sb1.subset hz)
      · rw [List.mem_singleton.mp hz]; exact (lowl.app lowB).take _
  walk_at "go"
  rename_i p2 H2 n2
  refine go_ixLo n2.at ⟨by omega, by show _ < (10 : Int); omega⟩ fun v hv _ => ?_
  have f : ∀ z : List Nat, Low z ∧ z.length ≤ 300 → Q (.str (tx z)) H2 := fun z h => q z H2 (s1.trans n2.same) (by omega) h.1
  simp only [List.mem_cons, List.not_mem_nil, or_false] at hv
  rcases hv with rfl | rfl | rfl | rfl | rfl | rfl | rfl | rfl | rfl | rfl
  all_goals exact f _ (by unfold Low; decide +kernel)
end

end Bk

namespace Bk
open PySem L2 PyProof.Rows
/-! our own short tactics: h: what stands at a place; ne: two places; sm: what stood stands; z: a size; s: a step; go: steps -/
local macro_rules | `(tactic| walk_at "h") => `(tactic| first
  | assumption
  | exact New.at (by assumption)
  | exact Wr.at (by assumption)
  | (refine' New.old (by assumption) ?_; walk_at "h")
  | (refine' Same.at (by assumption) ?_; walk_at "h")
  | (refine' Wr.old (by assumption) ?_ ?_; walk_at "ne"; walk_at "h")
  | (refine' Chg.at (by assumption) ?_ ?_; walk_at "ni"; walk_at "h"))
local macro_rules | `(tactic| walk_at "ni") => `(tactic| first
  | exact ni_nil
  | assumption
  | (refine' ni_cons ?_ ?_; walk_at "ne"; walk_at "ni"))
local macro_rules | `(tactic| walk_at "ne") => `(tactic| first
  | assumption
  | exact Ne.symm (by assumption)
  | exact New.ne (by assumption) (by walk_at "h")
  | exact ne_none (by assumption) (by walk_at "h")
  | exact Ne.symm (ne_none (by assumption) (by walk_at "h"))
  | exact Ne.symm (New.ne (by assumption) (by walk_at "h")))
local macro_rules | `(tactic| walk_at "sm") => `(tactic| first
  | exact Same.refl _
  | assumption
  | (refine' Same.trans ?_ (New.same (by assumption)); walk_at "sm")
  | (refine' Same.trans ?_ (by assumption : Same _ _); walk_at "sm"))
local macro_rules | `(tactic| walk_at "z") => `(tactic| first
  | assumption
  | (rw [PySem.sizeLine_eq]; omega)
  | (rw [PySem.sizeLine_eq]; simp only [List.length_cons, List.length_nil, List.length_append, List.length_map, List.length_range, List.length_replicate, len_cut]; omega)
  | (rw [PySem.sizeLine_eq]; simp only [List.length_cons, List.length_nil, List.length_append, List.length_map, List.length_range, List.length_replicate, len_cut] at *; omega))
local macro_rules | `(tactic| walk_at "s") => `(tactic| first
  | ((with_reducible refine' go_var ?h ?_); (case h => exact rfl))
  | (with_reducible refine' go_c ?_)
  | (with_reducible refine' go_op ?_)
  | (with_reducible refine' go_un ?_)
  | (with_reducible refine' go_rU ?_)
  | (with_reducible refine' go_seq ?_)
  | (with_reducible refine' go_ret ?_)
  | (with_reducible refine' go_retN ?_)
  | (with_reducible refine' go_next ?_)
  | (with_reducible refine' go_drop ?_)
  | (with_reducible refine' go_asg ?_)
  | ((with_reducible refine' go_name2 ?h ?_); (case h => (simp only [List.set_cons_zero, List.set_cons_succ]; exact rfl)))
  | ((with_reducible refine' go_name2 ?h ?_); (case h => exact rfl))
  | (with_reducible refine' go_ifS ?_)
  | (with_reducible refine' go_blk ?_)
  | (with_reducible refine' go_test ?_)
  | (with_reducible refine' go_tB ?_)
  | (with_reducible refine' go_and ?_)
  | (with_reducible refine' go_or ?_)
  | (with_reducible refine' go_not ?_)
  | (with_reducible refine' go_andV ?_)
  | (with_reducible refine' go_orV ?_)
  | (with_reducible refine' go_notV ?_)
  | (with_reducible refine' go_if ?_)
  | (with_reducible refine' go_chain ?_)
  | (with_reducible refine' iteT ?_)
  | (with_reducible refine' iteF ?_)
  | ((with_reducible refine' go_Td ?h ?_); (case h => walk_at "pr"))
  | ((with_reducible refine' go_Fd ?h ?_); (case h => walk_at "pr"))
  | ((with_reducible refine' go_Tn ?h ?_); (case h => walk_at "pr"))
  | ((with_reducible refine' go_Fn ?h ?_); (case h => walk_at "pr"))
  | ((with_reducible refine' go_T ?h ?_); (case h => (first | decide | assumption | exact rfl)))
  | ((with_reducible refine' go_F ?h ?_); (case h => (first | decide | assumption | exact rfl)))
  | (with_reducible refine' go_nil ?_)
  | (with_reducible refine' go_cons ?_)
  | (with_reducible refine' go_tLst ?_)
  | (with_reducible refine' go_tTup ?_)
  | ((with_reducible refine' go_LstK ?h ?_); (case h => walk_at "z"); intro p H1 n1)
  | ((with_reducible refine' go_TupK ?h ?_); (case h => walk_at "z"); intro p H1 n1)
  | (with_reducible refine' go_addI ?_)
  | ((with_reducible refine' go_addL ?h ?k ?z ?_); (case h => walk_at "h"); (case k => walk_at "h"); (case z => walk_at "z"); intro p H1 n1)
  | (with_reducible refine' go_sub ?_)
  | ((with_reducible refine' go_mulI ?h ?_); (case h => (unfold CMul; omega)))
  | ((with_reducible refine' go_mulL ?h ?k ?_); (case h => walk_at "h"); (case k => (refine ⟨by omega, by omega, ?_⟩; walk_at "z")); intro p H1 n1)
  | ((with_reducible refine' go_div ?h ?_); (case h => (unfold CDiv; omega)))
  | ((with_reducible refine' go_mod ?h ?_); (case h => omega))
  | (with_reducible refine' go_p109 ?_)
  | (with_reducible refine' go_p1020 ?_)
  | ((with_reducible refine' go_pow ?h ?_); (case h => (unfold CPow; omega)))
  | (with_reducible refine' go_lt ?_)
  | (with_reducible refine' go_le ?_)
  | (with_reducible refine' go_gt ?_)
  | (with_reducible refine' go_ge ?_)
  | (with_reducible refine' go_eqI ?_)
  | (with_reducible refine' go_eqB ?_)
  | (with_reducible refine' go_eqS ?_)
  | (with_reducible refine' go_neI ?_)
  | (with_reducible refine' go_neB ?_)
  | (with_reducible refine' go_neS ?_)
  | (with_reducible refine' go_isN ?_)
  | (with_reducible refine' go_isNotN ?_)
  | (with_reducible refine' go_isB ?_)
  | (with_reducible refine' go_isNotB ?_)
  | (with_reducible refine' go_sl ?_)
  | (with_reducible refine' go_noPart ?_)
  | (with_reducible refine' go_part ?_)
  | (with_reducible refine' go_intK ?_)
  | ((with_reducible refine' go_slL ?h ?_); (case h => walk_at "h"); intro p H1 n1)
  | ((with_reducible refine' go_ixL ?h ?k ?_); (case h => walk_at "h"); (case k => exact rfl))
  | ((with_reducible refine' go_ixT ?h ?k ?_); (case h => walk_at "h"); (case k => exact rfl))
  | ((with_reducible refine' go_slW ?h ?_); (case h => walk_at "h"))
  | (with_reducible refine' go_bm ?_)
  | (with_reducible refine' go_bm0 ?_)
  | ((with_reducible refine' go_bmL ?h ?_); (case h => walk_at "h"))
  | ((with_reducible refine' go_append ?h ?k ?_); (case h => walk_at "h"); (case k => walk_at "z"); intro H1 n1)
  | ((with_reducible refine' go_extend ?h ?k ?z ?_); (case h => walk_at "h"); (case k => walk_at "h"); (case z => walk_at "z"); intro H1 n1)
  | ((with_reducible refine' go_clear ?h ?_); (case h => walk_at "h"); intro H1 n1)
  | ((with_reducible refine' go_dnew ?_); intro p H1 n1)
  | (with_reducible refine' go_cb ?_)
  | (with_reducible refine' go_callS ?_)
  | (with_reducible refine' go_call0 ?_)
  | ((with_reducible refine' go_lenL ?h ?_); (case h => walk_at "h"))
  | ((with_reducible refine' go_lenT ?h ?_); (case h => walk_at "h"))
  | ((with_reducible refine' go_lenK ?h ?_); (case h => walk_at "hk"))
  | ((with_reducible refine' go_listL ?h ?_); (case h => walk_at "h"); intro p H1 n1)
  | ((with_reducible refine' go_listT ?h ?_); (case h => walk_at "h"); intro p H1 n1)
  | ((with_reducible refine' go_tupleL ?h ?_); (case h => walk_at "h"); intro p H1 n1)
  | (with_reducible refine' go_intI ?_)
  | (with_reducible refine' go_intB ?_)
  | (with_reducible refine' go_abs ?_)
  | (with_reducible refine' go_min2 ?_)
  | (with_reducible refine' go_max2 ?_)
  | ((with_reducible refine' go_isi ?h ?k ?_); (case h => walk_at "ty"); (case k => exact kit_bb (by decide) (by decide)))
  | (with_reducible refine' go_lc ?_)
  | (with_reducible refine' go_for ?_)
  | (with_reducible refine' go_seqP ?_)
  | ((with_reducible refine' go_seqL ?h ?_); (case h => walk_at "h"))
  | ((with_reducible refine' go_seqT ?h ?_); (case h => walk_at "h"))
  | (with_reducible refine' go_seqS ?_)
  | (with_reducible refine' go_rng1 ?_)
  | (with_reducible refine' go_rng2 ?_)
  | ((with_reducible refine' go_rng1K ?h ?_); (case h => omega))
  | ((with_reducible refine' go_rng2K ?h ?_); (case h => omega))
  | (with_reducible refine' go_raise ?_)
  | ((with_reducible refine' go_tupG ?h ?k ?_); (case h => walk_at "h"); (case k => exact rfl))
  | ((with_reducible refine' go_lstG ?h ?k ?_); (case h => walk_at "h"); (case k => exact rfl))
  | (with_reducible refine' go_gNil ?_)
  | (with_reducible refine' go_tryAs ?_)
  | (with_reducible refine' go_tryMany1 ?_)
  | (with_reducible refine' go_tryMany2 ?_)
  | (with_reducible refine' go_WM ?_)
  | ((with_reducible refine' go_asT ?_); intro e he)
  | (with_reducible refine' go_asF ?_)
  | ((with_reducible refine' go_manyT ?_); intro e he)
  | (with_reducible refine' go_manyF ?_)
  | (with_reducible refine' go_manyN ?_)
  | (with_reducible refine' go_fld ?_)
  | ((with_reducible refine' go_FldK ?h ?c ?n ?l ?_); (case h => walk_at "h"); (case c => infer_instance); (case n => infer_instance); (case l => exact rfl))
  | (with_reducible refine' go_sfld ?_)
  | ((with_reducible refine' go_SFldK ?h ?c ?n ?l ?e ?_); (case h => walk_at "h"); (case c => infer_instance); (case n => infer_instance); (case l => exact Nat.le_of_ble_eq_true rfl); (case e => walk_at "pf"); intro H1 n1)
  | (with_reducible refine' go_meth ?_)
  | ((with_reducible refine' go_MethK 0 ?h ?l ?e ?_); (case h => walk_at "h"); (case l => exact rfl); (case e => exact rfl))
  | ((with_reducible refine' go_MethK 1 ?h ?l ?e ?_); (case h => walk_at "h"); (case l => exact rfl); (case e => exact rfl))
  | ((with_reducible refine' go_MethK 2 ?h ?l ?e ?_); (case h => walk_at "h"); (case l => exact rfl); (case e => exact rfl))
  | (with_reducible refine' go_make ?_)
  | (with_reducible refine' go_callX ?_)
  | (with_reducible refine' go_methX ?_)
  | ((with_reducible refine' go_MethXK ?h ?l ?_); (case h => walk_at "h"); (case l => exact rfl))
  | (with_reducible refine' go_dget ?_)
  | ((with_reducible refine' go_DGetS ?h ?l ?_); (case h => walk_at "h"); (case l => exact rfl))
  | (with_reducible refine' go_dput ?_)
  | ((with_reducible refine' go_DPutS ?h ?l ?e ?_); (case h => walk_at "h"); (case l => exact Nat.le_of_ble_eq_true rfl); (case e => walk_at "pk"); intro H1 n1)
  | ((with_reducible refine' go_disp ?_); intro p H1 n1)
  | (with_reducible refine' go_pairs ?_)
  | (with_reducible refine' go_pairs0 ?_)
  | ((with_reducible refine' go_DispS ?h ?e ?l ?k ?j ?m ?_); (case h => walk_at "h"); (case e => exact rfl); (case l => exact Nat.le_of_ble_eq_true rfl); (case k => (simp only [unS]; exact rfl)); (case j => (simp only [List.map_cons, List.map_nil]; exact rfl)); (case m => decide +kernel); intro H1 n1)
  | (with_reducible refine' go_par ?_)
  | ((with_reducible refine' go_ParK ?h ?_); (case h => (simp only [List.set_cons_zero, List.set_cons_succ]; exact rfl)))
  | (with_reducible refine' go_sub_ ?_)
  | ((with_reducible refine' go_setLi ?h ?k ?_); (case h => walk_at "h"); (case k => walk_at "ix"); intro H1 n1)
  | (with_reducible refine' go_listY ?_)
  | ((with_reducible refine' go_listYL ?h ?_); (case h => walk_at "h"))
  | (with_reducible refine' go_bmS ?_)
  | (with_reducible refine' go_ckw ?_)
  | ((with_reducible refine' go_maxD ?h ?_); (case h => walk_at "h"))
  | (with_reducible refine' go_listR ?_)
  | (with_reducible refine' go_rg2 ?_)
  | (with_reducible refine' go_Rg2K ?_)
  | (with_reducible refine' go_rg1 ?_)
  | (with_reducible refine' go_Rg1K ?_)
  | ((with_reducible refine' go_ListRK ?h ?_); (case h => omega); intro p H1 n1)
  | (with_reducible refine' go_enum ?_)
  | ((with_reducible refine' go_EnumL ?h ?_); (case h => walk_at "h"))
  | (with_reducible refine' go_isX ?_)
  | (with_reducible refine' go_isXt ?_)
  | (with_reducible refine' go_din ?_)
  | (with_reducible refine' go_dnotin ?_)
  | ((with_reducible refine' go_DInI ?h ?_); (case h => walk_at "h"))
  | ((with_reducible refine' go_DNotInI ?h ?_); (case h => walk_at "h"))
  | (with_reducible refine' go_dget2 ?_)
  | ((with_reducible refine' go_DGet2K ?h ?_); (case h => walk_at "h"))
  | (with_reducible refine' go_dpop1 ?_)
  | ((with_reducible refine' go_eqDE ?h ?k ?_); (case h => walk_at "h"); (case k => walk_at "h"))
  | ((with_reducible refine' go_neDE ?h ?k ?_); (case h => walk_at "h"); (case k => walk_at "h"))
  | (with_reducible refine' go_chain3 ?_)
  | (with_reducible refine' go_LinkT ?_)
  | (with_reducible refine' go_LinkF ?_)
  | (with_reducible refine' go_Link2T ?_)
  | (with_reducible refine' go_Link2F ?_)
  | (with_reducible refine' go_gSl ?_)
  | ((with_reducible refine' go_insert ?h ?k ?l ?m ?_); (case h => walk_at "h"); (case k => walk_at "z"); (case l => omega); (case m => omega); intro H1 n1)
  | (with_reducible refine' go_gCons ?_))
local macro_rules | `(tactic| walk_at "pf") => `(tactic| first
  | exact putF_nil
  | exact putF_hit
  | (refine' putF_miss ?h ?k; (case h => decide +kernel); (case k => walk_at "pf")))
local macro_rules | `(tactic| walk_at "pk") => `(tactic| first
  | exact putK_nil
  | exact putK_hit (by (simp only [List.map_cons, List.map_nil]; decide +kernel))
  | (refine' putK_miss ?h ?k; (case h => decide +kernel); (case k => walk_at "pk")))
local macro_rules | `(tactic| walk_at "ix") => `(tactic| first
  | assumption
  | omega
  | (simp only [List.length_cons, List.length_nil, List.length_append, List.length_map, List.length_range, List.length_replicate, List.length_set] at *; omega))
local macro_rules | `(tactic| walk_at "pr") => `(tactic| first
  | assumption
  | decide
  | omega
  | exact rfl
  | (intro z; cases z; done))
local macro_rules | `(tactic| walk_at "hk") => `(tactic| first
  | assumption
  | exact seq' (by assumption) (by walk_at "sm"))
local macro_rules | `(tactic| walk_at "ty") => `(tactic| first
  | exact rfl
  | assumption
  | exact tyN_L (by walk_at "h")
  | exact tyN_T (by walk_at "h")
  | exact tyN_D (by walk_at "h"))
local macro_rules | `(tactic| walk_at "go") => `(tactic| repeat (walk_at "s"))
/-! ### orders that the law draws, as lines -/
section
variable {K : PySem.W.Frag} {H H' : Hp} {w w0 cs : List Nat} {ws zs : List (List Nat)} {T : Addr} {x v : V} {vs : List V} {pt : Pt} {ps : List Pt} {ks : List Kd} {k : Kd}
theorem kinds_len (h : kinds w = some ks) : ks.length ≤ 3 := by
  unfold kinds at h
  repeat' split at h
  all_goals first | (cases h; simp) | cases h
theorem AllF.len : ∀ {ks : List Kd} {ps : List Pt}, AllF ks ps → ks.length = ps.length
  | [], [], _ => rfl
  | _ :: _, _ :: _, h => by rw [List.length_cons, List.length_cons, AllF.len h.2]
  | [], _ :: _, h => h.elim
  | _ :: _, [], h => h.elim
theorem AllF.all : ∀ {ks : List Kd} {ps : List Pt}, AllF ks ps → ∀ p ∈ ps, ∃ k, Fits k p
  | [], [], _, p, hp => absurd hp List.not_mem_nil
  | _ :: _, _ :: _, h, p, hp => by
    rcases List.mem_cons.mp hp with rfl | hp
    · exact ⟨_, h.1⟩
    · exact AllF.all h.2 p hp
  | [], _ :: _, h, _, _ => h.elim
  | _ :: _, [], h, _, _ => h.elim
theorem AllF.rd : ∀ {ks : List Kd} {ps : List Pt}, AllF ks ps → rdAll ks (ps.map wordP) = some ps
  | [], [], _ => rfl
  | k :: ks, p :: ps, h => by
    show (Bk.rd k (wordP p)).bind (fun p => (rdAll ks (ps.map wordP)).map (p :: ·)) = _
    rw [rd_fits h.1, AllF.rd h.2]; rfl
  | [], _ :: _, h => h.elim
  | _ :: _, [], h => h.elim
theorem free_jns {s t : Nat} (hs : t ≠ s) : ∀ {zs : List (List Nat)}, (∀ z ∈ zs, t ∉ z) → t ∉ jns s zs
  | [], _ => by simp [jns]
  | [z], h => h z List.mem_cons_self
  | x :: y :: r, h => by
    show t ∉ x ++ s :: jns s (y :: r)
    intro hc
    rcases List.mem_append.mp hc with hc | hc
    · exact h x List.mem_cons_self hc
    · rcases List.mem_cons.mp hc with hc | hc
      · exact hs hc
      · exact free_jns hs (fun w hw => h w (List.mem_cons_of_mem _ hw)) hc
theorem jns_ne {s : Nat} : ∀ {zs : List (List Nat)}, zs ≠ [] → (∀ z ∈ zs, z ≠ []) → jns s zs ≠ []
  | [], h, _ => absurd rfl h
  | [z], _, h => h z List.mem_cons_self
  | x :: y :: r, _, h => by
    show x ++ s :: jns s (y :: r) ≠ []
    simp
theorem fits_word (h : Fits k pt) : 32 ∉ wordP pt ∧ wordP pt ≠ [] := by
  cases k <;> cases pt <;> try exact h.elim
  · exact ⟨h.2.1, h.1⟩
  · exact ⟨numL_free32, TL.numL_ne _⟩
  · refine ⟨free_jns (by omega) fun z hz => ?_, jns_ne (fun z => h.1 (List.map_eq_nil_iff.mp z)) fun z hz => ?_⟩
    all_goals obtain ⟨k, _, rfl⟩ := List.mem_map.mp hz
    · exact numL_free32
    · exact TL.numL_ne _
theorem fits_ok (h : Fits k pt) : Ok pt ∧ Sh pt := by
  cases k <;> cases pt <;> try exact h.elim
  · exact ⟨⟨h.2.2.1, h.2.2.2⟩, trivial⟩
  · exact ⟨h, trivial⟩
  · exact ⟨⟨h.2.1, h.2.2⟩, by show _ ≤ 1000; have := h.2.1; omega⟩
theorem all15_ok : ∀ w ∈ all15, w.length ≤ 9 ∧ (∀ c ∈ w, c < 1000) ∧ 32 ∉ w ∧ w ≠ [] := by decide +kernel
theorem due_line (hw : w0 ∈ all15) (hk : kinds w0 = some ks) (h : AllF ks ps) : due (lineP (.t w0 :: ps)) = some (.t w0 :: ps) := by
  have w := all15_ok w0 hw
  have f : ∀ z ∈ w0 :: ps.map wordP, 32 ∉ z ∧ z ≠ [] := fun z hz => by
    rcases List.mem_cons.mp hz with rfl | hz
    · exact ⟨w.2.2.1, w.2.2.2⟩
    · obtain ⟨p, hp, rfl⟩ := List.mem_map.mp hz
      obtain ⟨k, hf⟩ := h.all p hp
      exact fits_word hf
  have e : psp 32 [] (lineP (.t w0 :: ps)) = w0 :: ps.map wordP := psp_jns (by simp) fun z hz => (f z hz).1
  rw [due_eq e (fun z => (f [] z).2 rfl), hk]
  show (if ks.length = (ps.map wordP).length then _ else _) = _
  rw [if_pos (by rw [List.length_map]; exact h.len), h.rd]; rfl
theorem rd_sh {p : Pt} (h : rd k w = some p) (hl : w.length ≤ 900) : Sh p := by
  cases k with
  | p => cases h; trivial
  | n =>
    have h : (numOf w).map Pt.n = some p := h
    cases e : numOf w with
    | none => rw [e] at h; cases h
    | some n => rw [e] at h; cases h; trivial
  | l =>
    have h : (if (psp 44 [] w).all okNum then some (Pt.l ((psp 44 [] w).map NumText.digitsVal)) else none) = some p := h
    split at h
    · cases h
      show ((psp 44 [] w).map NumText.digitsVal).length ≤ 1000
      rw [List.length_map]
      have := psp_count (s := 44) w []
      omega
    · cases h
theorem rdAll_sh : ∀ {ks : List Kd} {ws : List (List Nat)} {ps : List Pt}, rdAll ks ws = some ps → (∀ w ∈ ws, w.length ≤ 900) → ∀ p ∈ ps, Sh p
  | [], [], ps, h, _ => by cases h; intro p hp; exact absurd hp List.not_mem_nil
  | k :: ks, w :: ws, ps, h, hl => by
    have h : (rd k w).bind (fun p => (rdAll ks ws).map (p :: ·)) = some ps := h
    cases h1 : rd k w with
    | none => rw [h1] at h; cases h
    | some p1 =>
      rw [h1] at h
      cases h2 : rdAll ks ws with
      | none => rw [h2] at h; cases h
      | some ps2 =>
        rw [h2] at h
        cases h
        intro p hp
        rcases List.mem_cons.mp hp with rfl | hp
        · exact rd_sh h1 (hl w List.mem_cons_self)
        · exact rdAll_sh h2 (fun z hz => hl z (List.mem_cons_of_mem _ hz)) p hp
  | [], _ :: _, _, h, _ => by cases h
  | _ :: _, [], _, h, _ => by cases h
theorem due_sh (h : due cs = some ps) (hl : cs.length ≤ 850) : ∀ p ∈ ps, Sh p := by
  have len := psp_len (s := 32) cs []
  obtain ⟨w0, ws, ew⟩ := psp_cons (s := 32) cs []
  rw [ew] at len
  by_cases c : [] ∈ psp 32 [] cs
  · rw [due_nil c] at h; cases h
  rw [due_eq ew (by rwa [ew] at c)] at h
  cases hk : kinds w0 with
  | none => rw [hk] at h; cases h
  | some ks =>
    rw [hk] at h
    have h : (if ks.length = ws.length then (rdAll ks ws).map (Pt.t w0 :: ·) else none) = some ps := h
    split at h
    · cases h2 : rdAll ks ws with
      | none => rw [h2] at h; cases h
      | some ps2 =>
        rw [h2] at h
        cases h
        intro p hp
        rcases List.mem_cons.mp hp with rfl | hp
        · trivial
        · exact rdAll_sh h2 (fun z hz => by have := len z (List.mem_cons_of_mem _ hz); simp at this; omega) p hp
    · cases h
theorem num_low {n : Nat} : Low (TL.numL n) := fun c hc => by
  have := mem_dgs.mp (all_dgs n c hc)
  omega
theorem word_low (h : Ok pt) : Low (wordP pt) := by
  cases pt with
  | t cs => exact h.2
  | n k => exact num_low
  | l ns =>
    refine jns_low (by omega) fun z hz => ?_
    obtain ⟨k, _, rfl⟩ := List.mem_map.mp hz
    exact num_low
/-! as data -/
def dP : Pt → PyData
  | .t cs => .str (tx cs)
  | .n k => .int k
  | .l ns => .list ((ns.map fun k : Nat => (k : Int)).map PyData.int)
theorem dp_pt (h : PAt H x pt) : Dp K H x (dP pt) := by
  cases pt with
  | t cs => obtain rfl : x = .str (tx cs) := h; exact .str _
  | n k => obtain rfl : x = .int k := h; exact .int _
  | l ns =>
    obtain ⟨p, rfl, e⟩ := pat_l h
    exact dp_ints e
theorem dp_all : ∀ {vs : List V} {ps : List Pt}, vs.length = ps.length → (∀ (i : Nat) (v : V) (p : Pt), vs[i]? = some v → ps[i]? = some p → PAt H v p) → DpAll K H vs (ps.map dP)
  | [], [], _, _ => .nil
  | v :: vs, p :: ps, l, h => .cons (dp_pt (h 0 v p rfl rfl)) (dp_all (by simpa using l) fun i v' p' h1 h2 => h (i + 1) v' p' h1 h2)
  | [], _ :: _, l, _ => by cases l
  | _ :: _, [], l, _ => by cases l
theorem dp_oat (h : OAt H T ps) : Dp K H (.ref T) (.tuple (ps.map dP)) := by
  obtain ⟨vs, e, l, k⟩ := h
  exact .tup (SqT.of e) (dp_all l k)
theorem dP_ok (h : Ok pt) : (dP pt).canLay0 = true ∧ (dP pt).depth ≤ 2 := by
  cases pt with
  | t cs => exact ⟨tp_ok h.2, by simp [dP, PyData.depth]⟩
  | n k => exact ⟨by simp [dP, PyData.canLay0], by simp [dP, PyData.depth]⟩
  | l ns =>
    have s := PySem.W.shaped_ints (ns.map fun k : Nat => (k : Int))
    unfold SeqAt.shaped at s
    rw [Bool.and_eq_true] at s
    refine ⟨s.1, ?_⟩
    have : ∀ ms : List Int, PyData.depthAll (ms.map PyData.int) ≤ 1 := fun ms => by
      induction ms with
      | nil => simp [PyData.depthAll]
      | cons m r ih => simp only [List.map_cons, PyData.depthAll, PyData.depth] at ih ⊢; omega
    have := this (ns.map fun k : Nat => (k : Int))
    show (PyData.list _).depth ≤ 2
    simp only [PyData.depth]
    omega
theorem shaped_ord (h : ∀ p ∈ ps, Ok p) : SeqAt.shaped (.tuple (ps.map dP)) = true := by
  have h1 : PyData.canLayAll0 (ps.map dP) = true := by
    induction ps with
    | nil => simp [PyData.canLayAll0]
    | cons n r ih => simp [PyData.canLayAll0, (dP_ok (h n List.mem_cons_self)).1, ih fun p hp => h p (List.mem_cons_of_mem _ hp)]
  have h2 : PyData.depthAll (ps.map dP) ≤ 2 := by
    clear h1
    induction ps with
    | nil => simp [PyData.depthAll]
    | cons n r ih =>
      have := (dP_ok (h n List.mem_cons_self)).2
      have := ih fun p hp => h p (List.mem_cons_of_mem _ hp)
      simp only [List.map_cons, PyData.depthAll] at this ⊢
      omega
  exact shaped_of (n := 3) (by simp only [PyData.canLay0]; exact h1) (by simp only [PyData.depth]; omega) (by omega)
end

end Bk

namespace Bk
open PySem L2 PyProof.Rows
/-! our own short tactics: h: what stands at a place; ne: two places; sm: what stood stands; z: a size; s: a step; go: steps -/
local macro_rules | `(tactic| walk_at "h") => `(tactic| first
  | assumption
  | exact New.at (by assumption)
  | exact Wr.at (by assumption)
  | (refine' New.old (by assumption) ?_; walk_at "h")
  | (refine' Same.at (by assumption) ?_; walk_at "h")
  | (refine' Wr.old (by assumption) ?_ ?_; walk_at "ne"; walk_at "h")
  | (refine' Chg.at (by assumption) ?_ ?_; walk_at "ni"; walk_at "h"))
local macro_rules | `(tactic| walk_at "ni") => `(tactic| first
  | exact ni_nil
  | assumption
  | (refine' ni_cons ?_ ?_; walk_at "ne"; walk_at "ni"))
local macro_rules | `(tactic| walk_at "ne") => `(tactic| first
  | assumption
  | exact Ne.symm (by assumption)
  | exact New.ne (by assumption) (by walk_at "h")
  | exact ne_none (by assumption) (by walk_at "h")
  | exact Ne.symm (ne_none (by assumption) (by walk_at "h"))
  | exact Ne.symm (New.ne (by assumption) (by walk_at "h")))
local macro_rules | `(tactic| walk_at "sm") => `(tactic| first
  | exact Same.refl _
  | assumption
  | (refine' Same.trans ?_ (New.same (by assumption)); walk_at "sm")
  | (refine' Same.trans ?_ (by assumption : Same _ _); walk_at "sm"))
local macro_rules | `(tactic| walk_at "z") => `(tactic| first
  | assumption
  | (rw [PySem.sizeLine_eq]; omega)
  | (rw [PySem.sizeLine_eq]; simp only [List.length_cons, List.length_nil, List.length_append, List.length_map, List.length_range, List.length_replicate, len_cut]; omega)
  | (rw [PySem.sizeLine_eq]; simp only [List.length_cons, List.length_nil, List.length_append, List.length_map, List.length_range, List.length_replicate, len_cut] at *; omega))
local macro_rules | `(tactic| walk_at "s") => `(tactic| first
  | ((with_reducible refine' go_var ?h ?_); (case h => exact rfl))
  | (with_reducible refine' go_c ?_)
  | (with_reducible refine' go_op ?_)
  | (with_reducible refine' go_un ?_)
  | (with_reducible refine' go_rU ?_)
  | (with_reducible refine' go_seq ?_)
  | (with_reducible refine' go_ret ?_)
  | (with_reducible refine' go_retN ?_)
  | (with_reducible refine' go_next ?_)
  | (with_reducible refine' go_drop ?_)
  | (with_reducible refine' go_asg ?_)
  | ((with_reducible refine' go_name2 ?h ?_); (case h => (simp only [List.set_cons_zero, List.set_cons_succ]; exact rfl)))
  | ((with_reducible refine' go_name2 ?h ?_); (case h => exact rfl))
  | (with_reducible refine' go_ifS ?_)
  | (with_reducible refine' go_blk ?_)
  | (with_reducible refine' go_test ?_)
  | (with_reducible refine' go_tB ?_)
  | (with_reducible refine' go_and ?_)
  | (with_reducible refine' go_or ?_)
  | (with_reducible refine' go_not ?_)
  | (with_reducible refine' go_andV ?_)
  | (with_reducible refine' go_orV ?_)
  | (with_reducible refine' go_notV ?_)
  | (with_reducible refine' go_if ?_)
  | (with_reducible refine' go_chain ?_)
  | (with_reducible refine' iteT ?_)
  | (with_reducible refine' iteF ?_)
  | ((with_reducible refine' go_Td ?h ?_); (case h => walk_at "pr"))
  | ((with_reducible refine' go_Fd ?h ?_); (case h => walk_at "pr"))
  | ((with_reducible refine' go_Tn ?h ?_); (case h => walk_at "pr"))
  | ((with_reducible refine' go_Fn ?h ?_); (case h => walk_at "pr"))
  | ((with_reducible refine' go_T ?h ?_); (case h => (first | decide | assumption | exact rfl)))
  | ((with_reducible refine' go_F ?h ?_); (case h => (first | decide | assumption | exact rfl)))
  | (with_reducible refine' go_nil ?_)
  | (with_reducible refine' go_cons ?_)
  | (with_reducible refine' go_tLst ?_)
  | (with_reducible refine' go_tTup ?_)
  | ((with_reducible refine' go_LstK ?h ?_); (case h => walk_at "z"); intro p H1 n1)
  | ((with_reducible refine' go_TupK ?h ?_); (case h => walk_at "z"); intro p H1 n1)
  | (with_reducible refine' go_addI ?_)
  | ((with_reducible refine' go_addL ?h ?k ?z ?_); (case h => walk_at "h"); (case k => walk_at "h"); (case z => walk_at "z"); intro p H1 n1)
  | (with_reducible refine' go_sub ?_)
  | ((with_reducible refine' go_mulI ?h ?_); (case h => (unfold CMul; omega)))
  | ((with_reducible refine' go_mulL ?h ?k ?_); (case h => walk_at "h"); (case k => (refine ⟨by omega, by omega, ?_⟩; walk_at "z")); intro p H1 n1)
  | ((with_reducible refine' go_div ?h ?_); (case h => (unfold CDiv; omega)))
  | ((with_reducible refine' go_mod ?h ?_); (case h => omega))
  | (with_reducible refine' go_p109 ?_)
  | (with_reducible refine' go_p1020 ?_)
  | ((with_reducible refine' go_pow ?h ?_); (case h => (unfold CPow; omega)))
  | (with_reducible refine' go_lt ?_)
  | (with_reducible refine' go_le ?_)
  | (with_reducible refine' go_gt ?_)
  | (with_reducible refine' go_ge ?_)
  | (with_reducible refine' go_eqI ?_)
  | (with_reducible refine' go_eqB ?_)
  | (with_reducible refine' go_eqS ?_)
  | (with_reducible refine' go_neI ?_)
  | (with_reducible refine' go_neB ?_)
  | (with_reducible refine' go_neS ?_)
  | (with_reducible refine' go_isN ?_)
  | (with_reducible refine' go_isNotN ?_)
  | (with_reducible refine' go_isB ?_)
  | (with_reducible refine' go_isNotB ?_)
  | (with_reducible refine' go_sl ?_)
  | (with_reducible refine' go_noPart ?_)
  | (with_reducible refine' go_part ?_)
  | (with_reducible refine' go_intK ?_)
  | ((with_reducible refine' go_slL ?h ?_); (case h => walk_at "h"); intro p H1 n1)
  | ((with_reducible refine' go_ixL ?h ?k ?_); (case h => walk_at "h"); (case k => exact rfl))
  | ((with_reducible refine' go_ixT ?h ?k ?_); (case h => walk_at "h"); (case k => exact rfl))
  | ((with_reducible refine' go_slW ?h ?_); (case h => walk_at "h"))
  | (with_reducible refine' go_bm ?_)
  | (with_reducible refine' go_bm0 ?_)
  | ((with_reducible refine' go_bmL ?h ?_); (case h => walk_at "h"))
  | ((with_reducible refine' go_append ?h ?k ?_); (case h => walk_at "h"); (case k => walk_at "z"); intro H1 n1)
  | ((with_reducible refine' go_extend ?h ?k ?z ?_); (case h => walk_at "h"); (case k => walk_at "h"); (case z => walk_at "z"); intro H1 n1)
  | ((with_reducible refine' go_clear ?h ?_); (case h => walk_at "h"); intro H1 n1)
  | ((with_reducible refine' go_dnew ?_); intro p H1 n1)
  | (with_reducible refine' go_cb ?_)
  | (with_reducible refine' go_callS ?_)
  | (with_reducible refine' go_call0 ?_)
  | ((with_reducible refine' go_lenL ?h ?_); (case h => walk_at "h"))
  | ((with_reducible refine' go_lenT ?h ?_); (case h => walk_at "h"))
  | ((with_reducible refine' go_lenK ?h ?_); (case h => walk_at "hk"))
  | ((with_reducible refine' go_listL ?h ?_); (case h => walk_at "h"); intro p H1 n1)
  | ((with_reducible refine' go_listT ?h ?_); (case h => walk_at "h"); intro p H1 n1)
  | ((with_reducible refine' go_tupleL ?h ?_); (case h => walk_at "h"); intro p H1 n1)
  | (with_reducible refine' go_intI ?_)
  | (with_reducible refine' go_intB ?_)
  | (with_reducible refine' go_abs ?_)
  | (with_reducible refine' go_min2 ?_)
  | (with_reducible refine' go_max2 ?_)
  | ((with_reducible refine' go_isi ?h ?k ?_); (case h => walk_at "ty"); (case k => exact kit_bb (by decide) (by decide)))
  | (with_reducible refine' go_lc ?_)
  | (with_reducible refine' go_for ?_)
  | (with_reducible refine' go_seqP ?_)
  | ((with_reducible refine' go_seqL ?h ?_); (case h => walk_at "h"))
  | ((with_reducible refine' go_seqT ?h ?_); (case h => walk_at "h"))
  | (with_reducible refine' go_seqS ?_)
  | (with_reducible refine' go_rng1 ?_)
  | (with_reducible refine' go_rng2 ?_)
  | ((with_reducible refine' go_rng1K ?h ?_); (case h => omega))
  | ((with_reducible refine' go_rng2K ?h ?_); (case h => omega))
  | (with_reducible refine' go_raise ?_)
  | ((with_reducible refine' go_tupG ?h ?k ?_); (case h => walk_at "h"); (case k => exact rfl))
  | ((with_reducible refine' go_lstG ?h ?k ?_); (case h => walk_at "h"); (case k => exact rfl))
  | (with_reducible refine' go_gNil ?_)
  | (with_reducible refine' go_tryAs ?_)
  | (with_reducible refine' go_tryMany1 ?_)
  | (with_reducible refine' go_tryMany2 ?_)
  | (with_reducible refine' go_WM ?_)
  | ((with_reducible refine' go_asT ?_); intro e he)
  | (with_reducible refine' go_asF ?_)
  | ((with_reducible refine' go_manyT ?_); intro e he)
  | (with_reducible refine' go_manyF ?_)
  | (with_reducible refine' go_manyN ?_)
  | (with_reducible refine' go_fld ?_)
  | ((with_reducible refine' go_FldK ?h ?c ?n ?l ?_); (case h => walk_at "h"); (case c => infer_instance); (case n => infer_instance); (case l => exact rfl))
  | (with_reducible refine' go_sfld ?_)
  | ((with_reducible refine' go_SFldK ?h ?c ?n ?l ?e ?_); (case h => walk_at "h"); (case c => infer_instance); (case n => infer_instance); (case l => exact Nat.le_of_ble_eq_true rfl); (case e => walk_at "pf"); intro H1 n1)
  | (with_reducible refine' go_meth ?_)
  | ((with_reducible refine' go_MethK 0 ?h ?l ?e ?_); (case h => walk_at "h"); (case l => exact rfl); (case e => exact rfl))
  | ((with_reducible refine' go_MethK 1 ?h ?l ?e ?_); (case h => walk_at "h"); (case l => exact rfl); (case e => exact rfl))
  | ((with_reducible refine' go_MethK 2 ?h ?l ?e ?_); (case h => walk_at "h"); (case l => exact rfl); (case e => exact rfl))
  | (with_reducible refine' go_make ?_)
  | (with_reducible refine' go_callX ?_)
  | (with_reducible refine' go_methX ?_)
  | ((with_reducible refine' go_MethXK ?h ?l ?_); (case h => walk_at "h"); (case l => exact rfl))
  | (with_reducible refine' go_dget ?_)
  | ((with_reducible refine' go_DGetS ?h ?l ?_); (case h => walk_at "h"); (case l => exact rfl))
  | (with_reducible refine' go_dput ?_)
  | ((with_reducible refine' go_DPutS ?h ?l ?e ?_); (case h => walk_at "h"); (case l => exact Nat.le_of_ble_eq_true rfl); (case e => walk_at "pk"); intro H1 n1)
  | ((with_reducible refine' go_disp ?_); intro p H1 n1)
  | (with_reducible refine' go_pairs ?_)
  | (with_reducible refine' go_pairs0 ?_)
  | ((with_reducible refine' go_DispS ?h ?e ?l ?k ?j ?m ?_); (case h => walk_at "h"); (case e => exact rfl); (case l => exact Nat.le_of_ble_eq_true rfl); (case k => (simp only [unS]; exact rfl)); (case j => (simp only [List.map_cons, List.map_nil]; exact rfl)); (case m => decide +kernel); intro H1 n1)
  | (with_reducible refine' go_par ?_)
  | ((with_reducible refine' go_ParK ?h ?_); (case h => (simp only [List.set_cons_zero, List.set_cons_succ]; exact rfl)))
  | (with_reducible refine' go_sub_ ?_)
  | ((with_reducible refine' go_setLi ?h ?k ?_); (case h => walk_at "h"); (case k => walk_at "ix"); intro H1 n1)
  | (with_reducible refine' go_listY ?_)
  | ((with_reducible refine' go_listYL ?h ?_); (case h => walk_at "h"))
  | (with_reducible refine' go_bmS ?_)
  | (with_reducible refine' go_ckw ?_)
  | ((with_reducible refine' go_maxD ?h ?_); (case h => walk_at "h"))
  | (with_reducible refine' go_listR ?_)
  | (with_reducible refine' go_rg2 ?_)
  | (with_reducible refine' go_Rg2K ?_)
  | (with_reducible refine' go_rg1 ?_)
  | (with_reducible refine' go_Rg1K ?_)
  | ((with_reducible refine' go_ListRK ?h ?_); (case h => omega); intro p H1 n1)
  | (with_reducible refine' go_enum ?_)
  | ((with_reducible refine' go_EnumL ?h ?_); (case h => walk_at "h"))
  | (with_reducible refine' go_isX ?_)
  | (with_reducible refine' go_isXt ?_)
  | (with_reducible refine' go_din ?_)
  | (with_reducible refine' go_dnotin ?_)
  | ((with_reducible refine' go_DInI ?h ?_); (case h => walk_at "h"))
  | ((with_reducible refine' go_DNotInI ?h ?_); (case h => walk_at "h"))
  | (with_reducible refine' go_dget2 ?_)
  | ((with_reducible refine' go_DGet2K ?h ?_); (case h => walk_at "h"))
  | (with_reducible refine' go_dpop1 ?_)
  | ((with_reducible refine' go_eqDE ?h ?k ?_); (case h => walk_at "h"); (case k => walk_at "h"))
  | ((with_reducible refine' go_neDE ?h ?k ?_); (case h => walk_at "h"); (case k => walk_at "h"))
  | (with_reducible refine' go_chain3 ?_)
  | (with_reducible refine' go_LinkT ?_)
  | (with_reducible refine' go_LinkF ?_)
  | (with_reducible refine' go_Link2T ?_)
  | (with_reducible refine' go_Link2F ?_)
  | (with_reducible refine' go_gSl ?_)
  | ((with_reducible refine' go_insert ?h ?k ?l ?m ?_); (case h => walk_at "h"); (case k => walk_at "z"); (case l => omega); (case m => omega); intro H1 n1)
  | (with_reducible refine' go_gCons ?_))
local macro_rules | `(tactic| walk_at "pf") => `(tactic| first
  | exact putF_nil
  | exact putF_hit
  | (refine' putF_miss ?h ?k; (case h => decide +kernel); (case k => walk_at "pf")))
local macro_rules | `(tactic| walk_at "pk") => `(tactic| first
  | exact putK_nil
  | exact putK_hit (by (simp only [List.map_cons, List.map_nil]; decide +kernel))
  | (refine' putK_miss ?h ?k; (case h => decide +kernel); (case k => walk_at "pk")))
local macro_rules | `(tactic| walk_at "ix") => `(tactic| first
  | assumption
  | omega
  | (simp only [List.length_cons, List.length_nil, List.length_append, List.length_map, List.length_range, List.length_replicate, List.length_set] at *; omega))
local macro_rules | `(tactic| walk_at "pr") => `(tactic| first
  | assumption
  | decide
  | omega
  | exact rfl
  | (intro z; cases z; done))
local macro_rules | `(tactic| walk_at "hk") => `(tactic| first
  | assumption
  | exact seq' (by assumption) (by walk_at "sm"))
local macro_rules | `(tactic| walk_at "ty") => `(tactic| first
  | exact rfl
  | assumption
  | exact tyN_L (by walk_at "h")
  | exact tyN_T (by walk_at "h")
  | exact tyN_D (by walk_at "h"))
local macro_rules | `(tactic| walk_at "go") => `(tactic| repeat (walk_at "s"))
/-! ### the law k27 -/
section
variable {K : PySem.W.Frag} {a : Ac} {H H' : Hp} {Q : VK} {E : XK} [F : Fc K a] {script : Addr} {ns : List Int} {w w0 cs : List Nat} {x v : V} {n : String} {ps : List Pt} {ks : List Kd} {w1 w3 w4 w5 : Option V}
theorem law_9 (hl : cs.length ≤ 850) (lo : Low cs) (q : ∀ H', Q (.bl true) H') :
    t_law_9 K a E ⟨fun _ H' => Q .non H', Q, F0, F0⟩ [some (.ref script), w1, some (.str (tx cs)), w3, w4, w5, none, none] H := by
  unfold t_law_9
  walk_at "go"
  refine p_L_due hl lo (fun ps hd T H1 s1 o1 => ?_) (fun hd H1 s1 => ?_)
  · walk_at "go"
    refine p_L_read hl (fun ps' hd' T' H2 s2 o2 => ?_) (fun hd' H2 s2 => by rw [hd] at hd'; cases hd')
    obtain rfl : ps' = ps := by rw [hd] at hd'; exact (Option.some.inj hd').symm
    walk_at "go"
    exact p_L_alike o2 (o1.same s2) (due_sh hd hl) fun H3 s3 => q _
  · walk_at "go"
    refine p_L_read hl (fun ps' hd' T' H2 s2 o2 => by rw [hd] at hd'; cases hd') (fun hd' H2 s2 => ?_)
    walk_at "go"
    exact q _
theorem law_7 (hS : SqL K H script (ns.map V.int)) (hl : cs.length ≤ 410) (lo : Low cs) (h : tyN H x = some n) (hn : n ∈ ["NoneType", "bool", "int", "list", "tuple", "dict"]) (q : ∀ H', Q (.bl true) H') :
    t_law_7 K a E ⟨fun _ H' => Q .non H', Q, F0, F0⟩ [some (.ref script), w1, some (.str (tx cs)), w3, w4, some x, none, none] H := by
  unfold t_law_7
  walk_at "go"
  refine p_L_read_odd h hn fun H1 s1 => ?_
  have hS1 := s1.seq hS
  walk_at "go"
  refine p_cell_at (ns := ns) hS1 (by omega) ?_
  walk_at "go"
  refine go_dec (fun c => ?_) (fun c => ?_)
  · walk_at "go"
    refine p_cell_at (ns := ns) hS1 (by omega) ?_
    walk_at "go"
    exact p_L_bent hl lo fun cs' H2 s2 l2 lo2 => by
      walk_at "go"
      exact law_9 l2 lo2 q
  · walk_at "go"
    exact law_9 (by omega) lo q
theorem law_pure {vs : List V} (h : spLaw K vs H Q E) : sp_law K a vs H Q E := by
  obtain ⟨script, ns, rfl, hS, hl, q⟩ := h
  refine in_law ?_
  unfold t_law
  walk_at "go"
  refine p_L_order hS fun w0 ks ps T H1 hw hk hf s1 o1 => ?_
  have hS1 := s1.seq hS
  have w := all15_ok w0 hw
  have lps : ps.length ≤ 3 := by rw [← hf.len]; exact kinds_len hk
  have ok : ∀ p ∈ Pt.t w0 :: ps, Ok p := fun p hp => by
    rcases List.mem_cons.mp hp with rfl | hp
    · exact ⟨w.1, w.2.1⟩
    · obtain ⟨k, f⟩ := hf.all p hp
      exact (fits_ok f).1
  have sh : ∀ p ∈ Pt.t w0 :: ps, Sh p := fun p hp => by
    rcases List.mem_cons.mp hp with rfl | hp
    · trivial
    · obtain ⟨k, f⟩ := hf.all p hp
      exact (fits_ok f).2
  have ll := lineP_len ok (by rw [List.length_cons]; omega)
  have dl := due_line hw hk hf
  have lol : Low (lineP (.t w0 :: ps)) := jns_low (by omega) fun z hz => by
    obtain ⟨p, hp, rfl⟩ := List.mem_map.mp hz
    exact word_low (ok p hp)
  walk_at "go"
  refine p_L_line o1 ok lps fun H2 s2 => ?_
  have o2 := o1.same s2
  obtain ⟨vs2, e2, l2, k2⟩ := o2
  have o2 : OAt H2 T (.t w0 :: ps) := ⟨vs2, e2, l2, k2⟩
  walk_at "go"
  generalize hpp : Pt.t w0 :: ps = pps at *
  have lpp : pps.length ≤ 4 := by rw [← hpp, List.length_cons]; omega
  refine lc_genT (fun D acc H' => AllP H' acc (pps.take acc.length) ∧ ∀ v ∈ acc, v ≠ .ref D) e2 (by rw [sizeLine_eq]; omega) (fun D acc H' H'' h c => ⟨h.1.chg c h.2, h.2⟩) (fun D H' _ _ => ⟨trivial, by simp⟩) ?_ ?_
  · rintro D acc i x H' Q' hD hx hl2 s hd ⟨ap, an⟩ k
    have li := (List.getElem?_eq_some_iff.mp hx).1
    have hp : pps[i]? = some (pps[i]'(by omega)) := List.getElem?_eq_getElem (by omega)
    have a1 := (k2 i x _ hx hp).same s
    have nx : x ≠ .ref D := fun z => by
      have := k2 i x _ hx hp
      generalize pps[i]'(by omega) = pt at this
      cases pt with
      | t cs => rw [show x = .str (tx cs) from this] at z; cases z
      | n k => rw [show x = .int k from this] at z; cases z
      | l ns =>
        obtain ⟨p, rfl, e⟩ := this
        cases z
        rw [hD] at e; cases e
    have fin : ∀ v H'', Same H' H'' → PAt H'' v (pps[i]'(by omega)) → v ≠ .ref D → Q' v H'' := fun v H'' s' pv nv => by
      refine k v H'' s' ⟨?_, fun y hy => ?_⟩
      · rw [List.length_append, List.length_singleton, hl2, take_succ_of hp]
        rw [hl2] at ap
        exact AllP.snoc (ap.same s') pv
      · rcases List.mem_append.mp hy with hy | hy
        · exact an y hy
        · rw [List.mem_singleton.mp hy]; exact nv
    clear k
    generalize pps[i]'(by omega) = pt at a1 fin
    simp only [List.set_cons_zero, List.set_cons_succ]
    cases pt with
    | t cs =>
      obtain rfl : x = .str (tx cs) := a1
      walk_at "go"
      exact fin _ _ (Same.refl _) rfl (fun z => nomatch z)
    | n k =>
      obtain rfl : x = .int k := a1
      walk_at "go"
      exact fin _ _ (Same.refl _) rfl (fun z => nomatch z)
    | l ns =>
      obtain ⟨p, rfl, e⟩ := a1
      walk_at "go"
      rename_i p3 H3 n3
      exact fin _ _ n3.same ⟨p3, rfl, n3.at⟩ (fun z => by cases z; exact n3.ne hd rfl)
  rintro D acc H3 hD s3 hl3 ⟨ap, an⟩ hd3
  rw [hl3, l2, List.take_length] at ap
  walk_at "go"
  rename_i TH H4 n4
  have oh : OAt H4 TH pps := oat_of n4.at (ap.same n4.same)
  have o4 := o2.same (s3.trans n4.same)
  have hS4 := (s2.trans (s3.trans n4.same)).seq hS1
  refine p_line_of oh ok lpp fun H5 s5 => ?_
  have oh5 := oh.same s5
  have o5 := o4.same s5
  have hS5 := s5.seq hS4
  walk_at "go"
  refine go_neSame (dp_oat oh5) (dp_oat o5) (shaped_ord ok) ?_
  walk_at "go"
  refine p_L_read (by omega) (fun ps' hd' T' H6 s6 o6 => ?_) (fun hd' H6 s6 => by rw [dl] at hd'; cases hd')
  obtain rfl : ps' = pps := by rw [dl] at hd'; exact (Option.some.inj hd').symm
  walk_at "go"
  refine p_L_alike o6 (o5.same s6) sh fun H7 s7 => ?_
  have hS7 := (s6.trans s7).seq hS5
  walk_at "go"
  rename_i l0 H8 n8 t0 H9 n9 d0 H10 n10 p H11 n11
  have hS11 := (((n8.same.trans n9.same).trans n10.same).trans n11.same).seq hS7
  refine p_cell_at (ns := ns) hS11 (by omega) ?_
  walk_at "go"
  refine go_ixLo n11.at ⟨by omega, by show _ < (6 : Int); omega⟩ fun v hv _ => ?_
  walk_at "go"
  obtain ⟨nn, tv, hn⟩ : ∃ n, tyN H11 v = some n ∧ n ∈ ["NoneType", "bool", "int", "list", "tuple", "dict"] := by
    simp only [List.mem_cons, List.not_mem_nil, or_false] at hv
    rcases hv with rfl | rfl | rfl | rfl | rfl | rfl
    · exact ⟨_, rfl, by decide⟩
    · exact ⟨_, rfl, by decide⟩
    · exact ⟨_, rfl, by decide⟩
    · exact ⟨_, tyN_L (n11.old (n10.old (n9.old n8.at))), by decide⟩
    · exact ⟨_, tyN_T (n11.old (n10.old n9.at)), by decide⟩
    · exact ⟨_, tyN_D (n11.old n10.at), by decide⟩
  exact law_7 hS11 (by omega) lol tv hn q
end

end Bk

namespace Bk
open PySem L2 PyProof.Rows
def topS (i : Nat) : Stmt := PySem.Challenge.pw_blockkeep_k27_orders_in_lines.main.body.getD i (.Pass ⟨0, 0, 0, 0⟩)
abbrev s_need_order : Stmt := topS 25
abbrev s_number_of : Stmt := topS 26
abbrev s_numbers_of : Stmt := topS 27
abbrev s_with_numbers : Stmt := topS 28
abbrev s_order_of : Stmt := topS 29
abbrev s_word_for : Stmt := topS 30
abbrev s_line_of : Stmt := topS 31
abbrev s_L_cell_at : Stmt := topS 33
abbrev s_L_sign : Stmt := topS 34
abbrev s_L_path : Stmt := topS 35
abbrev s_L_number : Stmt := topS 36
abbrev s_L_order : Stmt := topS 37
abbrev s_L_line : Stmt := topS 38
abbrev s_L_bent : Stmt := topS 39
abbrev s_L_number_of : Stmt := topS 40
abbrev s_L_parts : Stmt := topS 41
abbrev s_L_due : Stmt := topS 42
abbrev s_L_alike : Stmt := topS 43
abbrev s_L_read : Stmt := topS 44
abbrev s_law : Stmt := topS 45
structure Ad where
  (f_need_order f_number_of f_numbers_of f_with_numbers f_order_of f_word_for f_line_of f_L_cell_at f_L_sign f_L_path f_L_number f_L_order f_L_line f_L_bent f_L_number_of f_L_parts f_L_due f_L_alike f_L_read f_law : Addr)
  (fd_need_order fd_number_of fd_numbers_of fd_with_numbers fd_order_of fd_word_for fd_line_of fd_L_cell_at fd_L_sign fd_L_path fd_L_number fd_L_order fd_L_line fd_L_bent fd_L_number_of fd_L_parts fd_L_due fd_L_alike fd_L_read fd_law : FuncData)
structure Tx (K : PySem.W.Frag) (mg : Str → Option Value) (a : Ac) (b : Ad) : Prop where
  g_FIGURES : ∃ u, mg "FIGURES" = some u ∧ RelV (.str "0123456789") u
  g_MOST_FIGURES : ∃ u, mg "MOST_FIGURES" = some u ∧ RelV (.int 9) u
  n_ValueError : mg "ValueError" = none
  n_bool : mg "bool" = none
  n_int : mg "int" = none
  n_isinstance : mg "isinstance" = none
  n_len : mg "len" = none
  n_list : mg "list" = none
  n_max : mg "max" = none
  n_range : mg "range" = none
  n_str : mg "str" = none
  n_tuple : mg "tuple" = none
  n_zip : mg "zip" = none
  g_need_order : mg "need_order" = some (.ref b.f_need_order)
  k_need_order : PySem.W.keepIn K (.ref b.f_need_order) = true
  F_need_order : Fun K "need_order" "need_order" s_need_order b.f_need_order b.fd_need_order
  b_need_order : Binds K b.fd_need_order ["good"] []
  g_number_of : mg "number_of" = some (.ref b.f_number_of)
  k_number_of : PySem.W.keepIn K (.ref b.f_number_of) = true
  F_number_of : Fun K "number_of" "number_of" s_number_of b.f_number_of b.fd_number_of
  b_number_of : Binds K b.fd_number_of ["word"] []
  g_numbers_of : mg "numbers_of" = some (.ref b.f_numbers_of)
  k_numbers_of : PySem.W.keepIn K (.ref b.f_numbers_of) = true
  F_numbers_of : Fun K "numbers_of" "numbers_of" s_numbers_of b.f_numbers_of b.fd_numbers_of
  b_numbers_of : Binds K b.fd_numbers_of ["word"] []
  g_with_numbers : mg "with_numbers" = some (.ref b.f_with_numbers)
  k_with_numbers : PySem.W.keepIn K (.ref b.f_with_numbers) = true
  F_with_numbers : Fun K "with_numbers" "with_numbers" s_with_numbers b.f_with_numbers b.fd_with_numbers
  b_with_numbers : Binds K b.fd_with_numbers ["words"] []
  g_order_of : mg "order_of" = some (.ref b.f_order_of)
  k_order_of : PySem.W.keepIn K (.ref b.f_order_of) = true
  F_order_of : Fun K "order_of" "order_of" s_order_of b.f_order_of b.fd_order_of
  b_order_of : Binds K b.fd_order_of ["line"] []
  g_word_for : mg "word_for" = some (.ref b.f_word_for)
  k_word_for : PySem.W.keepIn K (.ref b.f_word_for) = true
  F_word_for : Fun K "word_for" "word_for" s_word_for b.f_word_for b.fd_word_for
  b_word_for : Binds K b.fd_word_for ["part"] []
  g_line_of : mg "line_of" = some (.ref b.f_line_of)
  k_line_of : PySem.W.keepIn K (.ref b.f_line_of) = true
  F_line_of : Fun K "line_of" "line_of" s_line_of b.f_line_of b.fd_line_of
  b_line_of : Binds K b.fd_line_of ["order"] []
  g_L_cell_at : mg "_law_cell_at" = some (.ref b.f_L_cell_at)
  k_L_cell_at : PySem.W.keepIn K (.ref b.f_L_cell_at) = true
  F_L_cell_at : Fun K "_law_cell_at" "_law_cell_at" s_L_cell_at b.f_L_cell_at b.fd_L_cell_at
  b_L_cell_at : Binds K b.fd_L_cell_at ["_law_script", "_law_k"] []
  g_L_sign : mg "_law_sign" = some (.ref b.f_L_sign)
  k_L_sign : PySem.W.keepIn K (.ref b.f_L_sign) = true
  F_L_sign : Fun K "_law_sign" "_law_sign" s_L_sign b.f_L_sign b.fd_L_sign
  b_L_sign : Binds K b.fd_L_sign ["_law_cell"] []
  g_L_path : mg "_law_path" = some (.ref b.f_L_path)
  k_L_path : PySem.W.keepIn K (.ref b.f_L_path) = true
  F_L_path : Fun K "_law_path" "_law_path" s_L_path b.f_L_path b.fd_L_path
  b_L_path : Binds K b.fd_L_path ["_law_cell"] []
  g_L_number : mg "_law_number" = some (.ref b.f_L_number)
  k_L_number : PySem.W.keepIn K (.ref b.f_L_number) = true
  F_L_number : Fun K "_law_number" "_law_number" s_L_number b.f_L_number b.fd_L_number
  b_L_number : Binds K b.fd_L_number ["_law_cell"] []
  g_L_order : mg "_law_order" = some (.ref b.f_L_order)
  k_L_order : PySem.W.keepIn K (.ref b.f_L_order) = true
  F_L_order : Fun K "_law_order" "_law_order" s_L_order b.f_L_order b.fd_L_order
  b_L_order : Binds K b.fd_L_order ["_law_script"] []
  g_L_line : mg "_law_line" = some (.ref b.f_L_line)
  k_L_line : PySem.W.keepIn K (.ref b.f_L_line) = true
  F_L_line : Fun K "_law_line" "_law_line" s_L_line b.f_L_line b.fd_L_line
  b_L_line : Binds K b.fd_L_line ["_law_order_here"] []
  g_L_bent : mg "_law_bent" = some (.ref b.f_L_bent)
  k_L_bent : PySem.W.keepIn K (.ref b.f_L_bent) = true
  F_L_bent : Fun K "_law_bent" "_law_bent" s_L_bent b.f_L_bent b.fd_L_bent
  b_L_bent : Binds K b.fd_L_bent ["_law_line_here", "_law_cell"] []
  g_L_number_of : mg "_law_number_of" = some (.ref b.f_L_number_of)
  k_L_number_of : PySem.W.keepIn K (.ref b.f_L_number_of) = true
  F_L_number_of : Fun K "_law_number_of" "_law_number_of" s_L_number_of b.f_L_number_of b.fd_L_number_of
  b_L_number_of : Binds K b.fd_L_number_of ["_law_word"] []
  g_L_parts : mg "_law_parts" = some (.ref b.f_L_parts)
  k_L_parts : PySem.W.keepIn K (.ref b.f_L_parts) = true
  F_L_parts : Fun K "_law_parts" "_law_parts" s_L_parts b.f_L_parts b.fd_L_parts
  b_L_parts : Binds K b.fd_L_parts ["_law_words"] []
  g_L_due : mg "_law_due" = some (.ref b.f_L_due)
  k_L_due : PySem.W.keepIn K (.ref b.f_L_due) = true
  F_L_due : Fun K "_law_due" "_law_due" s_L_due b.f_L_due b.fd_L_due
  b_L_due : Binds K b.fd_L_due ["_law_line_here"] []
  g_L_alike : mg "_law_alike" = some (.ref b.f_L_alike)
  k_L_alike : PySem.W.keepIn K (.ref b.f_L_alike) = true
  F_L_alike : Fun K "_law_alike" "_law_alike" s_L_alike b.f_L_alike b.fd_L_alike
  b_L_alike : Binds K b.fd_L_alike ["_law_found", "_law_due_here"] []
  g_L_read : mg "_law_read" = some (.ref b.f_L_read)
  k_L_read : PySem.W.keepIn K (.ref b.f_L_read) = true
  F_L_read : Fun K "_law_read" "_law_read" s_L_read b.f_L_read b.fd_L_read
  b_L_read : Binds K b.fd_L_read ["_law_line_here"] []
  g_law : mg "law" = some (.ref b.f_law)
  k_law : PySem.W.keepIn K (.ref b.f_law) = true
  F_law : Fun K "law" "law" s_law b.f_law b.fd_law
  b_law : Binds K b.fd_law ["_law_script"] []
  g_KeepError : mg "KeepError" = some (.ref a.KeepError)
  x_KeepError : ExOk K a.KeepError
  g_BadRow : mg "BadRow" = some (.ref a.BadRow)
  x_BadRow : ExOk K a.BadRow
  g_NoBlock : mg "NoBlock" = some (.ref a.NoBlock)
  x_NoBlock : ExOk K a.NoBlock
  g_Stopped : mg "Stopped" = some (.ref a.Stopped)
  x_Stopped : ExOk K a.Stopped
  g_BadDisk : mg "BadDisk" = some (.ref a.BadDisk)
  x_BadDisk : ExOk K a.BadDisk
  g_NoRoom : mg "NoRoom" = some (.ref a.NoRoom)
  x_NoRoom : ExOk K a.NoRoom
  g_TooMuch : mg "TooMuch" = some (.ref a.TooMuch)
  x_TooMuch : ExOk K a.TooMuch
  g_BadLog : mg "BadLog" = some (.ref a.BadLog)
  x_BadLog : ExOk K a.BadLog
  g_NoNode : mg "NoNode" = some (.ref a.NoNode)
  x_NoNode : ExOk K a.NoNode
  g_NoNodes : mg "NoNodes" = some (.ref a.NoNodes)
  x_NoNodes : ExOk K a.NoNodes
  g_TooLong : mg "TooLong" = some (.ref a.TooLong)
  x_TooLong : ExOk K a.TooLong
  g_OutOfPlace : mg "OutOfPlace" = some (.ref a.OutOfPlace)
  x_OutOfPlace : ExOk K a.OutOfPlace
  g_BadName : mg "BadName" = some (.ref a.BadName)
  x_BadName : ExOk K a.BadName
  g_BadPath : mg "BadPath" = some (.ref a.BadPath)
  x_BadPath : ExOk K a.BadPath
  g_NotFolder : mg "NotFolder" = some (.ref a.NotFolder)
  x_NotFolder : ExOk K a.NotFolder
  g_NotFile : mg "NotFile" = some (.ref a.NotFile)
  x_NotFile : ExOk K a.NotFile
  g_NoName : mg "NoName" = some (.ref a.NoName)
  x_NoName : ExOk K a.NoName
  g_NameThere : mg "NameThere" = some (.ref a.NameThere)
  x_NameThere : ExOk K a.NameThere
  g_NotEmpty : mg "NotEmpty" = some (.ref a.NotEmpty)
  x_NotEmpty : ExOk K a.NotEmpty
  g_Within : mg "Within" = some (.ref a.Within)
  x_Within : ExOk K a.Within
  g_BadOrder : mg "BadOrder" = some (.ref a.BadOrder)
  x_BadOrder : ExOk K a.BadOrder
section
variable {P : Program} {w : World} {K : PySem.W.Frag} {mg : Str → Option Value} {base : Heap} {a : Ac} {b : Ad}
theorem sc_need_order : FnScope ["good"] ["good"] (defScope s_need_order) := ⟨rfl, rfl, rfl, by decide +kernel, rfl, by decide +kernel, by decide +kernel⟩
theorem ok_need_order (T : Tx K mg a b) : FnOk P w K mg base (L2N.CX P w) 2 b.f_need_order b.fd_need_order ["good"] (sp_need_order K a) := by
  refine okN (k := 1) (t := t_need_order K a) T.F_need_order sc_need_order (fun cdv A outer s H E hr => ?_)
  exact pss_one (ps_if (pt_not (pt_val (pv 0))) (pss_one (raiseE rfl (takesM rfl rfl rfl rfl) T.x_BadOrder T.g_BadOrder)) (pss_nil))
theorem sc_word_for : FnScope ["part", "number"] ["part"] (defScope s_word_for) := ⟨rfl, rfl, rfl, by decide +kernel, rfl, by decide +kernel, by decide +kernel⟩
theorem ok_word_for (T : Tx K mg a b) : FnOk P w K mg base (L2N.CX P w) 2 b.f_word_for b.fd_word_for ["part"] (sp_word_for K a) := by
  refine okN (k := 1) (t := t_word_for K a) T.F_word_for sc_word_for (fun cdv A outer s H E hr => ?_)
  exact pss_cons (ps_if (pt_val (pe_callB call_isi (by rfl) T.n_isinstance (by decide +kernel) (pa_cons (pv 0) (pa_cons (pe_bltn (by rfl) T.n_list (by decide +kernel) rfl) (pa_nil))))) (pss_one (ps_ret (pe_bm PySem.F.plainAttrs_str PySem.F.slot_str_join PySem.F.type_str_join mt_joinP (pe_str) (pa_cons (pe_lc (own := [("number", 1)]) (g := gName 1) (tt := tYes) (te := tCB (rStrP) (tCons (tVar 1) (tNil))) rfl sc_word_for.nd (pi_seqP (pv 0)) (blkOk_by (N := ["part", "number"]) (sc := defScope s_word_for) (by decide +kernel)) (fun _ _ _ _ _ => pg_name (i := 1) sc_word_for.nd rfl (by first | exact Or.inl rfl | exact Or.inr rfl)) (fun _ _ _ _ _ => pts_nil) (fun _ _ _ _ _ => pe_callTy call_strP (by rfl) T.n_str (by decide +kernel) (pa_cons (pv 1) (pa_nil)))) (pa_nil))))) (pss_nil)) (pss_one (ps_ret (pe_callTy call_strP (by rfl) T.n_str (by decide +kernel) (pa_cons (pv 0) (pa_nil)))))
theorem sc_L_cell_at : FnScope ["_law_script", "_law_k"] ["_law_script", "_law_k"] (defScope s_L_cell_at) := ⟨rfl, rfl, rfl, by decide +kernel, rfl, by decide +kernel, by decide +kernel⟩
theorem ok_L_cell_at (T : Tx K mg a b) : FnOk P w K mg base (L2N.CX P w) 2 b.f_L_cell_at b.fd_L_cell_at ["_law_script", "_law_k"] (sp_L_cell_at K a) := by
  refine okN (k := 1) (t := t_L_cell_at K a) T.F_L_cell_at sc_L_cell_at (fun cdv A outer s H E hr => ?_)
  exact pss_cons (ps_if (pt_cmpR op_ltP (pv 1) (pe_callB call_lenP (by rfl) T.n_len (by decide +kernel) (pa_cons (pv 0) (pa_nil))) (by first | exact nomark _ | rfl)) (pss_one (ps_ret (pe_ix ix_P (pv 0) (pv 1) (fun _ _ => rfl)))) (pss_nil)) (pss_one (ps_ret (pe_int)))
theorem sc_L_sign : FnScope ["_law_cell", "_law_signs"] ["_law_cell"] (defScope s_L_sign) := ⟨rfl, rfl, rfl, by decide +kernel, rfl, by decide +kernel, by decide +kernel⟩
theorem ok_L_sign (T : Tx K mg a b) : FnOk P w K mg base (L2N.CX P w) 2 b.f_L_sign b.fd_L_sign ["_law_cell"] (sp_L_sign K a) := by
  refine okN (k := 1) (t := t_L_sign K a) T.F_L_sign sc_L_sign (fun cdv A outer s H E hr => ?_)
  exact pss_cons (ps_set (i := 1) sc_L_sign.nd rfl (by first | exact Or.inl rfl | exact Or.inr rfl) (pe_str)) (pss_one (ps_ret (pe_ix ix_P (pe_op op_addP (pv 1) (pe_str)) (pe_op op_modP (pv 0) (pe_op op_addP (pe_callB call_lenP (by rfl) T.n_len (by decide +kernel) (pa_cons (pv 1) (pa_nil))) (pe_int))) (fun _ _ => rfl))))
theorem sc_L_path : FnScope ["_law_cell", "_law_some", "_law_text", "_law_k"] ["_law_cell"] (defScope s_L_path) := ⟨rfl, rfl, rfl, by decide +kernel, rfl, by decide +kernel, by decide +kernel⟩
theorem ok_L_path (T : Tx K mg a b) : FnOk P w K mg base (L2N.CX P w) 2 b.f_L_path b.fd_L_path ["_law_cell"] (sp_L_path K a) := by
  refine okN (k := 1) (t := t_L_path K a) T.F_L_path sc_L_path (fun cdv A outer s H E hr => ?_)
  exact pss_cons (ps_set (i := 1) sc_L_path.nd rfl (by first | exact Or.inl rfl | exact Or.inr rfl) (pe_str)) (pss_cons (ps_set (i := 2) sc_L_path.nd rfl (by first | exact Or.inl rfl | exact Or.inr rfl) (pe_str)) (pss_cons (ps_for (passes_of rfl) rfl (pi_range1 (by rfl) T.n_range (pa_cons (pe_op op_addP (pe_int) (pe_op op_modP (pv 0) (pe_int))) (pa_nil))) (pg_name (i := 3) sc_L_path.nd rfl (by first | exact Or.inl rfl | exact Or.inr rfl)) (pss_cons (ps_set (i := 2) sc_L_path.nd rfl (by first | exact Or.inl rfl | exact Or.inr rfl) (pe_op op_addP (pv 2) (pe_ix ix_P (pv 1) (pe_op op_modP (pe_op op_mulP (pe_op op_divP (pv 0) (pe_int)) (pe_op op_addP (pv 3) (pe_int))) (pe_int)) (fun _ _ => rfl)))) (pss_one (ps_set (i := 0) sc_L_path.nd rfl (by first | exact Or.inl rfl | exact Or.inr rfl) (pe_op op_addP (pv 0) (pe_int)))))) (pss_one (ps_ret (pv 2)))))
theorem sc_L_number : FnScope ["_law_cell"] ["_law_cell"] (defScope s_L_number) := ⟨rfl, rfl, rfl, by decide +kernel, rfl, by decide +kernel, by decide +kernel⟩
theorem ok_L_number (T : Tx K mg a b) : FnOk P w K mg base (L2N.CX P w) 2 b.f_L_number b.fd_L_number ["_law_cell"] (sp_L_number K a) := by
  refine okN (k := 1) (t := t_L_number K a) T.F_L_number sc_L_number (fun cdv A outer s H E hr => ?_)
  exact pss_cons (ps_if (pt_cmpR (op_eqP hr) (pe_op op_modP (pv 0) (pe_int)) (pe_int) (by first | exact nomark _ | rfl)) (pss_one (ps_ret (pe_ix ix_P (pe_lst (pa_cons (pe_int) (pa_cons (pe_int) (pa_cons (pe_int) (pa_cons (pe_int) (pa_cons (pe_int) (pa_cons (pe_int) (pa_nil)))))))) (pe_op op_modP (pe_op op_divP (pv 0) (pe_int)) (pe_int)) (fun _ _ => rfl)))) (pss_nil)) (pss_one (ps_ret (pe_op op_modP (pe_op op_divP (pv 0) (pe_int)) (pe_op op_powP (pe_int) (pe_int)))))
theorem sc_L_line : FnScope ["_law_order_here", "_law_line_here", "_law_part", "_law_number_here"] ["_law_order_here"] (defScope s_L_line) := ⟨rfl, rfl, rfl, by decide +kernel, rfl, by decide +kernel, by decide +kernel⟩
theorem ok_L_line (T : Tx K mg a b) : FnOk P w K mg base (L2N.CX P w) 2 b.f_L_line b.fd_L_line ["_law_order_here"] (sp_L_line K a) := by
  refine okN (k := 1) (t := t_L_line K a) T.F_L_line sc_L_line (fun cdv A outer s H E hr => ?_)
  exact pss_cons (ps_set (i := 1) sc_L_line.nd rfl (by first | exact Or.inl rfl | exact Or.inr rfl) (pe_ix ix_P (pv 0) (pe_int) (fun _ _ => rfl))) (pss_cons (ps_for (passes_of rfl) rfl (pi_seqP (pe_slice sl_P (pv 0) (po_some (pe_int)) (po_none))) (pg_name (i := 2) sc_L_line.nd rfl (by first | exact Or.inl rfl | exact Or.inr rfl)) (pss_one (ps_if (pt_val (pe_callB call_isi (by rfl) T.n_isinstance (by decide +kernel) (pa_cons (pv 2) (pa_cons (pe_bltn (by rfl) T.n_list (by decide +kernel) rfl) (pa_nil))))) (pss_one (ps_set (i := 1) sc_L_line.nd rfl (by first | exact Or.inl rfl | exact Or.inr rfl) (pe_op op_addP (pe_op op_addP (pv 1) (pe_str)) (pe_bm PySem.F.plainAttrs_str PySem.F.slot_str_join PySem.F.type_str_join mt_joinP (pe_str) (pa_cons (pe_lc (own := [("_law_number_here", 3)]) (g := gName 3) (tt := tYes) (te := tCB (rStrP) (tCons (tVar 3) (tNil))) rfl sc_L_line.nd (pi_seqP (pv 2)) (blkOk_by (N := ["_law_order_here", "_law_line_here", "_law_part", "_law_number_here"]) (sc := defScope s_L_line) (by decide +kernel)) (fun _ _ _ _ _ => pg_name (i := 3) sc_L_line.nd rfl (by first | exact Or.inl rfl | exact Or.inr rfl)) (fun _ _ _ _ _ => pts_nil) (fun _ _ _ _ _ => pe_callTy call_strP (by rfl) T.n_str (by decide +kernel) (pa_cons (pv 3) (pa_nil)))) (pa_nil)))))) (pss_one (ps_set (i := 1) sc_L_line.nd rfl (by first | exact Or.inl rfl | exact Or.inr rfl) (pe_op op_addP (pe_op op_addP (pv 1) (pe_str)) (pe_callTy call_strP (by rfl) T.n_str (by decide +kernel) (pa_cons (pv 2) (pa_nil))))))))) (pss_one (ps_ret (pv 1))))
theorem sc_L_number_of : FnScope ["_law_word", "_law_sign_here"] ["_law_word"] (defScope s_L_number_of) := ⟨rfl, rfl, rfl, by decide +kernel, rfl, by decide +kernel, by decide +kernel⟩
theorem ok_L_number_of (T : Tx K mg a b) : FnOk P w K mg base (L2N.CX P w) 2 b.f_L_number_of b.fd_L_number_of ["_law_word"] (sp_L_number_of K a) := by
  refine okN (k := 1) (t := t_L_number_of K a) T.F_L_number_of sc_L_number_of (fun cdv A outer s H E hr => ?_)
  exact pss_cons (ps_if (PW.pt (pw_or (pt_not (pt_chain op_leP op_leP (pe_int) (pe_callB call_lenP (by rfl) T.n_len (by decide +kernel) (pa_cons (pv 0) (pa_nil))) (pe_int))) (pw_or1 (pt_cmpR (op_neP hr) (pe_lc (own := [("_law_sign_here", 1)]) (g := gName 1) (tt := tTest (tOp (rNotInP K) (tVar 1) (tC (.str "0123456789")))) (te := tVar 1) rfl sc_L_number_of.nd (pi_seqP (pv 0)) (blkOk_by (N := ["_law_word", "_law_sign_here"]) (sc := defScope s_L_number_of) (by decide +kernel)) (fun _ _ _ _ _ => pg_name (i := 1) sc_L_number_of.nd rfl (by first | exact Or.inl rfl | exact Or.inr rfl)) (fun _ _ _ _ _ => pts_one (pt_cmpR op_notInP (pv 1) (pe_str) (by first | exact nomark _ | rfl))) (fun _ _ _ _ _ => pv 1)) (pe_lst (pa_nil)) (by first | exact nomark _ | rfl))))) (pss_one (ps_ret (pe_non))) (pss_nil)) (pss_cons (ps_if (PW.pt (pw_and (pt_cmpR (op_eqP hr) (pe_ix ix_P (pv 0) (pe_int) (fun _ _ => rfl)) (pe_str) (by first | exact nomark _ | rfl)) (pw_and1 (pt_cmpR op_gtP (pe_callB call_lenP (by rfl) T.n_len (by decide +kernel) (pa_cons (pv 0) (pa_nil))) (pe_int) (by first | exact nomark _ | rfl))))) (pss_one (ps_ret (pe_non))) (pss_nil)) (pss_one (ps_ret (pe_callTy call_intP (by rfl) T.n_int (by decide +kernel) (pa_cons (pv 0) (pa_nil))))))
theorem sc_L_parts : FnScope ["_law_words", "_law_one", "_law_number_here"] ["_law_words"] (defScope s_L_parts) := ⟨rfl, rfl, rfl, by decide +kernel, rfl, by decide +kernel, by decide +kernel⟩
theorem ok_L_parts (T : Tx K mg a b) : FnOk P w K mg base (L2N.CX P w) 2 b.f_L_parts b.fd_L_parts ["_law_words"] (sp_L_parts K a) := by
  refine okN (k := 1) (t := t_L_parts K a) T.F_L_parts sc_L_parts (fun cdv A outer s H E hr => ?_)
  exact pss_cons (ps_set (i := 1) sc_L_parts.nd rfl (by first | exact Or.inl rfl | exact Or.inr rfl) (pe_str)) (pss_cons (ps_set (i := 2) sc_L_parts.nd rfl (by first | exact Or.inl rfl | exact Or.inr rfl) (pe_str)) (pss_cons (ps_if (pt_cmpR op_inP (pe_ix ix_P (pv 0) (pe_int) (fun _ _ => rfl)) (pe_tup (pa_cons (pe_str) (pa_cons (pe_str) (pa_nil)))) (by first | exact nomark _ | rfl)) (pss_one (ps_ret (pe_lst (pa_nil)))) (pss_nil)) (pss_cons (ps_if (pt_cmpR op_inP (pe_ix ix_P (pv 0) (pe_int) (fun _ _ => rfl)) (pe_tup (pa_cons (pe_str) (pa_cons (pe_str) (pa_cons (pe_str) (pa_cons (pe_str) (pa_cons (pe_str) (pa_cons (pe_str) (pa_cons (pe_str) (pa_nil))))))))) (by first | exact nomark _ | rfl)) (pss_one (ps_ret (pe_lst (pa_cons (pv 1) (pa_nil))))) (pss_nil)) (pss_cons (ps_if (pt_cmpR op_inP (pe_ix ix_P (pv 0) (pe_int) (fun _ _ => rfl)) (pe_tup (pa_cons (pe_str) (pa_cons (pe_str) (pa_nil)))) (by first | exact nomark _ | rfl)) (pss_one (ps_ret (pe_lst (pa_cons (pv 1) (pa_cons (pv 1) (pa_nil)))))) (pss_nil)) (pss_cons (ps_if (pt_cmpR (op_eqP hr) (pe_ix ix_P (pv 0) (pe_int) (fun _ _ => rfl)) (pe_str) (by first | exact nomark _ | rfl)) (pss_one (ps_ret (pe_lst (pa_cons (pv 1) (pa_cons (pv 2) (pa_cons (pe_str) (pa_nil))))))) (pss_nil)) (pss_cons (ps_if (pt_cmpR (op_eqP hr) (pe_ix ix_P (pv 0) (pe_int) (fun _ _ => rfl)) (pe_str) (by first | exact nomark _ | rfl)) (pss_one (ps_ret (pe_lst (pa_cons (pv 1) (pa_cons (pv 2) (pa_nil)))))) (pss_nil)) (pss_cons (ps_if (pt_cmpR (op_eqP hr) (pe_ix ix_P (pv 0) (pe_int) (fun _ _ => rfl)) (pe_str) (by first | exact nomark _ | rfl)) (pss_one (ps_ret (pe_lst (pa_cons (pv 1) (pa_cons (pv 2) (pa_cons (pv 2) (pa_nil))))))) (pss_nil)) (pss_cons (ps_if (pt_cmpR (op_eqP hr) (pe_ix ix_P (pv 0) (pe_int) (fun _ _ => rfl)) (pe_str) (by first | exact nomark _ | rfl)) (pss_one (ps_ret (pe_lst (pa_cons (pv 2) (pa_nil))))) (pss_nil)) (pss_one (ps_ret (pe_non)))))))))))
theorem sc_L_alike : FnScope ["_law_found", "_law_due_here", "_law_one", "_law_other", "_law_number_here"] ["_law_found", "_law_due_here"] (defScope s_L_alike) := ⟨rfl, rfl, rfl, by decide +kernel, rfl, by decide +kernel, by decide +kernel⟩
theorem ok_L_alike (T : Tx K mg a b) : FnOk P w K mg base (L2N.CX P w) 2 b.f_L_alike b.fd_L_alike ["_law_found", "_law_due_here"] (sp_L_alike K a) := by
  refine okN (k := 1) (t := t_L_alike K a) T.F_L_alike sc_L_alike (fun cdv A outer s H E hr => ?_)
  exact pss_cons (ps_if (PW.pt (pw_or (pt_not (pt_val (pe_callB call_isi (by rfl) T.n_isinstance (by decide +kernel) (pa_cons (pv 0) (pa_cons (pe_bltn (by rfl) T.n_tuple (by decide +kernel) rfl) (pa_nil)))))) (pw_or1 (pt_cmpR (op_neP hr) (pe_callB call_lenP (by rfl) T.n_len (by decide +kernel) (pa_cons (pv 0) (pa_nil))) (pe_callB call_lenP (by rfl) T.n_len (by decide +kernel) (pa_cons (pv 1) (pa_nil))) (by first | exact nomark _ | rfl))))) (pss_one (ps_ret (pe_bl))) (pss_nil)) (pss_cons (ps_for (passes_of rfl) rfl (RZ.pi_zipA (by rfl) T.n_zip (pa_cons (pv 0) (pa_cons (pv 1) (pa_nil)))) (pg_tupP rfl (pgs_cons (pg_name (i := 2) sc_L_alike.nd rfl (by first | exact Or.inl rfl | exact Or.inr rfl)) (pgs_cons (pg_name (i := 3) sc_L_alike.nd rfl (by first | exact Or.inl rfl | exact Or.inr rfl)) (pgs_nil)))) (pss_cons (ps_if (pt_val (pe_callB call_isi (by rfl) T.n_isinstance (by decide +kernel) (pa_cons (pv 3) (pa_cons (pe_bltn (by rfl) T.n_list (by decide +kernel) rfl) (pa_nil))))) (pss_one (ps_if (PW.pt (pw_or (pt_not (pt_val (pe_callB call_isi (by rfl) T.n_isinstance (by decide +kernel) (pa_cons (pv 2) (pa_cons (pe_bltn (by rfl) T.n_list (by decide +kernel) rfl) (pa_nil)))))) (pw_or1 (pt_cmpR (op_neP hr) (pe_lc (own := [("_law_number_here", 4)]) (g := gName 4) (tt := tB (tCB ((rIsi K)) (tCons (tVar 4) (tCons (tC (.ty "bool")) (tNil))))) (te := tVar 4) rfl sc_L_alike.nd (pi_seqP (pv 2)) (blkOk_by (N := ["_law_found", "_law_due_here", "_law_one", "_law_other", "_law_number_here"]) (sc := defScope s_L_alike) (by decide +kernel)) (fun _ _ _ _ _ => pg_name (i := 4) sc_L_alike.nd rfl (by first | exact Or.inl rfl | exact Or.inr rfl)) (fun _ _ _ _ _ => pts_one (pt_val (pe_callB call_isi (by rfl) T.n_isinstance (by decide +kernel) (pa_cons (pv 4) (pa_cons (pe_bltn (by rfl) T.n_bool (by decide +kernel) rfl) (pa_nil)))))) (fun _ _ _ _ _ => pv 4)) (pe_lst (pa_nil)) (by first | exact nomark _ | rfl))))) (pss_one (ps_ret (pe_bl))) (pss_nil))) (pss_nil)) (pss_one (ps_if (PW.pt (pw_or (pt_val (pe_callB call_isi (by rfl) T.n_isinstance (by decide +kernel) (pa_cons (pv 2) (pa_cons (pe_bltn (by rfl) T.n_bool (by decide +kernel) rfl) (pa_nil))))) (pw_or1 (pt_cmpR (op_neP hr) (pv 2) (pv 3) (by first | exact nomark _ | rfl))))) (pss_one (ps_ret (pe_bl))) (pss_nil))))) (pss_one (ps_ret (pe_bl))))
theorem sc_number_of : FnScope ["word", "sign"] ["word"] (defScope s_number_of) := ⟨rfl, rfl, rfl, by decide +kernel, rfl, by decide +kernel, by decide +kernel⟩
theorem ok_number_of (T : Tx K mg a b) : FnOk P w K mg base (L2N.CX P w) 3 b.f_number_of b.fd_number_of ["word"] (sp_number_of K a) := by
  have G_need_order := ok_need_order (P := P) (w := w) (base := base) T
  refine okN (k := 2) (t := t_number_of K a) T.F_number_of sc_number_of (fun cdv A outer s H E hr => ?_)
  exact pss_cons (ps_expr (callE G_need_order (takesM rfl rfl rfl rfl) hr (by decide) rfl T.g_need_order T.k_need_order T.b_need_order (pa_cons (pe_and (pe_chain op_leP op_leP (pe_int) (pe_callB call_lenP (by rfl) T.n_len (by decide +kernel) (pa_cons (pv 0) (pa_nil))) (pe_gl rfl T.g_MOST_FIGURES)) (pe_one (pe_or (pe_cmpR (op_eqP hr) (pv 0) (pe_str) (by first | exact nomark _ | rfl)) (pe_one (pe_cmpR (op_neP hr) (pe_ix ix_P (pv 0) (pe_int) (fun _ _ => rfl)) (pe_str) (by first | exact nomark _ | rfl)))))) (pa_nil)))) (pss_cons (ps_for (passes_of rfl) rfl (pi_seqP (pv 0)) (pg_name (i := 1) sc_number_of.nd rfl (by first | exact Or.inl rfl | exact Or.inr rfl)) (pss_one (ps_expr (callE G_need_order (takesM rfl rfl rfl rfl) hr (by decide) rfl T.g_need_order T.k_need_order T.b_need_order (pa_cons (pe_cmpR op_inP (pv 1) (pe_gl rfl T.g_FIGURES) (by first | exact nomark _ | rfl)) (pa_nil)))))) (pss_one (ps_ret (pe_callTy call_intP (by rfl) T.n_int (by decide +kernel) (pa_cons (pv 0) (pa_nil))))))
theorem sc_line_of : FnScope ["order", "part"] ["order"] (defScope s_line_of) := ⟨rfl, rfl, rfl, by decide +kernel, rfl, by decide +kernel, by decide +kernel⟩
theorem ok_line_of (T : Tx K mg a b) : FnOk P w K mg base (L2N.CX P w) 3 b.f_line_of b.fd_line_of ["order"] (sp_line_of K a) := by
  have G_word_for := ok_word_for (P := P) (w := w) (base := base) T
  refine okN (k := 2) (t := t_line_of K a) T.F_line_of sc_line_of (fun cdv A outer s H E hr => ?_)
  exact pss_one (ps_ret (pe_bm PySem.F.plainAttrs_str PySem.F.slot_str_join PySem.F.type_str_join mt_joinP (pe_str) (pa_cons (pe_lc (own := [("part", 1)]) (g := gName 1) (tt := tYes) (te := tCallS (sp_word_for K a) (WE W0) (tCons (tVar 1) (tNil))) rfl sc_line_of.nd (pi_seqP (pv 0)) (blkOk_by (N := ["order", "part"]) (sc := defScope s_line_of) (by decide +kernel)) (fun _ _ _ _ _ => pg_name (i := 1) sc_line_of.nd rfl (by first | exact Or.inl rfl | exact Or.inr rfl)) (fun _ _ _ _ _ => pts_nil) (fun _ _ _ _ _ => callE G_word_for takesN hr (by decide) rfl T.g_word_for T.k_word_for T.b_word_for (pa_cons (pv 1) (pa_nil)))) (pa_nil))))
theorem sc_L_order : FnScope ["_law_script", "_law_word", "_law_path_here", "_law_one", "_law_many", "_law_k"] ["_law_script"] (defScope s_L_order) := ⟨rfl, rfl, rfl, by decide +kernel, rfl, by decide +kernel, by decide +kernel⟩
theorem ok_L_order (T : Tx K mg a b) : FnOk P w K mg base (L2N.CX P w) 3 b.f_L_order b.fd_L_order ["_law_script"] (sp_L_order K a) := by
  have G_L_cell_at := ok_L_cell_at (P := P) (w := w) (base := base) T
  have G_L_number := ok_L_number (P := P) (w := w) (base := base) T
  have G_L_path := ok_L_path (P := P) (w := w) (base := base) T
  refine okN (k := 2) (t := t_L_order K a) T.F_L_order sc_L_order (fun cdv A outer s H E hr => ?_)
  exact pss_cons (ps_set (i := 1) sc_L_order.nd rfl (by first | exact Or.inl rfl | exact Or.inr rfl) (pe_lst (pa_cons (pe_str) (pa_cons (pe_str) (pa_cons (pe_str) (pa_cons (pe_str) (pa_cons (pe_str) (pa_cons (pe_str) (pa_cons (pe_str) (pa_cons (pe_str) (pa_cons (pe_str) (pa_cons (pe_str) (pa_cons (pe_str) (pa_cons (pe_str) (pa_nil))))))))))))))) (pss_cons (ps_set (i := 1) sc_L_order.nd rfl (by first | exact Or.inl rfl | exact Or.inr rfl) (pe_ix ix_P (pe_op op_addP (pv 1) (pe_lst (pa_cons (pe_str) (pa_cons (pe_str) (pa_cons (pe_str) (pa_nil)))))) (pe_op op_modP (callE G_L_cell_at (takesM rfl rfl rfl rfl) hr (by decide) rfl T.g_L_cell_at T.k_L_cell_at T.b_L_cell_at (pa_cons (pv 0) (pa_cons (pe_int) (pa_nil)))) (pe_int)) (fun _ _ => rfl))) (pss_cons (ps_set (i := 2) sc_L_order.nd rfl (by first | exact Or.inl rfl | exact Or.inr rfl) (callE G_L_path (takesM rfl rfl rfl rfl) hr (by decide) rfl T.g_L_path T.k_L_path T.b_L_path (pa_cons (callE G_L_cell_at (takesM rfl rfl rfl rfl) hr (by decide) rfl T.g_L_cell_at T.k_L_cell_at T.b_L_cell_at (pa_cons (pv 0) (pa_cons (pe_int) (pa_nil)))) (pa_nil)))) (pss_cons (ps_set (i := 3) sc_L_order.nd rfl (by first | exact Or.inl rfl | exact Or.inr rfl) (callE G_L_number (takesM rfl rfl rfl rfl) hr (by decide) rfl T.g_L_number T.k_L_number T.b_L_number (pa_cons (callE G_L_cell_at (takesM rfl rfl rfl rfl) hr (by decide) rfl T.g_L_cell_at T.k_L_cell_at T.b_L_cell_at (pa_cons (pv 0) (pa_cons (pe_int) (pa_nil)))) (pa_nil)))) (pss_cons (ps_if (pt_cmpR op_inP (pv 1) (pe_tup (pa_cons (pe_str) (pa_cons (pe_str) (pa_nil)))) (by first | exact nomark _ | rfl)) (pss_one (ps_ret (pe_tup (pa_cons (pv 1) (pa_nil))))) (pss_nil)) (pss_cons (ps_if (pt_cmpR (op_eqP hr) (pv 1) (pe_str) (by first | exact nomark _ | rfl)) (pss_one (ps_ret (pe_tup (pa_cons (pv 1) (pa_cons (pv 3) (pa_nil)))))) (pss_nil)) (pss_cons (ps_if (pt_cmpR op_inP (pv 1) (pe_tup (pa_cons (pe_str) (pa_cons (pe_str) (pa_nil)))) (by first | exact nomark _ | rfl)) (pss_one (ps_ret (pe_tup (pa_cons (pv 1) (pa_cons (pv 2) (pa_cons (callE G_L_path (takesM rfl rfl rfl rfl) hr (by decide) rfl T.g_L_path T.k_L_path T.b_L_path (pa_cons (callE G_L_cell_at (takesM rfl rfl rfl rfl) hr (by decide) rfl T.g_L_cell_at T.k_L_cell_at T.b_L_cell_at (pa_cons (pv 0) (pa_cons (pe_int) (pa_nil)))) (pa_nil))) (pa_nil))))))) (pss_nil)) (pss_cons (ps_if (pt_cmpR (op_eqP hr) (pv 1) (pe_str) (by first | exact nomark _ | rfl)) (pss_one (ps_ret (pe_tup (pa_cons (pv 1) (pa_cons (pv 2) (pa_cons (pv 3) (pa_nil))))))) (pss_nil)) (pss_cons (ps_if (pt_cmpR (op_eqP hr) (pv 1) (pe_str) (by first | exact nomark _ | rfl)) (pss_one (ps_ret (pe_tup (pa_cons (pv 1) (pa_cons (pv 2) (pa_cons (pv 3) (pa_cons (callE G_L_number (takesM rfl rfl rfl rfl) hr (by decide) rfl T.g_L_number T.k_L_number T.b_L_number (pa_cons (callE G_L_cell_at (takesM rfl rfl rfl rfl) hr (by decide) rfl T.g_L_cell_at T.k_L_cell_at T.b_L_cell_at (pa_cons (pv 0) (pa_cons (pe_int) (pa_nil)))) (pa_nil))) (pa_nil)))))))) (pss_nil)) (pss_cons (ps_if (pt_cmpR (op_eqP hr) (pv 1) (pe_str) (by first | exact nomark _ | rfl)) (pss_cons (ps_set (i := 4) sc_L_order.nd rfl (by first | exact Or.inl rfl | exact Or.inr rfl) (pe_op op_addP (pe_int) (pe_op op_modP (callE G_L_cell_at (takesM rfl rfl rfl rfl) hr (by decide) rfl T.g_L_cell_at T.k_L_cell_at T.b_L_cell_at (pa_cons (pv 0) (pa_cons (pe_int) (pa_nil)))) (pe_int)))) (pss_one (ps_ret (pe_tup (pa_cons (pv 1) (pa_cons (pv 2) (pa_cons (pv 3) (pa_cons (pe_lc (own := [("_law_k", 5)]) (g := gName 5) (tt := tYes) (te := tCallS (sp_L_number K a) (WE W0) (tCons (tCallS (sp_L_cell_at K a) (WE W0) (tCons (tVar 0) (tCons (tOp rAddP (tC (.int 8)) (tVar 5)) (tNil)))) (tNil))) rfl sc_L_order.nd (pi_range1 (by rfl) T.n_range (pa_cons (pv 4) (pa_nil))) (blkOk_by (N := ["_law_script", "_law_word", "_law_path_here", "_law_one", "_law_many", "_law_k"]) (sc := defScope s_L_order) (by decide +kernel)) (fun _ _ _ _ _ => pg_name (i := 5) sc_L_order.nd rfl (by first | exact Or.inl rfl | exact Or.inr rfl)) (fun _ _ _ _ _ => pts_nil) (fun _ _ _ _ _ => callE G_L_number takesN hr (by decide) rfl T.g_L_number T.k_L_number T.b_L_number (pa_cons (callE G_L_cell_at takesN hr (by decide) rfl T.g_L_cell_at T.k_L_cell_at T.b_L_cell_at (pa_cons (pv 0) (pa_cons (pe_op op_addP (pe_int) (pv 5)) (pa_nil)))) (pa_nil)))) (pa_nil))))))))) (pss_nil)) (pss_one (ps_ret (pe_tup (pa_cons (pv 1) (pa_cons (pv 2) (pa_nil)))))))))))))))
theorem sc_L_bent : FnScope ["_law_line_here", "_law_cell", "_law_words", "_law_at", "_law_place", "_law_sign_here", "_law_odd"] ["_law_line_here", "_law_cell"] (defScope s_L_bent) := ⟨rfl, rfl, rfl, by decide +kernel, rfl, by decide +kernel, by decide +kernel⟩
theorem ok_L_bent (T : Tx K mg a b) : FnOk P w K mg base (L2N.CX P w) 3 b.f_L_bent b.fd_L_bent ["_law_line_here", "_law_cell"] (sp_L_bent K a) := by
  have G_L_sign := ok_L_sign (P := P) (w := w) (base := base) T
  refine okN (k := 2) (t := t_L_bent K a) T.F_L_bent sc_L_bent (fun cdv A outer s H E hr => ?_)
  exact pss_cons (ps_set (i := 2) sc_L_bent.nd rfl (by first | exact Or.inl rfl | exact Or.inr rfl) (pe_bm PySem.F.plainAttrs_str PySem.F.slot_str_split PySem.F.type_str_split mt_splitP (pv 0) (pa_cons (pe_str) (pa_nil)))) (pss_cons (ps_set (i := 3) sc_L_bent.nd rfl (by first | exact Or.inl rfl | exact Or.inr rfl) (pe_op op_modP (pe_op op_divP (pv 1) (pe_int)) (pe_op op_addP (pe_callB call_lenP (by rfl) T.n_len (by decide +kernel) (pa_cons (pv 0) (pa_nil))) (pe_int)))) (pss_cons (ps_set (i := 4) sc_L_bent.nd rfl (by first | exact Or.inl rfl | exact Or.inr rfl) (pe_op op_modP (pe_op op_divP (pv 1) (pe_int)) (pe_callB call_lenP (by rfl) T.n_len (by decide +kernel) (pa_cons (pv 2) (pa_nil))))) (pss_cons (ps_set (i := 5) sc_L_bent.nd rfl (by first | exact Or.inl rfl | exact Or.inr rfl) (callE G_L_sign (takesM rfl rfl rfl rfl) hr (by decide) rfl T.g_L_sign T.k_L_sign T.b_L_sign (pa_cons (pe_op op_divP (pe_op op_divP (pv 1) (pe_int)) (pe_op op_addP (pe_callB call_lenP (by rfl) T.n_len (by decide +kernel) (pa_cons (pv 0) (pa_nil))) (pe_int))) (pa_nil)))) (pss_cons (ps_if (pt_cmpR (op_eqP hr) (pe_op op_modP (pv 1) (pe_int)) (pe_int) (by first | exact nomark _ | rfl)) (pss_one (ps_ret (pe_op op_addP (pe_op op_addP (pe_slice sl_P (pv 0) (po_none) (po_some (pv 3))) (pv 5)) (pe_slice sl_P (pv 0) (po_some (pv 3)) (po_none))))) (pss_nil)) (pss_cons (ps_if (pt_cmpR (op_eqP hr) (pe_op op_modP (pv 1) (pe_int)) (pe_int) (by first | exact nomark _ | rfl)) (pss_one (ps_ret (pe_op op_addP (pe_slice sl_P (pv 0) (po_none) (po_some (pv 3))) (pe_slice sl_P (pv 0) (po_some (pe_op op_addP (pv 3) (pe_int))) (po_none))))) (pss_nil)) (pss_cons (ps_if (pt_cmpR (op_eqP hr) (pe_op op_modP (pv 1) (pe_int)) (pe_int) (by first | exact nomark _ | rfl)) (pss_one (ps_ret (pe_op op_addP (pe_op op_addP (pe_slice sl_P (pv 0) (po_none) (po_some (pv 3))) (pv 5)) (pe_slice sl_P (pv 0) (po_some (pe_op op_addP (pv 3) (pe_int))) (po_none))))) (pss_nil)) (pss_cons (ps_if (pt_cmpR (op_eqP hr) (pe_op op_modP (pv 1) (pe_int)) (pe_int) (by first | exact nomark _ | rfl)) (pss_one (ps_ret (pe_bm PySem.F.plainAttrs_str PySem.F.slot_str_join PySem.F.type_str_join mt_joinP (pe_str) (pa_cons (pe_op op_addP (pe_slice sl_P (pv 2) (po_none) (po_some (pv 4))) (pe_slice sl_P (pv 2) (po_some (pe_op op_addP (pv 4) (pe_int))) (po_none))) (pa_nil))))) (pss_nil)) (pss_cons (ps_if (pt_cmpR (op_eqP hr) (pe_op op_modP (pv 1) (pe_int)) (pe_int) (by first | exact nomark _ | rfl)) (pss_one (ps_ret (pe_bm PySem.F.plainAttrs_str PySem.F.slot_str_join PySem.F.type_str_join mt_joinP (pe_str) (pa_cons (pe_op op_addP (pe_op op_addP (pe_slice sl_P (pv 2) (po_none) (po_some (pv 4))) (pe_slice sl_P (pv 2) (po_some (pv 4)) (po_some (pe_op op_addP (pv 4) (pe_int))))) (pe_slice sl_P (pv 2) (po_some (pv 4)) (po_none))) (pa_nil))))) (pss_nil)) (pss_cons (ps_if (pt_cmpR (op_eqP hr) (pe_op op_modP (pv 1) (pe_int)) (pe_int) (by first | exact nomark _ | rfl)) (pss_cons (ps_set (i := 4) sc_L_bent.nd rfl (by first | exact Or.inl rfl | exact Or.inr rfl) (pe_callB (call_max2 rfl) (by rfl) T.n_max (by decide +kernel) (pa_cons (pe_int) (pa_cons (pv 4) (pa_nil))))) (pss_one (ps_ret (pe_bm PySem.F.plainAttrs_str PySem.F.slot_str_join PySem.F.type_str_join mt_joinP (pe_str) (pa_cons (pe_op op_addP (pe_op op_addP (pe_slice sl_P (pv 2) (po_none) (po_some (pv 4))) (pe_lst (pa_cons (pe_str) (pa_nil)))) (pe_slice sl_P (pv 2) (po_some (pe_op op_addP (pv 4) (pe_int))) (po_none))) (pa_nil)))))) (pss_nil)) (pss_cons (ps_if (pt_cmpR (op_eqP hr) (pe_op op_modP (pv 1) (pe_int)) (pe_int) (by first | exact nomark _ | rfl)) (pss_one (ps_ret (pe_bm PySem.F.plainAttrs_str PySem.F.slot_str_join PySem.F.type_str_join mt_joinP (pe_str) (pa_cons (pe_op op_addP (pe_slice sl_P (pv 2) (po_none) (po_some (pe_un un_neg (pe_int)))) (pe_lst (pa_cons (pe_op op_addP (pe_str) (pe_ix ix_P (pv 2) (pe_un un_neg (pe_int)) (fun _ _ => rfl))) (pa_nil)))) (pa_nil))))) (pss_nil)) (pss_cons (ps_if (pt_cmpR (op_eqP hr) (pe_op op_modP (pv 1) (pe_int)) (pe_int) (by first | exact nomark _ | rfl)) (pss_one (ps_ret (pe_bm PySem.F.plainAttrs_str PySem.F.slot_str_join PySem.F.type_str_join mt_joinP (pe_str) (pa_cons (pe_op op_addP (pe_slice sl_P (pv 2) (po_none) (po_some (pe_un un_neg (pe_int)))) (pe_lst (pa_cons (pe_slice sl_P (pe_op op_addP (pe_ix ix_P (pv 2) (pe_un un_neg (pe_int)) (fun _ _ => rfl)) (pe_str)) (po_none) (po_some (pe_op op_addP (pe_int) (pe_op op_modP (pe_op op_divP (pv 1) (pe_int)) (pe_int))))) (pa_nil)))) (pa_nil))))) (pss_nil)) (pss_cons (ps_set (i := 6) sc_L_bent.nd rfl (by first | exact Or.inl rfl | exact Or.inr rfl) (pe_lst (pa_cons (pe_str) (pa_cons (pe_str) (pa_cons (pe_str) (pa_cons (pe_str) (pa_cons (pe_str) (pa_cons (pe_str) (pa_cons (pe_str) (pa_cons (pe_str) (pa_cons (pe_str) (pa_cons (pe_str) (pa_nil))))))))))))) (pss_one (ps_ret (pe_ix ix_P (pv 6) (pe_op op_modP (pe_op op_divP (pv 1) (pe_int)) (pe_int)) (fun _ _ => rfl))))))))))))))))
theorem sc_L_due : FnScope ["_law_line_here", "_law_words", "_law_parts_here", "_law_order_here", "_law_part", "_law_word", "_law_found", "_law_one"] ["_law_line_here"] (defScope s_L_due) := ⟨rfl, rfl, rfl, by decide +kernel, rfl, by decide +kernel, by decide +kernel⟩
theorem ok_L_due (T : Tx K mg a b) : FnOk P w K mg base (L2N.CX P w) 3 b.f_L_due b.fd_L_due ["_law_line_here"] (sp_L_due K a) := by
  have G_L_number_of := ok_L_number_of (P := P) (w := w) (base := base) T
  have G_L_parts := ok_L_parts (P := P) (w := w) (base := base) T
  refine okN (k := 2) (t := t_L_due K a) T.F_L_due sc_L_due (fun cdv A outer s H E hr => ?_)
  exact pss_cons (ps_set (i := 1) sc_L_due.nd rfl (by first | exact Or.inl rfl | exact Or.inr rfl) (pe_bm PySem.F.plainAttrs_str PySem.F.slot_str_split PySem.F.type_str_split mt_splitP (pv 0) (pa_cons (pe_str) (pa_nil)))) (pss_cons (ps_set (i := 2) sc_L_due.nd rfl (by first | exact Or.inl rfl | exact Or.inr rfl) (callE G_L_parts (takesM rfl rfl rfl rfl) hr (by decide) rfl T.g_L_parts T.k_L_parts T.b_L_parts (pa_cons (pv 1) (pa_nil)))) (pss_cons (ps_if (PW.pt (pw_or (pt_cmpR op_inP (pe_str) (pv 1) (by first | exact nomark _ | rfl)) (pw_or (pt_cmpR op_isP (pv 2) (pe_non) (by first | exact nomark _ | rfl)) (pw_or1 (pt_cmpR (op_neP hr) (pe_callB call_lenP (by rfl) T.n_len (by decide +kernel) (pa_cons (pv 2) (pa_nil))) (pe_op op_subP (pe_callB call_lenP (by rfl) T.n_len (by decide +kernel) (pa_cons (pv 1) (pa_nil))) (pe_int)) (by first | exact nomark _ | rfl)))))) (pss_one (ps_ret (pe_non))) (pss_nil)) (pss_cons (ps_set (i := 3) sc_L_due.nd rfl (by first | exact Or.inl rfl | exact Or.inr rfl) (pe_lst (pa_cons (pe_ix ix_P (pv 1) (pe_int) (fun _ _ => rfl)) (pa_nil)))) (pss_cons (ps_for (passes_of rfl) rfl (RZ.pi_zipA (by rfl) T.n_zip (pa_cons (pv 2) (pa_cons (pe_slice sl_P (pv 1) (po_some (pe_int)) (po_none)) (pa_nil)))) (pg_tupP rfl (pgs_cons (pg_name (i := 4) sc_L_due.nd rfl (by first | exact Or.inl rfl | exact Or.inr rfl)) (pgs_cons (pg_name (i := 5) sc_L_due.nd rfl (by first | exact Or.inl rfl | exact Or.inr rfl)) (pgs_nil)))) (pss_cons (ps_set (i := 6) sc_L_due.nd rfl (by first | exact Or.inl rfl | exact Or.inr rfl) (pv 5)) (pss_cons (ps_if (pt_cmpR (op_eqP hr) (pv 4) (pe_str) (by first | exact nomark _ | rfl)) (pss_one (ps_set (i := 6) sc_L_due.nd rfl (by first | exact Or.inl rfl | exact Or.inr rfl) (callE G_L_number_of (takesM rfl rfl rfl rfl) hr (by decide) rfl T.g_L_number_of T.k_L_number_of T.b_L_number_of (pa_cons (pv 5) (pa_nil))))) (pss_nil)) (pss_cons (ps_if (pt_cmpR (op_eqP hr) (pv 4) (pe_str) (by first | exact nomark _ | rfl)) (pss_one (ps_setLc (i := 6) rfl sc_L_due.nd rfl rfl (sw_true rfl rfl rfl (by decide +kernel)) (own := [("_law_one", 7)]) (g := gName 7) (tt := tYes) (te := tCallS (sp_L_number_of K a) (WE W0) (tCons (tVar 7) (tNil))) (pi_seqP (pe_bm PySem.F.plainAttrs_str PySem.F.slot_str_split PySem.F.type_str_split mt_splitP (pv 5) (pa_cons (pe_str) (pa_nil)))) (blkOk_by (N := ["_law_line_here", "_law_words", "_law_parts_here", "_law_order_here", "_law_part", "_law_word", "_law_found", "_law_one"]) (sc := defScope s_L_due) (by decide +kernel)) (fun _ _ _ _ _ => pg_name (i := 7) sc_L_due.nd rfl (by first | exact Or.inl rfl | exact Or.inr rfl)) (fun _ _ _ _ _ => pts_nil) (fun _ _ _ _ _ => callE G_L_number_of takesN hr (by decide) rfl T.g_L_number_of T.k_L_number_of T.b_L_number_of (pa_cons (pv 7) (pa_nil))))) (pss_nil)) (pss_cons (ps_if (PW.pt (pw_or (pt_cmpR op_isP (pv 6) (pe_non) (by first | exact nomark _ | rfl)) (pw_or1 (PW.pt (pw_and (pt_cmpR (op_eqP hr) (pv 4) (pe_str) (by first | exact nomark _ | rfl)) (pw_and1 (pt_cmpR op_inP (pe_non) (pv 6) (by first | exact nomark _ | rfl)))))))) (pss_one (ps_ret (pe_non))) (pss_nil)) (pss_one (ps_expr (pe_bm PySem.F.plainAttrs_list PySem.F.slot_list_append PySem.F.type_list_append mt_append (pv 3) (pa_cons (pv 6) (pa_nil)))))))))) (pss_one (ps_ret (pe_callTy call_tupleP (by rfl) T.n_tuple (by decide +kernel) (pa_cons (pv 3) (pa_nil)))))))))
theorem sc_numbers_of : FnScope ["word", "part"] ["word"] (defScope s_numbers_of) := ⟨rfl, rfl, rfl, by decide +kernel, rfl, by decide +kernel, by decide +kernel⟩
theorem ok_numbers_of (T : Tx K mg a b) : FnOk P w K mg base (L2N.CX P w) 4 b.f_numbers_of b.fd_numbers_of ["word"] (sp_numbers_of K a) := by
  have G_number_of := ok_number_of (P := P) (w := w) (base := base) T
  refine okN (k := 3) (t := t_numbers_of K a) T.F_numbers_of sc_numbers_of (fun cdv A outer s H E hr => ?_)
  exact pss_one (ps_ret (pe_lcX (own := [("part", 1)]) (g := gName 1) (tt := tYes) (te := fun F_ => tCallS (sp_number_of K a) F_ (tCons (tVar 1) (tNil))) (takesM rfl rfl rfl rfl) rfl sc_numbers_of.nd (pi_seqP (pe_bm PySem.F.plainAttrs_str PySem.F.slot_str_split PySem.F.type_str_split mt_splitP (pv 0) (pa_cons (pe_str) (pa_nil)))) (blkOk_by (N := ["word", "part"]) (sc := defScope s_numbers_of) (by decide +kernel)) (fun _ _ _ _ _ => pg_name (i := 1) sc_numbers_of.nd rfl (by first | exact Or.inl rfl | exact Or.inr rfl)) (fun _ _ _ _ _ => pts_nil) (fun _ _ _ _ _ _ _ hx => pe_callS G_number_of (hr.mono (by decide)) rfl T.g_number_of T.k_number_of T.b_number_of (fun σ => hx σ) (pa_cons (pv 1) (pa_nil)))))
theorem sc_with_numbers : FnScope ["words"] ["words"] (defScope s_with_numbers) := ⟨rfl, rfl, rfl, by decide +kernel, rfl, by decide +kernel, by decide +kernel⟩
theorem ok_with_numbers (T : Tx K mg a b) : FnOk P w K mg base (L2N.CX P w) 5 b.f_with_numbers b.fd_with_numbers ["words"] (sp_with_numbers K a) := by
  have G_need_order := ok_need_order (P := P) (w := w) (base := base) T
  have G_number_of := ok_number_of (P := P) (w := w) (base := base) T
  have G_numbers_of := ok_numbers_of (P := P) (w := w) (base := base) T
  refine okN (k := 4) (t := t_with_numbers K a) T.F_with_numbers sc_with_numbers (fun cdv A outer s H E hr => ?_)
  exact pss_cons (ps_if (pt_cmpR (op_eqP hr) (pe_ix ix_P (pv 0) (pe_int) (fun _ _ => rfl)) (pe_str) (by first | exact nomark _ | rfl)) (pss_cons (ps_expr (callE G_need_order (takesM rfl rfl rfl rfl) hr (by decide) rfl T.g_need_order T.k_need_order T.b_need_order (pa_cons (pe_cmpR (op_eqP hr) (pe_callB call_lenP (by rfl) T.n_len (by decide +kernel) (pa_cons (pv 0) (pa_nil))) (pe_int) (by first | exact nomark _ | rfl)) (pa_nil)))) (pss_one (ps_ret (pe_tup (pa_cons (pe_str) (pa_cons (callE G_number_of (takesM rfl rfl rfl rfl) hr (by decide) rfl T.g_number_of T.k_number_of T.b_number_of (pa_cons (pe_ix ix_P (pv 0) (pe_int) (fun _ _ => rfl)) (pa_nil))) (pa_nil))))))) (pss_nil)) (pss_cons (ps_if (pt_cmpR (op_eqP hr) (pe_ix ix_P (pv 0) (pe_int) (fun _ _ => rfl)) (pe_str) (by first | exact nomark _ | rfl)) (pss_cons (ps_expr (callE G_need_order (takesM rfl rfl rfl rfl) hr (by decide) rfl T.g_need_order T.k_need_order T.b_need_order (pa_cons (pe_cmpR (op_eqP hr) (pe_callB call_lenP (by rfl) T.n_len (by decide +kernel) (pa_cons (pv 0) (pa_nil))) (pe_int) (by first | exact nomark _ | rfl)) (pa_nil)))) (pss_one (ps_ret (pe_tup (pa_cons (pe_str) (pa_cons (pe_ix ix_P (pv 0) (pe_int) (fun _ _ => rfl)) (pa_cons (callE G_number_of (takesM rfl rfl rfl rfl) hr (by decide) rfl T.g_number_of T.k_number_of T.b_number_of (pa_cons (pe_ix ix_P (pv 0) (pe_int) (fun _ _ => rfl)) (pa_nil))) (pa_nil)))))))) (pss_nil)) (pss_cons (ps_expr (callE G_need_order (takesM rfl rfl rfl rfl) hr (by decide) rfl T.g_need_order T.k_need_order T.b_need_order (pa_cons (pe_cmpR (op_eqP hr) (pe_callB call_lenP (by rfl) T.n_len (by decide +kernel) (pa_cons (pv 0) (pa_nil))) (pe_int) (by first | exact nomark _ | rfl)) (pa_nil)))) (pss_cons (ps_if (pt_cmpR (op_eqP hr) (pe_ix ix_P (pv 0) (pe_int) (fun _ _ => rfl)) (pe_str) (by first | exact nomark _ | rfl)) (pss_one (ps_ret (pe_tup (pa_cons (pe_str) (pa_cons (pe_ix ix_P (pv 0) (pe_int) (fun _ _ => rfl)) (pa_cons (callE G_number_of (takesM rfl rfl rfl rfl) hr (by decide) rfl T.g_number_of T.k_number_of T.b_number_of (pa_cons (pe_ix ix_P (pv 0) (pe_int) (fun _ _ => rfl)) (pa_nil))) (pa_cons (callE G_numbers_of (takesM rfl rfl rfl rfl) hr (by decide) rfl T.g_numbers_of T.k_numbers_of T.b_numbers_of (pa_cons (pe_ix ix_P (pv 0) (pe_int) (fun _ _ => rfl)) (pa_nil))) (pa_nil)))))))) (pss_nil)) (pss_one (ps_ret (pe_tup (pa_cons (pe_str) (pa_cons (pe_ix ix_P (pv 0) (pe_int) (fun _ _ => rfl)) (pa_cons (callE G_number_of (takesM rfl rfl rfl rfl) hr (by decide) rfl T.g_number_of T.k_number_of T.b_number_of (pa_cons (pe_ix ix_P (pv 0) (pe_int) (fun _ _ => rfl)) (pa_nil))) (pa_cons (callE G_number_of (takesM rfl rfl rfl rfl) hr (by decide) rfl T.g_number_of T.k_number_of T.b_number_of (pa_cons (pe_ix ix_P (pv 0) (pe_int) (fun _ _ => rfl)) (pa_nil))) (pa_nil)))))))))))
theorem sc_order_of : FnScope ["line", "words"] ["line"] (defScope s_order_of) := ⟨rfl, rfl, rfl, by decide +kernel, rfl, by decide +kernel, by decide +kernel⟩
theorem ok_order_of (T : Tx K mg a b) : FnOk P w K mg base (L2N.CX P w) 6 b.f_order_of b.fd_order_of ["line"] (sp_order_of K a) := by
  have G_need_order := ok_need_order (P := P) (w := w) (base := base) T
  have G_with_numbers := ok_with_numbers (P := P) (w := w) (base := base) T
  refine okN (k := 5) (t := t_order_of K a) T.F_order_of sc_order_of (fun cdv A outer s H E hr => ?_)
  exact pss_cons (ps_expr (callE G_need_order (takesM rfl rfl rfl rfl) hr (by decide) rfl T.g_need_order T.k_need_order T.b_need_order (pa_cons (pe_callB call_isi (by rfl) T.n_isinstance (by decide +kernel) (pa_cons (pv 0) (pa_cons (pe_bltn (by rfl) T.n_str (by decide +kernel) rfl) (pa_nil)))) (pa_nil)))) (pss_cons (ps_set (i := 1) sc_order_of.nd rfl (by first | exact Or.inl rfl | exact Or.inr rfl) (pe_bm PySem.F.plainAttrs_str PySem.F.slot_str_split PySem.F.type_str_split mt_splitP (pv 0) (pa_cons (pe_str) (pa_nil)))) (pss_cons (ps_expr (callE G_need_order (takesM rfl rfl rfl rfl) hr (by decide) rfl T.g_need_order T.k_need_order T.b_need_order (pa_cons (pe_cmpR op_notInP (pe_str) (pv 1) (by first | exact nomark _ | rfl)) (pa_nil)))) (pss_cons (ps_if (pt_cmpR op_inP (pe_ix ix_P (pv 1) (pe_int) (fun _ _ => rfl)) (pe_tup (pa_cons (pe_str) (pa_cons (pe_str) (pa_nil)))) (by first | exact nomark _ | rfl)) (pss_cons (ps_expr (callE G_need_order (takesM rfl rfl rfl rfl) hr (by decide) rfl T.g_need_order T.k_need_order T.b_need_order (pa_cons (pe_cmpR (op_eqP hr) (pe_callB call_lenP (by rfl) T.n_len (by decide +kernel) (pa_cons (pv 1) (pa_nil))) (pe_int) (by first | exact nomark _ | rfl)) (pa_nil)))) (pss_one (ps_ret (pe_tup (pa_cons (pe_ix ix_P (pv 1) (pe_int) (fun _ _ => rfl)) (pa_nil)))))) (pss_nil)) (pss_cons (ps_if (pt_cmpR op_inP (pe_ix ix_P (pv 1) (pe_int) (fun _ _ => rfl)) (pe_tup (pa_cons (pe_str) (pa_cons (pe_str) (pa_cons (pe_str) (pa_cons (pe_str) (pa_cons (pe_str) (pa_cons (pe_str) (pa_cons (pe_str) (pa_nil))))))))) (by first | exact nomark _ | rfl)) (pss_cons (ps_expr (callE G_need_order (takesM rfl rfl rfl rfl) hr (by decide) rfl T.g_need_order T.k_need_order T.b_need_order (pa_cons (pe_cmpR (op_eqP hr) (pe_callB call_lenP (by rfl) T.n_len (by decide +kernel) (pa_cons (pv 1) (pa_nil))) (pe_int) (by first | exact nomark _ | rfl)) (pa_nil)))) (pss_one (ps_ret (pe_tup (pa_cons (pe_ix ix_P (pv 1) (pe_int) (fun _ _ => rfl)) (pa_cons (pe_ix ix_P (pv 1) (pe_int) (fun _ _ => rfl)) (pa_nil))))))) (pss_nil)) (pss_cons (ps_if (pt_cmpR op_inP (pe_ix ix_P (pv 1) (pe_int) (fun _ _ => rfl)) (pe_tup (pa_cons (pe_str) (pa_cons (pe_str) (pa_nil)))) (by first | exact nomark _ | rfl)) (pss_cons (ps_expr (callE G_need_order (takesM rfl rfl rfl rfl) hr (by decide) rfl T.g_need_order T.k_need_order T.b_need_order (pa_cons (pe_cmpR (op_eqP hr) (pe_callB call_lenP (by rfl) T.n_len (by decide +kernel) (pa_cons (pv 1) (pa_nil))) (pe_int) (by first | exact nomark _ | rfl)) (pa_nil)))) (pss_one (ps_ret (pe_tup (pa_cons (pe_ix ix_P (pv 1) (pe_int) (fun _ _ => rfl)) (pa_cons (pe_ix ix_P (pv 1) (pe_int) (fun _ _ => rfl)) (pa_cons (pe_ix ix_P (pv 1) (pe_int) (fun _ _ => rfl)) (pa_nil)))))))) (pss_nil)) (pss_cons (ps_expr (callE G_need_order (takesM rfl rfl rfl rfl) hr (by decide) rfl T.g_need_order T.k_need_order T.b_need_order (pa_cons (pe_cmpR op_inP (pe_ix ix_P (pv 1) (pe_int) (fun _ _ => rfl)) (pe_tup (pa_cons (pe_str) (pa_cons (pe_str) (pa_cons (pe_str) (pa_cons (pe_str) (pa_nil)))))) (by first | exact nomark _ | rfl)) (pa_nil)))) (pss_one (ps_ret (callE G_with_numbers (takesM rfl rfl rfl rfl) hr (by decide) rfl T.g_with_numbers T.k_with_numbers T.b_with_numbers (pa_cons (pv 1) (pa_nil)))))))))))
theorem sc_L_read : FnScope ["_law_line_here", "error"] ["_law_line_here"] (defScope s_L_read) := ⟨rfl, rfl, rfl, by decide +kernel, rfl, by decide +kernel, by decide +kernel⟩
theorem ok_L_read (T : Tx K mg a b) : FnOk P w K mg base (L2N.CX P w) 7 b.f_L_read b.fd_L_read ["_law_line_here"] (sp_L_read K a) := by
  have G_order_of := ok_order_of (P := P) (w := w) (base := base) T
  refine okN (k := 6) (t := t_L_read K a) T.F_L_read sc_L_read (fun cdv A outer s H E hr => ?_)
  exact pss_one (tryAs (i := 1) sc_L_read.nd rfl rfl ⟨rfl, by decide, .inl T.g_KeepError⟩ (takesM rfl rfl rfl rfl) (fun W pn xe tk po => pss_one (ps_ret (callE G_order_of tk hr (by decide) rfl T.g_order_of T.k_order_of T.b_order_of (pa_cons (pv 0) (pa_nil))))) (fun e D oe pn hp => pss_cons (ps_if (pt_val (pe_callB (call_isX hp) (by rfl) T.n_isinstance (by decide +kernel) (pa_cons (pv 1) (pa_cons (pe_tup (pa_cons (pe_gl rfl ⟨_, T.g_BadRow, rfl⟩) (pa_cons (pe_gl rfl ⟨_, T.g_NoBlock, rfl⟩) (pa_cons (pe_gl rfl ⟨_, T.g_Stopped, rfl⟩) (pa_cons (pe_gl rfl ⟨_, T.g_BadDisk, rfl⟩) (pa_cons (pe_gl rfl ⟨_, T.g_NoRoom, rfl⟩) (pa_cons (pe_gl rfl ⟨_, T.g_TooMuch, rfl⟩) (pa_cons (pe_gl rfl ⟨_, T.g_BadLog, rfl⟩) (pa_cons (pe_gl rfl ⟨_, T.g_NoNode, rfl⟩) (pa_cons (pe_gl rfl ⟨_, T.g_NoNodes, rfl⟩) (pa_cons (pe_gl rfl ⟨_, T.g_TooLong, rfl⟩) (pa_nil)))))))))))) (pa_nil))))) (pss_one (ps_ret (pe_int))) (pss_nil)) (pss_cons (ps_if (pt_val (pe_callB (call_isX hp) (by rfl) T.n_isinstance (by decide +kernel) (pa_cons (pv 1) (pa_cons (pe_tup (pa_cons (pe_gl rfl ⟨_, T.g_OutOfPlace, rfl⟩) (pa_cons (pe_gl rfl ⟨_, T.g_BadName, rfl⟩) (pa_cons (pe_gl rfl ⟨_, T.g_BadPath, rfl⟩) (pa_cons (pe_gl rfl ⟨_, T.g_NotFolder, rfl⟩) (pa_cons (pe_gl rfl ⟨_, T.g_NotFile, rfl⟩) (pa_cons (pe_gl rfl ⟨_, T.g_NoName, rfl⟩) (pa_cons (pe_gl rfl ⟨_, T.g_NameThere, rfl⟩) (pa_cons (pe_gl rfl ⟨_, T.g_NotEmpty, rfl⟩) (pa_cons (pe_gl rfl ⟨_, T.g_Within, rfl⟩) (pa_nil))))))))))) (pa_nil))))) (pss_one (ps_ret (pe_int))) (pss_nil)) (pss_one (ps_ret (pe_ix ix_P (pe_lst (pa_cons (pe_int) (pa_cons (pe_non) (pa_nil)))) (pe_callTy call_intP (by rfl) T.n_int (by decide +kernel) (pa_cons (pe_and (pe_callB (call_isX hp) (by rfl) T.n_isinstance (by decide +kernel) (pa_cons (pv 1) (pa_cons (pe_gl rfl ⟨_, T.g_BadOrder, rfl⟩) (pa_nil)))) (pe_one (pe_callB (call_isX hp) (by rfl) T.n_isinstance (by decide +kernel) (pa_cons (pv 1) (pa_cons (pe_bltn (by rfl) T.n_ValueError (by decide +kernel) rfl) (pa_nil)))))) (pa_nil))) (fun _ _ => rfl)))))))
theorem sc_law : FnScope ["_law_script", "_law_order_here", "_law_line_here", "_law_handed", "_law_found", "_law_odd", "_law_due_here", "_law_part"] ["_law_script"] (defScope s_law) := ⟨rfl, rfl, rfl, by decide +kernel, rfl, by decide +kernel, by decide +kernel⟩
theorem ok_law (T : Tx K mg a b) : FnOk P w K mg base (L2N.CX P w) 8 b.f_law b.fd_law ["_law_script"] (sp_law K a) := by
  have G_L_alike := ok_L_alike (P := P) (w := w) (base := base) T
  have G_L_bent := ok_L_bent (P := P) (w := w) (base := base) T
  have G_L_cell_at := ok_L_cell_at (P := P) (w := w) (base := base) T
  have G_L_due := ok_L_due (P := P) (w := w) (base := base) T
  have G_L_line := ok_L_line (P := P) (w := w) (base := base) T
  have G_L_order := ok_L_order (P := P) (w := w) (base := base) T
  have G_L_read := ok_L_read (P := P) (w := w) (base := base) T
  have G_line_of := ok_line_of (P := P) (w := w) (base := base) T
  refine okN (k := 7) (t := t_law K a) T.F_law sc_law (fun cdv A outer s H E hr => ?_)
  exact pss_cons (ps_set (i := 1) sc_law.nd rfl (by first | exact Or.inl rfl | exact Or.inr rfl) (callE G_L_order (takesM rfl rfl rfl rfl) hr (by decide) rfl T.g_L_order T.k_L_order T.b_L_order (pa_cons (pv 0) (pa_nil)))) (pss_cons (ps_set (i := 2) sc_law.nd rfl (by first | exact Or.inl rfl | exact Or.inr rfl) (callE G_L_line (takesM rfl rfl rfl rfl) hr (by decide) rfl T.g_L_line T.k_L_line T.b_L_line (pa_cons (pv 1) (pa_nil)))) (pss_cons (ps_set (i := 3) sc_law.nd rfl (by first | exact Or.inl rfl | exact Or.inr rfl) (pe_callTy call_tupleP (by rfl) T.n_tuple (by decide +kernel) (pa_cons (pe_lc (own := [("_law_part", 7)]) (g := gName 7) (tt := tYes) (te := tIf (tB (tCB ((rIsi K)) (tCons (tVar 7) (tCons (tC (.ty "list")) (tNil))))) (tCB ((rListP K)) (tCons (tVar 7) (tNil))) (tVar 7)) rfl sc_law.nd (pi_seqP (pv 1)) (blkOk_by (N := ["_law_script", "_law_order_here", "_law_line_here", "_law_handed", "_law_found", "_law_odd", "_law_due_here", "_law_part"]) (sc := defScope s_law) (by decide +kernel)) (fun _ _ _ _ _ => pg_name (i := 7) sc_law.nd rfl (by first | exact Or.inl rfl | exact Or.inr rfl)) (fun _ _ _ _ _ => pts_nil) (fun _ _ _ _ _ => pe_ifExp (pt_val (pe_callB call_isi (by rfl) T.n_isinstance (by decide +kernel) (pa_cons (pv 7) (pa_cons (pe_bltn (by rfl) T.n_list (by decide +kernel) rfl) (pa_nil))))) (pe_callTy call_listP (by rfl) T.n_list (by decide +kernel) (pa_cons (pv 7) (pa_nil))) (pv 7))) (pa_nil)))) (pss_cons (ps_set (i := 4) sc_law.nd rfl (by first | exact Or.inl rfl | exact Or.inr rfl) (callE G_line_of (takesM rfl rfl rfl rfl) hr (by decide) rfl T.g_line_of T.k_line_of T.b_line_of (pa_cons (pv 3) (pa_nil)))) (pss_cons (ps_if (PW.pt (pw_or (pt_not (pt_val (pe_callB call_isi (by rfl) T.n_isinstance (by decide +kernel) (pa_cons (pv 4) (pa_cons (pe_bltn (by rfl) T.n_str (by decide +kernel) rfl) (pa_nil)))))) (pw_or (pt_cmpR (op_neP hr) (pv 4) (pv 2) (by first | exact nomark _ | rfl)) (pw_or1 (pt_cmpR (op_neP hr) (pv 3) (pv 1) (by first | exact nomark _ | rfl)))))) (pss_one (ps_ret (pe_bl))) (pss_nil)) (pss_cons (ps_if (pt_not (pt_val (callE G_L_alike (takesM rfl rfl rfl rfl) hr (by decide) rfl T.g_L_alike T.k_L_alike T.b_L_alike (pa_cons (callE G_L_read (takesM rfl rfl rfl rfl) hr (by decide) rfl T.g_L_read T.k_L_read T.b_L_read (pa_cons (pv 2) (pa_nil))) (pa_cons (pv 1) (pa_nil)))))) (pss_one (ps_ret (pe_bl))) (pss_nil)) (pss_cons (ps_set (i := 5) sc_law.nd rfl (by first | exact Or.inl rfl | exact Or.inr rfl) (pe_ix ix_P (pe_lst (pa_cons (pe_non) (pa_cons (pe_int) (pa_cons (pe_bl) (pa_cons (pe_lst (pa_cons (pe_str) (pa_nil))) (pa_cons (pe_tup (pa_cons (pe_str) (pa_nil))) (pa_cons (pe_dnewK) (pa_nil)))))))) (pe_op op_modP (callE G_L_cell_at (takesM rfl rfl rfl rfl) hr (by decide) rfl T.g_L_cell_at T.k_L_cell_at T.b_L_cell_at (pa_cons (pv 0) (pa_cons (pe_int) (pa_nil)))) (pe_int)) (fun _ _ => rfl))) (pss_cons (ps_if (pt_cmpR op_isNotP (callE G_L_read (takesM rfl rfl rfl rfl) hr (by decide) rfl T.g_L_read T.k_L_read T.b_L_read (pa_cons (pv 5) (pa_nil))) (pe_non) (by first | exact nomark _ | rfl)) (pss_one (ps_ret (pe_bl))) (pss_nil)) (pss_cons (ps_if (pt_cmpR op_gtP (pe_op op_modP (callE G_L_cell_at (takesM rfl rfl rfl rfl) hr (by decide) rfl T.g_L_cell_at T.k_L_cell_at T.b_L_cell_at (pa_cons (pv 0) (pa_cons (pe_int) (pa_nil)))) (pe_int)) (pe_int) (by first | exact nomark _ | rfl)) (pss_one (ps_set (i := 2) sc_law.nd rfl (by first | exact Or.inl rfl | exact Or.inr rfl) (callE G_L_bent (takesM rfl rfl rfl rfl) hr (by decide) rfl T.g_L_bent T.k_L_bent T.b_L_bent (pa_cons (pv 2) (pa_cons (pe_op op_divP (callE G_L_cell_at (takesM rfl rfl rfl rfl) hr (by decide) rfl T.g_L_cell_at T.k_L_cell_at T.b_L_cell_at (pa_cons (pv 0) (pa_cons (pe_int) (pa_nil)))) (pe_int)) (pa_nil)))))) (pss_nil)) (pss_cons (ps_set (i := 6) sc_law.nd rfl (by first | exact Or.inl rfl | exact Or.inr rfl) (callE G_L_due (takesM rfl rfl rfl rfl) hr (by decide) rfl T.g_L_due T.k_L_due T.b_L_due (pa_cons (pv 2) (pa_nil)))) (pss_cons (ps_set (i := 4) sc_law.nd rfl (by first | exact Or.inl rfl | exact Or.inr rfl) (callE G_L_read (takesM rfl rfl rfl rfl) hr (by decide) rfl T.g_L_read T.k_L_read T.b_L_read (pa_cons (pv 2) (pa_nil)))) (pss_cons (ps_if (pt_cmpR op_isP (pv 6) (pe_non) (by first | exact nomark _ | rfl)) (pss_one (ps_ret (pe_cmpR op_isP (pv 4) (pe_non) (by first | exact nomark _ | rfl)))) (pss_nil)) (pss_one (ps_ret (callE G_L_alike (takesM rfl rfl rfl rfl) hr (by decide) rfl T.g_L_alike T.k_L_alike T.b_L_alike (pa_cons (pv 4) (pa_cons (pv 6) (pa_nil)))))))))))))))))
end
theorem all_mk {l : PySem.W.OpenLaw} {w : World} {K : PySem.W.Frag} {h : Heap} {mg : Str → Option Value} {fa : Addr} (X : K.In h) (G : h.Ns mainGlobals mg) (hfa : mg "law" = some (.ref fa))
    {u_FIGURES : Tok}
    {u_MOST_FIGURES : Tok}
    {C_KeepError : Addr}
    {C_BadRow : Addr}
    {C_NoBlock : Addr}
    {C_Stopped : Addr}
    {C_BadDisk : Addr}
    {C_NoRoom : Addr}
    {C_TooMuch : Addr}
    {C_BadLog : Addr}
    {C_NoNode : Addr}
    {C_NoNodes : Addr}
    {C_TooLong : Addr}
    {C_OutOfPlace : Addr}
    {C_BadName : Addr}
    {C_BadPath : Addr}
    {C_NotFolder : Addr}
    {C_NotFile : Addr}
    {C_NoName : Addr}
    {C_NameThere : Addr}
    {C_NotEmpty : Addr}
    {C_Within : Addr}
    {C_BadOrder : Addr}
    {f_need_order : Addr} {od_need_order an_need_order : Option Addr} {sl_need_order : Array (Option Value)} {oc_need_order kV_need_order dc_need_order pm_need_order cd_need_order ct_need_order : Value}
    {f_number_of : Addr} {od_number_of an_number_of : Option Addr} {sl_number_of : Array (Option Value)} {oc_number_of kV_number_of dc_number_of pm_number_of cd_number_of ct_number_of : Value}
    {f_numbers_of : Addr} {od_numbers_of an_numbers_of : Option Addr} {sl_numbers_of : Array (Option Value)} {oc_numbers_of kV_numbers_of dc_numbers_of pm_numbers_of cd_numbers_of ct_numbers_of : Value}
    {f_with_numbers : Addr} {od_with_numbers an_with_numbers : Option Addr} {sl_with_numbers : Array (Option Value)} {oc_with_numbers kV_with_numbers dc_with_numbers pm_with_numbers cd_with_numbers ct_with_numbers : Value}
    {f_order_of : Addr} {od_order_of an_order_of : Option Addr} {sl_order_of : Array (Option Value)} {oc_order_of kV_order_of dc_order_of pm_order_of cd_order_of ct_order_of : Value}
    {f_word_for : Addr} {od_word_for an_word_for : Option Addr} {sl_word_for : Array (Option Value)} {oc_word_for kV_word_for dc_word_for pm_word_for cd_word_for ct_word_for : Value}
    {f_line_of : Addr} {od_line_of an_line_of : Option Addr} {sl_line_of : Array (Option Value)} {oc_line_of kV_line_of dc_line_of pm_line_of cd_line_of ct_line_of : Value}
    {f_L_cell_at : Addr} {od_L_cell_at an_L_cell_at : Option Addr} {sl_L_cell_at : Array (Option Value)} {oc_L_cell_at kV_L_cell_at dc_L_cell_at pm_L_cell_at cd_L_cell_at ct_L_cell_at : Value}
    {f_L_sign : Addr} {od_L_sign an_L_sign : Option Addr} {sl_L_sign : Array (Option Value)} {oc_L_sign kV_L_sign dc_L_sign pm_L_sign cd_L_sign ct_L_sign : Value}
    {f_L_path : Addr} {od_L_path an_L_path : Option Addr} {sl_L_path : Array (Option Value)} {oc_L_path kV_L_path dc_L_path pm_L_path cd_L_path ct_L_path : Value}
    {f_L_number : Addr} {od_L_number an_L_number : Option Addr} {sl_L_number : Array (Option Value)} {oc_L_number kV_L_number dc_L_number pm_L_number cd_L_number ct_L_number : Value}
    {f_L_order : Addr} {od_L_order an_L_order : Option Addr} {sl_L_order : Array (Option Value)} {oc_L_order kV_L_order dc_L_order pm_L_order cd_L_order ct_L_order : Value}
    {f_L_line : Addr} {od_L_line an_L_line : Option Addr} {sl_L_line : Array (Option Value)} {oc_L_line kV_L_line dc_L_line pm_L_line cd_L_line ct_L_line : Value}
    {f_L_bent : Addr} {od_L_bent an_L_bent : Option Addr} {sl_L_bent : Array (Option Value)} {oc_L_bent kV_L_bent dc_L_bent pm_L_bent cd_L_bent ct_L_bent : Value}
    {f_L_number_of : Addr} {od_L_number_of an_L_number_of : Option Addr} {sl_L_number_of : Array (Option Value)} {oc_L_number_of kV_L_number_of dc_L_number_of pm_L_number_of cd_L_number_of ct_L_number_of : Value}
    {f_L_parts : Addr} {od_L_parts an_L_parts : Option Addr} {sl_L_parts : Array (Option Value)} {oc_L_parts kV_L_parts dc_L_parts pm_L_parts cd_L_parts ct_L_parts : Value}
    {f_L_due : Addr} {od_L_due an_L_due : Option Addr} {sl_L_due : Array (Option Value)} {oc_L_due kV_L_due dc_L_due pm_L_due cd_L_due ct_L_due : Value}
    {f_L_alike : Addr} {od_L_alike an_L_alike : Option Addr} {sl_L_alike : Array (Option Value)} {oc_L_alike kV_L_alike dc_L_alike pm_L_alike cd_L_alike ct_L_alike : Value}
    {f_L_read : Addr} {od_L_read an_L_read : Option Addr} {sl_L_read : Array (Option Value)} {oc_L_read kV_L_read dc_L_read pm_L_read cd_L_read ct_L_read : Value}
    {f_law : Addr} {od_law an_law : Option Addr} {sl_law : Array (Option Value)} {oc_law kV_law dc_law pm_law cd_law ct_law : Value}
    (a_FIGURES : PySem.W.nsIn K mainGlobals "FIGURES" = some (some (.str "0123456789" u_FIGURES)))
    (a_MOST_FIGURES : PySem.W.nsIn K mainGlobals "MOST_FIGURES" = some (some (.int 9 u_MOST_FIGURES)))
    (z_ValueError : PySem.W.nsIn K mainGlobals "ValueError" = some none)
    (z_bool : PySem.W.nsIn K mainGlobals "bool" = some none)
    (z_int : PySem.W.nsIn K mainGlobals "int" = some none)
    (z_isinstance : PySem.W.nsIn K mainGlobals "isinstance" = some none)
    (z_len : PySem.W.nsIn K mainGlobals "len" = some none)
    (z_list : PySem.W.nsIn K mainGlobals "list" = some none)
    (z_max : PySem.W.nsIn K mainGlobals "max" = some none)
    (z_range : PySem.W.nsIn K mainGlobals "range" = some none)
    (z_str : PySem.W.nsIn K mainGlobals "str" = some none)
    (z_tuple : PySem.W.nsIn K mainGlobals "tuple" = some none)
    (z_zip : PySem.W.nsIn K mainGlobals "zip" = some none)
    (a_KeepError : PySem.W.nsIn K mainGlobals "KeepError" = some (some (.ref C_KeepError)))
    (a_BadRow : PySem.W.nsIn K mainGlobals "BadRow" = some (some (.ref C_BadRow)))
    (a_NoBlock : PySem.W.nsIn K mainGlobals "NoBlock" = some (some (.ref C_NoBlock)))
    (a_Stopped : PySem.W.nsIn K mainGlobals "Stopped" = some (some (.ref C_Stopped)))
    (a_BadDisk : PySem.W.nsIn K mainGlobals "BadDisk" = some (some (.ref C_BadDisk)))
    (a_NoRoom : PySem.W.nsIn K mainGlobals "NoRoom" = some (some (.ref C_NoRoom)))
    (a_TooMuch : PySem.W.nsIn K mainGlobals "TooMuch" = some (some (.ref C_TooMuch)))
    (a_BadLog : PySem.W.nsIn K mainGlobals "BadLog" = some (some (.ref C_BadLog)))
    (a_NoNode : PySem.W.nsIn K mainGlobals "NoNode" = some (some (.ref C_NoNode)))
    (a_NoNodes : PySem.W.nsIn K mainGlobals "NoNodes" = some (some (.ref C_NoNodes)))
    (a_TooLong : PySem.W.nsIn K mainGlobals "TooLong" = some (some (.ref C_TooLong)))
    (a_OutOfPlace : PySem.W.nsIn K mainGlobals "OutOfPlace" = some (some (.ref C_OutOfPlace)))
    (a_BadName : PySem.W.nsIn K mainGlobals "BadName" = some (some (.ref C_BadName)))
    (a_BadPath : PySem.W.nsIn K mainGlobals "BadPath" = some (some (.ref C_BadPath)))
    (a_NotFolder : PySem.W.nsIn K mainGlobals "NotFolder" = some (some (.ref C_NotFolder)))
    (a_NotFile : PySem.W.nsIn K mainGlobals "NotFile" = some (some (.ref C_NotFile)))
    (a_NoName : PySem.W.nsIn K mainGlobals "NoName" = some (some (.ref C_NoName)))
    (a_NameThere : PySem.W.nsIn K mainGlobals "NameThere" = some (some (.ref C_NameThere)))
    (a_NotEmpty : PySem.W.nsIn K mainGlobals "NotEmpty" = some (some (.ref C_NotEmpty)))
    (a_Within : PySem.W.nsIn K mainGlobals "Within" = some (some (.ref C_Within)))
    (a_BadOrder : PySem.W.nsIn K mainGlobals "BadOrder" = some (some (.ref C_BadOrder)))
    (a_need_order : PySem.W.nsIn K mainGlobals "need_order" = some (some (.ref f_need_order)))
    (l_need_order : K.lookup f_need_order = some ⟨oc_need_order, od_need_order, .func (PySem.W.fnOf "need_order" "need_order" (defArgs s_need_order) (defBody s_need_order) (defScope s_need_order) .none kV_need_order dc_need_order pm_need_order an_need_order cd_need_order ct_need_order), sl_need_order⟩)
    (c_need_order : PySem.W.codeIn K cd_need_order "need_order" = true)
    (k_need_order : PySem.W.keepIn K (.ref f_need_order) = true)
    (a_number_of : PySem.W.nsIn K mainGlobals "number_of" = some (some (.ref f_number_of)))
    (l_number_of : K.lookup f_number_of = some ⟨oc_number_of, od_number_of, .func (PySem.W.fnOf "number_of" "number_of" (defArgs s_number_of) (defBody s_number_of) (defScope s_number_of) .none kV_number_of dc_number_of pm_number_of an_number_of cd_number_of ct_number_of), sl_number_of⟩)
    (c_number_of : PySem.W.codeIn K cd_number_of "number_of" = true)
    (k_number_of : PySem.W.keepIn K (.ref f_number_of) = true)
    (a_numbers_of : PySem.W.nsIn K mainGlobals "numbers_of" = some (some (.ref f_numbers_of)))
    (l_numbers_of : K.lookup f_numbers_of = some ⟨oc_numbers_of, od_numbers_of, .func (PySem.W.fnOf "numbers_of" "numbers_of" (defArgs s_numbers_of) (defBody s_numbers_of) (defScope s_numbers_of) .none kV_numbers_of dc_numbers_of pm_numbers_of an_numbers_of cd_numbers_of ct_numbers_of), sl_numbers_of⟩)
    (c_numbers_of : PySem.W.codeIn K cd_numbers_of "numbers_of" = true)
    (k_numbers_of : PySem.W.keepIn K (.ref f_numbers_of) = true)
    (a_with_numbers : PySem.W.nsIn K mainGlobals "with_numbers" = some (some (.ref f_with_numbers)))
    (l_with_numbers : K.lookup f_with_numbers = some ⟨oc_with_numbers, od_with_numbers, .func (PySem.W.fnOf "with_numbers" "with_numbers" (defArgs s_with_numbers) (defBody s_with_numbers) (defScope s_with_numbers) .none kV_with_numbers dc_with_numbers pm_with_numbers an_with_numbers cd_with_numbers ct_with_numbers), sl_with_numbers⟩)
    (c_with_numbers : PySem.W.codeIn K cd_with_numbers "with_numbers" = true)
    (k_with_numbers : PySem.W.keepIn K (.ref f_with_numbers) = true)
    (a_order_of : PySem.W.nsIn K mainGlobals "order_of" = some (some (.ref f_order_of)))
    (l_order_of : K.lookup f_order_of = some ⟨oc_order_of, od_order_of, .func (PySem.W.fnOf "order_of" "order_of" (defArgs s_order_of) (defBody s_order_of) (defScope s_order_of) .none kV_order_of dc_order_of pm_order_of an_order_of cd_order_of ct_order_of), sl_order_of⟩)
    (c_order_of : PySem.W.codeIn K cd_order_of "order_of" = true)
    (k_order_of : PySem.W.keepIn K (.ref f_order_of) = true)
    (a_word_for : PySem.W.nsIn K mainGlobals "word_for" = some (some (.ref f_word_for)))
    (l_word_for : K.lookup f_word_for = some ⟨oc_word_for, od_word_for, .func (PySem.W.fnOf "word_for" "word_for" (defArgs s_word_for) (defBody s_word_for) (defScope s_word_for) .none kV_word_for dc_word_for pm_word_for an_word_for cd_word_for ct_word_for), sl_word_for⟩)
    (c_word_for : PySem.W.codeIn K cd_word_for "word_for" = true)
    (k_word_for : PySem.W.keepIn K (.ref f_word_for) = true)
    (a_line_of : PySem.W.nsIn K mainGlobals "line_of" = some (some (.ref f_line_of)))
    (l_line_of : K.lookup f_line_of = some ⟨oc_line_of, od_line_of, .func (PySem.W.fnOf "line_of" "line_of" (defArgs s_line_of) (defBody s_line_of) (defScope s_line_of) .none kV_line_of dc_line_of pm_line_of an_line_of cd_line_of ct_line_of), sl_line_of⟩)
    (c_line_of : PySem.W.codeIn K cd_line_of "line_of" = true)
    (k_line_of : PySem.W.keepIn K (.ref f_line_of) = true)
    (a_L_cell_at : PySem.W.nsIn K mainGlobals "_law_cell_at" = some (some (.ref f_L_cell_at)))
    (l_L_cell_at : K.lookup f_L_cell_at = some ⟨oc_L_cell_at, od_L_cell_at, .func (PySem.W.fnOf "_law_cell_at" "_law_cell_at" (defArgs s_L_cell_at) (defBody s_L_cell_at) (defScope s_L_cell_at) .none kV_L_cell_at dc_L_cell_at pm_L_cell_at an_L_cell_at cd_L_cell_at ct_L_cell_at), sl_L_cell_at⟩)
    (c_L_cell_at : PySem.W.codeIn K cd_L_cell_at "_law_cell_at" = true)
    (k_L_cell_at : PySem.W.keepIn K (.ref f_L_cell_at) = true)
    (a_L_sign : PySem.W.nsIn K mainGlobals "_law_sign" = some (some (.ref f_L_sign)))
    (l_L_sign : K.lookup f_L_sign = some ⟨oc_L_sign, od_L_sign, .func (PySem.W.fnOf "_law_sign" "_law_sign" (defArgs s_L_sign) (defBody s_L_sign) (defScope s_L_sign) .none kV_L_sign dc_L_sign pm_L_sign an_L_sign cd_L_sign ct_L_sign), sl_L_sign⟩)
    (c_L_sign : PySem.W.codeIn K cd_L_sign "_law_sign" = true)
    (k_L_sign : PySem.W.keepIn K (.ref f_L_sign) = true)
    (a_L_path : PySem.W.nsIn K mainGlobals "_law_path" = some (some (.ref f_L_path)))
    (l_L_path : K.lookup f_L_path = some ⟨oc_L_path, od_L_path, .func (PySem.W.fnOf "_law_path" "_law_path" (defArgs s_L_path) (defBody s_L_path) (defScope s_L_path) .none kV_L_path dc_L_path pm_L_path an_L_path cd_L_path ct_L_path), sl_L_path⟩)
    (c_L_path : PySem.W.codeIn K cd_L_path "_law_path" = true)
    (k_L_path : PySem.W.keepIn K (.ref f_L_path) = true)
    (a_L_number : PySem.W.nsIn K mainGlobals "_law_number" = some (some (.ref f_L_number)))
    (l_L_number : K.lookup f_L_number = some ⟨oc_L_number, od_L_number, .func (PySem.W.fnOf "_law_number" "_law_number" (defArgs s_L_number) (defBody s_L_number) (defScope s_L_number) .none kV_L_number dc_L_number pm_L_number an_L_number cd_L_number ct_L_number), sl_L_number⟩)
    (c_L_number : PySem.W.codeIn K cd_L_number "_law_number" = true)
    (k_L_number : PySem.W.keepIn K (.ref f_L_number) = true)
    (a_L_order : PySem.W.nsIn K mainGlobals "_law_order" = some (some (.ref f_L_order)))
    (l_L_order : K.lookup f_L_order = some ⟨oc_L_order, od_L_order, .func (PySem.W.fnOf "_law_order" "_law_order" (defArgs s_L_order) (defBody s_L_order) (defScope s_L_order) .none kV_L_order dc_L_order pm_L_order an_L_order cd_L_order ct_L_order), sl_L_order⟩)
    (c_L_order : PySem.W.codeIn K cd_L_order "_law_order" = true)
    (k_L_order : PySem.W.keepIn K (.ref f_L_order) = true)
    (a_L_line : PySem.W.nsIn K mainGlobals "_law_line" = some (some (.ref f_L_line)))
    (l_L_line : K.lookup f_L_line = some ⟨oc_L_line, od_L_line, .func (PySem.W.fnOf "_law_line" "_law_line" (defArgs s_L_line) (defBody s_L_line) (defScope s_L_line) .none kV_L_line dc_L_line pm_L_line an_L_line cd_L_line ct_L_line), sl_L_line⟩)
    (c_L_line : PySem.W.codeIn K cd_L_line "_law_line" = true)
    (k_L_line : PySem.W.keepIn K (.ref f_L_line) = true)
    (a_L_bent : PySem.W.nsIn K mainGlobals "_law_bent" = some (some (.ref f_L_bent)))
    (l_L_bent : K.lookup f_L_bent = some ⟨oc_L_bent, od_L_bent, .func (PySem.W.fnOf "_law_bent" "_law_bent" (defArgs s_L_bent) (defBody s_L_bent) (defScope s_L_bent) .none kV_L_bent dc_L_bent pm_L_bent an_L_bent cd_L_bent ct_L_bent), sl_L_bent⟩)
    (c_L_bent : PySem.W.codeIn K cd_L_bent "_law_bent" = true)
    (k_L_bent : PySem.W.keepIn K (.ref f_L_bent) = true)
    (a_L_number_of : PySem.W.nsIn K mainGlobals "_law_number_of" = some (some (.ref f_L_number_of)))
    (l_L_number_of : K.lookup f_L_number_of = some ⟨oc_L_number_of, od_L_number_of, .func (PySem.W.fnOf "_law_number_of" "_law_number_of" (defArgs s_L_number_of) (defBody s_L_number_of) (defScope s_L_number_of) .none kV_L_number_of dc_L_number_of pm_L_number_of an_L_number_of cd_L_number_of ct_L_number_of), sl_L_number_of⟩)
    (c_L_number_of : PySem.W.codeIn K cd_L_number_of "_law_number_of" = true)
    (k_L_number_of : PySem.W.keepIn K (.ref f_L_number_of) = true)
    (a_L_parts : PySem.W.nsIn K mainGlobals "_law_parts" = some (some (.ref f_L_parts)))
    (l_L_parts : K.lookup f_L_parts = some ⟨oc_L_parts, od_L_parts, .func (PySem.W.fnOf "_law_parts" "_law_parts" (defArgs s_L_parts) (defBody s_L_parts) (defScope s_L_parts) .none kV_L_parts dc_L_parts pm_L_parts an_L_parts cd_L_parts ct_L_parts), sl_L_parts⟩)
    (c_L_parts : PySem.W.codeIn K cd_L_parts "_law_parts" = true)
    (k_L_parts : PySem.W.keepIn K (.ref f_L_parts) = true)
    (a_L_due : PySem.W.nsIn K mainGlobals "_law_due" = some (some (.ref f_L_due)))
    (l_L_due : K.lookup f_L_due = some ⟨oc_L_due, od_L_due, .func (PySem.W.fnOf "_law_due" "_law_due" (defArgs s_L_due) (defBody s_L_due) (defScope s_L_due) .none kV_L_due dc_L_due pm_L_due an_L_due cd_L_due ct_L_due), sl_L_due⟩)
    (c_L_due : PySem.W.codeIn K cd_L_due "_law_due" = true)
    (k_L_due : PySem.W.keepIn K (.ref f_L_due) = true)
    (a_L_alike : PySem.W.nsIn K mainGlobals "_law_alike" = some (some (.ref f_L_alike)))
    (l_L_alike : K.lookup f_L_alike = some ⟨oc_L_alike, od_L_alike, .func (PySem.W.fnOf "_law_alike" "_law_alike" (defArgs s_L_alike) (defBody s_L_alike) (defScope s_L_alike) .none kV_L_alike dc_L_alike pm_L_alike an_L_alike cd_L_alike ct_L_alike), sl_L_alike⟩)
    (c_L_alike : PySem.W.codeIn K cd_L_alike "_law_alike" = true)
    (k_L_alike : PySem.W.keepIn K (.ref f_L_alike) = true)
    (a_L_read : PySem.W.nsIn K mainGlobals "_law_read" = some (some (.ref f_L_read)))
    (l_L_read : K.lookup f_L_read = some ⟨oc_L_read, od_L_read, .func (PySem.W.fnOf "_law_read" "_law_read" (defArgs s_L_read) (defBody s_L_read) (defScope s_L_read) .none kV_L_read dc_L_read pm_L_read an_L_read cd_L_read ct_L_read), sl_L_read⟩)
    (c_L_read : PySem.W.codeIn K cd_L_read "_law_read" = true)
    (k_L_read : PySem.W.keepIn K (.ref f_L_read) = true)
    (a_law : PySem.W.nsIn K mainGlobals "law" = some (some (.ref f_law)))
    (l_law : K.lookup f_law = some ⟨oc_law, od_law, .func (PySem.W.fnOf "law" "law" (defArgs s_law) (defBody s_law) (defScope s_law) .none kV_law dc_law pm_law an_law cd_law ct_law), sl_law⟩)
    (c_law : PySem.W.codeIn K cd_law "law" = true)
    (k_law : PySem.W.keepIn K (.ref f_law) = true)
    (xq_KeepError : PySem.W.excIn K C_KeepError [.type "ValueError", .type "Exception", .type "BaseException", .type "object"] "ValueError.__new__" = true)
    (xk_KeepError : PySem.W.keepIn K (.ref C_KeepError) = true)
    (xs_KeepError : PySem.W.subIn K (.ref C_KeepError) (.type "BaseException") = some true)
    (xt_KeepError : PySem.W.typeIn K (.ref C_KeepError) = some (.type "type"))
    (xq_BadRow : PySem.W.excIn K C_BadRow [.type "ValueError", .type "Exception", .type "BaseException", .type "object"] "ValueError.__new__" = true)
    (xk_BadRow : PySem.W.keepIn K (.ref C_BadRow) = true)
    (xs_BadRow : PySem.W.subIn K (.ref C_BadRow) (.type "BaseException") = some true)
    (xt_BadRow : PySem.W.typeIn K (.ref C_BadRow) = some (.type "type"))
    (xq_NoBlock : PySem.W.excIn K C_NoBlock [.type "ValueError", .type "Exception", .type "BaseException", .type "object"] "ValueError.__new__" = true)
    (xk_NoBlock : PySem.W.keepIn K (.ref C_NoBlock) = true)
    (xs_NoBlock : PySem.W.subIn K (.ref C_NoBlock) (.type "BaseException") = some true)
    (xt_NoBlock : PySem.W.typeIn K (.ref C_NoBlock) = some (.type "type"))
    (xq_Stopped : PySem.W.excIn K C_Stopped [.type "ValueError", .type "Exception", .type "BaseException", .type "object"] "ValueError.__new__" = true)
    (xk_Stopped : PySem.W.keepIn K (.ref C_Stopped) = true)
    (xs_Stopped : PySem.W.subIn K (.ref C_Stopped) (.type "BaseException") = some true)
    (xt_Stopped : PySem.W.typeIn K (.ref C_Stopped) = some (.type "type"))
    (xq_BadDisk : PySem.W.excIn K C_BadDisk [.type "ValueError", .type "Exception", .type "BaseException", .type "object"] "ValueError.__new__" = true)
    (xk_BadDisk : PySem.W.keepIn K (.ref C_BadDisk) = true)
    (xs_BadDisk : PySem.W.subIn K (.ref C_BadDisk) (.type "BaseException") = some true)
    (xt_BadDisk : PySem.W.typeIn K (.ref C_BadDisk) = some (.type "type"))
    (xq_NoRoom : PySem.W.excIn K C_NoRoom [.type "ValueError", .type "Exception", .type "BaseException", .type "object"] "ValueError.__new__" = true)
    (xk_NoRoom : PySem.W.keepIn K (.ref C_NoRoom) = true)
    (xs_NoRoom : PySem.W.subIn K (.ref C_NoRoom) (.type "BaseException") = some true)
    (xt_NoRoom : PySem.W.typeIn K (.ref C_NoRoom) = some (.type "type"))
    (xq_TooMuch : PySem.W.excIn K C_TooMuch [.type "ValueError", .type "Exception", .type "BaseException", .type "object"] "ValueError.__new__" = true)
    (xk_TooMuch : PySem.W.keepIn K (.ref C_TooMuch) = true)
    (xs_TooMuch : PySem.W.subIn K (.ref C_TooMuch) (.type "BaseException") = some true)
    (xt_TooMuch : PySem.W.typeIn K (.ref C_TooMuch) = some (.type "type"))
    (xq_BadLog : PySem.W.excIn K C_BadLog [.type "ValueError", .type "Exception", .type "BaseException", .type "object"] "ValueError.__new__" = true)
    (xk_BadLog : PySem.W.keepIn K (.ref C_BadLog) = true)
    (xs_BadLog : PySem.W.subIn K (.ref C_BadLog) (.type "BaseException") = some true)
    (xt_BadLog : PySem.W.typeIn K (.ref C_BadLog) = some (.type "type"))
    (xq_NoNode : PySem.W.excIn K C_NoNode [.type "ValueError", .type "Exception", .type "BaseException", .type "object"] "ValueError.__new__" = true)
    (xk_NoNode : PySem.W.keepIn K (.ref C_NoNode) = true)
    (xs_NoNode : PySem.W.subIn K (.ref C_NoNode) (.type "BaseException") = some true)
    (xt_NoNode : PySem.W.typeIn K (.ref C_NoNode) = some (.type "type"))
    (xq_NoNodes : PySem.W.excIn K C_NoNodes [.type "ValueError", .type "Exception", .type "BaseException", .type "object"] "ValueError.__new__" = true)
    (xk_NoNodes : PySem.W.keepIn K (.ref C_NoNodes) = true)
    (xs_NoNodes : PySem.W.subIn K (.ref C_NoNodes) (.type "BaseException") = some true)
    (xt_NoNodes : PySem.W.typeIn K (.ref C_NoNodes) = some (.type "type"))
    (xq_TooLong : PySem.W.excIn K C_TooLong [.type "ValueError", .type "Exception", .type "BaseException", .type "object"] "ValueError.__new__" = true)
    (xk_TooLong : PySem.W.keepIn K (.ref C_TooLong) = true)
    (xs_TooLong : PySem.W.subIn K (.ref C_TooLong) (.type "BaseException") = some true)
    (xt_TooLong : PySem.W.typeIn K (.ref C_TooLong) = some (.type "type"))
    (xq_OutOfPlace : PySem.W.excIn K C_OutOfPlace [.type "ValueError", .type "Exception", .type "BaseException", .type "object"] "ValueError.__new__" = true)
    (xk_OutOfPlace : PySem.W.keepIn K (.ref C_OutOfPlace) = true)
    (xs_OutOfPlace : PySem.W.subIn K (.ref C_OutOfPlace) (.type "BaseException") = some true)
    (xt_OutOfPlace : PySem.W.typeIn K (.ref C_OutOfPlace) = some (.type "type"))
    (xq_BadName : PySem.W.excIn K C_BadName [.type "ValueError", .type "Exception", .type "BaseException", .type "object"] "ValueError.__new__" = true)
    (xk_BadName : PySem.W.keepIn K (.ref C_BadName) = true)
    (xs_BadName : PySem.W.subIn K (.ref C_BadName) (.type "BaseException") = some true)
    (xt_BadName : PySem.W.typeIn K (.ref C_BadName) = some (.type "type"))
    (xq_BadPath : PySem.W.excIn K C_BadPath [.type "ValueError", .type "Exception", .type "BaseException", .type "object"] "ValueError.__new__" = true)
    (xk_BadPath : PySem.W.keepIn K (.ref C_BadPath) = true)
    (xs_BadPath : PySem.W.subIn K (.ref C_BadPath) (.type "BaseException") = some true)
    (xt_BadPath : PySem.W.typeIn K (.ref C_BadPath) = some (.type "type"))
    (xq_NotFolder : PySem.W.excIn K C_NotFolder [.type "ValueError", .type "Exception", .type "BaseException", .type "object"] "ValueError.__new__" = true)
    (xk_NotFolder : PySem.W.keepIn K (.ref C_NotFolder) = true)
    (xs_NotFolder : PySem.W.subIn K (.ref C_NotFolder) (.type "BaseException") = some true)
    (xt_NotFolder : PySem.W.typeIn K (.ref C_NotFolder) = some (.type "type"))
    (xq_NotFile : PySem.W.excIn K C_NotFile [.type "ValueError", .type "Exception", .type "BaseException", .type "object"] "ValueError.__new__" = true)
    (xk_NotFile : PySem.W.keepIn K (.ref C_NotFile) = true)
    (xs_NotFile : PySem.W.subIn K (.ref C_NotFile) (.type "BaseException") = some true)
    (xt_NotFile : PySem.W.typeIn K (.ref C_NotFile) = some (.type "type"))
    (xq_NoName : PySem.W.excIn K C_NoName [.type "ValueError", .type "Exception", .type "BaseException", .type "object"] "ValueError.__new__" = true)
    (xk_NoName : PySem.W.keepIn K (.ref C_NoName) = true)
    (xs_NoName : PySem.W.subIn K (.ref C_NoName) (.type "BaseException") = some true)
    (xt_NoName : PySem.W.typeIn K (.ref C_NoName) = some (.type "type"))
    (xq_NameThere : PySem.W.excIn K C_NameThere [.type "ValueError", .type "Exception", .type "BaseException", .type "object"] "ValueError.__new__" = true)
    (xk_NameThere : PySem.W.keepIn K (.ref C_NameThere) = true)
    (xs_NameThere : PySem.W.subIn K (.ref C_NameThere) (.type "BaseException") = some true)
    (xt_NameThere : PySem.W.typeIn K (.ref C_NameThere) = some (.type "type"))
    (xq_NotEmpty : PySem.W.excIn K C_NotEmpty [.type "ValueError", .type "Exception", .type "BaseException", .type "object"] "ValueError.__new__" = true)
    (xk_NotEmpty : PySem.W.keepIn K (.ref C_NotEmpty) = true)
    (xs_NotEmpty : PySem.W.subIn K (.ref C_NotEmpty) (.type "BaseException") = some true)
    (xt_NotEmpty : PySem.W.typeIn K (.ref C_NotEmpty) = some (.type "type"))
    (xq_Within : PySem.W.excIn K C_Within [.type "ValueError", .type "Exception", .type "BaseException", .type "object"] "ValueError.__new__" = true)
    (xk_Within : PySem.W.keepIn K (.ref C_Within) = true)
    (xs_Within : PySem.W.subIn K (.ref C_Within) (.type "BaseException") = some true)
    (xt_Within : PySem.W.typeIn K (.ref C_Within) = some (.type "type"))
    (xq_BadOrder : PySem.W.excIn K C_BadOrder [.type "ValueError", .type "Exception", .type "BaseException", .type "object"] "ValueError.__new__" = true)
    (xk_BadOrder : PySem.W.keepIn K (.ref C_BadOrder) = true)
    (xs_BadOrder : PySem.W.subIn K (.ref C_BadOrder) (.type "BaseException") = some true)
    (xt_BadOrder : PySem.W.typeIn K (.ref C_BadOrder) = some (.type "type"))
    (xc_hg_BadOrder : PySem.W.findIn K (.ref C_BadOrder) "__getattribute__" = some (some (.builtin "BaseException.__getattribute__")))
    (xc_hk_BadOrder : PySem.W.findIn K (.ref C_BadOrder) "__getattr__" = some none)
    (xc_hd_BadOrder : PySem.W.hasDictIn K C_BadOrder = true)
    (xc_ha_BadOrder : PySem.W.findIn K (.ref C_BadOrder) "__class__" = some (some (.builtin "object.__class__")))
    (xc_hm_BadOrder : PySem.W.mroIn K C_BadOrder (.type "object") = some true)
    (ic_BadDisk : PySem.W.isClsIn K C_BadDisk = true)
    (ic_BadLog : PySem.W.isClsIn K C_BadLog = true)
    (ic_BadName : PySem.W.isClsIn K C_BadName = true)
    (ic_BadOrder : PySem.W.isClsIn K C_BadOrder = true)
    (ic_BadPath : PySem.W.isClsIn K C_BadPath = true)
    (ic_BadRow : PySem.W.isClsIn K C_BadRow = true)
    (ic_KeepError : PySem.W.isClsIn K C_KeepError = true)
    (ic_NameThere : PySem.W.isClsIn K C_NameThere = true)
    (ic_NoBlock : PySem.W.isClsIn K C_NoBlock = true)
    (ic_NoName : PySem.W.isClsIn K C_NoName = true)
    (ic_NoNode : PySem.W.isClsIn K C_NoNode = true)
    (ic_NoNodes : PySem.W.isClsIn K C_NoNodes = true)
    (ic_NoRoom : PySem.W.isClsIn K C_NoRoom = true)
    (ic_NotEmpty : PySem.W.isClsIn K C_NotEmpty = true)
    (ic_NotFile : PySem.W.isClsIn K C_NotFile = true)
    (ic_NotFolder : PySem.W.isClsIn K C_NotFolder = true)
    (ic_OutOfPlace : PySem.W.isClsIn K C_OutOfPlace = true)
    (ic_Stopped : PySem.W.isClsIn K C_Stopped = true)
    (ic_TooLong : PySem.W.isClsIn K C_TooLong = true)
    (ic_TooMuch : PySem.W.isClsIn K C_TooMuch = true)
    (ic_Within : PySem.W.isClsIn K C_Within = true)
    (su_BadDisk_BadDisk : PySem.W.subIn K (.ref C_BadDisk) (.ref C_BadDisk) = some true)
    (su_BadLog_BadLog : PySem.W.subIn K (.ref C_BadLog) (.ref C_BadLog) = some true)
    (su_BadName_BadName : PySem.W.subIn K (.ref C_BadName) (.ref C_BadName) = some true)
    (su_BadOrder_BadDisk : PySem.W.subIn K (.ref C_BadOrder) (.ref C_BadDisk) = some false)
    (su_BadOrder_BadLog : PySem.W.subIn K (.ref C_BadOrder) (.ref C_BadLog) = some false)
    (su_BadOrder_BadName : PySem.W.subIn K (.ref C_BadOrder) (.ref C_BadName) = some false)
    (su_BadOrder_BadOrder : PySem.W.subIn K (.ref C_BadOrder) (.ref C_BadOrder) = some true)
    (su_BadOrder_BadPath : PySem.W.subIn K (.ref C_BadOrder) (.ref C_BadPath) = some false)
    (su_BadOrder_BadRow : PySem.W.subIn K (.ref C_BadOrder) (.ref C_BadRow) = some false)
    (su_BadOrder_KeepError : PySem.W.subIn K (.ref C_BadOrder) (.ref C_KeepError) = some true)
    (su_BadOrder_NameThere : PySem.W.subIn K (.ref C_BadOrder) (.ref C_NameThere) = some false)
    (su_BadOrder_NoBlock : PySem.W.subIn K (.ref C_BadOrder) (.ref C_NoBlock) = some false)
    (su_BadOrder_NoName : PySem.W.subIn K (.ref C_BadOrder) (.ref C_NoName) = some false)
    (su_BadOrder_NoNode : PySem.W.subIn K (.ref C_BadOrder) (.ref C_NoNode) = some false)
    (su_BadOrder_NoNodes : PySem.W.subIn K (.ref C_BadOrder) (.ref C_NoNodes) = some false)
    (su_BadOrder_NoRoom : PySem.W.subIn K (.ref C_BadOrder) (.ref C_NoRoom) = some false)
    (su_BadOrder_NotEmpty : PySem.W.subIn K (.ref C_BadOrder) (.ref C_NotEmpty) = some false)
    (su_BadOrder_NotFile : PySem.W.subIn K (.ref C_BadOrder) (.ref C_NotFile) = some false)
    (su_BadOrder_NotFolder : PySem.W.subIn K (.ref C_BadOrder) (.ref C_NotFolder) = some false)
    (su_BadOrder_OutOfPlace : PySem.W.subIn K (.ref C_BadOrder) (.ref C_OutOfPlace) = some false)
    (su_BadOrder_Stopped : PySem.W.subIn K (.ref C_BadOrder) (.ref C_Stopped) = some false)
    (su_BadOrder_TooLong : PySem.W.subIn K (.ref C_BadOrder) (.ref C_TooLong) = some false)
    (su_BadOrder_TooMuch : PySem.W.subIn K (.ref C_BadOrder) (.ref C_TooMuch) = some false)
    (su_BadOrder_Within : PySem.W.subIn K (.ref C_BadOrder) (.ref C_Within) = some false)
    (su_BadPath_BadPath : PySem.W.subIn K (.ref C_BadPath) (.ref C_BadPath) = some true)
    (su_BadRow_BadRow : PySem.W.subIn K (.ref C_BadRow) (.ref C_BadRow) = some true)
    (su_KeepError_KeepError : PySem.W.subIn K (.ref C_KeepError) (.ref C_KeepError) = some true)
    (su_NameThere_NameThere : PySem.W.subIn K (.ref C_NameThere) (.ref C_NameThere) = some true)
    (su_NoBlock_NoBlock : PySem.W.subIn K (.ref C_NoBlock) (.ref C_NoBlock) = some true)
    (su_NoName_NoName : PySem.W.subIn K (.ref C_NoName) (.ref C_NoName) = some true)
    (su_NoNode_NoNode : PySem.W.subIn K (.ref C_NoNode) (.ref C_NoNode) = some true)
    (su_NoNodes_NoNodes : PySem.W.subIn K (.ref C_NoNodes) (.ref C_NoNodes) = some true)
    (su_NoRoom_NoRoom : PySem.W.subIn K (.ref C_NoRoom) (.ref C_NoRoom) = some true)
    (su_NotEmpty_NotEmpty : PySem.W.subIn K (.ref C_NotEmpty) (.ref C_NotEmpty) = some true)
    (su_NotFile_NotFile : PySem.W.subIn K (.ref C_NotFile) (.ref C_NotFile) = some true)
    (su_NotFolder_NotFolder : PySem.W.subIn K (.ref C_NotFolder) (.ref C_NotFolder) = some true)
    (su_OutOfPlace_OutOfPlace : PySem.W.subIn K (.ref C_OutOfPlace) (.ref C_OutOfPlace) = some true)
    (su_Stopped_Stopped : PySem.W.subIn K (.ref C_Stopped) (.ref C_Stopped) = some true)
    (su_TooLong_TooLong : PySem.W.subIn K (.ref C_TooLong) (.ref C_TooLong) = some true)
    (su_TooMuch_TooMuch : PySem.W.subIn K (.ref C_TooMuch) (.ref C_TooMuch) = some true)
    (su_Within_Within : PySem.W.subIn K (.ref C_Within) (.ref C_Within) = some true)
    (sv_BadOrder : PySem.W.subIn K (.ref C_BadOrder) (.type "ValueError") = some true)
    (xc_hn : PySem.W.specialIn K (.builtin "object.__class__") "__get__" = some (some (.builtin "getset_descriptor.__get__")))
    (xc_ht : PySem.W.takesIn K (.builtin "object.__class__") = some true) :
    ∃ fd : FuncData, (∀ (s : Shared) (v : Value), BindsTo s fd ⟨[v], []⟩ [("_law_script", v)]) ∧ ∀ base : Heap, K.In base → base.Ns mainGlobals mg → FnOk l.prog w K mg base (L2N.CX l.prog w) 8 fa fd ["_law_script"] (spLaw K) := by
  have e : fa = f_law := Value.ref.inj (Option.some.inj (hfa.symm.trans (PySem.W.mg_of X G a_law)))
  rw [e]
  have T : Tx K mg { KeepError := C_KeepError, BadRow := C_BadRow, NoBlock := C_NoBlock, Stopped := C_Stopped, BadDisk := C_BadDisk, NoRoom := C_NoRoom, TooMuch := C_TooMuch, BadLog := C_BadLog, NoNode := C_NoNode, NoNodes := C_NoNodes, TooLong := C_TooLong, OutOfPlace := C_OutOfPlace, BadName := C_BadName, BadPath := C_BadPath, NotFolder := C_NotFolder, NotFile := C_NotFile, NoName := C_NoName, NameThere := C_NameThere, NotEmpty := C_NotEmpty, Within := C_Within, BadOrder := C_BadOrder, Disk := 0, Layout := 0, Batch := 0, Keeper := 0, f1 := 0, f2 := 0 } { f_need_order := f_need_order, f_number_of := f_number_of, f_numbers_of := f_numbers_of, f_with_numbers := f_with_numbers, f_order_of := f_order_of, f_word_for := f_word_for, f_line_of := f_line_of, f_L_cell_at := f_L_cell_at, f_L_sign := f_L_sign, f_L_path := f_L_path, f_L_number := f_L_number, f_L_order := f_L_order, f_L_line := f_L_line, f_L_bent := f_L_bent, f_L_number_of := f_L_number_of, f_L_parts := f_L_parts, f_L_due := f_L_due, f_L_alike := f_L_alike, f_L_read := f_L_read, f_law := f_law, fd_need_order := _, fd_number_of := _, fd_numbers_of := _, fd_with_numbers := _, fd_order_of := _, fd_word_for := _, fd_line_of := _, fd_L_cell_at := _, fd_L_sign := _, fd_L_path := _, fd_L_number := _, fd_L_order := _, fd_L_line := _, fd_L_bent := _, fd_L_number_of := _, fd_L_parts := _, fd_L_due := _, fd_L_alike := _, fd_L_read := _, fd_law := _ } := {
    g_FIGURES := ⟨_, PySem.W.mg_of X G a_FIGURES, _, rfl⟩,
    g_MOST_FIGURES := ⟨_, PySem.W.mg_of X G a_MOST_FIGURES, _, rfl⟩,
    n_ValueError := PySem.W.mg_none_of X G z_ValueError,
    n_bool := PySem.W.mg_none_of X G z_bool,
    n_int := PySem.W.mg_none_of X G z_int,
    n_isinstance := PySem.W.mg_none_of X G z_isinstance,
    n_len := PySem.W.mg_none_of X G z_len,
    n_list := PySem.W.mg_none_of X G z_list,
    n_max := PySem.W.mg_none_of X G z_max,
    n_range := PySem.W.mg_none_of X G z_range,
    n_str := PySem.W.mg_none_of X G z_str,
    n_tuple := PySem.W.mg_none_of X G z_tuple,
    n_zip := PySem.W.mg_none_of X G z_zip,
    g_KeepError := PySem.W.mg_of X G a_KeepError,
    g_BadRow := PySem.W.mg_of X G a_BadRow,
    g_NoBlock := PySem.W.mg_of X G a_NoBlock,
    g_Stopped := PySem.W.mg_of X G a_Stopped,
    g_BadDisk := PySem.W.mg_of X G a_BadDisk,
    g_NoRoom := PySem.W.mg_of X G a_NoRoom,
    g_TooMuch := PySem.W.mg_of X G a_TooMuch,
    g_BadLog := PySem.W.mg_of X G a_BadLog,
    g_NoNode := PySem.W.mg_of X G a_NoNode,
    g_NoNodes := PySem.W.mg_of X G a_NoNodes,
    g_TooLong := PySem.W.mg_of X G a_TooLong,
    g_OutOfPlace := PySem.W.mg_of X G a_OutOfPlace,
    g_BadName := PySem.W.mg_of X G a_BadName,
    g_BadPath := PySem.W.mg_of X G a_BadPath,
    g_NotFolder := PySem.W.mg_of X G a_NotFolder,
    g_NotFile := PySem.W.mg_of X G a_NotFile,
    g_NoName := PySem.W.mg_of X G a_NoName,
    g_NameThere := PySem.W.mg_of X G a_NameThere,
    g_NotEmpty := PySem.W.mg_of X G a_NotEmpty,
    g_Within := PySem.W.mg_of X G a_Within,
    g_BadOrder := PySem.W.mg_of X G a_BadOrder,
    g_need_order := PySem.W.mg_of X G a_need_order,
    k_need_order := k_need_order,
    F_need_order := fun_mk l_need_order c_need_order k_need_order,
    b_need_order := (fun_mk (st := s_need_order) l_need_order c_need_order k_need_order).binds (ps := ["good"]) fun _ _ _ _ _ _ us hl => match us, hl with | [_], _ => rfl,
    g_number_of := PySem.W.mg_of X G a_number_of,
    k_number_of := k_number_of,
    F_number_of := fun_mk l_number_of c_number_of k_number_of,
    b_number_of := (fun_mk (st := s_number_of) l_number_of c_number_of k_number_of).binds (ps := ["word"]) fun _ _ _ _ _ _ us hl => match us, hl with | [_], _ => rfl,
    g_numbers_of := PySem.W.mg_of X G a_numbers_of,
    k_numbers_of := k_numbers_of,
    F_numbers_of := fun_mk l_numbers_of c_numbers_of k_numbers_of,
    b_numbers_of := (fun_mk (st := s_numbers_of) l_numbers_of c_numbers_of k_numbers_of).binds (ps := ["word"]) fun _ _ _ _ _ _ us hl => match us, hl with | [_], _ => rfl,
    g_with_numbers := PySem.W.mg_of X G a_with_numbers,
    k_with_numbers := k_with_numbers,
    F_with_numbers := fun_mk l_with_numbers c_with_numbers k_with_numbers,
    b_with_numbers := (fun_mk (st := s_with_numbers) l_with_numbers c_with_numbers k_with_numbers).binds (ps := ["words"]) fun _ _ _ _ _ _ us hl => match us, hl with | [_], _ => rfl,
    g_order_of := PySem.W.mg_of X G a_order_of,
    k_order_of := k_order_of,
    F_order_of := fun_mk l_order_of c_order_of k_order_of,
    b_order_of := (fun_mk (st := s_order_of) l_order_of c_order_of k_order_of).binds (ps := ["line"]) fun _ _ _ _ _ _ us hl => match us, hl with | [_], _ => rfl,
    g_word_for := PySem.W.mg_of X G a_word_for,
    k_word_for := k_word_for,
    F_word_for := fun_mk l_word_for c_word_for k_word_for,
    b_word_for := (fun_mk (st := s_word_for) l_word_for c_word_for k_word_for).binds (ps := ["part"]) fun _ _ _ _ _ _ us hl => match us, hl with | [_], _ => rfl,
    g_line_of := PySem.W.mg_of X G a_line_of,
    k_line_of := k_line_of,
    F_line_of := fun_mk l_line_of c_line_of k_line_of,
    b_line_of := (fun_mk (st := s_line_of) l_line_of c_line_of k_line_of).binds (ps := ["order"]) fun _ _ _ _ _ _ us hl => match us, hl with | [_], _ => rfl,
    g_L_cell_at := PySem.W.mg_of X G a_L_cell_at,
    k_L_cell_at := k_L_cell_at,
    F_L_cell_at := fun_mk l_L_cell_at c_L_cell_at k_L_cell_at,
    b_L_cell_at := (fun_mk (st := s_L_cell_at) l_L_cell_at c_L_cell_at k_L_cell_at).binds (ps := ["_law_script", "_law_k"]) fun _ _ _ _ _ _ us hl => match us, hl with | [_, _], _ => rfl,
    g_L_sign := PySem.W.mg_of X G a_L_sign,
    k_L_sign := k_L_sign,
    F_L_sign := fun_mk l_L_sign c_L_sign k_L_sign,
    b_L_sign := (fun_mk (st := s_L_sign) l_L_sign c_L_sign k_L_sign).binds (ps := ["_law_cell"]) fun _ _ _ _ _ _ us hl => match us, hl with | [_], _ => rfl,
    g_L_path := PySem.W.mg_of X G a_L_path,
    k_L_path := k_L_path,
    F_L_path := fun_mk l_L_path c_L_path k_L_path,
    b_L_path := (fun_mk (st := s_L_path) l_L_path c_L_path k_L_path).binds (ps := ["_law_cell"]) fun _ _ _ _ _ _ us hl => match us, hl with | [_], _ => rfl,
    g_L_number := PySem.W.mg_of X G a_L_number,
    k_L_number := k_L_number,
    F_L_number := fun_mk l_L_number c_L_number k_L_number,
    b_L_number := (fun_mk (st := s_L_number) l_L_number c_L_number k_L_number).binds (ps := ["_law_cell"]) fun _ _ _ _ _ _ us hl => match us, hl with | [_], _ => rfl,
    g_L_order := PySem.W.mg_of X G a_L_order,
    k_L_order := k_L_order,
    F_L_order := fun_mk l_L_order c_L_order k_L_order,
    b_L_order := (fun_mk (st := s_L_order) l_L_order c_L_order k_L_order).binds (ps := ["_law_script"]) fun _ _ _ _ _ _ us hl => match us, hl with | [_], _ => rfl,
    g_L_line := PySem.W.mg_of X G a_L_line,
    k_L_line := k_L_line,
    F_L_line := fun_mk l_L_line c_L_line k_L_line,
    b_L_line := (fun_mk (st := s_L_line) l_L_line c_L_line k_L_line).binds (ps := ["_law_order_here"]) fun _ _ _ _ _ _ us hl => match us, hl with | [_], _ => rfl,
    g_L_bent := PySem.W.mg_of X G a_L_bent,
    k_L_bent := k_L_bent,
    F_L_bent := fun_mk l_L_bent c_L_bent k_L_bent,
    b_L_bent := (fun_mk (st := s_L_bent) l_L_bent c_L_bent k_L_bent).binds (ps := ["_law_line_here", "_law_cell"]) fun _ _ _ _ _ _ us hl => match us, hl with | [_, _], _ => rfl,
    g_L_number_of := PySem.W.mg_of X G a_L_number_of,
    k_L_number_of := k_L_number_of,
    F_L_number_of := fun_mk l_L_number_of c_L_number_of k_L_number_of,
    b_L_number_of := (fun_mk (st := s_L_number_of) l_L_number_of c_L_number_of k_L_number_of).binds (ps := ["_law_word"]) fun _ _ _ _ _ _ us hl => match us, hl with | [_], _ => rfl,
    g_L_parts := PySem.W.mg_of X G a_L_parts,
    k_L_parts := k_L_parts,
    F_L_parts := fun_mk l_L_parts c_L_parts k_L_parts,
    b_L_parts := (fun_mk (st := s_L_parts) l_L_parts c_L_parts k_L_parts).binds (ps := ["_law_words"]) fun _ _ _ _ _ _ us hl => match us, hl with | [_], _ => rfl,
    g_L_due := PySem.W.mg_of X G a_L_due,
    k_L_due := k_L_due,
    F_L_due := fun_mk l_L_due c_L_due k_L_due,
    b_L_due := (fun_mk (st := s_L_due) l_L_due c_L_due k_L_due).binds (ps := ["_law_line_here"]) fun _ _ _ _ _ _ us hl => match us, hl with | [_], _ => rfl,
    g_L_alike := PySem.W.mg_of X G a_L_alike,
    k_L_alike := k_L_alike,
    F_L_alike := fun_mk l_L_alike c_L_alike k_L_alike,
    b_L_alike := (fun_mk (st := s_L_alike) l_L_alike c_L_alike k_L_alike).binds (ps := ["_law_found", "_law_due_here"]) fun _ _ _ _ _ _ us hl => match us, hl with | [_, _], _ => rfl,
    g_L_read := PySem.W.mg_of X G a_L_read,
    k_L_read := k_L_read,
    F_L_read := fun_mk l_L_read c_L_read k_L_read,
    b_L_read := (fun_mk (st := s_L_read) l_L_read c_L_read k_L_read).binds (ps := ["_law_line_here"]) fun _ _ _ _ _ _ us hl => match us, hl with | [_], _ => rfl,
    g_law := PySem.W.mg_of X G a_law,
    k_law := k_law,
    F_law := fun_mk l_law c_law k_law,
    b_law := (fun_mk (st := s_law) l_law c_law k_law).binds (ps := ["_law_script"]) fun _ _ _ _ _ _ us hl => match us, hl with | [_], _ => rfl,
    x_KeepError := ⟨xq_KeepError, xk_KeepError, xs_KeepError, xt_KeepError⟩,
    x_BadRow := ⟨xq_BadRow, xk_BadRow, xs_BadRow, xt_BadRow⟩,
    x_NoBlock := ⟨xq_NoBlock, xk_NoBlock, xs_NoBlock, xt_NoBlock⟩,
    x_Stopped := ⟨xq_Stopped, xk_Stopped, xs_Stopped, xt_Stopped⟩,
    x_BadDisk := ⟨xq_BadDisk, xk_BadDisk, xs_BadDisk, xt_BadDisk⟩,
    x_NoRoom := ⟨xq_NoRoom, xk_NoRoom, xs_NoRoom, xt_NoRoom⟩,
    x_TooMuch := ⟨xq_TooMuch, xk_TooMuch, xs_TooMuch, xt_TooMuch⟩,
    x_BadLog := ⟨xq_BadLog, xk_BadLog, xs_BadLog, xt_BadLog⟩,
    x_NoNode := ⟨xq_NoNode, xk_NoNode, xs_NoNode, xt_NoNode⟩,
    x_NoNodes := ⟨xq_NoNodes, xk_NoNodes, xs_NoNodes, xt_NoNodes⟩,
    x_TooLong := ⟨xq_TooLong, xk_TooLong, xs_TooLong, xt_TooLong⟩,
    x_OutOfPlace := ⟨xq_OutOfPlace, xk_OutOfPlace, xs_OutOfPlace, xt_OutOfPlace⟩,
    x_BadName := ⟨xq_BadName, xk_BadName, xs_BadName, xt_BadName⟩,
    x_BadPath := ⟨xq_BadPath, xk_BadPath, xs_BadPath, xt_BadPath⟩,
    x_NotFolder := ⟨xq_NotFolder, xk_NotFolder, xs_NotFolder, xt_NotFolder⟩,
    x_NotFile := ⟨xq_NotFile, xk_NotFile, xs_NotFile, xt_NotFile⟩,
    x_NoName := ⟨xq_NoName, xk_NoName, xs_NoName, xt_NoName⟩,
    x_NameThere := ⟨xq_NameThere, xk_NameThere, xs_NameThere, xt_NameThere⟩,
    x_NotEmpty := ⟨xq_NotEmpty, xk_NotEmpty, xs_NotEmpty, xt_NotEmpty⟩,
    x_Within := ⟨xq_Within, xk_Within, xs_Within, xt_Within⟩,
    x_BadOrder := ⟨xq_BadOrder, xk_BadOrder, xs_BadOrder, xt_BadOrder⟩ }
  haveI Fx : Fc K { KeepError := C_KeepError, BadRow := C_BadRow, NoBlock := C_NoBlock, Stopped := C_Stopped, BadDisk := C_BadDisk, NoRoom := C_NoRoom, TooMuch := C_TooMuch, BadLog := C_BadLog, NoNode := C_NoNode, NoNodes := C_NoNodes, TooLong := C_TooLong, OutOfPlace := C_OutOfPlace, BadName := C_BadName, BadPath := C_BadPath, NotFolder := C_NotFolder, NotFile := C_NotFile, NoName := C_NoName, NameThere := C_NameThere, NotEmpty := C_NotEmpty, Within := C_Within, BadOrder := C_BadOrder, Disk := 0, Layout := 0, Batch := 0, Keeper := 0, f1 := 0, f2 := 0 } := {
    xc_BadOrder := ⟨xc_hg_BadOrder, xc_hk_BadOrder, xs_BadOrder, xc_hd_BadOrder, xc_ha_BadOrder, xc_hn, xc_ht, xc_hm_BadOrder⟩,
    ki_BadOrder_BadDisk := kit_of_own ic_BadDisk xt_BadDisk su_BadOrder_BadDisk su_BadDisk_BadDisk,
    ki_BadOrder_BadLog := kit_of_own ic_BadLog xt_BadLog su_BadOrder_BadLog su_BadLog_BadLog,
    ki_BadOrder_BadName := kit_of_own ic_BadName xt_BadName su_BadOrder_BadName su_BadName_BadName,
    ki_BadOrder_BadOrder := kit_of_own ic_BadOrder xt_BadOrder su_BadOrder_BadOrder su_BadOrder_BadOrder,
    ki_BadOrder_BadPath := kit_of_own ic_BadPath xt_BadPath su_BadOrder_BadPath su_BadPath_BadPath,
    ki_BadOrder_BadRow := kit_of_own ic_BadRow xt_BadRow su_BadOrder_BadRow su_BadRow_BadRow,
    ki_BadOrder_NameThere := kit_of_own ic_NameThere xt_NameThere su_BadOrder_NameThere su_NameThere_NameThere,
    ki_BadOrder_NoBlock := kit_of_own ic_NoBlock xt_NoBlock su_BadOrder_NoBlock su_NoBlock_NoBlock,
    ki_BadOrder_NoName := kit_of_own ic_NoName xt_NoName su_BadOrder_NoName su_NoName_NoName,
    ki_BadOrder_NoNode := kit_of_own ic_NoNode xt_NoNode su_BadOrder_NoNode su_NoNode_NoNode,
    ki_BadOrder_NoNodes := kit_of_own ic_NoNodes xt_NoNodes su_BadOrder_NoNodes su_NoNodes_NoNodes,
    ki_BadOrder_NoRoom := kit_of_own ic_NoRoom xt_NoRoom su_BadOrder_NoRoom su_NoRoom_NoRoom,
    ki_BadOrder_NotEmpty := kit_of_own ic_NotEmpty xt_NotEmpty su_BadOrder_NotEmpty su_NotEmpty_NotEmpty,
    ki_BadOrder_NotFile := kit_of_own ic_NotFile xt_NotFile su_BadOrder_NotFile su_NotFile_NotFile,
    ki_BadOrder_NotFolder := kit_of_own ic_NotFolder xt_NotFolder su_BadOrder_NotFolder su_NotFolder_NotFolder,
    ki_BadOrder_OutOfPlace := kit_of_own ic_OutOfPlace xt_OutOfPlace su_BadOrder_OutOfPlace su_OutOfPlace_OutOfPlace,
    ki_BadOrder_Stopped := kit_of_own ic_Stopped xt_Stopped su_BadOrder_Stopped su_Stopped_Stopped,
    ki_BadOrder_TooLong := kit_of_own ic_TooLong xt_TooLong su_BadOrder_TooLong su_TooLong_TooLong,
    ki_BadOrder_TooMuch := kit_of_own ic_TooMuch xt_TooMuch su_BadOrder_TooMuch su_TooMuch_TooMuch,
    ki_BadOrder_ValueError := kit_of_VE sv_BadOrder,
    ki_BadOrder_Within := kit_of_own ic_Within xt_Within su_BadOrder_Within su_Within_Within,
    em_BadOrder_KeepError := exm_of_own xs_KeepError ic_KeepError xt_KeepError su_BadOrder_KeepError }
  exact ⟨_, fun s v => .of_eq rfl, fun base _ _ => (ok_law T).imp fun vs H Q E q => law_pure  q⟩
theorem walk {l : PySem.W.OpenLaw} {q : Program} {loose : List Str} {XP : (Str → Option Value) → Heap → Prop} {YP : World → Heap → Prop} {d : DefRec} {K : Params → PySem.W.Frag} (hn : l.most = some 63) (hdf : d.params.defaults = [])
    (hY : ∀ (w : World) (h : Heap), YP w h → (K w.params).In h)
    (F : ∀ (w : World) (mg : Str → Option Value) (fa : Addr) (h : Heap), (K w.params).In h → h.Ns mainGlobals mg → mg d.name = some (.ref fa) →
      ∃ fd : FuncData, (∀ (s : Shared) (u : Value), BindsTo s fd ⟨[u], []⟩ [("_law_script", u)]) ∧ ∀ base : Heap, (K w.params).In base → base.Ns mainGlobals mg → FnOk l.prog w (K w.params) mg base (L2N.CX l.prog w) 8 fa fd ["_law_script"] (spLaw (K w.params))) :
    PySem.W.WalkO q loose XP YP l.row.toRowW d [] (fun f vs => PySem.call f vs) :=
  L2.walk_of (n := 63) (k := 8) (x := "_law_script") (CX := fun w => L2N.CX l.prog w) (sp := fun w => spLaw (K w.params)) hn (by decide) hdf ⟨rfl, by decide, by decide⟩ hY F (fun _ _ a ns hl _ hS => ⟨a, ns, rfl, hS, hl, fun _ => rfl⟩) fun _ _ _ _ _ z => by
    obtain ⟨_, _, _, _, _, _, _, _, _, _, _, _, z⟩ := z
    exact z
end Bk
open PySem PySem.W PyProof.Rows
set_option maxRecDepth 100000 in
set_option maxHeartbeats 0 in
theorem PySem.Challenge.cw_blockkeep_k27_orders_in_lines_holds : PySem.Challenge.rw_blockkeep_k27_orders_in_lines.Holds := by
  w_on; o_law; k_head; (case hw => w_witness2)
  k_fill
  refine Bk.walk (l := PySem.Challenge.rw_blockkeep_k27_orders_in_lines) rfl rfl (fun w h Y => PySem.W.kIn_of Y) ?F
  case F =>
    intro w mg fa h KX G hmg
    refine' Bk.all_mk KX G hmg ?a_FIGURES ?a_MOST_FIGURES ?z_ValueError ?z_bool ?z_int ?z_isinstance ?z_len ?z_list ?z_max ?z_range ?z_str ?z_tuple ?z_zip ?a_KeepError ?a_BadRow ?a_NoBlock ?a_Stopped ?a_BadDisk ?a_NoRoom ?a_TooMuch ?a_BadLog ?a_NoNode ?a_NoNodes ?a_TooLong ?a_OutOfPlace ?a_BadName ?a_BadPath ?a_NotFolder ?a_NotFile ?a_NoName ?a_NameThere ?a_NotEmpty ?a_Within ?a_BadOrder ?a_need_order ?l_need_order ?c_need_order ?k_need_order ?a_number_of ?l_number_of ?c_number_of ?k_number_of ?a_numbers_of ?l_numbers_of ?c_numbers_of ?k_numbers_of ?a_with_numbers ?l_with_numbers ?c_with_numbers ?k_with_numbers ?a_order_of ?l_order_of ?c_order_of ?k_order_of ?a_word_for ?l_word_for ?c_word_for ?k_word_for ?a_line_of ?l_line_of ?c_line_of ?k_line_of ?a_L_cell_at ?l_L_cell_at ?c_L_cell_at ?k_L_cell_at ?a_L_sign ?l_L_sign ?c_L_sign ?k_L_sign ?a_L_path ?l_L_path ?c_L_path ?k_L_path ?a_L_number ?l_L_number ?c_L_number ?k_L_number ?a_L_order ?l_L_order ?c_L_order ?k_L_order ?a_L_line ?l_L_line ?c_L_line ?k_L_line ?a_L_bent ?l_L_bent ?c_L_bent ?k_L_bent ?a_L_number_of ?l_L_number_of ?c_L_number_of ?k_L_number_of ?a_L_parts ?l_L_parts ?c_L_parts ?k_L_parts ?a_L_due ?l_L_due ?c_L_due ?k_L_due ?a_L_alike ?l_L_alike ?c_L_alike ?k_L_alike ?a_L_read ?l_L_read ?c_L_read ?k_L_read ?a_law ?l_law ?c_law ?k_law ?xq_KeepError ?xk_KeepError ?xs_KeepError ?xt_KeepError ?xq_BadRow ?xk_BadRow ?xs_BadRow ?xt_BadRow ?xq_NoBlock ?xk_NoBlock ?xs_NoBlock ?xt_NoBlock ?xq_Stopped ?xk_Stopped ?xs_Stopped ?xt_Stopped ?xq_BadDisk ?xk_BadDisk ?xs_BadDisk ?xt_BadDisk ?xq_NoRoom ?xk_NoRoom ?xs_NoRoom ?xt_NoRoom ?xq_TooMuch ?xk_TooMuch ?xs_TooMuch ?xt_TooMuch ?xq_BadLog ?xk_BadLog ?xs_BadLog ?xt_BadLog ?xq_NoNode ?xk_NoNode ?xs_NoNode ?xt_NoNode ?xq_NoNodes ?xk_NoNodes ?xs_NoNodes ?xt_NoNodes ?xq_TooLong ?xk_TooLong ?xs_TooLong ?xt_TooLong ?xq_OutOfPlace ?xk_OutOfPlace ?xs_OutOfPlace ?xt_OutOfPlace ?xq_BadName ?xk_BadName ?xs_BadName ?xt_BadName ?xq_BadPath ?xk_BadPath ?xs_BadPath ?xt_BadPath ?xq_NotFolder ?xk_NotFolder ?xs_NotFolder ?xt_NotFolder ?xq_NotFile ?xk_NotFile ?xs_NotFile ?xt_NotFile ?xq_NoName ?xk_NoName ?xs_NoName ?xt_NoName ?xq_NameThere ?xk_NameThere ?xs_NameThere ?xt_NameThere ?xq_NotEmpty ?xk_NotEmpty ?xs_NotEmpty ?xt_NotEmpty ?xq_Within ?xk_Within ?xs_Within ?xt_Within ?xq_BadOrder ?xk_BadOrder ?xs_BadOrder ?xt_BadOrder ?xc_hg_BadOrder ?xc_hk_BadOrder ?xc_hd_BadOrder ?xc_ha_BadOrder ?xc_hm_BadOrder ?ic_BadDisk ?ic_BadLog ?ic_BadName ?ic_BadOrder ?ic_BadPath ?ic_BadRow ?ic_KeepError ?ic_NameThere ?ic_NoBlock ?ic_NoName ?ic_NoNode ?ic_NoNodes ?ic_NoRoom ?ic_NotEmpty ?ic_NotFile ?ic_NotFolder ?ic_OutOfPlace ?ic_Stopped ?ic_TooLong ?ic_TooMuch ?ic_Within ?su_BadDisk_BadDisk ?su_BadLog_BadLog ?su_BadName_BadName ?su_BadOrder_BadDisk ?su_BadOrder_BadLog ?su_BadOrder_BadName ?su_BadOrder_BadOrder ?su_BadOrder_BadPath ?su_BadOrder_BadRow ?su_BadOrder_KeepError ?su_BadOrder_NameThere ?su_BadOrder_NoBlock ?su_BadOrder_NoName ?su_BadOrder_NoNode ?su_BadOrder_NoNodes ?su_BadOrder_NoRoom ?su_BadOrder_NotEmpty ?su_BadOrder_NotFile ?su_BadOrder_NotFolder ?su_BadOrder_OutOfPlace ?su_BadOrder_Stopped ?su_BadOrder_TooLong ?su_BadOrder_TooMuch ?su_BadOrder_Within ?su_BadPath_BadPath ?su_BadRow_BadRow ?su_KeepError_KeepError ?su_NameThere_NameThere ?su_NoBlock_NoBlock ?su_NoName_NoName ?su_NoNode_NoNode ?su_NoNodes_NoNodes ?su_NoRoom_NoRoom ?su_NotEmpty_NotEmpty ?su_NotFile_NotFile ?su_NotFolder_NotFolder ?su_OutOfPlace_OutOfPlace ?su_Stopped_Stopped ?su_TooLong_TooLong ?su_TooMuch_TooMuch ?su_Within_Within ?sv_BadOrder ?xc_hn ?xc_ht
    (case a_FIGURES => k_is)
    (case a_MOST_FIGURES => k_is)
    (case z_ValueError => k_is)
    (case z_bool => k_is)
    (case z_int => k_is)
    (case z_isinstance => k_is)
    (case z_len => k_is)
    (case z_list => k_is)
    (case z_max => k_is)
    (case z_range => k_is)
    (case z_str => k_is)
    (case z_tuple => k_is)
    (case z_zip => k_is)
    (case a_KeepError => k_is)
    (case a_BadRow => k_is)
    (case a_NoBlock => k_is)
    (case a_Stopped => k_is)
    (case a_BadDisk => k_is)
    (case a_NoRoom => k_is)
    (case a_TooMuch => k_is)
    (case a_BadLog => k_is)
    (case a_NoNode => k_is)
    (case a_NoNodes => k_is)
    (case a_TooLong => k_is)
    (case a_OutOfPlace => k_is)
    (case a_BadName => k_is)
    (case a_BadPath => k_is)
    (case a_NotFolder => k_is)
    (case a_NotFile => k_is)
    (case a_NoName => k_is)
    (case a_NameThere => k_is)
    (case a_NotEmpty => k_is)
    (case a_Within => k_is)
    (case a_BadOrder => k_is)
    (case a_need_order => k_is)
    (case l_need_order => k_is)
    (case c_need_order => k_is)
    (case k_need_order => k_is)
    (case a_number_of => k_is)
    (case l_number_of => k_is)
    (case c_number_of => k_is)
    (case k_number_of => k_is)
    (case a_numbers_of => k_is)
    (case l_numbers_of => k_is)
    (case c_numbers_of => k_is)
    (case k_numbers_of => k_is)
    (case a_with_numbers => k_is)
    (case l_with_numbers => k_is)
    (case c_with_numbers => k_is)
    (case k_with_numbers => k_is)
    (case a_order_of => k_is)
    (case l_order_of => k_is)
    (case c_order_of => k_is)
    (case k_order_of => k_is)
    (case a_word_for => k_is)
    (case l_word_for => k_is)
    (case c_word_for => k_is)
    (case k_word_for => k_is)
    (case a_line_of => k_is)
    (case l_line_of => k_is)
    (case c_line_of => k_is)
    (case k_line_of => k_is)
    (case a_L_cell_at => k_is)
    (case l_L_cell_at => k_is)
    (case c_L_cell_at => k_is)
    (case k_L_cell_at => k_is)
    (case a_L_sign => k_is)
    (case l_L_sign => k_is)
    (case c_L_sign => k_is)
    (case k_L_sign => k_is)
    (case a_L_path => k_is)
    (case l_L_path => k_is)
    (case c_L_path => k_is)
    (case k_L_path => k_is)
    (case a_L_number => k_is)
    (case l_L_number => k_is)
    (case c_L_number => k_is)
    (case k_L_number => k_is)
    (case a_L_order => k_is)
    (case l_L_order => k_is)
    (case c_L_order => k_is)
    (case k_L_order => k_is)
    (case a_L_line => k_is)
    (case l_L_line => k_is)
    (case c_L_line => k_is)
    (case k_L_line => k_is)
    (case a_L_bent => k_is)
    (case l_L_bent => k_is)
    (case c_L_bent => k_is)
    (case k_L_bent => k_is)
    (case a_L_number_of => k_is)
    (case l_L_number_of => k_is)
    (case c_L_number_of => k_is)
    (case k_L_number_of => k_is)
    (case a_L_parts => k_is)
    (case l_L_parts => k_is)
    (case c_L_parts => k_is)
    (case k_L_parts => k_is)
    (case a_L_due => k_is)
    (case l_L_due => k_is)
    (case c_L_due => k_is)
    (case k_L_due => k_is)
    (case a_L_alike => k_is)
    (case l_L_alike => k_is)
    (case c_L_alike => k_is)
    (case k_L_alike => k_is)
    (case a_L_read => k_is)
    (case l_L_read => k_is)
    (case c_L_read => k_is)
    (case k_L_read => k_is)
    (case a_law => k_is)
    (case l_law => k_is)
    (case c_law => k_is)
    (case k_law => k_is)
    (case xq_KeepError => k_exc)
    (case xk_KeepError => k_is)
    (case xs_KeepError => k_is)
    (case xt_KeepError => k_is)
    (case xq_BadRow => k_exc)
    (case xk_BadRow => k_is)
    (case xs_BadRow => k_is)
    (case xt_BadRow => k_is)
    (case xq_NoBlock => k_exc)
    (case xk_NoBlock => k_is)
    (case xs_NoBlock => k_is)
    (case xt_NoBlock => k_is)
    (case xq_Stopped => k_exc)
    (case xk_Stopped => k_is)
    (case xs_Stopped => k_is)
    (case xt_Stopped => k_is)
    (case xq_BadDisk => k_exc)
    (case xk_BadDisk => k_is)
    (case xs_BadDisk => k_is)
    (case xt_BadDisk => k_is)
    (case xq_NoRoom => k_exc)
    (case xk_NoRoom => k_is)
    (case xs_NoRoom => k_is)
    (case xt_NoRoom => k_is)
    (case xq_TooMuch => k_exc)
    (case xk_TooMuch => k_is)
    (case xs_TooMuch => k_is)
    (case xt_TooMuch => k_is)
    (case xq_BadLog => k_exc)
    (case xk_BadLog => k_is)
    (case xs_BadLog => k_is)
    (case xt_BadLog => k_is)
    (case xq_NoNode => k_exc)
    (case xk_NoNode => k_is)
    (case xs_NoNode => k_is)
    (case xt_NoNode => k_is)
    (case xq_NoNodes => k_exc)
    (case xk_NoNodes => k_is)
    (case xs_NoNodes => k_is)
    (case xt_NoNodes => k_is)
    (case xq_TooLong => k_exc)
    (case xk_TooLong => k_is)
    (case xs_TooLong => k_is)
    (case xt_TooLong => k_is)
    (case xq_OutOfPlace => k_exc)
    (case xk_OutOfPlace => k_is)
    (case xs_OutOfPlace => k_is)
    (case xt_OutOfPlace => k_is)
    (case xq_BadName => k_exc)
    (case xk_BadName => k_is)
    (case xs_BadName => k_is)
    (case xt_BadName => k_is)
    (case xq_BadPath => k_exc)
    (case xk_BadPath => k_is)
    (case xs_BadPath => k_is)
    (case xt_BadPath => k_is)
    (case xq_NotFolder => k_exc)
    (case xk_NotFolder => k_is)
    (case xs_NotFolder => k_is)
    (case xt_NotFolder => k_is)
    (case xq_NotFile => k_exc)
    (case xk_NotFile => k_is)
    (case xs_NotFile => k_is)
    (case xt_NotFile => k_is)
    (case xq_NoName => k_exc)
    (case xk_NoName => k_is)
    (case xs_NoName => k_is)
    (case xt_NoName => k_is)
    (case xq_NameThere => k_exc)
    (case xk_NameThere => k_is)
    (case xs_NameThere => k_is)
    (case xt_NameThere => k_is)
    (case xq_NotEmpty => k_exc)
    (case xk_NotEmpty => k_is)
    (case xs_NotEmpty => k_is)
    (case xt_NotEmpty => k_is)
    (case xq_Within => k_exc)
    (case xk_Within => k_is)
    (case xs_Within => k_is)
    (case xt_Within => k_is)
    (case xq_BadOrder => k_exc)
    (case xk_BadOrder => k_is)
    (case xs_BadOrder => k_is)
    (case xt_BadOrder => k_is)
    (case xc_hg_BadOrder => k_is)
    (case xc_hk_BadOrder => k_is)
    (case xc_hd_BadOrder => k_is)
    (case xc_ha_BadOrder => k_is)
    (case xc_hm_BadOrder => k_is)
    (case ic_BadDisk => k_is)
    (case ic_BadLog => k_is)
    (case ic_BadName => k_is)
    (case ic_BadOrder => k_is)
    (case ic_BadPath => k_is)
    (case ic_BadRow => k_is)
    (case ic_KeepError => k_is)
    (case ic_NameThere => k_is)
    (case ic_NoBlock => k_is)
    (case ic_NoName => k_is)
    (case ic_NoNode => k_is)
    (case ic_NoNodes => k_is)
    (case ic_NoRoom => k_is)
    (case ic_NotEmpty => k_is)
    (case ic_NotFile => k_is)
    (case ic_NotFolder => k_is)
    (case ic_OutOfPlace => k_is)
    (case ic_Stopped => k_is)
    (case ic_TooLong => k_is)
    (case ic_TooMuch => k_is)
    (case ic_Within => k_is)
    (case su_BadDisk_BadDisk => k_is)
    (case su_BadLog_BadLog => k_is)
    (case su_BadName_BadName => k_is)
    (case su_BadOrder_BadDisk => k_is)
    (case su_BadOrder_BadLog => k_is)
    (case su_BadOrder_BadName => k_is)
    (case su_BadOrder_BadOrder => k_is)
    (case su_BadOrder_BadPath => k_is)
    (case su_BadOrder_BadRow => k_is)
    (case su_BadOrder_KeepError => k_is)
    (case su_BadOrder_NameThere => k_is)
    (case su_BadOrder_NoBlock => k_is)
    (case su_BadOrder_NoName => k_is)
    (case su_BadOrder_NoNode => k_is)
    (case su_BadOrder_NoNodes => k_is)
    (case su_BadOrder_NoRoom => k_is)
    (case su_BadOrder_NotEmpty => k_is)
    (case su_BadOrder_NotFile => k_is)
    (case su_BadOrder_NotFolder => k_is)
    (case su_BadOrder_OutOfPlace => k_is)
    (case su_BadOrder_Stopped => k_is)
    (case su_BadOrder_TooLong => k_is)
    (case su_BadOrder_TooMuch => k_is)
    (case su_BadOrder_Within => k_is)
    (case su_BadPath_BadPath => k_is)
    (case su_BadRow_BadRow => k_is)
    (case su_KeepError_KeepError => k_is)
    (case su_NameThere_NameThere => k_is)
    (case su_NoBlock_NoBlock => k_is)
    (case su_NoName_NoName => k_is)
    (case su_NoNode_NoNode => k_is)
    (case su_NoNodes_NoNodes => k_is)
    (case su_NoRoom_NoRoom => k_is)
    (case su_NotEmpty_NotEmpty => k_is)
    (case su_NotFile_NotFile => k_is)
    (case su_NotFolder_NotFolder => k_is)
    (case su_OutOfPlace_OutOfPlace => k_is)
    (case su_Stopped_Stopped => k_is)
    (case su_TooLong_TooLong => k_is)
    (case su_TooMuch_TooMuch => k_is)
    (case su_Within_Within => k_is)
    (case sv_BadOrder => k_is)
    (case xc_hn => k_is)
    (case xc_ht => k_is)
