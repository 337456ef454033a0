import PyProof.Rows.All
import Wide.All
import OpenK.AllK
import Wide.FinOn
import HandS.ForMost
import HandS.Evl
import HandS.IsInst
import HandS.TupAny
import HandS.TupMul
import HandS.Walk
import HandS.Zip
import HandS.Rev
import HandS.Conv
import HandS.More
import KE.KTupSum
import HandS.Wide
import HandS.Style
import HandS.Set
import HandS.SetFor
import HandS.TupLe
import HandS.Deep
import HandS.TupSets
import HandS.SortOrd
import HandS.TupLen
import PyProof.Draws
import PyProof.EnumMake
import KE.KDictDisplayH
import KE.LtData
import KE.DataCmp
import HandS.RevRange
import PySem.Challenge.RW_lostmark_k83_whole_nearness
set_option Elab.async false
set_option linter.all false
set_option maxRecDepth 100000
set_option maxHeartbeats 2000000
/-! general layer: rules of many kinds at once, steps of readings -/
namespace LM
open PySem PySem.Spec PyProof.Rows L2

/-! ### heaps -/
abbrev Ex := Evl.Ex
/-- all but p stands -/
def ExB (p : Addr) (H H' : Hp) : Prop := ∀ a o, a ≠ p → H a = some o → H' a = some o
theorem ExB.of {p : Addr} {H H' : Hp} (e : Ex H H') : ExB p H H' := fun a o _ h => e a o h
theorem ExB.trans {p : Addr} {H H1 H2 : Hp} (e : ExB p H H1) (e2 : ExB p H1 H2) : ExB p H H2 := fun a o n h => e2 a o n (e a o n h)
theorem ExB.refl {p : Addr} {H : Hp} : ExB p H H := fun _ _ _ h => h
theorem ExB.upd {p : Addr} {H : Hp} {o : HO} : ExB p H (upd H p o) := fun a u n h => by rw [upd_ne n]; exact h
theorem ExB.ex {p : Addr} {H H1 H2 : Hp} (e : ExB p H H1) (e2 : Ex H1 H2) : ExB p H H2 := fun a o n h => e2 a o (e a o n h)
theorem exExB {p : Addr} {H H1 H2 : Hp} (e : Ex H H1) (e2 : ExB p H1 H2) : ExB p H H2 := fun a o n h => e2 a o n (e a o h)
/-- a p that the first heap does not know -/
theorem ExB.new {p : Addr} {H H1 H2 : Hp} (e : Ex H H1) (e2 : ExB p H1 H2) (n : H p = none) : Ex H H2 := fun a o h => e2 a o (ne_of_none h n) (e a o h)
theorem exB_rd {p a : Addr} {H H' : Hp} {u : HO} {ys : List V} (e : ExB p H H') (hp : H p = some (.lst ys)) (hu : ∀ zs, u ≠ .lst zs) (h : Rd H a u) : Rd H' a u := by
  rcases h with h | ⟨o, h⟩
  · exact .inl (e _ _ (fun z => by subst z; rw [hp] at h; exact hu ys (Option.some.inj h).symm) h)
  · exact .inr ⟨o, e _ _ (fun z => by subst z; rw [hp] at h; cases h) h⟩
theorem exB_t {K : PySem.W.Frag} {p a : Addr} {H H' : Hp} {xs ys : List V} (e : ExB p H H') (hp : H p = some (.lst ys)) (h : SqT K H a xs) : SqT K H' a xs := by
  rcases h with h | h
  · exact .inl (exB_rd e hp (fun _ z => by cases z) h)
  · exact .inr h
theorem exB_l {K : PySem.W.Frag} {p a : Addr} {H H' : Hp} {xs : List V} (e : ExB p H H') (hn : a ≠ p) (h : SqL K H a xs) : SqL K H' a xs := by
  rcases h with (h | ⟨o, h⟩) | h
  · exact .inl (.inl (e _ _ hn h))
  · exact .inl (.inr ⟨o, e _ _ hn h⟩)
  · exact .inr h
theorem ne_l {p a : Addr} {H : Hp} {o : HO} (h : H a = some o) (n : H p = none) : a ≠ p := ne_of_none h n
theorem exH {H H' : Hp} {a : Addr} {o : HO} (e : Ex H H') (h : H a = some o) : H' a = some o := e a o h
theorem exBH {p : Addr} {H H' : Hp} {a : Addr} {o : HO} (e : ExB p H H') (n : a ≠ p) (h : H a = some o) : H' a = some o := e a o n h

/-! ### new objects -/
def newT (Q : VK) (xs : List V) (H : Hp) : Prop := xs.length ≤ sizeLine ∧ ∀ p, H p = none → Q (.ref p) (upd H p (.tup xs))
def newL (Q : VK) (xs : List V) (H : Hp) : Prop := xs.length ≤ sizeLine ∧ ∀ p, H p = none → Q (.ref p) (upd H p (.lst xs))
theorem sz {n : Nat} (h : n ≤ 100000) : n ≤ sizeLine := Nat.le_trans h (by decide)
theorem szl {n : Nat} (h : n < 100000) : n < sizeLine := Nat.lt_of_lt_of_le h (by decide)

/-! ### operators of many kinds -/
def rAddP (K : PySem.W.Frag) : R2 := fun x y H Q => rI0 (fun i j => .int (i + j)) x y H Q ∨ rCatA K x y H Q ∨ rCat x y H Q ∨ ∃ i j, x = .str i ∧ y = .str j ∧ i.length + j.length ≤ sizeLine ∧ Q (.str (i ++ j)) H
def rSubP : R2 := rI0 fun i j => .int (i - j)
def rModP : R2 := rI (fun _ j => 0 < j) fun i j => .int (i % j)
def rDivP : R2 := rI CDivW fun i j => .int (i / j)
def rPowP : R2 := rI CPow fun i j => .int (i ^ j.toNat)
def rLtP : R2 := rI0 fun i j => .bl (decide (i < j))
def rLeP : R2 := rI0 fun i j => .bl (decide (i ≤ j))
def rGtP : R2 := rI0 fun i j => .bl (decide (j < i))
def rGeP : R2 := rI0 fun i j => .bl (decide (j ≤ i))
def rEqP (K : PySem.W.Frag) : R2 := fun x y H Q => rEq x y H Q ∨ rEqD K x y H Q
def rNeP (K : PySem.W.Frag) : R2 := fun x y H Q => rNe x y H Q ∨ rNeD K x y H Q
def rRep1 (K : PySem.W.Frag) : R2 := fun x y H Q => ∃ l k xs, x = .ref l ∧ y = .int k ∧ SqT K H l xs ∧ k = 1 ∧ Q (.ref l) H
def rMulP (K : PySem.W.Frag) : R2 := fun x y H Q => rI CMul (fun i j => .int (i * j)) x y H Q ∨ rRep1 K x y H Q ∨ rRepT K x y H Q ∨ rRep x y H Q
def rLenP (K : PySem.W.Frag) : List V → Hp → VK → Prop := fun xs H Q => ∃ x n, xs = [x] ∧ LenV K x H n ∧ Q (.int (n : Nat)) H
def rAbsP : List V → Hp → VK → Prop := fun xs H Q => ∃ i, xs = [.int i] ∧ Q (.int (if i < 0 then -i else i)) H
def rMax2P : List V → Hp → VK → Prop := fun xs H Q => ∃ i j, xs = [.int i, .int j] ∧ Q (.int (if j > i then j else i)) H
def rMin2P : List V → Hp → VK → Prop := fun xs H Q => ∃ i j, xs = [.int i, .int j] ∧ Q (.int (if j < i then j else i)) H
def rTupOf (K : PySem.W.Frag) : List V → Hp → VK → Prop := fun xs H Q => ∃ p ys, xs = [.ref p] ∧ ((SqL K H p ys ∧ ∀ l, H l = none → Q (.ref l) (upd H l (.tup ys))) ∨ (SqT K H p ys ∧ Q (.ref p) H))
def rListOf (K : PySem.W.Frag) : List V → Hp → VK → Prop := fun xs H Q => ∃ p ys, xs = [.ref p] ∧ (SqL K H p ys ∨ SqT K H p ys) ∧ ∀ l, H l = none → Q (.ref l) (upd H l (.lst ys))
def rSlP (K : PySem.W.Frag) : V → Option Int → Option Int → Hp → VK → Prop := fun x lo hi H Q => rSlL K x lo hi H Q ∨ rSlA K x lo hi H Q
section
variable {X : Cx}
theorem tuple_mul1 (l : Addr) (items : Array Value) (n : Nat) (dd : Option Addr) (sl : Array (Option Value)) (u : Tok) :
    Meets (Builtin.«tuple.__mul__» ⟨[.ref l, .int 1 u], []⟩) (fun _ R s => s.heap.get? l = some { cls := .type "tuple", dict := dd, data := .seq items n, slots := sl } ∧
      R (.ok (.ret (Value.ref l))) s) :=
  .of_wp fun prog w A R s h => by
    obtain ⟨hp, g, d, tk, os⟩ := s
    obtain ⟨hl, h⟩ := h
    have f1 := AutoSeq1.idx_int
    have c0 : (decide ((1 : Int) < -(2 ^ 63)) || decide ((1 : Int) ≥ 2 ^ 63)) = false := by decide
    have c1 : (items.isEmpty || (1 : Int) == 1) = true := by simp
    wp_walk using wpAny_loadPart' hl
    repeat (first
      | (refine wpAny_ite_false (decide_eq_false (by rw [c0]; exact Bool.false_ne_true)) ?_; wp_walk using wpAny_loadPart' hl)
      | (refine wpAny_ite_true (decide_eq_true (by rw [c1])) ?_; wp_walk using wpAny_loadPart' hl))
    exact ⟨_, rfl, h⟩
theorem op_rep1 : OpR X (binaryOp .Mult) (rRep1 X.K) := by
  intro pins s σ H x y v u Q I rx ry h
  obtain ⟨l, k, xs, rfl, rfl, hT, rfl, q⟩ := h
  cases rx
  obtain ⟨t, rfl⟩ := ry
  obtain ⟨its, r, ⟨⟨cls, dd, data, sl⟩, ho, hc, n, hd⟩, hs⟩ := I.tuple hT
  simp only at hc hd
  subst hc hd
  refine wpAny_binaryOp_repeat_ref (T := "tuple") (U := "int") (by decide) ⟨_, ho, rfl⟩ (fun s' => typeIs_int s' 1 t) noFill_tuple_mul F.fills_int_mul F.slot_int_rmul repeat_tuple F.slot_int_index.lookup
    (call_meets F.slot_int_rmul (typeIs_int s 1 t) F.entry_int_rmul (F.args_int_rmul_2 _ _) (int_rmul_tuple 1 t l its.toArray n dd sl)
      ⟨ho, rfl, ⟨_, ho, rfl⟩, call_meets F.slot_tuple_mul ⟨_, ho, rfl⟩ F.entry_tuple_mul (F.args_tuple_mul_2 _ _) (tuple_mul1 l its.toArray n dd sl t) ⟨ho, ?_⟩⟩)
  exact ⟨.ref l, H, I, rfl, q⟩
theorem op_addP : OpR X (binaryOp .Add) (rAddP X.K) := op_add.or (op_catA.or (op_cat.or op_add_str))
theorem op_subP : OpR X (binaryOp .Sub) rSubP := op_sub
theorem op_modP : OpR X (binaryOp .Mod) rModP := op_mod
theorem op_divP : OpR X (binaryOp .FloorDiv) rDivP := op_fdivW
theorem op_powP : OpR X (binaryOp .Pow) rPowP := op_pow
theorem op_mulP : OpR X (binaryOp .Mult) (rMulP X.K) := op_mul.or (op_rep1.or (op_repT.or op_rep))
theorem op_ltP : OpR X (compareOp .Lt) rLtP := op_lt
theorem op_leP : OpR X (compareOp .LtE) rLeP := op_le
theorem op_gtP : OpR X (compareOp .Gt) rGtP := op_gt
theorem op_geP : OpR X (compareOp .GtE) rGeP := op_ge
theorem op_eqP (hu : X.A.units + 64 < cLine) : OpR X (compareOp .Eq) (rEqP X.K) := op_eq.or (op_eqD hu)
theorem op_neP (hu : X.A.units + 64 < cLine) : OpR X (compareOp .NotEq) (rNeP X.K) := op_ne.or (op_neD hu)
theorem call_lenP : CallR X (.builtin "len") (rLenP X.K) := call_len
theorem call_absP : CallR X (.builtin "abs") rAbsP := call_abs
theorem call_max2P (hc : X.calm = true) : CallR X (.builtin "max") rMax2P := call_max2 hc
theorem call_min2P (hc : X.calm = true) : CallR X (.builtin "min") rMin2P := call_min2 hc
theorem call_tupOf : CallR X (.type "tuple") (rTupOf X.K) := call_tuple_of
theorem call_listOf : CallR X (.type "list") (rListOf X.K) := call_list_of
theorem sl_P : SlR X (rSlP X.K) := sl_list.or sl_tupA
/-- a walk over a list or a tuple -/
def iSeq (K : PySem.W.Frag) (tl : TE) : TI := fun σ H R => tl σ H fun x H1 => ∃ a, x = .ref a ∧ ((∃ xs, SqL K H1 a xs ∧ R (Itl K a) H1) ∨ (∃ xs, SqT K H1 a xs ∧ R (Itt K a) H1))
theorem pi_seq {tg l : Expr} {tl : TE} (hl : PE X l tl) : PI X tg l (iSeq X.K tl) := by
  refine ⟨fun pins s σ H R I h => ?_⟩
  refine thn (hl.run pins s σ H _ I h) fun v s1 ⟨x, H1, I1, r1, q1⟩ => ?_
  obtain ⟨a, e, q⟩ := q1
  subst e
  cases r1
  rcases q with ⟨xs, hq, q⟩ | ⟨xs, hq, q⟩
  · obtain ⟨its, rv, p, hz⟩ := I1.list hq
    refine wpAny_pyIter_list p.isList ?_
    refine ⟨s1.heap.objs.size, [s1.heap.objs.size], _, _, H1, rfl, I1.kept (t' := s1.toks) fun b o e => Heap.get?_push_of_some _ e, turn_list a _, ⟨_, Heap.get?_push_size _ rfl, rfl, rfl⟩, fun b hb => ?_, q⟩
    have e : b = s1.heap.objs.size := by simpa using hb
    subst e
    exact I1.fpOk (Nat.le_refl _) (I1.hok.fresh (Nat.le_refl _))
  · obtain ⟨its, rv, p, hz⟩ := I1.tuple hq
    refine wpAny_pyIter_tuple (show s1.heap.IsTuple a its.toArray from p) ?_
    refine ⟨s1.heap.objs.size, [s1.heap.objs.size], _, _, H1, rfl, I1.kept (t' := s1.toks) fun b o e => Heap.get?_push_of_some _ e, turn_tuple a _, ⟨_, Heap.get?_push_size _ rfl, rfl, rfl⟩, fun b hb => ?_, q⟩
    have e : b = s1.heap.objs.size := by simpa using hb
    subst e
    exact I1.fpOk (Nat.le_refl _) (I1.hok.fresh (Nat.le_refl _))
end

/-! ### steps of readings -/
section
variable {K : PySem.W.Frag} {σ : L2.St} {H : Hp} {Q : VK} {ta tb tc te : TE} {D : Ends} {t u : TS} {ct : TT}
theorem w_var {i : Nat} {v : V} (h : σ[i]? = some (some v)) (k : Q v H) : tVar i σ H Q := ⟨v, h, k⟩
theorem w_c {v : V} (k : Q v H) : tC v σ H Q := k
theorem w_op {r : R2} (k : ta σ H fun x H1 => tb σ H1 fun y H2 => r x y H2 Q) : tOp r ta tb σ H Q := k
theorem w_un {r : V → Hp → VK → Prop} (k : ta σ H fun x H1 => r x H1 Q) : tUn r ta σ H Q := k
theorem w_chain {r r' : R2} (k : ta σ H fun x H1 => tb σ H1 fun y H2 => r x y H2 fun z H3 => ∃ k, z = .bl k ∧ (if k = true then tc σ H3 fun w' H4 => r' y w' H4 Q else Q (.bl false) H3)) : tChain r r' ta tb tc σ H Q := k
theorem w_cons {tr : TA} {Q : List V → Hp → Prop} (k : ta σ H fun x H1 => tr σ H1 fun xs H2 => Q (x :: xs) H2) : tCons ta tr σ H Q := k
theorem w_nil {Q : List V → Hp → Prop} (k : Q [] H) : tNil σ H Q := k
theorem w_cb {r : List V → Hp → VK → Prop} {t : TA} (k : t σ H fun vs H1 => r vs H1 Q) : tCB r t σ H Q := k
theorem w_call {sp : Sp} {E : XK} {t : TA} (k : t σ H fun vs H1 => sp (vs ++ []) H1 Q E) : tCall sp [] E t σ H Q := k
theorem w_tup {t : TA} (k : t σ H fun xs H1 => newT Q xs H1) : tTup t σ H Q := k
theorem w_lst {t : TA} (k : t σ H fun xs H1 => newL Q xs H1) : tLst t σ H Q := k
theorem w_newT {xs : List V} (hz : xs.length ≤ 100000) (k : ∀ p H2, H p = none → Ex H H2 → H2 p = some (.tup xs) → Q (.ref p) H2) : newT Q xs H := ⟨sz hz, fun p hp => k p _ hp (Evl.Ex.new hp) upd_same⟩
theorem w_newL {xs : List V} (hz : xs.length ≤ 100000) (k : ∀ p H2, H p = none → Ex H H2 → H2 p = some (.lst xs) → Q (.ref p) H2) : newL Q xs H := ⟨sz hz, fun p hp => k p _ hp (Evl.Ex.new hp) upd_same⟩
theorem w_test {Q : Bool → Hp → Prop} (k : te σ H fun x H1 => ∃ c, x = .bl c ∧ Q c H1) : tTest te σ H Q := k
theorem w_tB {Q : Bool → Hp → Prop} (k : te σ H fun x H1 => ∃ c, x = .bl c ∧ Q c H1) : tB te σ H Q := k
theorem w_bl {c : Bool} {P : Bool → Prop} (k : P c) : ∃ c', V.bl c = .bl c' ∧ P c' := ⟨c, rfl, k⟩
theorem w_and {t u : TT} {Q : Bool → Hp → Prop} (k : t σ H fun c H1 => if c = true then u σ H1 Q else Q false H1) : tAnd t u σ H Q := k
theorem w_or {t u : TT} {Q : Bool → Hp → Prop} (k : t σ H fun c H1 => if c = true then Q true H1 else u σ H1 Q) : tOr t u σ H Q := k
theorem w_not {t : TT} {Q : Bool → Hp → Prop} (k : t σ H fun c H1 => Q (!c) H1) : tNot t σ H Q := k
theorem w_andV (k : ta σ H fun x H1 => ∃ c, x = .bl c ∧ if c = true then tb σ H1 Q else Q (.bl false) H1) : tAndV ta tb σ H Q := k
theorem w_orV (k : ta σ H fun x H1 => ∃ c, x = .bl c ∧ if c = true then Q (.bl true) H1 else tb σ H1 Q) : tOrV ta tb σ H Q := k
theorem w_notV (k : ta σ H fun x H1 => ∃ c, x = .bl c ∧ Q (.bl (!c)) H1) : tNotV ta σ H Q := k
theorem w_if {c : TT} (k : c σ H fun b H1 => if b = true then ta σ H1 Q else tb σ H1 Q) : tIf c ta tb σ H Q := k
theorem w_no {Q : Option Int → Hp → Prop} (k : Q none H) : tNoPart σ H Q := k
theorem w_part {Q : Option Int → Hp → Prop} (k : te σ H fun x H1 => ∃ i, x = .int i ∧ Q (some i) H1) : tPart te σ H Q := k
theorem w_int {i : Int} {P : Int → Prop} (k : P i) : ∃ j, V.int i = .int j ∧ P j := ⟨i, rfl, k⟩
theorem w_sl {r : V → Option Int → Option Int → Hp → VK → Prop} {tl th : TO} (k : te σ H fun x H1 => tl σ H1 fun l H2 => th σ H2 fun u H3 => r x l u H3 Q) : tSl r te tl th σ H Q := k
theorem w_yes {Q : Bool → Hp → Prop} (k : Q true H) : tYes σ H Q := k
/-! leaves -/
theorem l_add {i j : Int} (k : Q (.int (i + j)) H) : rAddP K (.int i) (.int j) H Q := .inl ⟨i, j, rfl, rfl, k⟩
theorem l_addT {a b : Addr} {xs ys : List V} (h1 : SqT K H a xs) (h2 : SqT K H b ys) (hz : xs.length + ys.length ≤ 100000) (k : ∀ p H', Ex H H' → SqT K H' p (xs ++ ys) → Q (.ref p) H') : rAddP K (.ref a) (.ref b) H Q := by
  refine .inr (.inl ⟨a, b, xs, ys, rfl, rfl, h1, h2, sz hz, fun e => ?_, fun _ e => ?_, fun _ _ p hp => ?_⟩)
  · subst e; exact k _ _ (Evl.Ex.refl _) h2
  · subst e; exact k _ _ (Evl.Ex.refl _) (by rw [List.append_nil]; exact h1)
  · exact k _ _ (Evl.Ex.new hp) (SqT.of upd_same)
theorem l_addL {a b : Addr} {xs ys : List V} (h1 : H a = some (.lst xs)) (h2 : H b = some (.lst ys)) (hz : xs.length + ys.length ≤ 100000) (k : ∀ p H', H p = none → Ex H H' → H' p = some (.lst (xs ++ ys)) → Q (.ref p) H') : rAddP K (.ref a) (.ref b) H Q :=
  .inr (.inr (.inl ⟨a, b, xs, ys, rfl, rfl, h1, h2, sz hz, fun p hp => k _ _ hp (Evl.Ex.new hp) upd_same⟩))
theorem l_addS {x y : Str} (hz : x.length + y.length ≤ 100000) (k : Q (.str (x ++ y)) H) : rAddP K (.str x) (.str y) H Q := .inr (.inr (.inr ⟨x, y, rfl, rfl, sz hz, k⟩))
theorem l_sub {i j : Int} (k : Q (.int (i - j)) H) : rSubP (.int i) (.int j) H Q := ⟨i, j, rfl, rfl, k⟩
theorem l_mod {i j : Int} (h : 0 < j) (k : Q (.int (i % j)) H) : rModP (.int i) (.int j) H Q := ⟨i, j, rfl, rfl, h, k⟩
theorem l_div {i j : Int} (h : 0 < j ∧ j < 4611686018427387904) (k : Q (.int (i / j)) H) : rDivP (.int i) (.int j) H Q := ⟨i, j, rfl, rfl, wide_div (b := 62) h.1 (by omega) (by decide) (by decide), k⟩
theorem l_pow {i j : Int} (h : 0 ≤ j ∧ j ≤ 1000000 ∧ i.natAbs < 2 ^ 64) (k : Q (.int (i ^ j.toNat)) H) : rPowP (.int i) (.int j) H Q := ⟨i, j, rfl, rfl, h, k⟩
theorem l_mul {i j : Int} (h : (-(2 ^ 64) < i ∧ i < 2 ^ 64) ∨ (-(2 ^ 64) < j ∧ j < 2 ^ 64)) (k : Q (.int (i * j)) H) : rMulP K (.int i) (.int j) H Q := .inl ⟨i, j, rfl, rfl, h, k⟩
theorem l_mulT {a : Addr} {xs : List V} {m : Int} (h1 : SqT K H a xs) (hn : xs ≠ []) (hx : xs.length ≤ 1000) (hk : 1 ≤ m ∧ m ≤ 1000) (k : ∀ p H', Ex H H' → SqT K H' p (List.replicate m.toNat xs).flatten → Q (.ref p) H') : rMulP K (.ref a) (.int m) H Q := by
  by_cases e : m = 1
  · subst e
    exact .inr (.inl ⟨a, 1, xs, rfl, rfl, h1, rfl, k _ _ (Evl.Ex.refl _) (by simpa using h1)⟩)
  · exact .inr (.inr (.inl ⟨a, m, xs, rfl, rfl, h1, hn, by omega, hk.2, hx, fun p hp => k _ _ (Evl.Ex.new hp) (SqT.of upd_same)⟩))
theorem l_mulL {a : Addr} {xs : List V} {m : Int} (h1 : H a = some (.lst xs)) (hk : -(2 ^ 63) ≤ m ∧ m < 2 ^ 63) (hz : xs.length * m.toNat ≤ 100000) (k : ∀ p H', H p = none → Ex H H' → H' p = some (.lst (List.replicate m.toNat xs).flatten) → Q (.ref p) H') : rMulP K (.ref a) (.int m) H Q :=
  .inr (.inr (.inr ⟨a, m, xs, rfl, rfl, h1, hk.1, hk.2, sz hz, fun p hp => k _ _ hp (Evl.Ex.new hp) upd_same⟩))
theorem l_lt {i j : Int} (k : Q (.bl (decide (i < j))) H) : rLtP (.int i) (.int j) H Q := ⟨i, j, rfl, rfl, k⟩
theorem l_le {i j : Int} (k : Q (.bl (decide (i ≤ j))) H) : rLeP (.int i) (.int j) H Q := ⟨i, j, rfl, rfl, k⟩
theorem l_gt {i j : Int} (k : Q (.bl (decide (j < i))) H) : rGtP (.int i) (.int j) H Q := ⟨i, j, rfl, rfl, k⟩
theorem l_ge {i j : Int} (k : Q (.bl (decide (j ≤ i))) H) : rGeP (.int i) (.int j) H Q := ⟨i, j, rfl, rfl, k⟩
theorem decI {i j : Int} : decide (V.int i = V.int j) = decide (i = j) := by simp
theorem l_eqI {i j : Int} (k : Q (.bl (decide (i = j))) H) : rEqP K (.int i) (.int j) H Q := .inl ⟨rfl, by rw [decI]; exact k⟩
theorem l_neI {i j : Int} (k : Q (.bl (!decide (i = j))) H) : rNeP K (.int i) (.int j) H Q := .inl ⟨rfl, by rw [decI]; exact k⟩
theorem l_eqD {x y : V} {d e : PyData} (h1 : Dp K H x d) (h2 : Dp K H y e) (s1 : SeqAt.shaped d = true) (s2 : SeqAt.shaped e = true) (k : Q (.bl (PyData.eqv d e)) H) : rEqP K x y H Q := .inr ⟨d, e, h1, h2, s1, s2, k⟩
theorem l_neD {x y : V} {d e : PyData} (h1 : Dp K H x d) (h2 : Dp K H y e) (s1 : SeqAt.shaped d = true) (s2 : SeqAt.shaped e = true) (k : Q (.bl (!PyData.eqv d e)) H) : rNeP K x y H Q := .inr ⟨d, e, h1, h2, s1, s2, k⟩
theorem l_lenT {a : Addr} {xs : List V} (h : SqT K H a xs) (k : Q (.int (xs.length : Nat)) H) : rLenP K [.ref a] H Q := ⟨_, _, rfl, .inr ⟨xs, h, rfl⟩, k⟩
theorem l_lenL {a : Addr} {xs : List V} (h : SqL K H a xs) (k : Q (.int (xs.length : Nat)) H) : rLenP K [.ref a] H Q := ⟨_, _, rfl, .inl ⟨xs, h, rfl⟩, k⟩
theorem l_lenS {z : Str} (h : z.length ≤ 100000) (k : Q (.int (z.length : Nat)) H) : rLenP K [.str z] H Q := ⟨_, _, rfl, ⟨sz h, rfl⟩, k⟩
theorem l_abs {i : Int} (k : Q (.int (if i < 0 then -i else i)) H) : rAbsP [.int i] H Q := ⟨i, rfl, k⟩
theorem l_max2 {i j : Int} (k : Q (.int (if j > i then j else i)) H) : rMax2P [.int i, .int j] H Q := ⟨i, j, rfl, k⟩
theorem l_min2 {i j : Int} (k : Q (.int (if j < i then j else i)) H) : rMin2P [.int i, .int j] H Q := ⟨i, j, rfl, k⟩
theorem l_tupL {a : Addr} {xs : List V} (h : SqL K H a xs) (k : ∀ p H', Ex H H' → SqT K H' p xs → Q (.ref p) H') : rTupOf K [.ref a] H Q := ⟨a, xs, rfl, .inl ⟨h, fun l hl => k _ _ (Evl.Ex.new hl) (SqT.of upd_same)⟩⟩
theorem l_listOf {a : Addr} {xs : List V} (h : SqL K H a xs ∨ SqT K H a xs) (k : ∀ p H', H p = none → Ex H H' → H' p = some (.lst xs) → Q (.ref p) H') : rListOf K [.ref a] H Q := ⟨a, xs, rfl, h, fun l hl => k _ _ hl (Evl.Ex.new hl) upd_same⟩
theorem l_ixL {a : Addr} {xs : List V} {i : Int} {v : V} (h : SqL K H a xs) (ha : atI xs i = some v) (k : Q v H) : rIx K (.ref a) (.int i) H Q := .inl ⟨a, xs, i, v, rfl, rfl, h, ha, k⟩
theorem l_ixT {a : Addr} {xs : List V} {i : Int} {v : V} (h : SqT K H a xs) (ha : atI xs i = some v) (k : Q v H) : rIx K (.ref a) (.int i) H Q := .inr (.inl ⟨a, xs, i, v, rfl, rfl, h, ha, k⟩)
theorem l_ixS {z : Str} {i : Int} {c : Nat} (h : z.length ≤ 100000) (ha : atI z.cps.toList i = some c) (k : Q (.str ⟨#[c]⟩) H) : rIx K (.str z) (.int i) H Q := .inr (.inr ⟨z, i, c, rfl, rfl, sz h, ha, k⟩)
theorem l_slT {a : Addr} {xs : List V} {lo hi : Option Int} (h : SqT K H a xs) (k : ∀ p H', Ex H H' → SqT K H' p (cutV xs lo hi) → Q (.ref p) H') : rSlP K (.ref a) lo hi H Q := by
  refine .inr ⟨a, xs, rfl, h, fun e => ?_, fun _ p hp => k _ _ (Evl.Ex.new hp) (SqT.of upd_same)⟩
  refine k _ _ (Evl.Ex.refl _) ?_
  have : cutV xs lo hi = xs := by unfold cutV; rw [e.1, e.2]; simp
  rw [this]; exact h
theorem l_slL {a : Addr} {xs : List V} {lo hi : Option Int} (h : SqL K H a xs) (k : ∀ p H', H p = none → Ex H H' → H' p = some (.lst (cutV xs lo hi)) → Q (.ref p) H') : rSlP K (.ref a) lo hi H Q :=
  .inl ⟨a, xs, rfl, h, fun p hp => k _ _ hp (Evl.Ex.new hp) upd_same⟩
theorem l_all {a : Addr} {bs : List Bool} (h : SqL K H a (bs.map V.bl)) (k : Q (.bl (bs.all id)) H) : rAll K [.ref a] H Q := ⟨a, bs, rfl, h, k⟩
theorem l_sum {a : Addr} {ns : List Int} (h : SqL K H a (ns.map V.int)) (k : Q (.int ns.sum) H) : rSum K [.ref a] H Q := ⟨a, ns, rfl, h, k⟩
theorem l_setL {a : Addr} {xs : List V} {i : Int} {j : Nat} {v : V} {Q : Hp → Prop} (h : H a = some (.lst xs)) (hj : ixN xs.length i = some j) (k : ∀ H', ExB a H H' → H' a = some (.lst (xs.set j v)) → Q H') : rSetL (.ref a) (.int i) v H Q :=
  ⟨a, xs, i, j, rfl, rfl, h, hj, k _ ExB.upd upd_same⟩
theorem l_app {a : Addr} {xs : List V} {v : V} (h : H a = some (.lst xs)) (hz : xs.length < 100000) (k : ∀ H', ExB a H H' → H' a = some (.lst (xs ++ [v])) → Q .non H') : rAppend (.ref a) [v] H Q :=
  ⟨a, xs, v, rfl, rfl, h, szl hz, k _ ExB.upd upd_same⟩
theorem l_ext {a b : Addr} {xs ys : List V} (h : H a = some (.lst xs)) (h2 : H b = some (.lst ys)) (hz : xs.length + ys.length ≤ 100000) (k : ∀ H', ExB a H H' → H' a = some (.lst (xs ++ ys)) → Q .non H') : rExtend (.ref a) [.ref b] H Q :=
  ⟨a, b, xs, ys, rfl, rfl, h, h2, sz hz, k _ ExB.upd upd_same⟩
theorem l_rev {a : Addr} {xs : List V} (h : H a = some (.lst xs)) (k : ∀ H', ExB a H H' → H' a = some (.lst xs.reverse) → Q .non H') : rReverse (.ref a) [] H Q := ⟨a, xs, rfl, rfl, h, k _ ExB.upd upd_same⟩
theorem l_clear {a : Addr} {xs : List V} (h : H a = some (.lst xs)) (k : ∀ H', ExB a H H' → H' a = some (.lst []) → Q .non H') : rClear (.ref a) [] H Q := ⟨a, xs, rfl, rfl, h, k _ ExB.upd upd_same⟩
theorem l_pop {a : Addr} {xs : List V} {y : V} (h : H a = some (.lst xs)) (hy : xs[xs.length - 1]? = some y) (k : ∀ H', ExB a H H' → H' a = some (.lst xs.dropLast) → Q y H') : rPop (.ref a) [] H Q := ⟨a, xs, y, rfl, rfl, h, hy, k _ ExB.upd upd_same⟩
theorem l_popAt {a : Addr} {xs : List V} {i : Int} {j : Nat} {y : V} (h : H a = some (.lst xs)) (hi : -(2 ^ 63) ≤ i ∧ i < 2 ^ 63) (hj : seqIndex? i xs.length = some j) (hy : xs[j]? = some y) (k : ∀ H', ExB a H H' → H' a = some (.lst (xs.eraseIdx j)) → Q y H') : rPopAt (.ref a) [.int i] H Q := ⟨a, xs, i, j, y, rfl, rfl, h, hi.1, hi.2, hj, hy, k _ ExB.upd upd_same⟩
def rInsP : V → List V → Hp → VK → Prop := fun x vs H Q => ∃ (l : Addr) (xs : List V) (i : Int) (y : V), x = .ref l ∧ vs = [.int i, y] ∧ H l = some (.lst xs) ∧ xs.length < sizeLine ∧ 0 ≤ i ∧ i < 2 ^ 63 ∧ Q .non (upd H l (.lst (xs.take i.toNat ++ [y] ++ xs.drop i.toNat)))
theorem l_ins0 {a : Addr} {xs : List V} {y : V} (h : H a = some (.lst xs)) (hz : xs.length < 100000) (k : ∀ H', ExB a H H' → H' a = some (.lst (y :: xs)) → Q .non H') : rInsP (.ref a) [.int 0, y] H Q :=
  ⟨a, xs, 0, y, rfl, rfl, h, szl hz, Int.le_refl _, by decide, k _ ExB.upd upd_same⟩
/-! statements, in a row and at its end -/
theorem q_asg {i : Nat} (k : te σ H fun x H1 => u D (σ.set i (some x)) H1) : tSeq (tAsg te (gName i)) u D σ H := k
theorem z_asg {i : Nat} (k : te σ H fun x H1 => D.nx (σ.set i (some x)) H1) : tAsg te (gName i) D σ H := k
theorem q_asgT {n : Nat} {g : TGs} (k : te σ H fun x H1 => gTup K n g x σ H1 fun σ' H' => u D σ' H') : tSeq (tAsg te (gTup K n g)) u D σ H := k
theorem z_asgT {n : Nat} {g : TGs} (k : te σ H fun x H1 => gTup K n g x σ H1 fun σ' H' => D.nx σ' H') : tAsg te (gTup K n g) D σ H := k
theorem l_un {g : Int → V} {i : Int} (k : Q (g i) H) : rU g (.int i) H Q := ⟨i, rfl, k⟩
theorem q_drop (k : te σ H fun _ H1 => u D σ H1) : tSeq (tDrop te) u D σ H := k
theorem z_drop (k : te σ H fun _ H1 => D.nx σ H1) : tDrop te D σ H := k
theorem q_if {e : TS} (k : ct σ H fun b H1 => if b = true then t { D with nx := u D } σ H1 else e { D with nx := u D } σ H1) : tSeq (tIfS ct t e) u D σ H := k
theorem z_if {e : TS} (k : ct σ H fun b H1 => if b = true then t D σ H1 else e D σ H1) : tIfS ct t e D σ H := k
theorem z_ret (k : te σ H D.rt) : tRet te D σ H := k
theorem z_retN (k : D.rt .non H) : tRetN D σ H := k
theorem z_next (k : D.nx σ H) : tNext D σ H := k
theorem q_seq (k : t { D with nx := u D } σ H) : tSeq t u D σ H := k
theorem q_set {to ti : TE} {s : TSet} (k : te σ H fun v H1 => to σ H1 fun o H2 => ti σ H2 fun i H3 => s o i v H3 fun H4 => u D σ H4) : tSeq (tAsg te (gSub to ti s)) u D σ H := k
theorem z_set {to ti : TE} {s : TSet} (k : te σ H fun v H1 => to σ H1 fun o H2 => ti σ H2 fun i H3 => s o i v H3 fun H4 => D.nx σ H4) : tAsg te (gSub to ti s) D σ H := k
theorem ifd {c A B : Prop} [Decidable c] (h1 : c → A) (h2 : ¬ c → B) : if decide c = true then A else B := by
  by_cases h : c
  · rw [if_pos (decide_eq_true h)]; exact h1 h
  · rw [if_neg (by simpa using h)]; exact h2 h
theorem ifdn {c A B : Prop} [Decidable c] (h1 : ¬ c → A) (h2 : c → B) : if (!decide c) = true then A else B := by
  by_cases h : c
  · rw [if_neg (by simp [h])]; exact h2 h
  · rw [if_pos (by simp [h])]; exact h1 h
theorem ifb {b : Bool} {A B : Prop} (h1 : b = true → A) (h2 : b = false → B) : if b = true then A else B := by
  cases b with
  | true => exact iteT (h1 rfl)
  | false => exact iteF (h2 rfl)
theorem iteNT {A B : Prop} (h : B) : if (!true) = true then A else B := iteF h
theorem iteNF {A B : Prop} (h : A) : if (!false) = true then A else B := iteT h
/-! loops -/
def ForK (g : TG) (tb : TS) (D : Ends) (J : It) (σ : L2.St) (H : Hp) : Prop := ∃ W : Nat → Nat → L2.St → Hp → Prop, (∃ m, W 0 m σ H) ∧ ∀ i m σ H, W i m σ H →
  ((J.stop i H ∧ D.nx σ H) ∨ (J.go i H ∧ ∃ N : L2.St → Hp → Prop, (∀ σ' H', N σ' H' → ∃ m', m' < m ∧ W (i + 1) m' σ' H') ∧ ∀ x H', J.yld i H x H' → g x σ H' fun σ2 H2 => tb { D with nx := N, ct := N, bk := D.nx } σ2 H2))
def seqK (K : PySem.W.Frag) (R : It → Hp → Prop) (x : V) (H1 : Hp) : Prop := ∃ a, x = .ref a ∧ ((∃ xs, SqL K H1 a xs ∧ R (Itl K a) H1) ∨ (∃ xs, SqT K H1 a xs ∧ R (Itt K a) H1))
def rngK1 (R : It → Hp → Prop) (vs : List V) (H1 : Hp) : Prop := ∃ j : Int, vs = [.int j] ∧ -(2 ^ 62) ≤ j ∧ j < 2 ^ 62 ∧ R (Itr 0 j.toNat) H1
def rngK2 (R : It → Hp → Prop) (vs : List V) (H1 : Hp) : Prop := ∃ i j : Int, vs = [.int i, .int j] ∧ (-(2 ^ 62) ≤ i ∧ i < 2 ^ 62 ∧ -(2 ^ 62) ≤ j ∧ j < 2 ^ 62) ∧ R (Itr i (j - i).toNat) H1
def enumK (K : PySem.W.Frag) (R : It → Hp → Prop) (vs : List V) (H1 : Hp) : Prop := ∃ a xs, vs = [.ref a] ∧ SqL K H1 a xs ∧ R (Ite K a) H1
theorem q_for {wi : TI} {g : TG} {tb : TS} (k : wi σ H fun J H1 => ForK g tb { D with nx := u D } J σ H1) : tSeq (tFor wi g tb) u D σ H := k
theorem z_for {wi : TI} {g : TG} {tb : TS} (k : wi σ H fun J H1 => ForK g tb D J σ H1) : tFor wi g tb D σ H := k
theorem i_seq {tl : TE} {R : It → Hp → Prop} (k : tl σ H fun x H1 => seqK K R x H1) : iSeq K tl σ H R := k
theorem i_rng1 {ta : TA} {R : It → Hp → Prop} (k : ta σ H fun vs H1 => rngK1 R vs H1) : iRng1 ta σ H R := k
theorem i_rng2 {ta : TA} {R : It → Hp → Prop} (k : ta σ H fun vs H1 => rngK2 R vs H1) : iRng2 ta σ H R := k
theorem i_enum {ta : TA} {R : It → Hp → Prop} (k : ta σ H fun vs H1 => enumK K R vs H1) : iEnum K ta σ H R := k
theorem l_seqT {a : Addr} {xs : List V} {R : It → Hp → Prop} (h : SqT K H a xs) (k : R (Itt K a) H) : seqK K R (.ref a) H := ⟨a, rfl, .inr ⟨xs, h, k⟩⟩
theorem l_seqL {a : Addr} {xs : List V} {R : It → Hp → Prop} (h : SqL K H a xs) (k : R (Itl K a) H) : seqK K R (.ref a) H := ⟨a, rfl, .inl ⟨xs, h, k⟩⟩
theorem l_rng1 {j : Int} {R : It → Hp → Prop} (h : -(2 ^ 62) ≤ j ∧ j < 2 ^ 62) (k : R (Itr 0 j.toNat) H) : rngK1 R [.int j] H := ⟨j, rfl, h.1, h.2, k⟩
theorem l_rng2 {i j : Int} {R : It → Hp → Prop} (h : -(2 ^ 62) ≤ i ∧ i < 2 ^ 62 ∧ -(2 ^ 62) ≤ j ∧ j < 2 ^ 62) (k : R (Itr i (j - i).toNat) H) : rngK2 R [.int i, .int j] H := ⟨i, j, rfl, h, k⟩
theorem l_enum {a : Addr} {xs : List V} {R : It → Hp → Prop} (h : SqL K H a xs) (k : R (Ite K a) H) : enumK K R [.ref a] H := ⟨a, xs, rfl, h, k⟩
/-- a for, by a word Pv of the turn, the slots and the heap -/
theorem l_for {J : It} {n : Nat} {G : Hp → Prop} {Y : Nat → Hp → V → Hp → Prop} {g : TG} {tb : TS} (w : Walk J n G Y) (Pv : Nat → L2.St → Hp → Prop) (h0 : Pv 0 σ H) (hG : ∀ i σ H, i ≤ n → Pv i σ H → G H)
    (hs : ∀ i x σ H H', i < n → Pv i σ H → Y i H x H' → g x σ H' fun σ2 H2 => tb { D with nx := Pv (i + 1), ct := Pv (i + 1), bk := D.nx } σ2 H2) (hd : ∀ σ H, Pv n σ H → D.nx σ H) : ForK g tb D J σ H := for_it w Pv h0 hG hs hd
theorem l_forT {a : Addr} {xs : List V} {g : TG} {tb : TS} (Pv : Nat → L2.St → Hp → Prop) (h0 : Pv 0 σ H) (hG : ∀ i σ H, i ≤ xs.length → Pv i σ H → SqT K H a xs)
    (hs : ∀ i x σ H, i < xs.length → xs[i]? = some x → Pv i σ H → g x σ H fun σ2 H2 => tb { D with nx := Pv (i + 1), ct := Pv (i + 1), bk := D.nx } σ2 H2) (hd : ∀ σ H, Pv xs.length σ H → D.nx σ H) : ForK g tb D (Itt K a) σ H :=
  for_it walk_tup Pv h0 hG (fun i x σ H H' hi hp ⟨e, hx⟩ => by subst e; exact hs i x σ _ hi hx hp) hd
theorem l_forL {a : Addr} {xs : List V} {g : TG} {tb : TS} (Pv : Nat → L2.St → Hp → Prop) (h0 : Pv 0 σ H) (hG : ∀ i σ H, i ≤ xs.length → Pv i σ H → SqL K H a xs)
    (hs : ∀ i x σ H, i < xs.length → xs[i]? = some x → Pv i σ H → g x σ H fun σ2 H2 => tb { D with nx := Pv (i + 1), ct := Pv (i + 1), bk := D.nx } σ2 H2) (hd : ∀ σ H, Pv xs.length σ H → D.nx σ H) : ForK g tb D (Itl K a) σ H :=
  for_it walk_list Pv h0 hG (fun i x σ H H' hi hp ⟨e, hx⟩ => by subst e; exact hs i x σ _ hi hx hp) hd
theorem l_forR {lo : Int} {n : Nat} {g : TG} {tb : TS} (Pv : Nat → L2.St → Hp → Prop) (h0 : Pv 0 σ H)
    (hs : ∀ i σ H, i < n → Pv i σ H → g (.int (lo + i)) σ H fun σ2 H2 => tb { D with nx := Pv (i + 1), ct := Pv (i + 1), bk := D.nx } σ2 H2) (hd : ∀ σ H, Pv n σ H → D.nx σ H) : ForK g tb D (Itr lo n) σ H :=
  for_range Pv h0 hs hd
theorem g_name {i : Nat} {x : V} {R : L2.St → Hp → Prop} (k : R (σ.set i (some x)) H) : gName i x σ H R := k
theorem g_tup {n : Nat} {a : Addr} {xs : List V} {t : TGs} {R : L2.St → Hp → Prop} (h : SqT K H a xs) (hn : xs.length = n) (k : t xs σ H R) : gTup K n t (.ref a) σ H R := ⟨a, xs, rfl, h, hn, k⟩
theorem g_cons {t : TG} {u : TGs} {v : V} {r : List V} {R : L2.St → Hp → Prop} (k : t v σ H fun σ' H' => u r σ' H' R) : gCons t u (v :: r) σ H R := ⟨v, r, rfl, k⟩
theorem g_nil {R : L2.St → Hp → Prop} (k : R σ H) : gNil [] σ H R := ⟨rfl, k⟩
/-! comprehensions -/
def LcK (g : TG) (tt : TT) (te : TE) (vs : List Nat) (J : It) (σ : L2.St) (H1 : Hp) (Q : VK) : Prop := ∀ D, H1 D = none → ∃ W : Nat → Nat → Hp → Prop, (∃ m, W 0 m (upd H1 D (.lst []))) ∧ ∀ i m H, W i m H →
  (J.stop i H ∧ Q (.ref D) H) ∨ (J.go i H ∧ ∃ Nx : Hp → Prop, (∀ H', Nx H' → ∃ m', m' < m ∧ W (i + 1) m' H') ∧ ∀ x H', J.yld i H x H' → g x (wipe σ vs) H' fun σ2 H2 => wipe σ2 vs = wipe σ vs ∧ tt σ2 H2 fun b H3 =>
    if b = true then te σ2 H3 fun y H4 => ∃ acc, H4 D = some (.lst acc) ∧ acc.length < sizeLine ∧ Nx (upd H4 D (.lst (acc ++ [y]))) else Nx H3)
theorem w_lc {wi : TI} {g : TG} {tt : TT} {vs : List Nat} (k : wi σ H fun J H1 => LcK g tt te vs J σ H1 Q) : tLc wi g tt te vs σ H Q := k
/-- behind an element y: it is put behind what D holds -/
def lcEnd (Pv : Addr → Nat → List V → Hp → Prop) (D : Addr) (i : Nat) (y : V) (H4 : Hp) : Prop := ∃ acc, H4 D = some (.lst acc) ∧ acc.length < sizeLine ∧ ∃ acc', upd H4 D (.lst (acc ++ [y])) D = some (.lst acc') ∧ Pv D i acc' (upd H4 D (.lst (acc ++ [y])))
/-- an item left out -/
def lcNot (Pv : Addr → Nat → List V → Hp → Prop) (D : Addr) (i : Nat) (H4 : Hp) : Prop := ∃ acc, H4 D = some (.lst acc) ∧ Pv D i acc H4
theorem lc_end {Pv : Addr → Nat → List V → Hp → Prop} {E : Addr} {i : Nat} {y : V} {acc : List V} (h : H E = some (.lst acc)) (hz : acc.length < 100000) (k : ∀ H6, ExB E H H6 → H6 E = some (.lst (acc ++ [y])) → Pv E i (acc ++ [y]) H6) : lcEnd Pv E i y H :=
  ⟨acc, h, szl hz, _, upd_same, k _ ExB.upd upd_same⟩
theorem lc_not {Pv : Addr → Nat → List V → Hp → Prop} {E : Addr} {i : Nat} {acc : List V} (h : H E = some (.lst acc)) (k : Pv E i acc H) : lcNot Pv E i H := ⟨acc, h, k⟩
/-- any comprehension: Pv by the new list's address, the turn, what it holds, the heap -/
theorem l_lc {J : It} {n : Nat} {G : Hp → Prop} {Y : Nat → Hp → V → Hp → Prop} {g : TG} {tt : TT} {vs : List Nat} (w : Walk J n G Y) (Pv : Addr → Nat → List V → Hp → Prop)
    (h0 : ∀ D H', H D = none → Ex H H' → H' D = some (.lst []) → Pv D 0 [] H') (hG : ∀ D i acc H1, i ≤ n → H1 D = some (.lst acc) → Pv D i acc H1 → G H1)
    (hs : ∀ D i acc x H1 H2, H D = none → i < n → H1 D = some (.lst acc) → Pv D i acc H1 → Y i H1 x H2 → g x (wipe σ vs) H2 fun σ2 H3 => wipe σ2 vs = wipe σ vs ∧ tt σ2 H3 fun b H4 => if b = true then te σ2 H4 (lcEnd Pv D (i + 1)) else lcNot Pv D (i + 1) H4)
    (hd : ∀ D acc H1, H D = none → H1 D = some (.lst acc) → Pv D n acc H1 → Q (.ref D) H1) : LcK g tt te vs J σ H Q := fun D hD =>
  lc_it w (fun i H1 => ∃ acc, H1 D = some (.lst acc) ∧ Pv D i acc H1) ⟨[], upd_same, h0 D _ hD (Evl.Ex.new hD) upd_same⟩ (fun i H1 hi ⟨acc, h1, h2⟩ => hG D i acc H1 hi h1 h2)
    (fun i x H1 H2 hi ⟨acc, h1, h2⟩ y => hs D i acc x H1 H2 hD hi h1 h2 y) (fun H1 ⟨acc, h1, h2⟩ => hd D acc H1 hD h1 h2)
theorem q_cut {e : TS} (M : L2.St → Hp → Prop) (h : t { D with nx := M } σ H) (k : ∀ σ' H', M σ' H' → e D σ' H') : Evl.tCut t e D σ H := ⟨M, h, k⟩
/-! a while -/
def whK (W : Nat → L2.St → Hp → Prop) (m : Nat) (tb : TS) (D : Ends) (σ : L2.St) (H1 : Hp) : Prop := ∃ N : L2.St → Hp → Prop, (∀ σ' H', N σ' H' → ∃ m', m' < m ∧ W m' σ' H') ∧ tb { D with nx := N, ct := N, bk := D.nx } σ H1
theorem l_wh {W : Nat → L2.St → Hp → Prop} {m : Nat} {tb : TS} (k : tb { D with nx := fun σ' H' => ∃ m', m' < m ∧ W m' σ' H', ct := fun σ' H' => ∃ m', m' < m ∧ W m' σ' H', bk := D.nx } σ H) : whK W m tb D σ H := ⟨_, fun _ _ p => p, k⟩
theorem q_while {c : TT} {tb : TS} (W : Nat → L2.St → Hp → Prop) (m0 : Nat) (h0 : W m0 σ H) (hs : ∀ m σ H, W m σ H → c σ H fun b H1 => if b = true then whK W m tb { D with nx := u D } σ H1 else u D σ H1) : tSeq (tWhile c tb) u D σ H :=
  ⟨W, ⟨m0, h0⟩, fun m σ H h => hs m σ H h⟩
theorem q_aug {i : Nat} {x : V} {te : TE} {ti : TIp} (hx : σ[i]? = some (some x)) (k : te σ H fun y H1 => ti x y H1 fun z H2 => u D (σ.set i (some z)) H2) : tSeq (tAug i te ti) u D σ H := ⟨x, hx, k⟩
theorem z_aug {i : Nat} {x : V} {te : TE} {ti : TIp} (hx : σ[i]? = some (some x)) (k : te σ H fun y H1 => ti x y H1 fun z H2 => D.nx (σ.set i (some z)) H2) : tAug i te ti D σ H := ⟨x, hx, k⟩
theorem l_ip {f : Int → Int → Int} {i j : Int} (k : Q (.int (f i j)) H) : ipI f (.int i) (.int j) H Q := ⟨i, j, rfl, rfl, k⟩
theorem w_bm {T : String} {r : V → List V → Hp → VK → Prop} {to : TE} {t : TA} (k : to σ H fun x H1 => tyV K T x H1 ∧ t σ H1 fun xs H2 => r x xs H2 Q) : tBM K T r to t σ H Q := k
theorem w_bm0 {T : String} {r : V → List V → Hp → VK → Prop} {to : TE} (k : to σ H fun x H1 => tyV K T x H1 ∧ r x [] H1 Q) : tBM0 K T r to σ H Q := k
theorem l_tyL {a : Addr} {xs : List V} {P : Prop} (h : SqL K H a xs) (k : P) : tyV K "list" (.ref a) H ∧ P := ⟨.inl ⟨rfl, xs, h⟩, k⟩
/-! kinds of values -/
inductive Kd (K : PySem.W.Frag) (H : Hp) : V → String → Prop where
  | non : Kd K H .non "NoneType"
  | bl (b : Bool) : Kd K H (.bl b) "bool"
  | int (i : Int) : Kd K H (.int i) "int"
  | str (x : Str) : Kd K H (.str x) "str"
  | tup {a : Addr} {xs : List V} (h : SqT K H a xs) : Kd K H (.ref a) "tuple"
  | lst {a : Addr} {xs : List V} (h : SqL K H a xs) : Kd K H (.ref a) "list"
  | dct {a : Addr} {kvs : List (Key × V)} (h : H a = some (.dK kvs)) : Kd K H (.ref a) "dict"
theorem tyx_T {a : Addr} {xs : List V} (h : SqT K H a xs) : TyX K H (.ref a) (.type "tuple") := by
  rcases h with (h | ⟨o, h⟩) | h
  · exact .base (.tup h)
  · exact .fTuple h
  · obtain ⟨o, its, n, h1, h2, _⟩ := h
    exact .kTuple h1 h2
theorem tyx_L {a : Addr} {xs : List V} (h : SqL K H a xs) : TyX K H (.ref a) (.type "list") := by
  rcases h with (h | ⟨o, h⟩) | h
  · exact .base (.lst h)
  · exact .base (.frz h)
  · obtain ⟨o, its, n, h1, h2, _⟩ := h
    exact .kList h1 h2
theorem Kd.tyx {v : V} {T : String} (h : Kd K H v T) : TyX K H v (.type T) := by
  cases h with
  | non => exact .base .non
  | bl b => exact .base (.bl b)
  | int i => exact .base (.int i)
  | str x => exact .base (.str x)
  | tup h => exact tyx_T h
  | lst h => exact tyx_L h
  | dct h => exact .base (.dK h)
theorem l_isi {v : V} {T' T : String} {b : Bool} (h : Kd K H v T') (hb : kitB T' T = some b) (k : Q (.bl b) H) : rIsi K [v, .ty T] H Q := ⟨v, _, _, _, b, rfl, .ty T, h.tyx, kit_ty hb, k⟩
theorem Kd.mono {v : V} {T : String} {H' : Hp} (e : Ex H H') (h : Kd K H v T) : Kd K H' v T := by
  cases h with
  | non => exact .non
  | bl b => exact .bl b
  | int i => exact .int i
  | str x => exact .str x
  | tup h => exact .tup (Evl.ex_t e h)
  | lst h => exact .lst (Evl.ex_l e h)
  | dct h => exact .dct (e _ _ h)
def PvT (H : Hp) (f : V → V) (xs : List V) : Addr → Nat → List V → Hp → Prop := fun _ i acc H1 => Ex H H1 ∧ acc = (xs.take i).map f
/-- a comprehension over a tuple, each element a value f x by itself -/
theorem l_lcT {a : Addr} {xs : List V} {j : Nat} {vs : List Nat} (f : V → V) (h : SqT K H a xs) (hz : xs.length < 100000) (hw : ∀ x, wipe ((wipe σ vs).set j (some x)) vs = wipe σ vs)
    (hs : ∀ x H1, x ∈ xs → Ex H H1 → ∀ Q' : VK, (∀ H2, Ex H1 H2 → Q' (f x) H2) → te ((wipe σ vs).set j (some x)) H1 Q')
    (hd : ∀ D H1, H D = none → Ex H H1 → H1 D = some (.lst (xs.map f)) → Q (.ref D) H1) : LcK (gName j) tYes te vs (Itt K a) σ H Q := by
  refine l_lc walk_tup (PvT H f xs) (fun D H1 n e h1 => ⟨e, rfl⟩) (fun D i acc H1 _ _ p => Evl.ex_t p.1 h) (fun D i acc x H1 H2 hn hi h1 p y => ?_) (fun D acc H1 hn h1 p => ?_)
  · obtain ⟨rfl, hx⟩ := y
    obtain ⟨e, rfl⟩ := p
    refine ⟨hw x, w_yes ?_⟩
    refine iteT ?_
    refine hs x _ (List.mem_of_getElem? hx) e _ fun H3 e3 => ?_
    refine lc_end (Pv := PvT H f xs) (e3 _ _ h1) (by simp; omega) fun H6 e6 h6 => ⟨?_, ?_⟩
    · exact ExB.new (e.trans e3) e6 hn
    · have : (xs.take (i + 1)) = xs.take i ++ [x] := by rw [List.take_succ, hx]; rfl
      rw [this, List.map_append]; rfl
  · obtain ⟨e, rfl⟩ := p
    exact hd D H1 hn e (by rw [h1, List.take_length])
theorem l_lcL {a : Addr} {xs : List V} {j : Nat} {vs : List Nat} (f : V → V) (h : SqL K H a xs) (hz : xs.length < 100000) (hw : ∀ x, wipe ((wipe σ vs).set j (some x)) vs = wipe σ vs)
    (hs : ∀ x H1, x ∈ xs → Ex H H1 → ∀ Q' : VK, (∀ H2, Ex H1 H2 → Q' (f x) H2) → te ((wipe σ vs).set j (some x)) H1 Q')
    (hd : ∀ D H1, H D = none → Ex H H1 → H1 D = some (.lst (xs.map f)) → Q (.ref D) H1) : LcK (gName j) tYes te vs (Itl K a) σ H Q := by
  refine l_lc walk_list (PvT H f xs) (fun D H1 n e h1 => ⟨e, rfl⟩) (fun D i acc H1 _ _ p => Evl.ex_l p.1 h) (fun D i acc x H1 H2 hn hi h1 p y => ?_) (fun D acc H1 hn h1 p => ?_)
  · obtain ⟨rfl, hx⟩ := y
    obtain ⟨e, rfl⟩ := p
    refine ⟨hw x, w_yes ?_⟩
    refine iteT ?_
    refine hs x _ (List.mem_of_getElem? hx) e _ fun H3 e3 => ?_
    refine lc_end (Pv := PvT H f xs) (e3 _ _ h1) (by simp; omega) fun H6 e6 h6 => ⟨?_, ?_⟩
    · exact ExB.new (e.trans e3) e6 hn
    · have : (xs.take (i + 1)) = xs.take i ++ [x] := by rw [List.take_succ, hx]; rfl
      rw [this, List.map_append]; rfl
  · obtain ⟨e, rfl⟩ := p
    exact hd D H1 hn e (by rw [h1, List.take_length])
/-! objects of own classes -/
def fldK (K : PySem.W.Frag) (f : Str) (x : V) (H1 : Hp) (Q : VK) : Prop := ∃ a C dx fs v, x = .ref a ∧ H1 a = some (.ins C dx fs) ∧ Cls K C ∧ NoAttr K C f ∧ fs.lookup f = some v ∧ Q v H1
def setK (K : PySem.W.Frag) (f : Str) (y x : V) (H2 : Hp) (R : Hp → Prop) : Prop := ∃ a C dx fs, x = .ref a ∧ H2 a = some (.ins C dx fs) ∧ Cls K C ∧ NoAttr K C f ∧ fs.length < 1000 ∧ R (upd H2 a (.ins C dx (putF f y fs)))
def methK (C : Addr) (m : Str) (sp : Sp) (E : XK) (t : TA) (σ : L2.St) (Q : VK) (x : V) (H1 : Hp) : Prop := ∃ a dx fs, x = .ref a ∧ H1 a = some (.ins C dx fs) ∧ fs.lookup m = none ∧ t σ H1 fun vs H2 => sp (x :: (vs ++ [])) H2 Q E
def makeK (C : Addr) (sp : Sp) (E : XK) (Q : VK) (vs : List V) (H1 : Hp) : Prop := ∀ x dx, H1 x = none → H1 dx = none → dx ≠ x → sp (.ref x :: (vs ++ [])) (upd (upd H1 dx (.own x)) x (.ins C dx [])) (fun v H2 => v = .non ∧ Q (.ref x) H2) E
theorem w_fld {f : Str} (k : te σ H fun x H1 => fldK K f x H1 Q) : tFld K te f σ H Q := k
theorem l_fld {f : Str} {a C dx : Addr} {fs : List (Str × V)} {v : V} (h : H a = some (.ins C dx fs)) (c : Cls K C) (n : NoAttr K C f) (e : fs.lookup f = some v) (k : Q v H) : fldK K f (.ref a) H Q := ⟨a, C, dx, fs, v, rfl, h, c, n, e, k⟩
theorem q_fld {f : Str} {tv : TE} (k : tv σ H fun y H1 => te σ H1 fun x H2 => setK K f y x H2 fun H3 => u D σ H3) : tSeq (sFld K te tv f) u D σ H := k
theorem z_fld {f : Str} {tv : TE} (k : tv σ H fun y H1 => te σ H1 fun x H2 => setK K f y x H2 fun H3 => D.nx σ H3) : sFld K te tv f D σ H := k
theorem l_fldS {f : Str} {a C dx : Addr} {fs : List (Str × V)} {y : V} {R : Hp → Prop} (h : H a = some (.ins C dx fs)) (c : Cls K C) (n : NoAttr K C f) (hl : fs.length < 1000) (k : ∀ H', ExB a H H' → H' a = some (.ins C dx (putF f y fs)) → R H') : setK K f y (.ref a) H R :=
  ⟨a, C, dx, fs, rfl, h, c, n, hl, k _ ExB.upd upd_same⟩
theorem w_meth {C : Addr} {m : Str} {sp : Sp} {E : XK} {t : TA} (k : te σ H fun x H1 => methK C m sp E t σ Q x H1) : tMeth C m sp [] E te t σ H Q := k
theorem l_meth {C : Addr} {m : Str} {sp : Sp} {E : XK} {t : TA} {a dx : Addr} {fs : List (Str × V)} (h : H a = some (.ins C dx fs)) (e : fs.lookup m = none) (k : t σ H fun vs H2 => sp (.ref a :: (vs ++ [])) H2 Q E) : methK C m sp E t σ Q (.ref a) H := ⟨a, dx, fs, rfl, h, e, k⟩
theorem w_make {C : Addr} {sp : Sp} {E : XK} {t : TA} (k : t σ H fun vs H1 => makeK C sp E Q vs H1) : tMake C sp [] E t σ H Q := k
theorem l_make {C : Addr} {sp : Sp} {E : XK} {vs : List V} (k : ∀ x dx H1, H x = none → Ex H H1 → H1 x = some (.ins C dx []) → sp (.ref x :: (vs ++ [])) H1 (fun v H2 => v = .non ∧ Q (.ref x) H2) E) : makeK C sp E Q vs H := fun x dx hx hd hn =>
  k x dx _ hx (fun b o e => by rw [upd_ne (ne_of_none e hx), upd_ne (ne_of_none e hd)]; exact e) upd_same
theorem putF_le (f : Str) (y : V) : ∀ fs : List (Str × V), (putF f y fs).length ≤ fs.length + 1
  | [] => Nat.le_refl _
  | (g, x) :: r => by
    show (if g = f then (g, y) :: r else (g, x) :: putF f y r).length ≤ _
    have := putF_le f y r
    split <;> simp <;> omega
theorem putF_lt {f : Str} {y : V} {fs : List (Str × V)} (h : fs.length < 900) : (putF f y fs).length < 1000 := Nat.lt_of_le_of_lt (putF_le f y fs) (by omega)
theorem putF_lt2 {f g : Str} {y z : V} {fs : List (Str × V)} (h : fs.length < 900) : (putF g z (putF f y fs)).length < 1000 := Nat.lt_of_le_of_lt (putF_le g z _) (by have := putF_le f y fs; omega)
/-- an instance of the class of that name, with these attributes -/
def Ins (K : PySem.W.Frag) (H : Hp) (v : V) (c : Str) (fs : List (Str × V)) : Prop := ∃ p C dx, v = .ref p ∧ PySem.W.nsIn K mainGlobals c = some (some (.ref C)) ∧ H p = some (.ins C dx fs)
theorem Ins.mono {H' : Hp} {v : V} {c : Str} {fs : List (Str × V)} (e : Ex H H') (h : Ins K H v c fs) : Ins K H' v c fs := by
  obtain ⟨p, C, dx, h1, h2, h3⟩ := h
  exact ⟨p, C, dx, h1, h2, e _ _ h3⟩
theorem Ins.exB {H' : Hp} {v : V} {c : Str} {fs : List (Str × V)} {p : Addr} {ys : List V} (e : ExB p H H') (hp : H p = some (.lst ys)) (h : Ins K H v c fs) : Ins K H' v c fs := by
  obtain ⟨q, C, dx, h1, h2, h3⟩ := h
  exact ⟨q, C, dx, h1, h2, e _ _ (fun z => by subst z; rw [hp] at h3; cases h3) h3⟩
theorem Ins.at_ {v : V} {c : Str} {fs : List (Str × V)} {C' : Addr} (h : Ins K H v c fs) (n : PySem.W.nsIn K mainGlobals c = some (some (.ref C'))) : ∃ p dx, v = .ref p ∧ H p = some (.ins C' dx fs) := by
  obtain ⟨p, C, dx, h1, h2, h3⟩ := h
  rw [h2] at n
  cases n
  exact ⟨p, dx, h1, h3⟩
end
section
/-! enumerate of a tuple -/
theorem meets_enumT (l : Addr) (items : Array Value) (n : Nat) (dct : Option Addr) (sl : Array (Option Value)) :
    Meets (Builtin.«enumerate.__new__» ⟨[.type "enumerate", .ref l], []⟩) (fun _ R s => s.heap.get? l = some { cls := .type "tuple", dict := dct, data := .seq items n, slots := sl } ∧
      R (.ok (.ret (.ref (s.heap.push { cls := .type "tuple_iterator", data := .fields #[.ref l, .int 0 0] }).objs.size)))
        { s with heap := (s.heap.push { cls := .type "tuple_iterator", data := .fields #[.ref l, .int 0 0] }).push { cls := .type "enumerate", data := .fields #[.none, .bool false, .ref s.heap.objs.size, rawInt 0, .none, .none] } }) :=
  .of_wp fun prog w A R s h => by
    obtain ⟨hp, g, d, tk, os⟩ := s; obtain ⟨hl, h⟩ := h
    have hsub := sub_enumerate
    have hL : Heap.IsTuple (Shared.heap ⟨hp, g, d, tk, os⟩) l items := ⟨_, hl, rfl, n, rfl⟩
    wp_walk using AutoSeq1.wpAny_loadPart' hl
    refine wpAny_stack_any fun st => wpAny_pure ?_
    split
    · rename_i c _ _ _ _ _
      cases (c == Value.type "enumerate")
      · wp_walk using AutoSeq1.wpAny_loadPart' hl, wpAny_pyIter_tuple hL
        exact ⟨_, rfl, h⟩
      · wp_walk using AutoSeq1.wpAny_loadPart' hl, wpAny_pyIter_tuple hL
        exact ⟨_, rfl, h⟩
    · wp_walk using AutoSeq1.wpAny_loadPart' hl, wpAny_pyIter_tuple hL
      exact ⟨_, rfl, h⟩
theorem call_enumT {prog : Program} {w : World} {A : Around} {E : Value → Shared → Prop} {s : Shared} {l : Addr} {items : Array Value} {Q : Value → Shared → Prop} (hL : s.heap.IsTuple l items)
    (h : ∀ h', IsEnum h' (s.heap.objs.size + 1) s.heap.objs.size 0 .none → h'.IsTupleIter s.heap.objs.size l 0 → h'.objs.size = s.heap.objs.size + 2 →
      (∀ b o, s.heap.get? b = some o → h'.get? b = some o) → Q (.ref (s.heap.objs.size + 1)) { s with heap := h' }) :
    wpAny (model prog w) A (call (.type "enumerate") [.ref l]) Q E s := by
  obtain ⟨⟨c, dct, dt, sl⟩, hl, hc, n, hd⟩ := hL
  simp only at hc hd
  subst hc hd
  refine callType_new F.called_enumerate (by decide) (F.typeCall_enumerate_1 _) (F.newCall_enumerate_1 _) (fun obj => F.args_object_init_2 obj _) F.entry_enumerate_new
    (meets_enumT l items n dct sl) ⟨hl, ?_⟩
  have hz : (s.heap.push { cls := .type "tuple_iterator", data := .fields #[.ref l, .int 0 0] }).objs.size = s.heap.objs.size + 1 := Heap.size_push ..
  show _ ∧ _
  rw [hz]
  have he : IsEnum ((s.heap.push { cls := .type "tuple_iterator", data := .fields #[.ref l, .int 0 0] }).push
      { cls := .type "enumerate", data := .fields #[.none, .bool false, .ref s.heap.objs.size, rawInt 0, .none, .none] }) (s.heap.objs.size + 1) s.heap.objs.size 0 .none := by
    have z := Heap.get?_push_size (s.heap.push { cls := .type "tuple_iterator", data := .fields #[.ref l, .int 0 0] })
      (o := { cls := .type "enumerate", data := .fields #[.none, .bool false, .ref s.heap.objs.size, rawInt 0, .none, .none] }) rfl
    rw [hz] at z; exact z
  refine ⟨⟨_, he, rfl⟩, h _ he ⟨_, Heap.get?_push_of_some _ (Heap.get?_push_size _ rfl), rfl, rfl⟩ (by rw [Heap.size_push, hz]) fun b o x => Heap.get?_push_of_some _ (Heap.get?_push_of_some _ x)⟩
theorem drawsT {prog : Program} {w : World} {A : Around} (hh : A.handled = none) (it l : Addr) (hne : l ≠ it) (items : Array Value) :
    Draws prog w A it [it, l] items.size (fun i v => items[i]? = some v) (fun i h => h.IsTupleIter it l i ∧ h.IsTuple l items) where
  live := fun _ _ st => let ⟨o, ho, _⟩ := st.1; ⟨o, ho⟩
  frame := fun _ _ _ st hk => ⟨st.1.at fun o e => hk it (by simp) o e, st.2.at fun o e => hk l (by simp) o e⟩
  item := fun i s Q E hi st hQ => by
    refine RZ.nextOf_tuple_item st.1 st.2 (x := items[i]) (by simp [hi]) fun h' hit' hs' => ?_
    exact hQ _ h' s.toks (by simp [hi]) ⟨hit', st.2.at fun o e => (hs'.2 l hne).trans e⟩ hs'
  done := fun s Q E st hE => RZ.nextOf_tuple_end hh st.1 st.2 (by simp) hE
def IteT (K : PySem.W.Frag) (a : Addr) : It :=
  ⟨fun i H => ∃ (xs : List V) (x : V), SqT K H a xs ∧ xs[i]? = some x, fun i H v H' => ∃ T x, v = .ref T ∧ H T = none ∧ H' = upd H T (.tup [.int (i : Nat), x]) ∧ ∀ xs, SqT K H a xs → xs[i]? = some x, fun i H => ∃ xs : List V, SqT K H a xs ∧ xs.length ≤ i⟩
theorem turn_enumT {P : Program} {w : World} {K : PySem.W.Frag} {elts : List Expr} {kk : Nat} {tpos : Pos} (a e it : Addr) :
    Turn P w K (.Tuple elts kk tpos) (IteT K a) [e, it] e (fun i h => (∃ old, IsEnum h e it ((i : Nat) : Int) old) ∧ h.IsTupleIter it a i ∧ e ≠ it) where
  mem := by simp
  obj := fun i h st b hb => by
    obtain ⟨⟨old, he⟩, ⟨o, ho, hc, hd⟩, _⟩ := st
    have e' : b = e ∨ b = it := by simpa using hb
    rcases e' with z | z
    · rw [z]; exact ⟨_, he, fun v q => nomatch q⟩
    · rw [z]; exact ⟨o, ho, fun v q => by rw [hd] at q; cases q⟩
  keep := fun i h h' st k => let ⟨⟨old, he⟩, hi, hne⟩ := st; ⟨⟨old, k e (by simp) _ he⟩, hi.at fun o q => k it (by simp) o q, hne⟩
  item := by
    intro X hP hw hK hc i pins s σ H E I hf st hg
    subst hP hw hK
    obtain ⟨⟨old, he⟩, hit, hne⟩ := st
    obtain ⟨xs, x, hq, hx⟩ := hg
    obtain ⟨its, rv, p, hz⟩ := I.tuple hq
    obtain ⟨u, hu, ru⟩ := rv.get hx
    have hT0 : s.heap.IsTuple a its.toArray := p
    have hel : e < s.heap.objs.size := Heap.lt_size he
    have hil : it < s.heap.objs.size := by obtain ⟨_, q, _⟩ := hit; exact Heap.lt_size q
    have hai : a ≠ it := fun z => by
      obtain ⟨o1, q1, c1, _⟩ := hit
      obtain ⟨o2, q2, c2, _⟩ := hT0
      rw [z, q1] at q2; cases q2; rw [c1] at c2; exact absurd (Value.type.inj c2) (by decide)
    have hae : e ≠ a := fun z => by
      obtain ⟨o2, q2, c2, _⟩ := hT0
      have he2 : s.heap.get? e = _ := he
      rw [z, q2] at he2; cases he2; exact absurd (Value.type.inj c2) (by decide)
    refine wpAny_pyNext_enum_itemD (drawsT (by exact I.ok.hd hc) it a hai its.toArray) he ⟨hit, hT0⟩ (by have := (List.getElem?_eq_some_iff.mp hu).1; simpa using this) hne (by simp [hne, hae]) fun x' h' tk hx' ho hst' hT hsz hk => ?_
    have exu : x' = u := by
      have q : its.toArray[i]? = some x' := hx'
      have q' : its[i]? = some x' := by simpa using q
      rw [hu] at q'; exact (Option.some.inj q').symm
    subst exu
    refine ⟨_, rfl, wpAny_letOwnedTupleGo_enum (s := { s with heap := h', toks := tk + 1 }) ho fun h'' he' sb => ?_⟩
    have hT2 : h''.get? s.heap.objs.size = some { cls := .type "tuple", data := .seq #[.int i tk, x'] } := (sb.2 _ (Nat.ne_of_gt hel)).trans hT
    have new : ObjOk X.prog X.w (upd H s.heap.objs.size (.tup [.int (i : Nat), x])) h'' s.heap.objs.size (.tup [.int (i : Nat), x]) :=
      ⟨by show 2 ≤ sizeLine; decide, [.int i tk, x'], .cons ⟨_, rfl⟩ (.cons ru .nil), ⟨_, hT2, rfl, _, rfl⟩⟩
    have I1 : Inv X pins σ (upd H s.heap.objs.size (.tup [.int (i : Nat), x])) { s with heap := h'', toks := tk + 1 } :=
      I.turnedNew (ch := [e, it]) (fun b ob hb q => (sb.2 b (fun z => hb (by simp [z]))).trans (hk b ob (fun z => hb (by simp [z])) (fun z => hb (by simp [z])) q)) hf (Nat.le_refl _) new
    refine ⟨.ref s.heap.objs.size, _, I1, rfl, ⟨_, x, rfl, I.hok.fresh (Nat.le_refl _), rfl, fun ys hy => by rw [I.tuple_inj hy hq]; exact hx⟩, ⟨⟨x', ?_⟩, hst'.1.at fun o q => (sb.2 it (Ne.symm hne)).trans q, hne⟩, fun b hb => ?_⟩
    · have e1 : ((i + 1 : Nat) : Int) = (i : Int) + 1 := by omega
      rw [e1]; exact he'
    · have hb' : b < s.heap.objs.size := by
        have e' : b = e ∨ b = it := by simpa using hb
        rcases e' with z | z
        · rw [z]; exact hel
        · rw [z]; exact hil
      rw [upd_ne (Nat.ne_of_lt hb')]
      exact (hf b hb).1
  done := by
    intro X hP hw hK hc i pins s σ H E I hf st hg
    subst hP hw hK
    obtain ⟨⟨old, he⟩, hit, hne⟩ := st
    obtain ⟨xs, hq, hx⟩ := hg
    obtain ⟨its, rv, p, hz⟩ := I.tuple hq
    have hT0 : s.heap.IsTuple a its.toArray := p
    have hai : a ≠ it := fun z => by
      obtain ⟨o1, q1, c1, _⟩ := hit
      obtain ⟨o2, q2, c2, _⟩ := hT0
      rw [z, q1] at q2; cases q2; rw [c1] at c2; exact absurd (Value.type.inj c2) (by decide)
    obtain ⟨f0, f1, f2, f3, f4, f5⟩ := hf it (by simp)
    have hl := rv.length
    have hle : its.toArray.size ≤ i := by simp; omega
    have D : Draws X.prog X.w X.A.in1 it [it, a] i (fun _ _ => False) (fun j h => j = i ∧ h.IsTupleIter it a i ∧ h.IsTuple a its.toArray) :=
      { live := fun _ _ st => let ⟨o, ho, _⟩ := st.2.1; ⟨o, ho⟩
        frame := fun _ _ _ st hk => ⟨st.1, st.2.1.at fun o e => hk it (by simp) o e, st.2.2.at fun o e => hk a (by simp) o e⟩
        item := fun j s Q E hi st hQ => absurd st.1 (by omega)
        done := fun s Q E st hE => RZ.nextOf_tuple_end (by exact I.ok.hd hc) st.2.1 st.2.2 (by simpa using hle) hE }
    exact wpAny_pyNext_enum_endD D he ⟨rfl, hit, hT0⟩ fun h' eb => ⟨rfl, I.turned (t' := s.toks) (fun b o hb q => eb b o hb q) f0 f1 f3 f4 f5⟩
  self := fun A i s Q E st h => let ⟨⟨_, he⟩, _⟩ := st; wpAny_pyIter_enum he h
def enumKP (K : PySem.W.Frag) (R : It → Hp → Prop) (vs : List V) (H1 : Hp) : Prop := ∃ a, vs = [.ref a] ∧ ((∃ xs, SqL K H1 a xs ∧ R (Ite K a) H1) ∨ (∃ xs, SqT K H1 a xs ∧ R (IteT K a) H1))
def iEnumP (K : PySem.W.Frag) (ta : TA) : TI := fun σ H R => ta σ H fun vs H1 => enumKP K R vs H1
theorem pi_enumP {X : Cx} {e : Expr} {ta : TA} {p pos tpos : Pos} {elts : List Expr} {kk : Nat} (hg : Gl X "enumerate") (hm : X.mg "enumerate" = none) (ha : PA X [e] ta) (hs : starEach [e] X.env = [(false, eval e X.env)] := by rfl) :
    PI X (.Tuple elts kk tpos) (.Call (.Name "enumerate" p) [e] [] pos) (iEnumP X.K ta) := by
  refine ⟨fun pins s σ H R I h => ?_⟩
  refine Call_ (ld_blt I hg hm boot_enumerate (PyProof.Rows.callWith_type1 (thn (ha.run pos pins s σ H _ I h) fun us s1 ⟨vs, H1, I1, r1, q1⟩ => ?_) hs rfl))
  obtain ⟨a, ex, hq⟩ := q1
  subst ex
  cases r1 with
  | cons r rr =>
    cases rr
    cases r
    have two : ∀ b, (b = s1.heap.objs.size + 1 ∨ b = s1.heap.objs.size) → s1.heap.objs.size ≤ b := fun b e' => by
      rcases e' with z | z
      · rw [z]; exact Nat.le_add_right _ _
      · rw [z]; exact Nat.le_refl _
    rcases hq with ⟨xs, hq, q⟩ | ⟨xs, hq, q⟩
    · obtain ⟨its, rv, p', hz⟩ := I1.list hq
      refine call_enumerate_list p'.isList fun h' he hit hsz hk => wpAny_pyIter_enum he ?_
      have I2 : Inv X pins σ H1 { s1 with heap := h' } := I1.kept (t' := s1.toks) hk
      refine ⟨s1.heap.objs.size + 1, [s1.heap.objs.size + 1, s1.heap.objs.size], _, _, H1, rfl, I2, turn_enum a (s1.heap.objs.size + 1) s1.heap.objs.size, ⟨⟨.none, he⟩, hit, Nat.succ_ne_self _⟩, fun b hb => ?_, q⟩
      have hle := two b (by simpa using hb)
      exact I1.fpOk hle (I1.hok.fresh hle)
    · obtain ⟨its, rv, p', hz⟩ := I1.tuple hq
      refine call_enumT (show s1.heap.IsTuple a its.toArray from p') fun h' he hit hsz hk => wpAny_pyIter_enum he ?_
      have I2 : Inv X pins σ H1 { s1 with heap := h' } := I1.kept (t' := s1.toks) hk
      refine ⟨s1.heap.objs.size + 1, [s1.heap.objs.size + 1, s1.heap.objs.size], _, _, H1, rfl, I2, turn_enumT a (s1.heap.objs.size + 1) s1.heap.objs.size, ⟨⟨.none, he⟩, hit, Nat.succ_ne_self _⟩, fun b hb => ?_, q⟩
      have hle := two b (by simpa using hb)
      exact I1.fpOk hle (I1.hok.fresh hle)
theorem i_enumP {K : PySem.W.Frag} {σ : L2.St} {H : Hp} {ta : TA} {R : It → Hp → Prop} (k : ta σ H fun vs H1 => enumKP K R vs H1) : iEnumP K ta σ H R := k
theorem l_enumL {K : PySem.W.Frag} {H : Hp} {a : Addr} {xs : List V} {R : It → Hp → Prop} (h : SqL K H a xs) (k : R (Ite K a) H) : enumKP K R [.ref a] H := ⟨a, rfl, .inl ⟨xs, h, k⟩⟩
theorem l_enumT {K : PySem.W.Frag} {H : Hp} {a : Addr} {xs : List V} {R : It → Hp → Prop} (h : SqT K H a xs) (k : R (IteT K a) H) : enumKP K R [.ref a] H := ⟨a, rfl, .inr ⟨xs, h, k⟩⟩
theorem walk_enumT {K : PySem.W.Frag} {a : Addr} {xs : List V} : Walk (IteT K a) xs.length (fun H => SqT K H a xs) (YPair (fun i => some (.int (i : Nat))) (fun i => xs[i]?)) := by
  refine ⟨fun i _ hi q => ⟨xs, xs[i], q, by simp [hi]⟩, fun _ q => ⟨xs, q, Nat.le_refl _⟩, fun i H v H' _ q y => ?_⟩
  obtain ⟨T, x, h1, h2, h3, h4⟩ := y
  exact ⟨T, .int (i : Nat), x, h1, h2, h3, rfl, h4 xs q⟩
theorem mt_insP {X : Cx} : MtR X "list.insert" rInsP := mt_insert
def zipK (K : PySem.W.Frag) (R : It → Hp → Prop) (vs : List V) (H1 : Hp) : Prop := ∃ a b xs ys, vs = [.ref a, .ref b] ∧ ((SqL K H1 a xs ∧ SqL K H1 b ys ∧ R (Itz K a b) H1) ∨ (SqT K H1 a xs ∧ SqT K H1 b ys ∧ R (RZ.ItzT K a b) H1))
theorem i_zip {K : PySem.W.Frag} {σ : L2.St} {H : Hp} {ta : TA} {R : It → Hp → Prop} (k : ta σ H fun vs H1 => zipK K R vs H1) : RZ.iZipA K ta σ H R := k
theorem l_zipL {K : PySem.W.Frag} {H : Hp} {a b : Addr} {xs ys : List V} {R : It → Hp → Prop} (h : SqL K H a xs) (h2 : SqL K H b ys) (k : R (Itz K a b) H) : zipK K R [.ref a, .ref b] H := ⟨a, b, xs, ys, rfl, .inl ⟨h, h2, k⟩⟩
theorem l_zipT {K : PySem.W.Frag} {H : Hp} {a b : Addr} {xs ys : List V} {R : It → Hp → Prop} (h : SqT K H a xs) (h2 : SqT K H b ys) (k : R (RZ.ItzT K a b) H) : zipK K R [.ref a, .ref b] H := ⟨a, b, xs, ys, rfl, .inr ⟨h, h2, k⟩⟩
/-- the heap without p: what stands whatever becomes of p -/
def hide (p : Addr) (H : Hp) : Hp := fun a => if a = p then none else H a
theorem hide_none {p : Addr} {H : Hp} : hide p H p = none := if_pos rfl
theorem hide_at {p a : Addr} {H : Hp} {o : HO} (n : a ≠ p) (h : H a = some o) : hide p H a = some o := by unfold hide; rw [if_neg n]; exact h
theorem hide_ex {p : Addr} {H : Hp} : Ex (hide p H) H := fun a o h => by
  unfold hide at h
  split at h
  · cases h
  · exact h
theorem hide_t {K : PySem.W.Frag} {p a : Addr} {H : Hp} {xs ys : List V} (hp : H p = some (.lst ys)) (h : SqT K H a xs) : SqT K (hide p H) a xs := exB_t (fun _ _ n h => hide_at n h) hp h
theorem ExB.hidden {p : Addr} {H H' : Hp} (e : ExB p H H') : Ex (hide p H) H' := ExB.new hide_ex e hide_none
theorem walk_zipT {K : PySem.W.Frag} {a b : Addr} {xs ys : List V} {n : Nat} (hn : n = min xs.length ys.length) : Walk (RZ.ItzT K a b) n (fun H => SqT K H a xs ∧ SqT K H b ys) (YPair (fun i => xs[i]?) (fun i => ys[i]?)) := by
  subst hn
  refine ⟨fun i _ hi q => ?_, fun _ q => ⟨xs, ys, q.1, q.2, by omega⟩, fun i H v H' _ q y => ?_⟩
  · have h1 : i < xs.length := by omega
    have h2 : i < ys.length := by omega
    exact ⟨xs, ys, xs[i], ys[i], q.1, q.2, by simp [h1], by simp [h2]⟩
  · obtain ⟨T, x, z, h1, h2, h3, h4, h5⟩ := y
    exact ⟨T, x, z, h1, h2, h3, h4 xs q.1, h5 ys q.2⟩
/-- sum of a tuple of whole numbers -/
def rSumT (K : PySem.W.Frag) : List V → Hp → VK → Prop := fun vs H Q => ∃ (a : Addr) (ns : List Int), vs = [V.ref a] ∧ SqT K H a (ns.map V.int) ∧ Q (.int ns.sum) H
theorem cr_sumT {X : Cx} (hc : X.calm = true) : CallR X (.builtin "sum") (rSumT X.K) := by
  intro pins s σ H vs us Q I r h
  obtain ⟨a, ns, rfl, hs, q⟩ := h
  obtain ⟨its, rv, hl, _⟩ := I.tuple hs
  rw [Vals.ref1 r]
  have hl' : s.heap.IsTuple a its.toArray := hl
  have hi := rv.ints
  obtain ⟨xs, hx⟩ := hi.allInts.items
  have hn : numsOf its.toArray.toList = ns := by rw [show its.toArray.toList = its from rfl, hi.numsOf]
  rw [hx] at hl' hn
  rw [nums_intItems] at hn
  refine PySem.W.ktm_sumG (I.ok.hd hc) hl' fun h' tk t' hk => ?_
  rw [preSum_eq, List.take_of_length_le (by simp), hn]
  exact ⟨.int _, H, I.kept hk, ⟨_, rfl⟩, q⟩
def rSumP (K : PySem.W.Frag) : List V → Hp → VK → Prop := fun vs H Q => rSum K vs H Q ∨ rSumT K vs H Q
theorem l_sumL {K : PySem.W.Frag} {H : Hp} {Q : VK} {a : Addr} {ns : List Int} (h : SqL K H a (ns.map V.int)) (k : Q (.int ns.sum) H) : rSumP K [.ref a] H Q := .inl ⟨a, ns, rfl, h, k⟩
theorem l_sumTp {K : PySem.W.Frag} {H : Hp} {Q : VK} {a : Addr} {ns : List Int} (h : SqT K H a (ns.map V.int)) (k : Q (.int ns.sum) H) : rSumP K [.ref a] H Q := .inr ⟨a, ns, rfl, h, k⟩
def rIntP : List V → Hp → VK → Prop := fun xs H Q => (∃ i, xs = [.int i] ∧ Q (.int i) H) ∨ ∃ k, xs = [.bl k] ∧ Q (.int (if k then 1 else 0)) H
theorem call_intP {X : Cx} : CallR X (.type "int") rIntP := call_int1
theorem l_intB {H : Hp} {Q : VK} {b : Bool} (k : Q (.int (if b then 1 else 0)) H) : rIntP [.bl b] H Q := .inr ⟨b, rfl, k⟩
/-! a range with a step; an item changed in place; the greatest -/
def rngK3 (R : It → Hp → Prop) (vs : List V) (H1 : Hp) : Prop := ∃ (i j c : Int) (n : Nat), vs = [.int i, .int j, .int c] ∧ RgC i j c n ∧ R (Itc i c n) H1
theorem i_rng3 {σ : L2.St} {H : Hp} {ta : TA} {R : It → Hp → Prop} (k : ta σ H fun vs H1 => rngK3 R vs H1) : iRng3 ta σ H R := k
theorem l_rngD {i j : Int} {H : Hp} {R : It → Hp → Prop} (h : -(2 ^ 62) ≤ i ∧ i < 2 ^ 62 ∧ -(2 ^ 62) ≤ j ∧ j < 2 ^ 62) (k : R (Itc i (-1) (i - j).toNat) H) : rngK3 R [.int i, .int j, .int (-1)] H := ⟨i, j, -1, _, rfl, RgC.neg h.1 h.2.1 h.2.2.1 h.2.2.2, k⟩
theorem l_forC {lo c : Int} {n : Nat} {g : TG} {tb : TS} {D : Ends} {σ : L2.St} {H : Hp} (Pv : Nat → L2.St → Hp → Prop) (h0 : Pv 0 σ H)
    (hs : ∀ i σ H, i < n → Pv i σ H → g (.int (lo + (i : Nat) * c)) σ H fun σ2 H2 => tb { D with nx := Pv (i + 1), ct := Pv (i + 1), bk := D.nx } σ2 H2) (hd : ∀ σ H, Pv n σ H → D.nx σ H) : ForK g tb D (Itc lo c n) σ H :=
  for_it walk_rangeC Pv h0 (fun _ _ _ _ _ => True.intro) (fun i x σ H H' hi hp ⟨e, hx⟩ => by subst e; rw [hx]; exact hs i σ _ hi hp) hd
/-- xs[i] op= e on a list of whole numbers -/
def rGetL : V → V → Hp → VK → Prop := fun o i H Q => ∃ p xs j v, o = .ref p ∧ i = .int ((j : Nat) : Int) ∧ H p = some (.lst xs) ∧ j < 100000 ∧ xs[j]? = some v ∧ Q v H
theorem get_list {X : Cx} : PGet X rGetL := by
  intro pins s σ H o i ov iv Q I ro ri h
  obtain ⟨p, xs, j, v, rfl, rfl, hp, hj, hx, q⟩ := h
  cases ro
  obtain ⟨t, rfl⟩ := ri
  obtain ⟨its, r, pl, hz⟩ := I.list (SqL.of (K := X.K) hp)
  obtain ⟨u, hu, ru⟩ := r.get hx
  exact wpAny_getItem_list pl.isList (by omega) (by omega) (by simpa using hu) ⟨v, H, I, ru, q⟩
theorem l_get {H : Hp} {Q : VK} {p : Addr} {xs : List V} {j : Nat} {v : V} (h : H p = some (.lst xs)) (hj : j < 100000) (hx : xs[j]? = some v) (k : Q v H) : rGetL (.ref p) (.int (j : Nat)) H Q := ⟨p, xs, j, v, rfl, rfl, h, hj, hx, k⟩
theorem q_augS {to ti te : TE} {tget : V → V → Hp → VK → Prop} {tip : TIp} {tset : TSet} {D : Ends} {σ : L2.St} {H : Hp} {u : TS} (k : to σ H fun o H1 => ti σ H1 fun i H2 => tget o i H2 fun x H3 => te σ H3 fun y H4 => tip x y H4 fun z H5 => tset o i z H5 fun H6 => u D σ H6) : tSeq (tAugS to ti te tget tip tset) u D σ H := k
theorem z_augS {to ti te : TE} {tget : V → V → Hp → VK → Prop} {tip : TIp} {tset : TSet} {D : Ends} {σ : L2.St} {H : Hp} (k : to σ H fun o H1 => ti σ H1 fun i H2 => tget o i H2 fun x H3 => te σ H3 fun y H4 => tip x y H4 fun z H5 => tset o i z H5 fun H6 => D.nx σ H6) : tAugS to ti te tget tip tset D σ H := k
def rMaxP (K : PySem.W.Frag) : List V → Hp → VK → Prop := rMax K
theorem l_maxL {K : PySem.W.Frag} {H : Hp} {Q : VK} {a : Addr} {ns : List Int} (h : SqL K H a (ns.map V.int)) (hn : 0 < ns.length) (k : ∀ m, m ∈ ns → (∀ y, y ∈ ns → y ≤ m) → Q (.int m) H) : rMaxP K [.ref a] H Q := ⟨a, ns, rfl, h, hn, k⟩
/-! the rules that lean on K, with K told -/
section
variable {X : Cx} {K : PySem.W.Frag}
theorem op_addK (h : X.K = K) : OpR X (binaryOp .Add) (rAddP K) := h ▸ op_addP
theorem op_mulK (h : X.K = K) : OpR X (binaryOp .Mult) (rMulP K) := h ▸ op_mulP
theorem op_eqK (hu : X.A.units + 64 < cLine) (h : X.K = K) : OpR X (compareOp .Eq) (rEqP K) := h ▸ op_eqP hu
theorem op_neK (hu : X.A.units + 64 < cLine) (h : X.K = K) : OpR X (compareOp .NotEq) (rNeP K) := h ▸ op_neP hu
theorem op_inK (h : X.K = K) : OpR X (compareOp .In) (rIn K false) := h ▸ op_in_seq
theorem op_notInK (h : X.K = K) : OpR X (compareOp .NotIn) (rIn K true) := h ▸ op_notIn_seq
theorem call_lenK (h : X.K = K) : CallR X (.builtin "len") (rLenP K) := h ▸ call_lenP
theorem call_tupK (h : X.K = K) : CallR X (.type "tuple") (rTupOf K) := h ▸ call_tupOf
theorem call_listK (h : X.K = K) : CallR X (.type "list") (rListOf K) := h ▸ call_listOf
theorem call_isiK' (h : X.K = K) : CallR X (.builtin "isinstance") (rIsi K) := h ▸ call_isi
theorem cr_allK (hc : X.calm = true) (h : X.K = K) : CallR X (.builtin "all") (rAll K) := h ▸ cr_all hc
theorem cr_anyK (hc : X.calm = true) (h : X.K = K) : CallR X (.builtin "any") (rAny K) := h ▸ cr_any hc
theorem cr_sumK (hc : X.calm = true) (h : X.K = K) : CallR X (.builtin "sum") (rSumP K) := h ▸ (cr_sum hc).or (cr_sumT hc)
theorem cr_maxK (hc : X.calm = true) (h : X.K = K) : CallR X (.builtin "max") (rMaxP K) := h ▸ cr_max hc
theorem sl_K (h : X.K = K) : SlR X (rSlP K) := h ▸ sl_P
theorem ix_K (h : X.K = K) : IxR X (rIx K) := h ▸ ix_seq
theorem mt_indexK (h : X.K = K) : MtR X "list.index" (rIndex K) := h ▸ mt_index
theorem pi_seqK {tg l : Expr} {tl : TE} (h : X.K = K) (hl : PE X l tl) : PI X tg l (iSeq K tl) := h ▸ pi_seq hl
theorem pi_enumK {e : Expr} {ta : TA} {p pos tpos : Pos} {elts : List Expr} {kk : Nat} (h : X.K = K) (hg : Gl X "enumerate") (hm : X.mg "enumerate" = none) (ha : PA X [e] ta) (hs : starEach [e] X.env = [(false, eval e X.env)] := by rfl) :
    PI X (.Tuple elts kk tpos) (.Call (.Name "enumerate" p) [e] [] pos) (iEnumP K ta) := h ▸ pi_enumP hg hm ha hs
theorem pi_zipK {a b : Expr} {ta : TA} {p pos tpos : Pos} {elts : List Expr} {kk : Nat} (h : X.K = K) (hg : Gl X "zip") (hm : X.mg "zip" = none) (ha : PA X [a, b] ta) (hs : starEach [a, b] X.env = (false, eval a X.env) :: starEach [b] X.env := by rfl) (hs2 : (backTo pos (starEach [b] X.env)).any (·.1) = false := by rfl) :
    PI X (.Tuple elts kk tpos) (.Call (.Name "zip" p) [a, b] [] pos) (RZ.iZipA K ta) := h ▸ RZ.pi_zipA hg hm ha hs hs2
theorem pg_tupK {es : List Expr} {k : Nat} {t : TGs} {n : Nat} {pos : Pos} (h : X.K = K) (hc : X.calm = true) (hp : PGs X es t)
    (hn : (assignEach es X.env).length = n := by rfl) (hst : (assignEach es X.env).findIdx? (·.1) = none := by rfl) : PG X (.Tuple es k pos) (gTup K n t) := h ▸ pg_tup hc hp hn hst
theorem pe_fldK {e : Expr} {ta : TE} {f : Str} {pos : Pos} (h : X.K = K) (he : PE X e ta) (hb : attributeBase e f X.env (eval e X.env) = eval e X.env) : PE X (.Attribute e f pos) (tFld K ta f) := h ▸ pe_fld he hb
theorem pe_bmK {T : String} {r : V → List V → Hp → VK → Prop} {o : Expr} {to : TE} {t : TA} (h : X.K = K) (hp : PE X o (tBM X.K T r to t)) : PE X o (tBM K T r to t) := h ▸ hp
theorem pe_bm0K {T : String} {r : V → List V → Hp → VK → Prop} {o : Expr} {to : TE} (h : X.K = K) (hp : PE X o (tBM0 X.K T r to)) : PE X o (tBM0 K T r to) := h ▸ hp
end
end
/-! tuple(reversed(a tuple)) -/
theorem nolen_rt : typeLookup (.type "reversed") "__len__" = pure none := by rw [typeLookup_type, builtinLookup_eq_fast]; kernel_rfl
theorem slot_rt_hint : Slot "reversed" "__length_hint__" "reversed.__length_hint__" :=
  .of (owner := "reversed") (n := "__length_hint__") (by rw [typeLookup_type, builtinLookup_eq_fast]; kernel_rfl) (by decide +kernel) (by decide +kernel) (by decide +kernel)
    (by first | exact .inl (by decide +kernel) | exact .inr (by decide +kernel)) (by rw [isSubtype_type]; kernel_rfl)
theorem entry_rt_hint : entryFor table "reversed.__length_hint__" = some Builtin.«reversed.__length_hint__» := entryFor_of_tree (by kernel_rfl)
theorem args_rt_hint (a : Value) : argsOk "reversed.__length_hint__" ⟨[a], []⟩ := by
  unfold argsOk; rw [signature?_of (id := "reversed.__length_hint__") (n := ['_', '_', 't', 'n', 'i', 'h', '_', 'h', 't', 'g', 'n', 'e', 'l', '_', '_']) (o := ['d', 'e', 's', 'r', 'e', 'v', 'e', 'r']) (by kernel_rfl) RT.owner_rt]; kernel_rfl
theorem walks_rt {prog : Program} {w : World} {A : Around} (hh : A.handled = none) (I l : Addr) (hne : l ≠ I) (items : Array Value) (hn : items.size ≤ sizeLine) :
    Walks prog w A I [I, l] [I] items.size (fun i v => items[items.size - 1 - i]? = some v) (fun i h => i ≤ items.size ∧ RT.IsRt h I l ((items.size : Int) - 1 - (i : Int)) ∧ IsTup h l items) where
  sub := fun b hb => by simp at hb; simp [hb]
  frame := fun _ _ _ x hk => ⟨x.1, x.2.1.at fun o e => hk I (by simp) o e, by
    obtain ⟨o, ho, r⟩ := x.2.2
    exact ⟨o, hk l (by simp) o ho, r⟩⟩
  item := fun i s Q E hi x hQ => by
    have e : (items.size : Int) - 1 - (i : Int) = ((items.size - 1 - i : Nat) : Int) := by omega
    have hit := x.2.1
    rw [e] at hit
    have hx : items[items.size - 1 - i]? = some (items[items.size - 1 - i]'(by omega)) := Array.getElem?_eq_getElem (by omega)
    refine RT.next_rt_item hit x.2.2 hx hn fun h' hit' hs' => ?_
    have e2 : ((items.size - 1 - i : Nat) : Int) - 1 = (items.size : Int) - 1 - ((i + 1 : Nat) : Int) := by omega
    rw [e2] at hit'
    refine hQ _ h' _ hx ⟨hi, hit', ?_⟩ fun b o hb eo => (hs'.2 b (fun h => hb (by simp [h]))).trans eo
    obtain ⟨o, ho, r⟩ := x.2.2
    exact ⟨o, (hs'.2 l hne).trans ho, r⟩
  done := fun s Q E x hQ => by
    have e : (items.size : Int) - 1 - (items.size : Int) = -1 := by omega
    have hit := x.2.1
    rw [e] at hit
    exact RT.next_rt_end hh hit fun h' he' => hQ h' s.toks fun b o hb eo => he' b o (fun h => hb (by simp [h])) eo
  self := fun _ _ _ _ x hQ => RT.iter_rt x.2.1 hQ
section
variable {prog : Program} {w : World} {A : Around} {E : Value → Shared → Prop} {s : Shared}
theorem call_rt_hint {it t : Addr} {items : Array Value} {Q : Value → Shared → Prop} (hit : RT.IsRt s.heap it t ((items.size : Int) - 1)) (ht : IsTup s.heap t items) (hn : items.size ≤ sizeLine)
    (hQ : ∀ tk tk', Q (.int (items.size : Nat) tk) { s with toks := tk' }) : wpAny (model prog w) A (call (.builtin "reversed.__length_hint__") [.ref it]) Q E s := by
  obtain ⟨o, ho, hc, hd⟩ := id hit
  rw [sizeLine_eq] at hn
  refine wpAny_call_entry slot_rt_hint hit.typeIs entry_rt_hint ?_ (args_rt_hint _)
  unfold Builtin.«reversed.__length_hint__»
  refine wpAny_bind (wpAny_of_eq (a := Value.ref it) rfl ?_)
  try dsimp only
  refine wpAny_bind (wpAny_field ho hd (x := .ref t) rfl ?_)
  try dsimp only
  rw [if_neg (by simp)]
  try dsimp only
  refine wpAny_bind ?_
  refine PyProof.Rows.len_tuple ht (by omega) ?_
  refine wpAny_bind (wpAny_of_eq (a := some ((items.size : Nat) : Int)) rfl ?_)
  try dsimp only
  refine wpAny_bind (wpAny_field (s := { s with toks := s.toks + 1 + 1 }) ho hd (x := rawInt ((items.size : Int) - 1)) rfl ?_)
  try dsimp only [rawInt]
  rw [if_neg (by omega)]
  unfold retInt
  refine wpAny_bind (wpAny_mkInt ?_)
  have e : (items.size : Int) - 1 + 1 = (items.size : Nat) := by omega
  refine wpAny_pure ⟨_, rfl, ?_⟩
  rw [e]
  exact hQ _ _
theorem hint_rt {it t : Addr} {items : Array Value} {Q : Bool → Shared → Prop} (hit : RT.IsRt s.heap it t ((items.size : Int) - 1)) (ht : IsTup s.heap t items) (hn : items.size ≤ sizeLine)
    (hQ : ∀ tk', Q (items.size != 0) { s with toks := tk' }) : wpAny (model prog w) A (Builtin.List.listLengthHint (.ref it)) Q E s := by
  have hT := hit.typeIs
  unfold Builtin.List.listLengthHint
  refine wpAny_bind (wpAny_specialOf hT nolen_rt ?_)
  show wpAny _ A (specialOf (Value.ref it) (Str.ofString "__length_hint__") >>= _) _ _ _
  refine wpAny_bind (wpAny_specialOf hT slot_rt_hint.lookup ?_)
  generalize hid : ("reversed.__length_hint__" : String) = id0
  wp_delta
  rw [show splitId id0 = some ("reversed", "__length_hint__") from by subst hid; decide +kernel]
  subst hid
  refine wpAny_bind (wpAny_isInstance (b := true) hT (by rw [isSubtype_type]; kernel_rfl) ?_)
  rw [if_neg (by decide)]
  try dsimp only
  rw [if_neg (by decide +kernel)]
  refine wpAny_bind (wpAny_rule ?_)
  refine wpAny_bind (wpAny_of_eq (slot_rt_hint.bind _) ?_)
  try dsimp only
  refine wpAny_bind (wpAny_attempt (call_rt_hint hit ht hn fun tk tk' => ?_))
  try dsimp only
  have ea : asInt? (Value.int ((items.size : Nat) : Int) tk) = pure (some ((items.size : Nat) : Int)) := rfl
  rw [sizeLine_eq] at hn
  generalize hz : ((items.size : Nat) : Int) = z at *
  refine wpAny_bind ?_
  rw [ea]
  refine wpAny_pure ?_
  try dsimp only
  have f1 : Builtin.List.listFitsIndex z = true := by
    unfold Builtin.List.listFitsIndex
    rw [decide_eq_true (by omega), decide_eq_true (by omega)]; rfl
  have f2 : Builtin.List.listTooLong z.toNat = false := by
    unfold Builtin.List.listTooLong
    rw [sizeLine_eq]
    exact decide_eq_false (by omega)
  rw [if_neg (by rw [f1]; decide), if_neg (by omega), if_neg (by rw [f2]; decide)]
  refine wpAny_pure ?_
  have e : (z != 0) = (items.size != 0) := by
    rw [← hz]
    cases items.size with
    | zero => rfl
    | succ n => rfl
  rw [e]
  exact hQ _
theorem collect_rt {it l : Addr} {items : Array Value} {Q : List Value → Shared → Prop} (hh : A.handled = none) (hit : RT.IsRt s.heap it l ((items.size : Int) - 1)) (hl : IsTup s.heap l items) (hne : l ≠ it) (hn : items.size ≤ sizeLine)
    (hQ : ∀ (h' : Heap) (tk : Nat) (acc : Array Value), (∀ b o, b ≠ it → s.heap.get? b = some o → h'.get? b = some o) → ItemsOf (fun i v => items[items.size - 1 - i]? = some v) acc items.size → Q acc.toList { s with heap := h', toks := tk }) :
    wpAny (model prog w) A (collect (.ref it)) Q E s := by
  have W := (walks_rt (prog := prog) (w := w) (A := A.in1) hh it l hne items hn).toS
  obtain ⟨oi, hoi, _⟩ := id hit
  obtain ⟨ol, hol, _⟩ := id hl
  have hSi : s.heap.objs.size ≠ it := Nat.ne_of_gt (Heap.lt_size hoi)
  have hSl : s.heap.objs.size ≠ l := Nat.ne_of_gt (Heap.lt_size hol)
  have hSf : s.heap.objs.size ∉ [it, l] := by simp only [List.mem_cons, List.not_mem_nil, or_false, not_or]; exact ⟨hSi, hSl⟩
  unfold collect
  refine wpAny_bind (wpAny_runValue (codeAny_builtin F.entry_proto_collect ?_))
  rw [Around.under_plainId F.plain_proto_collect _]
  show wpAny _ A.in1 (newList [] >>= fun l' => again (.builtin "list.__iadd__" ⟨[l', .ref it], []⟩)) _ _ s
  refine wpAny_bind (wpAny_newObj_type ?_)
  refine wpAny_pure ⟨plainId_quiet F.plain_list_iadd _, codeAny_builtin F.entry_list_iadd ?_⟩
  rw [Around.under_plainId F.plain_list_iadd _]
  have k0 : ∀ b o, s.heap.get? b = some o → (s.heap.push { cls := .type "list", data := .seq ([] : List Value).toArray }).get? b = some o := fun b o e => Heap.get?_push_of_some _ e
  have hS₁ : (s.heap.push { cls := .type "list", data := .seq ([] : List Value).toArray }).get? s.heap.objs.size = some { cls := .type "list", data := .seq ([] : List Value).toArray } := Heap.get?_push_size _ rfl
  have hit1 : RT.IsRt (s.heap.push { cls := .type "list", data := .seq ([] : List Value).toArray }) it l ((items.size : Int) - 1) := hit.at fun o e => k0 _ _ e
  have tupK : ∀ {h h' : Heap}, (∀ b o, h.get? b = some o → b ≠ s.heap.objs.size → h'.get? b = some o) → IsTup h l items → IsTup h' l items := fun k ⟨o, ho, r⟩ => ⟨o, k _ _ ho (Ne.symm hSl), r⟩
  have hl1 : IsTup (s.heap.push { cls := .type "list", data := .seq ([] : List Value).toArray }) l items := tupK (fun b o e _ => k0 b o e) hl
  have hT : ({ s with heap := s.heap.push { cls := .type "list", data := .seq ([] : List Value).toArray } } : Shared).TypeIs (.ref it) "reversed" := RT.IsRt.typeIs (s := { s with heap := s.heap.push { cls := .type "list", data := .seq ([] : List Value).toArray } }) hit1
  have h1 : Builtin.List.listSameRef (.ref s.heap.objs.size) (.ref it) = false := by simp [Builtin.List.listSameRef, hSi]
  show wpAny _ A.in1 (Builtin.List.listExtendWith (.ref s.heap.objs.size) (.ref it) (.ref s.heap.objs.size)) _ _ _
  unfold Builtin.List.listExtendWith
  refine wpAny_bind (wpAny_typeOf hT ?_)
  rw [if_neg (by rw [h1]; decide)]
  refine wpAny_bind (RT.iter_rt (s := { s with heap := s.heap.push { cls := .type "list", data := .seq ([] : List Value).toArray } }) hit1 ?_)
  refine wpAny_bind (wpAny_holding ?_)
  refine hint_rt (s := { s with heap := s.heap.push { cls := .type "list", data := .seq ([] : List Value).toArray } }) hit1 hl1 hn fun tk' => ?_
  have e0 : ((items.size : Nat) : Int) - 1 - ((0 : Nat) : Int) = (items.size : Int) - 1 := by omega
  by_cases hz : items.size = 0
  · rw [if_neg (by rw [hz]; decide +kernel)]
    have hS₃ := hS₁
    have oth : ∀ b o, b ≠ s.heap.objs.size → s.heap.get? b = some o → (s.heap.push { cls := .type "list", data := .seq ([] : List Value).toArray }).get? b = some o := fun b o _ e => k0 b o e
    generalize s.heap.push { cls := .type "list", data := .seq ([] : List Value).toArray } = h3 at hS₃ oth ⊢
    have hit3 : RT.IsRt h3 it l ((items.size : Int) - 1) := hit.at fun o e => oth _ _ (Ne.symm hSi) e
    have hl3 : IsTup h3 l items := by
      obtain ⟨o, ho, r⟩ := hl
      exact ⟨o, oth _ _ (Ne.symm hSl) ho, r⟩
    refine wpAny_pure ⟨plainId_quiet F.plain_extend_loop _, codeAny_extend_loopS W hn _ hSf _ items.size 0 _ _ _ rfl (Nat.zero_le _) ⟨Nat.zero_le _, by rw [e0]; exact hit3, hl3⟩ hS₃ (ItemsOf.nil _) fun s' acc' c' hm hS' hacc => ?_⟩
    show wpAny _ A (load s.heap.objs.size >>= _) _ _ s'
    refine wpAny_bind (wpAny_load hS' ?_)
    refine wpAny_pure ?_
    rw [Moved.eq_with hm]
    refine hQ s'.heap s'.toks acc' (fun b o hb e => hm.heap b o (fun hmem => ?_) (oth _ _ (fun z => absurd (Heap.lt_size e) (by rw [z]; exact Nat.lt_irrefl _)) e)) hacc
    rcases List.mem_cons.mp hmem with e' | hmem
    · exact absurd (Heap.lt_size e) (by rw [e']; exact Nat.lt_irrefl _)
    · exact hb (List.mem_singleton.mp hmem)
  · rw [if_pos (by rw [show (items.size != 0) = true by simp [hz]]; rfl)]
    refine wpAny_bind (wpAny_rule ?_)
    refine wpAny_bind ?_
    show wpAny _ A.in1 (updateSeq s.heap.objs.size (·.push .none) >>= fun _ => updateSeq s.heap.objs.size (·.pop)) _ _ _
    refine wpAny_bind (wpAny_updateSeq hS₁ rfl ?_)
    have hS₂ := Heap.get?_update_self (Obj.mapSeq (·.push Value.none)) hS₁ rfl
    refine wpAny_updateSeq hS₂ rfl ?_
    have hS₃ := Heap.get?_update_self (Obj.mapSeq (·.pop)) hS₂ rfl
    have oth : ∀ b o, b ≠ s.heap.objs.size → s.heap.get? b = some o →
      (((s.heap.push { cls := .type "list", data := .seq ([] : List Value).toArray }).update s.heap.objs.size (Obj.mapSeq (·.push Value.none))).update s.heap.objs.size (Obj.mapSeq (·.pop))).get? b = some o :=
      fun b o hb e => (Heap.get?_update_other _ _ (Ne.symm hb)).trans ((Heap.get?_update_other _ _ (Ne.symm hb)).trans (k0 b o e))
    generalize ((s.heap.push { cls := .type "list", data := .seq ([] : List Value).toArray }).update s.heap.objs.size (Obj.mapSeq (·.push Value.none))).update s.heap.objs.size (Obj.mapSeq (·.pop)) = h3 at hS₃ oth ⊢
    have hit3 : RT.IsRt h3 it l ((items.size : Int) - 1) := hit.at fun o e => oth _ _ (Ne.symm hSi) e
    have hl3 : IsTup h3 l items := by
      obtain ⟨o, ho, r⟩ := hl
      exact ⟨o, oth _ _ (Ne.symm hSl) ho, r⟩
    refine wpAny_pure ⟨plainId_quiet F.plain_extend_loop _, codeAny_extend_loopS W hn _ hSf _ items.size 0 _ _ _ rfl (Nat.zero_le _) ⟨Nat.zero_le _, by rw [e0]; exact hit3, hl3⟩ hS₃ (ItemsOf.nil _) fun s' acc' c' hm hS' hacc => ?_⟩
    show wpAny _ A (load s.heap.objs.size >>= _) _ _ s'
    refine wpAny_bind (wpAny_load hS' ?_)
    refine wpAny_pure ?_
    rw [Moved.eq_with hm]
    refine hQ s'.heap s'.toks acc' (fun b o hb e => hm.heap b o (fun hmem => ?_) (oth _ _ (fun z => absurd (Heap.lt_size e) (by rw [z]; exact Nat.lt_irrefl _)) e)) hacc
    rcases List.mem_cons.mp hmem with e' | hmem
    · exact absurd (Heap.lt_size e) (by rw [e']; exact Nat.lt_irrefl _)
    · exact hb (List.mem_singleton.mp hmem)
theorem code_tuple_new_rt {it l : Addr} {items : Array Value} {Q₁ : Value → Shared → Prop} (hh : A.handled = none) (hit : RT.IsRt s.heap it l ((items.size : Int) - 1)) (hl : IsTup s.heap l items) (hne : l ≠ it) (hn : items.size ≤ sizeLine)
    (h : ∀ (h' : Heap) (tk : Nat) (acc : Array Value), (∀ b o, b ≠ it → s.heap.get? b = some o → h'.get? b = some o) → ItemsOf (fun i v => items[items.size - 1 - i]? = some v) acc items.size →
      Q₁ (.ref h'.objs.size) { s with heap := h'.push { cls := .type "tuple", data := .seq acc }, toks := tk }) :
    codeAny (model prog w) A (.call (.builtin "tuple.__new__") ⟨[.type "tuple", .ref it], []⟩) (wants Q₁ E) s := by
  refine codeAny_of_tree ?_
  show wpAny _ A.in1 (do checkBuiltinCall "tuple.__new__" ⟨[.type "tuple", .ref it], []⟩; again (.builtin "tuple.__new__" ⟨[.type "tuple", .ref it], []⟩)) _ _ s
  refine wpAny_bind (wpAny_of_eq (F.newCall_tuple_1 _) (wpAny_pure ⟨plainId_quiet F.plain_tuple_new _, codeAny_builtin F.entry_tuple_new ?_⟩))
  rw [Around.under_plainId F.plain_tuple_new _]
  have hsub := sub_tuple_self
  have hinit := init_tuple_lookup
  have hmh := madeHere_tuple
  have hTI : s.TypeIs (.ref it) "reversed" := hit.typeIs
  have hh1 : A.in1.handled = none := hh
  wp_walk using wpAny_typeOf hTI, collect_rt (A := A.in1) hh1 hit hl hne hn
  intro h' tk acc hk hacc
  show wpAny _ _ (Builtin.Tuple.tupleExact acc.toList.toArray >>= fun v => ret v) _ _ _
  unfold Builtin.Tuple.tupleExact
  refine wpAny_bind (wpAny_newObj_type ?_ (by show acc.toList.toArray.size ≤ sizeLine; simp only [Array.toArray_toList]; rw [hacc.1]; exact hn))
  refine wpAny_pure ?_
  have e : acc.toList.toArray = acc := by simp
  rw [e]
  exact h h' tk acc hk hacc
theorem call_tuple_rt {it l : Addr} {items : Array Value} {Q : Value → Shared → Prop} (hh : A.handled = none) (hit : RT.IsRt s.heap it l ((items.size : Int) - 1)) (hl : IsTup s.heap l items) (hne : l ≠ it) (hn : items.size ≤ sizeLine)
    (hQ : ∀ (h' : Heap) (tk : Nat) (acc : Array Value), (∀ b o, b ≠ it → s.heap.get? b = some o → h'.get? b = some o) → ItemsOf (fun i v => items[items.size - 1 - i]? = some v) acc items.size →
      Q (.ref h'.objs.size) { s with heap := h'.push { cls := .type "tuple", data := .seq acc }, toks := tk }) :
    wpAny (model prog w) A (call (.type "tuple") [.ref it]) Q E s := by
  refine callType_codes (Q₁ := fun obj s₁ => s₁.TypeIs obj "tuple" ∧ Q obj s₁) F.called_tuple (F.typeCall_tuple_1 _) F.entry_object_init
    (code_tuple_new_rt (A := A.in1) hh hit hl hne hn fun h' tk acc hk hacc => ⟨⟨_, Heap.get?_push_size _ rfl, rfl⟩, hQ h' tk acc hk hacc⟩) fun obj s₁ h₁ => ?_
  exact ⟨h₁.1, F.args_object_init_2 obj _, object_init_meets F.called_tuple.init.lookup F.called_tuple.made (by decide) prog w A.in1 _ s₁ ⟨h₁.1, rfl, h₁.2⟩⟩
end
section
variable {X : Cx}
def tTupRevT (K : PySem.W.Frag) (te : TE) : TE := fun σ H Q => te σ H fun v H1 => ∃ (a : Addr) (xs : List V), v = .ref a ∧ SqT K H1 a xs ∧ ∀ q, H1 q = none → Q (.ref q) (upd H1 q (.tup xs.reverse))
theorem pe_tupRevT {e : Expr} {te : TE} {p p2 pos pos2 : Pos} (hc : X.calm = true) (hg : Gl X "tuple") (hm : X.mg "tuple" = none) (hg2 : Gl X "reversed") (hm2 : X.mg "reversed" = none) (he : PE X e te)
    (hs : starEach [e] X.env = (false, eval e X.env) :: starEach [] X.env := by rfl)
    (hs2 : starEach [.Call (.Name "reversed" p2) [e] [] pos2] X.env = (false, eval (.Call (.Name "reversed" p2) [e] [] pos2) X.env) :: starEach [] X.env := by rfl) :
    PE X (.Call (.Name "tuple" p) [.Call (.Name "reversed" p2) [e] [] pos2] [] pos) (tTupRevT X.K te) := by
  refine ⟨fun pins s σ H Q I h => ?_⟩
  refine Call_ (ld_blt I hg hm boot_tuple (PyProof.Rows.callWith_type1 (args_cons (Call_ (ld_blt I hg2 hm2 PyProof.Rows.boot_reversed (PyProof.Rows.callWith_type1 (args_cons (thn (he.run pins s σ H _ I h) fun u s1 ⟨v, H1, I1, r1, q1⟩ => args_nil ?_) hs) hs rfl))) hs2) hs2 rfl))
  obtain ⟨a, xs, ev, hq, q⟩ := q1
  subst ev
  obtain rfl : u = Value.ref a := r1
  obtain ⟨its, rv, p', hz⟩ := I1.tuple hq
  have p2' : IsTup s1.heap a its.toArray := p'
  have hn63 := line63
  have hn : its.toArray.size ≤ sizeLine := by rw [List.size_toArray, ← rv.length]; exact hz
  have hlen := rv.length
  refine RT.call_reversed_tup p2' (fun A E Q k => PyProof.Rows.len_tuple p2' (by simp only [List.size_toArray] <;> omega) k) (args_nil ?_)
  obtain ⟨ol, hol, _⟩ := id p2'
  have hne : a ≠ s1.heap.objs.size := Nat.ne_of_lt (Heap.lt_size hol)
  have k0 : ∀ b o, s1.heap.get? b = some o → (s1.heap.push (RT.rtObj a ((its.toArray.size : Int) - 1))).get? b = some o := fun b o e => Heap.get?_push_of_some _ e
  have I2 : Inv X pins σ H1 { s1 with heap := s1.heap.push (RT.rtObj a ((its.toArray.size : Int) - 1)), toks := s1.toks + 1 + 1 } := I1.kept (t' := s1.toks + 1 + 1) k0
  obtain ⟨f0, f1, f2, f3, f4, f5⟩ := I1.fpOk (H' := H1) (b := s1.heap.objs.size) (Nat.le_refl _) (I1.hok.fresh (Nat.le_refl _))
  have hl2 : IsTup (s1.heap.push (RT.rtObj a ((its.toArray.size : Int) - 1))) a its.toArray := by
    obtain ⟨o, ho, r⟩ := p2'
    exact ⟨o, k0 _ _ ho, r⟩
  refine call_tuple_rt (s := { s1 with heap := s1.heap.push (RT.rtObj a ((its.toArray.size : Int) - 1)), toks := s1.toks + 1 + 1 }) (I1.ok.hd hc) ⟨_, Heap.get?_push_size _ rfl, rfl, rfl⟩ hl2 hne hn fun h' tk acc hk hi => ?_
  have I3 : Inv X pins σ H1 { s1 with heap := h', toks := tk } := I2.turned (t' := tk) (fun b o hb e => hk b o hb e) f0 f1 f3 f4 f5
  refine ⟨.ref h'.objs.size, upd H1 h'.objs.size (.tup xs.reverse), I3.laid (t' := tk) (fun c o e => Heap.get?_push_of_some _ e) (Nat.le_refl _) (show ObjOk X.prog X.w _ _ _ (.tup xs.reverse) from ⟨by rw [List.length_reverse]; exact hz, acc.toList, RT.vals_rev rv hi, ?_⟩), rfl, q _ (I3.hok.fresh (Nat.le_refl _))⟩
  rw [Array.toArray_toList]
  exact IsTup.new _ _
end
theorem pe_tupRevTK {X : Cx} {K : PySem.W.Frag} (h : X.K = K) {e : Expr} {te : TE} (hp : PE X e (tTupRevT X.K te)) : PE X e (tTupRevT K te) := h ▸ hp
def tupRevK (K : PySem.W.Frag) (Q : VK) (v : V) (H : Hp) : Prop := ∃ (a : Addr) (xs : List V), v = .ref a ∧ SqT K H a xs ∧ ∀ q, H q = none → Q (.ref q) (upd H q (.tup xs.reverse))
theorem w_tupRev {K : PySem.W.Frag} {te : TE} {σ : L2.St} {H : Hp} {Q : VK} (k : te σ H (tupRevK K Q)) : tTupRevT K te σ H Q := k
theorem l_tupRev {K : PySem.W.Frag} {H : Hp} {Q : VK} {a : Addr} {xs : List V} (h : SqT K H a xs) (k : ∀ q H', H q = none → Ex H H' → H' q = some (.tup xs.reverse) → Q (.ref q) H') : tupRevK K Q (.ref a) H := ⟨a, xs, rfl, h, fun q hq => k q _ hq (Evl.Ex.new hq) upd_same⟩
/-! a, b = x, y; is not True -/
theorem q_par {i j : Nat} {ta : TA} {D : Ends} {σ : L2.St} {H : Hp} {u : TS} (k : ta σ H fun vs H1 => ∃ v w, vs = [v, w] ∧ u D ((σ.set i (some v)).set j (some w)) H1) : tSeq (tPar i j ta) u D σ H := k
theorem w_two {a b : V} {P : V → V → Prop} (k : P a b) : ∃ v w, [a, b] = [v, w] ∧ P v w := ⟨a, b, rfl, k⟩
theorem l_notB {a b : Bool} {H : Hp} {Q : VK} (k : Q (.bl (!decide (a = b))) H) : rNotB (.bl a) (.bl b) H Q := ⟨a, b, rfl, rfl, k⟩
theorem l_isB {a b : Bool} {H : Hp} {Q : VK} (k : Q (.bl (decide (a = b))) H) : rIsB (.bl a) (.bl b) H Q := ⟨a, b, rfl, rfl, k⟩
/-! sorted(set(xs)) of whole numbers, xs a list or a tuple, fewer than 64 -/
section
variable {P : Program} {w : World} {A : Around} {E : Value → Shared → Prop} {s : Shared}
theorem call_set_lstI {l : Addr} {items : Array Value} (ns : List Int) {Q : Value → Shared → Prop} (hh : A.handled = none) (hl : s.heap.IsList l items) (hit : IntsAre items.toList ns) (hb : ns.length + 1 < scanBound)
    (h : ∀ (h' : Heap) (tk c : Nat), SetR w h' s.heap.objs.size (fun j => decide (j ∈ ns)) c → c ≤ ns.length → (∀ b o, s.heap.get? b = some o → h'.get? b = some o) → Q (.ref s.heap.objs.size) { s with heap := h', toks := tk }) :
    wpAny (model P w) A (call (.type "set") [.ref l]) Q E s := by
  have hisz : items.size = ns.length := by
    have q := IntsAre.length hit
    rw [Array.length_toList] at q
    exact q
  obtain ⟨c, tl, hmro⟩ := F.called_set.mro
  have hmade := F.called_set.made
  have hsub := F.called_set.sub
  refine wpAny_call (codeAny_of_tree ?_)
  show wpAny _ _ (callAny (.type "set") _) _ _ _
  refine wpAny_pure ⟨Code.quiet_builtin _ (by decide +kernel), codeAny_builtin F.entry_type_call ?_⟩
  rw [Around.under_plain (weight_type_call_type "set" [.ref l] []) rfl]
  have h1 := F.called_set.notType
  have h2 := F.called_set.canCreate
  have hct := F.typeCall_set_1 (.ref l)
  repeat (any_goals (first | assumption | wp_step))

  refine codeAny_mono (code_set_led1 (.ref l) (E := E) (Q₁ := fun obj s₁ => obj = .ref s.heap.objs.size ∧ s₁ = { s with heap := s.heap.push { cls := .type "set", dict := none, data := .set #[] 0 (.fresh 0 0 (!w.params.followText "set-order")) } }) ⟨rfl, rfl⟩) fun r s₁ hr => ?_
  cases r with
  | error e => exact hr
  | ok fl =>
    cases fl with
    | ret obj =>
      obtain ⟨rfl, rfl⟩ := hr
      have hS : (s.heap.push { cls := .type "set", dict := none, data := .set #[] 0 (.fresh 0 0 (!w.params.followText "set-order")) }).get? s.heap.objs.size = some { cls := .type "set", dict := none, data := .set #[] 0 (.fresh 0 0 (!w.params.followText "set-order")) } := Heap.get?_push_size _ rfl
      have hT : Shared.TypeIs { s with heap := s.heap.push { cls := .type "set", dict := none, data := .set #[] 0 (.fresh 0 0 (!w.params.followText "set-order")) } } (.ref s.heap.objs.size) "set" := ⟨_, hS, rfl⟩
      have hli := F.called_set.init.lookup
      have hbi := F.called_set.init.bind (.ref s.heap.objs.size)
      repeat (any_goals (first | assumption | wp_step))

      refine codeAny_mono (codeAny_call_builtin (R := wants (fun r s₂ => r = .none ∧ ∃ h' tk c, s₂ = { s with heap := h', toks := tk } ∧ SetR w h' s.heap.objs.size (fun j => decide (j ∈ ns)) c ∧ c ≤ ns.length ∧
          (∀ b o, s.heap.get? b = some o → h'.get? b = some o)) E) F.called_set.init.plain F.entry_set_init (check_set_init_1 hT ?_)) fun r₂ s₂ hr₂ => ?_
      · obtain ⟨ol, hol, hcl, nl, hdl⟩ := hl
        obtain ⟨ocls, odict, odata, oslots⟩ := ol
        simp only at hcl hdl
        subst hcl; subst hdl
        have hol' : (s.heap.push { cls := .type "set", dict := none, data := .set #[] 0 (.fresh 0 0 (!w.params.followText "set-order")) }).get? l = some { cls := .type "list", dict := odict, data := .seq items nl, slots := oslots } := Heap.get?_push_of_some _ hol
        have hsls := F.sub_list_set
        have hslf := F.sub_list_frozenset
        have hne : (Value.type "list" == Value.type "dict") = false := by decide
        have hl1 : (s.heap.push { cls := .type "set", dict := none, data := .set #[] 0 (.fresh 0 0 (!w.params.followText "set-order")) }).IsList l items := ⟨_, hol', rfl, nl, rfl⟩
        unfold Builtin.«set.__init__» noKeywords Builtin.Frozenset.updateFrom
        generalize hPI : pyIter = PI
        wp_walk
        subst hPI

        refine wpAny_pyIter_list hl1 ?_
        refine wpAny_bind (wpAny_runValue ?_)
        have hlS : l < s.heap.objs.size := Heap.lt_size hol
        have hh3 : A.in1.in1.in1.handled = none := by simp [hh]
        have hz1 : (s.heap.push { cls := .type "set", dict := none, data := .set #[] 0 (.fresh 0 0 (!w.params.followText "set-order")) }).objs.size = s.heap.objs.size + 1 := Heap.size_push ..
        have hneI : l ≠ (s.heap.push { cls := .type "set", dict := none, data := .set #[] 0 (.fresh 0 0 (!w.params.followText "set-order")) }).objs.size := by
          rw [Heap.size_push]; exact Nat.ne_of_lt (Nat.lt_succ_of_lt hlS)
        have hSf : s.heap.objs.size ∉ [(s.heap.push { cls := .type "set", dict := none, data := .set #[] 0 (.fresh 0 0 (!w.params.followText "set-order")) }).objs.size, l] := by
          rw [Heap.size_push]; simp only [List.mem_cons, List.mem_singleton, List.not_mem_nil, or_false, not_or]
          exact ⟨Nat.ne_of_lt (Nat.lt_succ_self _), Nat.ne_of_gt hlS⟩
        have hval : ∀ (i : Nat) (v : Value), items[i]? = some v → ∃ k t, ns[i]? = some k ∧ v = .int k t := fun i v hv => by
          have hi : i < ns.length := by rw [← hisz]; exact (Array.getElem?_eq_some_iff.mp hv).1
          obtain ⟨t, e⟩ := PyProof.Rows.IntsAre.int_at hit i v (by rw [Array.getElem?_toList]; exact hv)
          refine ⟨ns[i], t, List.getElem?_eq_getElem hi, ?_⟩
          rw [e, List.getD_eq_getElem?_getD, List.getElem?_eq_getElem hi] <;> rfl
        refine set_update_ints ((Walks.list hh3 _ l hneI items).toS) s.heap.objs.size
          hSf ns hisz hb hval (items.size - 0) 0 _ (by omega) (Nat.zero_le _)
          ⟨⟨_, Heap.get?_push_size _ rfl, rfl, rfl⟩, (hl1.push _)⟩ ?hS0 ?hR
        case hS0 =>
          have hget : ((s.heap.push { cls := .type "set", dict := none, data := .set #[] 0 (.fresh 0 0 (!w.params.followText "set-order")) }).push { cls := .type "list_iterator", data := .fields #[.ref l, .int 0 0] }).get? s.heap.objs.size
              = some { cls := .type "set", dict := none, data := .set #[] 0 (.fresh 0 0 (!w.params.followText "set-order")) } := Heap.get?_push_of_some _ hS
          exact ⟨0, Nat.le_refl 0, setR_new_at hget⟩
        case hR =>
          intro s' c' hm hc' hS'
          obtain ⟨h', g2, d', tk', os'⟩ := s'
          have eg : g2 = s.gens := hm.gens
          have ed : d' = s.drawn := hm.drawn
          have eo : os' = s.os := hm.os
          subst eg; subst ed; subst eo
          show wpAny _ _ _ _ _ _
          refine wpAny_pure ?_
          show wpAny _ _ (ret Value.none) _ _ _
          rw [hisz] at hc'
          refine wpAny_pure ⟨rfl, h', tk', c', rfl, hS', hc', fun b o e => ?_⟩
          have hb0 : b < s.heap.objs.size := Heap.lt_size e
          have hb1 : b ≠ s.heap.objs.size := Nat.ne_of_lt hb0
          have hb2 : b ≠ (s.heap.push { cls := .type "set", dict := none, data := .set #[] 0 (.fresh 0 0 (!w.params.followText "set-order")) }).objs.size := by
            rw [Heap.size_push]; exact Nat.ne_of_lt (Nat.lt_succ_of_lt hb0)
          exact hm.heap b o (by simp only [List.mem_cons, List.mem_singleton, List.not_mem_nil, or_false, not_or]; exact ⟨hb1, hb2⟩) (Heap.get?_push_of_some _ (Heap.get?_push_of_some _ e))

      · cases r₂ with
        | error e => exact hr₂
        | ok fl₂ =>
          cases fl₂ with
          | ret r =>
            obtain ⟨rfl, h', tk, c', rfl, hS', hc', hk'⟩ := hr₂
            repeat (any_goals (first | assumption | wp_step))
            exact h _ _ _ hS' hc' hk'
          | _ => exact hr₂.elim
    | _ => exact hr.elim

end
def sortSetK (K : PySem.W.Frag) (Q : VK) (v : V) (H : Hp) : Prop := ∃ (a : Addr) (ns : List Int), v = .ref a ∧ (SqT K H a (ns.map V.int) ∨ SqL K H a (ns.map V.int)) ∧ ns.length < 64 ∧
  ∀ (out : List Int) (p : Addr), out.Pairwise (· < ·) → (∀ k, k ∈ out ↔ k ∈ ns) → out.length ≤ ns.length → H p = none → Q (.ref p) (upd H p (.lst (out.map V.int)))
/-! ### sorting tuples of whole numbers, any number of them -/
section
open Srt
variable {prog : Program} {w : World} {A : Around} {E : Value → Shared → Prop} {s : Shared}
def byCode (g : Heap) (B : Int) (v u : Value) : Bool := decide (TS.code B (TS.intsOf g v) < TS.code B (TS.intsOf g u))
theorem byCode_swo (g : Heap) (B : Int) : SrtO.Swo (byCode g B) := by
  refine ⟨fun x y h => ?_, fun x y z h1 h2 => ?_⟩
  · have a := of_decide_eq_true h
    exact decide_eq_false (by omega)
  · have a := of_decide_eq_false h1
    have b := of_decide_eq_false h2
    exact decide_eq_false (by omega)
theorem tups_cmp {d : Nat} {B : Int} {vs : List Value} (x : TS.TupsOk s.heap d B vs) (g : Heap) (hg : ∀ v ∈ vs, TS.intsOf g v = TS.intsOf s.heap v) : SrtO.Cmp prog w A s (tuples' true) (fun p => p.1 ∈ vs) (SrtO.lt2 (byCode g B)) := by
  intro p q hm hm'
  obtain ⟨ns, tp, lp, bp⟩ := x _ hm
  obtain ⟨ms, tq, lq, bq⟩ := x _ hm'
  show wpAny (model prog w) A (keyLt' (tuples' true) p.1 q.1) (fun r s' => s' = s ∧ r = byCode g B p.1 q.1) (fun _ _ => False) s
  have e : byCode g B p.1 q.1 = decide (TS.code B ns < TS.code B ms) := by
    unfold byCode
    rw [hg _ hm, hg _ hm', tp.ints, tq.ints]
  rw [e]
  obtain ⟨a, xs, e1, ⟨o, ho, hc, n, hdt⟩, i⟩ := tp
  obtain ⟨a', ys, e2, ⟨o', ho', hc', n', hdt'⟩, i'⟩ := tq
  rw [e1, e2]
  refine PySem.W.kat_lt ho hdt ho' hdt' ?_
  have sz : decide (xs.size < ys.size) = false := by
    have l1 := i.length
    have l2 := i'.length
    rw [Array.length_toList] at l1 l2
    exact decide_eq_false (by omega)
  rw [sz]
  exact TS.lex_ints 0 i i' (by omega) bp bq ⟨rfl, rfl⟩
theorem tups_sortable {a : Addr} {d : Nat} {B : Int} {vs : List Value} (hd : 1 ≤ d) (h0 : 0 < vs.length) (x : TS.TupsOk s.heap d B vs) (ha : ∀ o, s.heap.get? a = some o → o.cls ≠ .type "tuple") (g : Heap) (hg : ∀ v ∈ vs, TS.intsOf g v = TS.intsOf s.heap v) :
    SrtO.SortableO prog w A s a vs (byCode g B) := by
  intro h' keep
  have kk : ∀ b o, s.heap.get? b = some o → o.cls = .type "tuple" → h'.get? b = some o := fun b o e c => keep b o (fun z => by subst z; exact ha o e c) e
  have x' := x.keeps kk
  obtain ⟨fs, h1, h2, h3⟩ := TS.firsts_of hd vs x'
  refine ⟨tuples' true, fun Q E hq => ?_, tups_cmp (s := { s with heap := h' }) x' g fun v hv => ?_⟩
  · refine PySem.W.kat_kind (T := .type "int") h1 (by omega) (fun f hf => ?_) (by rfl) ?_
    · obtain ⟨n, t, rfl⟩ := h3 f hf
      exact PySem.W.Looks.now
    · have e : (Value.type "int" != Value.type "tuple") = true := by first | decide +kernel | rfl | decide
      rw [e]
      exact hq
  · obtain ⟨ns, tv, _⟩ := x v hv
    rw [hg v hv, tv.ints, (tv.keeps kk).ints]
theorem tups_same {g h : Heap} {d : Nat} {B : Int} {vs : List Value} (x : TS.TupsOk g d B vs) (k : ∀ b o, g.get? b = some o → h.get? b = some o) : ∀ v ∈ vs, TS.intsOf g v = TS.intsOf h v := fun v hv => by
  obtain ⟨ns, tv, _⟩ := x v hv
  rw [tv.ints, (tv.keeps fun b o e _ => k b o e).ints]
/-- sorted(l) of tuples of d whole numbers each -/
theorem sorted_tups {l : Addr} {vs : List Value} {d : Nat} {B : Int} {Q : Value → Shared → Prop} (hl : s.heap.IsList l vs.toArray) (hz : vs.length ≤ sizeLine) (hd : 2 ≤ vs.length → 1 ≤ d) (x : TS.TupsOk s.heap d B vs)
    (h : ∀ (h' : Heap) (p : Addr) (out : List Value) (n : Nat), SrtO.Srtd (byCode s.heap B) out → out.Perm vs → (∀ b o, s.heap.get? b = some o → h'.get? b = some o) → s.heap.objs.size ≤ p → h'.get? p = some (seqObj "list" out.toArray n) → Q (.ref p) { s with heap := h' }) :
    wpAny (model prog w) A (call (.builtin "sorted") [.ref l]) Q E s := by
  refine SrtO.sorted_ord (byCode_swo s.heap B) hl hz (fun h2 h₁ a ha kk => ?_) fun out hs hb => ?_
  · refine tups_sortable (s := { s with heap := h₁ }) (hd h2) (by omega) (x.keeps fun b o e _ => (kk b o e).2) (fun o e => ?_) s.heap (tups_same x fun b o e => (kk b o e).2)
    have e' : some o = some (seqObj "list" vs.toArray 0) := e.symm.trans ha
    cases e'
    intro c
    exact absurd (Value.type.inj c) (by decide)
  · obtain ⟨n, hn⟩ := PyProof.Rows.sortedAll_at s.heap vs out.toArray
    exact h _ _ out n hs hb.perm (fun b o e => PyProof.Rows.sortedAll_old e) (Nat.le_succ _) hn
/-- what of «sorted» stands behind the collecting: a new list, sorted in place -/
theorem sort_new {vs : List Value} {d : Nat} {B : Int} {R : PySem.Fin → Shared → Prop} (hd : 2 ≤ vs.length → 1 ≤ d) (hz : vs.length ≤ sizeLine) (x : TS.TupsOk s.heap d B vs)
    (ho : (s.heap.push (seqObj "list" vs.toArray 0)).get? s.heap.objs.size = some (seqObj "list" vs.toArray 0))
    (h : ∀ out : List Value, SrtO.Srtd (byCode s.heap B) out → out.Perm vs → R (.done (.ret .none)) { s with heap := sortedHeap (s.heap.push (seqObj "list" vs.toArray 0)) s.heap.objs.size vs out.toArray }) :
    wpAny (model prog w) A (Builtin.«list.sort» ⟨[.ref s.heap.objs.size], []⟩) R E { s with heap := s.heap.push (seqObj "list" vs.toArray 0) } := by
  have k0 : ∀ b o, s.heap.get? b = some o → (s.heap.push (seqObj "list" vs.toArray 0)).get? b = some o := fun b o e => Heap.get?_push_of_some _ e
  refine SrtO.list_sort_ord (s := { s with heap := s.heap.push (seqObj "list" vs.toArray 0) }) (byCode_swo s.heap B) ho hz (fun h2 => ?_) fun out hs hb => h out hs hb.perm
  refine tups_sortable (s := { s with heap := s.heap.push (seqObj "list" vs.toArray 0) }) (hd h2) (by omega) (x.keeps fun b o e _ => k0 b o e) (fun o e => ?_) s.heap (tups_same x k0)
  have e' : some o = some (seqObj "list" vs.toArray 0) := e.symm.trans ho
  cases e'
  intro c
  exact absurd (Value.type.inj c) (by decide)
end
/-! as rules -/
abbrev KS := List (Addr × List Int)
/-- ks are tuples of these whole numbers -/
def KsOk (K : PySem.W.Frag) (H : Hp) (d : Nat) (B : Int) (ks : KS) : Prop := ∀ p ∈ ks, SqT K H p.1 (p.2.map V.int) ∧ p.2.length = d ∧ TS.Bd B p.2
abbrev refsV (ks : KS) : List V := ks.map fun p => V.ref p.1
abbrev refsU (ks : KS) : List Value := ks.map fun p => Value.ref p.1
abbrev Rises (B : Int) (ks : KS) : Prop := ks.Pairwise fun q r => TS.code B q.2 ≤ TS.code B r.2
section
variable {X : Cx}
theorem ksTups {pins : List (Addr × Obj)} {σ : L2.St} {H : Hp} {s : Shared} {d : Nat} {B : Int} {ks : KS} (I : Inv X pins σ H s) (hk : KsOk X.K H d B ks) : TS.TupsOk s.heap d B (refsU ks) := fun v hv => by
  obtain ⟨p, hp, rfl⟩ := List.mem_map.mp hv
  obtain ⟨h1, h2, h3⟩ := hk p hp
  exact ⟨p.2, tupInts_of (I.isT h1), h2, h3⟩
theorem ksRise {g : Heap} {d : Nat} {B : Int} {ks ks' : KS} {out : List Value} (x : ∀ p ∈ ks, TS.TupInts g (.ref p.1) p.2) (hs : SrtO.Srtd (byCode g B) out) (pm : ks'.Perm ks) (e : refsU ks' = out) : Rises B ks' := by
  subst e
  refine List.Pairwise.imp_of_mem (fun {p q} hp hq h => ?_) (List.pairwise_map.mp hs)
  have := of_decide_eq_false h
  rw [(x p (pm.mem_iff.mp hp)).ints, (x q (pm.mem_iff.mp hq)).ints] at this
  omega
/-- sorted(xs), a list of tuples of d whole numbers each -/
def rSortL (K : PySem.W.Frag) : List V → Hp → VK → Prop := fun vs H Q => ∃ (a : Addr) (ks : KS) (d : Nat) (B : Int), vs = [.ref a] ∧ SqL K H a (refsV ks) ∧ KsOk K H d B ks ∧ (2 ≤ ks.length → 1 ≤ d) ∧
  ∀ (ks' : KS) p, ks'.Perm ks → Rises B ks' → H p = none → Q (.ref p) (upd H p (.lst (refsV ks')))
theorem cr_sortL : CallR X (.builtin "sorted") (rSortL X.K) := by
  intro pins s σ H vs us Q I r h
  obtain ⟨a, ks, d, B, rfl, hl, hk, hd, q⟩ := h
  rw [Vals.ref1 r]
  obtain ⟨its, rv, pl, hz⟩ := I.list hl
  have ei : its = refsU ks := refs_of_vals rv
  subst ei
  have hz' : (refsU ks).length ≤ sizeLine := by rw [List.length_map]; simpa using hz
  refine sorted_tups pl.isList hz' (by rw [List.length_map]; exact hd) (ksTups I hk) fun h' p out n hs pm k hp hn => ?_
  obtain ⟨ks', pm', e'⟩ := L2.perm_lift (fun p : Addr × List Int => Value.ref p.1) pm ks rfl
  have hr := ksRise (d := d) (fun p hp => tupInts_of (I.isT (hk p hp).1)) hs pm' e'
  have hlen : (refsV ks').length ≤ sizeLine := by rw [List.length_map, pm'.length_eq]; simpa using hz
  refine ⟨.ref p, _, I.laid (t' := s.toks) (o := .lst (refsV ks')) k hp ⟨hlen, out, n, by rw [← e']; exact vals_of_refs ks', hn⟩, rfl, q ks' p pm' hr (I.hok.fresh hp)⟩
/-- sorted(d), a dict whose keys are tuples of d whole numbers each -/
def rSortDT : List V → Hp → VK → Prop := fun vs H Q => ∃ (a : Addr) (kvs : List (List Key × V)) (ws : List (List Int)) (d : Nat) (B : Int), vs = [.ref a] ∧ Rd H a (.dT kvs) ∧ kvs.map (·.1) = ws.map (·.map Sum.inl) ∧ (∀ w ∈ ws, w.length = d ∧ TS.Bd B w) ∧ (2 ≤ ws.length → 1 ≤ d) ∧
  ∀ (ks' : KS) p, (ks'.map (·.2)).Perm ws → (∀ q ∈ ks', H q.1 = some (.tup (q.2.map V.int))) → Rises B ks' → H p = none → Q (.ref p) (upd H p (.lst (refsV ks')))
theorem map_inl : ∀ (a b : List Int), a.map (Sum.inl (β := Str)) = b.map Sum.inl → a = b
  | [], [], _ => rfl
  | x :: a, y :: b, h => by
    simp only [List.map_cons, List.cons.injEq, Sum.inl.injEq] at h
    rw [h.1, map_inl a b h.2]
  | [], _ :: _, h => by simp at h
  | _ :: _, [], h => by simp at h
theorem keysKs {H : Hp} : ∀ {kvs : List (List Key × V)} {xs : List (List Key × Addr × Value)} {ws : List (List Int)}, KT H kvs xs → kvs.map (·.1) = ws.map (·.map Sum.inl) → ∃ ks : KS, xs.map (fun x => x.2.1) = ks.map (·.1) ∧ ks.map (·.2) = ws ∧ ∀ q ∈ ks, H q.1 = some (.tup (q.2.map V.int))
  | _, _, [], .nil, _ => ⟨[], rfl, rfl, fun _ h => by cases h⟩
  | _, _, w :: ws, .nil, h => by simp at h
  | _, _, [], .cons _ _, h => by simp at h
  | (k, v) :: kvs, x :: xs, w :: ws, .cons r t, h => by
    simp only [List.map_cons, List.cons.injEq] at h
    obtain ⟨ks, e1, e2, e3⟩ := keysKs t h.2
    refine ⟨(x.2.1, w) :: ks, by rw [List.map_cons, e1]; rfl, by rw [List.map_cons, e2], fun q hq => ?_⟩
    rcases List.mem_cons.mp hq with rfl | hq
    · have := r.2.1
      rw [h.1, List.map_map] at this
      exact this
    · exact e3 q hq
theorem cr_sortDT (hc : X.calm = true) : CallR X (.builtin "sorted") rSortDT := by
  intro pins s σ H vs us Q I r h
  obtain ⟨a, kvs, ws, d, B, rfl, hd, hw, hB, h1, q⟩ := h
  rw [Vals.ref1 r]
  obtain ⟨z, hs, xs, pr, o, es, ep, ho, hx, hdt, he, hn⟩ := (show ObjOk X.prog X.w H s.heap a (.dT kvs) from hd.ok I.hok)
  have l1 : es.size = xs.length := size_of_entries he
  have l2 : kvs.length = xs.length := Paired.length pr
  obtain ⟨ks, k1, k2, k3⟩ := keysKs pr hw
  have lk : ks.length = xs.length := by
    have := congrArg List.length k1
    rw [List.length_map, List.length_map] at this
    exact this.symm
  refine Calls.call_function_entry PyProof.Rows.kind_sorted PyProof.Rows.plain_sorted PyProof.Rows.entry_sorted (PyProof.Rows.args_sorted1 _) ?_
  unfold Builtin.«sorted»
  refine wpAny_bind (m := checkCount "sorted" 1 1 _) (wpAny_pure ?_)
  refine wpAny_bind (PySem.W.kdu_collect (A := X.A.in1) (kdl_raw hs hx hdt) (I.ok.hd hc) ho (by omega) fun h' tk acc hk it => ?_)
  have ea : acc.toList = refsU ks := by
    have e0 : acc.toList = xs.map fun x => Value.ref x.2.1 := by
      have hl : acc.toList.length = xs.length := by rw [Array.length_toList, it.1]; exact l1
      apply List.ext_getElem?
      intro j
      rw [List.getElem?_map]
      cases hj : acc.toList[j]? with
      | none =>
        have h1 := List.getElem?_eq_none_iff.mp hj
        rw [List.getElem?_eq_none (by omega)]
        all_goals rfl
      | some v =>
        obtain ⟨en, hen, hv⟩ := it.2 j v (by rw [← Array.getElem?_toList]; exact hj)
        have qe := entry_at he j
        rw [hen] at qe
        cases hb : xs[j]? with
        | none =>
          rw [hb] at qe
          exact nomatch (show some en = none from qe)
        | some b =>
          rw [hb] at qe
          have e2 : en = entryOfKey (tupleKind (mixKind X.prog X.w)) b := Option.some.inj qe
          rw [hv, e2]
          all_goals rfl
    have e1 := congrArg (List.map Value.ref) k1
    rw [List.map_map, List.map_map] at e1
    exact e0.trans e1
  have I1 : Inv X pins σ H { s with heap := h', toks := tk } := I.kept hk
  have hk1 : KsOk X.K H d B ks := fun p hp => ⟨SqT.of (k3 p hp), hB p.2 (by rw [← k2]; exact List.mem_map.mpr ⟨p, hp, rfl⟩)⟩
  have hz : (refsU ks).length ≤ sizeLine := by rw [List.length_map]; omega
  rw [ea]
  refine wpAny_bind (wpAny_newList ?_ hz)
  have hoL : (h'.push (seqObj "list" (refsU ks).toArray 0)).get? h'.objs.size = some (seqObj "list" (refsU ks).toArray 0) := Heap.get?_push_size _ rfl
  show wpAny _ _ _ _ _ { s with heap := h'.push (seqObj "list" (refsU ks).toArray 0), toks := tk }
  refine wpAny_bind (wpAny_holding (wpAny_call_entry PyProof.Rows.slot_list_sort ⟨_, hoL, rfl⟩ PyProof.Rows.entry_list_sort
    (sort_new (s := { s with heap := h', toks := tk }) (d := d) (B := B) (fun h2 => h1 (by rw [List.length_map] at h2; rw [← k2, List.length_map]; exact h2)) hz (ksTups I1 hk1) hoL fun out g1 g2 => ⟨_, rfl, ?_⟩) (PyProof.Rows.args_list_sort _)))
  obtain ⟨ks', pm', e'⟩ := L2.perm_lift (fun p : Addr × List Int => Value.ref p.1) g2 ks rfl
  have hr := ksRise (d := d) (fun p hp => tupInts_of (I1.isT (hk1 p hp).1)) g1 pm' e'
  obtain ⟨c, hcn⟩ := PyProof.Rows.sortedHeap_at (vs := refsU ks) (out := out.toArray) hoL
  have hlen : (refsV ks').length ≤ sizeLine := by rw [List.length_map, pm'.length_eq]; omega
  refine wpAny_pure ⟨_, rfl, .ref h'.objs.size, upd H h'.objs.size (.lst (refsV ks')), I1.laid (t' := tk) (fun b u e => ?_) (Nat.le_refl _) ⟨hlen, out, c, by rw [← e']; exact vals_of_refs ks', hcn⟩, rfl,
    q ks' _ (by rw [← k2]; exact pm'.map _) (fun p hp => k3 p (pm'.mem_iff.mp hp)) hr (I1.hok.fresh (Nat.le_refl _))⟩
  have hb : b < h'.objs.size := Heap.lt_size e
  rw [PyProof.Rows.sortedHeap_old (Nat.ne_of_lt hb) (by rw [size_push']; exact Nat.lt_succ_of_lt hb)]
  exact Heap.get?_push_of_some _ e
end
/-! sorted(set(xs)), xs a list of tuples of whole numbers -/
section
variable {P : Program} {w : World} {A : Around} {E : Value → Shared → Prop} {s : Shared}
theorem sorted_setK {a : Addr} {L : KS} {es : Array (Int × Value)} {ep : Nat} {t : SetTable} {Q : Value → Shared → Prop} (R : SetTR P w s.heap a L es ep t) (hh : A.handled = none)
    {d : Nat} {B : Int} (hd1 : 2 ≤ L.length → 1 ≤ d) (hB : ∀ p ∈ L, p.2.length = d ∧ TS.Bd B p.2)
    (hQ : ∀ s' p (out : List Value) (c : Nat) (L' : KS), (∀ b o, s.heap.get? b = some o → s'.heap.get? b = some o) → s'.gens = s.gens → s'.os = s.os → s.heap.objs.size ≤ p →
      s'.heap.get? p = some (seqObj "list" out.toArray c) → out = refsU L' → L'.Perm L → Rises B L' → Q (.ref p) s') :
    wpAny (model P w) A (call (.builtin "sorted") [.ref a]) Q E s := by
  obtain ⟨o, ho, hex, hd⟩ := R.ob
  have hsz := R.size
  have hfew := R.few
  refine Calls.call_function_entry PyProof.Rows.kind_sorted PyProof.Rows.plain_sorted PyProof.Rows.entry_sorted (PyProof.Rows.args_sorted1 _) ?_
  unfold Builtin.«sorted»
  refine wpAny_bind (m := checkCount "sorted" 1 1 _) (wpAny_pure ?_)
  refine wpAny_bind (collect_set (A := A.in1) hh ⟨o, ho, hex.1, hd⟩ R.fits (by unfold scanBound; omega) R.tab.ris R.led fun s1 vs k1 hz g1 o1 pm => ?_)
  have hes : es.toList.map (·.2) = refsU L := by
    rw [R.rows]
    unfold rowsOf
    rw [List.map_map] <;> rfl
  rw [hes] at pm
  obtain ⟨L1, p1, e1⟩ := L2.perm_lift (fun p : Addr × List Int => Value.ref p.1) pm L rfl
  subst e1
  have hl1 : L1.length < 64 := by rw [p1.length_eq]; exact hfew
  have hz1 : (refsU L1).length ≤ sizeLine := by rw [List.length_map, sizeLine_eq]; omega
  have tk : ∀ q ∈ L1, TS.TupInts s1.heap (.ref q.1) q.2 := fun q hq => tupInts_of (P := P) (w := w) (isT_keep (R.tup q (p1.mem_iff.mp hq)) k1)
  have x : TS.TupsOk s1.heap d B (refsU L1) := fun v hv => by
    obtain ⟨q, hq, rfl⟩ := List.mem_map.mp hv
    exact ⟨q.2, tk q hq, hB q (p1.mem_iff.mp hq)⟩
  refine wpAny_bind (wpAny_newList ?_ hz1)
  have hoL : (s1.heap.push (seqObj "list" (refsU L1).toArray 0)).get? s1.heap.objs.size = some (seqObj "list" (refsU L1).toArray 0) := Heap.get?_push_size _ rfl
  refine wpAny_bind (wpAny_holding (wpAny_call_entry PyProof.Rows.slot_list_sort ⟨_, hoL, rfl⟩ PyProof.Rows.entry_list_sort
    (sort_new (s := s1) (d := d) (B := B) (fun h2 => hd1 (by rw [List.length_map, p1.length_eq] at h2; exact h2)) hz1 x hoL fun out a1 a2 => ⟨_, rfl, ?_⟩) (PyProof.Rows.args_list_sort _)))
  obtain ⟨L', p2, e2⟩ := L2.perm_lift (fun p : Addr × List Int => Value.ref p.1) a2 L1 rfl
  obtain ⟨c, hc⟩ := PyProof.Rows.sortedHeap_at (vs := refsU L1) (out := out.toArray) hoL
  refine wpAny_pure ⟨_, rfl, hQ _ s1.heap.objs.size out c L' (fun b u e => ?_) g1 o1 hz hc e2.symm (p2.trans p1) (ksRise (d := d) tk a1 p2 e2)⟩
  have q := k1 b u e
  have hlt := Heap.lt_size q
  show (sortedHeap (s1.heap.push (seqObj "list" (refsU L1).toArray 0)) s1.heap.objs.size (refsU L1) out.toArray).get? b = some u
  rw [PyProof.Rows.sortedHeap_old (Nat.ne_of_lt hlt) (by rw [size_push']; exact Nat.lt_succ_of_lt hlt)]
  exact Heap.get?_push_of_some _ q
end
def sortSetT (K : PySem.W.Frag) (Q : VK) (v : V) (H : Hp) : Prop := ∃ (a : Addr) (ks : KS) (d : Nat) (B : Int), v = .ref a ∧ SqL K H a (refsV ks) ∧ KsOk K H d B ks ∧ ks.length < 64 ∧
  ∀ (ks' : KS) p, (∀ q ∈ ks', q ∈ ks) → (∀ q ∈ ks, q.2 ∈ ks'.map (·.2)) → (ks'.map (·.2)).Nodup → Rises B ks' → H p = none → Q (.ref p) (upd H p (.lst (refsV ks')))
def sortSetA (K : PySem.W.Frag) (Q : VK) (v : V) (H : Hp) : Prop := sortSetK K Q v H ∨ sortSetT K Q v H
def tSortSetA (K : PySem.W.Frag) (te : TE) : TE := fun σ H Q => te σ H (sortSetA K Q)
theorem nil_words {L : KS} (h : ∀ p ∈ L, p.2.length = 0) (n : (L.map (·.2)).Nodup) : L.length ≤ 1 := by
  match L, h, n with
  | [], _, _ => exact Nat.zero_le _
  | [_], _, _ => exact Nat.le_refl _
  | p :: q :: L, h, n =>
    exfalso
    have h1 := List.eq_nil_of_length_eq_zero (h p (by simp))
    have h2 := List.eq_nil_of_length_eq_zero (h q (by simp))
    rw [List.map_cons, List.map_cons, List.nodup_cons] at n
    exact n.1 (by rw [h1, h2]; simp)
section
variable {X : Cx}
theorem pe_sortSetA {e : Expr} {te : TE} {p p2 pos pos2 : Pos} (hc : X.calm = true) (hu : X.A.units + 64 < cLine) (hg : Gl X "sorted") (hm : X.mg "sorted" = none) (hg2 : Gl X "set") (hm2 : X.mg "set" = none) (he : PE X e te)
    (na : starEach [e] X.env = (false, eval e X.env) :: starEach [] X.env := by rfl) :
    PE X (.Call (.Name "sorted" p) [.Call (.Name "set" p2) [e] [] pos2] [] pos) (tSortSetA X.K te) := by
  refine ⟨fun pins s σ H Q I h => ?_⟩
  have hQ : ∀ H1, (∀ v, sortSetA X.K Q v H1 → sortSetK X.K Q v H1) → True := fun _ _ => trivial
  refine Call_ (ld_blt I hg hm boot_sorted ?_)
  refine PyProof.Rows.callWith_builtin1 (PyProof.Rows.args_cons ?_ rfl) rfl rfl
  refine Call_ (ld_blt I hg2 hm2 boot_set ?_)
  refine PyProof.Rows.callWith_type1 (PyProof.Rows.args_cons (thn (he.run pins s σ H _ I h) fun v s1 ⟨x, H1, I1, r1, q1⟩ => PyProof.Rows.args_nil ?_) na) na rfl
  have hd := I1.ok.hd hc
  rcases q1 with ⟨a, ns, rfl, hq, hl, q1⟩ | ⟨a, ks, d, B, rfl, hq, hk, hl, q1⟩
  · cases r1
    have fin : ∀ (h' : Heap) (tk c : Nat), SetR X.w h' s1.heap.objs.size (fun j => decide (j ∈ ns)) c → c ≤ ns.length → (∀ b o, s1.heap.get? b = some o → h'.get? b = some o) →
        wpAny (model X.prog X.w) X.A (call (Value.builtin "sorted") [Value.ref s1.heap.objs.size]) (EP X pins σ Q) X.xe { s1 with heap := h', toks := tk } := fun h' tk c R1 hcn k => by
      have I2 : Inv X pins σ H1 { s1 with heap := h', toks := tk } := I1.kept (t' := tk) k
      refine sorted_set (s := { s1 with heap := h', toks := tk }) R1 (I2.ok.hd hc) (by omega) fun s' p out c2 ks k2 g o hp hg hi hs hm hl2 => ?_
      have hlen : (ks.map V.int).length ≤ sizeLine := by rw [List.length_map, hl2, sizeLine_eq]; omega
      have hn : H1 p = none := I2.hok.fresh hp
      have J : Inv X pins σ (upd H1 p (.lst (ks.map V.int))) { { s1 with heap := h', toks := tk } with heap := s'.heap, gens := s'.gens, drawn := s'.drawn, toks := s'.toks } :=
        I2.call (ch := []) (Un.laid k2 hp hn) (I2.hok.laid k2 hp ⟨hlen, out.toList, c2, vals_of_ints hi, hg⟩) (by rw [g]; exact I2.bare) (fun _ z => nomatch z)
      have e : s' = { { s1 with heap := h', toks := tk } with heap := s'.heap, gens := s'.gens, drawn := s'.drawn, toks := s'.toks } := by
        cases s'
        cases s1
        cases o
        rfl
      rw [e]
      exact ⟨.ref p, _, J, rfl, q1 ks p hs (fun j => by rw [hm j, decide_eq_true_eq]) (by rw [hl2]; exact hcn) hn⟩
    rcases hq with hq | hq
    · obtain ⟨its, rv, pt, hz⟩ := I1.tuple hq
      have hi : IntsAre its.toArray.toList ns := ints_of_vals rv
      refine call_set_tupI ns hd (show s1.heap.IsTuple a its.toArray from pt) hi (by unfold scanBound; omega) fun h' tk c R1 hcn k => ?_
      exact PyProof.Rows.args_nil (fin h' tk c R1 hcn k)
    · obtain ⟨its, rv, pt, hz⟩ := I1.list hq
      have hi : IntsAre its.toArray.toList ns := ints_of_vals rv
      refine call_set_lstI ns hd pt.isList hi (by unfold scanBound; omega) fun h' tk c R1 hcn k => ?_
      exact PyProof.Rows.args_nil (fin h' tk c R1 hcn k)
  · cases r1
    obtain ⟨its, rv, pl, hz⟩ := I1.list hq
    refine call_set_tups (P := X.prog) (w := X.w) ks hd pl.isList (by simpa using refs_of_vals rv) (fun p hp => I1.isT (hk p hp).1) hl (by have := hu; first | omega | (show _; simp; omega)) fun h' tk L es ep t R g k => ?_
    refine PyProof.Rows.args_nil ?_
    have I2 : Inv X pins σ H1 { s1 with heap := h', toks := tk } := I1.kept (t' := tk) k
    have sub : ∀ p ∈ L, p ∈ ks := fun p hp => List.mem_of_mem_take (g.sub p hp)
    have all : ∀ p ∈ ks, p.2 ∈ L.map (·.2) := fun p hp => g.all p (by rw [List.take_length]; exact hp)
    refine sorted_setK (s := { s1 with heap := h', toks := tk }) R (I2.ok.hd hc) (d := d) (B := B) (fun h2 => ?_) (fun p hp => (hk p (sub p hp)).2) fun s' p out c L' k2 gg o hp hg ho pm hr => ?_
    · rcases Nat.eq_zero_or_pos d with z | z
      · have := nil_words (fun p hp => by rw [(hk p (sub p hp)).2.1, z]) R.nd
        omega
      · exact z
    have hlen : (refsV L').length ≤ sizeLine := by
      have := R.few
      rw [List.length_map, pm.length_eq, sizeLine_eq]; omega
    have hn : H1 p = none := I2.hok.fresh hp
    have J : Inv X pins σ (upd H1 p (.lst (refsV L'))) { { s1 with heap := h', toks := tk } with heap := s'.heap, gens := s'.gens, drawn := s'.drawn, toks := s'.toks } :=
      I2.call (ch := []) (Un.laid k2 hp hn) (I2.hok.laid k2 hp ⟨hlen, out, c, by rw [ho]; exact vals_of_refs L', hg⟩) (by rw [gg]; exact I2.bare) (fun _ z => nomatch z)
    have e : s' = { { s1 with heap := h', toks := tk } with heap := s'.heap, gens := s'.gens, drawn := s'.drawn, toks := s'.toks } := by
      cases s'
      cases s1
      cases o
      rfl
    rw [e]
    exact ⟨.ref p, _, J, rfl, q1 L' p (fun q hq => sub q (pm.mem_iff.mp hq)) (fun q hq => (pm.map (·.2)).mem_iff.mpr (all q hq)) ((pm.map (·.2)).nodup_iff.mpr R.nd) hr hn⟩
end
theorem pe_sortSetAK {X : Cx} {K : PySem.W.Frag} (h : X.K = K) {e : Expr} {te : TE} (hp : PE X e (tSortSetA X.K te)) : PE X e (tSortSetA K te) := h ▸ hp
theorem w_sortSet {K : PySem.W.Frag} {te : TE} {σ : L2.St} {H : Hp} {Q : VK} (k : te σ H (sortSetA K Q)) : tSortSetA K te σ H Q := k
theorem l_sortSetL {K : PySem.W.Frag} {H : Hp} {Q : VK} {a : Addr} {ns : List Int} (h : SqL K H a (ns.map V.int)) (hl : ns.length < 64) (k : ∀ (out : List Int) p H', out.Pairwise (· < ·) → (∀ k, k ∈ out ↔ k ∈ ns) → out.length ≤ ns.length → H p = none → Ex H H' → H' p = some (.lst (out.map V.int)) → Q (.ref p) H') : sortSetA K Q (.ref a) H :=
  .inl ⟨a, ns, rfl, .inr h, hl, fun out p h1 h2 h3 h4 => k out p _ h1 h2 h3 h4 (Evl.Ex.new h4) upd_same⟩
theorem l_sortSetT {K : PySem.W.Frag} {H : Hp} {Q : VK} {a : Addr} {ns : List Int} (h : SqT K H a (ns.map V.int)) (hl : ns.length < 64) (k : ∀ (out : List Int) p H', out.Pairwise (· < ·) → (∀ k, k ∈ out ↔ k ∈ ns) → out.length ≤ ns.length → H p = none → Ex H H' → H' p = some (.lst (out.map V.int)) → Q (.ref p) H') : sortSetA K Q (.ref a) H :=
  .inl ⟨a, ns, rfl, .inl h, hl, fun out p h1 h2 h3 h4 => k out p _ h1 h2 h3 h4 (Evl.Ex.new h4) upd_same⟩
def rSortA (K : PySem.W.Frag) : List V → Hp → VK → Prop := fun vs H Q => rSortL K vs H Q ∨ rSortDT vs H Q
theorem cr_sortAK {X : Cx} {K : PySem.W.Frag} (hc : X.calm = true) (h : X.K = K) : CallR X (.builtin "sorted") (rSortA K) := h ▸ cr_sortL.or (cr_sortDT hc)
/-- whole numbers and tuples of them, <= -/
def rLeQ (K : PySem.W.Frag) : R2 := fun x y H Q => rLeP x y H Q ∨ rLeT K x y H Q
theorem op_leQ {X : Cx} {K : PySem.W.Frag} (hu : X.A.units + 64 < cLine) (h : X.K = K) : OpR X (compareOp .LtE) (rLeQ K) := h ▸ op_leP.or (op_leT (Nat.lt_of_le_of_lt (Nat.le_add_right _ 64) hu))
theorem l_leQ {K : PySem.W.Frag} {i j : Int} {H : Hp} {Q : VK} (k : Q (.bl (decide (i ≤ j))) H) : rLeQ K (.int i) (.int j) H Q := .inl ⟨i, j, rfl, rfl, k⟩
theorem l_leT {K : PySem.W.Frag} {a b : Addr} {ns ms : List Int} {H : Hp} {Q : VK} (h1 : SqT K H a (ns.map V.int)) (h2 : SqT K H b (ms.map V.int))
    (k : Q (.bl (Ob.lexAt (fun j => decide (ns.getD j 0 = ms.getD j 0)) (fun j => decide (ns.getD j 0 ≤ ms.getD j 0)) (decide (ns.length ≤ ms.length)) 0 (min ns.length ms.length))) H) : rLeQ K (.ref a) (.ref b) H Q := .inr ⟨a, b, ns, ms, rfl, rfl, h1, h2, k⟩
/-! x in xs, x not in xs: flat, data of any depth, a dict's keys -/
theorem room65 {k : Nat} {A : Around} (r : Room k A) : A.units + 65 < cLine := by have := r.un; omega
def rInDct (neg : Bool) : R2 := fun x y H Q => ∃ a o, y = .ref a ∧ DGet H a x o ∧ Q (.bl (if neg then !o.isSome else o.isSome)) H
def rInA (K : PySem.W.Frag) : R2 := fun x y H Q => rIn K false x y H Q ∨ rInD K x y H Q ∨ rInDct false x y H Q
def rNotInA (K : PySem.W.Frag) : R2 := fun x y H Q => rIn K true x y H Q ∨ rNotInD K x y H Q ∨ rInDct true x y H Q
def rIxD : R2 := fun x y H Q => ∃ a v, x = .ref a ∧ DGet H a y (some v) ∧ Q v H
def rIxA (K : PySem.W.Frag) : R2 := fun x y H Q => rIx K x y H Q ∨ rIxD x y H Q
def rSetD : TSet := fun o i v H Q => ∃ a H', o = .ref a ∧ DPut H a i v H' ∧ Q H'
def rSetA : TSet := fun o i v H Q => rSetL o i v H Q ∨ rSetD o i v H Q
section
variable {X : Cx} {K : PySem.W.Frag}
theorem op_inDct (hu : X.A.units + 65 < cLine) : OpR X (compareOp .In) (rInDct false) := by
  intro pins s σ H x y v u Q I rx ry h
  obtain ⟨a, o, rfl, g, q⟩ := h
  cases ry
  exact d_in (by omega) I g rx fun s' J => ⟨.bl o.isSome, H, J, rfl, q⟩
theorem op_notInDct (hu : X.A.units + 65 < cLine) : OpR X (compareOp .NotIn) (rInDct true) := by
  intro pins s σ H x y v u Q I rx ry h
  obtain ⟨a, o, rfl, g, q⟩ := h
  cases ry
  exact d_notIn (by omega) I g rx fun s' J => ⟨.bl (!o.isSome), H, J, rfl, q⟩
theorem op_inA (hu : X.A.units + 65 < cLine) (h : X.K = K) : OpR X (compareOp .In) (rInA K) := h ▸ op_in_seq.or ((op_inD hu).or (op_inDct hu))
theorem op_notInA (hu : X.A.units + 65 < cLine) (h : X.K = K) : OpR X (compareOp .NotIn) (rNotInA K) := h ▸ op_notIn_seq.or ((op_notInD hu).or (op_notInDct hu))
theorem ix_dct (hu : X.A.units + 65 < cLine) : IxR X rIxD := by
  intro value slice pins s σ H x y v u Q I rx ry h hs
  obtain ⟨a, z, rfl, g, q⟩ := h
  cases rx
  have ht := dict_typeIs I g
  rcases g with ⟨kvs, k, e, rfl, l⟩ | ⟨kvs, k, b, e, rfl, eb, l⟩
  · obtain ⟨_, _, vs, rel, dd⟩ := dk_rd I.hok e
    obtain ⟨w', hw, rw'⟩ := RelO.some_of (v := z) (o := valueAt vs k) (by rw [l]; exact rel.val k)
    exact subscriptTail_builtinR (x := w') ht PySem.F.slot_dict_getitem.lookup (wpAny_getItem_of (kV_is ry) dd.mapOf hw ⟨rfl, z, H, I.tok _, rw', q⟩) hs
  · cases (show u = Value.ref b from ry)
    obtain ⟨_, _, xs, rel, dd⟩ := dt_rd I.hok e
    obtain ⟨w', hw, rw'⟩ := RelO.some_of (v := z) (o := (atKey xs k).map (·.2)) (by rw [l]; exact rel.val k)
    obtain ⟨p, hp, hp2⟩ := Option.map_eq_some_iff.mp hw
    exact subscriptTail_builtinR (x := p.2) ht PySem.F.slot_dict_getitem.lookup (wpAny_getItem_heap (tupleKind_room_in1 (by omega)) (key_of I.hok eb) dd hp ⟨rfl, z, H, I.tok _, by rw [hp2]; exact rw', q⟩) hs
theorem ix_A (hu : X.A.units + 65 < cLine) (h : X.K = K) : IxR X (rIxA K) := (ix_K h).or (ix_dct hu)
theorem set_dct (hu : X.A.units + 65 < cLine) : PSet X rSetD := by
  intro pins s σ H o i v ov iv u Q I ro ri rv h
  obtain ⟨a, H', rfl, g, q⟩ := h
  cases ro
  exact d_setItem (by omega) I g ri rv fun s' J => ⟨H', J, q⟩
theorem set_A (hu : X.A.units + 65 < cLine) : PSet X rSetA := by
  intro pins s σ H o i v ov iv u Q I ro ri rv h
  rcases h with h | h
  · exact set_list pins s σ H o i v ov iv u Q I ro ri rv h
  · exact set_dct hu pins s σ H o i v ov iv u Q I ro ri rv h
end
def rLenQ (K : PySem.W.Frag) : List V → Hp → VK → Prop := fun xs H Q => rLenP K xs H Q ∨ rLenT xs H Q
theorem call_lenQ {X : Cx} {K : PySem.W.Frag} (h : X.K = K) : CallR X (.builtin "len") (rLenQ K) := h ▸ call_lenP.or call_len_dT
section
variable {K : PySem.W.Frag} {H : Hp} {Q : VK}
theorem l_inF {x : V} {p : Addr} {xs : List V} (h : SqL K H p xs ∨ SqT K H p xs) (fx : flatV x = true) (fs : xs.all flatV = true) (k : Q (.bl (inV x xs)) H) : rInA K x (.ref p) H Q := .inl ⟨p, xs, rfl, h, fx, fs, k⟩
theorem l_inD {x y : V} {d : PyData} {ds : List PyData} (h1 : Dp K H x d) (h2 : Dp K H y (.list ds)) (s1 : SeqAt.shaped d = true) (s2 : SeqAt.shaped (.list ds) = true) (k : Q (.bl (ds.any fun z => PyData.eqv z d)) H) : rInA K x y H Q := .inr (.inl ⟨d, ds, h1, h2, s1, s2, k⟩)
theorem l_notInD {x y : V} {d : PyData} {ds : List PyData} (h1 : Dp K H x d) (h2 : Dp K H y (.list ds)) (s1 : SeqAt.shaped d = true) (s2 : SeqAt.shaped (.list ds) = true) (k : Q (.bl (!ds.any fun z => PyData.eqv z d)) H) : rNotInA K x y H Q := .inr (.inl ⟨d, ds, h1, h2, s1, s2, k⟩)
theorem l_ixA {x y : V} (k : rIx K x y H Q) : rIxA K x y H Q := .inl k
theorem l_setA {o i v : V} {R : Hp → Prop} (k : rSetL o i v H R) : rSetA o i v H R := .inl k
theorem l_lenQ {xs : List V} (k : rLenP K xs H Q) : rLenQ K xs H Q := .inl k
end
/-! o.f as a target among others -/
def gFld (K : PySem.W.Frag) (ta : TE) (f : Str) : TG := fun v σ H R => ta σ H fun x H1 => setK K f v x H1 fun H2 => R σ H2
theorem g_fld {K : PySem.W.Frag} {ta : TE} {f : Str} {v : V} {σ : L2.St} {H : Hp} {R : L2.St → Hp → Prop} (k : ta σ H fun x H1 => setK K f v x H1 fun H2 => R σ H2) : gFld K ta f v σ H R := k
theorem pg_fld {X : Cx} {K : PySem.W.Frag} (h : X.K = K) {o : Expr} {ta : TE} {f : Str} {pos : Pos} (ha : PE X o ta) : PG X (.Attribute o f pos) (gFld K ta f) := by
  subst h
  refine ⟨fun pins s σ H v u Q I r q => PySem.W.kas_attr (thn (ha.run pins s σ H _ I q) fun ov s1 ⟨x, H1, J, rx, a, C, dx, fs, ex, ea, c, n, l, q1⟩ => ?_)⟩
  subst ex
  obtain rfl : ov = Value.ref a := rx
  exact setattr_ok J ea c n l r fun s2 J2 => ⟨σ, _, J2, q1⟩
/-- one of two readings of the same words -/
def tEither (t u : TE) : TE := fun σ H Q => t σ H Q ∨ u σ H Q
theorem pe_orE {X : Cx} {e : Expr} {t u : TE} (h1 : PE X e t) (h2 : PE X e u) : PE X e (tEither t u) := ⟨fun pins s σ H Q I hw => hw.elim (h1.run pins s σ H Q I) (h2.run pins s σ H Q I)⟩
end LM
namespace LM
open PySem PySem.Spec PyProof.Rows L2
/-! ### tuples without attributes of their own: what a method may be asked of -/
def Nt (H : Hp) (a : Addr) (xs : List V) : Prop := ∃ o, H a = some (.frz o (.tup xs)) ∧ o.dict = none
theorem Nt.sq {K : PySem.W.Frag} {H : Hp} {a : Addr} {xs : List V} (h : Nt H a xs) : SqT K H a xs := by
  obtain ⟨o, h, _⟩ := h
  exact .inl (.inr ⟨o, h⟩)
theorem Nt.mono {H H' : Hp} {a : Addr} {xs : List V} (e : Ex H H') (h : Nt H a xs) : Nt H' a xs := by
  obtain ⟨o, h, d⟩ := h
  exact ⟨o, e _ _ h, d⟩
theorem Nt.exB {H H' : Hp} {p a : Addr} {xs ys : List V} (e : ExB p H H') (hp : H p = some (.lst ys)) (h : Nt H a xs) : Nt H' a xs := by
  obtain ⟨o, h, d⟩ := h
  exact ⟨o, e _ _ (fun z => by subst z; rw [hp] at h; cases h) h, d⟩
theorem laidN {X : Cx} {pins : List (Addr × Obj)} {σ : L2.St} {H : Hp} {s : Shared} {xs : List V} {its : List Value} (I : Inv X pins σ H s) (z : xs.length ≤ sizeLine) (r : Vals xs its) :
    Inv X pins σ (upd H s.heap.objs.size (.frz { cls := .type "tuple", data := .seq its.toArray } (.tup xs))) { s with heap := s.heap.push { cls := .type "tuple", data := .seq its.toArray } } :=
  I.laid (t' := s.toks) (fun b u e => Heap.get?_push_of_some _ e) (Nat.le_refl _) (show ObjOk X.prog X.w _ _ _ (.frz _ (.tup xs)) from ⟨Heap.get?_push_size _ rfl, z, its, r, IsTup.new _ _⟩)
def newN (Q : VK) (xs : List V) (H : Hp) : Prop := xs.length ≤ sizeLine ∧ ∀ p o, H p = none → o.dict = none → Q (.ref p) (upd H p (.frz o (.tup xs)))
theorem w_newN {Q : VK} {xs : List V} {H : Hp} (hz : xs.length ≤ 100000) (k : ∀ p H2, H p = none → Ex H H2 → Nt H2 p xs → Q (.ref p) H2) : newN Q xs H := ⟨sz hz, fun p o hp hd => k p _ hp (Evl.Ex.new hp) ⟨o, upd_same, hd⟩⟩
def tTupN (t : TA) : TE := fun σ H Q => t σ H fun xs H1 => newN Q xs H1
theorem w_tupN {t : TA} {σ : L2.St} {H : Hp} {Q : VK} (k : t σ H fun xs H1 => newN Q xs H1) : tTupN t σ H Q := k
def rTupN (K : PySem.W.Frag) : List V → Hp → VK → Prop := fun xs H Q => ∃ p ys, xs = [.ref p] ∧ ((SqL K H p ys ∧ newN Q ys H) ∨ (SqT K H p ys ∧ Q (.ref p) H))
def rCatN (K : PySem.W.Frag) : R2 := fun x y H Q => (∃ a b xs ys, x = .ref a ∧ y = .ref b ∧ SqT K H a xs ∧ SqT K H b ys ∧ (xs = [] → Q (.ref b) H) ∧ (xs ≠ [] → ys = [] → Q (.ref a) H) ∧ newN Q (xs ++ ys) H) ∨ rAddP K x y H Q
def rSlN (K : PySem.W.Frag) : V → Option Int → Option Int → Hp → VK → Prop := fun x lo hi H Q => (∃ a xs, x = .ref a ∧ SqT K H a xs ∧
  (HT.sIx xs.length 0 lo = 0 ∧ HT.sIx xs.length xs.length hi = xs.length → Q (.ref a) H) ∧ newN Q (cutV xs lo hi) H) ∨ rSlP K x lo hi H Q
def rRepN (K : PySem.W.Frag) : R2 := fun x y H Q => (∃ l k xs, x = .ref l ∧ y = .int k ∧ SqT K H l xs ∧ xs ≠ [] ∧ xs.length ≤ 1000 ∧ 0 ≤ k ∧ k ≤ 1000 ∧ (k = 1 → Q (.ref l) H) ∧ newN Q (List.replicate k.toNat xs).flatten H) ∨ rMulP K x y H Q
section
variable {X : Cx} {K : PySem.W.Frag}
theorem pe_tupN {es : List Expr} {t : TA} {x1 : Nat} {pos : Pos} (h : PA X es t) : PE X (.Tuple es x1 pos) (tTupN t) := by
  refine ⟨fun pins s σ H Q I hq => ?_⟩
  refine wpAny_Tuple_spliced (thn (h.run pos pins s σ H _ I hq) fun us t ⟨xs, H1, J, r, z, q⟩ => ⟨by rw [← r.length]; exact z, ?_⟩)
  exact ⟨.ref t.heap.objs.size, _, laidN J z r, rfl, q _ _ (J.hok.fresh (Nat.le_refl _)) rfl⟩
theorem call_tupN (hK : X.K = K) : CallR X (.type "tuple") (rTupN K) := by
  subst hK
  intro pins s σ H xs us Q I r h
  obtain ⟨p, ys, rfl, h⟩ := h
  obtain ⟨u, rfl, rx⟩ := vals1 r
  cases rx
  rcases h with ⟨hq, z, q⟩ | ⟨hq, q⟩
  · obtain ⟨its, r', pl, hz⟩ := I.list hq
    have hl := r'.length
    refine call_tuple_list pl.isList (fun h' kp => ?_) (by simp only [List.size_toArray]; omega)
    have J : Inv X pins σ H { s with heap := h' } := I.kept (t' := s.toks) kp
    exact ⟨.ref h'.objs.size, _, laidN J z r', rfl, q _ _ (J.hok.fresh (Nat.le_refl _)) rfl⟩
  · obtain ⟨its, r', pl, hz⟩ := I.tuple hq
    exact call_tuple_same pl ⟨.ref p, H, I, rfl, q⟩
theorem op_catN (hK : X.K = K) : OpR X (binaryOp .Add) (rCatN K) := by
  subst hK
  refine OpR.or ?_ op_addP
  intro pins s σ H x y v u Q I rx ry h
  obtain ⟨a, b, xs, ys, rfl, rfl, ha, hb, q0, q1, hz, q2⟩ := h
  cases rx
  cases ry
  obtain ⟨its, r1, p1, _⟩ := I.tuple ha
  obtain ⟨jts, r2, p2, _⟩ := I.tuple hb
  by_cases hx : xs = []
  · subst hx
    cases r1
    exact cat_tup0 p1 p2 ⟨.ref b, H, I, rfl, q0 rfl⟩
  · have hl : its.length + jts.length ≤ sizeLine := by rw [← r1.length, ← r2.length, ← List.length_append]; exact hz
    exact HT.cat_tup p1 p2 (fun z => hx (r1.nil_iff.mp z)) (fun z => ⟨.ref a, H, I, rfl, q1 hx (r2.nil_iff.mp z)⟩) (fun z => ⟨.ref s.heap.objs.size, _, laidN I hz (r1.append r2), rfl, q2 _ _ (I.hok.fresh (Nat.le_refl _)) rfl⟩) hl
theorem sl_N (hK : X.K = K) : SlR X (rSlN K) := by
  subst hK
  refine SlR.or ?_ sl_P
  intro pins s σ H x v vl vu lo hi sl Q I rx hs pl pu h
  obtain ⟨a, xs, rfl, hx, q1, hz, q2⟩ := h
  cases rx
  obtain ⟨its, r, ht, hz2⟩ := I.tuple hx
  have hl : its.toArray.size = xs.length := by rw [List.size_toArray]; exact r.length.symm
  refine ⟨"tuple", _, PyProof.Rows.slot_tuple_getitem.lookup, ht.typeIs, ?_⟩
  by_cases hw : HT.sIx xs.length 0 lo = 0 ∧ HT.sIx xs.length xs.length hi = xs.length
  · exact getItem_tuple_whole ht hs pl pu (by rw [hl]; exact hw) ⟨.ref a, H, I, rfl, q1 hw⟩
  · refine HT.getItem_tuple_cut ht hs pl pu (by rw [hl]; exact hw) ?_ (by rw [hl]; exact hz2)
    rw [hl]
    exact ⟨.ref s.heap.objs.size, _, laidN I hz ((r.drop (HT.sIx xs.length 0 lo)).take (HT.sIx xs.length xs.length hi - HT.sIx xs.length 0 lo)), rfl, q2 _ _ (I.hok.fresh (Nat.le_refl _)) rfl⟩
theorem tuple_mul0 (l : Addr) (items : Array Value) (n : Nat) (dd : Option Addr) (sl : Array (Option Value)) (u : Tok) (he : items.isEmpty = false) :
    Meets (Builtin.«tuple.__mul__» ⟨[.ref l, .int 0 u], []⟩) (fun _ R s => s.heap.get? l = some { cls := .type "tuple", dict := dd, data := .seq items n, slots := sl } ∧
      R (.ok (.ret (Value.ref s.heap.objs.size))) { s with heap := s.heap.push { cls := Value.type "tuple", data := Data.seq #[] } }) :=
  .of_wp fun prog w A R s h => by
    obtain ⟨hp, g, d, tk, os⟩ := s
    obtain ⟨hl, h⟩ := h
    have f1 := AutoSeq1.idx_int
    have c0 : (decide ((0 : Int) < -(2 ^ 63)) || decide ((0 : Int) ≥ 2 ^ 63)) = false := by decide
    have c1 : (items.isEmpty || (0 : Int) == 1) = false := by rw [he]; rfl
    have c2 : (decide ((0 : Int) ≤ 0) || items.isEmpty) = true := by simp
    wp_walk using wpAny_loadPart' hl
    repeat (first
      | (refine wpAny_ite_false (decide_eq_false (by rw [c0]; exact Bool.false_ne_true)) ?_; wp_walk using wpAny_loadPart' hl)
      | (refine wpAny_ite_false (decide_eq_false (by rw [c1]; exact Bool.false_ne_true)) ?_; wp_walk using wpAny_loadPart' hl)
      | (refine wpAny_ite_true (decide_eq_true (by rw [c2])) ?_; wp_walk using wpAny_loadPart' hl))
    exact ⟨_, rfl, h⟩
theorem op_repN (hK : X.K = K) : OpR X (binaryOp .Mult) (rRepN K) := by
  subst hK
  refine OpR.or ?_ op_mulP
  intro pins s σ H x y v u Q I rx ry h
  obtain ⟨l, k, xs, rfl, rfl, hT, hne, hl, h0, h1, q1, hz, q2⟩ := h
  by_cases c : k = 1
  · subst c
    exact op_rep1 pins s σ H _ _ v u Q I rx ry ⟨l, 1, xs, rfl, rfl, hT, rfl, q1 rfl⟩
  cases rx
  obtain ⟨t, rfl⟩ := ry
  obtain ⟨its, r, ⟨⟨cls, dd, data, sl⟩, ho, hc, n, hd⟩, hs⟩ := I.tuple hT
  simp only at hc hd; subst hc hd
  have hle : its.length = xs.length := r.length.symm
  have hi : its.toArray.isEmpty = false := by
    cases its with
    | nil => exact absurd (List.eq_nil_of_length_eq_zero hle.symm) hne
    | cons a b => rfl
  have road : ∀ out : List Value, Vals (List.replicate k.toNat xs).flatten out → (wpAny (model X.prog X.w) X.A (call (.builtin "tuple.__mul__") [.ref l, .int k t]) (fun v s' => v = .ref s.heap.objs.size ∧ s' = { s with heap := s.heap.push { cls := .type "tuple", data := .seq out.toArray } }) X.xe s) →
      wpAny (model X.prog X.w) X.A (binaryOp .Mult (.ref l) (.int k t)) (EP X pins σ Q) X.xe s := fun out ro hm => by
    refine wpAny_binaryOp_repeat_ref (T := "tuple") (U := "int") (by decide) ⟨_, ho, rfl⟩ (fun s' => typeIs_int s' k t) noFill_tuple_mul F.fills_int_mul F.slot_int_rmul repeat_tuple F.slot_int_index.lookup
      (call_meets F.slot_int_rmul (typeIs_int s k t) F.entry_int_rmul (F.args_int_rmul_2 _ _) (int_rmul_tuple k t l its.toArray n dd sl) ⟨ho, rfl, ⟨_, ho, rfl⟩, wpAny_mono hm (fun v s' e => ?_) fun _ _ z => z⟩)
    obtain ⟨rfl, rfl⟩ := e
    exact ⟨.ref s.heap.objs.size, _, laidN I hz ro, rfl, q2 _ _ (I.hok.fresh (Nat.le_refl _)) rfl⟩
  by_cases c0 : k = 0
  · subst c0
    refine road [] .nil ?_
    exact call_meets F.slot_tuple_mul ⟨_, ho, rfl⟩ F.entry_tuple_mul (F.args_tuple_mul_2 _ _) (tuple_mul0 l its.toArray n dd sl t hi) ⟨ho, rfl, rfl⟩
  · have hsz0 : its.toArray.size = xs.length := by rw [List.size_toArray, hle]
    have hm : ((its.toArray.size : Nat) : Int) * k ≤ 1000000 := by
      rw [hsz0]
      have := Int.mul_le_mul_of_nonneg_right (show ((xs.length : Nat) : Int) ≤ 1000 by omega) (show (0 : Int) ≤ k by omega)
      omega
    have d0 : (decide (k < -(2 ^ 63)) || decide (k ≥ 2 ^ 63)) = false := by rw [decide_eq_false (show ¬ k < -(2 ^ 63) by omega), decide_eq_false (show ¬ k ≥ 2 ^ 63 by omega)]; rfl
    have d1 : (its.toArray.isEmpty || k == 1) = false := by rw [hi, Bool.false_or]; exact beq_eq_false_iff_ne.mpr c
    have d2 : (decide (k ≤ 0) || its.toArray.isEmpty) = false := by rw [hi, Bool.or_false]; exact decide_eq_false (show ¬ k ≤ 0 by omega)
    have d4 : Builtin.Tuple.tupleTooMany (((its.toArray.size : Nat) : Int) * k) = false := by
      unfold Builtin.Tuple.tupleTooMany; rw [sizeLine_eq]
      exact decide_eq_false (by omega)
    have fl : (List.replicate k.toNat its).flatten.length ≤ sizeLine := by rw [(r.rep k.toNat).length] at hz; exact hz
    refine road (List.replicate k.toNat its).flatten (r.rep k.toNat) ?_
    refine call_meets F.slot_tuple_mul ⟨_, ho, rfl⟩ F.entry_tuple_mul (F.args_tuple_mul_2 _ _) (tuple_mulW l its.toArray n dd sl k t d0 d1 d2 (by omega) d4 (by rw [size_rep, List.size_toArray]; exact fl)) ⟨ho, ?_⟩
    rw [size_rep]
    exact ⟨rfl, rfl⟩
/-! a method of a tuple; t.index(x, i) -/
def tTM (r : V → List V → Hp → VK → Prop) (to : TE) (t : TA) : TE := fun σ H Q => to σ H fun x H1 => (∃ a xs, x = .ref a ∧ Nt H1 a xs) ∧ t σ H1 fun vs H2 => r x vs H2 Q
theorem w_tm {r : V → List V → Hp → VK → Prop} {to : TE} {t : TA} {σ : L2.St} {H : Hp} {Q : VK} (k : to σ H fun x H1 => (∃ a xs, x = .ref a ∧ Nt H1 a xs) ∧ t σ H1 fun vs H2 => r x vs H2 Q) : tTM r to t σ H Q := k
theorem l_tm {a : Addr} {xs : List V} {H : Hp} {P : Prop} (h : Nt H a xs) (k : P) : (∃ b ys, V.ref a = .ref b ∧ Nt H b ys) ∧ P := ⟨⟨a, xs, rfl, h⟩, k⟩
theorem pe_tm {id : String} {name : Str} {r : V → List V → Hp → VK → Prop} {o e : Expr} {es : List Expr} {to : TE} {t : TA} {apos cpos : Pos} (slot : Slot "tuple" name id) (hty : typeOf (.builtin id) = pure (.type "method_descriptor")) (hm : MtR X id r) (ho : PE X o to) (ha : PA X (e :: es) t)
    (hb : attributeBase o name X.env (eval o X.env) = eval o X.env := by rfl)
    (hf : ((backTo cpos (starEach (e :: es) X.env)).all (fun x => !x.1) && (backToKw cpos (keywordEach [] X.env)).all (fun x => x.1.isSome) && decide ((e :: es).length + ([] : List Keyword).length + (if ([] : List Keyword).isEmpty then 0 else 1) < 30)) = true := by rfl)
    (hl : (apos.endLine == cpos.line) = true := by rfl) (hs : starEach (e :: es) X.env = (false, eval e X.env) :: starEach es X.env := by rfl) (hp : (backTo cpos (starEach es X.env)).any (·.1) = false := by rfl) :
    PE X (.Call (.Attribute o name apos) (e :: es) [] cpos) (tTM r to t) := by
  refine ⟨fun pins s σ H Q I h => ?_⟩
  refine wpAny_Call_method_late hb hf hl rfl (thn (ho.run pins s σ H _ I h) fun v s1 ⟨x, H1, J, r1, ⟨a, xs, ex, n⟩, q1⟩ => ?_)
  subst ex
  obtain rfl : v = Value.ref a := r1
  have hT : s1.TypeIs (.ref a) "tuple" := by
    obtain ⟨_, _, p, _⟩ := J.tuple (n.sq (K := X.K))
    obtain ⟨ob, h1, h2, _⟩ := p
    exact ⟨ob, h1, h2⟩
  refine ⟨"tuple", id, PySem.F.plainAttrs_tuple, slot, hty, hT, fun b e => ?_, ?_⟩
  · obtain rfl : a = b := Value.ref.inj e
    obtain ⟨ob, g, d⟩ := n
    exact ⟨ob, (J.hok _ _ g).1, d⟩
  have hA := ha.run cpos pins s1 σ H1 _ J q1
  rw [hs] at hA ⊢
  refine Calls.callWith_builtin (by show (false || (backTo cpos (starEach es X.env)).any (·.1)) = false; rw [hp]; rfl) (Calls.evalArgs_plain ?_)
  exact thn hA fun us s2 ⟨vs, H2, J2, r2, q2⟩ => hm pins s2 σ H2 (.ref a) vs _ us Q J2 rfl r2 q2
end
theorem forIn_rngA {β : Type} {M : Model} {A : Around} {E : Value → Shared → Prop} {s : Shared} {lo n : Nat} {hp : 0 < 1} (f : Nat → β → Sem (ForInStep β)) (I : List Nat → β → Shared → Prop) (Q : β → Shared → Prop)
    (turn : ∀ x rest b s, I (x :: rest) b s → wpAny M A (f x b) (fun r s' => match r with | .yield b' => I rest b' s' | .done b' => Q b' s') E s)
    (fin : ∀ b s, I [] b s → Q b s) (b : β) (h : I (List.range' lo (n - lo)) b s) : wpAny M A (forIn ({ start := lo, stop := n, step := 1, step_pos := hp } : Std.Legacy.Range) b f) Q E s := by
  rw [Std.Legacy.Range.forIn_eq_forIn_range']
  simp only [Std.Legacy.Range.size, Nat.add_sub_cancel, Nat.div_one]
  exact wpAny_forIn_list f I Q turn fin _ b h
theorem tuple_indexFrom (l : Addr) (items : Array Value) (n : Nat) (dd : Option Addr) (sl : Array (Option Value)) (x : Value) (e : Value → Bool) (i0 : Nat) (u : Tok) (j : Nat) (hi : i0 ≤ j) (hj : j < items.size)
    (hit : e items[j] = true) (hno : ∀ m (hm : m < items.size), i0 ≤ m → m < j → e items[m] = false) :
    Meets (Builtin.«tuple.index» ⟨[.ref l, x, .int (i0 : Nat) u], []⟩)
      (fun A R s => s.heap.get? l = some { cls := .type "tuple", dict := dd, data := .seq items n, slots := sl } ∧ (∀ y, y ∈ items → SeqAt.EqAt A.in1 s y x (e y)) ∧ R (.ok (.ret (.int j s.toks))) { s with toks := s.toks + 1 }) :=
  .of_wp fun prog w A R s h => by
    obtain ⟨hp, g, d, tk, os⟩ := s; obtain ⟨hl, he, h⟩ := h
    have f1 := AutoSeq1.idx_int
    wp_walk using wpAny_loadPart' hl, forIn_rngA _ (fun rest b s' => b.1 = none ∧ s' = ⟨hp, g, d, tk, os⟩ ∧ ∃ i, rest = List.range' i (items.size - i) ∧ i0 ≤ i ∧ i ≤ j) _
    case turn =>
      rintro y rest b s' ⟨hb', rfl, i, hr, h0, h1⟩
      have hlt : i < items.size := by omega
      have ey : y = i ∧ rest = List.range' (i + 1) (items.size - (i + 1)) := by
        rw [show items.size - i = (items.size - (i + 1)) + 1 by omega, List.range'_succ] at hr
        exact List.cons.inj hr
      obtain ⟨rfl, hrest⟩ := ey
      rw [Array.getElem?_eq_getElem hlt]
      refine wpAny_bind (he _ (Array.getElem_mem hlt) prog w _ _ ?_)
      by_cases c : y = j
      · subst c
        rw [hit]; wp_walk
        exact ⟨_, rfl, h⟩
      · rw [hno y hlt h0 (by omega)]; wp_walk
        exact ⟨rfl, rfl, y + 1, hrest, by omega, by omega⟩
    case fin =>
      rintro b s' ⟨hb', rfl, i, hr, h0, h1⟩
      exfalso
      rw [show items.size - i = (items.size - (i + 1)) + 1 by omega, List.range'_succ] at hr
      cases hr
    case h =>
      refine ⟨rfl, rfl, i0, ?_, Nat.le_refl _, hi⟩
      have e1 : (max (if (i0 : Int) < 0 then (i0 : Int) + (items.size : Nat) else (i0 : Int)) 0).toNat = i0 := by rw [if_neg (by omega)]; omega
      rw [e1]
      simp
/-- t.index(x, i): the first place from i on -/
def rTixF (K : PySem.W.Frag) : V → List V → Hp → VK → Prop := fun x xs H Q => ∃ (p : Addr) (ns : List Int) (z : Int) (i j : Nat), x = .ref p ∧ xs = [.int z, .int (i : Nat)] ∧ SqT K H p (ns.map V.int) ∧ i ≤ j ∧ ns[j]? = some z ∧ (∀ m, i ≤ m → m < j → ns[m]? ≠ some z) ∧ Q (.int (j : Nat)) H
theorem mt_tixF {X : Cx} {K : PySem.W.Frag} (hK : X.K = K) : MtR X "tuple.index" (rTixF K) := by
  subst hK
  intro pins s σ H x xs v us Q I rx rs h
  obtain ⟨p, ns, z, i, j, rfl, rfl, hq, hij, hy, hno, q⟩ := h
  cases rx
  cases rs with
  | cons r1 rs =>
    cases rs with
    | cons r2 rs =>
      cases rs
      obtain ⟨t, rfl⟩ := r1
      obtain ⟨t2, rfl⟩ := r2
      obtain ⟨its, r, pl, hz⟩ := I.tuple hq
      obtain ⟨⟨cls, dd, dt, sl⟩, ho, hc, n, hd⟩ := pl
      simp only at hc hd; subst hc; subst hd
      have hlen : its.toArray.size = ns.length := by rw [List.size_toArray, ← r.length, List.length_map]
      have hj : j < its.toArray.size := by rw [hlen]; exact (List.getElem?_eq_some_iff.mp hy).1
      have at' : ∀ (m : Nat) (hm : m < its.toArray.size), ∃ y t', ns[m]? = some y ∧ its.toArray[m] = Value.int y t' := fun m hm => by
        have hm' : m < ns.length := by rw [← hlen]; exact hm
        obtain ⟨w, hw, t', hw'⟩ := r.get (i := m) (x := .int ns[m]) (by simp [hm'])
        refine ⟨ns[m], t', List.getElem?_eq_getElem hm', ?_⟩
        have e := (List.getElem?_eq_some_iff.mp hw).2
        rw [← hw', ← e]; simp
      have fl : (ns.map V.int).all flatV = true := by rw [List.all_map]; exact List.all_eq_true.mpr fun _ _ => rfl
      have eqz : ∀ (m : Nat) (hm : m < its.toArray.size), eqU (.int z) its.toArray[m] = decide (ns[m]? = some z) := fun m hm => by
        obtain ⟨y, t', h1, h2⟩ := at' m hm
        have e3 : eqU (.int z) (.int y t') = eqV (.int y) (.int z) := eqU_of (show RelV (V.int y) (Value.int y t') from ⟨t', rfl⟩) rfl
        rw [h2, h1, e3]
        by_cases c : y = z <;> simp [eqV, c]
      exact call_meets PySem.F.slot_tuple_index ⟨_, ho, rfl⟩ PySem.F.entry_tuple_index (PySem.F.args_tuple_index_3 _ _ _) (tuple_indexFrom p its.toArray n dd sl (.int z t) (eqU (.int z)) i t2 j hij hj (by rw [eqz, hy]; simp) fun m hm h0 h1 => by rw [eqz, decide_eq_false (hno m h0 h1)])
        ⟨ho, fun w hw => mem_eqAt (x := .int z) ⟨t, rfl⟩ rfl r fl w (by simpa using hw), ⟨.int (j : Nat), H, I.tok _, ⟨_, rfl⟩, q⟩⟩
theorem l_tixF {K : PySem.W.Frag} {H : Hp} {Q : VK} {p : Addr} {ns : List Int} {z i : Int} {j : Nat} (h : SqT K H p (ns.map V.int)) (h0 : 0 ≤ i) (hij : i.toNat ≤ j) (hj : ns[j]? = some z) (hn : ∀ m, i.toNat ≤ m → m < j → ns[m]? ≠ some z) (k : Q (.int (j : Nat)) H) : rTixF K (.ref p) [.int z, .int i] H Q :=
  ⟨p, ns, z, i.toNat, j, rfl, by rw [show ((i.toNat : Nat) : Int) = i by omega], h, hij, hj, hn, k⟩
/-! (i, t) < (j, u) -/
theorem lex_words : ∀ (ns ms : List Int) (l m : List (Int ⊕ List Nat)), PyProof.Rows.lexLt itemOrd (PySem.W.keyToksAll (ns.map PyData.int) ++ l) (PySem.W.keyToksAll (ms.map PyData.int) ++ m) = if ns = ms then PyProof.Rows.lexLt itemOrd l m else HT.lexLt ns ms
  | [], [], l, m => by
    rw [if_pos rfl]
    exact lex_self (O := itemOrd) (Sum.inl 0) l m
  | [], y :: ms, l, m => by
    rw [if_neg (by simp)]
    exact (lex_diff (O := itemOrd) (show (Sum.inl 0 : Int ⊕ List Nat) ≠ Sum.inl 1 by simp)).trans rfl
  | x :: ns, [], l, m => by
    rw [if_neg (by simp)]
    exact (lex_diff (O := itemOrd) (show (Sum.inl 1 : Int ⊕ List Nat) ≠ Sum.inl 0 by simp)).trans rfl
  | x :: ns, y :: ms, l, m => by
    have e : ∀ (z : Int) (zs : List Int) (r : List (Int ⊕ List Nat)), PySem.W.keyToksAll ((z :: zs).map PyData.int) ++ r = Sum.inl 1 :: Sum.inl z :: (PySem.W.keyToksAll (zs.map PyData.int) ++ r) := fun z zs r => rfl
    rw [e, e]
    refine (lex_self (O := itemOrd) (Sum.inl 1) _ _).trans ?_
    by_cases c : x = y
    · subst c
      refine (lex_self (O := itemOrd) (Sum.inl x) _ _).trans ?_
      rw [lex_words ns ms l m, HT.lexLt_cons, if_pos rfl]
      by_cases d : ns = ms
      · rw [if_pos d, if_pos (by rw [d])]
      · rw [if_neg d, if_neg (fun z => d (List.cons.inj z).2)]
    · refine (lex_diff (O := itemOrd) (show (Sum.inl x : Int ⊕ List Nat) ≠ Sum.inl y from fun z => c (Sum.inl.inj z))).trans ?_
      rw [HT.lexLt_cons, if_neg c, if_neg (fun z => c (List.cons.inj z).1)]
      rfl
theorem lexLt_self : ∀ ns : List Int, HT.lexLt ns ns = false
  | [] => rfl
  | x :: ns => by rw [HT.lexLt_cons, if_pos rfl, lexLt_self ns]
abbrev iwD (i : Int) (ns : List Int) : PyData := .tuple [.int i, .tuple (ns.map PyData.int)]
theorem lt_iw (i j : Int) (ns ms : List Int) : PySem.W.dataLt (iwD i ns) (iwD j ms) = if i = j then HT.lexLt ns ms else decide (i < j) := by
  have e : ∀ (z : Int) (zs : List Int), PySem.W.keyToks (iwD z zs) = Sum.inl 1 :: Sum.inl z :: Sum.inl 1 :: (PySem.W.keyToksAll (zs.map PyData.int) ++ [Sum.inl 0]) := fun z zs => rfl
  unfold PySem.W.dataLt
  rw [e, e]
  refine (lex_self (O := itemOrd) (Sum.inl 1) _ _).trans ?_
  by_cases c : i = j
  · subst c
    refine (lex_self (O := itemOrd) (Sum.inl i) _ _).trans ?_
    refine (lex_self (O := itemOrd) (Sum.inl 1) _ _).trans ?_
    rw [lex_words, if_pos rfl]
    by_cases d : ns = ms
    · subst d
      rw [if_pos rfl, lexLt_self]
      rfl
    · rw [if_neg d]
  · rw [if_neg c]
    exact (lex_diff (O := itemOrd) (show (Sum.inl i : Int ⊕ List Nat) ≠ Sum.inl j from fun z => c (Sum.inl.inj z))).trans rfl
theorem alike_ints : ∀ ns ms : List Int, PySem.W.alikeAll (ns.map PyData.int) (ms.map PyData.int) = true
  | [], _ => by simp [PySem.W.alikeAll]
  | x :: ns, [] => rfl
  | x :: ns, y :: ms => by
    show (true && PySem.W.alikeAll (ns.map PyData.int) (ms.map PyData.int)) = true
    rw [alike_ints ns ms]; rfl
theorem depth_ns : ∀ ns : List Int, PyData.depthAll (ns.map PyData.int) = 0
  | [] => rfl
  | n :: ns => by
    rw [List.map_cons, PyData.depthAll, depth_ns ns]
    rfl
def rLtW (K : PySem.W.Frag) : R2 := fun x y H Q => ∃ i j ns ms, Dp K H x (iwD i ns) ∧ Dp K H y (iwD j ms) ∧ Q (.bl (if i = j then HT.lexLt ns ms else decide (i < j))) H
def rLtQ (K : PySem.W.Frag) : R2 := fun x y H Q => rLtP x y H Q ∨ rLtT K x y H Q ∨ rLtW K x y H Q
theorem op_ltW {X : Cx} (hu : X.A.units + 64 < cLine) : OpR X (compareOp .Lt) (rLtW X.K) := by
  intro pins s σ H x y v u Q I rx ry h
  obtain ⟨i, j, ns, ms, hd, he, q⟩ := h
  obtain ⟨as, r1⟩ := Dp.reads I _ x v hd rx
  obtain ⟨bs, r2⟩ := Dp.reads I _ y u he ry
  refine PySem.W.lt_data r1 r2 ?_ (fun z => nomatch z) ?_ ?_
  · show (true && (PySem.W.alikeAll (ns.map PyData.int) (ms.map PyData.int) && true)) = true
    rw [alike_ints]; rfl
  · have d1 : (iwD i ns).depth ≤ 2 := by simp only [PyData.depth, PyData.depthAll, depth_ns]; decide
    omega
  · rw [lt_iw]
    exact ⟨.bl _, H, I, rfl, q⟩
theorem op_ltQ {X : Cx} {K : PySem.W.Frag} (hu : X.A.units + 64 < cLine) (h : X.K = K) : OpR X (compareOp .Lt) (rLtQ K) := h ▸ op_ltP.or ((op_ltT (by omega)).or (op_ltW hu))
theorem l_ltQ {K : PySem.W.Frag} {i j : Int} {H : Hp} {Q : VK} (k : Q (.bl (decide (i < j))) H) : rLtQ K (.int i) (.int j) H Q := .inl ⟨i, j, rfl, rfl, k⟩
theorem l_ltT {K : PySem.W.Frag} {a b : Addr} {ns ms : List Int} {H : Hp} {Q : VK} (h1 : SqT K H a (ns.map V.int)) (h2 : SqT K H b (ms.map V.int)) (k : Q (.bl (HT.lexLt ns ms)) H) : rLtQ K (.ref a) (.ref b) H Q := .inr (.inl ⟨a, b, ns, ms, rfl, rfl, h1, h2, k⟩)
theorem dp_nums {K : PySem.W.Frag} {H : Hp} : ∀ ns : List Int, DpAll K H (ns.map V.int) (ns.map PyData.int)
  | [] => .nil
  | _ :: ns => .cons (.int _) (dp_nums ns)
theorem l_ltW {K : PySem.W.Frag} {a b u v : Addr} {i j : Int} {ns ms : List Int} {H : Hp} {Q : VK} (h1 : SqT K H a [.int i, .ref u]) (h2 : SqT K H u (ns.map V.int)) (h3 : SqT K H b [.int j, .ref v]) (h4 : SqT K H v (ms.map V.int)) (k : Q (.bl (if i = j then HT.lexLt ns ms else decide (i < j))) H) : rLtQ K (.ref a) (.ref b) H Q :=
  .inr (.inr ⟨i, j, ns, ms, .tup h1 (.cons (.int _) (.cons (.tup h2 (dp_nums ns)) .nil)), .tup h3 (.cons (.int _) (.cons (.tup h4 (dp_nums ms)) .nil)), k⟩)
/-! t[1::2] -/
theorem fm_congr {α β : Type} {f g : α → Option β} : ∀ {l : List α}, (∀ a ∈ l, f a = g a) → l.filterMap f = l.filterMap g
  | [], _ => rfl
  | a :: l, h => by
    rw [List.filterMap_cons, List.filterMap_cons, h a (by simp), fm_congr fun b hb => h b (by simp [hb])]
def odds {α : Type} : List α → List α
  | [] => []
  | [_] => []
  | _ :: b :: l => b :: odds l
theorem odds_map {α β : Type} (f : α → β) : ∀ l : List α, odds (l.map f) = (odds l).map f
  | [] => rfl
  | [_] => rfl
  | _ :: b :: l => by
    show f b :: odds (l.map f) = _
    rw [odds_map f l]; rfl
theorem odds_pick {α : Type} : ∀ l : List α, (List.range (l.length / 2)).filterMap (fun m => l[1 + m * 2]?) = odds l
  | [] => by simp [odds]
  | [_] => by simp [odds]
  | a :: b :: l => by
    have e : (a :: b :: l).length / 2 = l.length / 2 + 1 := by simp only [List.length_cons]; omega
    rw [e, List.range_succ_eq_map, List.filterMap_cons]
    show b :: List.filterMap _ (List.map Nat.succ (List.range (l.length / 2))) = b :: odds l
    rw [List.filterMap_map, ← odds_pick l]
    congr 1
    refine fm_congr fun m _ => ?_
    show (a :: b :: l)[1 + (m + 1) * 2]? = l[1 + m * 2]?
    rw [show 1 + (m + 1) * 2 = (1 + m * 2) + 2 by omega]
    rfl
theorem odds_len {α : Type} : ∀ l : List α, (odds l).length = l.length / 2
  | [] => by simp [odds]
  | [_] => by simp [odds]
  | _ :: b :: l => by
    show (odds l).length + 1 = _
    rw [odds_len l]; simp only [List.length_cons]; omega
theorem Vals.odds : ∀ {xs : List V} {us : List Value}, Vals xs us → Vals (LM.odds xs) (LM.odds us)
  | _, _, .nil => .nil
  | _, _, .cons _ .nil => .nil
  | _, _, .cons _ (.cons r t) => .cons r (Vals.odds t)
section
variable {prog : Program} {w : World} {A : Around} {E : Value → Shared → Prop} {s : Shared}
theorem applied2 {sl : Addr} {vl vs : Value} {n : Nat} {Q : Int × Int × Nat → Shared → Prop} (hs : s.heap.IsSliceOf sl vl .none vs) (pl : IsPart vl (some 1)) (ps : IsPart vs (some 2))
    (h : Q (((min 1 n : Nat) : Int), 2, n / 2) s) : wpAny (model prog w) A (Builtin.Slice.sliceApplied (.ref sl) (pure (n : Int))) Q E s := by
  obtain ⟨os, hos, hcs, hds⟩ := id hs
  unfold Builtin.Slice.sliceApplied Builtin.Slice.sliceFields; refine wpAny_bind (wpAny_bind (wpAny_field hos hds (x := vl) rfl (wpAny_bind (wpAny_field hos hds (x := .none) rfl (wpAny_bind (wpAny_field hos hds (x := vs) rfl (wpAny_pure ?_)))))))
  refine wpAny_bind (HT.slicePart_ ps ?_)
  show wpAny _ _ (if ((2 : Int) == 0) = true then _ else _) _ _ s; rw [if_neg (by decide)]
  refine wpAny_bind (HT.slicePart_ pl (wpAny_bind (HT.slicePart_ .none (wpAny_bind (wpAny_pure ?_)))))
  show wpAny _ _ (match Builtin.Slice.sliceAdjust (some 1) none 2 (n : Int) with | (lo, hi) => pure (lo, (2 : Int), Builtin.Slice.slicePlaces lo hi 2)) _ _ s
  have e1 : Builtin.Slice.sliceAdjust (some 1) none 2 (n : Int) = (((min 1 n : Nat) : Int), (n : Int)) := by
    unfold Builtin.Slice.sliceAdjust
    simp only [show ¬ ((2 : Int) < 0) by decide, show ¬ ((1 : Int) < 0) by decide, if_false]
    refine Prod.ext ?_ rfl
    show min 1 (n : Int) = ((min 1 n : Nat) : Int)
    omega
  rw [e1]
  show wpAny _ _ (pure (((min 1 n : Nat) : Int), (2 : Int), Builtin.Slice.slicePlaces ((min 1 n : Nat) : Int) (n : Int) 2)) _ _ s
  have e2 : Builtin.Slice.slicePlaces ((min 1 n : Nat) : Int) (n : Int) 2 = n / 2 := by
    unfold Builtin.Slice.slicePlaces
    simp only [show (2 : Int) > 0 by decide, if_true]
    split <;> omega
  rw [e2]
  exact wpAny_pure h
theorem getItem_tuple_odds {t sl : Addr} {items : Array Value} {vl vs : Value} {Q : Value → Shared → Prop} (ht : IsTup s.heap t items) (hs : s.heap.IsSliceOf sl vl .none vs) (pl : IsPart vl (some 1)) (ps : IsPart vs (some 2))
    (h : Q (.ref s.heap.objs.size) { s with heap := s.heap.push { cls := .type "tuple", data := .seq (odds items.toList).toArray } }) (hsz : items.size ≤ sizeLine) : wpAny (model prog w) A (getItem (.ref t) (.ref sl)) Q E s := by
  obtain ⟨os, hos, hcs, hds⟩ := id hs
  have hTs : s.TypeIs (.ref sl) "slice" := ⟨os, hos, hcs⟩
  have hok : sizeOk (.seq (odds items.toList).toArray) := by
    show (odds items.toList).toArray.size ≤ sizeLine
    rw [List.size_toArray, odds_len, Array.length_toList]; omega
  unfold getItem; try with_reducible refine wpAny_holding ?_
  first | refine wpAny_bind (wpAny_pure ?_) | skip
  refine wpAny_bind (wpAny_sequenceKey ht.typeIs (by decide) ?_); refine wpAny_bind (wpAny_callSpecial?_slot (name := Str.ofString "__getitem__") ht.typeIs PyProof.Rows.slot_tuple_getitem (wpAny_call_entry PyProof.Rows.slot_tuple_getitem ht.typeIs entry_tuple_getitem ?_ (args_tuple_getitem _ _)))
  show wpAny _ _ (Builtin.Tuple.tupleItemsOf (.ref t) >>= _) _ _ s; refine wpAny_bind (tupleItemsOf_ ht ?_)
  refine wpAny_bind (wpAny_typeOf hTs ?_); rw [if_pos (by decide)]
  refine wpAny_bind (applied2 hs pl ps ?_)
  have hno : ¬ ((((min 1 items.size : Nat) : Int) == 0 && (2 : Int) == 1 && (items.size / 2) == items.size) = true) := by
    rw [show ((2 : Int) == 1) = false from rfl, Bool.and_false, Bool.false_and]; exact Bool.false_ne_true
  show wpAny _ _ (if (((min 1 items.size : Nat) : Int) == 0 && (2 : Int) == 1 && (items.size / 2) == items.size) = true then _ else _) _ _ s
  rw [if_neg hno]
  have ep : ((List.range (items.size / 2)).filterMap fun (m : Nat) => items[(((min 1 items.size : Nat) : Int) + (m : Int) * 2).toNat]?).toArray = (odds items.toList).toArray := by
    congr 1
    rw [← odds_pick items.toList, Array.length_toList]
    refine fm_congr fun m hm => ?_
    have := List.mem_range.mp hm
    rw [Array.getElem?_toList]
    congr 1
    omega
  rw [ep]
  first
    | exact wpAny_bind (m := Builtin.Tuple.tupleExact _) (wpAny_newObj_type (wpAny_pure ⟨_, rfl, wpAny_pure h⟩) hok)
    | exact wpAny_bind (m := Builtin.Tuple.tupleExact _) (wpAny_newObj_type (wpAny_bind (wpAny_pure (wpAny_pure ⟨_, rfl, wpAny_pure h⟩))) hok)
    | exact wpAny_bind (wpAny_bind (m := Builtin.Tuple.tupleExact _) (wpAny_newObj_type (wpAny_pure (wpAny_pure ⟨_, rfl, wpAny_pure h⟩)) hok))
    | exact wpAny_bind (wpAny_bind (m := Builtin.Tuple.tupleExact _) (wpAny_newObj_type (wpAny_pure ⟨_, rfl, wpAny_pure h⟩) hok))
end
def oddsK (K : PySem.W.Frag) (Q : VK) (x : V) (H : Hp) : Prop := ∃ (a : Addr) (xs : List V), x = .ref a ∧ SqT K H a xs ∧ newN Q (odds xs) H
def tOdds (K : PySem.W.Frag) (te : TE) : TE := fun σ H Q => te σ H (oddsK K Q)
theorem w_odds {K : PySem.W.Frag} {te : TE} {σ : L2.St} {H : Hp} {Q : VK} (k : te σ H (oddsK K Q)) : tOdds K te σ H Q := k
theorem l_odds {K : PySem.W.Frag} {H : Hp} {Q : VK} {a : Addr} {xs : List V} (h : SqT K H a xs) (hz : xs.length ≤ 100000) (k : ∀ p H', H p = none → Ex H H' → Nt H' p (odds xs) → Q (.ref p) H') : oddsK K Q (.ref a) H := ⟨a, xs, rfl, h, w_newN (by rw [odds_len]; omega) k⟩
theorem pe_odds {X : Cx} {K : PySem.W.Frag} (hK : X.K = K) {e : Expr} {te : TE} {k1 k2 : Nat} {p1 p2 p3 pos : Pos} (he : PE X e te) : PE X (.Subscript e (.Slice (some (.Constant (.int 1) k1 p1)) none (some (.Constant (.int 2) k2 p2)) p3) pos) (tOdds K te) := by
  subst hK
  refine ⟨fun pins s σ H Q I h => ?_⟩
  refine Subscript_ (thn (he.run pins s σ H _ I h) fun v s1 ⟨x, H1, J1, r1, a, xs, ex, hx, z, q⟩ => ?_)
  subst ex
  cases r1
  have h1 : PO X (some (.Constant (.int 1) k1 p1)) (tPart (tC (.int 1))) := po_some pe_int
  have h2 : PO X (some (.Constant (.int 2) k2 p2)) (tPart (tC (.int 2))) := po_some pe_int
  refine wpAny_Slice (thn (h1.run pins s1 σ H1 (fun o G => o = some 1 ∧ G = H1) J1 ⟨1, rfl, rfl, rfl⟩) fun vl s2 ⟨l, H2, J2, pl, el, e2⟩ => ?_)
  subst el e2
  refine thn (po_none.run pins s2 σ H2 (fun o G => o = none ∧ G = H2) J2 ⟨rfl, rfl⟩) fun vu s3 ⟨u, H3, J3, pu, eu, e3⟩ => ?_
  subst eu e3
  refine thn (h2.run pins s3 σ H3 (fun o G => o = some 2 ∧ G = H3) J3 ⟨2, rfl, rfl, rfl⟩) fun vs s4 ⟨o, H4, J4, ps, eo, e4⟩ => ?_
  subst eo e4
  cases pu
  have J5 : Inv X pins σ H4 { s4 with heap := s4.heap.push { cls := .type "slice", data := .fields #[vl, .none, vs] } } := J4.kept (t' := s4.toks) fun b ob g => Heap.get?_push_of_some _ g
  obtain ⟨its, r, ht, hz⟩ := J5.tuple hx
  have hl := r.length
  show wpAny (model X.prog X.w) X.A (subscriptTail e (.Slice (some (.Constant (.int 1) k1 p1)) none (some (.Constant (.int 2) k2 p2)) p3) (.ref a) (.ref s4.heap.objs.size)) (EP X pins σ Q) X.xe { s4 with heap := s4.heap.push { cls := .type "slice", data := .fields #[vl, .none, vs] } }
  refine tail_any (T := "tuple") (ops := [.ref a, .ref s4.heap.objs.size]) ht.typeIs PyProof.Rows.slot_tuple_getitem.lookup ?_ (by with_unfolding_all rfl)
  refine getItem_tuple_odds ht (Heap.IsSliceOf.new _ vl .none vs) pl ps ?_ (by rw [List.size_toArray]; omega)
  exact ⟨.ref _, _, laidN J5 z (Vals.odds r), rfl, q _ _ (J5.hok.fresh (Nat.le_refl _)) rfl⟩
/-! leaves over such tuples -/
section
variable {K : PySem.W.Frag} {H : Hp} {Q : VK} {a b : Addr} {xs ys : List V}
theorem l_addN {i j : Int} (k : Q (.int (i + j)) H) : rCatN K (.int i) (.int j) H Q := .inr (l_add k)
theorem l_mulN {i j : Int} (h : (-(2 ^ 64) < i ∧ i < 2 ^ 64) ∨ (-(2 ^ 64) < j ∧ j < 2 ^ 64)) (k : Q (.int (i * j)) H) : rRepN K (.int i) (.int j) H Q := .inr (l_mul h k)
theorem l_addNT (h1 : Nt H a xs) (h2 : Nt H b ys) (hz : xs.length + ys.length ≤ 100000) (k : ∀ p H', Ex H H' → Nt H' p (xs ++ ys) → Q (.ref p) H') : rCatN K (.ref a) (.ref b) H Q :=
  .inl ⟨a, b, xs, ys, rfl, rfl, h1.sq, h2.sq, fun e => k _ _ (Evl.Ex.refl _) (by subst e; exact h2), fun _ e => k _ _ (Evl.Ex.refl _) (by subst e; rw [List.append_nil]; exact h1), w_newN (by rw [List.length_append]; exact hz) fun p H' _ e n => k p H' e n⟩
theorem l_slNT {lo hi : Option Int} (h : Nt H a xs) (hz : xs.length ≤ 100000) (k : ∀ p H', Ex H H' → Nt H' p (cutV xs lo hi) → Q (.ref p) H') : rSlN K (.ref a) lo hi H Q :=
  .inl ⟨a, xs, rfl, h.sq, fun e => k _ _ (Evl.Ex.refl _) (by
    have : cutV xs lo hi = xs := by unfold cutV; rw [e.1, e.2]; simp
    rw [this]; exact h), w_newN (Nat.le_trans (cutV_length xs lo hi) hz) fun p H' _ e n => k p H' e n⟩
theorem l_repNT {m : Int} (h : Nt H a xs) (hn : xs ≠ []) (hx : xs.length ≤ 1000) (hk : 0 ≤ m ∧ m ≤ 1000) (hz : (List.replicate m.toNat xs).flatten.length ≤ 100000) (k : ∀ p H', Ex H H' → Nt H' p (List.replicate m.toNat xs).flatten → Q (.ref p) H') : rRepN K (.ref a) (.int m) H Q :=
  .inl ⟨a, m, xs, rfl, rfl, h.sq, hn, hx, hk.1, hk.2, fun e => k _ _ (Evl.Ex.refl _) (by subst e; simpa using h), w_newN hz fun p H' _ e n => k p H' e n⟩
theorem l_tupLN (h : SqL K H a xs) (hz : xs.length ≤ 100000) (k : ∀ p H', Ex H H' → Nt H' p xs → Q (.ref p) H') : rTupN K [.ref a] H Q := ⟨a, xs, rfl, .inl ⟨h, w_newN hz fun p H' _ e n => k p H' e n⟩⟩
end
/-! for x in reversed(t), for k in reversed(range(n)) -/
theorem pi_revAK {X : Cx} {K : PySem.W.Frag} (h : X.K = K) {tg e : Expr} {te : TE} {p pos : Pos} (hp : PI X tg (.Call (.Name "reversed" p) [e] [] pos) (RT.iRevA X.K te)) : PI X tg (.Call (.Name "reversed" p) [e] [] pos) (RT.iRevA K te) := h ▸ hp
def revK (K : PySem.W.Frag) (R : It → Hp → Prop) (v : V) (H1 : Hp) : Prop := ∃ (a : Addr) (xs : List V), v = .ref a ∧ ((SqL K H1 a xs ∧ R (Itv K a xs.length) H1) ∨ (SqT K H1 a xs ∧ R (RT.ItvT K a xs.length) H1))
theorem i_revA {K : PySem.W.Frag} {te : TE} {σ : L2.St} {H : Hp} {R : It → Hp → Prop} (k : te σ H (revK K R)) : RT.iRevA K te σ H R := k
theorem l_revT {K : PySem.W.Frag} {a : Addr} {xs : List V} {H : Hp} {R : It → Hp → Prop} (h : SqT K H a xs) (k : R (RT.ItvT K a xs.length) H) : revK K R (.ref a) H := ⟨a, xs, rfl, .inr ⟨h, k⟩⟩
theorem walk_revT {K : PySem.W.Frag} {a : Addr} {xs : List V} : Walk (RT.ItvT K a xs.length) xs.length (fun H => SqT K H a xs) (fun i H x H' => H' = H ∧ xs[xs.length - 1 - i]? = some x) := by
  refine ⟨fun i _ hi q => ⟨hi, xs, xs[xs.length - 1 - i], q, by simp⟩, fun _ _ => Nat.le_refl _, fun i H x H' hi q y => ⟨y.1, y.2 xs q⟩⟩
def rgK (R : It → Hp → Prop) (a b : Int) (H1 : Hp) : Prop := -(2 ^ 62) ≤ a ∧ a < 2 ^ 62 ∧ -(2 ^ 62) ≤ b ∧ b < 2 ^ 62 ∧ R (Itc (a + (((b - a).toNat : Nat) : Int) - 1) (-1) (b - a).toNat) H1
theorem i_revR1 {ta : TE} {σ : L2.St} {H : Hp} {R : It → Hp → Prop} (k : ta σ H fun x H1 => ∃ j, x = .int j ∧ rgK R 0 j H1) : iRevR (tRg1 ta) σ H R := k
theorem l_rgK {R : It → Hp → Prop} {j : Int} {H : Hp} (h : 0 ≤ j ∧ j < 1000000) (k : R (Itc (0 + (((j - 0).toNat : Nat) : Int) - 1) (-1) (j - 0).toNat) H) : rgK R 0 j H := ⟨by decide, by decide, by omega, by omega, k⟩
/-! list(range(n)) -/
theorem w_listRg {te : L2.St → Hp → (Int → Int → Hp → Prop) → Prop} {σ : L2.St} {H : Hp} {Q : VK} (k : te σ H fun a b H1 => RgOk a b ∧ ∀ q, H1 q = none → Q (.ref q) (upd H1 q (.lst (rgV a b)))) : tLstRg te σ H Q := k
theorem w_rg1 {ta : TE} {σ : L2.St} {H : Hp} {R : Int → Int → Hp → Prop} (k : ta σ H fun x H1 => ∃ n, x = .int n ∧ R 0 n H1) : tRg1 ta σ H R := k
theorem l_rgL {j : Int} {H : Hp} {Q : VK} (h : 0 ≤ j ∧ j < 1000000) (k : ∀ q H', H q = none → Ex H H' → H' q = some (.lst (rgV 0 j)) → Q (.ref q) H') : RgOk 0 j ∧ ∀ q, H q = none → Q (.ref q) (upd H q (.lst (rgV 0 j))) := ⟨RgOk.of_le (by omega) (by omega) (by omega) (by omega), fun q hq => k q _ hq (Evl.Ex.new hq) upd_same⟩
end LM
namespace LM
open PySem PySem.Spec PyProof.Rows L2
/-! a dict whose keys are tuples without attributes of their own: its keys alone are known -/
def DNf (P : Program) (w : World) (d : Addr) (L : KS) (h : Heap) : Prop := (d == sysModules) = false ∧ ∃ xs : List (List Key × Addr × Value), xs.map (fun x => (x.1, x.2.1)) = L.map (fun p => (p.2.map (Sum.inl (β := Str)), p.1)) ∧ ∃ o es ep, h.get? d = some o ∧ o.ExactDict ∧ o.data = .dict es ep ∧ es.toList = xs.map (entryOfKey (tupleKind (mixKind P w))) ∧ (xs.map (·.1)).Nodup
def DNo (P : Program) (w : World) (d : Addr) (L : KS) : HO := .ext (DNf P w d L)
theorem dno_ok {P : Program} {w : World} {H : Hp} {h : Heap} {d : Addr} {L : KS} (x : DNf P w d L h) : ObjOk P w H h d (DNo P w d L) := by
  refine ⟨x, ?_, fun h1 h2 y e => ?_⟩
  · obtain ⟨_, _, _, o, _, _, ho, _⟩ := x
    exact ⟨o, ho⟩
  · obtain ⟨a, xs, b, o, es, ep, ho, r⟩ := y
    exact ⟨a, xs, b, o, es, ep, e o ho, r⟩
def NKs (H : Hp) (L : KS) : Prop := ∀ p ∈ L, Nt H p.1 (p.2.map V.int)
theorem NKs.mono {H H' : Hp} {L : KS} (e : Ex H H') (h : NKs H L) : NKs H' L := fun p hp => (h p hp).mono e
theorem map_kV : ∀ ws : List Int, (ws.map (Sum.inl (β := Str))).map kV = ws.map V.int
  | [] => rfl
  | _ :: r => by rw [List.map_cons, List.map_cons, List.map_cons, map_kV r]; rfl
section
variable {X : Cx} {pins : List (Addr × Obj)} {σ : L2.St} {H : Hp} {s : Shared}
theorem nt_key (I : Inv X pins σ H s) {b : Addr} {ws : List Int} (h : Nt H b (ws.map V.int)) : (tupleKind (mixKind X.prog X.w)).is s.heap (ws.map Sum.inl) b := by
  obtain ⟨ob, hb, _⟩ := h
  obtain ⟨_, _, its, r, o, h1, h2, n, h3⟩ := (show ObjOk X.prog X.w H s.heap b (.frz ob (.tup (ws.map V.int))) from I.hok b _ hb)
  exact ⟨o, its.toArray, n, h1, h2, h3, by rw [← map_kV] at r; simpa using items_are r⟩
theorem dn_at (I : Inv X pins σ H s) {d : Addr} {L : KS} (hd : H d = some (DNo X.prog X.w d L)) (hL : NKs H L) : (d == sysModules) = false ∧ ∃ xs : List (List Key × Addr × Value), xs.map (fun x => (x.1, x.2.1)) = L.map (fun p => (p.2.map (Sum.inl (β := Str)), p.1)) ∧ s.heap.DictOfH (tupleKind (mixKind X.prog X.w)) d xs := by
  obtain ⟨⟨hsm, xs, hx, o, es, ep, ho, h1, h2, h3, h4⟩, _, _⟩ := (show ObjOk X.prog X.w H s.heap d (DNo X.prog X.w d L) from I.hok d _ hd)
  refine ⟨hsm, xs, hx, o, es, ep, ho, h1, h2, h3, fun x hxm => ?_, h4⟩
  have hm : (x.1, x.2.1) ∈ L.map (fun p => (p.2.map (Sum.inl (β := Str)), p.1)) := hx ▸ List.mem_map.mpr ⟨x, hxm, rfl⟩
  obtain ⟨p, hp, e⟩ := List.mem_map.mp hm
  have e1 : x.1 = p.2.map Sum.inl := (congrArg Prod.fst e).symm
  have e2 : x.2.1 = p.1 := (congrArg Prod.snd e).symm
  rw [e1, e2]
  exact nt_key I (hL p hp)
end
theorem xs_len {xs : List (List Key × Addr × Value)} {L : KS} (h : xs.map (fun x => (x.1, x.2.1)) = L.map (fun p => (p.2.map (Sum.inl (β := Str)), p.1))) : xs.length = L.length := by
  have := congrArg List.length h
  rwa [List.length_map, List.length_map] at this
theorem dn_empty {P : Program} {w : World} (h : Heap) (hb : sysModules < h.objs.size) : DNf P w h.objs.size [] (h.push { cls := .type "dict", data := .dict #[] }) :=
  ⟨beq_eq_false_iff_ne.mpr (Ne.symm (Nat.ne_of_lt hb)), [], rfl, _, #[], 0, Heap.get?_push_size _ rfl, ⟨rfl, rfl, rfl⟩, rfl, rfl, List.nodup_nil⟩
def tDNewN (P : Program) (w : World) : TE := fun _ H Q => ∀ p, H p = none → Q (.ref p) (upd H p (DNo P w p []))
theorem pe_dnewN {X : Cx} {pos : Pos} : PE X (.Dict [] [] pos) (tDNewN X.prog X.w) := ⟨fun pins s σ H Q I h =>
  wpAny_Dict_empty ⟨.ref s.heap.objs.size, _, I.laid (a := s.heap.objs.size) (o := DNo X.prog X.w s.heap.objs.size []) (t' := s.toks) (fun _ _ q => Heap.get?_push_of_some _ q) (Nat.le_refl _) (dno_ok (dn_empty s.heap I.big)), rfl, h _ (I.hok.fresh (Nat.le_refl _))⟩⟩
theorem w_dnewN {P : Program} {w : World} {σ : L2.St} {H : Hp} {Q : VK} (k : ∀ p H', H p = none → Ex H H' → H' p = some (DNo P w p []) → Q (.ref p) H') : tDNewN P w σ H Q := fun p hp => k p _ hp (Evl.Ex.new hp) upd_same
def putN (L : KS) (b : Addr) (ws : List Int) : KS := if ws ∈ L.map (·.2) then L else L ++ [(b, ws)]
def rSetN (P : Program) (w : World) : V → V → V → Hp → (Hp → Prop) → Prop := fun o i _ H R => ∃ (d b : Addr) (L : KS) (ws : List Int), o = .ref d ∧ i = .ref b ∧ H d = some (DNo P w d L) ∧ Nt H b (ws.map V.int) ∧ NKs H L ∧ L.length ≤ 100000 ∧ R (upd H d (DNo P w d (putN L b ws)))
theorem set_N {X : Cx} (hu : X.A.units + 65 < cLine) : PSet X (rSetN X.prog X.w) := by
  intro pins s σ H o i v ov iv u Q I ro ri rv h
  obtain ⟨d, b, L, ws, rfl, rfl, hd, hb, hL, hl, q⟩ := h
  cases ro
  cases ri
  obtain ⟨hsm, xs, hx, dd⟩ := dn_at I hd hL
  have hxl := xs_len hx
  refine wpAny_setItem_heap (hsz := by rw [hxl, sizeLine_eq]; omega) (tupleKind_room_in1 (by omega)) (nt_key I hb) dd fun h' dd' hs => ⟨_, d_write (ob := DNo X.prog X.w d (putN L b ws)) I (by rw [hd]; exact True.intro) hs (let ⟨q, _, _, hq, _⟩ := dd'; ⟨q, hq⟩) (dno_ok ?_), q⟩
  obtain ⟨o, es, ep, ho, h1, h2, h3, _, h4⟩ := dd'
  refine ⟨hsm, _, ?_, o, es, ep, ho, h1, h2, h3, h4⟩
  have hmem : (atKey xs (ws.map Sum.inl)).isSome = decide (ws ∈ L.map (·.2)) := by
    unfold atKey
    rw [Option.isSome_map, Bool.eq_iff_iff, List.find?_isSome]
    simp only [decide_eq_true_eq]
    constructor
    · rintro ⟨x, hxm, e⟩
      have hm : (x.1, x.2.1) ∈ L.map (fun p => (p.2.map (Sum.inl (β := Str)), p.1)) := hx ▸ List.mem_map.mpr ⟨x, hxm, rfl⟩
      obtain ⟨p, hp, e2⟩ := List.mem_map.mp hm
      exact List.mem_map.mpr ⟨p, hp, map_inl _ _ ((congrArg Prod.fst e2).trans e)⟩
    · intro c
      obtain ⟨p, hp, rfl⟩ := List.mem_map.mp c
      have hm : (p.2.map (Sum.inl (β := Str)), p.1) ∈ xs.map (fun x => (x.1, x.2.1)) := hx ▸ List.mem_map.mpr ⟨p, hp, rfl⟩
      obtain ⟨x, hxm, e⟩ := List.mem_map.mp hm
      exact ⟨x, hxm, congrArg Prod.fst e⟩
  unfold storedH putN
  rw [hmem]
  by_cases c : ws ∈ L.map (·.2)
  · rw [if_pos (decide_eq_true c), if_pos c, List.map_map, ← hx]
    refine List.map_congr_left fun x _ => ?_
    show ((putAt (ws.map Sum.inl) u x).1, (putAt (ws.map Sum.inl) u x).2.1) = _
    unfold putAt
    split <;> rfl
  · rw [if_neg (by simpa using c), if_neg c, List.map_append, List.map_append, hx]
    rfl
theorem l_setN {P : Program} {w : World} {H : Hp} {d b : Addr} {L : KS} {ws : List Int} {v : V} {R : Hp → Prop} (hd : H d = some (DNo P w d L)) (hb : Nt H b (ws.map V.int)) (hL : NKs H L) (hl : L.length ≤ 100000) (k : ∀ H', ExB d H H' → H' d = some (DNo P w d (putN L b ws)) → R H') : rSetN P w (.ref d) (.ref b) v H R :=
  ⟨d, b, L, ws, rfl, rfl, hd, hb, hL, hl, k _ ExB.upd upd_same⟩
/-- sorted(d) -/
def rSortN (P : Program) (w : World) : List V → Hp → VK → Prop := fun vs H Q => ∃ (a : Addr) (L : KS) (d : Nat) (B : Int), vs = [.ref a] ∧ H a = some (DNo P w a L) ∧ NKs H L ∧ L.length ≤ 100000 ∧ (∀ p ∈ L, p.2.length = d ∧ TS.Bd B p.2) ∧ (2 ≤ L.length → 1 ≤ d) ∧
  ∀ (ks' : KS) p, ks'.Perm L → Rises B ks' → H p = none → Q (.ref p) (upd H p (.lst (refsV ks')))
theorem cr_sortN {X : Cx} (hc : X.calm = true) : CallR X (.builtin "sorted") (rSortN X.prog X.w) := by
  intro pins s σ H vs us Q I r h
  obtain ⟨a, ks, d, B, rfl, hd, hL, hl, hB, h1, q⟩ := h
  rw [Vals.ref1 r]
  obtain ⟨hs, xs, pr, o, es, ep, ho, hx, hdt, he, _, hn⟩ := dn_at I hd hL
  have l1 : es.size = xs.length := size_of_entries he
  have lk := xs_len pr
  refine Calls.call_function_entry PyProof.Rows.kind_sorted PyProof.Rows.plain_sorted PyProof.Rows.entry_sorted (PyProof.Rows.args_sorted1 _) ?_
  unfold Builtin.«sorted»
  refine wpAny_bind (m := checkCount "sorted" 1 1 _) (wpAny_pure ?_)
  refine wpAny_bind (PySem.W.kdu_collect (A := X.A.in1) (kdl_raw hs hx hdt) (I.ok.hd hc) ho (by rw [l1, lk, sizeLine_eq]; omega) fun h' tk acc hk it => ?_)
  have ea : acc.toList = refsU ks := by
    have e0 : acc.toList = xs.map fun x => Value.ref x.2.1 := by
      have hl : acc.toList.length = xs.length := by rw [Array.length_toList, it.1]; exact l1
      apply List.ext_getElem?
      intro j
      rw [List.getElem?_map]
      cases hj : acc.toList[j]? with
      | none =>
        have h1 := List.getElem?_eq_none_iff.mp hj
        rw [List.getElem?_eq_none (by omega)]
        all_goals rfl
      | some v =>
        obtain ⟨en, hen, hv⟩ := it.2 j v (by rw [← Array.getElem?_toList]; exact hj)
        have qe := entry_at he j
        rw [hen] at qe
        cases hb : xs[j]? with
        | none =>
          rw [hb] at qe
          exact nomatch (show some en = none from qe)
        | some b =>
          rw [hb] at qe
          have e2 : en = entryOfKey (tupleKind (mixKind X.prog X.w)) b := Option.some.inj qe
          rw [hv, e2]
          all_goals rfl
    have e1 := congrArg (List.map fun p : List Key × Addr => Value.ref p.2) pr
    rw [List.map_map, List.map_map] at e1
    exact e0.trans e1
  have I1 : Inv X pins σ H { s with heap := h', toks := tk } := I.kept hk
  have hk1 : KsOk X.K H d B ks := fun p hp => ⟨(hL p hp).sq, hB p hp⟩
  have hz : (refsU ks).length ≤ sizeLine := by rw [List.length_map, sizeLine_eq]; omega
  rw [ea]
  refine wpAny_bind (wpAny_newList ?_ hz)
  have hoL : (h'.push (seqObj "list" (refsU ks).toArray 0)).get? h'.objs.size = some (seqObj "list" (refsU ks).toArray 0) := Heap.get?_push_size _ rfl
  show wpAny _ _ _ _ _ { s with heap := h'.push (seqObj "list" (refsU ks).toArray 0), toks := tk }
  refine wpAny_bind (wpAny_holding (wpAny_call_entry PyProof.Rows.slot_list_sort ⟨_, hoL, rfl⟩ PyProof.Rows.entry_list_sort
    (sort_new (s := { s with heap := h', toks := tk }) (d := d) (B := B) (fun h2 => h1 (by rw [List.length_map] at h2; exact h2)) hz (ksTups I1 hk1) hoL fun out g1 g2 => ⟨_, rfl, ?_⟩) (PyProof.Rows.args_list_sort _)))
  obtain ⟨ks', pm', e'⟩ := L2.perm_lift (fun p : Addr × List Int => Value.ref p.1) g2 ks rfl
  have hr := ksRise (d := d) (fun p hp => tupInts_of (I1.isT (hk1 p hp).1)) g1 pm' e'
  obtain ⟨c, hcn⟩ := PyProof.Rows.sortedHeap_at (vs := refsU ks) (out := out.toArray) hoL
  have hlen : (refsV ks').length ≤ sizeLine := by rw [List.length_map, pm'.length_eq, sizeLine_eq]; omega
  refine wpAny_pure ⟨_, rfl, .ref h'.objs.size, upd H h'.objs.size (.lst (refsV ks')), I1.laid (t' := tk) (fun b u e => ?_) (Nat.le_refl _) ⟨hlen, out, c, by rw [← e']; exact vals_of_refs ks', hcn⟩, rfl,
    q ks' _ pm' hr (I1.hok.fresh (Nat.le_refl _))⟩
  have hb : b < h'.objs.size := Heap.lt_size e
  rw [PyProof.Rows.sortedHeap_old (Nat.ne_of_lt hb) (by rw [size_push']; exact Nat.lt_succ_of_lt hb)]
  exact Heap.get?_push_of_some _ e
end LM
namespace LW
open PySem PySem.Spec PyProof.Rows L2 LM
/-! what things are: numbers of signs, signs, words -/
def isNum : V → Bool
  | .int _ => true
  | _ => false
def signOk (q : Int) : V → Bool
  | .int i => decide (0 ≤ i) && decide (i < q)
  | _ => false
/-- the signs ns are ones over q -/
def Sg (q : Int) (ns : List Int) : Prop := ∀ n ∈ ns, 0 ≤ n ∧ n < q
/-- v is the word ns over q -/
def Wd (K : PySem.W.Frag) (H : Hp) (q : Int) (v : V) (ns : List Int) : Prop := ∃ a, v = .ref a ∧ SqT K H a (ns.map V.int) ∧ ns.length ≤ 60 ∧ Sg q ns
theorem Wd.mono {K : PySem.W.Frag} {H H' : Hp} {q : Int} {v : V} {ns : List Int} (e : Ex H H') (h : Wd K H q v ns) : Wd K H' q v ns := by
  obtain ⟨a, e1, h1, h2⟩ := h
  exact ⟨a, e1, Evl.ex_t e h1, h2⟩
theorem Sg.append {q : Int} {xs ys : List Int} (h : Sg q xs) (h2 : Sg q ys) : Sg q (xs ++ ys) := fun n m => (List.mem_append.mp m).elim (h n) (h2 n)
theorem Sg.take {q : Int} {xs : List Int} (h : Sg q xs) (k : Nat) : Sg q (xs.take k) := fun n m => h n (List.mem_of_mem_take m)
theorem Sg.drop {q : Int} {xs : List Int} (h : Sg q xs) (k : Nat) : Sg q (xs.drop k) := fun n m => h n (List.mem_of_mem_drop m)
theorem cut_to {xs : List V} {k : Nat} (h : k ≤ xs.length) : cutV xs none (some (k : Int)) = xs.take k := by
  have e : HT.sIx xs.length xs.length (some (k : Int)) = k := by
    unfold HT.sIx
    simp only [show ¬ ((k : Int) < 0) by omega, if_false, Int.toNat_natCast]
    omega
  unfold cutV
  rw [e]
  show (xs.drop 0).take (k - 0) = _
  simp
theorem cut_from {xs : List V} {k : Nat} (h : k ≤ xs.length) : cutV xs (some (k : Int)) none = xs.drop k := by
  have e : HT.sIx xs.length 0 (some (k : Int)) = k := by
    unfold HT.sIx
    simp only [show ¬ ((k : Int) < 0) by omega, if_false, Int.toNat_natCast]
    omega
  unfold cutV
  rw [e]
  show (xs.drop k).take (xs.length - k) = _
  rw [List.take_of_length_le (by simp)]
/-- a pot: a list of two whole numbers -/
def Pot (H : Hp) (p : Addr) : Prop := ∃ n s : Int, H p = some (.lst [.int n, .int s]) ∧ 0 ≤ n ∧ 0 ≤ s ∧ s < 2147483647
theorem Pot.mono {H H' : Hp} {p : Addr} (e : Ex H H') (h : Pot H p) : Pot H' p := by
  obtain ⟨n, s, h1, h2⟩ := h
  exact ⟨n, s, e _ _ h1, h2⟩
/-- a comprehension of digits: the pot at p goes on, acc holds signs over q -/
def PvD (p : Addr) (q : Int) (H : Hp) : Addr → Nat → List V → Hp → Prop := fun D i acc H1 => p ≠ D ∧ ExB p H H1 ∧ Pot H1 p ∧ ∃ ns : List Int, acc = ns.map V.int ∧ ns.length = i ∧ Sg q ns
theorem Pot.exB {H1 H2 : Hp} {p a : Addr} (e : ExB a H1 H2) (n : p ≠ a) (h : Pot H1 p) : Pot H2 p := by
  obtain ⟨n3, s3, h3, b3⟩ := h
  exact ⟨n3, s3, e _ _ n h3, b3⟩
theorem Pot.lst {H : Hp} {p : Addr} (h : Pot H p) : ∃ ys, H p = some (.lst ys) := by
  obtain ⟨n3, s3, h3, b3⟩ := h
  exact ⟨_, h3⟩
theorem Pot.t {K : PySem.W.Frag} {H H' : Hp} {p a : Addr} {xs : List V} (h : Pot H p) (e : ExB p H H') (q : SqT K H a xs) : SqT K H' a xs := by
  obtain ⟨ys, hy⟩ := h.lst
  exact exB_t e hy q
theorem Wd.pot {K : PySem.W.Frag} {H H' : Hp} {p : Addr} {q : Int} {v : V} {ns : List Int} (hp : Pot H p) (e : ExB p H H') (h : Wd K H q v ns) : Wd K H' q v ns := by
  obtain ⟨a, e1, h1, h2⟩ := h
  exact ⟨a, e1, hp.t e h1, h2⟩
/-- whole numbers as data -/
theorem dp_ints {K : PySem.W.Frag} {H : Hp} : ∀ ns : List Int, DpAll K H (ns.map V.int) (ns.map PyData.int)
  | [] => .nil
  | n :: ns => .cons (.int n) (dp_ints ns)
theorem lay_ints : ∀ ns : List Int, PyData.canLayAll0 (ns.map PyData.int) = true
  | [] => rfl
  | n :: ns => by
    show (PyData.canLay0 (.int n) && PyData.canLayAll0 (ns.map PyData.int)) = true
    rw [lay_ints ns]; rfl
theorem depth_ints : ∀ ns : List Int, PyData.depthAll (ns.map PyData.int) = 0
  | [] => rfl
  | n :: ns => by
    show max (PyData.depth (.int n)) (PyData.depthAll (ns.map PyData.int)) = 0
    rw [depth_ints ns]; rfl
theorem layT_ints (ns : List Int) : PyData.canLay0 (.tuple (ns.map PyData.int)) = true := by
  show PyData.canLayAll0 (ns.map PyData.int) = true
  exact lay_ints ns
theorem shaped_ints (ns : List Int) : SeqAt.shaped (.tuple (ns.map PyData.int)) = true := by
  show (PyData.canLay0 (.tuple (ns.map PyData.int)) && decide (PyData.depthAll (ns.map PyData.int) + 1 ≤ 64)) = true
  rw [depth_ints, layT_ints]; rfl
theorem eqv_ints : ∀ xs ys : List Int, PyData.eqvAll (xs.map PyData.int) (ys.map PyData.int) = decide (xs = ys)
  | [], [] => by simp [PyData.eqvAll]
  | [], y :: ys => by simp [PyData.eqvAll]
  | x :: xs, [] => by simp [PyData.eqvAll]
  | x :: xs, y :: ys => by
    show (PyData.eqv (.int x) (.int y) && PyData.eqvAll (xs.map PyData.int) (ys.map PyData.int)) = _
    rw [eqv_ints xs ys]
    show ((x == y) && decide (xs = ys)) = decide (x :: xs = y :: ys)
    by_cases h1 : x = y <;> by_cases h2 : xs = ys <;> simp [h1, h2]
theorem eqvT_ints (xs ys : List Int) : PyData.eqv (.tuple (xs.map PyData.int)) (.tuple (ys.map PyData.int)) = decide (xs = ys) := by
  show PyData.eqvAll (xs.map PyData.int) (ys.map PyData.int) = _
  exact eqv_ints xs ys
theorem Sg.nil {q : Int} : Sg q [] := fun n m => by cases m
theorem at_int {ns : List Int} {i : Nat} {z : V} (h : (ns.map V.int)[i]? = some z) : i < ns.length ∧ z = .int (ns.getD i 0) := by
  rw [List.getElem?_map] at h
  cases e : ns[i]? with
  | none => rw [e] at h; cases h
  | some y =>
    rw [e] at h
    have hi := (List.getElem?_eq_some_iff.mp e).1
    exact ⟨hi, by rw [← Option.some.inj h]; simp [List.getD, e]⟩
theorem cut_ints (ns : List Int) (lo hi : Option Int) : ∃ ms : List Int, cutV (ns.map V.int) lo hi = ms.map V.int ∧ ms.length ≤ ns.length ∧ ∀ m ∈ ms, m ∈ ns := by
  refine ⟨(ns.drop (HT.sIx (ns.map V.int).length 0 lo)).take (HT.sIx (ns.map V.int).length (ns.map V.int).length hi - HT.sIx (ns.map V.int).length 0 lo), ?_, ?_, ?_⟩
  · unfold cutV
    rw [List.map_take, List.map_drop]
  · rw [List.length_take, List.length_drop]; omega
  · intro m hm
    exact List.mem_of_mem_drop (List.mem_of_mem_take hm)
/-- all of xs are words over q -/
def Ws (K : PySem.W.Frag) (H : Hp) (q : Int) (xs : List V) : Prop := ∀ x ∈ xs, ∃ ns, Wd K H q x ns
theorem Ws.mono {K : PySem.W.Frag} {H H' : Hp} {q : Int} {xs : List V} (e : Ex H H') (h : Ws K H q xs) : Ws K H' q xs := fun x m => by
  obtain ⟨ns, w⟩ := h x m
  exact ⟨ns, w.mono e⟩
theorem Ws.exB {K : PySem.W.Frag} {H H' : Hp} {q : Int} {xs : List V} {p : Addr} {ys : List V} (e : ExB p H H') (hp : H p = some (.lst ys)) (h : Ws K H q xs) : Ws K H' q xs := fun x m => by
  obtain ⟨ns, a, e1, h1, h2⟩ := h x m
  exact ⟨ns, a, e1, exB_t e hp h1, h2⟩
theorem Ws.nil {K : PySem.W.Frag} {H : Hp} {q : Int} : Ws K H q [] := fun _ m => by cases m
theorem Ws.cons {K : PySem.W.Frag} {H : Hp} {q : Int} {x : V} {xs : List V} {ns : List Int} (w : Wd K H q x ns) (h : Ws K H q xs) : Ws K H q (x :: xs) := fun y m => by
  rcases List.mem_cons.mp m with rfl | m
  · exact ⟨ns, w⟩
  · exact h y m
theorem Ws.append {K : PySem.W.Frag} {H : Hp} {q : Int} {xs ys : List V} (h : Ws K H q xs) (h2 : Ws K H q ys) : Ws K H q (xs ++ ys) := fun x m => (List.mem_append.mp m).elim (h x) (h2 x)
/-- a comprehension of words drawn by the pot at p -/
def PvW (K : PySem.W.Frag) (p : Addr) (q : Int) (H : Hp) : Addr → Nat → List V → Hp → Prop := fun D i acc H1 => p ≠ D ∧ ExB p H H1 ∧ Pot H1 p ∧ Ws K H1 q acc ∧ acc.length = i
/-! weighted sums -/
def wsum (ns : List Int) : Int := ((List.range ns.length).map fun (i : Nat) => ((i : Int) + 1) * ns.getD i 0).sum
theorem wsum_nil : wsum [] = 0 := rfl
theorem wsum_snoc (xs : List Int) (x : Int) : wsum (xs ++ [x]) = wsum xs + ((xs.length : Int) + 1) * x := by
  unfold wsum
  rw [List.length_append, List.length_singleton, List.range_succ, List.map_append, List.sum_append]
  have h1 : (List.range xs.length).map (fun (i : Nat) => ((i : Int) + 1) * (xs ++ [x]).getD i 0) = (List.range xs.length).map (fun (i : Nat) => ((i : Int) + 1) * xs.getD i 0) := by
    refine List.map_congr_left fun i hi => ?_
    have := List.mem_range.mp hi
    simp [List.getD, List.getElem?_append_left this]
  rw [h1]
  simp [List.getD]
theorem snoc_ind {α : Type} {P : List α → Prop} (h0 : P []) (h1 : ∀ xs x, P xs → P (xs ++ [x])) (xs : List α) : P xs := by
  rw [← List.reverse_reverse xs]
  induction xs.reverse with
  | nil => exact h0
  | cons x t ih => rw [List.reverse_cons]; exact h1 _ _ ih
theorem wsum_append (xs ys : List Int) : wsum (xs ++ ys) = wsum xs + wsum ys + (xs.length : Int) * ys.sum := by
  refine snoc_ind (P := fun ys => wsum (xs ++ ys) = wsum xs + wsum ys + (xs.length : Int) * ys.sum) (by simp [wsum_nil]) (fun ys y ih => ?_) ys
  rw [← List.append_assoc, wsum_snoc, ih, wsum_snoc, List.sum_append, List.length_append]
  simp [Int.mul_add, Int.add_mul]
  omega
theorem wsum_zeros : ∀ k : Nat, wsum (List.replicate k 0) = 0
  | 0 => rfl
  | k + 1 => by rw [List.replicate_succ', wsum_snoc, wsum_zeros k]; simp
/-- a comprehension of whole numbers f i, by the turn -/
def PvI (H : Hp) (f : Nat → Int) : Addr → Nat → List V → Hp → Prop := fun _ i acc H1 => Ex H H1 ∧ acc = ((List.range i).map f).map V.int
/-- the shape of a word -/
def shp (ns : List Int) : List Int := (List.range (ns.length - 1)).map fun (i : Nat) => if ns.getD i 0 ≤ ns.getD (i + 1) 0 then 1 else 0
theorem shp_len (ns : List Int) : (shp ns).length = ns.length - 1 := by unfold shp; simp
theorem shp_sg (ns : List Int) : ∀ n ∈ shp ns, 0 ≤ n ∧ n < 2 := fun n h => by
  obtain ⟨i, _, rfl⟩ := List.mem_map.mp h
  split <;> omega
/-- a many list's object -/
def ML (K : PySem.W.Frag) (H : Hp) (v : V) (q n a b : Int) : Prop := ∃ t, Ins K H v "ManyList" [("many_signs", .int q), ("many", .int n), ("both_left", .ref t)] ∧ SqT K H t [.int a, .int b]
theorem ML.mono {K : PySem.W.Frag} {H H' : Hp} {v : V} {q n a b : Int} (e : Ex H H') (h : ML K H v q n a b) : ML K H' v q n a b := by
  obtain ⟨t, h1, h2⟩ := h
  exact ⟨t, h1.mono e, Evl.ex_t e h2⟩
theorem ML.exB {K : PySem.W.Frag} {H H' : Hp} {v : V} {q n a b : Int} {p : Addr} {ys : List V} (e : ExB p H H') (hp : H p = some (.lst ys)) (h : ML K H v q n a b) : ML K H' v q n a b := by
  obtain ⟨t, h1, h2⟩ := h
  exact ⟨t, h1.exB e hp, exB_t e hp h2⟩
/-- a word's belonging to the many list -/
def inML (q n a b : Int) (w : List Int) : Bool := decide ((w.length : Int) = n) && decide ([wsum (shp w) % n, w.sum % q] = [a, b])
/-- a plain list's object -/
def PL (K : PySem.W.Frag) (H : Hp) (v : V) (n a : Int) : Prop := Ins K H v "PlainList" [("many", .int n), ("left", .int a)]
/-! lists of words -/
/-- x is a tuple of these whole numbers -/
def Wt (K : PySem.W.Frag) (H : Hp) (x : V) (w : List Int) : Prop := ∃ b, x = .ref b ∧ SqT K H b (w.map V.int)
theorem Wt.mono {K : PySem.W.Frag} {H H' : Hp} {x : V} {w : List Int} (e : Ex H H') (h : Wt K H x w) : Wt K H' x w := by
  obtain ⟨b, e1, h1⟩ := h
  exact ⟨b, e1, Evl.ex_t e h1⟩
theorem Wt.exB {K : PySem.W.Frag} {H H' : Hp} {x : V} {w : List Int} {p : Addr} {ys : List V} (e : ExB p H H') (hp : H p = some (.lst ys)) (h : Wt K H x w) : Wt K H' x w := by
  obtain ⟨b, e1, h1⟩ := h
  exact ⟨b, e1, exB_t e hp h1⟩
abbrev Wts (K : PySem.W.Frag) (H : Hp) : List V → List (List Int) → Prop := Paired (Wt K H)
theorem Wts.mono {K : PySem.W.Frag} {H H' : Hp} {xs : List V} {ws : List (List Int)} (e : Ex H H') (h : Wts K H xs ws) : Wts K H' xs ws := Paired.mapP h fun _ _ w => Wt.mono e w
theorem Wts.exB {K : PySem.W.Frag} {H H' : Hp} {xs : List V} {ws : List (List Int)} {p : Addr} {ys : List V} (e : ExB p H H') (hp : H p = some (.lst ys)) (h : Wts K H xs ws) : Wts K H' xs ws := Paired.mapP h fun _ _ w => Wt.exB e hp w
theorem pd_app {α β : Type} {F : α → β → Prop} : ∀ {xs xs' : List α} {ys ys' : List β}, Paired F xs ys → Paired F xs' ys' → Paired F (xs ++ xs') (ys ++ ys')
  | _, _, _, _, .nil, s => s
  | _, _, _, _, .cons r t, s => .cons r (pd_app t s)
theorem pd_at {α β : Type} {F : α → β → Prop} : ∀ {xs : List α} {ys : List β} {i : Nat} {x : α}, Paired F xs ys → xs[i]? = some x → ∃ y, ys[i]? = some y ∧ F x y
  | _, _, _, _, .nil, e => by simp at e
  | _, _, 0, _, .cons r _, e => by simp at e; subst e; exact ⟨_, rfl, r⟩
  | _, _, i + 1, x, .cons _ t, e => by
    obtain ⟨u, h1, h2⟩ := pd_at (i := i) (x := x) t (by simpa using e)
    exact ⟨u, by simpa using h1, h2⟩
theorem pd_at2 {α β : Type} {F : α → β → Prop} : ∀ {xs : List α} {ys : List β} {i : Nat} {y : β}, Paired F xs ys → ys[i]? = some y → ∃ x, xs[i]? = some x ∧ F x y
  | _, _, _, _, .nil, e => by simp at e
  | _, _, 0, _, .cons r _, e => by simp at e; subst e; exact ⟨_, rfl, r⟩
  | _, _, i + 1, x, .cons _ t, e => by
    obtain ⟨u, h1, h2⟩ := pd_at2 (i := i) (y := x) t (by simpa using e)
    exact ⟨u, by simpa using h1, h2⟩
theorem take_at {α : Type} {l : List α} {i : Nat} {x : α} (h : l[i]? = some x) : l.take (i + 1) = l.take i ++ [x] := by rw [List.take_succ, h]; rfl
/-- a word as data -/
def wD (w : List Int) : PyData := .tuple (w.map PyData.int)
theorem dp_words {K : PySem.W.Frag} {H : Hp} : ∀ {xs : List V} {ws : List (List Int)}, Wts K H xs ws → DpAll K H xs (ws.map wD)
  | _, _, .nil => .nil
  | _, _, .cons ⟨b, e, h⟩ t => by
    subst e
    exact .cons (.tup h (dp_ints _)) (dp_words t)
theorem lay_words : ∀ ws : List (List Int), PyData.canLayAll0 (ws.map wD) = true
  | [] => rfl
  | w :: ws => by
    show (PyData.canLay0 (wD w) && PyData.canLayAll0 (ws.map wD)) = true
    rw [lay_words ws, show PyData.canLay0 (wD w) = true from layT_ints w]; rfl
theorem depth_words : ∀ ws : List (List Int), PyData.depthAll (ws.map wD) ≤ 1
  | [] => by decide
  | w :: ws => by
    show max (PyData.depthAll (w.map PyData.int) + 1) (PyData.depthAll (ws.map wD)) ≤ 1
    have := depth_words ws
    rw [depth_ints]; omega
theorem shaped_words (ws : List (List Int)) : SeqAt.shaped (.list (ws.map wD)) = true := by
  show (PyData.canLayAll0 (ws.map wD) && decide (PyData.depthAll (ws.map wD) + 1 ≤ 64)) = true
  have := depth_words ws
  rw [lay_words, Bool.true_and]; exact decide_eq_true (by omega)
theorem eqv_words : ∀ xs ys : List (List Int), PyData.eqvAll (xs.map wD) (ys.map wD) = decide (xs = ys)
  | [], [] => by simp [PyData.eqvAll]
  | [], y :: ys => by simp [PyData.eqvAll]
  | x :: xs, [] => by simp [PyData.eqvAll]
  | x :: xs, y :: ys => by
    show (PyData.eqv (wD x) (wD y) && PyData.eqvAll (xs.map wD) (ys.map wD)) = _
    rw [eqv_words xs ys, show PyData.eqv (wD x) (wD y) = decide (x = y) from eqvT_ints x y]
    by_cases h1 : x = y <;> by_cases h2 : xs = ys <;> simp [h1, h2]
theorem eqvL_words (xs ys : List (List Int)) : PyData.eqv (.list (xs.map wD)) (.list (ys.map wD)) = decide (xs = ys) := by
  show PyData.eqvAll (xs.map wD) (ys.map wD) = _
  exact eqv_words xs ys
/-- all words of n signs over q -/
def allW (q : Nat) : Nat → List (List Int)
  | 0 => [[]]
  | n + 1 => (allW q n).flatMap fun w => (List.range q).map fun (s : Nat) => w ++ [((s : Nat) : Int)]
theorem fm_len {α β : Type} {f : α → List β} {m : Nat} : ∀ {l : List α}, (∀ a ∈ l, (f a).length = m) → (l.flatMap f).length = l.length * m
  | [], _ => by simp
  | a :: l, h => by
    rw [List.flatMap_cons, List.length_append, h a (by simp), fm_len fun b hb => h b (by simp [hb]), List.length_cons, Nat.succ_mul, Nat.add_comm]
theorem allW_len (q : Nat) : ∀ n, (allW q n).length = q ^ n
  | 0 => rfl
  | n + 1 => by
    show ((allW q n).flatMap fun w => (List.range q).map fun (s : Nat) => w ++ [((s : Nat) : Int)]).length = _
    rw [fm_len (m := q) fun a _ => by simp, allW_len q n, Nat.pow_succ]
theorem allW_mem {q : Nat} : ∀ {n : Nat} {w : List Int}, w ∈ allW q n ↔ w.length = n ∧ Sg q w
  | 0, w => by
    constructor
    · intro h
      rw [show w = [] from List.mem_singleton.mp h]
      exact ⟨rfl, Sg.nil⟩
    · rintro ⟨h, _⟩
      rw [List.eq_nil_of_length_eq_zero h]
      exact List.mem_singleton.mpr rfl
  | n + 1, w => by
    show w ∈ (allW q n).flatMap _ ↔ _
    rw [List.mem_flatMap]
    constructor
    · rintro ⟨u, hu, hw⟩
      obtain ⟨s, hs, rfl⟩ := List.mem_map.mp hw
      obtain ⟨h1, h2⟩ := allW_mem.mp hu
      have := List.mem_range.mp hs
      exact ⟨by simp [h1], h2.append fun z hz => by rw [List.mem_singleton] at hz; omega⟩
    · rintro ⟨h1, h2⟩
      have hne : w ≠ [] := fun e => by rw [e] at h1; simp at h1
      refine ⟨w.dropLast, allW_mem.mpr ⟨by simp [h1], fun z hz => h2 z ((List.dropLast_sublist w).subset hz)⟩, ?_⟩
      have hl := h2 _ (List.getLast_mem hne)
      refine List.mem_map.mpr ⟨(w.getLast hne).toNat, List.mem_range.mpr (by omega), ?_⟩
      rw [show (((w.getLast hne).toNat : Nat) : Int) = w.getLast hne by omega]
      exact List.dropLast_concat_getLast hne
/-- a word's belonging to the plain list of n, a -/
def inPL (n a : Int) (w : List Int) : Bool := decide ((w.length : Int) = n) && decide (wsum w % (n + 1) = a)
/-- a comprehension over a list of words with a test, each that meets it as it is -/
def PvF (K : PySem.W.Frag) (H : Hp) (p : List Int → Bool) (ws : List (List Int)) : Addr → Nat → List V → Hp → Prop := fun _ i acc H1 => Ex H H1 ∧ Wts K H1 acc ((ws.take i).filter p)
theorem l_lcW {K : PySem.W.Frag} {σ : L2.St} {H : Hp} {Q : VK} {tt : TT} {a : Addr} {xs : List V} {ws : List (List Int)} {j : Nat} {vs : List Nat} (p : List Int → Bool) (h : SqL K H a xs) (hW : Wts K H xs ws) (hz : xs.length < 100000) (hw : ∀ x, wipe ((wipe σ vs).set j (some x)) vs = wipe σ vs)
    (hv : ∀ x, ((wipe σ vs).set j (some x))[j]? = some (some x))
    (ht : ∀ x w H1, w ∈ ws → Wt K H1 x w → Ex H H1 → ∀ Q' : Bool → Hp → Prop, (∀ H2, Ex H1 H2 → Q' (p w) H2) → tt ((wipe σ vs).set j (some x)) H1 Q')
    (hd : ∀ D H1 acc, H D = none → Ex H H1 → H1 D = some (.lst acc) → Wts K H1 acc (ws.filter p) → Q (.ref D) H1) : LcK (gName j) tt (tVar j) vs (Itl K a) σ H Q := by
  refine l_lc walk_list (PvF K H p ws) (fun D H1 n e h1 => ⟨e, .nil⟩) (fun D i acc H1 _ _ p => Evl.ex_l p.1 h) (fun D i acc x H1 H2 hn hi h1 q y => ?_) (fun D acc H1 hn h1 q => ?_)
  · obtain ⟨rfl, hx⟩ := y
    obtain ⟨e, hq⟩ := q
    obtain ⟨w, hw2, hwt⟩ := pd_at hW hx
    refine ⟨hw x, ?_⟩
    refine ht x w _ (List.mem_of_getElem? hw2) (hwt.mono e) e _ fun H3 e3 => ?_
    refine ifb (fun c => ?_) (fun c => ?_)
    · refine w_var (hv x) ?_
      refine lc_end (Pv := PvF K H p ws) (e3 _ _ h1) (by
        have := Paired.length hq
        have h2 : ((ws.take i).filter p).length ≤ (ws.take i).length := List.length_filter_le ..
        rw [List.length_take] at h2
        omega) fun H6 e6 h6 => ⟨ExB.new (e.trans e3) e6 hn, ?_⟩
      rw [take_at hw2, List.filter_append, List.filter_cons, c]
      exact Wts.exB e6 (e3 _ _ h1) (pd_app (Wts.mono e3 hq) (.cons (hwt.mono (e.trans e3)) .nil))
    · refine lc_not (Pv := PvF K H p ws) (e3 _ _ h1) ⟨e.trans e3, ?_⟩
      rw [take_at hw2, List.filter_append, List.filter_cons, c]
      simpa using Wts.mono e3 hq
  · obtain ⟨e, hq⟩ := q
    rw [Paired.length hW, List.take_length] at hq
    exact hd D H1 acc hn e h1 hq
/-! rows of counts: j places (the last ones) to go, each sum's rest by `by` -/
def Dn (m n : Nat) : Nat → Int → Int
  | 0, r => if r = 0 then 1 else 0
  | j + 1, r => Dn m n j r + Dn m n j ((r - ((n - j : Nat) : Int)) % (m : Int))
def drow (m n j : Nat) : List Int := (List.range m).map fun (r : Nat) => Dn m n j (r : Int)
theorem drow_len (m n j : Nat) : (drow m n j).length = m := by unfold drow; simp
theorem drow_at {m n j : Nat} {r : Int} (h0 : 0 ≤ r) (h1 : r < m) : atI ((drow m n j).map V.int) r = some (.int (Dn m n j r)) := by
  rw [show r = ((r.toNat : Nat) : Int) by omega]
  refine atI_nat ?_
  unfold drow
  rw [List.getElem?_map, List.getElem?_map, List.getElem?_range (by omega)]
  rfl
/-- a list of rows at f, k by k: lists that H0 does not know -/
def Rows (H0 H : Hp) (f : Addr) (m n : Nat) (js : List Nat) (xs : List V) : Prop := Paired (fun x j => ∃ b, x = V.ref b ∧ b ≠ f ∧ H0 b = none ∧ H b = some (.lst ((drow m n j).map V.int))) xs js
theorem Rows.mono {H0 H H' : Hp} {f : Addr} {m n : Nat} {js : List Nat} {xs : List V} (e : Ex H H') (h : Rows H0 H f m n js xs) : Rows H0 H' f m n js xs := Paired.mapP h fun _ _ ⟨b, e1, n1, n2, h1⟩ => ⟨b, e1, n1, n2, e _ _ h1⟩
theorem Rows.exB {H0 H H' : Hp} {f : Addr} {m n : Nat} {js : List Nat} {xs : List V} (e : ExB f H H') (h : Rows H0 H f m n js xs) : Rows H0 H' f m n js xs := Paired.mapP h fun _ _ ⟨b, e1, n1, n2, h1⟩ => ⟨b, e1, n1, n2, e _ _ n1 h1⟩
theorem pd_rev {α β : Type} {F : α → β → Prop} : ∀ {xs : List α} {ys : List β}, Paired F xs ys → Paired F xs.reverse ys.reverse
  | _, _, .nil => .nil
  | _, _, .cons r t => by
    rw [List.reverse_cons, List.reverse_cons]
    exact pd_app (pd_rev t) (.cons r .nil)
theorem row0 (m n : Nat) (hm : 1 ≤ m) : [V.int 1] ++ (List.replicate (m - 1) [V.int 0]).flatten = (drow m n 0).map V.int := by
  obtain ⟨k, rfl⟩ : ∃ k, m = k + 1 := ⟨m - 1, by omega⟩
  unfold drow
  rw [List.range_succ_eq_map, List.flatten_replicate_singleton]
  simp only [List.map_cons, List.map_map, List.cons_append, List.nil_append, Nat.add_sub_cancel]
  show V.int 1 :: _ = V.int 1 :: _
  congr 1
  refine (List.eq_replicate_iff.mpr ⟨by simp, fun b hb => ?_⟩).symm
  obtain ⟨i, _, rfl⟩ := List.mem_map.mp hb
  have : ((i + 1 : Nat) : Int) ≠ 0 := by omega
  simp only [Function.comp]
  show V.int (if (((i + 1 : Nat)) : Int) = 0 then 1 else 0) = V.int 0
  rw [if_neg this]
/-! the same counts, the places in another order -/
def Tp (m : Nat) (p : Int) (f : Int → Int) : Int → Int := fun r => f r + f ((r - p) % (m : Int))
def Gp (m : Nat) : List Int → Int → Int
  | [] => fun r => if r = 0 then 1 else 0
  | p :: ps => Tp m p (Gp m ps)
theorem Tp_comm (m : Nat) (p q : Int) (f : Int → Int) : Tp m p (Tp m q f) = Tp m q (Tp m p f) := by
  funext r
  have e : ((r - p) % (m : Int) - q) % (m : Int) = ((r - q) % (m : Int) - p) % (m : Int) := by
    rw [Int.emod_sub_emod, Int.emod_sub_emod]
    congr 1
    omega
  unfold Tp
  show f r + f ((r - q) % m) + (f ((r - p) % m) + f (((r - p) % m - q) % m)) = f r + f ((r - p) % m) + (f ((r - q) % m) + f (((r - q) % m - p) % m))
  rw [e]
  omega
theorem Gp_perm (m : Nat) {l l' : List Int} (h : l.Perm l') : Gp m l = Gp m l' := by
  induction h with
  | nil => rfl
  | cons x _ ih => show Tp m x _ = Tp m x _; rw [ih]
  | swap x y l => exact Tp_comm m y x _
  | trans _ _ h1 h2 => exact h1.trans h2
def Fn (m : Nat) : Nat → Int → Int
  | 0, r => if r = 0 then 1 else 0
  | j + 1, r => Fn m j r + Fn m j ((r - ((j + 1 : Nat) : Int)) % (m : Int))
def frow (m j : Nat) : List Int := (List.range m).map fun (r : Nat) => Fn m j (r : Int)
theorem Fn_G (m : Nat) : ∀ j, Fn m j = Gp m (((List.range j).map fun (i : Nat) => ((i + 1 : Nat) : Int)).reverse)
  | 0 => rfl
  | j + 1 => by
    rw [List.range_succ, List.map_append, List.reverse_append]
    show Tp m ((j + 1 : Nat) : Int) (Fn m j) = Tp m ((j + 1 : Nat) : Int) _
    rw [Fn_G m j]; rfl
theorem Dn_G (m n : Nat) : ∀ j, Dn m n j = Gp m (((List.range j).map fun (i : Nat) => ((n - i : Nat) : Int)).reverse)
  | 0 => rfl
  | j + 1 => by
    rw [List.range_succ, List.map_append, List.reverse_append]
    show Tp m ((n - j : Nat) : Int) (Dn m n j) = Tp m ((n - j : Nat) : Int) _
    rw [Dn_G m n j]; rfl
theorem Dn_Fn (m n : Nat) : Dn m n n = Fn m n := by
  rw [Dn_G, Fn_G]
  refine Gp_perm m ?_
  have e : (List.range n).map (fun (i : Nat) => ((n - i : Nat) : Int)) = ((List.range n).map fun (i : Nat) => ((i + 1 : Nat) : Int)).reverse := by
    refine List.ext_getElem (by simp) fun i h1 h2 => ?_
    simp only [List.getElem_map, List.getElem_range, List.getElem_reverse, List.length_map, List.length_range]
    simp only [List.length_map, List.length_range] at h1
    omega
  rw [e]
  exact (List.reverse_perm _)
theorem drow_frow (n : Nat) : drow (n + 1) n n = frow (n + 1) n := by unfold drow frow; rw [Dn_Fn]
theorem frow_len (m j : Nat) : (frow m j).length = m := by unfold frow; simp
theorem frow_at {m j : Nat} {r : Int} (h0 : 0 ≤ r) (h1 : r < m) : atI ((frow m j).map V.int) r = some (.int (Fn m j r)) := by
  rw [show r = ((r.toNat : Nat) : Int) by omega]
  refine atI_nat ?_
  unfold frow
  rw [List.getElem?_map, List.getElem?_map, List.getElem?_range (by omega)]
  rfl
theorem frow0 (m : Nat) (hm : 1 ≤ m) : [V.int 1] ++ (List.replicate (m - 1) [V.int 0]).flatten = (frow m 0).map V.int := row0 m 0 hm
/-- how many of the words have a sum that leaves r by m -/
def cnt (m : Nat) (r : Int) (ws : List (List Int)) : Nat := ws.countP fun w => decide (wsum w % (m : Int) = r)
theorem countP_two {α β : Type} {p : β → Bool} {f g : α → β} : ∀ l : List α, (l.flatMap fun w => [f w, g w]).countP p = l.countP (fun w => p (f w)) + l.countP fun w => p (g w)
  | [] => rfl
  | a :: l => by
    rw [List.flatMap_cons, List.countP_append, countP_two l, List.countP_cons, List.countP_cons, List.countP_cons, List.countP_cons, List.countP_nil]
    omega
theorem cnt_Fn (m : Nat) (hm : 1 ≤ m) : ∀ (j : Nat) (r : Int), 0 ≤ r → r < m → ((cnt m r (allW 2 j) : Nat) : Int) = Fn m j r
  | 0, r, h0, h1 => by
    show ((([[]] : List (List Int)).countP _ : Nat) : Int) = if r = 0 then 1 else 0
    rw [List.countP_cons, List.countP_nil, wsum_nil, Int.zero_emod]
    by_cases h : r = 0
    · rw [if_pos h, h]; simp
    · rw [if_neg h, decide_eq_false (Ne.symm h)]; simp
  | j + 1, r, h0, h1 => by
    have e : allW 2 (j + 1) = (allW 2 j).flatMap fun w => [w ++ [0], w ++ [1]] := rfl
    unfold cnt
    rw [e, countP_two]
    show (((_ + _ : Nat)) : Int) = Fn m j r + Fn m j ((r - ((j + 1 : Nat) : Int)) % (m : Int))
    have q0 := Int.emod_nonneg (r - ((j + 1 : Nat) : Int)) (show (m : Int) ≠ 0 by omega)
    have q1 := Int.emod_lt_of_pos (r - ((j + 1 : Nat) : Int)) (show (0 : Int) < (m : Int) by omega)
    rw [← cnt_Fn m hm j r h0 h1, ← cnt_Fn m hm j _ q0 q1]
    have a1 : (allW 2 j).countP (fun w => decide (wsum (w ++ [0]) % (m : Int) = r)) = cnt m r (allW 2 j) := by
      unfold cnt
      refine List.countP_congr fun w _ => ?_
      rw [wsum_snoc, Int.mul_zero, Int.add_zero]
    have a2 : (allW 2 j).countP (fun w => decide (wsum (w ++ [1]) % (m : Int) = r)) = cnt m ((r - ((j + 1 : Nat) : Int)) % (m : Int)) (allW 2 j) := by
      unfold cnt
      refine List.countP_congr fun w hw => ?_
      have hl := (allW_mem.mp hw).1
      rw [wsum_snoc, Int.mul_one, hl, decide_eq_true_iff, decide_eq_true_iff]
      constructor
      · intro h
        rw [← h, Int.emod_sub_emod]
        congr 1
        omega
      · intro h
        have h' : wsum w % (m : Int) = (r - ((j + 1 : Nat) : Int)) % (m : Int) := h
        rw [← Int.emod_add_emod, h', Int.emod_add_emod]
        rw [show r - ((j + 1 : Nat) : Int) + ((j : Int) + 1) = r by omega]
        exact Int.emod_eq_of_lt h0 h1
    rw [a1, a2]
    omega
/-! members by their numbers: words from behind -/
def tsum (b : Int) (w : List Int) : Int := wsum w + b * w.sum
theorem tsum_cons (b s : Int) (w : List Int) : tsum b (s :: w) = (b + 1) * s + tsum (b + 1) w := by
  unfold tsum
  have h := wsum_append [s] w
  rw [show [s] ++ w = s :: w by rfl] at h
  have e : wsum [s] = s := by simp [wsum, List.range_succ]
  rw [h, e, List.sum_cons, Int.mul_add, Int.add_mul, Int.add_mul, Int.one_mul, Int.one_mul]
  simp
  omega
theorem tsum_nil (b : Int) : tsum b [] = 0 := by simp [tsum, wsum_nil]
theorem tsum_zero (w : List Int) : tsum 0 w = wsum w := by unfold tsum; omega
theorem modl {m : Nat} {r p t : Int} (h0 : 0 ≤ r) (h1 : r < m) : (p + t) % (m : Int) = r ↔ t % (m : Int) = (r - p) % (m : Int) := by
  constructor
  · intro h
    rw [← h, Int.emod_sub_emod]
    congr 1
    omega
  · intro h
    rw [Int.add_comm, ← Int.emod_add_emod, h, Int.emod_add_emod, show r - p + p = r by omega]
    exact Int.emod_eq_of_lt h0 h1
def memN (m n : Nat) : Nat → Int → Int → List Int
  | 0, _, _ => []
  | j + 1, r, k => if Dn m n j r ≤ k then 1 :: memN m n j ((r - ((n - j : Nat) : Int)) % (m : Int)) (k - Dn m n j r) else 0 :: memN m n j r k
def numN (m n : Nat) : List Int → Int → Int
  | [], _ => 0
  | s :: w, r => if s = 1 then Dn m n w.length r + numN m n w ((r - ((n - w.length : Nat) : Int)) % (m : Int)) else numN m n w r
theorem memN_ok (m n : Nat) (hm : 1 ≤ m) : ∀ j, j ≤ n → ∀ r k : Int, 0 ≤ r → r < m → 0 ≤ k → k < Dn m n j r → (memN m n j r k).length = j ∧ Sg 2 (memN m n j r k) ∧ tsum ((n - j : Nat) : Int) (memN m n j r k) % (m : Int) = r ∧ numN m n (memN m n j r k) r = k
  | 0, _, r, k, h0, h1, k0, k1 => by
    have k1' : k < if r = 0 then 1 else 0 := k1
    by_cases hr : r = 0
    · rw [if_pos hr] at k1'
      have : k = 0 := by omega
      subst this
      refine ⟨rfl, Sg.nil, ?_, rfl⟩
      show tsum _ [] % _ = _
      rw [tsum_nil, hr]; simp
    · rw [if_neg hr] at k1'; omega
  | j + 1, hj, r, k, h0, h1, k0, k1 => by
    have k1' : k < Dn m n j r + Dn m n j ((r - ((n - j : Nat) : Int)) % (m : Int)) := k1
    have q0 := Int.emod_nonneg (r - ((n - j : Nat) : Int)) (show (m : Int) ≠ 0 by omega)
    have q1 := Int.emod_lt_of_pos (r - ((n - j : Nat) : Int)) (show (0 : Int) < (m : Int) by omega)
    have en : (((n - (j + 1) : Nat)) : Int) + 1 = ((n - j : Nat) : Int) := by omega
    by_cases c : Dn m n j r ≤ k
    · obtain ⟨a1, a2, a3, a4⟩ := memN_ok m n hm j (by omega) _ (k - Dn m n j r) q0 q1 (by omega) (by omega)
      have e : memN m n (j + 1) r k = 1 :: memN m n j ((r - ((n - j : Nat) : Int)) % (m : Int)) (k - Dn m n j r) := if_pos c
      rw [e]
      refine ⟨by rw [List.length_cons, a1], fun x hx => ?_, ?_, ?_⟩
      · rcases List.mem_cons.mp hx with rfl | hx
        · omega
        · exact a2 x hx
      · rw [tsum_cons, en, Int.mul_one]
        exact (modl h0 h1).mpr a3
      · show (if (1 : Int) = 1 then _ else _) = _
        rw [if_pos rfl, a1, a4]; omega
    · obtain ⟨a1, a2, a3, a4⟩ := memN_ok m n hm j (by omega) r k h0 h1 k0 (by omega)
      have e : memN m n (j + 1) r k = 0 :: memN m n j r k := if_neg c
      rw [e]
      refine ⟨by rw [List.length_cons, a1], fun x hx => ?_, ?_, ?_⟩
      · rcases List.mem_cons.mp hx with rfl | hx
        · omega
        · exact a2 x hx
      · rw [tsum_cons, en, Int.mul_zero, Int.zero_add]
        exact a3
      · show (if (0 : Int) = 1 then _ else _) = _
        rw [if_neg (by decide), a4]
theorem Dn_nonneg (m n : Nat) : ∀ j r, 0 ≤ Dn m n j r
  | 0, r => by show 0 ≤ (if r = 0 then (1 : Int) else 0); split <;> decide
  | j + 1, r => Int.add_nonneg (Dn_nonneg m n j r) (Dn_nonneg m n j _)
theorem numN_ok (m n : Nat) (hm : 1 ≤ m) : ∀ w : List Int, w.length ≤ n → Sg 2 w → ∀ r : Int, 0 ≤ r → r < m → tsum ((n - w.length : Nat) : Int) w % (m : Int) = r → 0 ≤ numN m n w r ∧ numN m n w r < Dn m n w.length r ∧ memN m n w.length r (numN m n w r) = w
  | [], _, _, r, h0, h1, ht => by
    rw [tsum_nil] at ht
    have hr : r = 0 := by rw [← ht]; simp
    subst hr
    exact ⟨Int.le_refl _, by show (0 : Int) < (if (0 : Int) = 0 then 1 else 0); decide, rfl⟩
  | s :: w, hl, hs, r, h0, h1, ht => by
    rw [List.length_cons] at hl
    have en : (((n - (w.length + 1) : Nat)) : Int) + 1 = ((n - w.length : Nat) : Int) := by omega
    rw [List.length_cons, tsum_cons, en] at ht
    have q0 := Int.emod_nonneg (r - ((n - w.length : Nat) : Int)) (show (m : Int) ≠ 0 by omega)
    have q1 := Int.emod_lt_of_pos (r - ((n - w.length : Nat) : Int)) (show (0 : Int) < (m : Int) by omega)
    have hs0 := hs s (by simp)
    have hs1 : Sg 2 w := fun x hx => hs x (by simp [hx])
    have eD : Dn m n (w.length + 1) r = Dn m n w.length r + Dn m n w.length ((r - ((n - w.length : Nat) : Int)) % (m : Int)) := rfl
    by_cases c : s = 1
    · subst c
      rw [Int.mul_one] at ht
      obtain ⟨a1, a2, a3⟩ := numN_ok m n hm w (by omega) hs1 _ q0 q1 ((modl h0 h1).mp ht)
      have e : numN m n (1 :: w) r = Dn m n w.length r + numN m n w ((r - ((n - w.length : Nat) : Int)) % (m : Int)) := if_pos rfl
      rw [e, List.length_cons, eD]
      have d0 := Dn_nonneg m n w.length r
      refine ⟨by omega, by omega, ?_⟩
      have e2 : memN m n (w.length + 1) r (Dn m n w.length r + numN m n w ((r - ((n - w.length : Nat) : Int)) % (m : Int))) = 1 :: memN m n w.length ((r - ((n - w.length : Nat) : Int)) % (m : Int)) (Dn m n w.length r + numN m n w ((r - ((n - w.length : Nat) : Int)) % (m : Int)) - Dn m n w.length r) := if_pos (by omega)
      rw [e2, show ∀ x y : Int, x + y - x = y from fun x y => by omega, a3]
    · have c0 : s = 0 := by omega
      subst c0
      rw [Int.mul_zero, Int.zero_add] at ht
      obtain ⟨a1, a2, a3⟩ := numN_ok m n hm w (by omega) hs1 r h0 h1 ht
      have e : numN m n (0 :: w) r = numN m n w r := if_neg (by decide)
      rw [e, List.length_cons, eD]
      have d0 := Dn_nonneg m n w.length ((r - ((n - w.length : Nat) : Int)) % (m : Int))
      refine ⟨a1, by omega, ?_⟩
      have e2 : memN m n (w.length + 1) r (numN m n w r) = 0 :: memN m n w.length r (numN m n w r) := if_neg (by omega)
      rw [e2, a3]
/-- the same for whole words -/
theorem memN_all (n : Nat) (r k : Int) (h0 : 0 ≤ r) (h1 : r ≤ n) (k0 : 0 ≤ k) (k1 : k < Dn (n + 1) n n r) : (memN (n + 1) n n r k).length = n ∧ Sg 2 (memN (n + 1) n n r k) ∧ wsum (memN (n + 1) n n r k) % ((n : Int) + 1) = r ∧ numN (n + 1) n (memN (n + 1) n n r k) r = k := by
  obtain ⟨a1, a2, a3, a4⟩ := memN_ok (n + 1) n (by omega) n (Nat.le_refl _) r k h0 (by omega) k0 k1
  rw [Nat.sub_self, show (((0 : Nat)) : Int) = 0 by rfl, tsum_zero] at a3
  exact ⟨a1, a2, a3, a4⟩
theorem numN_all (n : Nat) (w : List Int) (r : Int) (h0 : 0 ≤ r) (h1 : r ≤ n) (hl : w.length = n) (hs : Sg 2 w) (hw : wsum w % ((n : Int) + 1) = r) : 0 ≤ numN (n + 1) n w r ∧ numN (n + 1) n w r < Dn (n + 1) n n r ∧ memN (n + 1) n n r (numN (n + 1) n w r) = w := by
  subst hl
  refine numN_ok (w.length + 1) w.length (by omega) w (Nat.le_refl _) hs r h0 (by omega) ?_
  rw [Nat.sub_self, show (((0 : Nat)) : Int) = 0 by rfl, tsum_zero]
  exact hw
theorem some_word (n : Nat) (a : Int) (h : 0 ≤ a ∧ a ≤ n) : ∃ w : List Int, w.length = n ∧ Sg 2 w ∧ wsum w = a := by
  have z : ∀ k : Nat, Sg 2 (List.replicate k (0 : Int)) := fun k x hx => by rw [(List.mem_replicate.mp hx).2]; omega
  by_cases ha : a = 0
  · exact ⟨List.replicate n 0, by simp, z n, by rw [wsum_zeros, ha]⟩
  · refine ⟨List.replicate (a.toNat - 1) 0 ++ [1] ++ List.replicate (n - a.toNat) 0, by simp; omega, ((z _).append fun x hx => by rw [List.mem_singleton] at hx; omega).append (z _), ?_⟩
    rw [wsum_append, wsum_append, wsum_zeros, wsum_zeros]
    have : wsum [1] = 1 := by decide
    rw [this]
    simp
    omega
theorem Dn_pos (n : Nat) (a : Int) (h : 0 ≤ a ∧ a ≤ n) : 0 < Dn (n + 1) n n a := by
  obtain ⟨w, h1, h2, h3⟩ := some_word n a h
  have := numN_all n w a h.1 h.2 h1 h2 (by rw [h3]; exact Int.emod_eq_of_lt h.1 (by omega))
  omega
/-! the words in their order -/
def twW : Nat → List (List Int)
  | 0 => [[]]
  | j + 1 => (twW j).map (0 :: ·) ++ (twW j).map (1 :: ·)
theorem twW_snoc : ∀ j, ((twW j).flatMap fun w => [w ++ [0], w ++ [1]]) = twW (j + 1)
  | 0 => rfl
  | j + 1 => by
    have h := twW_snoc j
    have e : ∀ s : Int, (((twW j).map (s :: ·)).flatMap fun w => [w ++ [0], w ++ [1]]) = (twW (j + 1)).map (s :: ·) := fun s => by
      rw [← h, List.flatMap_map, List.map_flatMap]
      rfl
    show ((((twW j).map (0 :: ·)) ++ ((twW j).map (1 :: ·))).flatMap _) = (twW (j + 1)).map (0 :: ·) ++ (twW (j + 1)).map (1 :: ·)
    rw [List.flatMap_append, e 0, e 1]
theorem allW_tw : ∀ n, allW 2 n = twW n
  | 0 => rfl
  | n + 1 => by
    rw [← twW_snoc n, ← allW_tw n]
    rfl
def mwW (m n j : Nat) (r : Int) : List (List Int) := (twW j).filter fun w => decide (tsum ((n - j : Nat) : Int) w % (m : Int) = r)
theorem mwW_succ (m n j : Nat) (hj : j < n) (r : Int) (h0 : 0 ≤ r) (h1 : r < m) : mwW m n (j + 1) r = (mwW m n j r).map (0 :: ·) ++ (mwW m n j ((r - ((n - j : Nat) : Int)) % (m : Int))).map (1 :: ·) := by
  have en : (((n - (j + 1) : Nat)) : Int) + 1 = ((n - j : Nat) : Int) := by omega
  unfold mwW
  show (((twW j).map (0 :: ·)) ++ ((twW j).map (1 :: ·))).filter _ = _
  rw [List.filter_append, List.filter_map, List.filter_map]
  congr 2
  · refine List.filter_congr fun w _ => ?_
    show decide (tsum _ (0 :: w) % _ = _) = _
    rw [tsum_cons, en, Int.mul_zero, Int.zero_add]
  · refine List.filter_congr fun w _ => ?_
    show decide (tsum _ (1 :: w) % _ = _) = _
    rw [tsum_cons, en, Int.mul_one, decide_eq_decide]
    exact modl h0 h1
theorem mwW_len (m n : Nat) (hm : 1 ≤ m) : ∀ j, j ≤ n → ∀ r : Int, 0 ≤ r → r < m → ((mwW m n j r).length : Int) = Dn m n j r
  | 0, _, r, h0, h1 => by
    show ((([[]] : List (List Int)).filter _).length : Int) = if r = 0 then 1 else 0
    rw [List.filter_cons, tsum_nil, Int.zero_emod, List.filter_nil]
    by_cases hr : r = 0
    · rw [if_pos hr, hr]; simp
    · rw [if_neg hr, decide_eq_false (Ne.symm hr)]; simp
  | j + 1, hj, r, h0, h1 => by
    have q0 := Int.emod_nonneg (r - ((n - j : Nat) : Int)) (show (m : Int) ≠ 0 by omega)
    have q1 := Int.emod_lt_of_pos (r - ((n - j : Nat) : Int)) (show (0 : Int) < (m : Int) by omega)
    have a := mwW_len m n hm j (by omega) r h0 h1
    have b := mwW_len m n hm j (by omega) _ q0 q1
    rw [mwW_succ m n j (by omega) r h0 h1, List.length_append, List.length_map, List.length_map]
    show _ = Dn m n j r + Dn m n j ((r - ((n - j : Nat) : Int)) % (m : Int))
    omega
theorem mwW_at (m n : Nat) (hm : 1 ≤ m) : ∀ j, j ≤ n → ∀ r : Int, 0 ≤ r → r < m → ∀ k : Nat, (k : Int) < Dn m n j r → (mwW m n j r)[k]? = some (memN m n j r (k : Int))
  | 0, _, r, h0, h1, k, hk => by
    have hl := mwW_len m n hm 0 (Nat.zero_le _) r h0 h1
    have hk' : (k : Int) < if r = 0 then 1 else 0 := hk
    by_cases hr : r = 0
    · rw [if_pos hr] at hk'
      have : k = 0 := by omega
      subst this
      show (([[]] : List (List Int)).filter _)[0]? = some []
      rw [List.filter_cons, tsum_nil, Int.zero_emod, List.filter_nil, hr]
      rfl
    · rw [if_neg hr] at hk'; omega
  | j + 1, hj, r, h0, h1, k, hk => by
    have q0 := Int.emod_nonneg (r - ((n - j : Nat) : Int)) (show (m : Int) ≠ 0 by omega)
    have q1 := Int.emod_lt_of_pos (r - ((n - j : Nat) : Int)) (show (0 : Int) < (m : Int) by omega)
    have hk' : (k : Int) < Dn m n j r + Dn m n j ((r - ((n - j : Nat) : Int)) % (m : Int)) := hk
    have hl := mwW_len m n hm j (by omega) r h0 h1
    rw [mwW_succ m n j (by omega) r h0 h1]
    by_cases c : Dn m n j r ≤ (k : Int)
    · have e : memN m n (j + 1) r (k : Int) = 1 :: memN m n j ((r - ((n - j : Nat) : Int)) % (m : Int)) ((k : Int) - Dn m n j r) := if_pos c
      rw [List.getElem?_append_right (by rw [List.length_map]; omega), List.length_map, List.getElem?_map, e]
      have ek : (((k - (mwW m n j r).length : Nat)) : Int) = (k : Int) - Dn m n j r := by omega
      rw [mwW_at m n hm j (by omega) _ q0 q1 _ (by omega), ek]
      rfl
    · have e : memN m n (j + 1) r (k : Int) = 0 :: memN m n j r (k : Int) := if_neg c
      rw [List.getElem?_append_left (by rw [List.length_map]; omega), List.getElem?_map, e, mwW_at m n hm j (by omega) r h0 h1 k (by omega)]
      rfl
theorem inPL_mw (n : Nat) (a : Int) : (allW 2 n).filter (inPL n a) = mwW (n + 1) n n a := by
  unfold mwW
  rw [← allW_tw]
  refine List.filter_congr fun w hw => ?_
  have hl := (allW_mem.mp hw).1
  unfold inPL
  rw [decide_eq_true (by omega), Bool.true_and, Nat.sub_self, show (((0 : Nat)) : Int) = 0 by rfl, tsum_zero, show (((n + 1 : Nat)) : Int) = (n : Int) + 1 by omega]
theorem due_len (n : Nat) (a : Int) (h : 0 ≤ a ∧ a ≤ n) : (((allW 2 n).filter (inPL n a)).length : Int) = Dn (n + 1) n n a := by
  rw [inPL_mw]
  exact mwW_len (n + 1) n (by omega) n (Nat.le_refl _) a h.1 (by omega)
theorem due_at (n : Nat) (a : Int) (h : 0 ≤ a ∧ a ≤ n) (k : Nat) (hk : (k : Int) < Dn (n + 1) n n a) : ((allW 2 n).filter (inPL n a))[k]? = some (memN (n + 1) n n a (k : Int)) := by
  rw [inPL_mw]
  exact mwW_at (n + 1) n (by omega) n (Nat.le_refl _) a h.1 (by omega) k hk
theorem row_at {H0 H : Hp} {f : Addr} {n i : Nat} {xs : List V} (h : Rows H0 H f (n + 1) n ((List.range (n + 1)).reverse) xs) (hi : i ≤ n) : ∃ b, atI xs ((i : Nat) : Int) = some (.ref b) ∧ H b = some (.lst ((drow (n + 1) n (n - i)).map V.int)) := by
  obtain ⟨x, hx, b, rfl, _, _, hb⟩ := pd_at2 h (i := i) (y := n - i) (by rw [List.getElem?_reverse (by rw [List.length_range]; omega), List.length_range, List.getElem?_range (by omega), show n + 1 - 1 - i = n - i by omega])
  exact ⟨b, atI_nat hx, hb⟩
theorem memN_go {m n i : Nat} {r k : Int} (hi : i < n) : memN m n (n - i) r k = if Dn m n (n - (i + 1)) r ≤ k then 1 :: memN m n (n - (i + 1)) ((r - ((i + 1 : Nat) : Int)) % (m : Int)) (k - Dn m n (n - (i + 1)) r) else 0 :: memN m n (n - (i + 1)) r k := by
  obtain ⟨j, e⟩ : ∃ j, n - i = j + 1 := ⟨n - i - 1, by omega⟩
  rw [e, show n - (i + 1) = j by omega, show i + 1 = n - j by omega]
  rfl
theorem l_insA {H : Hp} {Q : VK} {a : Addr} {xs : List V} {y : V} {i : Int} (h : H a = some (.lst xs)) (hz : xs.length < 100000) (hi : 0 ≤ i ∧ i < 1000000) (k : ∀ H', ExB a H H' → H' a = some (.lst (xs.take i.toNat ++ [y] ++ xs.drop i.toNat)) → Q .non H') : rInsP (.ref a) [.int i, y] H Q :=
  ⟨a, xs, i, y, rfl, rfl, h, szl hz, hi.1, by omega, k _ ExB.upd upd_same⟩
theorem eqvL_ints (xs ys : List Int) : PyData.eqv (.list (xs.map PyData.int)) (.list (ys.map PyData.int)) = decide (xs = ys) := by
  show PyData.eqvAll (xs.map PyData.int) (ys.map PyData.int) = _
  exact eqv_ints xs ys
theorem shapedL_ints (ns : List Int) : SeqAt.shaped (.list (ns.map PyData.int)) = true := by
  show (PyData.canLayAll0 (ns.map PyData.int) && decide (PyData.depthAll (ns.map PyData.int) + 1 ≤ 64)) = true
  rw [depth_ints, lay_ints]; rfl
/-- a strong list's object -/
def StL (K : PySem.W.Frag) (H : Hp) (v : V) (n a : Int) : Prop := Ins K H v "StrongList" [("many", .int n), ("left", .int a)]
/-- a word's belonging to the strong list of n, a -/
def inSL (n a : Int) (w : List Int) : Bool := decide ((w.length : Int) = n) && decide (wsum w % (2 * n) = a)
theorem l_neB {K : PySem.W.Frag} {H : Hp} {Q : VK} {a b : Bool} (k : Q (.bl (!decide (a = b))) H) : rNeP K (.bl a) (.bl b) H Q := .inl ⟨rfl, by rw [show decide (V.bl a = V.bl b) = decide (a = b) by simp]; exact k⟩
/-- a comprehension of signs over q, by the turn -/
def PvS (H : Hp) (q : Int) : Addr → Nat → List V → Hp → Prop := fun _ i acc H1 => Ex H H1 ∧ ∃ ns : List Int, acc = ns.map V.int ∧ ns.length = i ∧ Sg q ns
theorem Sg.one {q x : Int} (h : 0 ≤ x ∧ x < q) : Sg q [x] := fun n m => by rw [List.mem_singleton] at m; rw [m]; exact h
theorem sg_at {q : Int} {ns : List Int} {k : Nat} (h : Sg q ns) (hk : k < ns.length) : 0 ≤ ns.getD k 0 ∧ ns.getD k 0 < q := by
  refine h _ ?_
  rw [show ns.getD k 0 = ns[k] by simp [List.getD, hk]]
  exact List.getElem_mem hk
theorem at_get {ns : List Int} {k : Nat} (hk : k < ns.length) : atI (ns.map V.int) (k : Int) = some (.int (ns.getD k 0)) := atI_nat (by rw [List.getElem?_map]; simp [List.getD, hk])
theorem fresh_pot {H H1 H2 : Hp} {p r : Addr} (hp : Pot H1 p) (e : ExB p H H1) (e2 : Ex H1 H2) (n : H2 r = none) : H r = none := by
  cases h : H r with
  | none => rfl
  | some o =>
    exfalso
    obtain ⟨ys, hy⟩ := hp.lst
    by_cases z : r = p
    · subst z; rw [e2 _ _ hy] at n; cases n
    · rw [e2 _ _ (e _ _ z h)] at n; cases n
theorem Sg.reverse {q : Int} {xs : List Int} (h : Sg q xs) : Sg q xs.reverse := fun n m => h n (List.mem_reverse.mp m)
theorem ex_hide {p : Addr} {H H1 : Hp} (n : H p = none) (e : Ex H H1) : Ex H (hide p H1) := fun a o h => hide_at (ne_of_none h n) (e _ _ h)
theorem sql_hide {K : PySem.W.Frag} {H H1 : Hp} {p a : Addr} {xs : List V} (n : H p = none) (e : Ex H H1) (h : SqL K H a xs) : SqL K (hide p H1) a xs := by
  rcases h with (h | ⟨o, h⟩) | h
  · exact .inl (.inl (hide_at (ne_of_none h n) (e _ _ h)))
  · exact .inl (.inr ⟨o, hide_at (ne_of_none h n) (e _ _ h)⟩)
  · exact .inr h
theorem row_atM {H0 H : Hp} {f : Addr} {m n i : Nat} {xs : List V} (h : Rows H0 H f m n ((List.range (n + 1)).reverse) xs) (hi : i ≤ n) : ∃ b, atI xs ((i : Nat) : Int) = some (.ref b) ∧ H b = some (.lst ((drow m n (n - i)).map V.int)) := by
  obtain ⟨x, hx, b, rfl, _, _, hb⟩ := pd_at2 h (i := i) (y := n - i) (by rw [List.getElem?_reverse (by rw [List.length_range]; omega), List.length_range, List.getElem?_range (by omega), show n + 1 - 1 - i = n - i by omega])
  exact ⟨b, atI_nat hx, hb⟩
/-- the same for the words of strong lists -/
theorem memS_all (n : Nat) (hn : 1 ≤ n) (r k : Int) (h0 : 0 ≤ r) (h1 : r < 2 * (n : Int)) (k0 : 0 ≤ k) (k1 : k < Dn (2 * n) n n r) : (memN (2 * n) n n r k).length = n ∧ Sg 2 (memN (2 * n) n n r k) ∧ wsum (memN (2 * n) n n r k) % (2 * (n : Int)) = r ∧ numN (2 * n) n (memN (2 * n) n n r k) r = k := by
  obtain ⟨a1, a2, a3, a4⟩ := memN_ok (2 * n) n (by omega) n (Nat.le_refl _) r k h0 (by omega) k0 k1
  rw [Nat.sub_self, show (((0 : Nat)) : Int) = 0 by rfl, tsum_zero, show (((2 * n : Nat)) : Int) = 2 * (n : Int) by omega] at a3
  exact ⟨a1, a2, a3, a4⟩
theorem numS_all (n : Nat) (hn : 1 ≤ n) (w : List Int) (r : Int) (h0 : 0 ≤ r) (h1 : r < 2 * (n : Int)) (hl : w.length = n) (hs : Sg 2 w) (hw : wsum w % (2 * (n : Int)) = r) : 0 ≤ numN (2 * n) n w r ∧ numN (2 * n) n w r < Dn (2 * n) n n r ∧ memN (2 * n) n n r (numN (2 * n) n w r) = w := by
  subst hl
  refine numN_ok (2 * w.length) w.length (by omega) w (Nat.le_refl _) hs r h0 (by omega) ?_
  rw [Nat.sub_self, show (((0 : Nat)) : Int) = 0 by rfl, tsum_zero, show (((2 * w.length : Nat)) : Int) = 2 * (w.length : Int) by omega]
  exact hw
theorem inSL_mw (n : Nat) (a : Int) : (allW 2 n).filter (inSL n a) = mwW (2 * n) n n a := by
  unfold mwW
  rw [← allW_tw]
  refine List.filter_congr fun w hw => ?_
  have hl := (allW_mem.mp hw).1
  unfold inSL
  rw [decide_eq_true (by omega), Bool.true_and, Nat.sub_self, show (((0 : Nat)) : Int) = 0 by rfl, tsum_zero, show (((2 * n : Nat)) : Int) = 2 * (n : Int) by omega]
theorem dueS_len (n : Nat) (hn : 1 ≤ n) (a : Int) (h : 0 ≤ a ∧ a < 2 * (n : Int)) : (((allW 2 n).filter (inSL n a)).length : Int) = Dn (2 * n) n n a := by
  rw [inSL_mw]
  exact mwW_len (2 * n) n (by omega) n (Nat.le_refl _) a h.1 (by omega)
theorem dueS_at (n : Nat) (hn : 1 ≤ n) (a : Int) (h : 0 ≤ a ∧ a < 2 * (n : Int)) (k : Nat) (hk : (k : Int) < Dn (2 * n) n n a) : ((allW 2 n).filter (inSL n a))[k]? = some (memN (2 * n) n n a (k : Int)) := by
  rw [inSL_mw]
  exact mwW_at (2 * n) n (by omega) n (Nat.le_refl _) a h.1 (by omega) k hk
/-- from the first sign on that differs -/
def lexLt : List Int → List Int → Prop
  | x :: xs, y :: ys => x < y ∨ x = y ∧ lexLt xs ys
  | _, _ => False
theorem memN_lex (m n : Nat) (hm : 1 ≤ m) : ∀ j, ∀ r k k' : Int, 0 ≤ k → k < k' → k' < Dn m n j r → lexLt (memN m n j r k) (memN m n j r k')
  | 0, r, k, k', h0, h1, h2 => by
    have h2' : k' < if r = 0 then 1 else 0 := h2
    split at h2' <;> omega
  | j + 1, r, k, k', h0, h1, h2 => by
    have h2' : k' < Dn m n j r + Dn m n j ((r - ((n - j : Nat) : Int)) % (m : Int)) := h2
    by_cases c : Dn m n j r ≤ k
    · have e1 : memN m n (j + 1) r k = 1 :: memN m n j ((r - ((n - j : Nat) : Int)) % (m : Int)) (k - Dn m n j r) := if_pos c
      have e2 : memN m n (j + 1) r k' = 1 :: memN m n j ((r - ((n - j : Nat) : Int)) % (m : Int)) (k' - Dn m n j r) := if_pos (by omega)
      rw [e1, e2]
      exact .inr ⟨rfl, memN_lex m n hm j _ _ _ (by omega) (by omega) (by omega)⟩
    · have e1 : memN m n (j + 1) r k = 0 :: memN m n j r k := if_neg c
      by_cases c2 : Dn m n j r ≤ k'
      · have e2 : memN m n (j + 1) r k' = 1 :: memN m n j ((r - ((n - j : Nat) : Int)) % (m : Int)) (k' - Dn m n j r) := if_pos c2
        rw [e1, e2]
        exact .inl (by decide)
      · have e2 : memN m n (j + 1) r k' = 0 :: memN m n j r k' := if_neg c2
        rw [e1, e2]
        exact .inr ⟨rfl, memN_lex m n hm j _ _ _ h0 h1 (by omega)⟩
/-! rows of counts, quickly reckoned -/
def rstep (m p : Nat) (l : List Nat) : List Nat := List.zipWith (· + ·) l (l.drop (m - p) ++ l.take (m - p))
def rit (m : Nat) : Nat → List Nat
  | 0 => 1 :: List.replicate (m - 1) 0
  | j + 1 => rstep m (j + 1) (rit m j)
theorem rit_len (m : Nat) (hm : 1 ≤ m) : ∀ j, j < m → (rit m j).length = m
  | 0, _ => by simp [rit]; omega
  | j + 1, h => by
    show (List.zipWith _ _ _).length = m
    have := rit_len m hm j (by omega)
    rw [List.length_zipWith, List.length_append, List.length_drop, List.length_take, this]
    omega
theorem rit_at (m : Nat) (hm : 1 ≤ m) : ∀ (j : Nat), j < m → ∀ (i : Nat), i < m → (((rit m j).getD i 0 : Nat) : Int) = Fn m j (i : Int)
  | 0, _, i, hi => by
    show ((((1 :: List.replicate (m - 1) 0).getD i 0 : Nat)) : Int) = if (i : Int) = 0 then 1 else 0
    cases i with
    | zero => simp
    | succ i =>
      rw [if_neg (by omega), List.getD_cons_succ]
      by_cases h : i < m - 1
      · simp [List.getD, h]
      · simp [List.getD, h]
  | j + 1, h, i, hi => by
    have hl := rit_len m hm j (by omega)
    have ih := rit_at m hm j (by omega)
    show (((List.zipWith (· + ·) (rit m j) ((rit m j).drop (m - (j + 1)) ++ (rit m j).take (m - (j + 1)))).getD i 0 : Nat) : Int) = Fn m j (i : Int) + Fn m j (((i : Int) - ((j + 1 : Nat) : Int)) % (m : Int))
    have hg : ∀ k : Nat, k < m → (rit m j)[k]? = some ((rit m j).getD k 0) := fun k hk => by simp [List.getD, hl, hk]
    have e : (List.zipWith (· + ·) (rit m j) ((rit m j).drop (m - (j + 1)) ++ (rit m j).take (m - (j + 1)))).getD i 0 = (rit m j).getD i 0 + (rit m j).getD (if i < j + 1 then m - (j + 1) + i else i - (j + 1)) 0 := by
      rw [List.getD, List.getElem?_zipWith, hg i hi]
      by_cases c : i < j + 1
      · rw [List.getElem?_append_left (by rw [List.length_drop, hl]; omega), List.getElem?_drop, hg _ (by omega), if_pos c]
        rfl
      · rw [List.getElem?_append_right (by rw [List.length_drop, hl]; omega), List.length_drop, hl, List.getElem?_take, if_pos (by omega), show i - (m - (m - (j + 1))) = i - (j + 1) by omega, hg _ (by omega), if_neg c]
        rfl
    rw [e]
    show (((_ + _ : Nat)) : Int) = _
    have ex : ((i : Int) - ((j + 1 : Nat) : Int)) % (m : Int) = ((if i < j + 1 then m - (j + 1) + i else i - (j + 1) : Nat) : Int) := by
      split
      · rw [show ((i : Int) - ((j + 1 : Nat) : Int)) = ((m - (j + 1) + i : Nat) : Int) - (m : Int) by omega, Int.sub_emod_right]
        exact Int.emod_eq_of_lt (by omega) (by omega)
      · rw [show ((i : Int) - ((j + 1 : Nat) : Int)) = ((i - (j + 1) : Nat) : Int) by omega]
        exact Int.emod_eq_of_lt (by omega) (by omega)
    rw [ex, ← ih i hi, ← ih _ (by split <;> omega)]
    omega
theorem frow_ritM (m j : Nat) (hm : 1 ≤ m) (hj : j < m) : frow m j = (rit m j).map fun x => ((x : Nat) : Int) := by
  have hl := rit_len m hm j hj
  refine List.ext_getElem? fun i => ?_
  by_cases h1 : i < m
  · have := rit_at m hm j hj i h1
    unfold frow
    rw [List.getElem?_map, List.getElem?_map, List.getElem?_range h1]
    have e : (rit m j)[i]? = some ((rit m j).getD i 0) := by simp [List.getD, hl, h1]
    rw [e]
    show some (Fn m j (i : Int)) = some _
    rw [← this]
  · rw [List.getElem?_eq_none (by rw [frow_len]; omega), List.getElem?_eq_none (by rw [List.length_map, hl]; omega)]
theorem Dn_le (m n : Nat) : ∀ j r, Dn m n j r ≤ 2 ^ j
  | 0, r => by show (if r = 0 then (1 : Int) else 0) ≤ 1; split <;> decide
  | j + 1, r => by
    have a := Dn_le m n j r
    have b := Dn_le m n j ((r - ((n - j : Nat) : Int)) % (m : Int))
    show Dn m n j r + Dn m n j ((r - ((n - j : Nat) : Int)) % (m : Int)) ≤ _
    rw [Int.pow_succ]
    omega
theorem lexLt_le : ∀ (xs ys : List Int) (d : Nat) (us vs : List Int) (z : Bool), xs.length = ys.length → us.length = d → vs.length = d → lexLt xs ys → Ob.lexAt (fun j => decide ((vs ++ ys).getD j 0 = (us ++ xs).getD j 0)) (fun j => decide ((vs ++ ys).getD j 0 ≤ (us ++ xs).getD j 0)) z d ys.length = false
  | [], _, _, _, _, _, _, _, _, h => by cases ‹List Int› <;> exact h.elim
  | x :: xs, [], _, _, _, _, hl, _, _, _ => by simp at hl
  | x :: xs, y :: ys, d, us, vs, z, hl, hu, hv, h => by
    have ex : (us ++ x :: xs).getD d 0 = x := by rw [← hu]; simp [List.getD]
    have ey : (vs ++ y :: ys).getD d 0 = y := by rw [← hv]; simp [List.getD]
    rw [List.length_cons, Ob.lexAt_succ]
    simp only [ex, ey]
    rcases h with h | ⟨rfl, h⟩
    · rw [if_neg (by simp; omega)]
      exact decide_eq_false (by omega)
    · rw [if_pos (by simp)]
      have := lexLt_le xs ys (d + 1) (us ++ [x]) (vs ++ [x]) z (by simpa using hl) (by simp [hu]) (by simp [hv]) h
      rw [List.append_assoc, List.append_assoc] at this
      exact this
/-! words by their codes -/
theorem code_snoc (B : Int) : ∀ (w : List Int) (s : Int), TS.code B (w ++ [s]) = TS.code B w * B + s
  | [], s => by simp [TS.code]
  | d :: r, s => by
    show d * B ^ (r ++ [s]).length + TS.code B (r ++ [s]) = (d * B ^ r.length + TS.code B r) * B + s
    rw [code_snoc B r s, List.length_append, List.length_singleton, Int.pow_succ, Int.add_mul, Int.mul_assoc]
    omega
theorem range_flat (q : Nat) : ∀ a : Nat, ((List.range a).flatMap fun k => (List.range q).map fun s => k * q + s) = List.range (a * q)
  | 0 => by simp
  | a + 1 => by
    rw [List.range_succ, List.flatMap_append, range_flat q a, Nat.succ_mul, List.range_add]
    simp
theorem allW_codes (q : Nat) : ∀ n, (allW q n).map (TS.code (q : Int)) = (List.range (q ^ n)).map fun (k : Nat) => ((k : Nat) : Int)
  | 0 => rfl
  | n + 1 => by
    have ih := allW_codes q n
    have e1 : ∀ w : List Int, ((List.range q).map fun (s : Nat) => w ++ [((s : Nat) : Int)]).map (TS.code (q : Int)) = (fun c : Int => (List.range q).map fun (s : Nat) => c * (q : Int) + ((s : Nat) : Int)) (TS.code (q : Int) w) := fun w => by
      rw [List.map_map]
      exact List.map_congr_left fun s _ => code_snoc _ _ _
    have eL : ((allW q n).flatMap fun w => ((List.range q).map fun (s : Nat) => w ++ [((s : Nat) : Int)]).map (TS.code (q : Int))) = ((allW q n).map (TS.code (q : Int))).flatMap fun c => (List.range q).map fun (s : Nat) => c * (q : Int) + ((s : Nat) : Int) := by
      rw [List.flatMap_map]
      congr 1
      funext w
      exact e1 w
    show ((allW q n).flatMap fun w => (List.range q).map fun (s : Nat) => w ++ [((s : Nat) : Int)]).map (TS.code (q : Int)) = _
    rw [List.map_flatMap, eL, ih, List.flatMap_map, Nat.pow_succ, ← range_flat, List.map_flatMap]
    congr 1
    funext k
    rw [List.map_map]
    exact List.map_congr_left fun s _ => by simp
theorem allW_rise (q n : Nat) : (allW q n).Pairwise fun u v => TS.code (q : Int) u < TS.code (q : Int) v := by
  have h2 : ((allW q n).map (TS.code (q : Int))).Pairwise (· < ·) := by
    rw [allW_codes, List.pairwise_map]
    exact List.Pairwise.imp (fun h => by omega) List.pairwise_lt_range
  exact List.pairwise_map.mp h2
theorem rise_nodup {B : Int} {ws : List (List Int)} (h : ws.Pairwise fun u v => TS.code B u < TS.code B v) : ws.Nodup :=
  List.Pairwise.imp (fun h e => by rw [e] at h; omega) h
theorem allW_nodup (q n : Nat) : (allW q n).Nodup := rise_nodup (allW_rise q n)
theorem rise_eq {B : Int} : ∀ {vs us : List (List Int)}, us.Perm vs → us.Pairwise (fun u v => TS.code B u ≤ TS.code B v) → vs.Pairwise (fun u v => TS.code B u < TS.code B v) → us = vs
  | [], us, h, _, _ => List.Perm.eq_nil h
  | v :: vs, [], h, _, _ => absurd (List.Perm.length_eq h) (by simp)
  | v :: vs, u :: us, h, h1, h2 => by
    have hv := (h.mem_iff (a := v)).mpr (by simp)
    have hu := (h.mem_iff (a := u)).mp (by simp)
    have e : u = v := by
      rcases List.mem_cons.mp hv with e | hv
      · exact e.symm
      · rcases List.mem_cons.mp hu with e | hu
        · exact e
        · have a := (List.pairwise_cons.mp h1).1 v hv
          have b := (List.pairwise_cons.mp h2).1 u hu
          omega
    subst e
    rw [rise_eq h.cons_inv (List.pairwise_cons.mp h1).2 (List.pairwise_cons.mp h2).2]
/-- all lists together have each word just once -/
theorem part_perm {α : Type} [BEq α] [LawfulBEq α] (l : List α) (m : Nat) (f : α → Nat) (h : ∀ x ∈ l, f x < m) : ((List.range m).flatMap fun r => l.filter fun x => decide (f x = r)).Perm l := by
  refine List.perm_iff_count.mpr fun a => ?_
  by_cases ha : a ∈ l
  · have key : ∀ m, List.count a ((List.range m).flatMap fun r => l.filter fun x => decide (f x = r)) = if f a < m then List.count a l else 0 := by
      intro m
      induction m with
      | zero => simp
      | succ m ih =>
        rw [List.range_succ, List.flatMap_append, List.count_append, ih]
        simp only [List.flatMap_cons, List.flatMap_nil, List.append_nil]
        by_cases e : f a = m
        · rw [List.count_filter (by simpa using e), if_neg (by omega), if_pos (by omega), Nat.zero_add]
        · have : List.count a (l.filter fun x => decide (f x = m)) = 0 := List.count_eq_zero.mpr fun hm => e (by simpa using (List.mem_filter.mp hm).2)
          rw [this, Nat.add_zero]
          by_cases c : f a < m
          · rw [if_pos c, if_pos (by omega)]
          · rw [if_neg c, if_neg (by omega)]
    rw [key, if_pos (h a ha)]
  · rw [List.count_eq_zero.mpr ha, List.count_eq_zero.mpr]
    intro hm
    obtain ⟨r, _, hm⟩ := List.mem_flatMap.mp hm
    exact ha (List.mem_filter.mp hm).1
theorem fm_le {α β : Type} {f : α → List β} {m : Nat} : ∀ {l : List α}, (∀ a ∈ l, (f a).length ≤ m) → (l.flatMap f).length ≤ l.length * m
  | [], _ => by simp
  | a :: l, h => by
    have := h a (by simp)
    have := fm_le (l := l) fun b hb => h b (by simp [hb])
    rw [List.flatMap_cons, List.length_append, List.length_cons, Nat.succ_mul]
    omega
/-! sorted, of words -/
theorem ks_of {K : PySem.W.Frag} {H : Hp} : ∀ {xs : List V} {ws : List (List Int)}, Wts K H xs ws → ∃ ks : KS, xs = refsV ks ∧ ws = ks.map (·.2) ∧ ∀ p ∈ ks, SqT K H p.1 (p.2.map V.int)
  | _, _, .nil => ⟨[], rfl, rfl, fun _ h => by cases h⟩
  | _, _, .cons ⟨b, e, h⟩ t => by
    obtain ⟨ks, e1, e2, e3⟩ := ks_of t
    subst e
    refine ⟨(b, _) :: ks, by rw [e1]; rfl, by rw [e2]; rfl, fun p hp => ?_⟩
    rcases List.mem_cons.mp hp with rfl | hp
    · exact h
    · exact e3 p hp
theorem ks_wts {K : PySem.W.Frag} {H : Hp} : ∀ {ks : KS}, (∀ p ∈ ks, SqT K H p.1 (p.2.map V.int)) → Wts K H (refsV ks) (ks.map (·.2))
  | [], _ => .nil
  | p :: ks, h => .cons ⟨p.1, rfl, h p (by simp)⟩ (ks_wts fun q hq => h q (by simp [hq]))
/-- the words ws, each of d signs over B -/
def Wb (d : Nat) (B : Int) (ws : List (List Int)) : Prop := ∀ w ∈ ws, w.length = d ∧ Sg B w
theorem code_inj {B : Int} {d : Nat} {u v : List Int} (hu : u.length = d ∧ Sg B u) (hv : v.length = d ∧ Sg B v) (h : TS.code B u = TS.code B v) : u = v := by
  have key : ∀ (u v : List Int), u.length = v.length → Sg B u → Sg B v → TS.code B u = TS.code B v → u = v := by
    intro u
    induction u with
    | nil => intro v hl _ _ _; exact (List.eq_nil_of_length_eq_zero hl.symm).symm
    | cons x u ih =>
      intro v hl hu hv h
      cases v with
      | nil => simp at hl
      | cons y v =>
        have hl' : u.length = v.length := by simpa using hl
        have hu' : TS.Bd B u := fun m hm => hu m (List.mem_cons_of_mem _ hm)
        have hv' : TS.Bd B v := fun m hm => hv m (List.mem_cons_of_mem _ hm)
        rcases Int.lt_trichotomy x y with c | c | c
        · have := TS.code_lt hl' hu' hv' c; omega
        · subst c
          have h2 : x * B ^ u.length + TS.code B u = x * B ^ v.length + TS.code B v := h
          rw [hl'] at h2
          rw [ih v hl' hu' hv' (by omega)]
        · have := TS.code_lt hl'.symm hv' hu' c; omega
  exact key u v (by omega) hu.2 hv.2 h
theorem l_sortLW {K : PySem.W.Frag} {H : Hp} {Q : VK} {a : Addr} {xs : List V} {ws : List (List Int)} {d : Nat} {B : Int} (h : SqL K H a xs) (hW : Wts K H xs ws) (hb : Wb d B ws) (hd : 2 ≤ ws.length → 1 ≤ d)
    (k : ∀ ys us p H', us.Perm ws → us.Pairwise (fun u v => TS.code B u ≤ TS.code B v) → H p = none → Ex H H' → H' p = some (.lst ys) → Wts K H' ys us → Q (.ref p) H') : rSortA K [.ref a] H Q := by
  obtain ⟨ks, rfl, rfl, hk⟩ := ks_of hW
  refine .inl ⟨a, ks, d, B, rfl, h, fun p hp => ⟨hk p hp, hb p.2 (List.mem_map.mpr ⟨p, hp, rfl⟩)⟩, by rw [List.length_map] at hd; exact hd, fun ks' p pm hr hn => ?_⟩
  exact k (refsV ks') (ks'.map (·.2)) p _ (pm.map _) (List.pairwise_map.mpr hr) hn (Evl.Ex.new hn) upd_same (ks_wts fun q hq => Evl.ex_t (Evl.Ex.new hn) (hk q (pm.mem_iff.mp hq)))
/-- sorted(set(xs)): the words, each once, by their codes -/
theorem l_sortSetW {K : PySem.W.Frag} {H : Hp} {Q : VK} {a : Addr} {xs : List V} {ws : List (List Int)} {d : Nat} {B : Int} (h : SqL K H a xs) (hW : Wts K H xs ws) (hb : Wb d B ws) (hl : ws.length < 64)
    (k : ∀ ys us p H', (∀ w, w ∈ us ↔ w ∈ ws) → us.Pairwise (fun u v => TS.code B u < TS.code B v) → H p = none → Ex H H' → H' p = some (.lst ys) → Wts K H' ys us → Q (.ref p) H') : sortSetA K Q (.ref a) H := by
  obtain ⟨ks, rfl, rfl, hk⟩ := ks_of hW
  have hb' : ∀ p ∈ ks, p.2.length = d ∧ Sg B p.2 := fun p hp => hb p.2 (List.mem_map.mpr ⟨p, hp, rfl⟩)
  refine .inr ⟨a, ks, d, B, rfl, h, fun p hp => ⟨hk p hp, hb' p hp⟩, by rw [List.length_map] at hl; exact hl, fun ks' p sub all nd hr hn => ?_⟩
  refine k (refsV ks') (ks'.map (·.2)) p _ (fun w => ⟨fun m => ?_, fun m => ?_⟩) ?_ hn (Evl.Ex.new hn) upd_same (ks_wts fun q hq => Evl.ex_t (Evl.Ex.new hn) (hk q (sub q hq)))
  · obtain ⟨q, hq, rfl⟩ := List.mem_map.mp m
    exact List.mem_map.mpr ⟨q, sub q hq, rfl⟩
  · obtain ⟨q, hq, rfl⟩ := List.mem_map.mp m
    exact all q hq
  · have h1 : (ks'.map (·.2)).Pairwise fun u v => TS.code B u ≤ TS.code B v := List.pairwise_map.mpr hr
    have h2 : (ks'.map (·.2)).Pairwise fun u v => u ≠ v := nd
    refine List.Pairwise.imp_of_mem (fun {u v} hu hv h => ?_) (h1.and h2)
    obtain ⟨q, hq, rfl⟩ := List.mem_map.mp hu
    obtain ⟨r, hr2, rfl⟩ := List.mem_map.mp hv
    rcases Int.lt_or_eq_of_le h.1 with z | z
    · exact z
    · exact absurd (code_inj (hb' q (sub q hq)) (hb' r (sub r hr2)) z) h.2
/-! rings -/
def lostAt (w : List Int) (k : Nat) : List Int := w.take k ++ w.drop (k + 1)
def putAt (w : List Int) (k : Nat) (s : Int) : List Int := w.take k ++ [s] ++ w.drop k
def chgAt (w : List Int) (k : Nat) (s : Int) : List Int := w.take k ++ [s] ++ w.drop (k + 1)
def losts (w : List Int) : List (List Int) := (List.range w.length).map fun k => lostAt w k
def puts (q : Nat) (w : List Int) : List (List Int) := (List.range (w.length + 1)).flatMap fun k => (List.range q).map fun (s : Nat) => putAt w k ((s : Nat) : Int)
def chgs (q : Nat) (w : List Int) : List (List Int) := (List.range w.length).flatMap fun k => (List.range q).map fun (s : Nat) => chgAt w k ((s : Nat) : Int)
/-- us are the words ws, each once, by their codes -/
def Ring (B : Int) (us ws : List (List Int)) : Prop := (∀ w, w ∈ us ↔ w ∈ ws) ∧ us.Pairwise fun u v => TS.code B u < TS.code B v
theorem lostAt_len {w : List Int} {k : Nat} (h : k < w.length) : (lostAt w k).length = w.length - 1 := by
  unfold lostAt
  rw [List.length_append, List.length_take, List.length_drop]; omega
theorem putAt_len {w : List Int} {k : Nat} {s : Int} (h : k ≤ w.length) : (putAt w k s).length = w.length + 1 := by
  unfold putAt
  rw [List.length_append, List.length_append, List.length_take, List.length_drop, List.length_singleton]; omega
theorem chgAt_len {w : List Int} {k : Nat} {s : Int} (h : k < w.length) : (chgAt w k s).length = w.length := by
  unfold chgAt
  rw [List.length_append, List.length_append, List.length_take, List.length_drop, List.length_singleton]; omega
theorem sg_one {q s : Int} (h : 0 ≤ s ∧ s < q) : Sg q [s] := fun n m => by rw [List.mem_singleton] at m; omega
theorem lostAt_sg {q : Int} {w : List Int} {k : Nat} (h : Sg q w) : Sg q (lostAt w k) := (h.take k).append (h.drop (k + 1))
theorem putAt_sg {q : Int} {w : List Int} {k : Nat} {s : Int} (h : Sg q w) (hs : 0 ≤ s ∧ s < q) : Sg q (putAt w k s) := ((h.take k).append (sg_one hs)).append (h.drop k)
theorem chgAt_sg {q : Int} {w : List Int} {k : Nat} {s : Int} (h : Sg q w) (hs : 0 ≤ s ∧ s < q) : Sg q (chgAt w k s) := ((h.take k).append (sg_one hs)).append (h.drop (k + 1))
theorem mem_losts {w u : List Int} : u ∈ losts w ↔ ∃ k, k < w.length ∧ u = lostAt w k := by
  unfold losts
  rw [List.mem_map]
  exact ⟨fun ⟨k, h, e⟩ => ⟨k, List.mem_range.mp h, e.symm⟩, fun ⟨k, h, e⟩ => ⟨k, List.mem_range.mpr h, e.symm⟩⟩
theorem mem_puts {q : Nat} {w u : List Int} : u ∈ puts q w ↔ ∃ k s, k ≤ w.length ∧ (0 ≤ s ∧ s < (q : Int)) ∧ u = putAt w k s := by
  unfold puts
  rw [List.mem_flatMap]
  constructor
  · rintro ⟨k, h, m⟩
    obtain ⟨s, hs, e⟩ := List.mem_map.mp m
    have := List.mem_range.mp h
    have := List.mem_range.mp hs
    exact ⟨k, s, by omega, by omega, e.symm⟩
  · rintro ⟨k, s, h, hs, e⟩
    exact ⟨k, List.mem_range.mpr (by omega), List.mem_map.mpr ⟨s.toNat, List.mem_range.mpr (by omega), by rw [e]; congr 1; omega⟩⟩
theorem mem_chgs {q : Nat} {w u : List Int} : u ∈ chgs q w ↔ ∃ k s, k < w.length ∧ (0 ≤ s ∧ s < (q : Int)) ∧ u = chgAt w k s := by
  unfold chgs
  rw [List.mem_flatMap]
  constructor
  · rintro ⟨k, h, m⟩
    obtain ⟨s, hs, e⟩ := List.mem_map.mp m
    have := List.mem_range.mp h
    have := List.mem_range.mp hs
    exact ⟨k, s, by omega, by omega, e.symm⟩
  · rintro ⟨k, s, h, hs, e⟩
    exact ⟨k, List.mem_range.mpr (by omega), List.mem_map.mpr ⟨s.toNat, List.mem_range.mpr (by omega), by rw [e]; congr 1; omega⟩⟩
theorem losts_wb {q : Int} {w : List Int} (h : Sg q w) : Wb (w.length - 1) q (losts w) := fun u hu => by
  obtain ⟨k, hk, rfl⟩ := mem_losts.mp hu
  exact ⟨lostAt_len hk, lostAt_sg h⟩
theorem puts_wb {q : Nat} {w : List Int} (h : Sg q w) : Wb (w.length + 1) q (puts q w) := fun u hu => by
  obtain ⟨k, s, hk, hs, rfl⟩ := mem_puts.mp hu
  exact ⟨putAt_len hk, putAt_sg h hs⟩
theorem chgs_wb {q : Nat} {w : List Int} (h : Sg q w) : Wb w.length q (chgs q w) := fun u hu => by
  obtain ⟨k, s, hk, hs, rfl⟩ := mem_chgs.mp hu
  exact ⟨chgAt_len hk, chgAt_sg h hs⟩
theorem losts_len (w : List Int) : (losts w).length = w.length := by unfold losts; simp
theorem puts_len (q : Nat) (w : List Int) : (puts q w).length = (w.length + 1) * q := by
  unfold puts
  rw [fm_len (m := q) (fun k _ => by simp), List.length_range]
theorem chgs_len (q : Nat) (w : List Int) : (chgs q w).length = w.length * q := by
  unfold chgs
  rw [fm_len (m := q) (fun k _ => by simp), List.length_range]
/-- a sign is lost just where it can be put in -/
theorem put_lost {w : List Int} {k : Nat} (h : k < w.length) : w = putAt (lostAt w k) k (w.getD k 0) := by
  unfold putAt lostAt
  have e1 : (w.take k ++ w.drop (k + 1)).take k = w.take k := by rw [List.take_append_of_le_length (by simp; omega), List.take_take, Nat.min_self]
  have e2 : (w.take k ++ w.drop (k + 1)).drop k = w.drop (k + 1) := by
    rw [List.drop_append_of_le_length (by simp; omega), List.drop_of_length_le (by simp; omega), List.nil_append]
  rw [e1, e2]
  have e3 : w.getD k 0 = w[k] := by simp [List.getD, h]
  rw [e3, List.append_assoc, List.singleton_append, ← List.drop_eq_getElem_cons h, List.take_append_drop]
theorem lost_put {w : List Int} {k : Nat} {s : Int} (h : k ≤ w.length) : lostAt (putAt w k s) k = w := by
  unfold putAt lostAt
  rw [List.append_assoc, List.take_append_of_le_length (by simp; omega), List.take_take, Nat.min_self]
  rw [List.drop_append, List.drop_of_length_le (by simp; omega), List.nil_append, List.length_take, Nat.min_eq_left h, show k + 1 - k = 1 by omega]
  show w.take k ++ w.drop k = w
  exact List.take_append_drop k w
/-! one loss or one putting in: the word of a list that it was -/
theorem sum_bd : ∀ {xs : List Int}, Sg 2 xs → 0 ≤ xs.sum ∧ xs.sum ≤ xs.length
  | [], _ => by simp
  | x :: xs, h => by
    have a := h x (by simp)
    have b := sum_bd (xs := xs) fun n m => h n (by simp [m])
    rw [List.sum_cons, List.length_cons]
    omega
theorem sum_0 : ∀ {xs : List Int}, Sg 2 xs → xs.sum = 0 → xs = List.replicate xs.length 0
  | [], _, _ => rfl
  | x :: xs, h, e => by
    have a := h x (by simp)
    have hx : Sg 2 xs := fun n m => h n (by simp [m])
    have b := sum_bd hx
    rw [List.sum_cons] at e
    rw [List.length_cons, List.replicate_succ, ← sum_0 hx (by omega), show x = 0 by omega]
theorem sum_1 : ∀ {xs : List Int}, Sg 2 xs → xs.sum = xs.length → xs = List.replicate xs.length 1
  | [], _, _ => rfl
  | x :: xs, h, e => by
    have a := h x (by simp)
    have hx : Sg 2 xs := fun n m => h n (by simp [m])
    have b := sum_bd hx
    rw [List.sum_cons, List.length_cons] at e
    rw [List.length_cons, List.replicate_succ, ← sum_1 hx (by omega), show x = 1 by omega]
theorem wsum_putAt {x : List Int} {k : Nat} {s : Int} (h : k ≤ x.length) : wsum (putAt x k s) = wsum x + ((k : Int) + 1) * s + (x.drop k).sum := by
  have e1 : wsum x = wsum (x.take k) + wsum (x.drop k) + (k : Int) * (x.drop k).sum := by
    have := wsum_append (x.take k) (x.drop k)
    rw [List.take_append_drop, List.length_take, Nat.min_eq_left h] at this
    exact this
  unfold putAt
  rw [wsum_append, wsum_append, e1, List.length_append, List.length_take, Nat.min_eq_left h, show wsum [s] = s by simp [wsum, List.getD], show [s].sum = s by simp, List.length_singleton, Int.natCast_add, Int.add_mul, Int.add_mul]
  simp
  omega
theorem put_same {x : List Int} {i j : Nat} {s : Int} (hij : i ≤ j) (hj : j ≤ x.length) (h : (x.drop i).take (j - i) = List.replicate (j - i) s) : putAt x i s = putAt x j s := by
  have e1 : x.drop i = List.replicate (j - i) s ++ x.drop j := by
    rw [← h]
    have := (List.take_append_drop (j - i) (x.drop i)).symm
    rw [List.drop_drop, show i + (j - i) = j by omega] at this
    exact this
  have e2 : x.take j = x.take i ++ List.replicate (j - i) s := by
    rw [← h]
    have := List.take_add (l := x) (i := i) (j := j - i)
    rw [show i + (j - i) = j by omega] at this
    exact this
  unfold putAt
  rw [e1, e2, List.append_assoc, List.append_assoc, List.append_assoc, ← List.append_assoc [s], ← List.append_assoc (List.replicate (j - i) s)]
  congr 2
  rw [List.singleton_append, ← List.replicate_succ, ← List.replicate_succ']
theorem emod_sub_0 {a b m : Int} (h : a % m = b % m) (hm : 0 < m) (hl : -m < a - b) (hu : a - b < m) : a = b := by
  have := Int.emod_emod_of_dvd a (Int.dvd_refl m)
  have h2 : (a - b) % m = 0 := by rw [Int.sub_emod, h, Int.sub_self]; simp
  obtain ⟨c, hc⟩ := Int.dvd_of_emod_eq_zero h2
  have : c = 0 := by
    rcases Int.lt_trichotomy c 0 with z | z | z
    · have := Int.mul_le_mul_of_nonneg_left (show c ≤ -1 by omega) (show 0 ≤ m by omega)
      omega
    · exact z
    · have := Int.mul_le_mul_of_nonneg_left (show (1 : Int) ≤ c by omega) (show 0 ≤ m by omega)
      omega
  subst this
  omega
/-- two words of one plain list that come to one word by a loss each are one -/
theorem vt_put {x : List Int} {i j : Nat} {s t : Int} (hx : Sg 2 x) (hi : i ≤ x.length) (hj : j ≤ x.length) (hs : 0 ≤ s ∧ s < 2) (ht : 0 ≤ t ∧ t < 2) (h : wsum (putAt x i s) % ((x.length : Int) + 2) = wsum (putAt x j t) % ((x.length : Int) + 2)) : putAt x i s = putAt x j t := by
  have key : ∀ (i j : Nat) (s t : Int), i ≤ j → j ≤ x.length → (0 ≤ s ∧ s < 2) → (0 ≤ t ∧ t < 2) → wsum (putAt x i s) % ((x.length : Int) + 2) = wsum (putAt x j t) % ((x.length : Int) + 2) → putAt x i s = putAt x j t := by
    intro i j s t hij hj hs ht h
    rw [wsum_putAt (by omega), wsum_putAt hj] at h
    have eM : (x.drop i).sum = ((x.drop i).take (j - i)).sum + (x.drop j).sum := by
      rw [← List.sum_append]
      have := (List.take_append_drop (j - i) (x.drop i)).symm
      rw [List.drop_drop, show i + (j - i) = j by omega] at this
      rw [← this]
    have bM := sum_bd ((hx.drop i).take (j - i))
    have lM : ((x.drop i).take (j - i)).length = j - i := by rw [List.length_take, List.length_drop]; omega
    rw [lM] at bM
    have bJ := sum_bd (hx.drop j)
    rw [List.length_drop] at bJ
    have mz : Sg 2 ((x.drop i).take (j - i)) := (hx.drop i).take (j - i)
    generalize (x.drop j).sum = R at *
    have z0 := fun h => sum_0 mz h
    have z1 := fun h => sum_1 mz h
    rw [lM] at z0 z1
    have ps := fun h => put_same (x := x) (s := s) hij hj h
    generalize (x.drop i).take (j - i) = M at *
    have hs' : s = 0 ∨ s = 1 := by omega
    have ht' : t = 0 ∨ t = 1 := by omega
    rcases hs' with rfl | rfl <;> rcases ht' with rfl | rfl
    · have := emod_sub_0 h (by omega) (by omega) (by omega)
      exact ps (z0 (by omega))
    · have := emod_sub_0 h (by omega) (by omega) (by omega)
      omega
    · have := emod_sub_0 h (by omega) (by omega) (by omega)
      omega
    · have := emod_sub_0 h (by omega) (by omega) (by omega)
      exact ps (z1 (by omega))
  rcases Nat.le_total i j with c | c
  · exact key i j s t c hj hs ht h
  · exact (key j i t s c hi ht hs h.symm).symm
theorem vt_lost {n : Nat} {a : Int} {u v : List Int} {i j : Nat} (hu : inPL n a u = true) (hv : inPL n a v = true) (su : Sg 2 u) (sv : Sg 2 v) (hi : i < u.length) (hj : j < v.length) (h : lostAt u i = lostAt v j) : u = v := by
  unfold inPL at hu hv
  rw [Bool.and_eq_true, decide_eq_true_eq, decide_eq_true_eq] at hu hv
  have gu : 0 ≤ u.getD i 0 ∧ u.getD i 0 < 2 := by
    have : u.getD i 0 = u[i] := by simp [List.getD, hi]
    rw [this]; exact su _ (List.getElem_mem hi)
  have gv : 0 ≤ v.getD j 0 ∧ v.getD j 0 < 2 := by
    have : v.getD j 0 = v[j] := by simp [List.getD, hj]
    rw [this]; exact sv _ (List.getElem_mem hj)
  have lu := lostAt_len hi
  have lv := lostAt_len hj
  have pu := put_lost hi
  have pv := put_lost hj
  have wu := hu.2.trans hv.2.symm
  rw [pu, pv, ← h] at wu
  rw [pu, pv, ← h]
  refine vt_put (lostAt_sg su) (by omega) (by rw [h]; omega) gu gv ?_
  rw [show ((lostAt u i).length : Int) + 2 = (n : Int) + 1 by omega]
  exact wu
theorem lost_lost {y : List Int} {i j : Nat} (h : i < j) (hj : j < y.length) : lostAt (lostAt y i) (j - 1) = lostAt (lostAt y j) i := by
  unfold lostAt
  refine List.ext_getElem? fun k => ?_
  have g : ∀ (z : List Int) (a : Nat), a < z.length → (z.take a ++ z.drop (a + 1))[k]? = if k < a then z[k]? else z[k + 1]? := fun z a ha => by
    by_cases c : k < a
    · rw [if_pos c, List.getElem?_append_left (by simp; omega), List.getElem?_take, if_pos c]
    · rw [if_neg c, List.getElem?_append_right (by simp; omega), List.getElem?_drop, List.length_take, Nat.min_eq_left (by omega), show a + 1 + (k - a) = k + 1 by omega]
  have g' : ∀ (k a : Nat), a < y.length → (y.take a ++ y.drop (a + 1))[k]? = if k < a then y[k]? else y[k + 1]? := fun k a ha => by
    by_cases c : k < a
    · rw [if_pos c, List.getElem?_append_left (by simp; omega), List.getElem?_take, if_pos c]
    · rw [if_neg c, List.getElem?_append_right (by simp; omega), List.getElem?_drop, List.length_take, Nat.min_eq_left (by omega), show a + 1 + (k - a) = k + 1 by omega]
  have l1 : (y.take i ++ y.drop (i + 1)).length = y.length - 1 := lostAt_len (by omega)
  have l2 : (y.take j ++ y.drop (j + 1)).length = y.length - 1 := lostAt_len hj
  rw [g (y.take i ++ y.drop (i + 1)) (j - 1) (by omega), g (y.take j ++ y.drop (j + 1)) i (by omega), g' k i (by omega), g' (k + 1) i (by omega), g' k j hj, g' (k + 1) j hj]
  by_cases c1 : k < i
  · rw [if_pos (by omega), if_pos c1, if_pos c1, if_pos (by omega)]
  · by_cases c2 : k < j - 1
    · rw [if_pos c2, if_neg c1, if_neg c1, if_pos (by omega)]
    · rw [if_neg c2, if_neg (by omega), if_neg c1, if_neg (by omega)]
/-- two words of one plain list of which a word may have come by one putting in each are one -/
theorem vt_came {n : Nat} {a : Int} {y : List Int} {i j : Nat} (hu : inPL n a (lostAt y i) = true) (hv : inPL n a (lostAt y j) = true) (sy : Sg 2 y) (hi : i < y.length) (hj : j < y.length) : lostAt y i = lostAt y j := by
  rcases Nat.lt_trichotomy i j with c | c | c
  · exact vt_lost hu hv (lostAt_sg sy) (lostAt_sg sy) (by rw [lostAt_len hi]; omega) (by rw [lostAt_len hj]; omega) (lost_lost c hj)
  · rw [c]
  · exact (vt_lost hv hu (lostAt_sg sy) (lostAt_sg sy) (by rw [lostAt_len hj]; omega) (by rw [lostAt_len hi]; omega) (lost_lost c hi)).symm
/-- the words of n signs of which ws may have come, by a loss, by nothing, by a putting in -/
def cands (n : Nat) (ws : List Int) : List (List Int) := if (ws.length : Int) = (n : Int) - 1 then puts 2 ws else if ws.length = n then [ws] else losts ws
theorem cands_one {n : Nat} {a : Int} {ws u v : List Int} (hl : ws.length ≤ n + 1 ∧ n ≤ ws.length + 1) (sw : Sg 2 ws) (hu : u ∈ cands n ws) (hv : v ∈ cands n ws) (mu : inPL n a u = true) (mv : inPL n a v = true) : u = v := by
  unfold cands at hu hv
  split at hu
  · rename_i c
    rw [if_pos c] at hv
    obtain ⟨i, s, hi, hs, rfl⟩ := mem_puts.mp hu
    obtain ⟨j, t, hj, ht, rfl⟩ := mem_puts.mp hv
    exact vt_lost mu mv (putAt_sg sw hs) (putAt_sg sw ht) (by rw [putAt_len hi]; omega) (by rw [putAt_len hj]; omega) ((lost_put hi).trans (lost_put hj).symm)
  · rename_i c
    rw [if_neg c] at hv
    split at hu
    · rename_i c2
      rw [if_pos c2] at hv
      rw [List.mem_singleton] at hu hv
      rw [hu, hv]
    · rename_i c2
      rw [if_neg c2] at hv
      obtain ⟨i, hi, rfl⟩ := mem_losts.mp hu
      obtain ⟨j, hj, rfl⟩ := mem_losts.mp hv
      exact vt_came mu mv sw hi hj
/-- what mending tells of ws in the plain list of n, a -/
def Mend (K : PySem.W.Frag) (H : Hp) (n : Nat) (a : Int) (ws : List Int) (v : V) : Prop := (∃ u, Wt K H v u ∧ u ∈ cands n ws ∧ inPL n a u = true) ∨ (v = .non ∧ ∀ u ∈ cands n ws, inPL n a u = false)
theorem anyW (w : List Int) : ∀ us : List (List Int), ((us.map wD).any fun z => PyData.eqv z (.tuple (w.map PyData.int))) = decide (w ∈ us)
  | [] => by simp
  | u :: us => by
    rw [List.map_cons, List.any_cons, anyW w us, show PyData.eqv (wD u) (.tuple (w.map PyData.int)) = decide (u = w) from eqvT_ints u w]
    by_cases h1 : u = w <;> by_cases h2 : w ∈ us <;> simp [h1, h2]
    exact fun e => h1 e.symm
theorem l_inW {K : PySem.W.Frag} {H : Hp} {Q : VK} {x : V} {w : List Int} {p : Addr} {ys : List V} {us : List (List Int)} (hw : Wt K H x w) (hp : H p = some (.lst ys)) (hW : Wts K H ys us) (k : Q (.bl (decide (w ∈ us))) H) : rInA K x (.ref p) H Q := by
  obtain ⟨b, rfl, hb⟩ := hw
  exact l_inD (.tup hb (dp_ints w)) (.lst (SqL.of hp) (dp_words hW)) (shaped_ints w) (shaped_words us) (by rw [anyW]; exact k)
theorem l_notInW {K : PySem.W.Frag} {H : Hp} {Q : VK} {x : V} {w : List Int} {p : Addr} {ys : List V} {us : List (List Int)} (hw : Wt K H x w) (hp : H p = some (.lst ys)) (hW : Wts K H ys us) (k : Q (.bl (!decide (w ∈ us))) H) : rNotInA K x (.ref p) H Q := by
  obtain ⟨b, rfl, hb⟩ := hw
  exact l_notInD (.tup hb (dp_ints w)) (.lst (SqL.of hp) (dp_words hW)) (shaped_ints w) (shaped_words us) (by rw [anyW]; exact k)
theorem decB {i j : Bool} : decide (V.bl i = V.bl j) = decide (i = j) := by simp
theorem l_eqB {K : PySem.W.Frag} {H : Hp} {Q : VK} {i j : Bool} (k : Q (.bl (decide (i = j))) H) : rEqP K (.bl i) (.bl j) H Q := .inl ⟨rfl, by rw [decB]; exact k⟩
/-! exact words (what may be a dict's key), dicts by words -/
def Wx (H : Hp) (x : V) (w : List Int) : Prop := ∃ b, x = .ref b ∧ H b = some (.tup (w.map V.int))
theorem Wx.mono {H H' : Hp} {x : V} {w : List Int} (e : Ex H H') (h : Wx H x w) : Wx H' x w := by
  obtain ⟨b, rfl, h⟩ := h
  exact ⟨b, rfl, e _ _ h⟩
theorem Wx.wt {K : PySem.W.Frag} {H : Hp} {x : V} {w : List Int} (h : Wx H x w) : Wt K H x w := by
  obtain ⟨b, rfl, h⟩ := h
  exact ⟨b, rfl, SqT.of h⟩
theorem Wx.exB {H H' : Hp} {x : V} {w : List Int} {p : Addr} {o : HO} (e : ExB p H H') (hp : H p = some o) (ho : ∀ zs, o ≠ .tup zs) (h : Wx H x w) : Wx H' x w := by
  obtain ⟨b, rfl, h⟩ := h
  exact ⟨b, rfl, e _ _ (fun z => by subst z; rw [hp] at h; exact ho _ (Option.some.inj h)) h⟩
abbrev Wxs (H : Hp) : List V → List (List Int) → Prop := Paired (Wx H)
theorem Wxs.mono {H H' : Hp} {xs : List V} {ws : List (List Int)} (e : Ex H H') (h : Wxs H xs ws) : Wxs H' xs ws := Paired.mapP h fun _ _ w => Wx.mono e w
theorem Wxs.wts {K : PySem.W.Frag} {H : Hp} {xs : List V} {ws : List (List Int)} (h : Wxs H xs ws) : Wts K H xs ws := Paired.mapP h fun _ _ w => Wx.wt w
theorem Wxs.exB {H H' : Hp} {xs : List V} {ws : List (List Int)} {p : Addr} {o : HO} (e : ExB p H H') (hp : H p = some o) (ho : ∀ zs, o ≠ .tup zs) (h : Wxs H xs ws) : Wxs H' xs ws := Paired.mapP h fun _ _ w => Wx.exB e hp ho w
theorem Wxs.lst {H H' : Hp} {xs ys : List V} {ws : List (List Int)} {p : Addr} (e : ExB p H H') (hp : H p = some (.lst ys)) (h : Wxs H xs ws) : Wxs H' xs ws := h.exB e hp fun _ z => by cases z
theorem l_addX {K : PySem.W.Frag} {H : Hp} {Q : VK} {a b : Addr} {xs ys : List V} (h1 : H a = some (.tup xs)) (h2 : H b = some (.tup ys)) (hz : xs.length + ys.length ≤ 100000) (k : ∀ p H', Ex H H' → H' p = some (.tup (xs ++ ys)) → Q (.ref p) H') : rAddP K (.ref a) (.ref b) H Q := by
  refine .inr (.inl ⟨a, b, xs, ys, rfl, rfl, SqT.of h1, SqT.of h2, sz hz, fun e => ?_, fun _ e => ?_, fun _ _ p hp => ?_⟩)
  · subst e; exact k _ _ (Evl.Ex.refl _) h2
  · subst e; exact k _ _ (Evl.Ex.refl _) (by rw [List.append_nil]; exact h1)
  · exact k _ _ (Evl.Ex.new hp) upd_same
theorem l_slX {K : PySem.W.Frag} {H : Hp} {Q : VK} {a : Addr} {xs : List V} {lo hi : Option Int} (h : H a = some (.tup xs)) (k : ∀ p H', Ex H H' → H' p = some (.tup (cutV xs lo hi)) → Q (.ref p) H') : rSlP K (.ref a) lo hi H Q := by
  refine .inr ⟨a, xs, rfl, SqT.of h, fun e => ?_, fun _ p hp => k _ _ (Evl.Ex.new hp) upd_same⟩
  refine k _ _ (Evl.Ex.refl _) ?_
  have : cutV xs lo hi = xs := by unfold cutV; rw [e.1, e.2]; simp
  rw [this]; exact h
theorem l_mulX {K : PySem.W.Frag} {H : Hp} {Q : VK} {a : Addr} {xs : List V} {m : Int} (h1 : H a = some (.tup xs)) (hn : xs ≠ []) (hx : xs.length ≤ 1000) (hk : 1 ≤ m ∧ m ≤ 1000) (k : ∀ p H', Ex H H' → H' p = some (.tup (List.replicate m.toNat xs).flatten) → Q (.ref p) H') : rMulP K (.ref a) (.int m) H Q := by
  by_cases e : m = 1
  · subst e
    exact .inr (.inl ⟨a, 1, xs, rfl, rfl, SqT.of h1, rfl, k _ _ (Evl.Ex.refl _) (by simpa using h1)⟩)
  · exact .inr (.inr (.inl ⟨a, m, xs, rfl, rfl, SqT.of h1, hn, by omega, hk.2, hx, fun p hp => k _ _ (Evl.Ex.new hp) upd_same⟩))
theorem Pot.apart {H : Hp} {p a : Addr} {xs : List V} (hp : Pot H p) (h : H a = some (.tup xs)) : a ≠ p := fun z => by
  obtain ⟨_, hq⟩ := hp.lst
  rw [z, hq] at h
  cases h
abbrev DM := List (List Int × V)
def dmK (m : DM) : List (List Key × V) := m.map fun p => (p.1.map Sum.inl, p.2)
def DW (H : Hp) (d : Addr) (m : DM) : Prop := H d = some (.dT (dmK m))
theorem valV_dmK (w : List Int) : ∀ m : DM, valV (dmK m) (w.map Sum.inl) = valV m w
  | [] => rfl
  | p :: m => by
    by_cases e : p.1 = w
    · rw [valV_pos e, show dmK (p :: m) = (p.1.map Sum.inl, p.2) :: dmK m from rfl, valV_pos (by rw [e])]
    · rw [valV_neg e, show dmK (p :: m) = (p.1.map Sum.inl, p.2) :: dmK m from rfl, valV_neg (fun z => e (map_inl _ _ z))]
      exact valV_dmK w m
theorem putK_dmK (w : List Int) (v : V) (m : DM) : putK (dmK m) (w.map Sum.inl) v = dmK (putK m w v) := by
  have ea : ((dmK m).any fun kv => decide (kv.1 = w.map Sum.inl)) = (m.any fun kv => decide (kv.1 = w)) := by
    rw [valV_any, valV_any, valV_dmK]
  unfold putK
  rw [ea]
  split
  · unfold dmK
    rw [List.map_map, List.map_map]
    refine List.map_congr_left fun p _ => ?_
    show (if p.1.map Sum.inl = w.map Sum.inl then (p.1.map Sum.inl, v) else (p.1.map Sum.inl, p.2)) = _
    by_cases e : p.1 = w
    · rw [if_pos (by rw [e])]; simp [e]
    · rw [if_neg (fun z => e (map_inl _ _ z))]; simp [e]
  · unfold dmK
    rw [List.map_append]
    rfl
theorem keys_put {κ : Type} [DecidableEq κ] (m : List (κ × V)) (k : κ) (v : V) : (putK m k v).map (·.1) = if k ∈ m.map (·.1) then m.map (·.1) else m.map (·.1) ++ [k] := by
  unfold putK
  by_cases h : k ∈ m.map (·.1)
  · have : (m.any fun kv => decide (kv.1 = k)) = true := by
      obtain ⟨p, hp, e⟩ := List.mem_map.mp h
      exact List.any_eq_true.mpr ⟨p, hp, decide_eq_true e⟩
    rw [if_pos this, if_pos h, List.map_map]
    refine List.map_congr_left fun p _ => ?_
    show (if p.1 = k then (p.1, v) else p).1 = p.1
    split <;> rfl
  · have : ¬ (m.any fun kv => decide (kv.1 = k)) = true := fun z => by
      obtain ⟨p, hp, e⟩ := List.any_eq_true.mp z
      exact h (List.mem_map.mpr ⟨p, hp, of_decide_eq_true e⟩)
    rw [if_neg this, if_neg h, List.map_append]
    rfl
/-- the keys of m are ws, each once -/
def Keys (m : DM) (ws : List (List Int)) : Prop := (∀ w, w ∈ m.map (·.1) ↔ w ∈ ws) ∧ (m.map (·.1)).Nodup
theorem Keys.nil : Keys [] [] := ⟨fun _ => Iff.rfl, List.nodup_nil⟩
theorem Keys.put {m : DM} {ws : List (List Int)} (h : Keys m ws) (w : List Int) (v : V) : Keys (putK m w v) (ws ++ [w]) := by
  unfold Keys
  rw [keys_put]
  by_cases e : w ∈ m.map (·.1)
  · rw [if_pos e]
    refine ⟨fun u => ?_, h.2⟩
    rw [h.1 u, List.mem_append, List.mem_singleton]
    exact ⟨.inl, fun z => z.elim id fun z => z ▸ (h.1 w).mp e⟩
  · rw [if_neg e]
    refine ⟨fun u => by rw [List.mem_append, List.mem_append, h.1 u], List.nodup_append.mpr ⟨h.2, by simp, fun a ha b hb z => ?_⟩⟩
    rw [List.mem_singleton] at hb
    subst hb
    subst z
    exact e ha
theorem nodup_len_le {α : Type} [BEq α] [LawfulBEq α] : ∀ {l D : List α}, l.Nodup → (∀ x ∈ l, x ∈ D) → l.length ≤ D.length
  | [], _, _, _ => Nat.zero_le _
  | x :: l, D, nd, sub => by
    rw [List.nodup_cons] at nd
    have hx := sub x (by simp)
    have h := nodup_len_le (l := l) (D := D.erase x) nd.2 fun y hy => (List.mem_erase_of_ne (fun z => by subst z; exact nd.1 hy)).mpr (sub y (by simp [hy]))
    have e := List.length_erase_of_mem hx
    have p := List.length_pos_of_mem hx
    simp only [List.length_cons]
    omega
theorem Keys.len {m : DM} {ws : List (List Int)} (h : Keys m ws) : m.length ≤ ws.length := by
  have := nodup_len_le h.2 fun w hw => (h.1 w).mp hw
  rwa [List.length_map] at this
theorem Keys.val {m : DM} {ws : List (List Int)} (h : Keys m ws) (w : List Int) : (valV m w).isSome = decide (w ∈ ws) := by
  rw [← valV_any]
  have : (m.any fun kv => decide (kv.1 = w)) = decide (w ∈ m.map (·.1)) := by
    rw [Bool.eq_iff_iff, List.any_eq_true, decide_eq_true_eq, List.mem_map]
    exact ⟨fun ⟨p, hp, e⟩ => ⟨p, hp, of_decide_eq_true e⟩, fun ⟨p, hp, e⟩ => ⟨p, hp, decide_eq_true e⟩⟩
  rw [this]
  exact decide_eq_decide.mpr (h.1 w)
theorem mapKV (w : List Int) : w.map V.int = (w.map (Sum.inl (β := Str))).map kV := by rw [List.map_map]; rfl
section
variable {K : PySem.W.Frag} {H : Hp} {Q : VK} {d b : Addr} {m : DM} {w : List Int} {v : V}
theorem w_dnew {σ : L2.St} (k : ∀ p H', H p = none → Ex H H' → DW H' p [] → Q (.ref p) H') : tDNewT σ H Q := fun p hp => k p _ hp (Evl.Ex.new hp) upd_same
theorem l_dput {R : Hp → Prop} (h : DW H d m) (hw : H b = some (.tup (w.map V.int))) (hl : m.length < 100000) (k : ∀ H', ExB d H H' → DW H' d (putK m w v) → R H') : rSetA (.ref d) (.ref b) v H R := by
  refine .inr ⟨d, _, rfl, DPut.t (k := w.map Sum.inl) h (by rw [← mapKV]; exact hw) (by unfold dmK; rw [List.length_map]; exact szl hl), k _ ExB.upd ?_⟩
  show upd H d _ d = _
  rw [upd_same, putK_dmK]
theorem DW.get (h : DW H d m) (hw : H b = some (.tup (w.map V.int))) : DGet H d (.ref b) (valV m w) := by
  have := DGet.t (k := w.map Sum.inl) h (by rw [← mapKV]; exact hw)
  rwa [valV_dmK] at this
theorem l_din (h : DW H d m) (hw : H b = some (.tup (w.map V.int))) (k : Q (.bl (valV m w).isSome) H) : rInA K (.ref b) (.ref d) H Q := .inr (.inr ⟨d, _, rfl, h.get hw, k⟩)
theorem l_dnotin (h : DW H d m) (hw : H b = some (.tup (w.map V.int))) (k : Q (.bl (!(valV m w).isSome)) H) : rNotInA K (.ref b) (.ref d) H Q := .inr (.inr ⟨d, _, rfl, h.get hw, k⟩)
theorem l_dix (h : DW H d m) (hw : H b = some (.tup (w.map V.int))) (hv : valV m w = some v) (k : Q v H) : rIxA K (.ref d) (.ref b) H Q := .inr ⟨d, v, rfl, by rw [← hv]; exact h.get hw, k⟩
theorem l_dlen (h : DW H d m) (k : Q (.int (m.length : Nat)) H) : rLenQ K [.ref d] H Q := .inr ⟨d, _, rfl, h, by unfold dmK; rw [List.length_map]; exact k⟩
theorem DW.mono {H' : Hp} (e : Ex H H') (h : DW H d m) : DW H' d m := e _ _ h
theorem DW.fresh {p : Addr} (h : DW H d m) (n : H p = none) : d ≠ p := ne_of_none h n
end
theorem ks_wxs {H : Hp} : ∀ {ks : KS}, (∀ q ∈ ks, H q.1 = some (.tup (q.2.map V.int))) → Wxs H (refsV ks) (ks.map (·.2))
  | [], _ => .nil
  | p :: ks, h => .cons ⟨p.1, rfl, h p (by simp)⟩ (ks_wxs fun q hq => h q (by simp [hq]))
/-- sorted(d): the keys, by their codes -/
theorem l_sortDW {K : PySem.W.Frag} {H : Hp} {Q : VK} {a : Addr} {m : DM} {ws : List (List Int)} {d : Nat} {B : Int} (h : DW H a m) (hk : Keys m ws) (hb : Wb d B ws) (hd : 2 ≤ ws.length → 1 ≤ d)
    (k : ∀ ys us p H', Ring B us ws → H p = none → Ex H H' → H' p = some (.lst ys) → Wxs H' ys us → Q (.ref p) H') : rSortA K [.ref a] H Q := by
  have hb' : ∀ w ∈ m.map (·.1), w.length = d ∧ Sg B w := fun w hw => hb w ((hk.1 w).mp hw)
  refine .inr ⟨a, dmK m, m.map (·.1), d, B, rfl, .inl h, by unfold dmK; rw [List.map_map, List.map_map]; rfl, hb', fun h2 => hd ?_, fun ks' p pm hw hr hn => ?_⟩
  · have := hk.len
    rw [List.length_map] at h2
    omega
  · refine k (refsV ks') (ks'.map (·.2)) p _ ⟨fun w => ?_, ?_⟩ hn (Evl.Ex.new hn) upd_same (ks_wxs fun q hq => (Evl.Ex.new hn) _ _ (hw q hq))
    · rw [pm.mem_iff, hk.1 w]
    · have h1 : (ks'.map (·.2)).Pairwise fun u v => TS.code B u ≤ TS.code B v := List.pairwise_map.mpr hr
      have h2 : (ks'.map (·.2)).Pairwise fun u v => u ≠ v := pm.nodup_iff.mpr hk.2
      refine List.Pairwise.imp_of_mem (fun {u v} hu hv h => ?_) (h1.and h2)
      rcases Int.lt_or_eq_of_le h.1 with z | z
      · exact z
      · exact absurd (code_inj (hb' u (pm.mem_iff.mp hu)) (hb' v (pm.mem_iff.mp hv)) z) h.2
/-- the same over exact words -/
def PvFx (H : Hp) (p : List Int → Bool) (ws : List (List Int)) : Addr → Nat → List V → Hp → Prop := fun _ i acc H1 => Ex H H1 ∧ Wxs H1 acc ((ws.take i).filter p)
theorem l_lcX {K : PySem.W.Frag} {σ : L2.St} {H : Hp} {Q : VK} {tt : TT} {a : Addr} {xs : List V} {ws : List (List Int)} {j : Nat} {vs : List Nat} (p : List Int → Bool) (h : SqL K H a xs) (hW : Wxs H xs ws) (hz : xs.length < 100000) (hw : ∀ x, wipe ((wipe σ vs).set j (some x)) vs = wipe σ vs)
    (hv : ∀ x, ((wipe σ vs).set j (some x))[j]? = some (some x))
    (ht : ∀ x w H1, w ∈ ws → Wx H1 x w → Ex H H1 → ∀ Q' : Bool → Hp → Prop, (∀ H2, Ex H1 H2 → Q' (p w) H2) → tt ((wipe σ vs).set j (some x)) H1 Q')
    (hd : ∀ D H1 acc, H D = none → Ex H H1 → H1 D = some (.lst acc) → Wxs H1 acc (ws.filter p) → Q (.ref D) H1) : LcK (gName j) tt (tVar j) vs (Itl K a) σ H Q := by
  refine l_lc walk_list (PvFx H p ws) (fun D H1 n e h1 => ⟨e, .nil⟩) (fun D i acc H1 _ _ p => Evl.ex_l p.1 h) (fun D i acc x H1 H2 hn hi h1 q y => ?_) (fun D acc H1 hn h1 q => ?_)
  · obtain ⟨rfl, hx⟩ := y
    obtain ⟨e, hq⟩ := q
    obtain ⟨w, hw2, hwt⟩ := pd_at hW hx
    refine ⟨hw x, ?_⟩
    refine ht x w _ (List.mem_of_getElem? hw2) (hwt.mono e) e _ fun H3 e3 => ?_
    refine ifb (fun c => ?_) (fun c => ?_)
    · refine w_var (hv x) ?_
      refine lc_end (Pv := PvFx H p ws) (e3 _ _ h1) (by
        have := Paired.length hq
        have h2 : ((ws.take i).filter p).length ≤ (ws.take i).length := List.length_filter_le ..
        rw [List.length_take] at h2
        omega) fun H6 e6 h6 => ⟨ExB.new (e.trans e3) e6 hn, ?_⟩
      rw [take_at hw2, List.filter_append, List.filter_cons, c]
      exact Wxs.lst e6 (e3 _ _ h1) (pd_app (Wxs.mono e3 hq) (.cons (hwt.mono (e.trans e3)) .nil))
    · refine lc_not (Pv := PvFx H p ws) (e3 _ _ h1) ⟨e.trans e3, ?_⟩
      rw [take_at hw2, List.filter_append, List.filter_cons, c]
      simpa using Wxs.mono e3 hq
  · obtain ⟨e, hq⟩ := q
    rw [Paired.length hW, List.take_length] at hq
    exact hd D H1 acc hn e h1 hq
theorem notN_non : (!decide (V.non = V.non)) = false := by simp
theorem notN_ref {a : Addr} : (!decide (V.ref a = V.non)) = true := by simp
theorem isN_non : decide (V.non = V.non) = true := by simp
theorem isN_ref {a : Addr} : decide (V.ref a = V.non) = false := by simp
/-! list.count of flat values; {k: v} -/
def rCntF (K : PySem.W.Frag) : V → List V → Hp → VK → Prop := fun x xs H Q => ∃ (a : Addr) (ys : List V) (y : V), x = .ref a ∧ xs = [y] ∧ SqL K H a ys ∧ flatV y = true ∧ ys.all flatV = true ∧ Q (.int ((ys.countP fun z => eqV z y : Nat))) H
theorem count_rel {y : V} {uy : Value} (ry : RelV y uy) : ∀ {ys : List V} {us : List Value}, Vals ys us → ys.all flatV = true → us.countP (eqU y) = ys.countP fun z => eqV z y
  | _, _, .nil, _ => rfl
  | z :: ys, u :: us, .cons r t, f => by
    rw [List.all_cons, Bool.and_eq_true] at f
    rw [List.countP_cons, List.countP_cons, count_rel ry t f.2, eqU_of r f.1]
theorem mt_countK {X : Cx} {K : PySem.W.Frag} (h : X.K = K) : MtR X "list.count" (rCntF K) := by
  subst h
  intro pins s σ H x xs v us Q I rx rxs h
  obtain ⟨a, ys, y, rfl, rfl, hs, fy, fys, q⟩ := h
  cases rx
  cases rxs with
  | cons ry rt =>
    rename_i uy ut
    cases rt
    obtain ⟨its, rv, ⟨⟨cls, dd, data, sl⟩, n, ho, hc, hdn, hd⟩, hlen⟩ := I.list hs
    simp only at hc hd
    subst hc hd
    refine call_meets PySem.F.slot_list_count ⟨_, ho, rfl⟩ PySem.F.entry_list_count (PySem.F.args_list_count_2 _ _)
      (SeqAt.list_countAt a its.toArray n dd sl uy (eqU y)) ⟨ho, fun u' hu' => mem_eqAt ry fy rv fys u' (by simpa using hu'), ?_⟩
    refine ⟨.int ((its.toArray.toList.countP (eqU y) : Nat) : Int), H, I.tok _, ⟨s.toks, rfl⟩, ?_⟩
    rw [show its.toArray.toList = its from rfl, count_rel ry rv fys]
    exact q
theorem l_cntB {K : PySem.W.Frag} {H : Hp} {Q : VK} {a : Addr} {bs : List Bool} {b : Bool} (h : SqL K H a (bs.map V.bl)) (k : Q (.int ((bs.count b : Nat))) H) : rCntF K (.ref a) [.bl b] H Q := by
  refine ⟨a, _, _, rfl, rfl, h, rfl, List.all_eq_true.mpr fun x hx => by obtain ⟨_, _, rfl⟩ := List.mem_map.mp hx; rfl, ?_⟩
  have e : (bs.map V.bl).countP (fun z => eqV z (.bl b)) = bs.count b := by
    rw [List.countP_map]
    rfl
  rw [e]
  exact k
def tDict1 (tk tv : TE) : TE := fun σ H Q => ∀ p, H p = none → tk σ (upd H p (.dT [])) fun x H1 => tv σ H1 fun y H2 => ∃ b k, H2 p = some (.dT []) ∧ x = .ref b ∧ H2 b = some (.tup (k.map kV)) ∧ Q (.ref p) (upd H2 p (.dT [(k, y)]))
theorem pe_dict1 {X : Cx} {k v : Expr} {tk tv : TE} {pos : Pos} (hu : X.A.units + 65 < cLine) (hk : PE X k tk) (hv : PE X v tv) : PE X (.Dict [some k] [v] pos) (tDict1 tk tv) := by
  refine ⟨fun pins s σ H Q I q => ?_⟩
  have hn := I.hok.fresh (Nat.le_refl s.heap.objs.size)
  have I1 := I.laid (a := s.heap.objs.size) (o := .dT []) (h' := s.heap.push { cls := .type "dict", data := .dict #[] }) (t' := s.toks) (fun _ _ q => Heap.get?_push_of_some _ q) (Nat.le_refl _) (dt_empty s.heap I.big)
  have hru : (tupleKind (mixKind X.prog X.w)).room X.A := (show X.A.units < cLine by omega)
  rw [arm_eval_Dict, zip_pairTrees [some k] [v] X.env pos rfl rfl, dictDisplay_pairs (pairTrees [some k] [v] X.env pos) (fun z => by have := congrArg List.length z; rw [pairTrees_length _ _ _ _ rfl rfl] at this; cases this) (by rw [pairTrees_length _ _ _ _ rfl rfl]; simp)]
  refine wpAny_bind (wpAny_standAt (wpAny_bind (wpAny_subDictH (knd := tupleKind (mixKind X.prog X.w)) hru (by rw [pairTrees_length _ _ _ _ rfl rfl]; simp) (pairTrees_cons_walk
    (thn (hk.run pins _ σ _ _ I1 (q _ hn)) fun u s1 ⟨x, H1, I2, rx, q1⟩ => thn (hv.run pins s1 σ H1 _ I2 q1) fun w2 s2 ⟨y, H2, I3, ry, q2⟩ => pairTrees_nil_walk ?_)))))
  obtain ⟨b, kk, hp, rfl, hb, q3⟩ := q2
  cases rx
  obtain ⟨z, hd, xs, rel, dd⟩ := dt_of I3.hok hp
  cases rel
  refine ⟨[(kk, b, w2)], ⟨rfl, rfl, key_of I3.hok hb, trivial⟩, dd, fun h' tk dd' hs => wpAny_pure ?_⟩
  obtain ⟨o, es, ep, hq, h2, h3, h4, _, h5⟩ := dd'
  refine ⟨.ref s.heap.objs.size, upd H2 s.heap.objs.size (.dT [(kk, y)]), d_write I3 (by rw [hp]; exact True.intro) hs ⟨o, hq⟩ ⟨sz (by simp), hd, [(kk, b, w2)], .cons ⟨rfl, ?_, ry⟩ .nil, o, es, ep, hq, h2, h3, h4, h5⟩, rfl, q3⟩
  rw [upd_ne (ne_of hb hp (fun z => nomatch z))]
  exact hb
theorem w_dict1 {tk tv : TE} {σ : L2.St} {H : Hp} {Q : VK} (k : ∀ p H1, H p = none → Ex H H1 → DW H1 p [] → tk σ H1 fun x H2 => tv σ H2 fun y H3 => ∃ b w, DW H3 p [] ∧ x = .ref b ∧ H3 b = some (.tup (w.map V.int)) ∧ ∀ H4, ExB p H3 H4 → DW H4 p [(w, y)] → Q (.ref p) H4) (mk : ∀ {σ H P Q}, (∀ x H1, P x H1 → Q x H1) → tk σ H P → tk σ H Q) (mv : ∀ {σ H P Q}, (∀ x H1, P x H1 → Q x H1) → tv σ H P → tv σ H Q) : tDict1 tk tv σ H Q := fun p hp => by
  refine mk (fun x H1 h => mv (fun y H2 h => ?_) h) (k p _ hp (Evl.Ex.new hp) upd_same)
  obtain ⟨b, w, h1, rfl, h2, h3⟩ := h
  refine ⟨b, w.map Sum.inl, h1, rfl, by rw [← mapKV]; exact h2, h3 _ ExB.upd upd_same⟩
/-! strong lists: no two members come to one word -/
theorem vt_putM {x : List Int} {M : Int} {i j : Nat} {s t : Int} (hM : (x.length : Int) + 2 ≤ M) (hx : Sg 2 x) (hi : i ≤ x.length) (hj : j ≤ x.length) (hs : 0 ≤ s ∧ s < 2) (ht : 0 ≤ t ∧ t < 2) (h : wsum (putAt x i s) % M = wsum (putAt x j t) % M) : putAt x i s = putAt x j t := by
  refine vt_put hx hi hj hs ht ?_
  have bd : ∀ (k : Nat) (s : Int), k ≤ x.length → (0 ≤ s ∧ s < 2) → wsum x ≤ wsum (putAt x k s) ∧ wsum (putAt x k s) ≤ wsum x + ((x.length : Int) + 1) := fun k s hk hs => by
    rw [wsum_putAt hk]
    have b := sum_bd (hx.drop k)
    rw [List.length_drop] at b
    have hs' : s = 0 ∨ s = 1 := by omega
    rcases hs' with rfl | rfl <;> omega
  have b1 := bd i s hi hs
  have b2 := bd j t hj ht
  rw [emod_sub_0 h (by omega) (by omega) (by omega)]
theorem st_lost {n : Nat} (hn : 1 ≤ n) {a : Int} {u v : List Int} {i j : Nat} (hu : inSL n a u = true) (hv : inSL n a v = true) (su : Sg 2 u) (sv : Sg 2 v) (hi : i < u.length) (hj : j < v.length) (h : lostAt u i = lostAt v j) : u = v := by
  unfold inSL at hu hv
  rw [Bool.and_eq_true, decide_eq_true_eq, decide_eq_true_eq] at hu hv
  have lu := lostAt_len hi
  have lv := lostAt_len hj
  have pu := put_lost hi
  have pv := put_lost hj
  have wu := hu.2.trans hv.2.symm
  rw [pu, pv, ← h] at wu
  rw [pu, pv, ← h]
  exact vt_putM (M := 2 * (n : Int)) (by omega) (lostAt_sg su) (by omega) (by rw [h]; omega) (sg_at su hi) (sg_at sv hj) wu
theorem st_came {n : Nat} (hn : 1 ≤ n) {a : Int} {y : List Int} {i j : Nat} (hu : inSL n a (lostAt y i) = true) (hv : inSL n a (lostAt y j) = true) (sy : Sg 2 y) (hi : i < y.length) (hj : j < y.length) : lostAt y i = lostAt y j := by
  rcases Nat.lt_trichotomy i j with c | c | c
  · exact st_lost hn hu hv (lostAt_sg sy) (lostAt_sg sy) (by rw [lostAt_len hi]; omega) (by rw [lostAt_len hj]; omega) (lost_lost c hj)
  · rw [c]
  · exact (st_lost hn hv hu (lostAt_sg sy) (lostAt_sg sy) (by rw [lostAt_len hj]; omega) (by rw [lostAt_len hi]; omega) (lost_lost c hi)).symm
theorem split_at {w : List Int} {k : Nat} (h : k < w.length) : w = w.take k ++ [w.getD k 0] ++ w.drop (k + 1) := by
  rw [List.append_assoc]
  have e : [w.getD k 0] ++ w.drop (k + 1) = w.drop k := by
    rw [List.drop_eq_getElem_cons h]
    simp [List.getD, h]
  rw [e, List.take_append_drop]
theorem chg_self {w : List Int} {k : Nat} (h : k < w.length) : chgAt w k (w.getD k 0) = w := (split_at h).symm
theorem chg_back {w : List Int} {k : Nat} {s : Int} (hk : k < w.length) : chgAt (chgAt w k s) k (w.getD k 0) = w := by
  have lt : (w.take k).length = k := by rw [List.length_take]; omega
  have h1 : (chgAt w k s).take k = w.take k := by
    unfold chgAt
    rw [List.append_assoc, List.take_append_of_le_length (by omega), List.take_of_length_le (by omega)]
  have h2 : (chgAt w k s).drop (k + 1) = w.drop (k + 1) := by
    unfold chgAt
    have l2 : (w.take k ++ [s]).length = k + 1 := by simp; omega
    rw [← l2, List.drop_left]
  have e : chgAt (chgAt w k s) k (w.getD k 0) = (chgAt w k s).take k ++ [w.getD k 0] ++ (chgAt w k s).drop (k + 1) := rfl
  rw [e, h1, h2]
  exact chg_self hk
theorem wsum_chgAt {w : List Int} {k : Nat} {s : Int} (h : k < w.length) : wsum (chgAt w k s) = wsum w + ((k : Int) + 1) * (s - w.getD k 0) := by
  have key : ∀ s : Int, wsum (w.take k ++ [s] ++ w.drop (k + 1)) = wsum (w.take k) + ((k : Int) + 1) * s + wsum (w.drop (k + 1)) + ((k : Int) + 1) * (w.drop (k + 1)).sum := fun s => by
    rw [wsum_append, wsum_snoc, List.length_append, List.length_take, Nat.min_eq_left (by omega), List.length_singleton]
    rw [show ((k + 1 : Nat) : Int) = (k : Int) + 1 by omega]
  have e := key (w.getD k 0)
  rw [← split_at h] at e
  unfold chgAt
  rw [key s, e, Int.mul_sub]
  omega
theorem st_chg {n : Nat} (hn : 1 ≤ n) {a : Int} {y : List Int} {i j : Nat} {s t : Int} (hl : y.length = n) (hu : inSL n a (chgAt y i s) = true) (hv : inSL n a (chgAt y j t) = true) (sy : Sg 2 y) (hi : i < n) (hj : j < n) (hs : 0 ≤ s ∧ s < 2) (ht : 0 ≤ t ∧ t < 2) : chgAt y i s = chgAt y j t := by
  unfold inSL at hu hv
  rw [Bool.and_eq_true, decide_eq_true_eq, decide_eq_true_eq] at hu hv
  have wu := hu.2.trans hv.2.symm
  rw [wsum_chgAt (by omega), wsum_chgAt (by omega)] at wu
  have gi := sg_at sy (k := i) (by omega)
  have gj := sg_at sy (k := j) (by omega)
  have ei : y.getD i 0 = s ∨ y.getD i 0 = 0 ∧ s = 1 ∨ y.getD i 0 = 1 ∧ s = 0 := by omega
  have ej : y.getD j 0 = t ∨ y.getD j 0 = 0 ∧ t = 1 ∨ y.getD j 0 = 1 ∧ t = 0 := by omega
  have same : ∀ {A B : Int}, (wsum y + A) % (2 * (n : Int)) = (wsum y + B) % (2 * (n : Int)) → -(2 * (n : Int)) < A - B → A - B < 2 * (n : Int) → A = B := fun h h1 h2 => by
    have := emod_sub_0 h (by omega) (by omega) (by omega)
    omega
  have zi : y.getD i 0 = s → chgAt y i s = y := fun e => by rw [← e]; exact chg_self (by omega)
  have zj : y.getD j 0 = t → chgAt y j t = y := fun e => by rw [← e]; exact chg_self (by omega)
  rcases ei with e | ⟨e, rfl⟩ | ⟨e, rfl⟩ <;> rcases ej with f | ⟨f, rfl⟩ | ⟨f, rfl⟩
  · rw [zi e, zj f]
  · rw [e, f] at wu
    have := same wu (by omega) (by omega)
    omega
  · rw [e, f] at wu
    have := same wu (by omega) (by omega)
    omega
  · rw [e, f] at wu
    have := same wu (by omega) (by omega)
    omega
  · rw [e, f] at wu
    have := same wu (by omega) (by omega)
    have : i = j := by omega
    rw [this]
  · rw [e, f] at wu
    by_cases c : i = n - 1 ∧ j = n - 1
    · exfalso
      rw [c.1] at e
      rw [c.2] at f
      omega
    · have := same wu (by omega) (by omega)
      omega
  · rw [e, f] at wu
    have := same wu (by omega) (by omega)
    omega
  · rw [e, f] at wu
    by_cases c : i = n - 1 ∧ j = n - 1
    · exfalso
      rw [c.1] at e
      rw [c.2] at f
      omega
    · have := same wu (by omega) (by omega)
      omega
  · rw [e, f] at wu
    have := same wu (by omega) (by omega)
    have : i = j := by omega
    rw [this]
/-! things that are none: numbers out of a range, what is no word -/
def numIn (lo hi : Int) : V → Bool
  | .int i => decide (lo ≤ i) && decide (i ≤ hi)
  | _ => false
theorem numIn_int {lo hi i : Int} : numIn lo hi (.int i) = (decide (lo ≤ i) && decide (i ≤ hi)) := rfl
/-- what is let out: of that class, told of nothing more -/
def Rz (K : PySem.W.Frag) (E : XK) (H : Hp) (nm : Str) : Prop := ∃ C, PySem.W.nsIn K mainGlobals nm = some (some (.ref C)) ∧ ∀ H', Ex H H' → E (.ref C) none H'
theorem Rz.mono {K : PySem.W.Frag} {E : XK} {H H1 : Hp} {nm : Str} (e : Ex H H1) (h : Rz K E H nm) : Rz K E H1 nm := by
  obtain ⟨C, hC, k⟩ := h
  exact ⟨C, hC, fun H' e' => k H' (e.trans e')⟩
theorem Rz.at_ {K : PySem.W.Frag} {E : XK} {H H' : Hp} {nm : Str} {C : Addr} (h : Rz K E H nm) (n : PySem.W.nsIn K mainGlobals nm = some (some (.ref C))) (e : Ex H H') : E (.ref C) none H' := by
  obtain ⟨D, hD, k⟩ := h
  rw [hD] at n
  cases n
  exact k _ e
inductive BadW (K : PySem.W.Frag) (H : Hp) (q : Int) : V → Prop where
  | kind {x : V} {T : String} (h : Kd K H x T) (n : kitB T "tuple" = some false) : BadW K H q x
  | long {a : Addr} {xs : List V} (h : SqT K H a xs) (hl : 60 < xs.length) : BadW K H q (.ref a)
  | sign {a : Addr} {xs : List V} (h : SqT K H a xs) (hl : xs.length ≤ 60) (hk : ∀ y ∈ xs, ∃ T, Kd K H y T) (hb : xs.all (signOk q) = false) : BadW K H q (.ref a)
theorem BadW.mono {K : PySem.W.Frag} {H H' : Hp} {q : Int} {x : V} (e : Ex H H') (h : BadW K H q x) : BadW K H' q x := by
  cases h with
  | kind h n => exact .kind (h.mono e) n
  | long h hl => exact .long (Evl.ex_t e h) hl
  | sign h hl hk hb => exact .sign (Evl.ex_t e h) hl (fun y hy => let ⟨T, hT⟩ := hk y hy; ⟨T, hT.mono e⟩) hb
/-- x is the word r, or none -/
inductive WT (K : PySem.W.Frag) (H : Hp) (q : Int) : V → Option (List Int) → Prop where
  | good {x : V} {ns : List Int} (h : Wd K H q x ns) : WT K H q x (some ns)
  | bad {x : V} (h : BadW K H q x) : WT K H q x none
theorem WT.mono {K : PySem.W.Frag} {H H' : Hp} {q : Int} {x : V} {r : Option (List Int)} (e : Ex H H') (h : WT K H q x r) : WT K H' q x r := by
  cases h with
  | good h => exact .good (h.mono e)
  | bad h => exact .bad (h.mono e)
theorem all_signs {q : Int} : ∀ {xs : List V}, xs.all (signOk q) = true → ∃ ns : List Int, xs = ns.map V.int ∧ Sg q ns
  | [], _ => ⟨[], rfl, Sg.nil⟩
  | x :: xs, h => by
    rw [List.all_cons, Bool.and_eq_true] at h
    obtain ⟨ns, rfl, hs⟩ := all_signs h.2
    cases x with
    | int i =>
      have h1 : (decide (0 ≤ i) && decide (i < q)) = true := h.1
      rw [Bool.and_eq_true, decide_eq_true_eq, decide_eq_true_eq] at h1
      exact ⟨i :: ns, rfl, fun m hm => (List.mem_cons.mp hm).elim (fun z => z ▸ h1) (hs m)⟩
    | _ => exact absurd h.1 (by simp [signOk])
theorem wt_tup {K : PySem.W.Frag} {H : Hp} {a : Addr} {xs : List V} (q : Int) (h : SqT K H a xs) (hk : ∀ y ∈ xs, ∃ T, Kd K H y T) : ∃ r, WT K H q (.ref a) r := by
  by_cases hl : xs.length ≤ 60
  · cases hb : xs.all (signOk q) with
    | false => exact ⟨none, .bad (.sign h hl hk hb)⟩
    | true =>
      obtain ⟨ns, rfl, hs⟩ := all_signs hb
      exact ⟨some ns, .good ⟨a, rfl, h, by rw [List.length_map] at hl; exact hl, hs⟩⟩
  · exact ⟨none, .bad (.long h (by omega))⟩
theorem kd_ints {K : PySem.W.Frag} {H : Hp} {ns : List Int} : ∀ y ∈ ns.map V.int, ∃ T, Kd K H y T := fun y hy => by
  obtain ⟨i, _, rfl⟩ := List.mem_map.mp hy
  exact ⟨"int", .int i⟩
theorem pick {xs : List V} {d : Int} (h0 : 0 ≤ d) (h1 : d < xs.length) : ∃ v, atI xs d = some v ∧ v ∈ xs := by
  obtain ⟨k, rfl⟩ : ∃ k : Nat, d = k := ⟨d.toNat, by omega⟩
  have hk : k < xs.length := by omega
  exact ⟨xs[k], atI_nat (List.getElem?_eq_getElem hk), List.getElem_mem hk⟩
theorem l_idxB {K : PySem.W.Frag} {H : Hp} {Q : VK} {a : Addr} {bs : List Bool} {j : Nat} (h : SqL K H a (bs.map V.bl)) (hj : bs[j]? = some true) (hn : ∀ m, m < j → bs[m]? ≠ some true) (k : Q (.int (j : Nat)) H) : rIndex K (.ref a) [.bl true] H Q := by
  refine ⟨a, _, _, j, .bl true, rfl, rfl, h, rfl, List.all_eq_true.mpr fun x hx => by obtain ⟨_, _, rfl⟩ := List.mem_map.mp hx; rfl, by rw [List.getElem?_map, hj]; rfl, rfl, fun m z hm hz => ?_, k⟩
  rw [List.getElem?_map] at hz
  obtain ⟨b, hb, rfl⟩ := Option.map_eq_some_iff.mp hz
  cases b with
  | true => exact absurd hb (hn m hm)
  | false => rfl
theorem l_neS {K : PySem.W.Frag} {H : Hp} {Q : VK} {a b : Str} (k : Q (.bl (!decide (a = b))) H) : rNeP K (.str a) (.str b) H Q := .inl ⟨rfl, by rw [show decide (V.str a = V.str b) = decide (a = b) by simp]; exact k⟩
theorem l_cntBn {K : PySem.W.Frag} {H : Hp} {Q : VK} {a : Addr} (bs : List Bool) (n : Nat) {b : Bool} (h : H a = some (.lst (bs.map V.bl))) (hn : bs.count b = n) (k : Q (.int (n : Nat)) H) : rCntF K (.ref a) [.bl b] H Q := l_cntB (SqL.of h) (by rw [hn]; exact k)
theorem l_idxBn {K : PySem.W.Frag} {H : Hp} {Q : VK} {a : Addr} (bs : List Bool) (j : Nat) (h : H a = some (.lst (bs.map V.bl))) (hj : bs[j]? = some true) (hn : (bs.take j).all (!·) = true) (k : Q (.int (j : Nat)) H) : rIndex K (.ref a) [.bl true] H Q :=
  l_idxB (SqL.of h) hj (fun m hm e => by
    have h1 : (bs.take j)[m]? = some true := by rw [List.getElem?_take, if_pos hm]; exact e
    have := List.all_eq_true.mp hn true (List.mem_of_getElem? h1)
    simp at this) k
theorem w_dnk {σ : L2.St} {H : Hp} {Q : VK} (k : ∀ p H', H p = none → Ex H H' → H' p = some (.dK []) → Q (.ref p) H') : tDNewK σ H Q := fun p hp => k p _ hp (Evl.Ex.new hp) upd_same
theorem kd_exB {K : PySem.W.Frag} {H H' : Hp} {p : Addr} {ys ys' : List V} {x : V} {T : String} (e : ExB p H H') (hp : H p = some (.lst ys)) (hp' : H' p = some (.lst ys')) (h : Kd K H x T) : Kd K H' x T := by
  cases h with
  | non => exact .non
  | bl b => exact .bl b
  | int i => exact .int i
  | str x => exact .str x
  | tup h => exact .tup (exB_t e hp h)
  | @lst a xs h =>
    by_cases c : a = p
    · subst c; exact .lst (SqL.of hp')
    · exact .lst (exB_l e c h)
  | dct h => exact .dct (e _ _ (fun z => by subst z; rw [hp] at h; cases h) h)
theorem BadW.exB {K : PySem.W.Frag} {H H' : Hp} {p : Addr} {ys ys' : List V} {q : Int} {x : V} (e : ExB p H H') (hp : H p = some (.lst ys)) (hp' : H' p = some (.lst ys')) (h : BadW K H q x) : BadW K H' q x := by
  cases h with
  | kind h n => exact .kind (kd_exB e hp hp' h) n
  | long h hl => exact .long (exB_t e hp h) hl
  | sign h hl hk hb => exact .sign (exB_t e hp h) hl (fun y hy => let ⟨T, hT⟩ := hk y hy; ⟨T, kd_exB e hp hp' hT⟩) hb
theorem WT.exB {K : PySem.W.Frag} {H H' : Hp} {p : Addr} {ys ys' : List V} {q : Int} {x : V} {r : Option (List Int)} (e : ExB p H H') (hp : H p = some (.lst ys)) (hp' : H' p = some (.lst ys')) (h : WT K H q x r) : WT K H' q x r := by
  cases h with
  | good h =>
    obtain ⟨a, rfl, h1, h2⟩ := h
    exact .good ⟨a, rfl, exB_t e hp h1, h2⟩
  | bad h => exact .bad (h.exB e hp hp')
theorem wt_kind {K : PySem.W.Frag} {H : Hp} {q : Int} {x : V} {T : String} (h : Kd K H x T) (n : kitB T "tuple" = some false) : ∃ r, WT K H q x r := ⟨none, .bad (.kind h n)⟩
theorem kd_mem {K : PySem.W.Frag} {H : Hp} {x : V} {xs : List V} (h : ∃ T, Kd K H x T) (t : ∀ y ∈ xs, ∃ T, Kd K H y T) : ∀ y ∈ x :: xs, ∃ T, Kd K H y T := fun y hy => (List.mem_cons.mp hy).elim (fun e => e ▸ h) (t y)
theorem kd_nil {K : PySem.W.Frag} {H : Hp} : ∀ y ∈ ([] : List V), ∃ T, Kd K H y T := fun y hy => by cases hy
theorem wt_mem {K : PySem.W.Frag} {H : Hp} {q : Int} {x : V} {xs : List V} (h : ∃ r, WT K H q x r) (t : ∀ y ∈ xs, ∃ r, WT K H q y r) : ∀ y ∈ x :: xs, ∃ r, WT K H q y r := fun y hy => (List.mem_cons.mp hy).elim (fun e => e ▸ h) (t y)
theorem wt_nil {K : PySem.W.Frag} {H : Hp} {q : Int} : ∀ y ∈ ([] : List V), ∃ r, WT K H q y r := fun y hy => by cases hy
theorem l_tupLX {K : PySem.W.Frag} {H : Hp} {Q : VK} {a : Addr} {xs : List V} (h : SqL K H a xs) (k : ∀ p H', H p = none → Ex H H' → H' p = some (.tup xs) → Q (.ref p) H') : rTupOf K [.ref a] H Q := ⟨a, xs, rfl, .inl ⟨h, fun l hl => k _ _ hl (Evl.Ex.new hl) upd_same⟩⟩
theorem dp_nil {K : PySem.W.Frag} {H : Hp} {a : Addr} (h : H a = some (.tup [])) : Dp K H (.ref a) (.tuple (([] : List Int).map PyData.int)) := .tup (SqT.of h) .nil
/-- word != () -/
theorem l_neNil {K : PySem.W.Frag} {H : Hp} {Q : VK} {a b : Addr} {w : List Int} (h1 : SqT K H a (w.map V.int)) (h2 : H b = some (.tup [])) (k : Q (.bl (!decide (w = []))) H) : rNeP K (.ref a) (.ref b) H Q :=
  l_neD (.tup h1 (dp_ints w)) (dp_nil h2) (shaped_ints w) (shaped_ints []) (by rw [eqvT_ints]; exact k)
theorem l_eqNil {K : PySem.W.Frag} {H : Hp} {Q : VK} {a b : Addr} {w : List Int} (h1 : SqT K H a (w.map V.int)) (h2 : H b = some (.tup [])) (k : Q (.bl (decide (w = []))) H) : rEqP K (.ref a) (.ref b) H Q :=
  l_eqD (.tup h1 (dp_ints w)) (dp_nil h2) (shaped_ints w) (shaped_ints []) (by rw [eqvT_ints]; exact k)
theorem l_neW {K : PySem.W.Frag} {H : Hp} {Q : VK} {x y : V} {u w : List Int} (h1 : Wt K H x u) (h2 : Wt K H y w) (k : Q (.bl (!decide (u = w))) H) : rNeP K x y H Q := by
  obtain ⟨a, rfl, h1⟩ := h1
  obtain ⟨b, rfl, h2⟩ := h2
  exact l_neD (.tup h1 (dp_ints u)) (.tup h2 (dp_ints w)) (shaped_ints u) (shaped_ints w) (by rw [eqvT_ints]; exact k)
/-! strong lists: what came, and the member -/
def candsS (n : Nat) (c : List Int) : List (List Int) := if c.length = n then [c] ++ chgs 2 c else if (c.length : Int) = (n : Int) - 1 then puts 2 c else losts c
theorem in_chgs {n : Nat} {c u : List Int} (hn : 1 ≤ n) (lc : c.length = n) (sc : Sg 2 c) (hu : u ∈ [c] ++ chgs 2 c) : ∃ k s, k < n ∧ (0 ≤ s ∧ s < 2) ∧ u = chgAt c k s := by
  rcases List.mem_append.mp hu with hu | hu
  · rw [List.mem_singleton] at hu
    subst hu
    exact ⟨0, u.getD 0 0, by omega, sg_at sc (by omega), (chg_self (by omega)).symm⟩
  · obtain ⟨k, s, hk, hs, e⟩ := mem_chgs.mp hu
    exact ⟨k, s, by omega, hs, e⟩
theorem candsS_one {n : Nat} (hn : 1 ≤ n) {a : Int} {c u v : List Int} (hl : c.length ≤ n + 1 ∧ n ≤ c.length + 1) (sc : Sg 2 c) (hu : u ∈ candsS n c) (hv : v ∈ candsS n c) (mu : inSL n a u = true) (mv : inSL n a v = true) : u = v := by
  unfold candsS at hu hv
  split at hu
  · rename_i z
    rw [if_pos z] at hv
    obtain ⟨i, s, hi, hs, rfl⟩ := in_chgs hn z sc hu
    obtain ⟨j, t, hj, ht, rfl⟩ := in_chgs hn z sc hv
    exact st_chg hn z mu mv sc hi hj hs ht
  · rename_i z
    rw [if_neg z] at hv
    split at hu
    · rename_i z2
      rw [if_pos z2] at hv
      obtain ⟨i, s, hi, hs, rfl⟩ := mem_puts.mp hu
      obtain ⟨j, t, hj, ht, rfl⟩ := mem_puts.mp hv
      exact st_lost hn mu mv (putAt_sg sc hs) (putAt_sg sc ht) (by rw [putAt_len hi]; omega) (by rw [putAt_len hj]; omega) ((lost_put hi).trans (lost_put hj).symm)
    · rename_i z2
      rw [if_neg z2] at hv
      obtain ⟨i, hi, rfl⟩ := mem_losts.mp hu
      obtain ⟨j, hj, rfl⟩ := mem_losts.mp hv
      exact st_came hn mu mv sc hi hj
theorem candsS_wd {n : Nat} {c u : List Int} (sc : Sg 2 c) (hl : c.length ≤ n + 1 ∧ n ≤ c.length + 1) (hu : u ∈ candsS n c) : u.length = n ∧ Sg 2 u := by
  unfold candsS at hu
  split at hu
  · rename_i z
    rcases List.mem_append.mp hu with hu | hu
    · rw [List.mem_singleton] at hu; subst hu; exact ⟨z, sc⟩
    · have := chgs_wb sc u hu; exact ⟨by omega, this.2⟩
  · split at hu
    · have := puts_wb sc u hu; exact ⟨by omega, this.2⟩
    · have := losts_wb sc u hu; exact ⟨by omega, this.2⟩
def MendS (K : PySem.W.Frag) (H : Hp) (n : Nat) (a : Int) (c : List Int) (v : V) : Prop := (∃ u, Wt K H v u ∧ u ∈ candsS n c ∧ inSL n a u = true) ∨ (v = .non ∧ ∀ u ∈ candsS n c, inSL n a u = false)
/-- what may come of w by one loss, one putting in, one change, nothing -/
def comeS (w : List Int) : List (List Int) := [w] ++ losts w ++ puts 2 w ++ chgs 2 w
theorem comeS_cand {n : Nat} {w c : List Int} (hn : 1 ≤ n) (hl : w.length = n) (sw : Sg 2 w) (h : c ∈ comeS w) : Sg 2 c ∧ (c.length ≤ n + 1 ∧ n ≤ c.length + 1) ∧ w ∈ candsS n c := by
  unfold comeS at h
  rcases List.mem_append.mp h with h | h
  · rcases List.mem_append.mp h with h | h
    · rcases List.mem_append.mp h with h | h
      · rw [List.mem_singleton] at h
        subst h
        refine ⟨sw, by omega, ?_⟩
        unfold candsS
        rw [if_pos hl]
        simp
      · obtain ⟨k, hk, rfl⟩ := mem_losts.mp h
        have := lostAt_len hk
        refine ⟨lostAt_sg sw, by omega, ?_⟩
        unfold candsS
        rw [if_neg (by omega), if_pos (by omega)]
        exact mem_puts.mpr ⟨k, w.getD k 0, by omega, sg_at sw hk, put_lost hk⟩
    · obtain ⟨k, s, hk, hs, rfl⟩ := mem_puts.mp h
      have := putAt_len (s := s) hk
      refine ⟨putAt_sg sw hs, by omega, ?_⟩
      unfold candsS
      rw [if_neg (by omega), if_neg (by omega)]
      exact mem_losts.mpr ⟨k, by omega, (lost_put hk).symm⟩
  · obtain ⟨k, s, hk, hs, rfl⟩ := mem_chgs.mp h
    have lk := chgAt_len (s := s) hk
    refine ⟨chgAt_sg sw hs, by omega, ?_⟩
    unfold candsS
    rw [if_pos (by omega)]
    refine List.mem_append_right _ (mem_chgs.mpr ⟨k, w.getD k 0, by omega, sg_at sw hk, ?_⟩)
    exact (chg_back hk).symm
/-! truths as data -/
theorem dp_bls {K : PySem.W.Frag} {H : Hp} : ∀ bs : List Bool, DpAll K H (bs.map V.bl) (bs.map PyData.bool)
  | [] => .nil
  | b :: bs => .cons (.bl b) (dp_bls bs)
theorem lay_bls : ∀ bs : List Bool, PyData.canLayAll0 (bs.map PyData.bool) = true ∧ PyData.depthAll (bs.map PyData.bool) = 0
  | [] => ⟨rfl, rfl⟩
  | b :: bs => by
    obtain ⟨h1, h2⟩ := lay_bls bs
    refine ⟨?_, ?_⟩
    · show (PyData.canLay0 (.bool b) && PyData.canLayAll0 (bs.map PyData.bool)) = true
      rw [h1]; rfl
    · show max (PyData.depth (.bool b)) (PyData.depthAll (bs.map PyData.bool)) = 0
      rw [h2]; rfl
theorem shaped_bls (bs : List Bool) : SeqAt.shaped (.list (bs.map PyData.bool)) = true := by
  obtain ⟨h1, h2⟩ := lay_bls bs
  show (PyData.canLayAll0 (bs.map PyData.bool) && decide (PyData.depthAll (bs.map PyData.bool) + 1 ≤ 64)) = true
  rw [h1, h2]; rfl
theorem eqv_bls : ∀ xs ys : List Bool, PyData.eqvAll (xs.map PyData.bool) (ys.map PyData.bool) = decide (xs = ys)
  | [], [] => by simp [PyData.eqvAll]
  | [], _ :: _ => by simp [PyData.eqvAll]
  | _ :: _, [] => by simp [PyData.eqvAll]
  | x :: xs, y :: ys => by
    show (PyData.eqv (.bool x) (.bool y) && PyData.eqvAll (xs.map PyData.bool) (ys.map PyData.bool)) = _
    rw [eqv_bls xs ys]
    have e : PyData.eqv (.bool x) (.bool y) = (x == y) := by cases x <;> cases y <;> rfl
    rw [e]
    cases x <;> cases y <;> simp
theorem l_eqBs {K : PySem.W.Frag} {H : Hp} {Q : VK} {a b : Addr} (bs cs : List Bool) (h1 : H a = some (.lst (bs.map V.bl))) (h2 : H b = some (.lst (cs.map V.bl))) (k : Q (.bl (decide (bs = cs))) H) : rEqP K (.ref a) (.ref b) H Q := by
  refine l_eqD (.lst (SqL.of h1) (dp_bls bs)) (.lst (SqL.of h2) (dp_bls cs)) (shaped_bls _) (shaped_bls _) ?_
  rw [show PyData.eqv (.list (bs.map PyData.bool)) (.list (cs.map PyData.bool)) = PyData.eqvAll (bs.map PyData.bool) (cs.map PyData.bool) from rfl, eqv_bls]
  exact k
theorem Pot.ne {H : Hp} {p l : Addr} (hp : Pot H p) (hn : H l = none) : l ≠ p := fun z => by
  obtain ⟨_, hq⟩ := hp.lst
  rw [z, hq] at hn
  cases hn
theorem kd_pot {K : PySem.W.Frag} {H H' : Hp} {p : Addr} {x : V} {T : String} (e : ExB p H H') (hp : Pot H p) (hp' : Pot H' p) (h : Kd K H x T) : Kd K H' x T := by
  obtain ⟨_, a⟩ := hp.lst
  obtain ⟨_, b⟩ := hp'.lst
  exact kd_exB e a b h
theorem wt_pot {K : PySem.W.Frag} {H H' : Hp} {p : Addr} {q : Int} {x : V} {r : Option (List Int)} (e : ExB p H H') (hp : Pot H p) (hp' : Pot H' p) (h : WT K H q x r) : WT K H' q x r := by
  obtain ⟨_, a⟩ := hp.lst
  obtain ⟨_, b⟩ := hp'.lst
  exact h.exB e a b
theorem numIn_true {lo hi : Int} {x : V} (h : numIn lo hi x = true) : ∃ i, x = .int i ∧ lo ≤ i ∧ i ≤ hi := by
  cases x with
  | int i =>
    rw [numIn_int, Bool.and_eq_true, decide_eq_true_eq, decide_eq_true_eq] at h
    exact ⟨i, rfl, h⟩
  | _ => cases h
theorem signOk_true {q : Int} {x : V} (h : signOk q x = true) : ∃ i, x = .int i ∧ 0 ≤ i ∧ i < q := by
  cases x with
  | int i =>
    rw [show signOk q (.int i) = (decide (0 ≤ i) && decide (i < q)) from rfl, Bool.and_eq_true, decide_eq_true_eq, decide_eq_true_eq] at h
    exact ⟨i, rfl, h⟩
  | _ => cases h
theorem cut_toA {xs : List V} (k : Nat) : cutV xs none (some (k : Int)) = xs.take k := by
  by_cases h : k ≤ xs.length
  · exact cut_to h
  · have e : HT.sIx xs.length xs.length (some (k : Int)) = xs.length := by
      unfold HT.sIx
      simp only [show ¬ ((k : Int) < 0) by omega, if_false, Int.toNat_natCast]
      omega
    unfold cutV
    rw [e]
    show (xs.drop 0).take (xs.length - 0) = _
    rw [List.drop_zero, List.take_of_length_le (by omega), List.take_of_length_le (by omega)]
theorem cut_fromA {xs : List V} (k : Nat) : cutV xs (some (k : Int)) none = xs.drop k := by
  by_cases h : k ≤ xs.length
  · exact cut_from h
  · have e : HT.sIx xs.length 0 (some (k : Int)) = xs.length := by
      unfold HT.sIx
      simp only [show ¬ ((k : Int) < 0) by omega, if_false, Int.toNat_natCast]
      omega
    unfold cutV
    rw [e]
    show (xs.drop xs.length).take (xs.length - xs.length) = _
    rw [List.drop_eq_nil_of_le (Nat.le_refl _), List.drop_eq_nil_of_le (by omega)]; simp
/-- the first k of a word -/
theorem cut_few (ns : List Int) (k : Nat) : cutV (ns.map V.int) none (some (k : Int)) = (ns.take k).map V.int := by rw [cut_toA, List.map_take]
/-- any slice from a place on to another one -/
theorem cut_nn {xs : List V} (k j : Nat) : cutV xs (some (k : Int)) (some (j : Int)) = (xs.drop k).take (j - k) := by
  unfold cutV
  rw [show HT.sIx xs.length 0 (some (k : Int)) = min k xs.length from HT.sIx_nat .., show HT.sIx xs.length xs.length (some (j : Int)) = min j xs.length from HT.sIx_nat ..]
  by_cases h : k ≤ xs.length
  · rw [Nat.min_eq_left h]
    by_cases h2 : j ≤ xs.length
    · rw [Nat.min_eq_left h2]
    · rw [Nat.min_eq_right (by omega), List.take_of_length_le (by simp), List.take_of_length_le (by simp; omega)]
  · rw [Nat.min_eq_right (show xs.length ≤ k by omega), List.drop_of_length_le (Nat.le_refl _), List.drop_of_length_le (show xs.length ≤ k by omega)]
    simp
/-- truths of the words of a list -/
theorem l_lcWB {K : PySem.W.Frag} {σ : L2.St} {H : Hp} {Q : VK} {te : TE} {a : Addr} {xs : List V} {ws : List (List Int)} {j : Nat} {vs : List Nat} (f : List Int → Bool) (h : SqL K H a xs) (hW : Wts K H xs ws) (hz : xs.length < 100000) (hw : ∀ x, wipe ((wipe σ vs).set j (some x)) vs = wipe σ vs)
    (hs : ∀ x w H1, w ∈ ws → Wt K H1 x w → Ex H H1 → ∀ Q' : VK, (∀ H2, Ex H1 H2 → Q' (.bl (f w)) H2) → te ((wipe σ vs).set j (some x)) H1 Q')
    (hd : ∀ D H1, H D = none → Ex H H1 → H1 D = some (.lst ((ws.map f).map V.bl)) → Q (.ref D) H1) : LcK (gName j) tYes te vs (Itl K a) σ H Q := by
  refine l_lc walk_list (fun _ i acc H1 => Ex H H1 ∧ acc = ((ws.take i).map f).map V.bl) (fun D H1 n e h1 => ⟨e, rfl⟩) (fun D i acc H1 _ _ p => Evl.ex_l p.1 h) (fun D i acc x H1 H2 hn hi h1 q y => ?_) (fun D acc H1 hn h1 q => ?_)
  · obtain ⟨rfl, hx⟩ := y
    obtain ⟨e, rfl⟩ := q
    obtain ⟨w, hw2, hwt⟩ := pd_at hW hx
    refine ⟨hw x, w_yes ?_⟩
    refine iteT ?_
    refine hs x w _ (List.mem_of_getElem? hw2) (hwt.mono e) e _ fun H3 e3 => ?_
    refine lc_end (Pv := fun _ i acc H1 => Ex H H1 ∧ acc = ((ws.take i).map f).map V.bl) (e3 _ _ h1) (by simp; omega) fun H6 e6 h6 => ⟨ExB.new (e.trans e3) e6 hn, ?_⟩
    rw [take_at hw2]
    simp
  · obtain ⟨e, rfl⟩ := q
    rw [Paired.length hW, List.take_length] at h1
    exact hd D H1 hn e h1
theorem l_eqS {K : PySem.W.Frag} {H : Hp} {Q : VK} {a b : Str} (k : Q (.bl (decide (a = b))) H) : rEqP K (.str a) (.str b) H Q := .inl ⟨rfl, by rw [show decide (V.str a = V.str b) = decide (a = b) by simp]; exact k⟩
def topS (i : Nat) : Stmt := PySem.Challenge.pw_lostmark_k83_whole_nearness.main.body.getD i (.Pass ⟨0, 0, 0, 0⟩)
abbrev S_is_number : Stmt := topS 10
theorem sc_is_number : FnScope ["thing"] ["thing"] (defScope S_is_number) := ⟨rfl, rfl, rfl, by decide +kernel, rfl, by decide +kernel, by decide +kernel⟩
abbrev S_want_count : Stmt := topS 11
theorem sc_want_count : FnScope ["q"] ["q"] (defScope S_want_count) := ⟨rfl, rfl, rfl, by decide +kernel, rfl, by decide +kernel, by decide +kernel⟩
abbrev S_is_sign : Stmt := topS 12
theorem sc_is_sign : FnScope ["q", "thing"] ["q", "thing"] (defScope S_is_sign) := ⟨rfl, rfl, rfl, by decide +kernel, rfl, by decide +kernel, by decide +kernel⟩
abbrev S_want_word : Stmt := topS 13
theorem sc_want_word : FnScope ["q", "word", "sign"] ["q", "word"] (defScope S_want_word) := ⟨rfl, rfl, rfl, by decide +kernel, rfl, by decide +kernel, by decide +kernel⟩
abbrev S_lengths_from : Stmt := topS 15
theorem sc_lengths_from : FnScope ["one", "other", "rows", "sign", "later", "row", "k"] ["one", "other"] (defScope S_lengths_from) := ⟨rfl, rfl, rfl, by decide +kernel, rfl, by decide +kernel, by decide +kernel⟩
abbrev S_first_sign : Stmt := topS 16
theorem sc_first_sign : FnScope ["one", "other", "lengths", "i", "j", "sign", "at", "behind"] ["one", "other", "lengths", "i", "j"] (defScope S_first_sign) := ⟨rfl, rfl, rfl, by decide +kernel, rfl, by decide +kernel, by decide +kernel⟩
abbrev S_common_row : Stmt := topS 17
theorem sc_common_row : FnScope ["one", "other", "lengths", "found", "i", "j", "sign"] ["one", "other"] (defScope S_common_row) := ⟨rfl, rfl, rfl, by decide +kernel, rfl, by decide +kernel, by decide +kernel⟩
abbrev S_nearness : Stmt := topS 18
theorem sc_nearness : FnScope ["one", "other", "row"] ["one", "other"] (defScope S_nearness) := ⟨rfl, rfl, rfl, by decide +kernel, rfl, by decide +kernel, by decide +kernel⟩
abbrev S_want_place : Stmt := topS 20
theorem sc_want_place : FnScope ["k", "most"] ["k", "most"] (defScope S_want_place) := ⟨rfl, rfl, rfl, by decide +kernel, rfl, by decide +kernel, by decide +kernel⟩
abbrev S_lost : Stmt := topS 21
theorem sc_lost : FnScope ["q", "word", "k"] ["q", "word", "k"] (defScope S_lost) := ⟨rfl, rfl, rfl, by decide +kernel, rfl, by decide +kernel, by decide +kernel⟩
abbrev S_put_in : Stmt := topS 22
theorem sc_put_in : FnScope ["q", "word", "k", "sign"] ["q", "word", "k", "sign"] (defScope S_put_in) := ⟨rfl, rfl, rfl, by decide +kernel, rfl, by decide +kernel, by decide +kernel⟩
abbrev S_L_at : Stmt := topS 24
theorem sc_L_at : FnScope ["_law_script", "_law_k"] ["_law_script", "_law_k"] (defScope S_L_at) := ⟨rfl, rfl, rfl, by decide +kernel, rfl, by decide +kernel, by decide +kernel⟩
abbrev S_L_pot : Stmt := topS 25
theorem sc_L_pot : FnScope ["_law_script", "_law_k", "_law_seed", "_law_cell", "_law_number"] ["_law_script", "_law_k"] (defScope S_L_pot) := ⟨rfl, rfl, rfl, by decide +kernel, rfl, by decide +kernel, by decide +kernel⟩
abbrev S_L_digit : Stmt := topS 26
theorem sc_L_digit : FnScope ["_law_pot_here", "_law_base", "_law_digit_here"] ["_law_pot_here", "_law_base"] (defScope S_L_digit) := ⟨rfl, rfl, rfl, by decide +kernel, rfl, by decide +kernel, by decide +kernel⟩
abbrev S_L_long : Stmt := topS 27
theorem sc_L_long : FnScope ["_law_pot_here", "_law_q", "_law_n", "_law_k"] ["_law_pot_here", "_law_q", "_law_n"] (defScope S_L_long) := ⟨rfl, rfl, rfl, by decide +kernel, rfl, by decide +kernel, by decide +kernel⟩
abbrev S_L_word : Stmt := topS 28
theorem sc_L_word : FnScope ["_law_pot_here", "_law_q", "_law_most"] ["_law_pot_here", "_law_q", "_law_most"] (defScope S_L_word) := ⟨rfl, rfl, rfl, by decide +kernel, rfl, by decide +kernel, by decide +kernel⟩
abbrev S_L_runny : Stmt := topS 29
theorem sc_L_runny : FnScope ["_law_pot_here", "_law_q", "_law_most", "_law_many", "_law_word_here"] ["_law_pot_here", "_law_q", "_law_most"] (defScope S_L_runny) := ⟨rfl, rfl, rfl, by decide +kernel, rfl, by decide +kernel, by decide +kernel⟩
abbrev S_L_bent : Stmt := topS 32
theorem sc_L_bent : FnScope ["_law_pot_here", "_law_q", "_law_word_here", "_law_found", "_law_k", "_law_at_here", "_law_way", "_law_fresh"] ["_law_pot_here", "_law_q", "_law_word_here"] (defScope S_L_bent) := ⟨rfl, rfl, rfl, by decide +kernel, rfl, by decide +kernel, by decide +kernel⟩
abbrev S_L_two : Stmt := topS 33
theorem sc_L_two : FnScope ["_law_script", "_law_most", "_law_pot_here", "_law_q", "_law_one", "_law_other"] ["_law_script", "_law_most"] (defScope S_L_two) := ⟨rfl, rfl, rfl, by decide +kernel, rfl, by decide +kernel, by decide +kernel⟩
abbrev S_L_weighted : Stmt := topS 34
theorem sc_L_weighted : FnScope ["_law_word_here", "_law_k", "_law_sign"] ["_law_word_here"] (defScope S_L_weighted) := ⟨rfl, rfl, rfl, by decide +kernel, rfl, by decide +kernel, by decide +kernel⟩
abbrev S_L_put : Stmt := topS 35
theorem sc_L_put : FnScope ["_law_q", "_law_word_here", "_law_found", "_law_k", "_law_sign"] ["_law_q", "_law_word_here"] (defScope S_L_put) := ⟨rfl, rfl, rfl, by decide +kernel, rfl, by decide +kernel, by decide +kernel⟩
abbrev S_L_losses : Stmt := topS 36
theorem sc_L_losses : FnScope ["_law_word_here", "_law_row", "_law_steps", "_law_found", "_law_at_here"] ["_law_word_here", "_law_row"] (defScope S_L_losses) := ⟨rfl, rfl, rfl, by decide +kernel, rfl, by decide +kernel, by decide +kernel⟩
abbrev S_L_fits : Stmt := topS 37
theorem sc_L_fits : FnScope ["_law_row", "_law_word_here", "_law_at_here", "_law_sign"] ["_law_row", "_law_word_here"] (defScope S_L_fits) := ⟨rfl, rfl, rfl, by decide +kernel, rfl, by decide +kernel, by decide +kernel⟩
abbrev S_L_led : Stmt := topS 38
theorem sc_L_led : FnScope ["_law_one", "_law_other", "_law_row", "_law_word_here", "_law_many", "_law_at_here", "_law_sign", "_law_back"] ["_law_one", "_law_other"] (defScope S_L_led) := ⟨rfl, rfl, rfl, by decide +kernel, rfl, by decide +kernel, by decide +kernel⟩
abbrev S_L_member : Stmt := topS 39
theorem sc_L_member : FnScope ["_law_n", "_law_a", "_law_short", "_law_word_here"] ["_law_n", "_law_a", "_law_short"] (defScope S_L_member) := ⟨rfl, rfl, rfl, by decide +kernel, rfl, by decide +kernel, by decide +kernel⟩
abbrev S_law : Stmt := topS 40
theorem sc_law : FnScope ["_law_script", "_law_one", "_law_other", "_law_pot_here", "_law_third", "_law_near", "_law_n", "_law_a", "_law_left", "_law_right"] ["_law_script"] (defScope S_law) := ⟨rfl, rfl, rfl, by decide +kernel, rfl, by decide +kernel, by decide +kernel⟩
def s_is_number (K : PySem.W.Frag) (x0 : V) (H : Hp) (Q : VK) (E : XK) : Prop := ∃ T, Kd K H x0 T ∧ Q (.bl (isNum x0)) H
def sp_is_number (K : PySem.W.Frag) : Sp := fun vs H Q E => match vs with
  | [x0] => s_is_number K x0 H Q E
  | _ => False
def s_want_count (K : PySem.W.Frag) (x0 : V) (H : Hp) (Q : VK) (E : XK) : Prop := ∃ q : Int, x0 = .int q ∧ (2 ≤ q ∧ q ≤ 36) ∧ Q .non H
def sp_want_count (K : PySem.W.Frag) : Sp := fun vs H Q E => match vs with
  | [x0] => s_want_count K x0 H Q E
  | _ => False
def s_is_sign (K : PySem.W.Frag) (x0 x1 : V) (H : Hp) (Q : VK) (E : XK) : Prop := ∃ (q : Int) (T : String), x0 = .int q ∧ Kd K H x1 T ∧ Q (.bl (signOk q x1)) H
def sp_is_sign (K : PySem.W.Frag) : Sp := fun vs H Q E => match vs with
  | [x0, x1] => s_is_sign K x0 x1 H Q E
  | _ => False
def s_want_word (K : PySem.W.Frag) (x0 x1 : V) (H : Hp) (Q : VK) (E : XK) : Prop := ∃ (q : Int) (ns : List Int), x0 = .int q ∧ (2 ≤ q ∧ q ≤ 36) ∧ Wd K H q x1 ns ∧ ∀ H', Ex H H' → Q .non H'
def sp_want_word (K : PySem.W.Frag) : Sp := fun vs H Q E => match vs with
  | [x0, x1] => s_want_word K x0 x1 H Q E
  | _ => False
/-! longest common rows -/
def lcsN : List Int → List Int → Nat
  | [], _ => 0
  | _ :: _, [] => 0
  | a :: u, b :: v => if b = a then 1 + lcsN u v else max (lcsN (a :: u) v) (lcsN u (b :: v))
termination_by u v => u.length + v.length
theorem lcs_nil (v : List Int) : lcsN [] v = 0 := by rw [lcsN]
theorem lcs_nil2 (u : List Int) : lcsN u [] = 0 := by cases u <;> rw [lcsN]
theorem lcs_eq (a b : Int) (u v : List Int) : lcsN (a :: u) (b :: v) = if b = a then 1 + lcsN u v else max (lcsN (a :: u) v) (lcsN u (b :: v)) := by rw [lcsN]
theorem lcs_le : ∀ (u v r : List Int), r.Sublist u → r.Sublist v → r.length ≤ lcsN u v
  | [], v, r, h, _ => by rw [List.sublist_nil.mp h]; exact Nat.zero_le _
  | _ :: _, [], r, _, g => by rw [List.sublist_nil.mp g]; exact Nat.zero_le _
  | a :: u, b :: v, r, h, g => by
    rw [lcs_eq]
    rcases List.sublist_cons_iff.mp h with h1 | ⟨r1, e1, h1⟩
    · by_cases c : b = a
      · rw [if_pos c]
        rcases List.sublist_cons_iff.mp g with g1 | ⟨r2, e2, g2⟩
        · have := lcs_le u v r h1 g1
          omega
        · have := lcs_le u v r2 ((List.sublist_cons_self b r2).trans (e2 ▸ h1)) g2
          rw [e2, List.length_cons]
          omega
      · rw [if_neg c]
        have := lcs_le u (b :: v) r h1 g
        omega
    · rcases List.sublist_cons_iff.mp g with g1 | ⟨r2, e2, g2⟩
      · by_cases c : b = a
        · rw [if_pos c]
          have := lcs_le u v r1 h1 ((List.sublist_cons_self a r1).trans (e1 ▸ g1))
          rw [e1, List.length_cons]
          omega
        · rw [if_neg c]
          have := lcs_le (a :: u) v r h g1
          omega
      · rw [e1] at e2
        obtain ⟨e3, e4⟩ := List.cons.inj e2
        rw [if_pos e3.symm, e1, List.length_cons]
        have := lcs_le u v r1 h1 (e4 ▸ g2)
        omega
termination_by u v => u.length + v.length
theorem lcs_ex : ∀ (u v : List Int), ∃ r : List Int, r.Sublist u ∧ r.Sublist v ∧ r.length = lcsN u v
  | [], v => ⟨[], List.nil_sublist _, List.nil_sublist _, by rw [lcs_nil]; rfl⟩
  | a :: u, [] => ⟨[], List.nil_sublist _, List.nil_sublist _, by rw [lcs_nil2]; rfl⟩
  | a :: u, b :: v => by
    rw [lcs_eq]
    by_cases c : b = a
    · rw [if_pos c]
      obtain ⟨r, h1, h2, h3⟩ := lcs_ex u v
      subst c
      exact ⟨b :: r, List.cons_sublist_cons.mpr h1, List.cons_sublist_cons.mpr h2, by rw [List.length_cons, h3]; omega⟩
    · rw [if_neg c]
      obtain ⟨r, h1, h2, h3⟩ := lcs_ex (a :: u) v
      obtain ⟨r', h1', h2', h3'⟩ := lcs_ex u (b :: v)
      by_cases d : lcsN u (b :: v) ≤ lcsN (a :: u) v
      · exact ⟨r, h1, h2.trans (List.sublist_cons_self b v), by rw [h3]; omega⟩
      · exact ⟨r', h1'.trans (List.sublist_cons_self a u), h2', by rw [h3']; omega⟩
termination_by u v => u.length + v.length
/-- what stands behind the first s -/
def aft (s : Int) (u : List Int) : List Int := u.drop (u.idxOf s + 1)
theorem aft_sub {s : Int} {t : List Int} : ∀ {u : List Int}, (s :: t).Sublist u ↔ s ∈ u ∧ t.Sublist (aft s u)
  | [] => by simp
  | a :: u => by
    by_cases c : a = s
    · subst c
      have e : aft a (a :: u) = u := by simp [aft]
      rw [e]
      constructor
      · intro h
        exact ⟨by simp, List.cons_sublist_cons.mp h⟩
      · rintro ⟨_, h⟩
        exact List.cons_sublist_cons.mpr h
    · have e : aft s (a :: u) = aft s u := by
        unfold aft
        rw [List.idxOf_cons, show (a == s) = false from beq_eq_false_iff_ne.mpr c]
        rfl
      rw [e]
      constructor
      · intro h
        rcases List.sublist_cons_iff.mp h with h1 | ⟨r, e1, _⟩
        · obtain ⟨h2, h3⟩ := aft_sub.mp h1
          exact ⟨by simp [h2], h3⟩
        · exact absurd (List.cons.inj e1).1.symm c
      · rintro ⟨h1, h2⟩
        have h3 : s ∈ u := by
          rcases List.mem_cons.mp h1 with z | z
          · exact absurd z.symm c
          · exact z
        exact (aft_sub.mpr ⟨h3, h2⟩).trans (List.sublist_cons_self a u)
def Com (u v t : List Int) : Prop := t.Sublist u ∧ t.Sublist v
def Cand (u v : List Int) (s : Int) : Prop := s ∈ u ∧ s ∈ v ∧ 1 + lcsN (aft s u) (aft s v) = lcsN u v
theorem com_cons {u v t : List Int} {s : Int} : Com u v (s :: t) ↔ s ∈ u ∧ s ∈ v ∧ Com (aft s u) (aft s v) t := by
  unfold Com
  rw [aft_sub, aft_sub]
  exact ⟨fun ⟨⟨a, b⟩, c, d⟩ => ⟨a, c, b, d⟩, fun ⟨a, c, b, d⟩ => ⟨⟨a, b⟩, c, d⟩⟩
theorem com_le {u v t : List Int} (h : Com u v t) : t.length ≤ lcsN u v := lcs_le u v t h.1 h.2
theorem cand_le {u v : List Int} {s : Int} (h1 : s ∈ u) (h2 : s ∈ v) : 1 + lcsN (aft s u) (aft s v) ≤ lcsN u v := by
  obtain ⟨r, a, b, c⟩ := lcs_ex (aft s u) (aft s v)
  have := com_le (com_cons.mpr ⟨h1, h2, a, b⟩)
  rw [List.length_cons] at this
  omega
theorem lcs_cand {u v : List Int} (h : 0 < lcsN u v) : ∃ s, Cand u v s := by
  obtain ⟨r, a, b, c⟩ := lcs_ex u v
  cases r with
  | nil => rw [← c] at h; exact absurd h (by simp)
  | cons s t =>
    obtain ⟨h1, h2, h3⟩ := com_cons.mp ⟨a, b⟩
    have h4 := com_le h3
    have h5 := cand_le h1 h2
    rw [List.length_cons] at c
    exact ⟨s, h1, h2, by omega⟩
/-- x is ahead of y: longer, or as long and lesser -/
def btB (x y : List Int) : Prop := y.length < x.length ∨ (x.length = y.length ∧ HT.lexLt x y = true)
theorem lex_tri : ∀ (x y : List Int), x.length = y.length → HT.lexLt x y = false → x = y ∨ HT.lexLt y x = true
  | [], [], _, _ => .inl rfl
  | [], _ :: _, h, _ => by simp at h
  | _ :: _, [], h, _ => by simp at h
  | a :: x, b :: y, h, g => by
    rw [HT.lexLt_cons] at g ⊢
    by_cases c : a = b
    · subst c
      rw [if_pos rfl] at g ⊢
      rcases lex_tri x y (by simpa using h) g with z | z
      · exact .inl (by rw [z])
      · exact .inr z
    · rw [if_neg c] at g
      rw [if_neg (Ne.symm c)]
      have := of_decide_eq_false g
      exact .inr (decide_eq_true (by omega))
theorem lex_trans : ∀ (x y z : List Int), x.length = y.length → y.length = z.length → HT.lexLt x y = true → HT.lexLt y z = true → HT.lexLt x z = true
  | [], [], _, _, _, h, _ => by cases h
  | [], _ :: _, _, h, _, _, _ => by simp at h
  | _ :: _, [], _, h, _, _, _ => by simp at h
  | _ :: _, _ :: _, [], _, h, _, _ => by simp at h
  | a :: x, b :: y, c :: z, h1, h2, g1, g2 => by
    rw [HT.lexLt_cons] at g1 g2 ⊢
    by_cases ab : a = b
    · subst ab
      rw [if_pos rfl] at g1
      by_cases ac : a = c
      · subst ac
        rw [if_pos rfl] at g2 ⊢
        exact lex_trans x y z (by simpa using h1) (by simpa using h2) g1 g2
      · rw [if_neg ac] at g2 ⊢
        exact g2
    · rw [if_neg ab] at g1
      have h3 := of_decide_eq_true g1
      by_cases bc : b = c
      · subst bc
        rw [if_neg ab]
        exact g1
      · rw [if_neg bc] at g2
        have h4 := of_decide_eq_true g2
        rw [if_neg (by omega)]
        exact decide_eq_true (by omega)
theorem btB.trans {x y z : List Int} (h : btB x y) (g : btB y z) : btB x z := by
  rcases h with h | ⟨h, h2⟩
  · rcases g with g | ⟨g, _⟩
    · exact .inl (by omega)
    · exact .inl (by omega)
  · rcases g with g | ⟨g, g2⟩
    · exact .inl (by omega)
    · exact .inr ⟨by omega, lex_trans x y z h g h2 g2⟩
theorem btB.tri {x y : List Int} (h : ¬ btB x y) : x = y ∨ btB y x := by
  by_cases c : x.length = y.length
  · rcases lex_tri x y c (by
      cases e : HT.lexLt x y with
      | false => rfl
      | true => exact absurd (.inr ⟨c, e⟩) h) with z | z
    · exact .inl z
    · exact .inr (.inr ⟨c.symm, z⟩)
  · refine .inr (.inl ?_)
    have : ¬ y.length < x.length := fun z => h (.inl z)
    omega
theorem btB.irr {x : List Int} (h : btB x x) : False := by
  rcases h with h | ⟨_, h⟩
  · omega
  · rw [lexLt_self] at h; cases h
/-- r is the first of those that P tells -/
def IsB (P : List Int → Prop) (r : List Int) : Prop := P r ∧ ∀ t, P t → t = r ∨ btB r t
theorem IsB.one {P : List Int → Prop} {r t : List Int} (h : IsB P r) (g : IsB P t) : r = t := by
  rcases h.2 t g.1 with z | z
  · exact z.symm
  · rcases g.2 r h.1 with y | y
    · exact y
    · exact (btB.irr (z.trans y)).elim
abbrev Bst (u v r : List Int) : Prop := IsB (Com u v) r
theorem Bst.len {u v r : List Int} (h : Bst u v r) : r.length = lcsN u v := by
  obtain ⟨t, a, b, c⟩ := lcs_ex u v
  have h1 := com_le h.1
  rcases h.2 t ⟨a, b⟩ with z | z | ⟨z, _⟩
  · rw [← z]; exact c
  · omega
  · omega
theorem Bst.nil {u v : List Int} (h : lcsN u v = 0) : Bst u v [] := ⟨⟨List.nil_sublist _, List.nil_sublist _⟩, fun t ht => .inl (by
  have := com_le ht
  exact List.eq_nil_of_length_eq_zero (by omega))⟩
theorem Bst.step {u v r : List Int} {s : Int} (hs : Cand u v s) (hm : ∀ s', Cand u v s' → s ≤ s') (h : Bst (aft s u) (aft s v) r) : Bst u v (s :: r) := by
  have hl := h.len
  refine ⟨com_cons.mpr ⟨hs.1, hs.2.1, h.1⟩, fun t ht => ?_⟩
  cases t with
  | nil => exact .inr (.inl (by simp))
  | cons a t =>
    have ht' := com_le ht
    obtain ⟨h1, h2, h3⟩ := com_cons.mp ht
    have h4 := com_le h3
    have h5 := cand_le h1 h2
    have h6 := hs.2.2
    rw [List.length_cons] at ht'
    by_cases c : t.length + 1 = lcsN u v
    · have h7 := hm a ⟨h1, h2, by omega⟩
      by_cases d : s = a
      · subst d
        rcases h.2 t h3 with z | z | ⟨z, y⟩
        · exact .inl (by rw [z])
        · omega
        · exact .inr (.inr ⟨by simp [z], by rw [HT.lexLt_cons, if_pos rfl]; exact y⟩)
      · exact .inr (.inr ⟨by simp only [List.length_cons]; omega, by rw [HT.lexLt_cons, if_neg d]; exact decide_eq_true (by omega)⟩)
    · exact .inr (.inl (by simp only [List.length_cons]; omega))
def lrow (u vs : List Int) : List V := (List.range (vs.length + 1)).map fun j => V.int ((lcsN u (vs.drop j) : Nat) : Int)
/-- the lengths for each two places -/
def LT (H : Hp) (v : V) (us vs : List Int) : Prop := ∃ f xs, v = .ref f ∧ H f = some (.lst xs) ∧ xs.length = us.length + 1 ∧ ∀ i, i ≤ us.length → ∃ b, xs[i]? = some (.ref b) ∧ H b = some (.lst (lrow (us.drop i) vs))
theorem LT.mono {H H' : Hp} {v : V} {us vs : List Int} (e : Ex H H') (h : LT H v us vs) : LT H' v us vs := by
  obtain ⟨f, xs, h1, h2, h3, h4⟩ := h
  exact ⟨f, xs, h1, e _ _ h2, h3, fun i hi => by
    obtain ⟨b, h5, h6⟩ := h4 i hi
    exact ⟨b, h5, e _ _ h6⟩⟩
theorem lrow_at {u vs : List Int} {j : Nat} (h : j ≤ vs.length) : atI (lrow u vs) ((j : Nat) : Int) = some (.int ((lcsN u (vs.drop j) : Nat) : Int)) := by
  refine atI_nat ?_
  unfold lrow
  rw [List.getElem?_map, List.getElem?_range (by omega)]
  rfl
theorem drop_get {us : List Int} {k : Nat} (h : k < us.length) : us.drop k = us.getD k 0 :: us.drop (k + 1) := by
  rw [List.drop_eq_getElem_cons h]
  simp [List.getD, h]
def s_lengths_from (K : PySem.W.Frag) (x0 x1 : V) (H : Hp) (Q : VK) (E : XK) : Prop := ∃ (a b : Addr) (us vs : List Int), x0 = .ref a ∧ SqT K H a (us.map V.int) ∧ x1 = .ref b ∧ SqT K H b (vs.map V.int) ∧ us.length ≤ 60 ∧ vs.length ≤ 60 ∧ ∀ f H', Ex H H' → LT H' (.ref f) us vs → Q (.ref f) H'
def sp_lengths_from (K : PySem.W.Frag) : Sp := fun vs H Q E => match vs with
  | [x0, x1] => s_lengths_from K x0 x1 H Q E
  | _ => False
theorem inV_int (s : Int) : ∀ ns : List Int, inV (.int s) (ns.map V.int) = decide (s ∈ ns)
  | [] => rfl
  | n :: ns => by
    have ih := inV_int s ns
    unfold inV at ih ⊢
    rw [List.map_cons, List.any_cons, ih]
    by_cases c : s = n
    · subst c; simp [eqV]
    · have : ¬ n = s := fun z => c z.symm
      simp [eqV, c, this]
theorem l_inI {K : PySem.W.Frag} {H : Hp} {Q : VK} {s : Int} {p : Addr} {ns : List Int} (h : SqL K H p (ns.map V.int) ∨ SqT K H p (ns.map V.int)) (k : Q (.bl (decide (s ∈ ns))) H) : rIn K false (.int s) (.ref p) H Q :=
  ⟨p, _, rfl, h, rfl, by rw [List.all_map]; exact List.all_eq_true.mpr fun _ _ => rfl, by rw [inV_int]; exact k⟩
theorem idx_le {s : Int} : ∀ {l : List Int} {m : Nat}, l[m]? = some s → l.idxOf s ≤ m
  | [], _, h => by cases h
  | a :: l, 0, h => by
    have e : a = s := Option.some.inj h
    rw [List.idxOf_cons, e]
    simp
  | a :: l, m + 1, h => by
    rw [List.idxOf_cons]
    by_cases c : a = s
    · rw [c]; simp
    · rw [show (a == s) = false from beq_eq_false_iff_ne.mpr c]
      have := idx_le (l := l) (m := m) h
      simp only [cond_false]
      omega
theorem idx_at {us : List Int} {i : Nat} {s : Int} (h : s ∈ us.drop i) : us[i + (us.drop i).idxOf s]? = some s ∧ i + (us.drop i).idxOf s < us.length ∧ ∀ m, i ≤ m → m < i + (us.drop i).idxOf s → us[m]? ≠ some s := by
  have hl := List.idxOf_lt_length_of_mem h
  have hg := List.getElem_idxOf hl
  have h1 : (us.drop i)[(us.drop i).idxOf s]? = some s := by rw [List.getElem?_eq_getElem hl, hg]
  rw [List.getElem?_drop] at h1
  refine ⟨h1, (List.getElem?_eq_some_iff.mp h1).1, fun m h0 hm e => ?_⟩
  have h2 : (us.drop i)[m - i]? = some s := by rw [List.getElem?_drop, show i + (m - i) = m by omega]; exact e
  have h3 := idx_le h2
  omega
theorem aft_drop {us : List Int} {i : Nat} {s : Int} : aft s (us.drop i) = us.drop (i + (us.drop i).idxOf s + 1) := by
  unfold aft
  rw [List.drop_drop]
  rfl
def s_first_sign (K : PySem.W.Frag) (x0 x1 x2 x3 x4 : V) (H : Hp) (Q : VK) (E : XK) : Prop := ∃ (a b : Addr) (us vs : List Int) (i j : Nat), x0 = .ref a ∧ Nt H a (us.map V.int) ∧ x1 = .ref b ∧ Nt H b (vs.map V.int) ∧ LT H x2 us vs ∧ x3 = .int (i : Nat) ∧ i ≤ us.length ∧ x4 = .int (j : Nat) ∧ j ≤ vs.length ∧ us.length ≤ 60 ∧ vs.length ≤ 60 ∧ 0 < lcsN (us.drop i) (vs.drop j) ∧
  ∀ t s H', Ex H H' → SqT K H' t [.int s, .int ((i + (us.drop i).idxOf s + 1 : Nat) : Int), .int ((j + (vs.drop j).idxOf s + 1 : Nat) : Int)] → Cand (us.drop i) (vs.drop j) s → (∀ s', Cand (us.drop i) (vs.drop j) s' → s ≤ s') → Q (.ref t) H'
def sp_first_sign (K : PySem.W.Frag) : Sp := fun vs H Q E => match vs with
  | [x0, x1, x2, x3, x4] => s_first_sign K x0 x1 x2 x3 x4 H Q E
  | _ => False
def s_common_row (K : PySem.W.Frag) (x0 x1 : V) (H : Hp) (Q : VK) (E : XK) : Prop := ∃ (a b : Addr) (us vs : List Int), x0 = .ref a ∧ Nt H a (us.map V.int) ∧ x1 = .ref b ∧ Nt H b (vs.map V.int) ∧ us.length ≤ 60 ∧ vs.length ≤ 60 ∧ Sg 36 us ∧ Sg 36 vs ∧ ∀ t r H', Ex H H' → SqT K H' t (r.map V.int) → Bst us vs r → Q (.ref t) H'
def sp_common_row (K : PySem.W.Frag) : Sp := fun vs H Q E => match vs with
  | [x0, x1] => s_common_row K x0 x1 H Q E
  | _ => False
def s_nearness (K : PySem.W.Frag) (x0 x1 : V) (H : Hp) (Q : VK) (E : XK) : Prop := ∃ (a b : Addr) (us vs : List Int), x0 = .ref a ∧ Nt H a (us.map V.int) ∧ x1 = .ref b ∧ Nt H b (vs.map V.int) ∧ us.length ≤ 60 ∧ vs.length ≤ 60 ∧ Sg 36 us ∧ Sg 36 vs ∧ ∀ H', Ex H H' → Q (.int ((us.length : Int) + vs.length - 2 * (lcsN us vs : Nat))) H'
def sp_nearness (K : PySem.W.Frag) : Sp := fun vs H Q E => match vs with
  | [x0, x1] => s_nearness K x0 x1 H Q E
  | _ => False
def s_want_place (K : PySem.W.Frag) (x0 x1 : V) (H : Hp) (Q : VK) (E : XK) : Prop := ∃ k m : Int, x0 = .int k ∧ x1 = .int m ∧ (0 ≤ k ∧ k ≤ m) ∧ Q .non H
def sp_want_place (K : PySem.W.Frag) : Sp := fun vs H Q E => match vs with
  | [x0, x1] => s_want_place K x0 x1 H Q E
  | _ => False
def s_lost (K : PySem.W.Frag) (x0 x1 x2 : V) (H : Hp) (Q : VK) (E : XK) : Prop := ∃ (q : Int) (a : Addr) (ns : List Int) (k : Nat), x0 = .int q ∧ (2 ≤ q ∧ q ≤ 36) ∧ x1 = .ref a ∧ Nt H a (ns.map V.int) ∧ ns.length ≤ 60 ∧ Sg q ns ∧ x2 = .int (k : Nat) ∧ k < ns.length ∧ ∀ p H', Ex H H' → Nt H' p ((lostAt ns k).map V.int) → Q (.ref p) H'
def sp_lost (K : PySem.W.Frag) : Sp := fun vs H Q E => match vs with
  | [x0, x1, x2] => s_lost K x0 x1 x2 H Q E
  | _ => False
def s_put_in (K : PySem.W.Frag) (x0 x1 x2 x3 : V) (H : Hp) (Q : VK) (E : XK) : Prop := ∃ (q : Int) (ns : List Int) (k : Nat) (i : Int), x0 = .int q ∧ (2 ≤ q ∧ q ≤ 36) ∧ Wd K H q x1 ns ∧ x2 = .int (k : Nat) ∧ k ≤ ns.length ∧ x3 = .int i ∧ (0 ≤ i ∧ i < q) ∧ ns.length < 60 ∧ ∀ p H', Ex H H' → SqT K H' p ((ns.take k ++ [i] ++ ns.drop k).map V.int) → Q (.ref p) H'
def sp_put_in (K : PySem.W.Frag) : Sp := fun vs H Q E => match vs with
  | [x0, x1, x2, x3] => s_put_in K x0 x1 x2 x3 H Q E
  | _ => False
def s_L_at (K : PySem.W.Frag) (x0 x1 : V) (H : Hp) (Q : VK) (E : XK) : Prop := ∃ (a : Addr) (ns : List Int) (k : Nat), x0 = .ref a ∧ SqL K H a (ns.map V.int) ∧ x1 = .int (k : Nat) ∧ Q (.int (ns.getD k 0)) H
def sp_L_at (K : PySem.W.Frag) : Sp := fun vs H Q E => match vs with
  | [x0, x1] => s_L_at K x0 x1 H Q E
  | _ => False
def s_L_pot (K : PySem.W.Frag) (x0 x1 : V) (H : Hp) (Q : VK) (E : XK) : Prop := ∃ (a : Addr) (ns : List Int) (k : Nat), x0 = .ref a ∧ SqL K H a (ns.map V.int) ∧ x1 = .int (k : Nat) ∧ k ≤ 1000 ∧ ∀ p H', H p = none → Ex H H' → Pot H' p → Q (.ref p) H'
def sp_L_pot (K : PySem.W.Frag) : Sp := fun vs H Q E => match vs with
  | [x0, x1] => s_L_pot K x0 x1 H Q E
  | _ => False
def s_L_digit (K : PySem.W.Frag) (x0 x1 : V) (H : Hp) (Q : VK) (E : XK) : Prop := ∃ (p : Addr) (b : Int), x0 = .ref p ∧ Pot H p ∧ x1 = .int b ∧ (0 < b ∧ b < 4611686018427387904) ∧ ∀ d H', ExB p H H' → Pot H' p → 0 ≤ d → d < b → Q (.int d) H'
def sp_L_digit (K : PySem.W.Frag) : Sp := fun vs H Q E => match vs with
  | [x0, x1] => s_L_digit K x0 x1 H Q E
  | _ => False
theorem Pot.n {H H' : Hp} {p a : Addr} {xs : List V} (hp : Pot H p) (e : ExB p H H') (h : Nt H a xs) : Nt H' a xs := by
  obtain ⟨ys, hy⟩ := hp.lst
  exact h.exB e hy
def s_L_long (K : PySem.W.Frag) (x0 x1 x2 : V) (H : Hp) (Q : VK) (E : XK) : Prop := ∃ (p : Addr) (q n : Int), x0 = .ref p ∧ Pot H p ∧ x1 = .int q ∧ (0 < q ∧ q < 4611686018427387904) ∧ x2 = .int n ∧ (0 ≤ n ∧ n ≤ 1000) ∧ ∀ a ns H', ExB p H H' → Pot H' p → Nt H' a (ns.map V.int) → ns.length = n.toNat → Sg q ns → Q (.ref a) H'
def sp_L_long (K : PySem.W.Frag) : Sp := fun vs H Q E => match vs with
  | [x0, x1, x2] => s_L_long K x0 x1 x2 H Q E
  | _ => False
def s_L_word (K : PySem.W.Frag) (x0 x1 x2 : V) (H : Hp) (Q : VK) (E : XK) : Prop := ∃ (p : Addr) (q m : Int), x0 = .ref p ∧ Pot H p ∧ x1 = .int q ∧ (0 < q ∧ q < 4611686018427387904) ∧ x2 = .int m ∧ (0 ≤ m ∧ m ≤ 900) ∧ ∀ a ns H', ExB p H H' → Pot H' p → Nt H' a (ns.map V.int) → ns.length ≤ m.toNat → Sg q ns → Q (.ref a) H'
def sp_L_word (K : PySem.W.Frag) : Sp := fun vs H Q E => match vs with
  | [x0, x1, x2] => s_L_word K x0 x1 x2 H Q E
  | _ => False
def s_L_runny (K : PySem.W.Frag) (x0 x1 x2 : V) (H : Hp) (Q : VK) (E : XK) : Prop := ∃ (p : Addr) (q m : Int), x0 = .ref p ∧ Pot H p ∧ x1 = .int q ∧ (0 < q ∧ q < 4611686018427387904) ∧ x2 = .int m ∧ (0 ≤ m ∧ m ≤ 1000) ∧ ∀ a ns H', ExB p H H' → Pot H' p → Nt H' a (ns.map V.int) → ns.length ≤ m.toNat → Sg q ns → Q (.ref a) H'
def sp_L_runny (K : PySem.W.Frag) : Sp := fun vs H Q E => match vs with
  | [x0, x1, x2] => s_L_runny K x0 x1 x2 H Q E
  | _ => False
def s_L_bent (K : PySem.W.Frag) (x0 x1 x2 : V) (H : Hp) (Q : VK) (E : XK) : Prop := ∃ (p a : Addr) (q : Int) (ns : List Int), x0 = .ref p ∧ Pot H p ∧ x1 = .int q ∧ (0 < q ∧ q < 4611686018427387904) ∧ x2 = .ref a ∧ Nt H a (ns.map V.int) ∧ ns.length ≤ 60 ∧ Sg q ns ∧ ∀ b ms H', ExB p H H' → Pot H' p → Nt H' b (ms.map V.int) → ms.length ≤ 60 → Sg q ms → Q (.ref b) H'
def sp_L_bent (K : PySem.W.Frag) : Sp := fun vs H Q E => match vs with
  | [x0, x1, x2] => s_L_bent K x0 x1 x2 H Q E
  | _ => False
def s_L_two (K : PySem.W.Frag) (x0 x1 : V) (H : Hp) (Q : VK) (E : XK) : Prop := ∃ (sa : Addr) (sn : List Int) (m : Nat), x0 = .ref sa ∧ SqL K H sa (sn.map V.int) ∧ x1 = .int (m : Nat) ∧ m ≤ 60 ∧ ∀ t a b us vs H', Ex H H' → SqT K H' t [.ref a, .ref b] → Nt H' a (us.map V.int) → Nt H' b (vs.map V.int) → us.length ≤ m → vs.length ≤ m → Sg 36 us → Sg 36 vs → Q (.ref t) H'
def sp_L_two (K : PySem.W.Frag) : Sp := fun vs H Q E => match vs with
  | [x0, x1] => s_L_two K x0 x1 H Q E
  | _ => False
def s_L_weighted (K : PySem.W.Frag) (x0 : V) (H : Hp) (Q : VK) (E : XK) : Prop := ∃ (a : Addr) (ns : List Int), x0 = .ref a ∧ SqT K H a (ns.map V.int) ∧ ns.length ≤ 1000 ∧ ∀ H', Ex H H' → Q (.int (wsum ns)) H'
def sp_L_weighted (K : PySem.W.Frag) : Sp := fun vs H Q E => match vs with
  | [x0] => s_L_weighted K x0 H Q E
  | _ => False
def NtS (H : Hp) (ys : List V) (us : List (List Int)) : Prop := Paired (fun y u => ∃ b, y = V.ref b ∧ Nt H b (u.map V.int)) ys us
theorem NtS.mono {H H' : Hp} {ys : List V} {us : List (List Int)} (e : Ex H H') (h : NtS H ys us) : NtS H' ys us := Paired.mapP h fun _ _ ⟨b, e1, n⟩ => ⟨b, e1, n.mono e⟩
def s_L_put (K : PySem.W.Frag) (x0 x1 : V) (H : Hp) (Q : VK) (E : XK) : Prop := ∃ (q : Nat) (a : Addr) (ns : List Int), x0 = .int (q : Nat) ∧ q ≤ 100 ∧ x1 = .ref a ∧ Nt H a (ns.map V.int) ∧ Sg q ns ∧ ns.length ≤ 100 ∧ ∀ p ys us H', H p = none → Ex H H' → H' p = some (.lst ys) → NtS H' ys us → Ring q us (puts q ns) → Q (.ref p) H'
def sp_L_put (K : PySem.W.Frag) : Sp := fun vs H Q E => match vs with
  | [x0, x1] => s_L_put K x0 x1 H Q E
  | _ => False
/-- what steps of losses leave of a word -/
def runL (w : List Int) (S : List (Nat × Int)) : List Int := S.foldl (fun f p => lostAt f p.1) w
def StepsOk (w : List Int) (S : List (Nat × Int)) : Prop := ∀ i p, S[i]? = some p → p.1 < (runL w (S.take i)).length ∧ (runL w (S.take i)).getD p.1 0 = p.2
def StepsV (K : PySem.W.Frag) (H : Hp) (xs : List V) (S : List (Nat × Int)) : Prop := Paired (fun (x : V) (p : Nat × Int) => ∃ t, x = .ref t ∧ SqT K H t [.int (p.1 : Nat), .int p.2]) xs S
theorem StepsV.mono {K : PySem.W.Frag} {H H' : Hp} {xs : List V} {S : List (Nat × Int)} (e : Ex H H') (h : StepsV K H xs S) : StepsV K H' xs S := Paired.mapP h fun _ _ ⟨t, e1, q⟩ => ⟨t, e1, Evl.ex_t e q⟩
theorem StepsV.exB {K : PySem.W.Frag} {H H' : Hp} {p : Addr} {ys xs : List V} {S : List (Nat × Int)} (e : ExB p H H') (hp : H p = some (.lst ys)) (h : StepsV K H xs S) : StepsV K H' xs S := Paired.mapP h fun _ _ ⟨t, e1, q⟩ => ⟨t, e1, exB_t e hp q⟩
def s_L_losses (K : PySem.W.Frag) (x0 x1 : V) (H : Hp) (Q : VK) (E : XK) : Prop := ∃ (a b : Addr) (w r : List Int), x0 = .ref a ∧ SqT K H a (w.map V.int) ∧ x1 = .ref b ∧ SqT K H b (r.map V.int) ∧ w.length ≤ 60 ∧ r.Sublist w ∧ ∀ l xs S H', H l = none → Ex H H' → H' l = some (.lst xs) → StepsV K H' xs S → StepsOk w S → runL w S = r → S.length + r.length = w.length → Q (.ref l) H'
def sp_L_losses (K : PySem.W.Frag) : Sp := fun vs H Q E => match vs with
  | [x0, x1] => s_L_losses K x0 x1 H Q E
  | _ => False
/-- whether a row is what is left of a word behind some losses -/
def isSub : List Int → List Int → Bool
  | [], _ => true
  | _ :: _, [] => false
  | a :: r, b :: w => if a = b then isSub r w else isSub (a :: r) w
theorem isSub_iff : ∀ (r w : List Int), isSub r w = true ↔ r.Sublist w
  | [], w => by rw [isSub]; exact ⟨fun _ => List.nil_sublist _, fun _ => rfl⟩
  | _ :: _, [] => by
    rw [isSub]
    exact ⟨fun h => (by cases h), fun h => (by cases h)⟩
  | a :: r, b :: w => by
    rw [isSub]
    by_cases c : a = b
    · rw [if_pos c, isSub_iff r w, c]
      exact List.cons_sublist_cons.symm
    · rw [if_neg c, isSub_iff (a :: r) w, List.sublist_cons_iff]
      refine ⟨.inl, fun h => h.elim id fun ⟨r', e, _⟩ => absurd (List.cons.inj e).1 c⟩
def s_L_fits (K : PySem.W.Frag) (x0 x1 : V) (H : Hp) (Q : VK) (E : XK) : Prop := ∃ (a b : Addr) (r w : List Int), x0 = .ref a ∧ SqT K H a (r.map V.int) ∧ x1 = .ref b ∧ SqT K H b (w.map V.int) ∧ r.length ≤ 100 ∧ w.length ≤ 100 ∧ Q (.bl (isSub r w)) H
def sp_L_fits (K : PySem.W.Frag) : Sp := fun vs H Q E => match vs with
  | [x0, x1] => s_L_fits K x0 x1 H Q E
  | _ => False
def s_L_led (K : PySem.W.Frag) (x0 x1 : V) (H : Hp) (Q : VK) (E : XK) : Prop := ∃ (a b : Addr) (us vs : List Int), x0 = .ref a ∧ Nt H a (us.map V.int) ∧ x1 = .ref b ∧ Nt H b (vs.map V.int) ∧ us.length ≤ 60 ∧ vs.length ≤ 60 ∧ Sg 36 us ∧ Sg 36 vs ∧ ∀ H', Ex H H' → Q (.int ((us.length : Int) + vs.length - 2 * (lcsN us vs : Nat))) H'
def sp_L_led (K : PySem.W.Frag) : Sp := fun vs H Q E => match vs with
  | [x0, x1] => s_L_led K x0 x1 H Q E
  | _ => False
def s_L_member (K : PySem.W.Frag) (x0 x1 x2 : V) (H : Hp) (Q : VK) (E : XK) : Prop := ∃ (n : Nat) (a : Int) (sh : Addr) (w : List Int), x0 = .int (n : Nat) ∧ (1 ≤ n ∧ n ≤ 60) ∧ x1 = .int a ∧ (0 ≤ a ∧ a ≤ n) ∧ x2 = .ref sh ∧ Nt H sh (w.map V.int) ∧ Sg 2 w ∧ w.length + 1 = n ∧ ∀ b u H', Ex H H' → Nt H' b (u.map V.int) → u.length = n → Sg 2 u → inPL n a u = true → Q (.ref b) H'
def sp_L_member (K : PySem.W.Frag) : Sp := fun vs H Q E => match vs with
  | [x0, x1, x2] => s_L_member K x0 x1 x2 H Q E
  | _ => False
def s_law (K : PySem.W.Frag) (x0 : V) (H : Hp) (Q : VK) (E : XK) : Prop := ∃ (a : Addr) (ns : List Int), x0 = .ref a ∧ SqL K H a (ns.map V.int) ∧ ns.length ≤ 63 ∧ ∀ H', Q (.bl true) H'
def sp_law (K : PySem.W.Frag) : Sp := fun vs H Q E => match vs with
  | [x0] => s_law K x0 H Q E
  | _ => False
structure Txt (K : PySem.W.Frag) (mg : Str → Option Value) : Type where
  a_is_number : Addr
  fd_is_number : FuncData
  g_is_number : mg "is_number" = some (.ref a_is_number)
  F_is_number : Fun K "is_number" "is_number" S_is_number a_is_number fd_is_number
  b_is_number : Binds K fd_is_number ["thing"] []
  a_want_count : Addr
  fd_want_count : FuncData
  g_want_count : mg "want_count" = some (.ref a_want_count)
  F_want_count : Fun K "want_count" "want_count" S_want_count a_want_count fd_want_count
  b_want_count : Binds K fd_want_count ["q"] []
  a_is_sign : Addr
  fd_is_sign : FuncData
  g_is_sign : mg "is_sign" = some (.ref a_is_sign)
  F_is_sign : Fun K "is_sign" "is_sign" S_is_sign a_is_sign fd_is_sign
  b_is_sign : Binds K fd_is_sign ["q", "thing"] []
  a_want_word : Addr
  fd_want_word : FuncData
  g_want_word : mg "want_word" = some (.ref a_want_word)
  F_want_word : Fun K "want_word" "want_word" S_want_word a_want_word fd_want_word
  b_want_word : Binds K fd_want_word ["q", "word"] []
  a_lengths_from : Addr
  fd_lengths_from : FuncData
  g_lengths_from : mg "lengths_from" = some (.ref a_lengths_from)
  F_lengths_from : Fun K "lengths_from" "lengths_from" S_lengths_from a_lengths_from fd_lengths_from
  b_lengths_from : Binds K fd_lengths_from ["one", "other"] []
  a_first_sign : Addr
  fd_first_sign : FuncData
  g_first_sign : mg "first_sign" = some (.ref a_first_sign)
  F_first_sign : Fun K "first_sign" "first_sign" S_first_sign a_first_sign fd_first_sign
  b_first_sign : Binds K fd_first_sign ["one", "other", "lengths", "i", "j"] []
  a_common_row : Addr
  fd_common_row : FuncData
  g_common_row : mg "common_row" = some (.ref a_common_row)
  F_common_row : Fun K "common_row" "common_row" S_common_row a_common_row fd_common_row
  b_common_row : Binds K fd_common_row ["one", "other"] []
  a_nearness : Addr
  fd_nearness : FuncData
  g_nearness : mg "nearness" = some (.ref a_nearness)
  F_nearness : Fun K "nearness" "nearness" S_nearness a_nearness fd_nearness
  b_nearness : Binds K fd_nearness ["one", "other"] []
  a_want_place : Addr
  fd_want_place : FuncData
  g_want_place : mg "want_place" = some (.ref a_want_place)
  F_want_place : Fun K "want_place" "want_place" S_want_place a_want_place fd_want_place
  b_want_place : Binds K fd_want_place ["k", "most"] []
  a_lost : Addr
  fd_lost : FuncData
  g_lost : mg "lost" = some (.ref a_lost)
  F_lost : Fun K "lost" "lost" S_lost a_lost fd_lost
  b_lost : Binds K fd_lost ["q", "word", "k"] []
  a_put_in : Addr
  fd_put_in : FuncData
  g_put_in : mg "put_in" = some (.ref a_put_in)
  F_put_in : Fun K "put_in" "put_in" S_put_in a_put_in fd_put_in
  b_put_in : Binds K fd_put_in ["q", "word", "k", "sign"] []
  a_L_at : Addr
  fd_L_at : FuncData
  g_L_at : mg "_law_at" = some (.ref a_L_at)
  F_L_at : Fun K "_law_at" "_law_at" S_L_at a_L_at fd_L_at
  b_L_at : Binds K fd_L_at ["_law_script", "_law_k"] []
  a_L_pot : Addr
  fd_L_pot : FuncData
  g_L_pot : mg "_law_pot" = some (.ref a_L_pot)
  F_L_pot : Fun K "_law_pot" "_law_pot" S_L_pot a_L_pot fd_L_pot
  b_L_pot : Binds K fd_L_pot ["_law_script", "_law_k"] []
  a_L_digit : Addr
  fd_L_digit : FuncData
  g_L_digit : mg "_law_digit" = some (.ref a_L_digit)
  F_L_digit : Fun K "_law_digit" "_law_digit" S_L_digit a_L_digit fd_L_digit
  b_L_digit : Binds K fd_L_digit ["_law_pot_here", "_law_base"] []
  a_L_long : Addr
  fd_L_long : FuncData
  g_L_long : mg "_law_long" = some (.ref a_L_long)
  F_L_long : Fun K "_law_long" "_law_long" S_L_long a_L_long fd_L_long
  b_L_long : Binds K fd_L_long ["_law_pot_here", "_law_q", "_law_n"] []
  a_L_word : Addr
  fd_L_word : FuncData
  g_L_word : mg "_law_word" = some (.ref a_L_word)
  F_L_word : Fun K "_law_word" "_law_word" S_L_word a_L_word fd_L_word
  b_L_word : Binds K fd_L_word ["_law_pot_here", "_law_q", "_law_most"] []
  a_L_runny : Addr
  fd_L_runny : FuncData
  g_L_runny : mg "_law_runny" = some (.ref a_L_runny)
  F_L_runny : Fun K "_law_runny" "_law_runny" S_L_runny a_L_runny fd_L_runny
  b_L_runny : Binds K fd_L_runny ["_law_pot_here", "_law_q", "_law_most"] []
  a_L_bent : Addr
  fd_L_bent : FuncData
  g_L_bent : mg "_law_bent" = some (.ref a_L_bent)
  F_L_bent : Fun K "_law_bent" "_law_bent" S_L_bent a_L_bent fd_L_bent
  b_L_bent : Binds K fd_L_bent ["_law_pot_here", "_law_q", "_law_word_here"] []
  a_L_two : Addr
  fd_L_two : FuncData
  g_L_two : mg "_law_two" = some (.ref a_L_two)
  F_L_two : Fun K "_law_two" "_law_two" S_L_two a_L_two fd_L_two
  b_L_two : Binds K fd_L_two ["_law_script", "_law_most"] []
  a_L_weighted : Addr
  fd_L_weighted : FuncData
  g_L_weighted : mg "_law_weighted" = some (.ref a_L_weighted)
  F_L_weighted : Fun K "_law_weighted" "_law_weighted" S_L_weighted a_L_weighted fd_L_weighted
  b_L_weighted : Binds K fd_L_weighted ["_law_word_here"] []
  a_L_put : Addr
  fd_L_put : FuncData
  g_L_put : mg "_law_put" = some (.ref a_L_put)
  F_L_put : Fun K "_law_put" "_law_put" S_L_put a_L_put fd_L_put
  b_L_put : Binds K fd_L_put ["_law_q", "_law_word_here"] []
  a_L_losses : Addr
  fd_L_losses : FuncData
  g_L_losses : mg "_law_losses" = some (.ref a_L_losses)
  F_L_losses : Fun K "_law_losses" "_law_losses" S_L_losses a_L_losses fd_L_losses
  b_L_losses : Binds K fd_L_losses ["_law_word_here", "_law_row"] []
  a_L_fits : Addr
  fd_L_fits : FuncData
  g_L_fits : mg "_law_fits" = some (.ref a_L_fits)
  F_L_fits : Fun K "_law_fits" "_law_fits" S_L_fits a_L_fits fd_L_fits
  b_L_fits : Binds K fd_L_fits ["_law_row", "_law_word_here"] []
  a_L_led : Addr
  fd_L_led : FuncData
  g_L_led : mg "_law_led" = some (.ref a_L_led)
  F_L_led : Fun K "_law_led" "_law_led" S_L_led a_L_led fd_L_led
  b_L_led : Binds K fd_L_led ["_law_one", "_law_other"] []
  a_L_member : Addr
  fd_L_member : FuncData
  g_L_member : mg "_law_member" = some (.ref a_L_member)
  F_L_member : Fun K "_law_member" "_law_member" S_L_member a_L_member fd_L_member
  b_L_member : Binds K fd_L_member ["_law_n", "_law_a", "_law_short"] []
  a_law : Addr
  fd_law : FuncData
  g_law : mg "law" = some (.ref a_law)
  F_law : Fun K "law" "law" S_law a_law fd_law
  b_law : Binds K fd_law ["_law_script"] []
  z_all : mg "all" = none
  z_bool : mg "bool" = none
  z_enumerate : mg "enumerate" = none
  z_int : mg "int" = none
  z_isinstance : mg "isinstance" = none
  z_len : mg "len" = none
  z_max : mg "max" = none
  z_min : mg "min" = none
  z_range : mg "range" = none
  z_reversed : mg "reversed" = none
  z_set : mg "set" = none
  z_sorted : mg "sorted" = none
  z_sum : mg "sum" = none
  z_tuple : mg "tuple" = none
  t_LEAST_SIGNS : Tok
  c_LEAST_SIGNS : mg "LEAST_SIGNS" = some (.int 2 t_LEAST_SIGNS)
  t_MOST_LENGTH : Tok
  c_MOST_LENGTH : mg "MOST_LENGTH" = some (.int 60 t_MOST_LENGTH)
  t_MOST_SIGNS : Tok
  c_MOST_SIGNS : mg "MOST_SIGNS" = some (.int 36 t_MOST_SIGNS)
/-! own steps under names of «walk_at»: sq finds what stands in a later heap; sx goes on in a reading as far as it goes by itself -/
local macro_rules | `(tactic| walk_at "ar") => `(tactic| first | omega | decide | (simp only [List.length_cons, List.length_nil, List.length_map, List.length_append, List.length_singleton]; omega))
local macro_rules | `(tactic| walk_at "sq") => `(tactic| first
  | assumption
  | exact SqL.of (by assumption)
  | exact SqT.of (by assumption)
  | ((with_reducible refine' Evl.ex_t (by assumption) ?k); (case k => walk_at "sq"))
  | ((with_reducible refine' Evl.ex_l (by assumption) ?k); (case k => walk_at "sq"))
  | ((with_reducible refine' exH (by assumption) ?k); (case k => walk_at "sq"))
  | ((with_reducible refine' exB_t (by assumption) ?a ?b); (case a => walk_at "sq"); (case b => walk_at "sq"))
  | ((with_reducible refine' exBH (by assumption) ?a ?b); (case a => assumption); (case b => walk_at "sq"))
  | ((with_reducible refine' exB_l (by assumption) ?a ?b); (case a => assumption); (case b => walk_at "sq")))
local macro_rules | `(tactic| walk_at "sx1") => `(tactic| first
  | ((with_reducible refine' w_var ?h ?_); (case h => with_unfolding_all rfl))
  | with_reducible refine' w_c ?_
  | with_reducible refine' w_op ?_
  | with_reducible refine' w_cb ?_
  | with_reducible refine' w_cons ?_
  | with_reducible refine' w_nil ?_
  | with_reducible refine' w_call ?_
  | with_reducible refine' w_test ?_
  | with_reducible refine' w_tB ?_
  | with_reducible refine' w_bl ?_
  | with_reducible refine' w_int ?_
  | with_reducible refine' q_asg ?_
  | with_reducible refine' z_asg ?_
  | with_reducible refine' q_asgT ?_
  | with_reducible refine' z_asgT ?_
  | with_reducible refine' l_un ?_
  | ((with_reducible refine' g_tup ?h ?hn ?_); (case h => walk_at "sq"); (case hn => rfl))
  | with_reducible refine' q_drop ?_
  | with_reducible refine' z_drop ?_
  | with_reducible refine' q_if ?_
  | with_reducible refine' z_if ?_
  | with_reducible refine' z_ret ?_
  | with_reducible refine' z_retN ?_
  | with_reducible refine' z_next ?_
  | with_reducible refine' q_par ?_
  | with_reducible refine' w_two ?_
  | with_reducible refine' w_tupRev ?_
  | with_reducible refine' w_sortSet ?_
  | with_reducible refine' l_notB ?_
  | with_reducible refine' l_isB ?_
  | with_reducible refine' q_set ?_
  | with_reducible refine' z_set ?_
  | with_reducible refine' q_for ?_
  | with_reducible refine' z_for ?_
  | ((with_reducible refine' q_aug ?h ?_); (case h => with_unfolding_all rfl))
  | ((with_reducible refine' z_aug ?h ?_); (case h => with_unfolding_all rfl))
  | with_reducible refine' l_ip ?_
  | with_reducible refine' w_un ?_
  | with_reducible refine' w_chain ?_
  | with_reducible refine' w_tup ?_
  | with_reducible refine' w_lst ?_
  | with_reducible refine' w_and ?_
  | with_reducible refine' w_or ?_
  | with_reducible refine' w_not ?_
  | with_reducible refine' w_andV ?_
  | with_reducible refine' w_orV ?_
  | with_reducible refine' w_notV ?_
  | with_reducible refine' w_if ?_
  | with_reducible refine' w_no ?_
  | with_reducible refine' w_part ?_
  | with_reducible refine' w_sl ?_
  | with_reducible refine' w_yes ?_
  | with_reducible refine' w_lc ?_
  | with_reducible refine' w_bm ?_
  | with_reducible refine' w_bm0 ?_
  | with_reducible refine' i_seq ?_
  | with_reducible refine' i_rng1 ?_
  | with_reducible refine' i_rng2 ?_
  | with_reducible refine' i_enumP ?_
  | with_reducible refine' q_augS ?_
  | with_reducible refine' z_augS ?_
  | with_reducible refine' i_rng3 ?_
  | with_reducible refine' i_zip ?_
  | with_reducible refine' w_fld ?_
  | with_reducible refine' q_fld ?_
  | with_reducible refine' z_fld ?_
  | with_reducible refine' w_meth ?_
  | with_reducible refine' w_make ?_
  | with_reducible refine' g_name ?_
  | with_reducible refine' g_fld ?_
  | with_reducible refine' g_cons ?_
  | with_reducible refine' g_nil ?_
  | with_reducible refine' iteT ?_
  | with_reducible refine' iteF ?_
  | with_reducible refine' iteNT ?_
  | with_reducible refine' iteNF ?_
  | with_reducible refine' l_add ?_
  | with_reducible refine' l_sub ?_
  | ((with_reducible refine' l_mod ?h ?_); (case h => walk_at "ar"))
  | ((with_reducible refine' l_div ?h ?_); (case h => walk_at "ar"))
  | ((with_reducible refine' l_mul ?h ?_); (case h => walk_at "ar"))
  | ((with_reducible refine' l_pow ?h ?_); (case h => decide))
  | with_reducible refine' l_lt ?_
  | with_reducible refine' l_leQ ?_
  | with_reducible refine' l_gt ?_
  | with_reducible refine' l_ge ?_
  | with_reducible refine' l_eqI ?_
  | with_reducible refine' l_neI ?_
  | with_reducible refine' l_abs ?_
  | with_reducible refine' l_intB ?_
  | with_reducible refine' l_max2 ?_
  | with_reducible refine' l_min2 ?_
  | ((with_reducible refine' l_lenT ?h ?_); (case h => walk_at "sq"))
  | ((with_reducible refine' l_lenL ?h ?_); (case h => walk_at "sq"))
  | ((with_reducible refine' l_lenQ (l_lenT ?h ?_)); (case h => walk_at "sq"))
  | ((with_reducible refine' l_lenQ (l_lenL ?h ?_)); (case h => walk_at "sq"))
  | ((with_reducible refine' l_seqT ?h ?_); (case h => walk_at "sq"))
  | ((with_reducible refine' l_seqL ?h ?_); (case h => walk_at "sq"))
  | ((with_reducible refine' l_rng1 ?h ?_); (case h => walk_at "ar"))
  | ((with_reducible refine' l_rng2 ?h ?_); (case h => walk_at "ar"))
  | ((with_reducible refine' l_rngD ?h ?_); (case h => walk_at "ar"))
  | ((with_reducible refine' l_zipL ?h ?h2 ?_); (case h => walk_at "sq"); (case h2 => walk_at "sq"))
  | ((with_reducible refine' l_zipT ?h ?h2 ?_); (case h => walk_at "sq"); (case h2 => walk_at "sq"))
  | ((with_reducible refine' l_enumT ?h ?_); (case h => walk_at "sq"))
  | ((with_reducible refine' l_enumL ?h ?_); (case h => walk_at "sq"))
  | ((with_reducible refine' l_tyL ?h ?_); (case h => walk_at "sq"))
  | dsimp only [List.set_cons_zero, List.set_cons_succ, isNum, Bool.not_true, Bool.not_false])
local macro_rules | `(tactic| walk_at "sx") => `(tactic| repeat (walk_at "sx1"))
local macro_rules | `(tactic| walk_at "sx1") => `(tactic| first
  | with_reducible refine' w_tupN ?_
  | with_reducible refine' w_odds ?_
  | with_reducible refine' w_tm ?_
  | with_reducible refine' w_listRg ?_
  | with_reducible refine' w_rg1 ?_
  | with_reducible refine' l_addN ?_
  | ((with_reducible refine' l_mulN ?h ?_); (case h => walk_at "ar"))
  | with_reducible refine' l_ltQ ?_
  | with_reducible refine' i_revA ?_
  | with_reducible refine' i_revR1 ?_)
local macro_rules | `(tactic| walk_at "sq") => `(tactic| exact Nt.sq (by assumption))
section
variable {P : Program} {w : World} {K : PySem.W.Frag} {mg : Str → Option Value} {base : Heap}
theorem ok_is_number (T : Txt K mg) : FnOk P w K mg base CX0 1 T.a_is_number T.fd_is_number ["thing"] (sp_is_number K) := by
  refine T.F_is_number.ok sc_is_number (fun vs H Q E h => match vs, h with | [_], _ => rfl) (fun cdv A outer s H vs Q E hr h => ?_)
  refine ⟨_, ((pss_one (ps_ret (pe_and (pe_callB (call_isiK' (K := K) rfl) (by rfl) T.z_isinstance (by decide +kernel) (pa_cons (pv 0) (pa_cons (pe_bltn (v := .ty "int") (by rfl) T.z_int (by decide +kernel) rfl) pa_nil))) (pe_one (pe_not (pe_callB (call_isiK' (K := K) rfl) (by rfl) T.z_isinstance (by decide +kernel) (pa_cons (pv 0) (pa_cons (pe_bltn (v := .ty "bool") (by rfl) T.z_bool (by decide +kernel) rfl) pa_nil))))))))), ?_⟩
  match vs, h with
  | [x0], h =>
  replace h : s_is_number K x0 H Q E := h
  try dsimp only [cxOf, Cx.nox, Cx.wish]
  show (_ : TS) { nx := fun _ H' => Q .non H', rt := Q } [some x0] H
  obtain ⟨T, hk, k⟩ := h
  cases hk with
  | int i => walk_at "sx"; refine l_isi (.int i) (b := true) (by decide +kernel) ?_; walk_at "sx"; refine l_isi (.int i) (b := false) (by decide +kernel) ?_; walk_at "sx"; exact k
  | bl i => walk_at "sx"; refine l_isi (.bl i) (b := true) (by decide +kernel) ?_; walk_at "sx"; refine l_isi (.bl i) (b := true) (by decide +kernel) ?_; walk_at "sx"; exact k
  | non => walk_at "sx"; refine l_isi .non (b := false) (by decide +kernel) ?_; walk_at "sx"; exact k
  | str i => walk_at "sx"; refine l_isi (.str i) (b := false) (by decide +kernel) ?_; walk_at "sx"; exact k
  | tup h => walk_at "sx"; refine l_isi (.tup h) (b := false) (by decide +kernel) ?_; walk_at "sx"; exact k
  | lst h => walk_at "sx"; refine l_isi (.lst h) (b := false) (by decide +kernel) ?_; walk_at "sx"; exact k
  | dct h => walk_at "sx"; refine l_isi (.dct h) (b := false) (by decide +kernel) ?_; walk_at "sx"; exact k
end
section
variable {P : Program} {w : World} {K : PySem.W.Frag} {mg : Str → Option Value} {base : Heap}
theorem ok_want_count (T : Txt K mg) (o_is_number : FnOk P w K mg base CX0 1 T.a_is_number T.fd_is_number ["thing"] (sp_is_number K)) : FnOk P w K mg base CX0 2 T.a_want_count T.fd_want_count ["q"] (sp_want_count K) := by
  refine T.F_want_count.ok sc_want_count (fun vs H Q E h => match vs, h with | [_], _ => rfl) (fun cdv A outer s H vs Q E hr h => ?_)
  refine ⟨_, ((pss_one (ps_if (PW.pt (pw_or (pt_not (pt_val (pe_call o_is_number hr rfl T.g_is_number T.F_is_number.kp T.b_is_number .nil pass0 (pa_cons (pv 0) pa_nil)))) (pw_or1 (pt_not (pt_chain (op_leQ (K := K) hr.units rfl) (op_leQ (K := K) hr.units rfl) (pe_glob (v := .int 2) rfl T.c_LEAST_SIGNS ⟨_, rfl⟩) (pv 0) (pe_glob (v := .int 36) rfl T.c_MOST_SIGNS ⟨_, rfl⟩)))))) (pss_one ps_never) pss_nil))), ?_⟩
  match vs, h with
  | [x0], h =>
  replace h : s_want_count K x0 H Q E := h
  try dsimp only [cxOf, Cx.nox, Cx.wish]
  show (_ : TS) { nx := fun _ H' => Q .non H', rt := Q } [some x0] H
  obtain ⟨q, rfl, hq, k⟩ := h
  walk_at "sx"
  refine ⟨"int", .int q, ?_⟩
  walk_at "sx"
  refine ifd (fun c => ?_) (fun c => absurd hq.1 c)
  walk_at "sx"
  refine ifdn (fun c => absurd hq.2 c) (fun c => ?_)
  walk_at "sx"
  exact k
end
section
variable {P : Program} {w : World} {K : PySem.W.Frag} {mg : Str → Option Value} {base : Heap}
theorem ok_is_sign (T : Txt K mg) (o_is_number : FnOk P w K mg base CX0 1 T.a_is_number T.fd_is_number ["thing"] (sp_is_number K)) : FnOk P w K mg base CX0 2 T.a_is_sign T.fd_is_sign ["q", "thing"] (sp_is_sign K) := by
  refine T.F_is_sign.ok sc_is_sign (fun vs H Q E h => match vs, h with | [_, _], _ => rfl) (fun cdv A outer s H vs Q E hr h => ?_)
  refine ⟨_, ((pss_one (ps_ret (pe_and (pe_call o_is_number hr rfl T.g_is_number T.F_is_number.kp T.b_is_number .nil pass0 (pa_cons (pv 1) pa_nil)) (pe_one (pe_chain (op_leQ (K := K) hr.units rfl) op_ltP pe_int (pv 1) (pv 0))))))), ?_⟩
  match vs, h with
  | [x0, x1], h =>
  replace h : s_is_sign K x0 x1 H Q E := h
  try dsimp only [cxOf, Cx.nox, Cx.wish]
  show (_ : TS) { nx := fun _ H' => Q .non H', rt := Q } [some x0, some x1] H
  obtain ⟨q, T', rfl, hk, k⟩ := h
  walk_at "sx"
  refine ⟨T', hk, ?_⟩
  cases x1 with
  | int i =>
    walk_at "sx"
    refine ifd (fun c => ?_) (fun c => ?_)
    · walk_at "sx"
      have e : signOk q (.int i) = decide (i < q) := by show (decide (0 ≤ i) && decide (i < q)) = _; rw [decide_eq_true c]; rfl
      rw [e] at k
      exact k
    · have e : signOk q (.int i) = false := by show (decide (0 ≤ i) && decide (i < q)) = _; rw [decide_eq_false c]; rfl
      rw [e] at k
      exact k
  | non => walk_at "sx"; exact k
  | bl b => walk_at "sx"; exact k
  | str b => walk_at "sx"; exact k
  | byt b => walk_at "sx"; exact k
  | flt b => walk_at "sx"; exact k
  | ref b => walk_at "sx"; exact k
  | ty b => walk_at "sx"; exact k
end
section
variable {P : Program} {w : World} {K : PySem.W.Frag} {mg : Str → Option Value} {base : Heap}
theorem ok_want_word (T : Txt K mg) (o_is_sign : FnOk P w K mg base CX0 2 T.a_is_sign T.fd_is_sign ["q", "thing"] (sp_is_sign K)) (o_want_count : FnOk P w K mg base CX0 2 T.a_want_count T.fd_want_count ["q"] (sp_want_count K)) : FnOk P w K mg base CX0 3 T.a_want_word T.fd_want_word ["q", "word"] (sp_want_word K) := by
  refine T.F_want_word.ok sc_want_word (fun vs H Q E h => match vs, h with | [_, _], _ => rfl) (fun cdv A outer s H vs Q E hr h => ?_)
  refine ⟨_, ((pss_cons (ps_expr (pe_call o_want_count hr rfl T.g_want_count T.F_want_count.kp T.b_want_count .nil pass0 (pa_cons (pv 0) pa_nil)))
    (pss_one (ps_if (PW.pt (pw_or (pt_not (pt_val (pe_callB (call_isiK' (K := K) rfl) (by rfl) T.z_isinstance (by decide +kernel) (pa_cons (pv 1) (pa_cons (pe_bltn (v := .ty "tuple") (by rfl) T.z_tuple (by decide +kernel) rfl) pa_nil))))) (pw_or (pt_cmpR op_gtP (pe_callB (call_lenK (K := K) rfl) (by rfl) T.z_len (by decide +kernel) (pa_cons (pv 1) pa_nil)) (pe_glob (v := .int 60) rfl T.c_MOST_LENGTH ⟨_, rfl⟩) (nomark _)) (pw_or1 (pt_not (pt_val (pe_callB (cr_allK (K := K) rfl rfl) (by rfl) T.z_all (by decide +kernel) (pa_cons (pe_lc (own := [("sign", 2)]) (g := (gName 2)) (tt := tYes) rfl sc_want_word.nd (pi_seqK (K := K) rfl (pv 1)) (blkOk_by (own := [("sign", 2)]) (N := ["q", "word", "sign"]) (sc := defScope S_want_word) (by decide +kernel)) (fun _ _ _ _ _ => (pg_name (i := 2) sc_want_word.nd rfl (by first | exact Or.inl rfl | exact Or.inr rfl))) (fun _ _ _ _ _ => pts_nil) (fun _ _ _ _ _ => (pe_call o_is_sign hr rfl T.g_is_sign T.F_is_sign.kp T.b_is_sign .nil pass0 (pa_cons (pv 0) (pa_cons (pv 2) pa_nil))))) pa_nil)))))))) (pss_one ps_never) pss_nil)))), ?_⟩
  match vs, h with
  | [x0, x1], h =>
  replace h : s_want_word K x0 x1 H Q E := h
  try dsimp only [cxOf, Cx.nox, Cx.wish]
  show (_ : TS) { nx := fun _ H' => Q .non H', rt := Q } [some x0, some x1, none] H
  obtain ⟨q, ns, rfl, hq, ⟨a, rfl, hs, hl, hg⟩, k⟩ := h
  walk_at "sx"
  refine ⟨q, rfl, hq, ?_⟩
  walk_at "sx"
  refine l_isi (.tup hs) (b := true) (by decide +kernel) ?_
  walk_at "sx"
  refine ifd (fun c => ?_) (fun c => ?_)
  · rw [List.length_map] at c; omega
  walk_at "sx"
  refine l_lcT (fun x => .bl (signOk q x)) hs (by simp; omega) (fun _ => rfl) (fun x H1 hx e Q' k' => ?_) (fun D H1 hn e h1 => ?_)
  · obtain ⟨i, hi, rfl⟩ := List.mem_map.mp hx
    walk_at "sx"
    exact ⟨q, "int", rfl, .int i, k' _ (Evl.Ex.refl _)⟩
  · walk_at "sx"
    refine l_all (bs := ns.map fun i => signOk q (.int i)) (SqL.of (by rw [h1]; simp [List.map_map, Function.comp_def])) ?_
    walk_at "sx"
    have ea : (ns.map fun i => signOk q (.int i)).all id = true := by
      rw [List.all_eq_true]
      intro b hb
      obtain ⟨i, hi, rfl⟩ := List.mem_map.mp hb
      have := hg i hi
      simp [signOk, this.1, this.2]
    rw [ea]
    walk_at "sx"
    exact k _ e
end
section
variable {P : Program} {w : World} {K : PySem.W.Frag} {mg : Str → Option Value} {base : Heap}
/-- the row as it grows from its end -/
def rrow (u vs : List Int) (t : Nat) : List V := (List.range (t + 1)).map fun j => V.int ((lcsN u (vs.drop (vs.length - j)) : Nat) : Int)
theorem rrow_succ (u vs : List Int) (t : Nat) : rrow u vs (t + 1) = rrow u vs t ++ [V.int ((lcsN u (vs.drop (vs.length - (t + 1))) : Nat) : Int)] := by
  unfold rrow
  rw [List.range_succ (n := t + 1), List.map_append]
  rfl
theorem rrow_last (u vs : List Int) (t : Nat) : atI (rrow u vs t) (-1) = some (.int ((lcsN u (vs.drop (vs.length - t)) : Nat) : Int)) := by
  cases t with
  | zero => rfl
  | succ t => rw [rrow_succ]; exact atI_last _ _
theorem rrow_rev (u vs : List Int) : (rrow u vs vs.length).reverse = lrow u vs := by
  refine List.ext_getElem (by simp [rrow, lrow]) fun i h1 h2 => ?_
  simp only [rrow, lrow, List.getElem_reverse, List.getElem_map, List.getElem_range, List.length_map, List.length_range]
  have : i ≤ vs.length := by simp [lrow] at h2; omega
  rw [show vs.length - (vs.length + 1 - 1 - i) = i by omega]
theorem maxI (x y : Nat) : (if ((y : Nat) : Int) > ((x : Nat) : Int) then ((y : Nat) : Int) else ((x : Nat) : Int)) = ((max x y : Nat) : Int) := by split <;> omega
theorem ok_lengths_from (T : Txt K mg) : FnOk P w K mg base CX0 1 T.a_lengths_from T.fd_lengths_from ["one", "other"] (sp_lengths_from K) := by
  refine T.F_lengths_from.ok sc_lengths_from (fun vs H Q E h => match vs, h with | [_, _], _ => rfl) (fun cdv A outer s H vs Q E hr h => ?_)
  refine ⟨_, ((pss_cons (ps_set (i := 2) sc_lengths_from.nd rfl (by first | exact Or.inl rfl | exact Or.inr rfl) (pe_lst (pa_cons (pe_op (op_mulK (K := K) rfl) (pe_lst (pa_cons pe_int pa_nil)) (pe_op (op_addK (K := K) rfl) (pe_callB (call_lenK (K := K) rfl) (by rfl) T.z_len (by decide +kernel) (pa_cons (pv 1) pa_nil)) pe_int)) pa_nil)))
    (pss_cons (ps_for PassesOwn.never rfl (pi_revAK (K := K) rfl (RT.pi_revA (by rfl) T.z_reversed (pv 0))) (pg_name (i := 3) sc_lengths_from.nd rfl (by first | exact Or.inl rfl | exact Or.inr rfl)) (pss_cons (ps_set (i := 4) sc_lengths_from.nd rfl (by first | exact Or.inl rfl | exact Or.inr rfl) (pe_ix (ix_K (K := K) rfl) (pv 2) (pe_un un_neg pe_int) (fun _ _ => rfl)))
    (pss_cons (ps_set (i := 5) sc_lengths_from.nd rfl (by first | exact Or.inl rfl | exact Or.inr rfl) (pe_lst (pa_cons pe_int pa_nil)))
    (pss_cons (ps_for PassesOwn.never rfl (pi_revR (by rfl) T.z_reversed (prg_1 (by rfl) T.z_range (pe_callB (call_lenK (K := K) rfl) (by rfl) T.z_len (by decide +kernel) (pa_cons (pv 1) pa_nil)))) (pg_name (i := 6) sc_lengths_from.nd rfl (by first | exact Or.inl rfl | exact Or.inr rfl)) (pss_one (ps_if (pt_cmpR (op_eqK (K := K) hr.units rfl) (pe_ix (ix_K (K := K) rfl) (pv 1) (pv 6) (fun _ _ => rfl)) (pv 3) (nomark _)) (pss_one (ps_expr (pe_bmK (K := K) rfl (pe_bm PySem.F.plainAttrs_list PySem.F.slot_list_append PySem.F.type_list_append mt_append (pv 5) (pa_cons (pe_op (op_addK (K := K) rfl) pe_int (pe_ix (ix_K (K := K) rfl) (pv 4) (pe_op (op_addK (K := K) rfl) (pv 6) pe_int) (fun _ _ => rfl))) pa_nil))))) (pss_one (ps_expr (pe_bmK (K := K) rfl (pe_bm PySem.F.plainAttrs_list PySem.F.slot_list_append PySem.F.type_list_append mt_append (pv 5) (pa_cons (pe_callB (call_max2P rfl) (by rfl) T.z_max (by decide +kernel) (pa_cons (pe_ix (ix_K (K := K) rfl) (pv 5) (pe_un un_neg pe_int) (fun _ _ => rfl)) (pa_cons (pe_ix (ix_K (K := K) rfl) (pv 4) (pv 6) (fun _ _ => rfl)) pa_nil))) pa_nil))))))))
    (pss_cons (ps_expr (pe_bm0K (K := K) rfl (pe_bm0 PySem.F.plainAttrs_list PySem.F.slot_list_reverse PySem.F.type_list_reverse mt_reverse (pv 5))))
    (pss_one (ps_expr (pe_bmK (K := K) rfl (pe_bm PySem.F.plainAttrs_list PySem.F.slot_list_append PySem.F.type_list_append mt_append (pv 2) (pa_cons (pv 5) pa_nil))))))))))
    (pss_cons (ps_expr (pe_bm0K (K := K) rfl (pe_bm0 PySem.F.plainAttrs_list PySem.F.slot_list_reverse PySem.F.type_list_reverse mt_reverse (pv 2))))
    (pss_one (ps_ret (pv 2))))))), ?_⟩
  match vs, h with
  | [x0, x1], h =>
  replace h : s_lengths_from K x0 x1 H Q E := h
  try dsimp only [cxOf, Cx.nox, Cx.wish]
  show (_ : TS) { nx := fun _ H' => Q .non H', rt := Q } [some x0, some x1, none, none, none, none, none] H
  obtain ⟨a, b, us, vs, rfl, ha, rfl, hb, hu, hv, k⟩ := h
  walk_at "sx"
  refine w_newL (by simp) fun l1 H1 _ e1 h1 => ?_
  walk_at "sx"
  rw [List.length_map]
  refine l_mulL h1 (by omega) (by simp; omega) fun l2 H2 hn2 e2 h2 => ?_
  walk_at "sx"
  refine w_newL (by simp) fun f H3 hf e3 h3 => ?_
  have eA := e1.trans (e2.trans e3)
  have hf0 : H f = none := Evl.fresh_back (e1.trans e2) hf
  have n2f : l2 ≠ f := ne_of_none h2 hf
  walk_at "sx"
  refine l_revT (Evl.ex_t eA ha) ?_
  have hlu : (us.map V.int).length = us.length := List.length_map ..
  have hlv : (vs.map V.int).length = vs.length := List.length_map ..
  have row0 : H3 l2 = some (.lst (lrow (us.drop us.length) vs)) := by
    rw [e3 _ _ h2, List.flatten_replicate_singleton, show ((vs.length : Int) + 1).toNat = vs.length + 1 by omega]
    congr 2
    refine List.ext_getElem (by simp [lrow]) fun i h1 h2 => ?_
    simp [lrow, lcs_nil]
  refine l_for walk_revT (fun i σ Hx => ∃ xs v3 v4 v5 v6, σ = [some (.ref a), some (.ref b), some (.ref f), v3, v4, v5, v6] ∧ Ex H Hx ∧ Hx f = some (.lst xs) ∧ xs.length = i + 1 ∧ ∀ t, t ≤ i → ∃ c, xs[t]? = some (.ref c) ∧ c ≠ f ∧ Hx c = some (.lst (lrow (us.drop (us.length - t)) vs))) ⟨_, _, _, _, _, rfl, eA, h3, rfl, fun t ht => ⟨l2, by rw [show t = 0 by omega]; rfl, n2f, by rw [show t = 0 by omega]; exact row0⟩⟩ (fun i σ Hx _ ⟨_, _, _, _, _, _, e, _⟩ => Evl.ex_t e ha) ?_ ?_
  · rintro i x σ Hx H' hi ⟨xs, v3, v4, v5, v6, rfl, ex, hfx, hxl, hxs⟩ ⟨rfl, hx⟩
    rw [hlu] at hi hx
    obtain ⟨_, rfl⟩ := at_int hx
    obtain ⟨c, hc, ncf, hcr⟩ := hxs i (Nat.le_refl _)
    obtain ⟨ys, rfl⟩ : ∃ ys, xs = ys ++ [.ref c] := ⟨xs.take i, by rw [← take_at hc, ← hxl, List.take_length]⟩
    have hcons : us.drop (us.length - 1 - i) = us.getD (us.length - 1 - i) 0 :: us.drop (us.length - i) := by
      rw [drop_get (by omega), show us.length - 1 - i + 1 = us.length - i by omega]
    have hb' := Evl.ex_t ex hb
    walk_at "sx"
    refine l_ixL (SqL.of hfx) (atI_last _ _) ?_
    walk_at "sx"
    refine w_newL (by simp) fun r H5 hr5 e5 h5 => ?_
    have ncr : c ≠ r := ne_of_none hcr hr5
    have nfr : f ≠ r := ne_of_none hfx hr5
    walk_at "sx"
    rw [hlv]
    refine l_rgK (by omega) ?_
    rw [show ((vs.length : Int) - 0).toNat = vs.length by omega]
    generalize hs : us.getD (us.length - 1 - i) 0 = s at *
    refine l_forC (fun t σ Hy => ∃ v6, σ = [some (.ref a), some (.ref b), some (.ref f), some (.int s), some (.ref c), some (.ref r), v6] ∧ ExB r H5 Hy ∧ Hy r = some (.lst (rrow (us.drop (us.length - 1 - i)) vs t))) ⟨_, rfl, ExB.refl, by rw [h5]; congr 2; show _ = [V.int ((lcsN _ (vs.drop (vs.length - 0)) : Nat) : Int)]; rw [Nat.sub_zero, List.drop_length, lcs_nil2]; rfl⟩ ?_ ?_
    · rintro t σ Hy ht ⟨v6, rfl, ey, hr⟩
      have hb2 : SqT K Hy b (vs.map V.int) := exB_t ey h5 (Evl.ex_t e5 hb')
      have hc2 : Hy c = some (.lst (lrow (us.drop (us.length - i)) vs)) := ey _ _ ncr (e5 _ _ hcr)
      have ek : (0 + ((vs.length : Nat) : Int) - 1 + ((t : Nat) : Int) * -1) = ((vs.length - 1 - t : Nat) : Int) := by omega
      have hdv : vs.drop (vs.length - (t + 1)) = vs.getD (vs.length - 1 - t) 0 :: vs.drop (vs.length - t) := by
        rw [show vs.length - (t + 1) = vs.length - 1 - t by omega, drop_get (by omega), show vs.length - 1 - t + 1 = vs.length - t by omega]
      walk_at "sx"
      rw [ek]
      refine l_ixT hb2 (at_get (by omega)) ?_
      walk_at "sx"
      refine ifd (fun e => ?_) (fun e => ?_)
      · walk_at "sx"
        rw [show (((vs.length - 1 - t : Nat) : Int) + 1) = ((vs.length - t : Nat) : Int) by omega]
        refine l_ixL (SqL.of hc2) (lrow_at (by omega)) ?_
        walk_at "sx"
        refine l_app hr (by simp [rrow]; omega) fun H6 e6 h6 => ?_
        walk_at "sx"
        refine ⟨_, rfl, ey.trans e6, ?_⟩
        rw [h6, rrow_succ, hdv, hcons, lcs_eq, if_pos e]
        congr 4 <;> omega
      · walk_at "sx"
        refine l_ixL (SqL.of hr) (rrow_last _ _ _) ?_
        walk_at "sx"
        refine l_ixL (SqL.of hc2) (lrow_at (by omega)) ?_
        walk_at "sx"
        refine l_app hr (by simp [rrow]; omega) fun H6 e6 h6 => ?_
        walk_at "sx"
        refine ⟨_, rfl, ey.trans e6, ?_⟩
        rw [h6, rrow_succ, hdv, hcons, lcs_eq, if_neg e, ← hcons, ← hdv, show vs.length - 1 - t = vs.length - (t + 1) by omega]
        rw [maxI]
    · rintro σ Hy ⟨v6, rfl, ey, hr⟩
      walk_at "sx"
      refine l_rev hr fun H6 e6 h6 => ?_
      rw [rrow_rev] at h6
      walk_at "sx"
      have eB := ey.trans e6
      refine l_app (eB _ _ nfr (e5 _ _ hfx)) (by omega) fun H7 e7 h7 => ?_
      walk_at "sx"
      have nrf : r ≠ f := Ne.symm nfr
      have eX : Ex H' H6 := ExB.new e5 eB hr5
      refine ⟨_, _, _, _, _, rfl, ExB.new (ex.trans eX) e7 hf0, h7, by simp at hxl ⊢; omega, fun t ht => ?_⟩
      by_cases c2 : t = i + 1
      · subst c2
        refine ⟨r, by rw [List.getElem?_append_right (by omega), hxl]; simp, nrf, ?_⟩
        rw [show us.length - (i + 1) = us.length - 1 - i by omega]
        exact e7 _ _ nrf h6
      · obtain ⟨d, d1, d2, d3⟩ := hxs t (by omega)
        exact ⟨d, by rw [List.getElem?_append_left (by omega)]; exact d1, d2, e7 _ _ d2 (eX _ _ d3)⟩
  · rintro σ Hx ⟨xs, v3, v4, v5, v6, rfl, ex, hfx, hxl, hxs⟩
    rw [hlu] at hxl hxs
    walk_at "sx"
    refine l_rev hfx fun H6 e6 h6 => ?_
    walk_at "sx"
    refine k f H6 (ExB.new ex e6 hf0) ⟨f, _, rfl, h6, by simp [hxl], fun i hi => ?_⟩
    obtain ⟨c, c1, c2, c3⟩ := hxs (us.length - i) (by omega)
    refine ⟨c, ?_, ?_⟩
    · rw [List.getElem?_reverse (by omega), hxl, show us.length + 1 - 1 - i = us.length - i by omega]
      exact c1
    · rw [show us.length - (us.length - i) = i by omega] at c3
      exact e6 _ _ c2 c3
end
section
variable {P : Program} {w : World} {K : PySem.W.Frag} {mg : Str → Option Value} {base : Heap}
theorem ok_first_sign (T : Txt K mg) : FnOk P w K mg base CX0 1 T.a_first_sign T.fd_first_sign ["one", "other", "lengths", "i", "j"] (sp_first_sign K) := by
  refine T.F_first_sign.ok sc_first_sign (fun vs H Q E h => match vs, h with | [_, _, _, _, _], _ => rfl) (fun cdv A outer s H vs Q E hr h => ?_)
  refine ⟨_, ((pss_cons (ps_for PassesOwn.never rfl (pi_seqK (K := K) rfl (pe_sortSetAK (K := K) rfl (pe_sortSetA rfl hr.units (by rfl) T.z_sorted (by rfl) T.z_set (pe_slice (sl_K (K := K) rfl) (pv 0) (po_some (pv 3)) po_none)))) (pg_name (i := 5) sc_first_sign.nd rfl (by first | exact Or.inl rfl | exact Or.inr rfl)) (pss_one (ps_if (pt_cmpR (op_inK (K := K) rfl) (pv 5) (pe_slice (sl_K (K := K) rfl) (pv 1) (po_some (pv 4)) po_none) (by rfl)) (pss_cons (ps_set (i := 6) sc_first_sign.nd rfl (by first | exact Or.inl rfl | exact Or.inr rfl) (pe_tm PySem.F.slot_tuple_index PySem.F.type_tuple_index (mt_tixF (K := K) rfl) (pv 0) (pa_cons (pv 5) (pa_cons (pv 3) pa_nil))))
    (pss_cons (ps_set (i := 7) sc_first_sign.nd rfl (by first | exact Or.inl rfl | exact Or.inr rfl) (pe_tm PySem.F.slot_tuple_index PySem.F.type_tuple_index (mt_tixF (K := K) rfl) (pv 1) (pa_cons (pv 5) (pa_cons (pv 4) pa_nil))))
    (pss_one (ps_if (pt_cmpR (op_eqK (K := K) hr.units rfl) (pe_op (op_addK (K := K) rfl) pe_int (pe_ix (ix_K (K := K) rfl) (pe_ix (ix_K (K := K) rfl) (pv 2) (pe_op (op_addK (K := K) rfl) (pv 6) pe_int) (fun _ _ => rfl)) (pe_op (op_addK (K := K) rfl) (pv 7) pe_int) (fun _ _ => rfl))) (pe_ix (ix_K (K := K) rfl) (pe_ix (ix_K (K := K) rfl) (pv 2) (pv 3) (fun _ _ => rfl)) (pv 4) (fun _ _ => rfl)) (nomark _)) (pss_one (ps_ret (pe_tup (pa_cons (pv 5) (pa_cons (pe_op (op_addK (K := K) rfl) (pv 6) pe_int) (pa_cons (pe_op (op_addK (K := K) rfl) (pv 7) pe_int) pa_nil)))))) pss_nil)))) pss_nil)))
    (pss_one (ps_ret (pe_tup (pa_cons pe_int (pa_cons (pv 3) (pa_cons (pv 4) pa_nil)))))))), ?_⟩
  match vs, h with
  | [x0, x1, x2, x3, x4], h =>
  replace h : s_first_sign K x0 x1 x2 x3 x4 H Q E := h
  try dsimp only [cxOf, Cx.nox, Cx.wish]
  show (_ : TS) { nx := fun _ H' => Q .non H', rt := Q } [some x0, some x1, some x2, some x3, some x4, none, none, none] H
  obtain ⟨a, b, us, vs, i, j, rfl, ha, rfl, hb, hL, rfl, hi, rfl, hj, hu, hv, hpos, k⟩ := h
  obtain ⟨f, xs, rfl, hf, hxl, hxs⟩ := hL
  walk_at "sx"
  refine l_slT ha.sq fun p1 H1 e1 h1 => ?_
  rw [cut_from (by simp; omega), ← List.map_drop] at h1
  refine l_sortSetT h1 (by simp; omega) fun out p2 H2 hso hmem hlen hn2 e2 h2 => ?_
  have e12 := e1.trans e2
  refine l_seqL (SqL.of h2) ?_
  refine l_forL (fun t σ Hx => ∃ v5 v6 v7, σ = [some (.ref a), some (.ref b), some (.ref f), some (.int i), some (.int j), v5, v6, v7] ∧ Ex H2 Hx ∧ ∀ s ∈ out.take t, ¬ Cand (us.drop i) (vs.drop j) s) ⟨_, _, _, rfl, Evl.Ex.refl _, fun s hs => by cases hs⟩ (fun t σ Hx _ ⟨_, _, _, _, e, _⟩ => SqL.of (e _ _ h2)) ?_ ?_
  · rintro t x σ Hx ht hx ⟨v5, v6, v7, rfl, ex, hno⟩
    obtain ⟨ht2, rfl⟩ := at_int hx
    have hso2 : out[t]? = some (out.getD t 0) := by simp [List.getD, ht2]
    generalize hs : out.getD t 0 = s at hso2 ⊢
    have hmu : s ∈ us.drop i := (hmem s).mp (List.mem_of_getElem? hso2)
    have least : (∀ s', Cand (us.drop i) (vs.drop j) s' → s ≤ s') := fun s' hc => by
      have hm := (hmem s').mpr hc.1
      obtain ⟨t', ht', e⟩ := List.getElem_of_mem hm
      by_cases c : t' < t
      · exact absurd hc (hno s' (List.mem_of_getElem? (i := t') (by rw [List.getElem?_take, if_pos c, List.getElem?_eq_getElem ht', e])))
      · by_cases d : t' = t
        · subst d
          rw [List.getElem?_eq_getElem ht', e] at hso2
          exact Int.le_of_eq (Option.some.inj hso2).symm
        · have := List.pairwise_iff_getElem.mp hso t t' ht2 ht' (by omega)
          rw [List.getElem?_eq_getElem ht2] at hso2
          have e2 := Option.some.inj hso2
          omega
    have eH : Ex H Hx := e12.trans ex
    have next : ¬ Cand (us.drop i) (vs.drop j) s → ∀ s' ∈ out.take (t + 1), ¬ Cand (us.drop i) (vs.drop j) s' := fun hc s' hs' => by
      rw [take_at hso2] at hs'
      rcases List.mem_append.mp hs' with z | z
      · exact hno s' z
      · rw [List.mem_singleton.mp z]; exact hc
    walk_at "sx"
    refine l_slT (hb.mono eH).sq fun p3 H3 e3 h3 => ?_
    rw [cut_from (by simp; omega), ← List.map_drop] at h3
    refine l_inI (.inr h3) ?_
    walk_at "sx"
    refine ifd (fun hmv => ?_) (fun c => ?_)
    · obtain ⟨u1, u2, u3⟩ := idx_at hmu
      obtain ⟨w1, w2, w3⟩ := idx_at hmv
      have eH3 := eH.trans e3
      walk_at "sx"
      refine l_tm (ha.mono eH3) ?_
      walk_at "sx"
      refine l_tixF (ha.mono eH3).sq (by omega) (by omega) u1 (fun m h0 h1 => u3 m (by omega) h1) ?_
      walk_at "sx"
      refine l_tm (hb.mono eH3) ?_
      walk_at "sx"
      refine l_tixF (hb.mono eH3).sq (by omega) (by omega) w1 (fun m h0 h1 => w3 m (by omega) h1) ?_
      walk_at "sx"
      obtain ⟨c1, c2, c3⟩ := hxs (i + (us.drop i).idxOf s + 1) (by omega)
      refine l_ixL (SqL.of (eH3 _ _ hf)) (by rw [show (((i + (us.drop i).idxOf s : Nat) : Int) + 1) = ((i + (us.drop i).idxOf s + 1 : Nat) : Int) by omega]; exact atI_nat c2) ?_
      walk_at "sx"
      refine l_ixL (SqL.of (eH3 _ _ c3)) (by rw [show (((j + (vs.drop j).idxOf s : Nat) : Int) + 1) = ((j + (vs.drop j).idxOf s + 1 : Nat) : Int) by omega]; exact lrow_at (by omega)) ?_
      walk_at "sx"
      obtain ⟨d1, d2, d3⟩ := hxs i hi
      refine l_ixL (SqL.of (eH3 _ _ hf)) (atI_nat d2) ?_
      walk_at "sx"
      refine l_ixL (SqL.of (eH3 _ _ d3)) (lrow_at hj) ?_
      walk_at "sx"
      rw [← aft_drop, ← aft_drop]
      refine ifd (fun c => ?_) (fun c => ?_)
      · walk_at "sx"
        refine w_newT (by simp) fun p9 H9 _ e9 h9 => ?_
        walk_at "sx"
        exact k p9 s H9 (eH3.trans e9) (SqT.of h9) ⟨hmu, hmv, by omega⟩ least
      · walk_at "sx"
        exact ⟨_, _, _, rfl, ex.trans e3, next fun z => c (by have := z.2.2; omega)⟩
    · walk_at "sx"
      exact ⟨_, _, _, rfl, ex.trans e3, next fun z => c z.2.1⟩
  · rintro σ Hx ⟨v5, v6, v7, rfl, ex, hno⟩
    rw [List.length_map, List.take_length] at hno
    obtain ⟨s, hs⟩ := lcs_cand hpos
    exact absurd hs (hno s ((hmem s).mpr hs.1))
end
section
variable {P : Program} {w : World} {K : PySem.W.Frag} {mg : Str → Option Value} {base : Heap}
theorem ok_common_row (T : Txt K mg) (o_first_sign : FnOk P w K mg base CX0 1 T.a_first_sign T.fd_first_sign ["one", "other", "lengths", "i", "j"] (sp_first_sign K)) (o_lengths_from : FnOk P w K mg base CX0 1 T.a_lengths_from T.fd_lengths_from ["one", "other"] (sp_lengths_from K)) (o_want_word : FnOk P w K mg base CX0 3 T.a_want_word T.fd_want_word ["q", "word"] (sp_want_word K)) : FnOk P w K mg base CX0 4 T.a_common_row T.fd_common_row ["one", "other"] (sp_common_row K) := by
  refine T.F_common_row.ok sc_common_row (fun vs H Q E h => match vs, h with | [_, _], _ => rfl) (fun cdv A outer s H vs Q E hr h => ?_)
  refine ⟨_, ((pss_cons (ps_expr (pe_call o_want_word hr rfl T.g_want_word T.F_want_word.kp T.b_want_word .nil pass0 (pa_cons (pe_glob (v := .int 36) rfl T.c_MOST_SIGNS ⟨_, rfl⟩) (pa_cons (pv 0) pa_nil))))
    (pss_cons (ps_expr (pe_call o_want_word hr rfl T.g_want_word T.F_want_word.kp T.b_want_word .nil pass0 (pa_cons (pe_glob (v := .int 36) rfl T.c_MOST_SIGNS ⟨_, rfl⟩) (pa_cons (pv 1) pa_nil))))
    (pss_cons (ps_set (i := 2) sc_common_row.nd rfl (by first | exact Or.inl rfl | exact Or.inr rfl) (pe_call o_lengths_from (hr.mono (by decide)) rfl T.g_lengths_from T.F_lengths_from.kp T.b_lengths_from .nil pass0 (pa_cons (pv 0) (pa_cons (pv 1) pa_nil))))
    (pss_cons (ps_set (i := 3) sc_common_row.nd rfl (by first | exact Or.inl rfl | exact Or.inr rfl) (pe_tup pa_nil))
    (pss_cons (ps_set (i := 4) sc_common_row.nd rfl (by first | exact Or.inl rfl | exact Or.inr rfl) pe_int)
    (pss_cons (ps_set (i := 5) sc_common_row.nd rfl (by first | exact Or.inl rfl | exact Or.inr rfl) pe_int)
    (pss_cons (ps_while PassesOwn.never (pt_cmpR op_gtP (pe_ix (ix_K (K := K) rfl) (pe_ix (ix_K (K := K) rfl) (pv 2) (pv 4) (fun _ _ => rfl)) (pv 5) (fun _ _ => rfl)) pe_int (nomark _)) (pss_cons (ps_asg (pe_call o_first_sign (hr.mono (by decide)) rfl T.g_first_sign T.F_first_sign.kp T.b_first_sign .nil pass0 (pa_cons (pv 0) (pa_cons (pv 1) (pa_cons (pv 2) (pa_cons (pv 4) (pa_cons (pv 5) pa_nil)))))) (pg_tupK (K := K) rfl rfl (pgs_cons (pg_name (i := 6) sc_common_row.nd rfl (by first | exact Or.inl rfl | exact Or.inr rfl)) (pgs_cons (pg_name (i := 4) sc_common_row.nd rfl (by first | exact Or.inl rfl | exact Or.inr rfl)) (pgs_cons (pg_name (i := 5) sc_common_row.nd rfl (by first | exact Or.inl rfl | exact Or.inr rfl)) pgs_nil)))))
    (pss_one (ps_set (i := 3) sc_common_row.nd rfl (by first | exact Or.inl rfl | exact Or.inr rfl) (pe_op (op_addK (K := K) rfl) (pv 3) (pe_tup (pa_cons (pv 6) pa_nil)))))))
    (pss_one (ps_ret (pv 3))))))))))), ?_⟩
  match vs, h with
  | [x0, x1], h =>
  replace h : s_common_row K x0 x1 H Q E := h
  try dsimp only [cxOf, Cx.nox, Cx.wish]
  show (_ : TS) { nx := fun _ H' => Q .non H', rt := Q } [some x0, some x1, none, none, none, none, none] H
  obtain ⟨a, b, us, vs, rfl, ha, rfl, hb, hu, hv, gu, gv, k⟩ := h
  walk_at "sx"
  refine ⟨36, us, rfl, by omega, ⟨a, rfl, ha.sq, hu, gu⟩, fun H1 e1 => ?_⟩
  walk_at "sx"
  refine ⟨36, vs, rfl, by omega, ⟨b, rfl, (hb.mono e1).sq, hv, gv⟩, fun H2 e2 => ?_⟩
  have e12 := e1.trans e2
  walk_at "sx"
  refine ⟨a, b, us, vs, rfl, (ha.mono e12).sq, rfl, (hb.mono e12).sq, hu, hv, fun f H3 e3 hL => ?_⟩
  walk_at "sx"
  refine w_newT (by simp) fun p4 H4 _ e4 h4 => ?_
  have e14 := e12.trans (e3.trans e4)
  have hL4 := hL.mono e4
  walk_at "sx"
  refine q_while (fun m σ Hx => ∃ (c : Addr) (acc : List Int) (i j : Nat) (v6 : Option V), σ = [some (.ref a), some (.ref b), some (.ref f), some (.ref c), some (.int i), some (.int j), v6] ∧ Ex H4 Hx ∧ SqT K Hx c (acc.map V.int) ∧ i ≤ us.length ∧ j ≤ vs.length ∧ m = lcsN (us.drop i) (vs.drop j) ∧ acc.length + m ≤ 60 ∧ ∀ r, Bst (us.drop i) (vs.drop j) r → Bst us vs (acc ++ r)) (lcsN us vs) ⟨p4, [], 0, 0, _, rfl, Evl.Ex.refl _, SqT.of h4, by omega, by omega, rfl, ?_, fun r h => h⟩ ?_
  · obtain ⟨r, z1, z2, z3⟩ := lcs_ex us vs
    have := z1.length_le
    simp
    omega
  rintro m σ Hx ⟨c, acc, i, j, v6, rfl, ex, hc, hi, hj, hm, hacc, hbst⟩
  obtain ⟨f', xs, ef, hf, hxl, hxs⟩ := hL4
  cases ef
  obtain ⟨d1, d2, d3⟩ := hxs i hi
  walk_at "sx"
  refine l_ixL (SqL.of (ex _ _ hf)) (atI_nat d2) ?_
  walk_at "sx"
  refine l_ixL (SqL.of (ex _ _ d3)) (lrow_at hj) ?_
  walk_at "sx"
  refine ifd (fun c0 => ?_) (fun c0 => ?_)
  · refine l_wh ?_
    walk_at "sx"
    have eHx : Ex H Hx := e14.trans ex
    refine ⟨a, b, us, vs, i, j, rfl, ha.mono eHx, rfl, hb.mono eHx, ⟨f, xs, rfl, ex _ _ hf, hxl, fun i hi => ?_⟩, rfl, hi, rfl, hj, hu, hv, by omega, fun t s H5 e5 h5 hcs hls => ?_⟩
    · obtain ⟨y, y1, y2⟩ := hxs i hi
      exact ⟨y, y1, ex _ _ y2⟩
    obtain ⟨_, u2, _⟩ := idx_at hcs.1
    obtain ⟨_, w2, _⟩ := idx_at hcs.2.1
    walk_at "sx"
    refine w_newT (by simp) fun p6 H6 _ e6 h6 => ?_
    refine l_addT (Evl.ex_t (e5.trans e6) hc) (SqT.of h6) (by simp; omega) fun p7 H7 e7 h7 => ?_
    walk_at "sx"
    have hlc := hcs.2.2
    refine ⟨_, ?_, p7, acc ++ [s], i + (us.drop i).idxOf s + 1, j + (vs.drop j).idxOf s + 1, _, rfl, ex.trans (e5.trans (e6.trans e7)), ?_, by omega, by omega, rfl, ?_, fun r hr => ?_⟩
    · rw [← aft_drop, ← aft_drop]
      omega
    · rw [List.map_append]
      exact h7
    · rw [← aft_drop, ← aft_drop, List.length_append, List.length_singleton]
      omega
    · rw [← aft_drop, ← aft_drop] at hr
      rw [List.append_assoc]
      exact hbst _ (Bst.step hcs hls hr)
  · walk_at "sx"
    have := hbst [] (Bst.nil (by omega))
    rw [List.append_nil] at this
    exact k c acc Hx (e14.trans ex) hc this
end
section
variable {P : Program} {w : World} {K : PySem.W.Frag} {mg : Str → Option Value} {base : Heap}
theorem ok_nearness (T : Txt K mg) (o_common_row : FnOk P w K mg base CX0 4 T.a_common_row T.fd_common_row ["one", "other"] (sp_common_row K)) : FnOk P w K mg base CX0 5 T.a_nearness T.fd_nearness ["one", "other"] (sp_nearness K) := by
  refine T.F_nearness.ok sc_nearness (fun vs H Q E h => match vs, h with | [_, _], _ => rfl) (fun cdv A outer s H vs Q E hr h => ?_)
  refine ⟨_, ((pss_cons (ps_set (i := 2) sc_nearness.nd rfl (by first | exact Or.inl rfl | exact Or.inr rfl) (pe_call o_common_row hr rfl T.g_common_row T.F_common_row.kp T.b_common_row .nil pass0 (pa_cons (pv 0) (pa_cons (pv 1) pa_nil))))
    (pss_one (ps_ret (pe_op op_subP (pe_op (op_addK (K := K) rfl) (pe_callB (call_lenK (K := K) rfl) (by rfl) T.z_len (by decide +kernel) (pa_cons (pv 0) pa_nil)) (pe_callB (call_lenK (K := K) rfl) (by rfl) T.z_len (by decide +kernel) (pa_cons (pv 1) pa_nil))) (pe_op (op_mulK (K := K) rfl) pe_int (pe_callB (call_lenK (K := K) rfl) (by rfl) T.z_len (by decide +kernel) (pa_cons (pv 2) pa_nil)))))))), ?_⟩
  match vs, h with
  | [x0, x1], h =>
  replace h : s_nearness K x0 x1 H Q E := h
  try dsimp only [cxOf, Cx.nox, Cx.wish]
  show (_ : TS) { nx := fun _ H' => Q .non H', rt := Q } [some x0, some x1, none] H
  obtain ⟨a, b, us, vs, rfl, ha, rfl, hb, hu, hv, gu, gv, k⟩ := h
  walk_at "sx"
  refine ⟨a, b, us, vs, rfl, ha, rfl, hb, hu, hv, gu, gv, fun t r H1 e1 h1 hB => ?_⟩
  have ha1 := (ha.mono e1).sq (K := K)
  have hb1 := (hb.mono e1).sq (K := K)
  walk_at "sx"
  rw [List.length_map, List.length_map, List.length_map, hB.len]
  exact k _ e1
end
section
variable {P : Program} {w : World} {K : PySem.W.Frag} {mg : Str → Option Value} {base : Heap}
theorem ok_want_place (T : Txt K mg) (o_is_number : FnOk P w K mg base CX0 1 T.a_is_number T.fd_is_number ["thing"] (sp_is_number K)) : FnOk P w K mg base CX0 2 T.a_want_place T.fd_want_place ["k", "most"] (sp_want_place K) := by
  refine T.F_want_place.ok sc_want_place (fun vs H Q E h => match vs, h with | [_, _], _ => rfl) (fun cdv A outer s H vs Q E hr h => ?_)
  refine ⟨_, ((pss_one (ps_if (PW.pt (pw_or (pt_not (pt_val (pe_call o_is_number hr rfl T.g_is_number T.F_is_number.kp T.b_is_number .nil pass0 (pa_cons (pv 0) pa_nil)))) (pw_or1 (pt_not (pt_chain (op_leQ (K := K) hr.units rfl) (op_leQ (K := K) hr.units rfl) pe_int (pv 0) (pv 1)))))) (pss_one ps_never) pss_nil))), ?_⟩
  match vs, h with
  | [x0, x1], h =>
  replace h : s_want_place K x0 x1 H Q E := h
  try dsimp only [cxOf, Cx.nox, Cx.wish]
  show (_ : TS) { nx := fun _ H' => Q .non H', rt := Q } [some x0, some x1] H
  obtain ⟨k, m, rfl, rfl, hk, q⟩ := h
  walk_at "sx"
  refine ⟨"int", .int k, ?_⟩
  walk_at "sx"
  refine ifd (fun c => ?_) (fun c => absurd hk.1 c)
  walk_at "sx"
  refine ifdn (fun c => absurd hk.2 c) (fun c => ?_)
  walk_at "sx"
  exact q
end
section
variable {P : Program} {w : World} {K : PySem.W.Frag} {mg : Str → Option Value} {base : Heap}
theorem ok_lost (T : Txt K mg) (o_want_place : FnOk P w K mg base CX0 2 T.a_want_place T.fd_want_place ["k", "most"] (sp_want_place K)) (o_want_word : FnOk P w K mg base CX0 3 T.a_want_word T.fd_want_word ["q", "word"] (sp_want_word K)) : FnOk P w K mg base CX0 4 T.a_lost T.fd_lost ["q", "word", "k"] (sp_lost K) := by
  refine T.F_lost.ok sc_lost (fun vs H Q E h => match vs, h with | [_, _, _], _ => rfl) (fun cdv A outer s H vs Q E hr h => ?_)
  refine ⟨_, ((pss_cons (ps_expr (pe_call o_want_word hr rfl T.g_want_word T.F_want_word.kp T.b_want_word .nil pass0 (pa_cons (pv 0) (pa_cons (pv 1) pa_nil))))
    (pss_cons (ps_expr (pe_call o_want_place (hr.mono (by decide)) rfl T.g_want_place T.F_want_place.kp T.b_want_place .nil pass0 (pa_cons (pv 2) (pa_cons (pe_op op_subP (pe_callB (call_lenK (K := K) rfl) (by rfl) T.z_len (by decide +kernel) (pa_cons (pv 1) pa_nil)) pe_int) pa_nil))))
    (pss_one (ps_ret (pe_op (op_catN (K := K) rfl) (pe_slice (sl_N (K := K) rfl) (pv 1) po_none (po_some (pv 2))) (pe_slice (sl_N (K := K) rfl) (pv 1) (po_some (pe_op (op_catN (K := K) rfl) (pv 2) pe_int)) po_none))))))), ?_⟩
  match vs, h with
  | [x0, x1, x2], h =>
  replace h : s_lost K x0 x1 x2 H Q E := h
  try dsimp only [cxOf, Cx.nox, Cx.wish]
  show (_ : TS) { nx := fun _ H' => Q .non H', rt := Q } [some x0, some x1, some x2] H
  obtain ⟨q, a, ns, k, rfl, hq, rfl, hs, hl, hg, rfl, hk, kk⟩ := h
  walk_at "sx"
  refine ⟨q, ns, rfl, hq, ⟨a, rfl, hs.sq, hl, hg⟩, fun H1 e1 => ?_⟩
  have hs1 := hs.mono e1
  walk_at "sx"
  refine ⟨_, _, rfl, rfl, by simp; omega, ?_⟩
  walk_at "sx"
  refine l_slNT hs1 (by simp; omega) fun p H2 e2 h2 => ?_
  walk_at "sx"
  refine l_slNT (hs1.mono e2) (by simp; omega) fun p2 H3 e3 h3 => ?_
  rw [cut_toA] at h2
  rw [show ((k : Int) + 1) = ((k + 1 : Nat) : Int) by omega, cut_fromA] at h3
  refine l_addNT (h2.mono e3) h3 (by simp; omega) fun p3 H4 e4 h4 => ?_
  refine kk _ _ (e1.trans (e2.trans (e3.trans e4))) ?_
  unfold lostAt
  rw [List.map_append, List.map_take, List.map_drop]
  exact h4
end
section
variable {P : Program} {w : World} {K : PySem.W.Frag} {mg : Str → Option Value} {base : Heap}
theorem ok_put_in (T : Txt K mg) (o_is_sign : FnOk P w K mg base CX0 2 T.a_is_sign T.fd_is_sign ["q", "thing"] (sp_is_sign K)) (o_want_place : FnOk P w K mg base CX0 2 T.a_want_place T.fd_want_place ["k", "most"] (sp_want_place K)) (o_want_word : FnOk P w K mg base CX0 3 T.a_want_word T.fd_want_word ["q", "word"] (sp_want_word K)) : FnOk P w K mg base CX0 4 T.a_put_in T.fd_put_in ["q", "word", "k", "sign"] (sp_put_in K) := by
  refine T.F_put_in.ok sc_put_in (fun vs H Q E h => match vs, h with | [_, _, _, _], _ => rfl) (fun cdv A outer s H vs Q E hr h => ?_)
  refine ⟨_, ((pss_cons (ps_expr (pe_call o_want_word hr rfl T.g_want_word T.F_want_word.kp T.b_want_word .nil pass0 (pa_cons (pv 0) (pa_cons (pv 1) pa_nil))))
    (pss_cons (ps_expr (pe_call o_want_place (hr.mono (by decide)) rfl T.g_want_place T.F_want_place.kp T.b_want_place .nil pass0 (pa_cons (pv 2) (pa_cons (pe_callB (call_lenK (K := K) rfl) (by rfl) T.z_len (by decide +kernel) (pa_cons (pv 1) pa_nil)) pa_nil))))
    (pss_cons (ps_if (pt_not (pt_val (pe_call o_is_sign (hr.mono (by decide)) rfl T.g_is_sign T.F_is_sign.kp T.b_is_sign .nil pass0 (pa_cons (pv 0) (pa_cons (pv 3) pa_nil))))) (pss_one ps_never) pss_nil)
    (pss_cons (ps_if (pt_cmpR (op_eqK (K := K) hr.units rfl) (pe_callB (call_lenK (K := K) rfl) (by rfl) T.z_len (by decide +kernel) (pa_cons (pv 1) pa_nil)) (pe_glob (v := .int 60) rfl T.c_MOST_LENGTH ⟨_, rfl⟩) (nomark _)) (pss_one ps_never) pss_nil)
    (pss_one (ps_ret (pe_op (op_addK (K := K) rfl) (pe_op (op_addK (K := K) rfl) (pe_slice (sl_K (K := K) rfl) (pv 1) po_none (po_some (pv 2))) (pe_tup (pa_cons (pv 3) pa_nil))) (pe_slice (sl_K (K := K) rfl) (pv 1) (po_some (pv 2)) po_none))))))))), ?_⟩
  match vs, h with
  | [x0, x1, x2, x3], h =>
  replace h : s_put_in K x0 x1 x2 x3 H Q E := h
  try dsimp only [cxOf, Cx.nox, Cx.wish]
  show (_ : TS) { nx := fun _ H' => Q .non H', rt := Q } [some x0, some x1, some x2, some x3] H
  obtain ⟨q, ns, k, i, rfl, hq, hw, rfl, hk, rfl, hi, h60, kk⟩ := h
  have hw0 := hw
  obtain ⟨a, rfl, hs, hl, hg⟩ := hw0
  walk_at "sx"
  refine ⟨q, ns, rfl, hq, hw, fun H1 e1 => ?_⟩
  walk_at "sx"
  refine ⟨_, _, rfl, rfl, by simp; omega, ?_⟩
  walk_at "sx"
  refine ⟨q, "int", rfl, .int i, ?_⟩
  have ei : signOk q (.int i) = true := by simp [signOk, hi.1, hi.2]
  rw [ei]
  walk_at "sx"
  refine ifd (fun c => ?_) (fun c => ?_)
  · rw [List.length_map] at c; omega
  walk_at "sx"
  refine l_slT (by walk_at "sq") fun p H2 e2 h2 => ?_
  walk_at "sx"
  refine w_newT (by simp) fun p3 H3 _ e3 h3 => ?_
  refine l_addT (by walk_at "sq") (SqT.of h3) (by simp [cutV]; omega) fun p4 H4 e4 h4 => ?_
  walk_at "sx"
  refine l_slT (by walk_at "sq") fun p5 H5 e5 h5 => ?_
  refine l_addT (by walk_at "sq") h5 (by simp [cutV]; omega) fun p6 H6 e6 h6 => ?_
  refine kk _ _ (e1.trans (e2.trans (e3.trans (e4.trans (e5.trans e6))))) ?_
  rw [cut_to (by simp; omega), cut_from (by simp; omega)] at h6
  rw [List.map_append, List.map_append, List.map_take, List.map_drop]
  exact h6
end
section
variable {P : Program} {w : World} {K : PySem.W.Frag} {mg : Str → Option Value} {base : Heap}
theorem ok_L_at (T : Txt K mg) : FnOk P w K mg base CX0 1 T.a_L_at T.fd_L_at ["_law_script", "_law_k"] (sp_L_at K) := by
  refine T.F_L_at.ok sc_L_at (fun vs H Q E h => match vs, h with | [_, _], _ => rfl) (fun cdv A outer s H vs Q E hr h => ?_)
  refine ⟨_, ((pss_cons (ps_if (pt_cmpR op_ltP (pv 1) (pe_callB (call_lenK (K := K) rfl) (by rfl) T.z_len (by decide +kernel) (pa_cons (pv 0) pa_nil)) (nomark _)) (pss_one (ps_ret (pe_ix (ix_K (K := K) rfl) (pv 0) (pv 1) (fun _ _ => rfl)))) pss_nil)
    (pss_one (ps_ret pe_int)))), ?_⟩
  match vs, h with
  | [x0, x1], h =>
  replace h : s_L_at K x0 x1 H Q E := h
  try dsimp only [cxOf, Cx.nox, Cx.wish]
  show (_ : TS) { nx := fun _ H' => Q .non H', rt := Q } [some x0, some x1] H
  obtain ⟨a, ns, k, rfl, hs, rfl, kk⟩ := h
  walk_at "sx"
  refine ifd (fun c => ?_) (fun c => ?_)
  · have c' : k < ns.length := by simpa using c
    walk_at "sx"
    refine l_ixL hs (v := .int (ns.getD k 0)) (atI_nat (by simp [List.getD, c'])) ?_
    exact kk
  · have c' : ns.length ≤ k := by simpa using c
    walk_at "sx"
    have e : ns.getD k 0 = 0 := by simp [List.getD, c']
    rw [e] at kk
    exact kk
end
section
variable {P : Program} {w : World} {K : PySem.W.Frag} {mg : Str → Option Value} {base : Heap}
theorem ok_L_pot (T : Txt K mg) (o_L_at : FnOk P w K mg base CX0 1 T.a_L_at T.fd_L_at ["_law_script", "_law_k"] (sp_L_at K)) : FnOk P w K mg base CX0 2 T.a_L_pot T.fd_L_pot ["_law_script", "_law_k"] (sp_L_pot K) := by
  refine T.F_L_pot.ok sc_L_pot (fun vs H Q E h => match vs, h with | [_, _], _ => rfl) (fun cdv A outer s H vs Q E hr h => ?_)
  refine ⟨_, ((pss_cons (ps_set (i := 2) sc_L_pot.nd rfl (by first | exact Or.inl rfl | exact Or.inr rfl) (pe_op (op_addK (K := K) rfl) pe_int (pe_op (op_mulK (K := K) rfl) pe_int (pv 1))))
    (pss_cons (ps_for PassesOwn.never rfl (pi_seqK (K := K) rfl (pe_slice (sl_K (K := K) rfl) (pv 0) po_none (po_some pe_int))) (pg_name (i := 3) sc_L_pot.nd rfl (by first | exact Or.inl rfl | exact Or.inr rfl)) (pss_one (ps_set (i := 2) sc_L_pot.nd rfl (by first | exact Or.inl rfl | exact Or.inr rfl) (pe_op op_modP (pe_op (op_addK (K := K) rfl) (pe_op (op_mulK (K := K) rfl) (pv 2) pe_int) (pv 3)) pe_int))))
    (pss_cons (ps_set (i := 4) sc_L_pot.nd rfl (by first | exact Or.inl rfl | exact Or.inr rfl) (pe_call o_L_at hr rfl T.g_L_at T.F_L_at.kp T.b_L_at .nil pass0 (pa_cons (pv 0) (pa_cons (pv 1) pa_nil))))
    (pss_cons (ps_if (pt_cmpR op_ltP (pv 4) (pe_op op_powP pe_int pe_int) (nomark _)) (pss_one (ps_set (i := 4) sc_L_pot.nd rfl (by first | exact Or.inl rfl | exact Or.inr rfl) pe_int)) pss_nil)
    (pss_one (ps_ret (pe_lst (pa_cons (pv 4) (pa_cons (pv 2) pa_nil)))))))))), ?_⟩
  match vs, h with
  | [x0, x1], h =>
  replace h : s_L_pot K x0 x1 H Q E := h
  try dsimp only [cxOf, Cx.nox, Cx.wish]
  show (_ : TS) { nx := fun _ H' => Q .non H', rt := Q } [some x0, some x1, none, none, none] H
  obtain ⟨a, ns, k, rfl, hs, rfl, hk, kk⟩ := h
  walk_at "sx"
  refine l_slL hs fun p H1 hp e1 h1 => ?_
  walk_at "sx"
  refine l_forL (fun i σ H2 => ∃ (s : Int) (c : Option V), σ = [some (.ref a), some (.int k), some (.int s), c, none] ∧ Ex H1 H2 ∧ 0 ≤ s ∧ s < 2147483647) ⟨_, _, rfl, Evl.Ex.refl _, by omega, by omega⟩ (fun i σ H2 _ ⟨_, _, _, e, _⟩ => Evl.ex_l e (SqL.of h1)) ?_ ?_
  · rintro i x σ H2 hi hx ⟨s, c, rfl, e2, b1, b2⟩
    obtain ⟨z, rfl⟩ : ∃ z, x = .int z := by
      have hm : x ∈ cutV (ns.map V.int) none (some 40) := List.mem_of_getElem? hx
      obtain ⟨z, _, rfl⟩ := List.mem_map.mp (List.mem_of_mem_drop (List.mem_of_mem_take hm))
      exact ⟨z, rfl⟩
    walk_at "sx"
    exact ⟨_, _, rfl, e2, Int.emod_nonneg _ (by decide), Int.emod_lt_of_pos _ (by decide)⟩
  · rintro σ H2 ⟨s, c, rfl, e2, b1, b2⟩
    walk_at "sx"
    refine ⟨a, ns, k, rfl, by walk_at "sq", rfl, ?_⟩
    walk_at "sx"
    refine ifd (fun c => ?_) (fun c => ?_)
    · walk_at "sx"
      refine w_newL (by simp) fun p3 H3 hn3 e3 h3 => ?_
      exact kk _ _ (Evl.fresh_back (e1.trans e2) hn3) (e1.trans (e2.trans e3)) ⟨_, _, h3, Int.le_refl _, b1, b2⟩
    · walk_at "sx"
      refine w_newL (by simp) fun p3 H3 hn3 e3 h3 => ?_
      refine kk _ _ (Evl.fresh_back (e1.trans e2) hn3) (e1.trans (e2.trans e3)) ⟨_, _, h3, ?_, b1, b2⟩
      have : (0 : Int) ≤ 10 ^ (18 : Int).toNat := by decide
      omega
end
section
variable {P : Program} {w : World} {K : PySem.W.Frag} {mg : Str → Option Value} {base : Heap}
theorem ok_L_digit (T : Txt K mg) : FnOk P w K mg base CX0 1 T.a_L_digit T.fd_L_digit ["_law_pot_here", "_law_base"] (sp_L_digit K) := by
  refine T.F_L_digit.ok sc_L_digit (fun vs H Q E h => match vs, h with | [_, _], _ => rfl) (fun cdv A outer s H vs Q E hr h => ?_)
  refine ⟨_, ((pss_cons (ps_if (pt_cmpR (op_eqK (K := K) hr.units rfl) (pe_ix (ix_K (K := K) rfl) (pv 0) pe_int (fun _ _ => rfl)) pe_int (nomark _)) (pss_cons (ps_asg (pe_op op_modP (pe_op (op_addK (K := K) rfl) (pe_op (op_mulK (K := K) rfl) (pe_ix (ix_K (K := K) rfl) (pv 0) pe_int (fun _ _ => rfl)) pe_int) pe_int) pe_int) (pg_sub (pv 0) pe_int set_list))
    (pss_one (ps_asg (pe_op op_modP (pe_op (op_mulK (K := K) rfl) (pe_ix (ix_K (K := K) rfl) (pv 0) pe_int (fun _ _ => rfl)) (pe_ix (ix_K (K := K) rfl) (pv 0) pe_int (fun _ _ => rfl))) pe_int) (pg_sub (pv 0) pe_int set_list)))) pss_nil)
    (pss_cons (ps_set (i := 2) sc_L_digit.nd rfl (by first | exact Or.inl rfl | exact Or.inr rfl) (pe_op op_modP (pe_ix (ix_K (K := K) rfl) (pv 0) pe_int (fun _ _ => rfl)) (pv 1)))
    (pss_cons (ps_asg (pe_op op_divP (pe_ix (ix_K (K := K) rfl) (pv 0) pe_int (fun _ _ => rfl)) (pv 1)) (pg_sub (pv 0) pe_int set_list))
    (pss_one (ps_ret (pv 2))))))), ?_⟩
  match vs, h with
  | [x0, x1], h =>
  replace h : s_L_digit K x0 x1 H Q E := h
  try dsimp only [cxOf, Cx.nox, Cx.wish]
  show (_ : TS) { nx := fun _ H' => Q .non H', rt := Q } [some x0, some x1, none] H
  obtain ⟨p, b, rfl, ⟨n, s, hp, hn, hs, hs2⟩, rfl, hb, k⟩ := h
  walk_at "sx"
  refine l_ixL (SqL.of hp) (v := .int n) rfl ?_
  walk_at "sx"
  refine ifd (fun c => ?_) (fun c => ?_)
  · walk_at "sx"
    refine l_ixL (SqL.of hp) (v := .int s) rfl ?_
    walk_at "sx"
    refine l_setL hp (j := 1) rfl fun H2 e2 h2 => ?_
    walk_at "sx"
    refine l_ixL (SqL.of h2) rfl ?_
    walk_at "sx"
    refine l_ixL (SqL.of h2) rfl ?_
    have q0 := Int.emod_nonneg (s * 16807 + 11) (show (2147483647 : Int) ≠ 0 by decide)
    have q1 := Int.emod_lt_of_pos (s * 16807 + 11) (show (0 : Int) < 2147483647 by decide)
    generalize (s * 16807 + 11) % 2147483647 = s2 at *
    have q2 := Int.emod_nonneg (s2 * s2) (show (2147483629 : Int) ≠ 0 by decide)
    walk_at "sx"
    refine l_setL h2 (j := 0) rfl fun H3 e3 h3 => ?_
    walk_at "sx"
    refine l_ixL (SqL.of h3) rfl ?_
    walk_at "sx"
    refine l_ixL (SqL.of h3) rfl ?_
    walk_at "sx"
    refine l_setL h3 (j := 0) rfl fun H4 e4 h4 => ?_
    walk_at "sx"
    exact k _ _ ((e2.trans e3).trans e4) ⟨_, s2, h4, Int.ediv_nonneg q2 (by omega), q0, q1⟩ (Int.emod_nonneg _ (by omega)) (Int.emod_lt_of_pos _ hb.1)
  · walk_at "sx"
    refine l_ixL (SqL.of hp) (v := .int n) rfl ?_
    walk_at "sx"
    refine l_ixL (SqL.of hp) (v := .int n) rfl ?_
    walk_at "sx"
    refine l_setL hp (j := 0) rfl fun H2 e2 h2 => ?_
    walk_at "sx"
    exact k _ _ e2 ⟨_, s, h2, Int.ediv_nonneg hn (by omega), hs, hs2⟩ (Int.emod_nonneg _ (by omega)) (Int.emod_lt_of_pos _ hb.1)
end
section
variable {P : Program} {w : World} {K : PySem.W.Frag} {mg : Str → Option Value} {base : Heap}
theorem ok_L_long (T : Txt K mg) (o_L_digit : FnOk P w K mg base CX0 1 T.a_L_digit T.fd_L_digit ["_law_pot_here", "_law_base"] (sp_L_digit K)) : FnOk P w K mg base CX0 2 T.a_L_long T.fd_L_long ["_law_pot_here", "_law_q", "_law_n"] (sp_L_long K) := by
  refine T.F_L_long.ok sc_L_long (fun vs H Q E h => match vs, h with | [_, _, _], _ => rfl) (fun cdv A outer s H vs Q E hr h => ?_)
  refine ⟨_, ((pss_one (ps_ret (pe_callTy (call_tupN (K := K) rfl) (by rfl) T.z_tuple (by decide +kernel) (pa_cons (pe_lc (own := [("_law_k", 3)]) (g := (gName 3)) (tt := tYes) rfl sc_L_long.nd (pi_range1 rfl T.z_range (pa_cons (pv 2) pa_nil)) (blkOk_by (own := [("_law_k", 3)]) (N := ["_law_pot_here", "_law_q", "_law_n", "_law_k"]) (sc := defScope S_L_long) (by decide +kernel)) (fun _ _ _ _ _ => (pg_name (i := 3) sc_L_long.nd rfl (by first | exact Or.inl rfl | exact Or.inr rfl))) (fun _ _ _ _ _ => pts_nil) (fun _ _ _ _ _ => (pe_call o_L_digit hr rfl T.g_L_digit T.F_L_digit.kp T.b_L_digit .nil pass0 (pa_cons (pv 0) (pa_cons (pv 1) pa_nil))))) pa_nil))))), ?_⟩
  match vs, h with
  | [x0, x1, x2], h =>
  replace h : s_L_long K x0 x1 x2 H Q E := h
  try dsimp only [cxOf, Cx.nox, Cx.wish]
  show (_ : TS) { nx := fun _ H' => Q .non H', rt := Q } [some x0, some x1, some x2, none] H
  obtain ⟨p, q, n, rfl, hp, rfl, hq, rfl, hn, k⟩ := h
  walk_at "sx"
  obtain ⟨n0, s0, hp0, _⟩ := id hp
  refine l_lc walk_range (PvD p q H) (fun D H1 hD e h1 => ⟨ne_of_none hp0 hD, ExB.of e, hp.mono e, [], rfl, rfl, fun _ m => by cases m⟩) (fun _ _ _ _ _ _ _ => True.intro) ?_ ?_
  · rintro D i acc x H1 H2 hD hi h1 ⟨hne, e, hp1, ns, rfl, hl, hs⟩ ⟨rfl, rfl⟩
    walk_at "sx"
    refine ⟨rfl, ?_⟩
    walk_at "sx"
    refine ⟨p, q, rfl, hp1, rfl, hq, fun d H3 e3 hp3 d0 d1 => ?_⟩
    refine lc_end (Pv := PvD p q H) (e3 _ _ (Ne.symm hne) h1) (by simp; omega) fun H6 e6 h6 => ?_
    refine ⟨hne, fun a o n h => ?_, ?_, ns ++ [d], by simp, by simp [hl], ?_⟩
    · have na : a ≠ D := ne_of_none h hD
      exact e6 _ _ na (e3 _ _ n (e _ _ n h))
    · obtain ⟨n3, s3, h3, b3⟩ := hp3
      exact ⟨n3, s3, e6 _ _ hne h3, b3⟩
    · exact hs.append fun m hm => by
        rw [List.mem_singleton] at hm
        subst hm
        exact ⟨d0, d1⟩
  · rintro D acc H1 hD h1 ⟨hne, e, hp1, ns, rfl, hl, hs⟩
    walk_at "sx"
    refine l_tupLN (SqL.of h1) (by simp; omega) fun a H2 e2 h2 => ?_
    exact k _ ns _ (e.ex e2) (hp1.mono e2) h2 (by omega) hs
end
section
variable {P : Program} {w : World} {K : PySem.W.Frag} {mg : Str → Option Value} {base : Heap}
theorem ok_L_word (T : Txt K mg) (o_L_long : FnOk P w K mg base CX0 2 T.a_L_long T.fd_L_long ["_law_pot_here", "_law_q", "_law_n"] (sp_L_long K)) (o_L_digit : FnOk P w K mg base CX0 1 T.a_L_digit T.fd_L_digit ["_law_pot_here", "_law_base"] (sp_L_digit K)) : FnOk P w K mg base CX0 3 T.a_L_word T.fd_L_word ["_law_pot_here", "_law_q", "_law_most"] (sp_L_word K) := by
  refine T.F_L_word.ok sc_L_word (fun vs H Q E h => match vs, h with | [_, _, _], _ => rfl) (fun cdv A outer s H vs Q E hr h => ?_)
  refine ⟨_, ((pss_one (ps_ret (pe_call o_L_long hr rfl T.g_L_long T.F_L_long.kp T.b_L_long .nil pass0 (pa_cons (pv 0) (pa_cons (pv 1) (pa_cons (pe_call o_L_digit (hr.mono (by decide)) rfl T.g_L_digit T.F_L_digit.kp T.b_L_digit .nil pass0 (pa_cons (pv 0) (pa_cons (pe_op (op_addK (K := K) rfl) (pv 2) pe_int) pa_nil))) pa_nil))))))), ?_⟩
  match vs, h with
  | [x0, x1, x2], h =>
  replace h : s_L_word K x0 x1 x2 H Q E := h
  try dsimp only [cxOf, Cx.nox, Cx.wish]
  show (_ : TS) { nx := fun _ H' => Q .non H', rt := Q } [some x0, some x1, some x2] H
  obtain ⟨p, q, m, rfl, hp, rfl, hq, rfl, hm, k⟩ := h
  walk_at "sx"
  refine ⟨p, m + 1, rfl, hp, rfl, by omega, fun d H1 e1 hp1 d0 d1 => ?_⟩
  walk_at "sx"
  refine ⟨p, q, d, rfl, hp1, rfl, hq, rfl, by omega, fun a ns H2 e2 hp2 h2 hl hs => ?_⟩
  exact k a ns _ (e1.trans e2) hp2 h2 (by omega) hs
end
section
variable {P : Program} {w : World} {K : PySem.W.Frag} {mg : Str → Option Value} {base : Heap}
theorem ok_L_runny (T : Txt K mg) (o_L_digit : FnOk P w K mg base CX0 1 T.a_L_digit T.fd_L_digit ["_law_pot_here", "_law_base"] (sp_L_digit K)) : FnOk P w K mg base CX0 2 T.a_L_runny T.fd_L_runny ["_law_pot_here", "_law_q", "_law_most"] (sp_L_runny K) := by
  refine T.F_L_runny.ok sc_L_runny (fun vs H Q E h => match vs, h with | [_, _, _], _ => rfl) (fun cdv A outer s H vs Q E hr h => ?_)
  refine ⟨_, ((pss_cons (ps_set (i := 3) sc_L_runny.nd rfl (by first | exact Or.inl rfl | exact Or.inr rfl) (pe_call o_L_digit hr rfl T.g_L_digit T.F_L_digit.kp T.b_L_digit .nil pass0 (pa_cons (pv 0) (pa_cons (pe_op (op_catN (K := K) rfl) (pv 2) pe_int) pa_nil))))
    (pss_cons (ps_set (i := 4) sc_L_runny.nd rfl (by first | exact Or.inl rfl | exact Or.inr rfl) (pe_tupN pa_nil))
    (pss_cons (ps_while PassesOwn.never (pt_cmpR op_ltP (pe_callB (call_lenK (K := K) rfl) (by rfl) T.z_len (by decide +kernel) (pa_cons (pv 4) pa_nil)) (pv 3) (nomark _)) (pss_one (ps_set (i := 4) sc_L_runny.nd rfl (by first | exact Or.inl rfl | exact Or.inr rfl) (pe_op (op_catN (K := K) rfl) (pv 4) (pe_op (op_repN (K := K) rfl) (pe_tupN (pa_cons (pe_call o_L_digit hr rfl T.g_L_digit T.F_L_digit.kp T.b_L_digit .nil pass0 (pa_cons (pv 0) (pa_cons (pv 1) pa_nil))) pa_nil)) (pe_op (op_catN (K := K) rfl) pe_int (pe_call o_L_digit hr rfl T.g_L_digit T.F_L_digit.kp T.b_L_digit .nil pass0 (pa_cons (pv 0) (pa_cons pe_int pa_nil)))))))))
    (pss_one (ps_ret (pe_slice (sl_N (K := K) rfl) (pv 4) po_none (po_some (pv 3))))))))), ?_⟩
  match vs, h with
  | [x0, x1, x2], h =>
  replace h : s_L_runny K x0 x1 x2 H Q E := h
  try dsimp only [cxOf, Cx.nox, Cx.wish]
  show (_ : TS) { nx := fun _ H' => Q .non H', rt := Q } [some x0, some x1, some x2, none, none] H
  obtain ⟨p, q, m, rfl, hp, rfl, hq, rfl, hm, k⟩ := h
  walk_at "sx"
  refine ⟨p, m + 1, rfl, hp, rfl, by omega, fun d H1 e1 hp1 d0 d1 => ?_⟩
  walk_at "sx"
  refine w_newN (by simp) fun p2 H2 _ e2 h2 => ?_
  walk_at "sx"
  refine q_while (fun j σ H3 => ∃ (a : Addr) (ns : List Int), σ = [some (.ref p), some (.int q), some (.int m), some (.int d), some (.ref a)] ∧ ExB p H H3 ∧ Pot H3 p ∧ Nt H3 a (ns.map V.int) ∧ Sg q ns ∧ j = d.toNat - ns.length ∧ ns.length ≤ 2000) (d.toNat) ⟨p2, [], rfl, e1.ex e2, hp1.mono e2, h2, Sg.nil, rfl, by simp⟩ ?_
  rintro j σ H3 ⟨a, ns, rfl, e3, hp3, h3, hs, rfl, hl⟩
  have h3s : SqT K H3 a (ns.map V.int) := h3.sq
  walk_at "sx"
  refine ifd (fun c => ?_) (fun c => ?_)
  · rw [List.length_map] at c
    refine l_wh ?_
    walk_at "sx"
    refine ⟨p, q, rfl, hp3, rfl, hq, fun d2 H4 e4 hp4 d20 d21 => ?_⟩
    walk_at "sx"
    refine w_newN (by simp) fun p5 H5 _ e5 h5 => ?_
    walk_at "sx"
    refine ⟨p, 6, rfl, hp4.mono e5, rfl, by omega, fun d3 H6 e6 hp6 d30 d31 => ?_⟩
    walk_at "sx"
    have er : (List.replicate (1 + d3).toNat [V.int d2]).flatten = (List.replicate (1 + d3).toNat d2).map V.int := by
      rw [List.flatten_replicate_singleton, List.map_replicate]
    refine l_repNT ((hp4.mono e5).n e6 h5) (by simp) (by simp) (by omega) (by rw [er]; simp; omega) fun a7 H7 e7 h7 => ?_
    have h3' : Nt H7 a (ns.map V.int) := ((hp4.mono e5).n e6 ((hp3.n e4 h3).mono e5)).mono e7
    rw [er] at h7
    refine l_addNT h3' h7 (by simp; omega) fun a8 H8 e8 h8 => ?_
    walk_at "sx"
    refine ⟨_, ?_, a8, ns ++ List.replicate (1 + d3).toNat d2, rfl, ((((e3.trans e4).ex e5).trans e6).ex e7).ex e8, (hp6.mono e7).mono e8, by rw [List.map_append]; exact h8, hs.append ?_, rfl, ?_⟩
    · simp; omega
    · intro z hz
      rw [(List.mem_replicate.mp hz).2]
      exact ⟨d20, d21⟩
    · simp; omega
  · rw [List.length_map] at c
    walk_at "sx"
    refine l_slNT h3 (by simp; omega) fun a4 H4 e4 h4 => ?_
    rw [show d = ((d.toNat : Nat) : Int) by omega, cut_to (by simp; omega), ← List.map_take] at h4
    exact k a4 _ _ (e3.ex e4) (hp3.mono e4) h4 (by simp; omega) (hs.take _)
end
section
variable {P : Program} {w : World} {K : PySem.W.Frag} {mg : Str → Option Value} {base : Heap}
theorem ok_L_bent (T : Txt K mg) (o_L_digit : FnOk P w K mg base CX0 1 T.a_L_digit T.fd_L_digit ["_law_pot_here", "_law_base"] (sp_L_digit K)) : FnOk P w K mg base CX0 2 T.a_L_bent T.fd_L_bent ["_law_pot_here", "_law_q", "_law_word_here"] (sp_L_bent K) := by
  refine T.F_L_bent.ok sc_L_bent (fun vs H Q E h => match vs, h with | [_, _, _], _ => rfl) (fun cdv A outer s H vs Q E hr h => ?_)
  refine ⟨_, ((pss_cons (ps_set (i := 3) sc_L_bent.nd rfl (by first | exact Or.inl rfl | exact Or.inr rfl) (pv 2))
    (pss_cons (ps_for PassesOwn.never rfl (pi_range1 rfl T.z_range (pa_cons (pe_call o_L_digit hr rfl T.g_L_digit T.F_L_digit.kp T.b_L_digit .nil pass0 (pa_cons (pv 0) (pa_cons pe_int pa_nil))) pa_nil)) (pg_name (i := 4) sc_L_bent.nd rfl (by first | exact Or.inl rfl | exact Or.inr rfl)) (pss_cons (ps_set (i := 5) sc_L_bent.nd rfl (by first | exact Or.inl rfl | exact Or.inr rfl) (pe_call o_L_digit hr rfl T.g_L_digit T.F_L_digit.kp T.b_L_digit .nil pass0 (pa_cons (pv 0) (pa_cons (pe_op (op_catN (K := K) rfl) (pe_callB (call_lenK (K := K) rfl) (by rfl) T.z_len (by decide +kernel) (pa_cons (pv 3) pa_nil)) pe_int) pa_nil))))
    (pss_cons (ps_set (i := 6) sc_L_bent.nd rfl (by first | exact Or.inl rfl | exact Or.inr rfl) (pe_call o_L_digit hr rfl T.g_L_digit T.F_L_digit.kp T.b_L_digit .nil pass0 (pa_cons (pv 0) (pa_cons pe_int pa_nil))))
    (pss_cons (ps_set (i := 7) sc_L_bent.nd rfl (by first | exact Or.inl rfl | exact Or.inr rfl) (pe_op (op_repN (K := K) rfl) (pe_tupN (pa_cons (pe_call o_L_digit hr rfl T.g_L_digit T.F_L_digit.kp T.b_L_digit .nil pass0 (pa_cons (pv 0) (pa_cons (pv 1) pa_nil))) pa_nil)) (pe_callB (call_min2P rfl) (by rfl) T.z_min (by decide +kernel) (pa_cons (pv 6) (pa_cons pe_int pa_nil)))))
    (pss_one (ps_set (i := 3) sc_L_bent.nd rfl (by first | exact Or.inl rfl | exact Or.inr rfl) (pe_op (op_catN (K := K) rfl) (pe_op (op_catN (K := K) rfl) (pe_slice (sl_N (K := K) rfl) (pv 3) po_none (po_some (pv 5))) (pv 7)) (pe_slice (sl_N (K := K) rfl) (pv 3) (po_some (pe_op (op_catN (K := K) rfl) (pv 5) (pe_callTy call_intP (by rfl) T.z_int (by decide +kernel) (pa_cons (pe_cmpR op_ltP (pv 6) pe_int (nomark _)) pa_nil)))) po_none))))))))
    (pss_one (ps_ret (pe_slice (sl_N (K := K) rfl) (pv 3) po_none (po_some pe_int))))))), ?_⟩
  match vs, h with
  | [x0, x1, x2], h =>
  replace h : s_L_bent K x0 x1 x2 H Q E := h
  try dsimp only [cxOf, Cx.nox, Cx.wish]
  show (_ : TS) { nx := fun _ H' => Q .non H', rt := Q } [some x0, some x1, some x2, none, none, none, none, none] H
  obtain ⟨p, a, q, ns, rfl, hp, rfl, hq, rfl, ha, hl, hg, k⟩ := h
  walk_at "sx"
  refine ⟨p, 12, rfl, hp, rfl, by omega, fun d H1 e1 hp1 d0 d1 => ?_⟩
  walk_at "sx"
  refine l_forR (fun i σ Hx => ∃ (b : Addr) (ms : List Int) (v4 v5 v6 v7 : Option V), σ = [some (.ref p), some (.int q), some (.ref a), some (.ref b), v4, v5, v6, v7] ∧ ExB p H Hx ∧ Pot Hx p ∧ Nt Hx b (ms.map V.int) ∧ ms.length ≤ 60 + i ∧ Sg q ms) ⟨a, ns, _, _, _, _, rfl, e1, hp1, hp.n e1 ha, by omega, hg⟩ ?_ ?_
  · rintro i σ Hx hi ⟨b, ms, v4, v5, v6, v7, rfl, ex, hpx, hb, hml, hmg⟩
    have hbs : SqT K Hx b (ms.map V.int) := hb.sq
    walk_at "sx"
    rw [List.length_map]
    refine ⟨p, _, rfl, hpx, rfl, by omega, fun at_ H2 e2 hp2 a0 a1 => ?_⟩
    obtain ⟨j, rfl⟩ : ∃ j : Nat, at_ = j := ⟨at_.toNat, by omega⟩
    walk_at "sx"
    refine ⟨p, 3, rfl, hp2, rfl, by omega, fun w H3 e3 hp3 w0 w1 => ?_⟩
    walk_at "sx"
    refine ⟨p, q, rfl, hp3, rfl, hq, fun s H4 e4 hp4 s0 s1 => ?_⟩
    walk_at "sx"
    refine w_newN (by simp) fun p5 H5 _ e5 h5 => ?_
    walk_at "sx"
    obtain ⟨z, hz, hz1⟩ : ∃ z : Nat, (if (1 : Int) < w then (1 : Int) else w) = z ∧ z ≤ 1 := ⟨(if (1 : Int) < w then (1 : Int) else w).toNat, by split <;> omega, by split <;> omega⟩
    rw [hz]
    have er : (List.replicate ((z : Int)).toNat [V.int s]).flatten = (List.replicate z s).map V.int := by
      rw [List.flatten_replicate_singleton, List.map_replicate, Int.toNat_natCast]
    refine l_repNT h5 (by simp) (by simp) (by omega) (by rw [er]; simp; omega) fun p6 H6 e6 h6 => ?_
    rw [er] at h6
    have hb6 : Nt H6 b (ms.map V.int) := ((hp3.n e4 (hp2.n e3 (hpx.n e2 hb))).mono e5).mono e6
    walk_at "sx"
    refine l_slNT hb6 (by simp; omega) fun p7 H7 e7 h7 => ?_
    rw [cut_few] at h7
    walk_at "sx"
    refine l_addNT h7 (h6.mono e7) (by simp; omega) fun p8 H8 e8 h8 => ?_
    rw [← List.map_append] at h8
    walk_at "sx"
    obtain ⟨y, hy⟩ : ∃ y : Nat, ((j : Int) + if decide (w < 2) = true then (1 : Int) else 0) = y := ⟨((j : Int) + if decide (w < 2) = true then (1 : Int) else 0).toNat, by split <;> omega⟩
    rw [hy]
    refine l_slNT ((hb6.mono e7).mono e8) (by simp; omega) fun p9 H9 e9 h9 => ?_
    rw [cut_fromA, ← List.map_drop] at h9
    refine l_addNT (h8.mono e9) h9 (by simp; omega) fun p10 H10 e10 h10 => ?_
    rw [← List.map_append] at h10
    walk_at "sx"
    have e510 := e5.trans (e6.trans (e7.trans (e8.trans (e9.trans e10))))
    have hjy : j ≤ y := by
      have : (0 : Int) ≤ if decide (w < 2) = true then (1 : Int) else 0 := by split <;> omega
      omega
    refine ⟨p10, _, _, _, _, _, rfl, (((ex.trans e2).trans e3).trans e4).ex e510, hp4.mono e510, h10, ?_, ?_⟩
    · rw [List.length_append, List.length_append, List.length_take, List.length_drop, List.length_replicate]
      omega
    · refine ((hmg.take _).append fun m hm => ?_).append (hmg.drop _)
      rw [(List.mem_replicate.mp hm).2]
      exact ⟨s0, s1⟩
  · rintro σ Hx ⟨b, ms, v4, v5, v6, v7, rfl, ex, hpx, hb, hml, hmg⟩
    walk_at "sx"
    refine l_slNT hb (by simp; omega) fun p4 H4 e4 h4 => ?_
    rw [show (60 : Int) = ((60 : Nat) : Int) from rfl, cut_few] at h4
    exact k p4 _ _ (ex.ex e4) (hpx.mono e4) h4 (by rw [List.length_take]; omega) (hmg.take _)
end
section
variable {P : Program} {w : World} {K : PySem.W.Frag} {mg : Str → Option Value} {base : Heap}
theorem ok_L_two (T : Txt K mg) (o_L_digit : FnOk P w K mg base CX0 1 T.a_L_digit T.fd_L_digit ["_law_pot_here", "_law_base"] (sp_L_digit K)) (o_L_bent : FnOk P w K mg base CX0 2 T.a_L_bent T.fd_L_bent ["_law_pot_here", "_law_q", "_law_word_here"] (sp_L_bent K)) (o_L_word : FnOk P w K mg base CX0 3 T.a_L_word T.fd_L_word ["_law_pot_here", "_law_q", "_law_most"] (sp_L_word K)) (o_L_pot : FnOk P w K mg base CX0 2 T.a_L_pot T.fd_L_pot ["_law_script", "_law_k"] (sp_L_pot K)) (o_L_runny : FnOk P w K mg base CX0 2 T.a_L_runny T.fd_L_runny ["_law_pot_here", "_law_q", "_law_most"] (sp_L_runny K)) : FnOk P w K mg base CX0 4 T.a_L_two T.fd_L_two ["_law_script", "_law_most"] (sp_L_two K) := by
  refine T.F_L_two.ok sc_L_two (fun vs H Q E h => match vs, h with | [_, _], _ => rfl) (fun cdv A outer s H vs Q E hr h => ?_)
  refine ⟨_, ((pss_cons (ps_set (i := 2) sc_L_two.nd rfl (by first | exact Or.inl rfl | exact Or.inr rfl) (pe_call o_L_pot (hr.mono (by decide)) rfl T.g_L_pot T.F_L_pot.kp T.b_L_pot .nil pass0 (pa_cons (pv 0) (pa_cons pe_int pa_nil))))
    (pss_cons (ps_set (i := 3) sc_L_two.nd rfl (by first | exact Or.inl rfl | exact Or.inr rfl) (pe_op (op_catN (K := K) rfl) pe_int (pe_call o_L_digit (hr.mono (by decide)) rfl T.g_L_digit T.F_L_digit.kp T.b_L_digit .nil pass0 (pa_cons (pv 2) (pa_cons pe_int pa_nil)))))
    (Evl.pss_cut (ps_if (pt_cmpR (op_eqK (K := K) hr.units rfl) (pe_call o_L_digit (hr.mono (by decide)) rfl T.g_L_digit T.F_L_digit.kp T.b_L_digit .nil pass0 (pa_cons (pv 2) (pa_cons pe_int pa_nil))) pe_int (nomark _)) (pss_one (ps_set (i := 3) sc_L_two.nd rfl (by first | exact Or.inl rfl | exact Or.inr rfl) (pe_op (op_catN (K := K) rfl) pe_int (pe_call o_L_digit (hr.mono (by decide)) rfl T.g_L_digit T.F_L_digit.kp T.b_L_digit .nil pass0 (pa_cons (pv 2) (pa_cons pe_int pa_nil)))))) pss_nil)
    (pss_cons (ps_set (i := 4) sc_L_two.nd rfl (by first | exact Or.inl rfl | exact Or.inr rfl) (pe_ix (ix_K (K := K) rfl) (pe_lst (pa_cons (pe_call o_L_word hr rfl T.g_L_word T.F_L_word.kp T.b_L_word .nil pass0 (pa_cons (pv 2) (pa_cons (pv 3) (pa_cons (pv 1) pa_nil)))) (pa_cons (pe_call o_L_runny (hr.mono (by decide)) rfl T.g_L_runny T.F_L_runny.kp T.b_L_runny .nil pass0 (pa_cons (pv 2) (pa_cons (pv 3) (pa_cons (pv 1) pa_nil)))) pa_nil))) (pe_call o_L_digit (hr.mono (by decide)) rfl T.g_L_digit T.F_L_digit.kp T.b_L_digit .nil pass0 (pa_cons (pv 2) (pa_cons pe_int pa_nil))) (fun _ _ => rfl)))
    (pss_cons (ps_set (i := 2) sc_L_two.nd rfl (by first | exact Or.inl rfl | exact Or.inr rfl) (pe_call o_L_pot (hr.mono (by decide)) rfl T.g_L_pot T.F_L_pot.kp T.b_L_pot .nil pass0 (pa_cons (pv 0) (pa_cons pe_int pa_nil))))
    (pss_cons (ps_set (i := 5) sc_L_two.nd rfl (by first | exact Or.inl rfl | exact Or.inr rfl) (pe_call o_L_word hr rfl T.g_L_word T.F_L_word.kp T.b_L_word .nil pass0 (pa_cons (pv 2) (pa_cons (pv 3) (pa_cons (pv 1) pa_nil)))))
    (Evl.pss_cut (ps_if (pt_cmpR (op_eqK (K := K) hr.units rfl) (pe_call o_L_digit (hr.mono (by decide)) rfl T.g_L_digit T.F_L_digit.kp T.b_L_digit .nil pass0 (pa_cons (pv 2) (pa_cons pe_int pa_nil))) pe_int (nomark _)) (pss_one (ps_set (i := 5) sc_L_two.nd rfl (by first | exact Or.inl rfl | exact Or.inr rfl) (pe_slice (sl_N (K := K) rfl) (pe_call o_L_bent (hr.mono (by decide)) rfl T.g_L_bent T.F_L_bent.kp T.b_L_bent .nil pass0 (pa_cons (pv 2) (pa_cons (pv 3) (pa_cons (pv 4) pa_nil)))) po_none (po_some (pv 1))))) pss_nil)
    (pss_one (ps_ret (pe_tupN (pa_cons (pv 4) (pa_cons (pv 5) pa_nil))))))))))))), ?_⟩
  match vs, h with
  | [x0, x1], h =>
  replace h : s_L_two K x0 x1 H Q E := h
  try dsimp only [cxOf, Cx.nox, Cx.wish]
  show (_ : TS) { nx := fun _ H' => Q .non H', rt := Q } [some x0, some x1, none, none, none, none] H
  obtain ⟨sa, sn, m, rfl, hs, rfl, hm, k⟩ := h
  walk_at "sx"
  refine ⟨sa, sn, 1, rfl, hs, rfl, by omega, fun p H1 hn1 e1 hp1 => ?_⟩
  walk_at "sx"
  refine ⟨p, 35, rfl, hp1, rfl, by omega, fun g H2 e2 hp2 g0 g1 => ?_⟩
  walk_at "sx"
  refine q_cut (fun σ Hx => ∃ q : Int, σ = [some (.ref sa), some (.int m), some (.ref p), some (.int q), none, none] ∧ (2 ≤ q ∧ q ≤ 36) ∧ ExB p H1 Hx ∧ Pot Hx p) ?_ ?_
  · walk_at "sx"
    refine ⟨p, 2, rfl, hp2, rfl, by omega, fun g2 H3 e3 hp3 _ _ => ?_⟩
    walk_at "sx"
    refine ifd (fun c => ?_) (fun c => ?_)
    · walk_at "sx"
      refine ⟨p, 3, rfl, hp3, rfl, by omega, fun g3 H4 e4 hp4 _ _ => ?_⟩
      walk_at "sx"
      exact ⟨2 + g3, rfl, by omega, (e2.trans e3).trans e4, hp4⟩
    · walk_at "sx"
      exact ⟨2 + g, rfl, by omega, e2.trans e3, hp3⟩
  rintro σ H4 ⟨q, rfl, hq, e4, hp4⟩
  walk_at "sx"
  refine ⟨p, q, m, rfl, hp4, rfl, by omega, rfl, by omega, fun a1 us1 H5 e5 hp5 h5 l5 g5 => ?_⟩
  walk_at "sx"
  refine ⟨p, q, m, rfl, hp5, rfl, by omega, rfl, by omega, fun a2 us2 H6 e6 hp6 h6 l6 g6 => ?_⟩
  walk_at "sx"
  refine w_newL (by simp) fun l7 H7 hn7 e7 h7 => ?_
  walk_at "sx"
  refine ⟨p, 2, rfl, hp6.mono e7, rfl, by omega, fun d H8 e8 hp8 d0 d1 => ?_⟩
  have hp7 := hp6.mono e7
  have h78 := e8 _ _ (hp6.ne hn7) h7
  obtain ⟨a, us, hat, ha, lu, gu⟩ : ∃ (a : Addr) (us : List Int), atI [V.ref a1, V.ref a2] d = some (.ref a) ∧ Nt H8 a (us.map V.int) ∧ us.length ≤ m ∧ Sg q us := by
    rcases (show d = 0 ∨ d = 1 by omega) with e | e <;> rw [e]
    · exact ⟨a1, us1, rfl, hp7.n e8 ((hp5.n e6 h5).mono e7), by omega, g5⟩
    · exact ⟨a2, us2, rfl, hp7.n e8 (h6.mono e7), by omega, g6⟩
  refine l_ixL (SqL.of h78) hat ?_
  walk_at "sx"
  have e18 : ExB p H1 H8 := ((e4.trans e5).trans e6).trans ((ExB.of e7).trans e8)
  have eH8 : Ex H H8 := ExB.new e1 e18 hn1
  refine ⟨sa, sn, 2, rfl, Evl.ex_l eH8 hs, rfl, by omega, fun p2 H9 hn9 e9 hp9 => ?_⟩
  walk_at "sx"
  have sg36 : ∀ {xs : List Int}, Sg q xs → Sg 36 xs := fun h i hi => by have := h i hi; omega
  refine ⟨p2, q, m, rfl, hp9, rfl, by omega, rfl, by omega, fun b1 vs1 H10 e10 hp10 h10 l10 g10 => ?_⟩
  have ha10 : Nt H10 a (us.map V.int) := hp9.n e10 (ha.mono e9)
  have eH10 : Ex H H10 := eH8.trans (ExB.new e9 e10 hn9)
  walk_at "sx"
  refine q_cut (fun σ Hx => ∃ (b : Addr) (vs : List Int), σ = [some (.ref sa), some (.int m), some (.ref p2), some (.int q), some (.ref a), some (.ref b)] ∧ Ex H Hx ∧ Nt Hx a (us.map V.int) ∧ Nt Hx b (vs.map V.int) ∧ vs.length ≤ m ∧ Sg 36 vs) ?_ ?_
  · walk_at "sx"
    refine ⟨p2, 2, rfl, hp10, rfl, by omega, fun g2 H11 e11 hp11 _ _ => ?_⟩
    have e911 := e10.trans e11
    walk_at "sx"
    refine ifd (fun c => ?_) (fun c => ?_)
    · walk_at "sx"
      refine ⟨p2, a, q, us, rfl, hp11, rfl, by omega, rfl, hp10.n e11 ha10, by omega, gu, fun b vs H12 e12 hp12 h12 l12 g12 => ?_⟩
      walk_at "sx"
      refine l_slNT h12 (by simp; omega) fun b' H13 e13 h13 => ?_
      rw [cut_few] at h13
      walk_at "sx"
      refine ⟨b', _, rfl, (eH8.trans (ExB.new e9 (e911.trans e12) hn9)).trans e13, (hp11.n e12 (hp10.n e11 ha10)).mono e13, h13, by rw [List.length_take]; omega, sg36 (g12.take _)⟩
    · walk_at "sx"
      exact ⟨b1, vs1, rfl, eH8.trans (ExB.new e9 e911 hn9), hp10.n e11 ha10, hp10.n e11 h10, by omega, sg36 g10⟩
  rintro σ H12 ⟨b, vs, rfl, e12, ha12, hb12, lv, gv⟩
  walk_at "sx"
  refine w_newN (by simp) fun t H13 _ e13 h13 => ?_
  exact k t a b us vs H13 (e12.trans e13) h13.sq (ha12.mono e13) (hb12.mono e13) lu lv (sg36 gu) gv
end
section
variable {P : Program} {w : World} {K : PySem.W.Frag} {mg : Str → Option Value} {base : Heap}
theorem ok_L_weighted (T : Txt K mg) : FnOk P w K mg base CX0 1 T.a_L_weighted T.fd_L_weighted ["_law_word_here"] (sp_L_weighted K) := by
  refine T.F_L_weighted.ok sc_L_weighted (fun vs H Q E h => match vs, h with | [_], _ => rfl) (fun cdv A outer s H vs Q E hr h => ?_)
  refine ⟨_, ((pss_one (ps_ret (pe_callB (cr_sumK (K := K) rfl rfl) (by rfl) T.z_sum (by decide +kernel) (pa_cons (pe_lc (own := [("_law_k", 1), ("_law_sign", 2)]) (g := (gTup K 2 (gCons (gName 1) (gCons (gName 2) gNil)))) (tt := tYes) rfl sc_L_weighted.nd (pi_enumK (K := K) rfl (by rfl) T.z_enumerate (pa_cons (pv 0) pa_nil)) (blkOk_by (own := [("_law_k", 1), ("_law_sign", 2)]) (N := ["_law_word_here", "_law_k", "_law_sign"]) (sc := defScope S_L_weighted) (by decide +kernel)) (fun _ _ _ _ _ => (pg_tupK (K := K) rfl rfl (pgs_cons (pg_name (i := 1) sc_L_weighted.nd rfl (by first | exact Or.inl rfl | exact Or.inr rfl)) (pgs_cons (pg_name (i := 2) sc_L_weighted.nd rfl (by first | exact Or.inl rfl | exact Or.inr rfl)) pgs_nil)))) (fun _ _ _ _ _ => pts_nil) (fun _ _ _ _ _ => (pe_op (op_mulK (K := K) rfl) (pe_op (op_addK (K := K) rfl) (pv 1) pe_int) (pv 2)))) pa_nil))))), ?_⟩
  match vs, h with
  | [x0], h =>
  replace h : s_L_weighted K x0 H Q E := h
  try dsimp only [cxOf, Cx.nox, Cx.wish]
  show (_ : TS) { nx := fun _ H' => Q .non H', rt := Q } [some x0, none, none] H
  obtain ⟨a, ns, rfl, hs, hl, k⟩ := h
  walk_at "sx"
  refine l_lc walk_enumT (PvI H fun i => ((i : Int) + 1) * ns.getD i 0) (fun D H2 hD e h2 => ⟨e, rfl⟩) (fun D i acc H2 _ _ p => Evl.ex_t p.1 hs) ?_ ?_
  · rintro D i acc x H2 H3 hD hi h2 ⟨e2, rfl⟩ ⟨T', y, z, rfl, hT, rfl, hy, hz⟩
    cases hy
    rw [List.length_map] at hi
    have ez : z = .int (ns.getD i 0) := (at_int hz).2
    subst ez
    refine g_tup (SqT.of upd_same) rfl ?_
    walk_at "sx"
    refine ⟨rfl, ?_⟩
    walk_at "sx"
    have hDT : D ≠ T' := ne_of_none h2 hT
    refine lc_end (Pv := PvI H fun i => ((i : Int) + 1) * ns.getD i 0) (by rw [upd_ne hDT]; exact h2) (by simp; omega) fun H6 e6 h6 => ⟨?_, ?_⟩
    · exact ExB.new (e2.trans (Evl.Ex.new hT)) e6 hD
    · rw [List.range_succ, List.map_append, List.map_append]; rfl
  · rintro D acc H2 hD h2 ⟨e2, rfl⟩
    walk_at "sx"
    rw [List.length_map] at h2
    exact l_sumL (SqL.of h2) (k _ (e2))
end
section
variable {P : Program} {w : World} {K : PySem.W.Frag} {mg : Str → Option Value} {base : Heap}
theorem Nt.ne {H : Hp} {a p : Addr} {xs : List V} (h : Nt H a xs) (n : H p = none) : a ≠ p := by
  obtain ⟨o, h, _⟩ := h
  exact ne_of_none h n
theorem Nt.off {H H' : Hp} {a d : Addr} {xs : List V} (e : ExB d H H') (n : a ≠ d) (h : Nt H a xs) : Nt H' a xs := by
  obtain ⟨o, h, z⟩ := h
  exact ⟨o, e _ _ n h, z⟩
theorem NKs.off {P : Program} {w : World} {H H' : Hp} {d : Addr} {L M : KS} (e : ExB d H H') (hd : H d = some (DNo P w d M)) (h : NKs H L) : NKs H' L := fun p hp => by
  obtain ⟨o, h1, z⟩ := h p hp
  exact ⟨o, e _ _ (ne_of h1 hd fun z => nomatch z) h1, z⟩
def KeysN (L : KS) (ws : List (List Int)) : Prop := (∀ v, v ∈ L.map (·.2) ↔ v ∈ ws) ∧ (L.map (·.2)).Nodup
theorem KeysN.nil : KeysN [] [] := ⟨fun _ => Iff.rfl, List.nodup_nil⟩
theorem KeysN.put {L : KS} {ws : List (List Int)} (h : KeysN L ws) (b : Addr) (u : List Int) : KeysN (putN L b u) (ws ++ [u]) := by
  unfold putN
  by_cases c : u ∈ L.map (·.2)
  · rw [if_pos c]
    refine ⟨fun v => ?_, h.2⟩
    rw [List.mem_append, List.mem_singleton, h.1 v]
    exact ⟨.inl, fun z => z.elim id fun e => e ▸ (h.1 u).mp c⟩
  · rw [if_neg c]
    refine ⟨fun v => ?_, ?_⟩
    · rw [List.map_append, List.mem_append, List.mem_append, h.1 v]
      simp
    · rw [List.map_append, List.nodup_append]
      refine ⟨h.2, by simp, fun a ha b hb => ?_⟩
      simp at hb
      subst hb
      exact fun e => c (e ▸ ha)
theorem KeysN.len {L : KS} {ws : List (List Int)} (h : KeysN L ws) : L.length ≤ ws.length := by
  have := nodup_len_le h.2 fun x hx => (h.1 x).mp hx
  rwa [List.length_map] at this
theorem nks_put {H : Hp} {L : KS} {b : Addr} {u : List Int} (h : NKs H L) (hb : Nt H b (u.map V.int)) : NKs H (putN L b u) := by
  unfold putN
  split
  · exact h
  · intro p hp
    rcases List.mem_append.mp hp with hp | hp
    · exact h p hp
    · rw [List.mem_singleton] at hp
      subst hp
      exact hb
theorem nts_of {H : Hp} : ∀ {ks : KS}, NKs H ks → NtS H (refsV ks) (ks.map (·.2))
  | [], _ => .nil
  | p :: r, h => .cons ⟨p.1, rfl, h p (List.mem_cons_self ..)⟩ (nts_of fun q hq => h q (List.mem_cons_of_mem _ hq))
theorem l_sortN {P : Program} {w : World} {H : Hp} {Q : VK} {a : Addr} {L : KS} {ws : List (List Int)} {d : Nat} {B : Int} (h : H a = some (DNo P w a L)) (hL : NKs H L) (hk : KeysN L ws) (hz : ws.length ≤ 100000) (hb : Wb d B ws) (hd : 2 ≤ ws.length → 1 ≤ d)
    (k : ∀ ys us p H', Ring B us ws → H p = none → Ex H H' → H' p = some (.lst ys) → NtS H' ys us → Q (.ref p) H') : rSortN P w [.ref a] H Q := by
  have hb' : ∀ w ∈ L.map (·.2), w.length = d ∧ Sg B w := fun w hw => hb w ((hk.1 w).mp hw)
  have hl := hk.len
  refine ⟨a, L, d, B, rfl, h, hL, by omega, fun p hp => hb' _ (List.mem_map.mpr ⟨p, hp, rfl⟩), fun h2 => hd (by omega), fun ks' p pm hr hn => ?_⟩
  have pm2 : (ks'.map (·.2)).Perm (L.map (·.2)) := pm.map _
  refine k (refsV ks') (ks'.map (·.2)) p _ ⟨fun w => ?_, ?_⟩ hn (Evl.Ex.new hn) upd_same (nts_of fun q hq => (hL q (pm.mem_iff.mp hq)).mono (Evl.Ex.new hn))
  · rw [pm2.mem_iff, hk.1 w]
  · have h1 : (ks'.map (·.2)).Pairwise fun u v => TS.code B u ≤ TS.code B v := List.pairwise_map.mpr hr
    have h2 : (ks'.map (·.2)).Pairwise fun u v => u ≠ v := pm2.nodup_iff.mpr hk.2
    refine List.Pairwise.imp_of_mem (fun {u v} hu hv h => ?_) (h1.and h2)
    rcases Int.lt_or_eq_of_le h.1 with z | z
    · exact z
    · exact absurd (code_inj (hb' u (pm2.mem_iff.mp hu)) (hb' v (pm2.mem_iff.mp hv)) z) h.2
theorem ok_L_put (T : Txt K mg) : FnOk P w K mg base CX0 1 T.a_L_put T.fd_L_put ["_law_q", "_law_word_here"] (sp_L_put K) := by
  refine T.F_L_put.ok sc_L_put (fun vs H Q E h => match vs, h with | [_, _], _ => rfl) (fun cdv A outer s H vs Q E hr h => ?_)
  refine ⟨_, ((pss_cons (ps_set (i := 2) sc_L_put.nd rfl (by first | exact Or.inl rfl | exact Or.inr rfl) pe_dnewN)
    (pss_cons (ps_for PassesOwn.never rfl (pi_range1 rfl T.z_range (pa_cons (pe_op (op_catN (K := K) rfl) (pe_callB (call_lenK (K := K) rfl) (by rfl) T.z_len (by decide +kernel) (pa_cons (pv 1) pa_nil)) pe_int) pa_nil)) (pg_name (i := 3) sc_L_put.nd rfl (by first | exact Or.inl rfl | exact Or.inr rfl)) (pss_one (ps_for PassesOwn.never rfl (pi_range1 rfl T.z_range (pa_cons (pv 0) pa_nil)) (pg_name (i := 4) sc_L_put.nd rfl (by first | exact Or.inl rfl | exact Or.inr rfl)) (pss_one (ps_asg pe_bl (pg_sub (pv 2) (pe_op (op_catN (K := K) rfl) (pe_op (op_catN (K := K) rfl) (pe_slice (sl_N (K := K) rfl) (pv 1) po_none (po_some (pv 3))) (pe_tupN (pa_cons (pv 4) pa_nil))) (pe_slice (sl_N (K := K) rfl) (pv 1) (po_some (pv 3)) po_none)) (set_N (room65 hr))))))))
    (pss_one (ps_ret (pe_callB (cr_sortN rfl) (by rfl) T.z_sorted (by decide +kernel) (pa_cons (pv 2) pa_nil))))))), ?_⟩
  match vs, h with
  | [x0, x1], h =>
  replace h : s_L_put K x0 x1 H Q E := h
  try dsimp only [cxOf, Cx.nox, Cx.wish]
  show (_ : TS) { nx := fun _ H' => Q .non H', rt := Q } [some x0, some x1, none, none, none] H
  obtain ⟨q, a, ns, rfl, hq, rfl, hs, hg, hl, kk⟩ := h
  walk_at "sx"
  refine w_dnewN fun d H1 hd1 e1 h1 => ?_
  have hs1 := hs.mono e1
  have nad := Nt.ne hs hd1
  walk_at "sx"
  rw [List.length_map]
  refine l_forR (fun i σ H2 => ∃ L v3 v4, σ = [some (.int q), some (.ref a), some (.ref d), v3, v4] ∧ ExB d H1 H2 ∧ H2 d = some (DNo P w d L) ∧ NKs H2 L ∧ KeysN L ((List.range i).flatMap fun k => (List.range q).map fun (s : Nat) => putAt ns k ((s : Nat) : Int))) ⟨[], _, _, rfl, ExB.refl, h1, (by intro p hp; cases hp), KeysN.nil⟩ ?_ ?_
  · rintro i σ H2 hi ⟨L, v3, v4, rfl, e2, h2, hK, hk⟩
    have hi' : i ≤ ns.length := by omega
    walk_at "sx"
    have hle : i * q ≤ 101 * 100 := Nat.mul_le_mul (by omega) hq
    refine l_forR (fun j σ H3 => ∃ L v4, σ = [some (.int q), some (.ref a), some (.ref d), some (.int (0 + (i : Int))), v4] ∧ ExB d H1 H3 ∧ H3 d = some (DNo P w d L) ∧ NKs H3 L ∧ KeysN L (((List.range i).flatMap fun k => (List.range q).map fun (s : Nat) => putAt ns k ((s : Nat) : Int)) ++ (List.range j).map fun (s : Nat) => putAt ns i ((s : Nat) : Int))) ⟨L, _, rfl, e2, h2, hK, by simpa using hk⟩ ?_ ?_
    · rintro j σ H3 hj ⟨L, v4, rfl, e3, h3, hK, hk⟩
      have hs3 := Nt.off e3 nad hs1
      walk_at "sx"
      refine l_slNT hs3 (by simp; omega) fun p5 H5 e5 h5 => ?_
      walk_at "sx"
      refine w_newN (by simp) fun p6 H6 _ e6 h6 => ?_
      rw [show (0 : Int) + (i : Int) = ((i : Nat) : Int) by omega, cut_to (by simp; omega), ← List.map_take] at h5
      refine l_addNT (h5.mono e6) h6 (by simp; omega) fun p7 H7 e7 h7 => ?_
      walk_at "sx"
      refine l_slNT (hs3.mono (e5.trans (e6.trans e7))) (by simp; omega) fun p8 H8 e8 h8 => ?_
      rw [show (0 : Int) + (i : Int) = ((i : Nat) : Int) by omega, cut_from (by simp; omega), ← List.map_drop] at h8
      refine l_addNT (h7.mono e8) h8 (by simp; omega) fun p9 H9 e9 h9 => ?_
      have e39 := e5.trans (e6.trans (e7.trans (e8.trans e9)))
      have ee : List.map V.int (List.take i ns) ++ [V.int (0 + (j : Int))] ++ List.map V.int (List.drop i ns) = (putAt ns i ((j : Nat) : Int)).map V.int := by
        unfold putAt
        rw [List.map_append, List.map_append, show (0 : Int) + (j : Int) = ((j : Nat) : Int) by omega]
        rfl
      rw [ee] at h9
      have hm := hk.len
      rw [List.length_append, fm_len (m := q) (fun k _ => by simp), List.length_map, List.length_range, List.length_range] at hm
      have h39 := e39 _ _ h3
      refine l_setN h39 h9 (hK.mono e39) (by omega) fun H10 e10 h10 => ?_
      walk_at "sx"
      refine ⟨_, _, rfl, (e3.ex e39).trans e10, h10, NKs.off e10 h39 (nks_put (hK.mono e39) h9), ?_⟩
      rw [List.range_succ (n := j), List.map_append, ← List.append_assoc]
      exact hk.put _ _
    · rintro σ H3 ⟨L, v4, rfl, e3, h3, hK, hk⟩
      walk_at "sx"
      refine ⟨_, _, _, rfl, e3, h3, hK, ?_⟩
      rw [List.range_succ (n := i), List.flatMap_append]
      simpa using hk
  · rintro σ H2 ⟨L, v3, v4, rfl, e2, h2, hK, hk⟩
    walk_at "sx"
    have eH : Ex H H2 := ExB.new e1 e2 hd1
    rw [show ((ns.length : Int) + 1).toNat = ns.length + 1 by omega] at hk
    have hz : (puts q ns).length ≤ 100000 := by
      rw [puts_len]
      have := Nat.mul_le_mul (show ns.length + 1 ≤ 101 by omega) hq
      omega
    refine l_sortN h2 hK hk (d := ns.length + 1) (B := q) hz (puts_wb hg) (fun _ => by omega) fun ys us p H3 hr hn e3 h3 hW => ?_
    exact kk p ys us _ (Evl.fresh_back eH hn) (eH.trans e3) h3 hW hr
end
section
variable {P : Program} {w : World} {K : PySem.W.Frag} {mg : Str → Option Value} {base : Heap}
theorem runL_snoc (w : List Int) (S : List (Nat × Int)) (p : Nat × Int) : runL w (S ++ [p]) = lostAt (runL w S) p.1 := by unfold runL; rw [List.foldl_append]; rfl
theorem StepsOk.snoc {w : List Int} {S : List (Nat × Int)} {k : Nat} {s : Int} (h : StepsOk w S) (hk : k < (runL w S).length) (hs : (runL w S).getD k 0 = s) : StepsOk w (S ++ [(k, s)]) := fun i p hp => by
  by_cases c : i < S.length
  · rw [List.getElem?_append_left c] at hp
    rw [List.take_append_of_le_length (by omega)]
    exact h i p hp
  · rw [List.getElem?_append_right (by omega)] at hp
    have e : i - S.length = 0 := by
      cases q : i - S.length with
      | zero => rfl
      | succ m => rw [q] at hp; simp at hp
    rw [e] at hp
    cases hp
    rw [show i = S.length by omega, List.take_left']
    exact ⟨hk, hs⟩
    rfl
theorem ok_L_losses (T : Txt K mg) (o_L_fits : FnOk P w K mg base CX0 1 T.a_L_fits T.fd_L_fits ["_law_row", "_law_word_here"] (sp_L_fits K)) : FnOk P w K mg base CX0 2 T.a_L_losses T.fd_L_losses ["_law_word_here", "_law_row"] (sp_L_losses K) := by
  refine T.F_L_losses.ok sc_L_losses (fun vs H Q E h => match vs, h with | [_, _], _ => rfl) (fun cdv A outer s H vs Q E hr h => ?_)
  refine ⟨_, ((pss_cons (ps_set (i := 2) sc_L_losses.nd rfl (by first | exact Or.inl rfl | exact Or.inr rfl) (pe_lst pa_nil))
    (pss_cons (ps_set (i := 3) sc_L_losses.nd rfl (by first | exact Or.inl rfl | exact Or.inr rfl) (pv 0))
    (pss_cons (ps_set (i := 4) sc_L_losses.nd rfl (by first | exact Or.inl rfl | exact Or.inr rfl) pe_int)
    (pss_cons (ps_while PassesOwn.never (pt_cmpR op_gtP (pe_callB (call_lenK (K := K) rfl) (by rfl) T.z_len (by decide +kernel) (pa_cons (pv 3) pa_nil)) (pe_callB (call_lenK (K := K) rfl) (by rfl) T.z_len (by decide +kernel) (pa_cons (pv 1) pa_nil)) (nomark _)) (pss_one (ps_if (PW.pt (pw_and (pt_cmpR op_ltP (pv 4) (pe_callB (call_lenK (K := K) rfl) (by rfl) T.z_len (by decide +kernel) (pa_cons (pv 1) pa_nil)) (nomark _)) (pw_and (pt_cmpR (op_eqK (K := K) hr.units rfl) (pe_ix (ix_K (K := K) rfl) (pv 3) (pv 4) (fun _ _ => rfl)) (pe_ix (ix_K (K := K) rfl) (pv 1) (pv 4) (fun _ _ => rfl)) (nomark _)) (pw_and1 (pt_val (pe_call o_L_fits hr rfl T.g_L_fits T.F_L_fits.kp T.b_L_fits .nil pass0 (pa_cons (pe_slice (sl_K (K := K) rfl) (pv 1) (po_some (pe_op (op_addK (K := K) rfl) (pv 4) pe_int)) po_none) (pa_cons (pe_slice (sl_K (K := K) rfl) (pv 3) (po_some (pe_op (op_addK (K := K) rfl) (pv 4) pe_int)) po_none) pa_nil)))))))) (pss_one (ps_set (i := 4) sc_L_losses.nd rfl (by first | exact Or.inl rfl | exact Or.inr rfl) (pe_op (op_addK (K := K) rfl) (pv 4) pe_int))) (pss_cons (ps_expr (pe_bmK (K := K) rfl (pe_bm PySem.F.plainAttrs_list PySem.F.slot_list_append PySem.F.type_list_append mt_append (pv 2) (pa_cons (pe_tup (pa_cons (pv 4) (pa_cons (pe_ix (ix_K (K := K) rfl) (pv 3) (pv 4) (fun _ _ => rfl)) pa_nil))) pa_nil))))
    (pss_one (ps_set (i := 3) sc_L_losses.nd rfl (by first | exact Or.inl rfl | exact Or.inr rfl) (pe_op (op_addK (K := K) rfl) (pe_slice (sl_K (K := K) rfl) (pv 3) po_none (po_some (pv 4))) (pe_slice (sl_K (K := K) rfl) (pv 3) (po_some (pe_op (op_addK (K := K) rfl) (pv 4) pe_int)) po_none))))))))
    (pss_one (ps_ret (pv 2)))))))), ?_⟩
  match vs, h with
  | [x0, x1], h =>
  replace h : s_L_losses K x0 x1 H Q E := h
  try dsimp only [cxOf, Cx.nox, Cx.wish]
  show (_ : TS) { nx := fun _ H' => Q .non H', rt := Q } [some x0, some x1, none, none, none] H
  obtain ⟨a, b, w, r, rfl, ha, rfl, hb, hw, hsub, kk⟩ := h
  have hrl := hsub.length_le
  walk_at "sx"
  refine w_newL (by simp) fun l H1 hn1 e1 h1 => ?_
  have hb1 := Evl.ex_t e1 hb
  walk_at "sx"
  refine q_while (fun m σ Hx => ∃ (c : Addr) (f : List Int) (k : Nat) (xs : List V) (S : List (Nat × Int)), σ = [some (.ref a), some (.ref b), some (.ref l), some (.ref c), some (.int (k : Nat))] ∧ ExB l H1 Hx ∧ Hx l = some (.lst xs) ∧ StepsV K Hx xs S ∧ SqT K Hx c (f.map V.int) ∧ StepsOk w S ∧ runL w S = f ∧ S.length + f.length = w.length ∧ k ≤ r.length ∧ f.take k = r.take k ∧ (r.drop k).Sublist (f.drop k) ∧ m = f.length - k) w.length ⟨a, w, 0, [], [], rfl, ExB.refl, h1, .nil, Evl.ex_t e1 ha, fun i p hp => by simp at hp, rfl, by simp, by omega, rfl, hsub, by omega⟩ ?_
  rintro m σ Hx ⟨c, f, k, xs, S, rfl, ex, hx, hS, hc, hok, hrun, hlen, hk, htk, hsb, rfl⟩
  have hbx : SqT K Hx b (r.map V.int) := exB_t ex h1 hb1
  have hsl := hsb.length_le
  rw [List.length_drop, List.length_drop] at hsl
  have hkf : k ≤ f.length := by
    have := congrArg List.length htk
    rw [List.length_take, List.length_take] at this
    omega
  walk_at "sx"
  rw [List.length_map, List.length_map]
  refine ifd (fun c0 => ?_) (fun c0 => ?_)
  · have hkl : k < f.length := by omega
    have hat : atI (f.map V.int) (k : Int) = some (.int (f.getD k 0)) := atI_nat (by rw [List.getElem?_map]; simp [List.getD, hkl])
    have ef : f.drop k = f.getD k 0 :: f.drop (k + 1) := by
      rw [List.drop_eq_getElem_cons hkl]
      simp [List.getD, hkl]
    have hxl : xs.length = S.length := Paired.length hS
    refine l_wh ?_
    walk_at "sx"
    rw [List.length_map]
    refine ifd (fun c1 => ?_) (fun c1 => ?_)
    · have hkr : k < r.length := by omega
      have er : r.drop k = r.getD k 0 :: r.drop (k + 1) := by
        rw [List.drop_eq_getElem_cons hkr]
        simp [List.getD, hkr]
      have hsb2 := hsb
      rw [er, ef, List.sublist_cons_iff] at hsb2
      walk_at "sx"
      refine l_ixT hc hat ?_
      walk_at "sx"
      refine l_ixT hbx (v := .int (r.getD k 0)) (atI_nat (by rw [List.getElem?_map]; simp [List.getD, hkr])) ?_
      walk_at "sx"
      refine ifd (fun c2 => ?_) (fun c2 => ?_)
      · walk_at "sx"
        refine l_slT hbx fun p2 H2 e2 h2 => ?_
        rw [show (k : Int) + 1 = ((k + 1 : Nat) : Int) from rfl, cut_fromA, ← List.map_drop] at h2
        walk_at "sx"
        refine l_slT (Evl.ex_t e2 hc) fun p3 H3 e3 h3 => ?_
        rw [show (k : Int) + 1 = ((k + 1 : Nat) : Int) from rfl, cut_fromA, ← List.map_drop] at h3
        walk_at "sx"
        refine ⟨p2, p3, _, _, rfl, Evl.ex_t e3 h2, rfl, h3, by rw [List.length_drop]; omega, by rw [List.length_drop]; omega, ?_⟩
        have e23 := e2.trans e3
        have hx := e23 _ _ hx
        have hS := StepsV.mono e23 hS
        have hc := Evl.ex_t e23 hc
        have ex := ex.ex e23
        cases hf : isSub (r.drop (k + 1)) (f.drop (k + 1)) with
        | true =>
          walk_at "sx"
          refine ⟨_, ?_, c, f, k + 1, xs, S, rfl, ex, hx, hS, hc, hok, hrun, hlen, by omega, ?_, (isSub_iff _ _).mp hf, rfl⟩
          · omega
          · rw [List.take_succ, List.take_succ, htk, List.getElem?_eq_getElem hkl, List.getElem?_eq_getElem hkr]
            have : f[k] = r[k] := by simpa [List.getD, hkl, hkr] using c2
            rw [this]
        | false =>
          have hno : (r.drop k).Sublist (f.drop (k + 1)) := by
            rw [er]
            refine hsb2.elim id fun ⟨r', e, hr'⟩ => ?_
            rw [← (List.cons.inj e).2, ← isSub_iff, hf] at hr'
            cases hr'
          walk_at "sx"
          refine l_ixT hc hat ?_
          walk_at "sx"
          refine w_newT (by simp) fun t4 H4 _ e4 h4 => ?_
          walk_at "sx"
          have hx4 := e4 _ _ hx
          refine l_app hx4 (by omega) fun H5 e5 h5 => ?_
          have hc5 := exB_t e5 hx4 (Evl.ex_t e4 hc)
          walk_at "sx"
          refine l_slT hc5 fun p6 H6 e6 h6 => ?_
          rw [cut_few] at h6
          walk_at "sx"
          refine l_slT (Evl.ex_t e6 hc5) fun p7 H7 e7 h7 => ?_
          rw [show (k : Int) + 1 = ((k + 1 : Nat) : Int) from rfl, cut_fromA, ← List.map_drop] at h7
          refine l_addT (Evl.ex_t e7 h6) h7 (by simp; omega) fun p8 H8 e8 h8 => ?_
          rw [← List.map_append] at h8
          have e58 := e6.trans (e7.trans e8)
          walk_at "sx"
          have hll := lostAt_len hkl
          have htl : (lostAt f k).take k = f.take k := by
            unfold lostAt
            rw [List.take_left' (by rw [List.length_take]; omega)]
          have hdl : (lostAt f k).drop k = f.drop (k + 1) := by
            unfold lostAt
            rw [List.drop_left' (by rw [List.length_take]; omega)]
          refine ⟨_, ?_, p8, lostAt f k, k, _, S ++ [(k, f.getD k 0)], rfl, ((ex.ex e4).trans e5).ex e58, e58 _ _ h5, StepsV.mono e58 (pd_app (StepsV.exB e5 hx4 (StepsV.mono e4 hS)) (.cons ⟨t4, rfl, exB_t e5 hx4 (SqT.of h4)⟩ .nil)), h8, hok.snoc (by rw [hrun]; exact hkl) (by rw [hrun]), by rw [runL_snoc, hrun], by rw [List.length_append, List.length_singleton]; omega, hk, by rw [htl, htk], by rw [hdl]; exact hno, rfl⟩
          omega
      · have hno : (r.drop k).Sublist (f.drop (k + 1)) := by
          rw [er]
          exact hsb2.elim id fun ⟨r', e, _⟩ => absurd (List.cons.inj e).1.symm c2
        walk_at "sx"
        refine l_ixT hc hat ?_
        walk_at "sx"
        refine w_newT (by simp) fun t4 H4 _ e4 h4 => ?_
        walk_at "sx"
        have hx4 := e4 _ _ hx
        refine l_app hx4 (by omega) fun H5 e5 h5 => ?_
        have hc5 := exB_t e5 hx4 (Evl.ex_t e4 hc)
        walk_at "sx"
        refine l_slT hc5 fun p6 H6 e6 h6 => ?_
        rw [cut_few] at h6
        walk_at "sx"
        refine l_slT (Evl.ex_t e6 hc5) fun p7 H7 e7 h7 => ?_
        rw [show (k : Int) + 1 = ((k + 1 : Nat) : Int) from rfl, cut_fromA, ← List.map_drop] at h7
        refine l_addT (Evl.ex_t e7 h6) h7 (by simp; omega) fun p8 H8 e8 h8 => ?_
        rw [← List.map_append] at h8
        have e58 := e6.trans (e7.trans e8)
        walk_at "sx"
        have hll := lostAt_len hkl
        have htl : (lostAt f k).take k = f.take k := by
          unfold lostAt
          rw [List.take_left' (by rw [List.length_take]; omega)]
        have hdl : (lostAt f k).drop k = f.drop (k + 1) := by
          unfold lostAt
          rw [List.drop_left' (by rw [List.length_take]; omega)]
        refine ⟨_, ?_, p8, lostAt f k, k, _, S ++ [(k, f.getD k 0)], rfl, ((ex.ex e4).trans e5).ex e58, e58 _ _ h5, StepsV.mono e58 (pd_app (StepsV.exB e5 hx4 (StepsV.mono e4 hS)) (.cons ⟨t4, rfl, exB_t e5 hx4 (SqT.of h4)⟩ .nil)), h8, hok.snoc (by rw [hrun]; exact hkl) (by rw [hrun]), by rw [runL_snoc, hrun], by rw [List.length_append, List.length_singleton]; omega, hk, by rw [htl, htk], by rw [hdl]; exact hno, rfl⟩
        omega
    · have hno : (r.drop k).Sublist (f.drop (k + 1)) := by
        rw [List.drop_of_length_le (show r.length ≤ k by omega)]
        exact List.nil_sublist _
      walk_at "sx"
      refine l_ixT hc hat ?_
      walk_at "sx"
      refine w_newT (by simp) fun t4 H4 _ e4 h4 => ?_
      walk_at "sx"
      have hx4 := e4 _ _ hx
      refine l_app hx4 (by omega) fun H5 e5 h5 => ?_
      have hc5 := exB_t e5 hx4 (Evl.ex_t e4 hc)
      walk_at "sx"
      refine l_slT hc5 fun p6 H6 e6 h6 => ?_
      rw [cut_few] at h6
      walk_at "sx"
      refine l_slT (Evl.ex_t e6 hc5) fun p7 H7 e7 h7 => ?_
      rw [show (k : Int) + 1 = ((k + 1 : Nat) : Int) from rfl, cut_fromA, ← List.map_drop] at h7
      refine l_addT (Evl.ex_t e7 h6) h7 (by simp; omega) fun p8 H8 e8 h8 => ?_
      rw [← List.map_append] at h8
      have e58 := e6.trans (e7.trans e8)
      walk_at "sx"
      have hll := lostAt_len hkl
      have htl : (lostAt f k).take k = f.take k := by
        unfold lostAt
        rw [List.take_left' (by rw [List.length_take]; omega)]
      have hdl : (lostAt f k).drop k = f.drop (k + 1) := by
        unfold lostAt
        rw [List.drop_left' (by rw [List.length_take]; omega)]
      refine ⟨_, ?_, p8, lostAt f k, k, _, S ++ [(k, f.getD k 0)], rfl, ((ex.ex e4).trans e5).ex e58, e58 _ _ h5, StepsV.mono e58 (pd_app (StepsV.exB e5 hx4 (StepsV.mono e4 hS)) (.cons ⟨t4, rfl, exB_t e5 hx4 (SqT.of h4)⟩ .nil)), h8, hok.snoc (by rw [hrun]; exact hkl) (by rw [hrun]), by rw [runL_snoc, hrun], by rw [List.length_append, List.length_singleton]; omega, hk, by rw [htl, htk], by rw [hdl]; exact hno, rfl⟩
      omega
  · walk_at "sx"
    have e0 : f.length = r.length := by omega
    have : f = r := by
      have h2 := hsb.length_le
      have e3 : r.drop k = f.drop k := hsb.eq_of_length (by rw [List.length_drop, List.length_drop]; omega)
      rw [← List.take_append_drop k f, htk, ← e3, List.take_append_drop]
    subst this
    exact kk l xs S _ hn1 (ExB.new e1 ex hn1) hx hS hok hrun hlen
end
section
variable {P : Program} {w : World} {K : PySem.W.Frag} {mg : Str → Option Value} {base : Heap}
theorem ok_L_fits (T : Txt K mg) : FnOk P w K mg base CX0 1 T.a_L_fits T.fd_L_fits ["_law_row", "_law_word_here"] (sp_L_fits K) := by
  refine T.F_L_fits.ok sc_L_fits (fun vs H Q E h => match vs, h with | [_, _], _ => rfl) (fun cdv A outer s H vs Q E hr h => ?_)
  refine ⟨_, ((pss_cons (ps_set (i := 2) sc_L_fits.nd rfl (by first | exact Or.inl rfl | exact Or.inr rfl) pe_int)
    (pss_cons (ps_for PassesOwn.never rfl (pi_seqK (K := K) rfl (pv 1)) (pg_name (i := 3) sc_L_fits.nd rfl (by first | exact Or.inl rfl | exact Or.inr rfl)) (pss_one (ps_if (PW.pt (pw_and (pt_cmpR op_ltP (pv 2) (pe_callB (call_lenK (K := K) rfl) (by rfl) T.z_len (by decide +kernel) (pa_cons (pv 0) pa_nil)) (nomark _)) (pw_and1 (pt_cmpR (op_eqK (K := K) hr.units rfl) (pe_ix (ix_K (K := K) rfl) (pv 0) (pv 2) (fun _ _ => rfl)) (pv 3) (nomark _))))) (pss_one (ps_set (i := 2) sc_L_fits.nd rfl (by first | exact Or.inl rfl | exact Or.inr rfl) (pe_op (op_addK (K := K) rfl) (pv 2) pe_int))) pss_nil)))
    (pss_one (ps_ret (pe_cmpR (op_eqK (K := K) hr.units rfl) (pv 2) (pe_callB (call_lenK (K := K) rfl) (by rfl) T.z_len (by decide +kernel) (pa_cons (pv 0) pa_nil)) (nomark _))))))), ?_⟩
  match vs, h with
  | [x0, x1], h =>
  replace h : s_L_fits K x0 x1 H Q E := h
  try dsimp only [cxOf, Cx.nox, Cx.wish]
  show (_ : TS) { nx := fun _ H' => Q .non H', rt := Q } [some x0, some x1, none, none] H
  obtain ⟨a, b, r, w, rfl, ha, rfl, hb, hr, hw, kk⟩ := h
  walk_at "sx"
  refine l_forT (fun i σ Hx => Hx = H ∧ ∃ (k : Nat) (v3 : Option V), σ = [some (.ref a), some (.ref b), some (.int (k : Nat)), v3] ∧ k ≤ r.length ∧ isSub r w = isSub (r.drop k) (w.drop i)) ⟨rfl, 0, _, rfl, by omega, rfl⟩ (fun i σ Hx _ ⟨e, _⟩ => e ▸ hb) ?_ ?_
  · rintro i x σ Hx hi hx ⟨rfl, k, v3, rfl, hk, he⟩
    obtain ⟨hi', rfl⟩ := at_int hx
    have ed : w.drop i = w.getD i 0 :: w.drop (i + 1) := by
      rw [List.drop_eq_getElem_cons hi']
      simp [List.getD, hi']
    walk_at "sx"
    rw [List.length_map]
    refine ifd (fun c => ?_) (fun c => ?_)
    · have hk' : k < r.length := by omega
      have er : r.drop k = r.getD k 0 :: r.drop (k + 1) := by
        rw [List.drop_eq_getElem_cons hk']
        simp [List.getD, hk']
      rw [er, ed, isSub] at he
      walk_at "sx"
      refine l_ixT ha (v := .int (r.getD k 0)) (atI_nat (by rw [List.getElem?_map]; simp [List.getD, hk'])) ?_
      walk_at "sx"
      refine ifd (fun c2 => ?_) (fun c2 => ?_)
      · walk_at "sx"
        rw [if_pos c2] at he
        exact ⟨rfl, k + 1, _, rfl, hk', he⟩
      · walk_at "sx"
        rw [if_neg c2, ← er] at he
        exact ⟨rfl, k, _, rfl, hk, he⟩
    · walk_at "sx"
      have e0 : r.drop k = [] := List.drop_of_length_le (by omega)
      rw [e0, isSub] at he
      exact ⟨rfl, k, _, rfl, hk, by rw [e0, isSub]; exact he⟩
  rintro σ Hx ⟨rfl, k, v3, rfl, hk, he⟩
  rw [List.length_map, List.drop_length] at he
  walk_at "sx"
  rw [List.length_map]
  have e2 : isSub r w = decide ((k : Int) = (r.length : Int)) := by
    rw [he]
    by_cases c : k = r.length
    · rw [c, List.drop_length, isSub, decide_eq_true rfl]
    · have hk' : k < r.length := by omega
      rw [List.drop_eq_getElem_cons hk', isSub, decide_eq_false (by omega)]
  rw [e2] at kk
  exact kk
end
section
variable {P : Program} {w : World} {K : PySem.W.Frag} {mg : Str → Option Value} {base : Heap}
theorem runL_snc (w : List Int) (S : List (Nat × Int)) (p : Nat × Int) : runL w (S ++ [p]) = lostAt (runL w S) p.1 := by unfold runL; rw [List.foldl_append]; rfl
theorem runL_sg {q : Int} : ∀ (S : List (Nat × Int)) (w : List Int), Sg q w → Sg q (runL w S)
  | [], _, h => h
  | p :: S, w, h => runL_sg S _ (lostAt_sg h)
theorem lostAt_le (w : List Int) (k : Nat) : (lostAt w k).length ≤ w.length := by
  unfold lostAt
  rw [List.length_append, List.length_take, List.length_drop]
  omega
theorem runL_le : ∀ (S : List (Nat × Int)) (w : List Int), (runL w S).length ≤ w.length
  | [], _ => Nat.le_refl _
  | p :: S, w => Nat.le_trans (runL_le S (lostAt w p.1)) (lostAt_le w p.1)
theorem ok_L_led (T : Txt K mg) (o_put_in : FnOk P w K mg base CX0 4 T.a_put_in T.fd_put_in ["q", "word", "k", "sign"] (sp_put_in K)) (o_L_losses : FnOk P w K mg base CX0 2 T.a_L_losses T.fd_L_losses ["_law_word_here", "_law_row"] (sp_L_losses K)) (o_lost : FnOk P w K mg base CX0 4 T.a_lost T.fd_lost ["q", "word", "k"] (sp_lost K)) (o_common_row : FnOk P w K mg base CX0 4 T.a_common_row T.fd_common_row ["one", "other"] (sp_common_row K)) : FnOk P w K mg base CX0 5 T.a_L_led T.fd_L_led ["_law_one", "_law_other"] (sp_L_led K) := by
  refine T.F_L_led.ok sc_L_led (fun vs H Q E h => match vs, h with | [_, _], _ => rfl) (fun cdv A outer s H vs Q E hr h => ?_)
  refine ⟨_, ((pss_cons (ps_set (i := 2) sc_L_led.nd rfl (by first | exact Or.inl rfl | exact Or.inr rfl) (pe_call o_common_row hr rfl T.g_common_row T.F_common_row.kp T.b_common_row .nil pass0 (pa_cons (pv 0) (pa_cons (pv 1) pa_nil))))
    (pss_cons (ps_set (i := 3) sc_L_led.nd rfl (by first | exact Or.inl rfl | exact Or.inr rfl) (pv 0))
    (pss_cons (ps_set (i := 4) sc_L_led.nd rfl (by first | exact Or.inl rfl | exact Or.inr rfl) pe_int)
    (pss_cons (ps_for PassesOwn.never rfl (pi_seqK (K := K) rfl (pe_call o_L_losses (hr.mono (by decide)) rfl T.g_L_losses T.F_L_losses.kp T.b_L_losses .nil pass0 (pa_cons (pv 0) (pa_cons (pv 2) pa_nil)))) (pg_tupK (K := K) rfl rfl (pgs_cons (pg_name (i := 5) sc_L_led.nd rfl (by first | exact Or.inl rfl | exact Or.inr rfl)) (pgs_cons (pg_name (i := 6) sc_L_led.nd rfl (by first | exact Or.inl rfl | exact Or.inr rfl)) pgs_nil))) (pss_cons (ps_set (i := 3) sc_L_led.nd rfl (by first | exact Or.inl rfl | exact Or.inr rfl) (pe_call o_lost hr rfl T.g_lost T.F_lost.kp T.b_lost .nil pass0 (pa_cons pe_int (pa_cons (pv 3) (pa_cons (pv 5) pa_nil)))))
    (pss_one (ps_set (i := 4) sc_L_led.nd rfl (by first | exact Or.inl rfl | exact Or.inr rfl) (pe_op (op_addK (K := K) rfl) (pv 4) pe_int)))))
    (pss_cons (ps_if (pt_cmpR (op_neK (K := K) hr.units rfl) (pv 3) (pv 2) (nomark _)) (pss_one (ps_ret pe_non)) pss_nil)
    (pss_cons (ps_set (i := 7) sc_L_led.nd rfl (by first | exact Or.inl rfl | exact Or.inr rfl) (pe_call o_L_losses (hr.mono (by decide)) rfl T.g_L_losses T.F_L_losses.kp T.b_L_losses .nil pass0 (pa_cons (pv 1) (pa_cons (pv 2) pa_nil))))
    (pss_cons (ps_expr (pe_bm0K (K := K) rfl (pe_bm0 PySem.F.plainAttrs_list PySem.F.slot_list_reverse PySem.F.type_list_reverse mt_reverse (pv 7))))
    (pss_cons (ps_for PassesOwn.never rfl (pi_seqK (K := K) rfl (pv 7)) (pg_tupK (K := K) rfl rfl (pgs_cons (pg_name (i := 5) sc_L_led.nd rfl (by first | exact Or.inl rfl | exact Or.inr rfl)) (pgs_cons (pg_name (i := 6) sc_L_led.nd rfl (by first | exact Or.inl rfl | exact Or.inr rfl)) pgs_nil))) (pss_cons (ps_set (i := 3) sc_L_led.nd rfl (by first | exact Or.inl rfl | exact Or.inr rfl) (pe_call o_put_in hr rfl T.g_put_in T.F_put_in.kp T.b_put_in .nil pass0 (pa_cons pe_int (pa_cons (pv 3) (pa_cons (pv 5) (pa_cons (pv 6) pa_nil))))))
    (pss_one (ps_set (i := 4) sc_L_led.nd rfl (by first | exact Or.inl rfl | exact Or.inr rfl) (pe_op (op_addK (K := K) rfl) (pv 4) pe_int)))))
    (pss_cons (ps_if (pt_cmpR (op_neK (K := K) hr.units rfl) (pv 3) (pv 1) (nomark _)) (pss_one (ps_ret pe_non)) pss_nil)
    (pss_one (ps_ret (pv 4))))))))))))), ?_⟩
  match vs, h with
  | [x0, x1], h =>
  replace h : s_L_led K x0 x1 H Q E := h
  try dsimp only [cxOf, Cx.nox, Cx.wish]
  show (_ : TS) { nx := fun _ H' => Q .non H', rt := Q } [some x0, some x1, none, none, none, none, none, none] H
  obtain ⟨a, b, us, vs, rfl, ha, rfl, hb, hu, hv, gu, gv, kk⟩ := h
  walk_at "sx"
  refine ⟨a, b, us, vs, rfl, ha, rfl, hb, hu, hv, gu, gv, fun t r H1 e1 h1 hB => ?_⟩
  have hlen := Bst.len hB
  have su : r.Sublist us := hB.1.1
  have sv : r.Sublist vs := hB.1.2
  have ha1 := ha.mono e1
  have hb1 := hb.mono e1
  walk_at "sx"
  refine ⟨a, t, us, r, rfl, ha1.sq, rfl, h1, hu, su, fun l xs S H2 _ e2 h2 hS hok hrun hsl => ?_⟩
  have hxl : xs.length = S.length := Paired.length hS
  have hr2 := Evl.ex_t e2 h1
  have ha2 := ha1.mono e2
  have hb2 := hb1.mono e2
  walk_at "sx"
  refine l_forL (fun i σ Hx => Ex H2 Hx ∧ ∃ (c : Addr) (v5 v6 : Option V), σ = [some (.ref a), some (.ref b), some (.ref t), some (.ref c), some (.int (i : Nat)), v5, v6, none] ∧ Nt Hx c ((runL us (S.take i)).map V.int)) ⟨Evl.Ex.refl _, a, _, _, rfl, ha2⟩ (fun i σ Hx _ ⟨e, _⟩ => SqL.of (e _ _ h2)) ?_ ?_
  · rintro i x σ Hx hi hx ⟨ex, c, v5, v6, rfl, hc⟩
    obtain ⟨p, hp, tp, rfl, htp⟩ := pd_at hS hx
    obtain ⟨o1, o2⟩ := hok i p hp
    refine g_tup (Evl.ex_t ex htp) rfl ?_
    walk_at "sx"
    have hle := runL_le (S.take i) us
    refine ⟨36, c, runL us (S.take i), p.1, rfl, by omega, rfl, hc, by omega, runL_sg _ _ gu, rfl, o1, fun d H3 e3 h3 => ?_⟩
    walk_at "sx"
    refine ⟨ex.trans e3, d, _, _, rfl, ?_⟩
    rw [take_at hp, runL_snc]
    exact h3
  rintro σ H3 ⟨e3, c, v5, v6, rfl, hc⟩
  rw [hxl, List.take_length, hrun] at hc
  have hr3 := Evl.ex_t e3 hr2
  walk_at "sx"
  refine l_neW ⟨c, rfl, hc.sq⟩ ⟨t, rfl, hr3⟩ ?_
  rw [decide_eq_true rfl]
  walk_at "sx"
  have hb3 := hb2.mono e3
  refine ⟨b, t, vs, r, rfl, hb3.sq, rfl, hr3, hv, sv, fun l2 xs2 S2 H4 hn4 e4 h4 hS2 hok2 hrun2 hsl2 => ?_⟩
  have hxl2 : xs2.length = S2.length := Paired.length hS2
  have hc4 := hc.mono e4
  have hb4 := hb3.mono e4
  walk_at "sx"
  refine l_rev h4 fun H5 e5 h5 => ?_
  walk_at "sx"
  have hS5 := StepsV.exB e5 h4 hS2
  have hc5 : SqT K H5 c (r.map V.int) := exB_t e5 h4 hc4.sq
  have hb5 : SqT K H5 b (vs.map V.int) := exB_t e5 h4 hb4.sq
  rw [hxl]
  refine l_forL (fun i σ Hx => Ex H5 Hx ∧ ∃ (c : Addr) (v5 v6 : Option V), σ = [some (.ref a), some (.ref b), some (.ref t), some (.ref c), some (.int ((S.length : Int) + (i : Int))), v5, v6, some (.ref l2)] ∧ SqT K Hx c ((runL vs (S2.take (S2.length - i))).map V.int)) ⟨Evl.Ex.refl _, c, v5, v6, by rw [show (S.length : Int) + ((0 : Nat) : Int) = (S.length : Int) by omega], by rw [Nat.sub_zero, List.take_length, hrun2]; exact hc5⟩ (fun i σ Hx _ ⟨e, _⟩ => SqL.of (e _ _ h5)) ?_ ?_
  · rintro i x σ Hx hi hx ⟨ex, c, v5, v6, rfl, hc⟩
    rw [List.length_reverse] at hi
    rw [List.getElem?_reverse hi] at hx
    obtain ⟨p, hp, tp, rfl, htp⟩ := pd_at hS5 hx
    rw [hxl2] at hp hi
    obtain ⟨m, hm⟩ : ∃ m, S2.length - i = m + 1 := ⟨S2.length - i - 1, by omega⟩
    rw [show S2.length - 1 - i = m by omega] at hp
    obtain ⟨o1, o2⟩ := hok2 m p hp
    rw [hm, take_at hp, runL_snc] at hc
    have hle := runL_le (S2.take m) vs
    have hll := lostAt_len o1
    have hsg := runL_sg (S2.take m) _ gv
    refine g_tup (Evl.ex_t ex htp) rfl ?_
    walk_at "sx"
    refine ⟨36, _, p.1, p.2, rfl, by omega, ⟨c, rfl, hc, by omega, lostAt_sg hsg⟩, rfl, by omega, rfl, ?_, by omega, fun d H6 e6 h6 => ?_⟩
    · rw [← o2]
      exact sg_at hsg o1
    walk_at "sx"
    refine ⟨ex.trans e6, d, _, _, by rw [show (S.length : Int) + ((i + 1 : Nat) : Int) = (S.length : Int) + (i : Int) + 1 by omega], ?_⟩
    rw [show S2.length - (i + 1) = m by omega]
    have e := put_lost o1
    rw [o2] at e
    unfold putAt at e
    rw [← e] at h6
    exact h6
  rintro σ H6 ⟨e6, c, v5, v6, rfl, hc⟩
  rw [List.length_reverse, hxl2, Nat.sub_self, List.take_zero] at hc
  walk_at "sx"
  refine l_neW ⟨c, rfl, hc⟩ ⟨b, rfl, Evl.ex_t e6 hb5⟩ ?_
  rw [show decide (runL vs [] = vs) = true from decide_eq_true rfl]
  walk_at "sx"
  rw [List.length_reverse, hxl2]
  have kk2 := kk H6 (e1.trans (e2.trans (e3.trans ((ExB.new e4 e5 hn4).trans e6))))
  rw [show (us.length : Int) + vs.length - 2 * (lcsN us vs : Nat) = (S.length : Int) + (S2.length : Int) by omega] at kk2
  exact kk2
end
section
variable {P : Program} {w : World} {K : PySem.W.Frag} {mg : Str → Option Value} {base : Heap}
theorem ivt_down {f : Nat → Int} : ∀ N : Nat, (∀ k, k < N → f (k + 1) = f k ∨ f (k + 1) = f k - 1) → ∀ d, f N ≤ d → d ≤ f 0 → ∃ k, k ≤ N ∧ f k = d
  | 0, _, d, h1, h2 => ⟨0, Nat.le_refl _, by omega⟩
  | N + 1, hs, d, h1, h2 => by
    by_cases c : f (N + 1) = d
    · exact ⟨N + 1, Nat.le_refl _, c⟩
    · have := hs N (by omega)
      obtain ⟨k, hk, e⟩ := ivt_down N (fun k hk => hs k (by omega)) d (by omega) h2
      exact ⟨k, by omega, e⟩
theorem drop_step {y : List Int} {k : Nat} (hk : k < y.length) : (y.drop k).sum = y.getD k 0 + (y.drop (k + 1)).sum := by
  rw [List.drop_eq_getElem_cons hk, List.sum_cons]
  simp [List.getD, hk]
/-- of one sign less there always is one -/
theorem vt_full {n : Nat} {a : Int} {y : List Int} (hl : y.length + 1 = n) (sy : Sg 2 y) (ha : 0 ≤ a ∧ a ≤ n) : ∃ u, u ∈ puts 2 y ∧ inPL n a u = true := by
  have q0 := Int.emod_nonneg (a - wsum y) (show (n : Int) + 1 ≠ 0 by omega)
  have q1 := Int.emod_lt_of_pos (a - wsum y) (show 0 < (n : Int) + 1 by omega)
  have key : ∃ k s, k ≤ y.length ∧ (0 ≤ s ∧ s < 2) ∧ ((k : Int) + 1) * s + (y.drop k).sum = (a - wsum y) % ((n : Int) + 1) := by
    generalize (a - wsum y) % ((n : Int) + 1) = d at q0 q1 ⊢
    have hz : (y.drop y.length).sum = 0 := by simp
    by_cases c : d ≤ y.sum
    · obtain ⟨k, hk, e⟩ := ivt_down (f := fun k => (y.drop k).sum) y.length (fun k hk => by
        have := drop_step hk
        have := sg_at sy hk
        show (y.drop (k + 1)).sum = (y.drop k).sum ∨ (y.drop (k + 1)).sum = (y.drop k).sum - 1
        omega) d (by show (y.drop y.length).sum ≤ d; omega) (by simpa using c)
      exact ⟨k, 0, hk, by omega, by rw [Int.mul_zero, Int.zero_add]; exact e⟩
    · obtain ⟨k, hk, e⟩ := ivt_down (f := fun k => -((k : Int) + 1 + (y.drop k).sum)) y.length (fun k hk => by
        have := drop_step hk
        have := sg_at sy hk
        show -(((k + 1 : Nat) : Int) + 1 + (y.drop (k + 1)).sum) = -((k : Int) + 1 + (y.drop k).sum) ∨ -(((k + 1 : Nat) : Int) + 1 + (y.drop (k + 1)).sum) = -((k : Int) + 1 + (y.drop k).sum) - 1
        omega) (-d) (by show -(((y.length : Nat) : Int) + 1 + (y.drop y.length).sum) ≤ -d; omega) (by
          show -d ≤ -(((0 : Nat) : Int) + 1 + (y.drop 0).sum)
          rw [List.drop_zero]
          omega)
      refine ⟨k, 1, hk, by omega, ?_⟩
      have e' : -((k : Int) + 1 + (y.drop k).sum) = -d := e
      omega
  obtain ⟨k, s, hk, hs, e⟩ := key
  refine ⟨putAt y k s, mem_puts.mpr ⟨k, s, hk, hs, rfl⟩, ?_⟩
  unfold inPL
  rw [putAt_len hk, hl, decide_eq_true rfl, Bool.true_and, decide_eq_true_eq, wsum_putAt hk]
  rw [show wsum y + ((k : Int) + 1) * s + (y.drop k).sum = wsum y + (((k : Int) + 1) * s + (y.drop k).sum) by omega, e, Int.add_emod_emod, show wsum y + (a - wsum y) = a by omega]
  exact Int.emod_eq_of_lt ha.1 (by omega)
theorem ok_L_member (T : Txt K mg) (o_L_put : FnOk P w K mg base CX0 1 T.a_L_put T.fd_L_put ["_law_q", "_law_word_here"] (sp_L_put K)) (o_L_weighted : FnOk P w K mg base CX0 1 T.a_L_weighted T.fd_L_weighted ["_law_word_here"] (sp_L_weighted K)) : FnOk P w K mg base CX0 2 T.a_L_member T.fd_L_member ["_law_n", "_law_a", "_law_short"] (sp_L_member K) := by
  refine T.F_L_member.ok sc_L_member (fun vs H Q E h => match vs, h with | [_, _, _], _ => rfl) (fun cdv A outer s H vs Q E hr h => ?_)
  refine ⟨_, ((pss_cons (ps_for PassesOwn.never rfl (pi_seqK (K := K) rfl (pe_call o_L_put hr rfl T.g_L_put T.F_L_put.kp T.b_L_put .nil pass0 (pa_cons pe_int (pa_cons (pv 2) pa_nil)))) (pg_name (i := 3) sc_L_member.nd rfl (by first | exact Or.inl rfl | exact Or.inr rfl)) (pss_one (ps_if (pt_cmpR (op_eqK (K := K) hr.units rfl) (pe_op op_modP (pe_call o_L_weighted hr rfl T.g_L_weighted T.F_L_weighted.kp T.b_L_weighted .nil pass0 (pa_cons (pv 3) pa_nil)) (pe_op (op_addK (K := K) rfl) (pv 0) pe_int)) (pv 1) (nomark _)) (pss_one (ps_ret (pv 3))) pss_nil)))
    (pss_one (ps_ret pe_non)))), ?_⟩
  match vs, h with
  | [x0, x1, x2], h =>
  replace h : s_L_member K x0 x1 x2 H Q E := h
  try dsimp only [cxOf, Cx.nox, Cx.wish]
  show (_ : TS) { nx := fun _ H' => Q .non H', rt := Q } [some x0, some x1, some x2, none] H
  obtain ⟨n, a, sh, w, rfl, hn, rfl, ha, rfl, hw, sw, hl, kk⟩ := h
  walk_at "sx"
  refine ⟨2, sh, w, rfl, by omega, rfl, hw, sw, by omega, fun p ys us H1 hp e1 h1 hW hR => ?_⟩
  walk_at "sx"
  obtain ⟨u0, hu0, iu0⟩ := vt_full hl sw ha
  refine l_forL (fun i σ Hx => Ex H1 Hx ∧ (∃ v3, σ = [some (.int n), some (.int a), some (.ref sh), v3]) ∧ ∀ u ∈ us.take i, inPL n a u = false) ⟨Evl.Ex.refl _, ⟨_, rfl⟩, fun u hu => by simp at hu⟩ (fun i σ Hx _ ⟨e, _⟩ => SqL.of (e _ _ h1)) ?_ ?_
  · rintro i x σ Hx hi hx ⟨ex, ⟨v3, rfl⟩, hno⟩
    obtain ⟨u, hu, b, rfl, hb⟩ := pd_at hW hx
    have hum := (hR.1 u).mp (List.mem_of_getElem? hu)
    obtain ⟨q, s, hq, hs, rfl⟩ := mem_puts.mp hum
    have hpl := putAt_len (s := s) hq
    have hbx := hb.mono ex
    walk_at "sx"
    refine ⟨b, putAt w q s, rfl, hbx.sq, by omega, fun H2 e2 => ?_⟩
    walk_at "sx"
    refine ifd (fun c => ?_) (fun c => ?_)
    · walk_at "sx"
      refine kk b _ _ (e1.trans (ex.trans e2)) (hbx.mono e2) (by omega) (putAt_sg sw hs) ?_
      unfold inPL
      rw [decide_eq_true (by omega), decide_eq_true c]
      rfl
    · walk_at "sx"
      refine ⟨ex.trans e2, ⟨_, rfl⟩, fun z hz => ?_⟩
      rw [take_at hu] at hz
      rcases List.mem_append.mp hz with h | h
      · exact hno z h
      · rw [List.mem_singleton] at h
        subst h
        unfold inPL
        rw [decide_eq_false c, Bool.and_false]
  · rintro σ Hx ⟨ex, ⟨v3, rfl⟩, hno⟩
    exfalso
    rw [Paired.length hW, List.take_length] at hno
    rw [hno u0 ((hR.1 u0).mpr hu0)] at iu0
    cases iu0
end
section
variable {P : Program} {w : World} {K : PySem.W.Frag} {mg : Str → Option Value} {base : Heap}
/-! nearness, as it should be -/
theorem lcs_le_l (u v : List Int) : lcsN u v ≤ u.length := by
  obtain ⟨r, h1, _, h3⟩ := lcs_ex u v
  have := h1.length_le
  omega
theorem lcs_le_r (u v : List Int) : lcsN u v ≤ v.length := by
  obtain ⟨r, _, h1, h3⟩ := lcs_ex u v
  have := h1.length_le
  omega
theorem lcs_comm (u v : List Int) : lcsN u v = lcsN v u := by
  obtain ⟨r, h1, h2, h3⟩ := lcs_ex u v
  obtain ⟨s, g1, g2, g3⟩ := lcs_ex v u
  have a := lcs_le v u r h2 h1
  have b := lcs_le u v s g2 g1
  omega
theorem near_zero (u v : List Int) : ((u.length : Int) + v.length - 2 * (lcsN u v : Nat) = 0) ↔ u = v := by
  constructor
  · intro h
    obtain ⟨r, h1, h2, h3⟩ := lcs_ex u v
    have a := h1.length_le
    have b := h2.length_le
    rw [← h1.eq_of_length (by omega), ← h2.eq_of_length (by omega)]
  · rintro rfl
    have a := lcs_le u u u (List.Sublist.refl _) (List.Sublist.refl _)
    have b := lcs_le_l u u
    omega
/-- two rows of one word have a row in common -/
theorem two_rows : ∀ (w r s : List Int), r.Sublist w → s.Sublist w → ∃ t : List Int, t.Sublist r ∧ t.Sublist s ∧ r.length + s.length ≤ t.length + w.length
  | [], r, s, h, g => by
    rw [List.sublist_nil.mp h, List.sublist_nil.mp g]
    exact ⟨[], List.Sublist.refl _, List.Sublist.refl _, by simp⟩
  | a :: w, r, s, h, g => by
    rcases List.sublist_cons_iff.mp h with h1 | ⟨r', rfl, h1⟩
    · rcases List.sublist_cons_iff.mp g with g1 | ⟨s', rfl, g1⟩
      · obtain ⟨t, t1, t2, t3⟩ := two_rows w r s h1 g1
        exact ⟨t, t1, t2, by rw [List.length_cons]; omega⟩
      · obtain ⟨t, t1, t2, t3⟩ := two_rows w r s' h1 g1
        exact ⟨t, t1, t2.trans (List.sublist_cons_self _ _), by rw [List.length_cons, List.length_cons]; omega⟩
    · rcases List.sublist_cons_iff.mp g with g1 | ⟨s', rfl, g1⟩
      · obtain ⟨t, t1, t2, t3⟩ := two_rows w r' s h1 g1
        exact ⟨t, t1.trans (List.sublist_cons_self _ _), t2, by rw [List.length_cons, List.length_cons]; omega⟩
      · obtain ⟨t, t1, t2, t3⟩ := two_rows w r' s' h1 g1
        exact ⟨a :: t, List.cons_sublist_cons.mpr t1, List.cons_sublist_cons.mpr t2, by simp only [List.length_cons]; omega⟩
theorem lcs_tri (u v w : List Int) : lcsN u w + lcsN w v ≤ lcsN u v + w.length := by
  obtain ⟨r, h1, h2, h3⟩ := lcs_ex u w
  obtain ⟨s, g1, g2, g3⟩ := lcs_ex w v
  obtain ⟨t, t1, t2, t3⟩ := two_rows w r s h2 g1
  have := lcs_le u v t (t1.trans h1) (t2.trans g2)
  omega
theorem lost_sub (w : List Int) (k : Nat) : (lostAt w k).Sublist w := by
  unfold lostAt
  conv => rhs; rw [← List.take_append_drop k w]
  refine List.Sublist.append (List.Sublist.refl _) ?_
  rw [← List.drop_drop]
  exact List.drop_sublist 1 _
theorem near_lost {w : List Int} {k : Nat} (h : k < w.length) : (w.length : Int) + (lostAt w k).length - 2 * (lcsN w (lostAt w k) : Nat) = 1 := by
  have a := lcs_le w (lostAt w k) (lostAt w k) (lost_sub w k) (List.Sublist.refl _)
  have b := lcs_le_r w (lostAt w k)
  have c := lostAt_len h
  omega
theorem sub_lost : ∀ (w r : List Int), r.Sublist w → r.length + 1 = w.length → ∃ k, k < w.length ∧ r = lostAt w k
  | [], r, h, e => by simp at e
  | a :: w, r, h, e => by
    rcases List.sublist_cons_iff.mp h with h1 | ⟨r', rfl, h1⟩
    · refine ⟨0, by simp, ?_⟩
      rw [h1.eq_of_length (by simpa using e)]
      rfl
    · obtain ⟨k, hk, rfl⟩ := sub_lost w r' h1 (by simpa using e)
      exact ⟨k + 1, by simpa using hk, rfl⟩
/-- two unlike members lie four apart -/
theorem near_four {n : Nat} {a : Int} {u v : List Int} (hu : u.length = n) (hv : v.length = n) (su : Sg 2 u) (sv : Sg 2 v) (mu : inPL n a u = true) (mv : inPL n a v = true) (ne : u ≠ v) : 4 ≤ (u.length : Int) + v.length - 2 * (lcsN u v : Nat) := by
  obtain ⟨r, h1, h2, h3⟩ := lcs_ex u v
  have b1 := h1.length_le
  by_cases c : r.length = n
  · exact absurd ((h1.eq_of_length (by omega)).symm.trans (h2.eq_of_length (by omega))) ne
  · by_cases c2 : r.length + 1 = n
    · obtain ⟨i, hi, e1⟩ := sub_lost u r h1 (by omega)
      obtain ⟨j, hj, e2⟩ := sub_lost v r h2 (by omega)
      exact absurd (vt_lost mu mv su sv hi hj (e1.symm.trans e2)) ne
    · omega
theorem eq_dec (u v : List Int) : PyData.eqv (.tuple (u.map PyData.int)) (.tuple (v.map PyData.int)) = decide (u = v) := eqvT_ints u v
theorem sg36 {w : List Int} (h : Sg 2 w) : Sg 36 w := fun i hi => by have := h i hi; omega
theorem ok_law (T : Txt K mg) (o_nearness : FnOk P w K mg base CX0 5 T.a_nearness T.fd_nearness ["one", "other"] (sp_nearness K)) (o_L_member : FnOk P w K mg base CX0 2 T.a_L_member T.fd_L_member ["_law_n", "_law_a", "_law_short"] (sp_L_member K)) (o_L_long : FnOk P w K mg base CX0 2 T.a_L_long T.fd_L_long ["_law_pot_here", "_law_q", "_law_n"] (sp_L_long K)) (o_L_digit : FnOk P w K mg base CX0 1 T.a_L_digit T.fd_L_digit ["_law_pot_here", "_law_base"] (sp_L_digit K)) (o_lost : FnOk P w K mg base CX0 4 T.a_lost T.fd_lost ["q", "word", "k"] (sp_lost K)) (o_L_led : FnOk P w K mg base CX0 5 T.a_L_led T.fd_L_led ["_law_one", "_law_other"] (sp_L_led K)) (o_L_bent : FnOk P w K mg base CX0 2 T.a_L_bent T.fd_L_bent ["_law_pot_here", "_law_q", "_law_word_here"] (sp_L_bent K)) (o_L_pot : FnOk P w K mg base CX0 2 T.a_L_pot T.fd_L_pot ["_law_script", "_law_k"] (sp_L_pot K)) (o_L_two : FnOk P w K mg base CX0 4 T.a_L_two T.fd_L_two ["_law_script", "_law_most"] (sp_L_two K)) : FnOk P w K mg base CX0 6 T.a_law T.fd_law ["_law_script"] (sp_law K) := by
  refine T.F_law.ok sc_law (fun vs H Q E h => match vs, h with | [_], _ => rfl) (fun cdv A outer s H vs Q E hr h => ?_)
  refine ⟨_, ((pss_cons (ps_asg (pe_call o_L_two (hr.mono (by decide)) rfl T.g_L_two T.F_L_two.kp T.b_L_two .nil pass0 (pa_cons (pv 0) (pa_cons pe_int pa_nil))) (pg_tupK (K := K) rfl rfl (pgs_cons (pg_name (i := 1) sc_law.nd rfl (by first | exact Or.inl rfl | exact Or.inr rfl)) (pgs_cons (pg_name (i := 2) sc_law.nd rfl (by first | exact Or.inl rfl | exact Or.inr rfl)) pgs_nil))))
    (pss_cons (ps_set (i := 3) sc_law.nd rfl (by first | exact Or.inl rfl | exact Or.inr rfl) (pe_call o_L_pot (hr.mono (by decide)) rfl T.g_L_pot T.F_L_pot.kp T.b_L_pot .nil pass0 (pa_cons (pv 0) (pa_cons pe_int pa_nil))))
    (pss_cons (ps_set (i := 4) sc_law.nd rfl (by first | exact Or.inl rfl | exact Or.inr rfl) (pe_slice (sl_N (K := K) rfl) (pe_call o_L_bent (hr.mono (by decide)) rfl T.g_L_bent T.F_L_bent.kp T.b_L_bent .nil pass0 (pa_cons (pv 3) (pa_cons pe_int (pa_cons (pv 2) pa_nil)))) po_none (po_some pe_int)))
    (pss_cons (ps_set (i := 5) sc_law.nd rfl (by first | exact Or.inl rfl | exact Or.inr rfl) (pe_call o_nearness hr rfl T.g_nearness T.F_nearness.kp T.b_nearness .nil pass0 (pa_cons (pv 1) (pa_cons (pv 2) pa_nil))))
    (pss_cons (ps_if (PW.pt (pw_or (pt_cmpR (op_neK (K := K) hr.units rfl) (pv 5) (pe_call o_nearness hr rfl T.g_nearness T.F_nearness.kp T.b_nearness .nil pass0 (pa_cons (pv 2) (pa_cons (pv 1) pa_nil))) (nomark _)) (pw_or (pt_cmpR (op_neK (K := K) hr.units rfl) (pe_cmpR (op_eqK (K := K) hr.units rfl) (pv 5) pe_int (nomark _)) (pe_cmpR (op_eqK (K := K) hr.units rfl) (pv 1) (pv 2) (nomark _)) (nomark _)) (pw_or1 (pt_cmpR (op_neK (K := K) hr.units rfl) (pe_op op_modP (pe_op op_subP (pe_op op_subP (pv 5) (pe_callB (call_lenK (K := K) rfl) (by rfl) T.z_len (by decide +kernel) (pa_cons (pv 1) pa_nil))) (pe_callB (call_lenK (K := K) rfl) (by rfl) T.z_len (by decide +kernel) (pa_cons (pv 2) pa_nil))) pe_int) pe_int (nomark _)))))) (pss_one (ps_ret pe_bl)) pss_nil)
    (pss_cons (ps_if (PW.pt (pw_or (pt_cmpR (op_neK (K := K) hr.units rfl) (pe_call o_L_led hr rfl T.g_L_led T.F_L_led.kp T.b_L_led .nil pass0 (pa_cons (pv 1) (pa_cons (pv 2) pa_nil))) (pv 5) (nomark _)) (pw_or1 (pt_cmpR op_gtP (pv 5) (pe_op (op_catN (K := K) rfl) (pe_call o_nearness hr rfl T.g_nearness T.F_nearness.kp T.b_nearness .nil pass0 (pa_cons (pv 1) (pa_cons (pv 4) pa_nil))) (pe_call o_nearness hr rfl T.g_nearness T.F_nearness.kp T.b_nearness .nil pass0 (pa_cons (pv 4) (pa_cons (pv 2) pa_nil)))) (nomark _))))) (pss_one (ps_ret pe_bl)) pss_nil)
    (Evl.pss_cut (ps_if (PW.pt (pw_and (pt_cmpR (op_neK (K := K) hr.units rfl) (pv 1) (pe_tupN pa_nil) (nomark _)) (pw_and1 (pt_cmpR (op_neK (K := K) hr.units rfl) (pe_call o_nearness hr rfl T.g_nearness T.F_nearness.kp T.b_nearness .nil pass0 (pa_cons (pv 1) (pa_cons (pe_call o_lost (hr.mono (by decide)) rfl T.g_lost T.F_lost.kp T.b_lost .nil pass0 (pa_cons pe_int (pa_cons (pv 1) (pa_cons (pe_call o_L_digit (hr.mono (by decide)) rfl T.g_L_digit T.F_L_digit.kp T.b_L_digit .nil pass0 (pa_cons (pv 3) (pa_cons (pe_callB (call_lenK (K := K) rfl) (by rfl) T.z_len (by decide +kernel) (pa_cons (pv 1) pa_nil)) pa_nil))) pa_nil)))) pa_nil))) pe_int (nomark _))))) (pss_one (ps_ret pe_bl)) pss_nil)
    (pss_cons (ps_set (i := 6) sc_law.nd rfl (by first | exact Or.inl rfl | exact Or.inr rfl) (pe_op (op_catN (K := K) rfl) pe_int (pe_call o_L_digit (hr.mono (by decide)) rfl T.g_L_digit T.F_L_digit.kp T.b_L_digit .nil pass0 (pa_cons (pv 3) (pa_cons pe_int pa_nil)))))
    (pss_cons (ps_set (i := 7) sc_law.nd rfl (by first | exact Or.inl rfl | exact Or.inr rfl) (pe_call o_L_digit (hr.mono (by decide)) rfl T.g_L_digit T.F_L_digit.kp T.b_L_digit .nil pass0 (pa_cons (pv 3) (pa_cons (pe_op (op_catN (K := K) rfl) (pv 6) pe_int) pa_nil))))
    (pss_cons (ps_set (i := 8) sc_law.nd rfl (by first | exact Or.inl rfl | exact Or.inr rfl) (pe_call o_L_member (hr.mono (by decide)) rfl T.g_L_member T.F_L_member.kp T.b_L_member .nil pass0 (pa_cons (pv 6) (pa_cons (pv 7) (pa_cons (pe_call o_L_long (hr.mono (by decide)) rfl T.g_L_long T.F_L_long.kp T.b_L_long .nil pass0 (pa_cons (pv 3) (pa_cons pe_int (pa_cons (pe_op op_subP (pv 6) pe_int) pa_nil)))) pa_nil)))))
    (pss_cons (ps_set (i := 9) sc_law.nd rfl (by first | exact Or.inl rfl | exact Or.inr rfl) (pe_call o_L_member (hr.mono (by decide)) rfl T.g_L_member T.F_L_member.kp T.b_L_member .nil pass0 (pa_cons (pv 6) (pa_cons (pv 7) (pa_cons (pe_call o_L_long (hr.mono (by decide)) rfl T.g_L_long T.F_L_long.kp T.b_L_long .nil pass0 (pa_cons (pv 3) (pa_cons pe_int (pa_cons (pe_op op_subP (pv 6) pe_int) pa_nil)))) pa_nil)))))
    (pss_one (ps_ret (pe_or (pe_cmpR (op_eqK (K := K) hr.units rfl) (pv 8) (pv 9) (nomark _)) (pe_one (pe_cmpR op_geP (pe_call o_nearness hr rfl T.g_nearness T.F_nearness.kp T.b_nearness .nil pass0 (pa_cons (pv 8) (pa_cons (pv 9) pa_nil))) pe_int (nomark _)))))))))))))))))), ?_⟩
  match vs, h with
  | [x0], h =>
  replace h : s_law K x0 H Q E := h
  try dsimp only [cxOf, Cx.nox, Cx.wish]
  show (_ : TS) { nx := fun _ H' => Q .non H', rt := Q } [some x0, none, none, none, none, none, none, none, none, none] H
  obtain ⟨sa, sn, rfl, hs, hl, kk⟩ := h
  walk_at "sx"
  refine ⟨sa, sn, 30, rfl, hs, rfl, by omega, fun t a b us vs H1 e1 h1 ha hb hu hv gu gv => ?_⟩
  refine g_tup h1 rfl ?_
  have hs1 := Evl.ex_l e1 hs
  walk_at "sx"
  refine ⟨sa, sn, 3, rfl, hs1, rfl, by omega, fun p H2 hn2 e2 hp2 => ?_⟩
  have ha2 := ha.mono e2
  have hb2 := hb.mono e2
  walk_at "sx"
  refine ⟨p, b, 36, vs, rfl, hp2, rfl, by omega, rfl, hb2, by omega, gv, fun c ws H3 e3 hp3 h3 l3 g3 => ?_⟩
  have ha3 := Pot.n hp2 e3 ha2
  have hb3 := Pot.n hp2 e3 hb2
  walk_at "sx"
  refine l_slNT h3 (by simp; omega) fun c4 H4 e4 h4 => ?_
  rw [show (30 : Int) = ((30 : Nat) : Int) from rfl, cut_few] at h4
  have hp4 := hp3.mono e4
  have ha4 := ha3.mono e4
  have hb4 := hb3.mono e4
  have gw : Sg 36 (ws.take 30) := fun i hi => g3 i (List.mem_of_mem_take hi)
  have lw : (ws.take 30).length ≤ 30 := by rw [List.length_take]; omega
  generalize ws.take 30 = ws at *
  clear hp2 hp3 ha ha2 ha3 hb hb2 hb3 h3 e2 e3 e4 e1 hs hs1 hn2 h1
  walk_at "sx"
  refine ⟨a, b, us, vs, rfl, ha4, rfl, hb4, by omega, by omega, gu, gv, fun H5 e5 => ?_⟩
  walk_at "sx"
  have ha5 := ha4.mono e5
  have hb5 := hb4.mono e5
  refine ⟨b, a, vs, us, rfl, hb5, rfl, ha5, by omega, by omega, gv, gu, fun H6 e6 => ?_⟩
  walk_at "sx"
  have hc := lcs_comm us vs
  generalize hN : (us.length : Int) + vs.length - 2 * (lcsN us vs : Nat) = N
  rw [show (vs.length : Int) + us.length - 2 * (lcsN vs us : Nat) = N by omega, decide_eq_true rfl]
  have ha6 := (ha5.mono e6).sq (K := K)
  have hb6 := (hb5.mono e6).sq (K := K)
  walk_at "sx"
  refine l_eqD (.tup ha6 (dp_ints us)) (.tup hb6 (dp_ints vs)) (shaped_ints us) (shaped_ints vs) ?_
  rw [eq_dec]
  have hz : decide (N = 0) = decide (us = vs) := by
    have := near_zero us vs
    rw [hN] at this
    by_cases c : us = vs
    · rw [decide_eq_true c, decide_eq_true (this.mpr c)]
    · rw [decide_eq_false c, decide_eq_false fun z => c (this.mp z)]
  rw [hz]
  refine l_neB ?_
  rw [decide_eq_true rfl]
  walk_at "sx"
  rw [List.length_map, List.length_map]
  rw [show (N - us.length - vs.length) % 2 = 0 by omega, decide_eq_true rfl]
  walk_at "sx"
  have e46 := e5.trans e6
  have ha7 := ha4.mono e46
  have hb7 := hb4.mono e46
  have hc7 := h4.mono e46
  have hp7 := hp4.mono e46
  clear ha4 ha5 ha6 hb4 hb5 hb6 h4 hp4 e5 e6 e46
  refine ⟨a, b, us, vs, rfl, ha7, rfl, hb7, by omega, by omega, gu, gv, fun H8 e8 => ?_⟩
  rw [hN]
  walk_at "sx"
  rw [decide_eq_true rfl]
  walk_at "sx"
  have ha8 := ha7.mono e8
  have hb8 := hb7.mono e8
  have hc8 := hc7.mono e8
  refine ⟨a, c4, us, ws, rfl, ha8, rfl, hc8, by omega, by omega, gu, gw, fun H9 e9 => ?_⟩
  walk_at "sx"
  refine ⟨c4, b, ws, vs, rfl, hc8.mono e9, rfl, hb8.mono e9, by omega, by omega, gw, gv, fun H10 e10 => ?_⟩
  have tri := lcs_tri us vs ws
  walk_at "sx"
  refine ifd (fun c => absurd c (by omega)) (fun _ => ?_)
  have e710 := e8.trans (e9.trans e10)
  have ha10 := ha7.mono e710
  have hp10 := hp7.mono e710
  clear ha7 ha8 hb7 hb8 hc7 hc8 hp7 e8 e9 e10 e710
  refine q_cut (fun σ Hx => σ = [some (V.ref sa), some (.ref a), some (.ref b), some (.ref p), some (.ref c4), some (.int N), none, none, none, none] ∧ Pot Hx p) ?_ ?_
  · walk_at "sx"
    refine w_newN (by simp) fun t11 H11 _ e11 h11 => ?_
    have ha11 := ha10.mono e11
    have hp11 := hp10.mono e11
    refine l_neD (.tup ha11.sq (dp_ints us)) (.tup h11.sq (dp_ints [])) (shaped_ints us) (shaped_ints []) ?_
    rw [eq_dec]
    by_cases c : us = []
    · rw [decide_eq_true c]
      walk_at "sx"
      exact ⟨rfl, hp11⟩
    · rw [decide_eq_false c]
      have hpos : 0 < us.length := List.length_pos_iff.mpr c
      walk_at "sx"
      rw [List.length_map]
      refine ⟨p, (us.length : Int), rfl, hp11, rfl, by omega, fun d H12 e12 hp12 d0 d1 => ?_⟩
      obtain ⟨k, rfl⟩ : ∃ k : Nat, d = k := ⟨d.toNat, by omega⟩
      have ha12 := Pot.n hp11 e12 ha11
      walk_at "sx"
      refine ⟨36, a, us, k, rfl, by omega, rfl, ha12, by omega, gu, rfl, by omega, fun q H13 e13 h13 => ?_⟩
      have hkl : k < us.length := by omega
      have hll := lostAt_len hkl
      walk_at "sx"
      refine ⟨a, q, us, lostAt us k, rfl, ha12.mono e13, rfl, h13, by omega, by omega, gu, lostAt_sg gu, fun H14 e14 => ?_⟩
      rw [near_lost hkl]
      walk_at "sx"
      exact ⟨rfl, hp12.mono (e13.trans e14)⟩
  rintro σ H11 ⟨rfl, hp11⟩
  walk_at "sx"
  refine ⟨p, 24, rfl, hp11, rfl, by omega, fun d H12 e12 hp12 d0 d1 => ?_⟩
  obtain ⟨n, hn⟩ : ∃ n : Nat, 1 + d = (n : Int) := ⟨(1 + d).toNat, by omega⟩
  walk_at "sx"
  rw [hn]
  refine ⟨p, (n : Int) + 1, rfl, hp12, rfl, by omega, fun r H13 e13 hp13 r0 r1 => ?_⟩
  walk_at "sx"
  refine ⟨p, 2, (n : Int) - 1, rfl, hp13, rfl, by omega, rfl, by omega, fun s x H14 e14 hp14 h14 l14 g14 => ?_⟩
  walk_at "sx"
  refine ⟨n, r, s, x, rfl, by omega, rfl, by omega, rfl, h14, g14, by omega, fun u U H15 e15 hU lU sU mU => ?_⟩
  have hp15 := hp14.mono e15
  walk_at "sx"
  refine ⟨p, 2, (n : Int) - 1, rfl, hp15, rfl, by omega, rfl, by omega, fun s2 x2 H16 e16 hp16 h16 l16 g16 => ?_⟩
  have hU16 := Pot.n hp15 e16 hU
  walk_at "sx"
  refine ⟨n, r, s2, x2, rfl, by omega, rfl, by omega, rfl, h16, g16, by omega, fun v V2 H17 e17 hV lV sV mV => ?_⟩
  have hU17 := hU16.mono e17
  walk_at "sx"
  refine l_eqD (.tup hU17.sq (dp_ints U)) (.tup hV.sq (dp_ints V2)) (shaped_ints U) (shaped_ints V2) ?_
  rw [eq_dec]
  by_cases c : U = V2
  · rw [decide_eq_true c]
    walk_at "sx"
    exact kk _
  · rw [decide_eq_false c]
    walk_at "sx"
    refine ⟨u, v, U, V2, rfl, hU17, rfl, hV, by omega, by omega, sg36 sU, sg36 sV, fun H18 e18 => ?_⟩
    walk_at "sx"
    rw [decide_eq_true (near_four lU lV sU sV mU mV c)]
    exact kk _
end
section
variable {P : Program} {w : World} {K : PySem.W.Frag} {mg : Str → Option Value} {base : Heap}
theorem all_ok (T : Txt K mg) : FnOk P w K mg base CX0 6 T.a_law T.fd_law ["_law_script"] (sp_law K) := by
  have o_first_sign := ok_first_sign (P := P) (w := w) (base := base) T
  have o_lengths_from := ok_lengths_from (P := P) (w := w) (base := base) T
  have o_is_number := ok_is_number (P := P) (w := w) (base := base) T
  have o_is_sign := ok_is_sign (P := P) (w := w) (base := base) T o_is_number
  have o_want_count := ok_want_count (P := P) (w := w) (base := base) T o_is_number
  have o_want_word := ok_want_word (P := P) (w := w) (base := base) T o_is_sign o_want_count
  have o_common_row := ok_common_row (P := P) (w := w) (base := base) T o_first_sign o_lengths_from o_want_word
  have o_nearness := ok_nearness (P := P) (w := w) (base := base) T o_common_row
  have o_L_put := ok_L_put (P := P) (w := w) (base := base) T
  have o_L_weighted := ok_L_weighted (P := P) (w := w) (base := base) T
  have o_L_member := ok_L_member (P := P) (w := w) (base := base) T o_L_put o_L_weighted
  have o_L_digit := ok_L_digit (P := P) (w := w) (base := base) T
  have o_L_long := ok_L_long (P := P) (w := w) (base := base) T o_L_digit
  have o_want_place := ok_want_place (P := P) (w := w) (base := base) T o_is_number
  have o_lost := ok_lost (P := P) (w := w) (base := base) T o_want_place o_want_word
  have o_put_in := ok_put_in (P := P) (w := w) (base := base) T o_is_sign o_want_place o_want_word
  have o_L_fits := ok_L_fits (P := P) (w := w) (base := base) T
  have o_L_losses := ok_L_losses (P := P) (w := w) (base := base) T o_L_fits
  have o_L_led := ok_L_led (P := P) (w := w) (base := base) T o_put_in o_L_losses o_lost o_common_row
  have o_L_bent := ok_L_bent (P := P) (w := w) (base := base) T o_L_digit
  have o_L_at := ok_L_at (P := P) (w := w) (base := base) T
  have o_L_pot := ok_L_pot (P := P) (w := w) (base := base) T o_L_at
  have o_L_word := ok_L_word (P := P) (w := w) (base := base) T o_L_long o_L_digit
  have o_L_runny := ok_L_runny (P := P) (w := w) (base := base) T o_L_digit
  have o_L_two := ok_L_two (P := P) (w := w) (base := base) T o_L_digit o_L_bent o_L_word o_L_pot o_L_runny
  exact ok_law T o_nearness o_L_member o_L_long o_L_digit o_lost o_L_led o_L_bent o_L_pot o_L_two
end
theorem all_mk {l : PySem.W.OpenLaw} {w : World} {K : PySem.W.Frag} {h : Heap} {mg : Str → Option Value} {fa : Addr} (X : K.In h) (G : h.Ns mainGlobals mg) (hfa : mg "law" = some (.ref fa))
    {f0 : Addr} {od0 an0 : Option Addr} {sl0 : Array (Option Value)} {oc0 kV0 dc0 pm0 cd0 ct0 : Value} {f1 : Addr} {od1 an1 : Option Addr} {sl1 : Array (Option Value)} {oc1 kV1 dc1 pm1 cd1 ct1 : Value} {f2 : Addr} {od2 an2 : Option Addr} {sl2 : Array (Option Value)} {oc2 kV2 dc2 pm2 cd2 ct2 : Value} {f3 : Addr} {od3 an3 : Option Addr} {sl3 : Array (Option Value)} {oc3 kV3 dc3 pm3 cd3 ct3 : Value} {f4 : Addr} {od4 an4 : Option Addr} {sl4 : Array (Option Value)} {oc4 kV4 dc4 pm4 cd4 ct4 : Value} {f5 : Addr} {od5 an5 : Option Addr} {sl5 : Array (Option Value)} {oc5 kV5 dc5 pm5 cd5 ct5 : Value} {f6 : Addr} {od6 an6 : Option Addr} {sl6 : Array (Option Value)} {oc6 kV6 dc6 pm6 cd6 ct6 : Value} {f7 : Addr} {od7 an7 : Option Addr} {sl7 : Array (Option Value)} {oc7 kV7 dc7 pm7 cd7 ct7 : Value} {f8 : Addr} {od8 an8 : Option Addr} {sl8 : Array (Option Value)} {oc8 kV8 dc8 pm8 cd8 ct8 : Value} {f9 : Addr} {od9 an9 : Option Addr} {sl9 : Array (Option Value)} {oc9 kV9 dc9 pm9 cd9 ct9 : Value} {f10 : Addr} {od10 an10 : Option Addr} {sl10 : Array (Option Value)} {oc10 kV10 dc10 pm10 cd10 ct10 : Value} {f11 : Addr} {od11 an11 : Option Addr} {sl11 : Array (Option Value)} {oc11 kV11 dc11 pm11 cd11 ct11 : Value} {f12 : Addr} {od12 an12 : Option Addr} {sl12 : Array (Option Value)} {oc12 kV12 dc12 pm12 cd12 ct12 : Value} {f13 : Addr} {od13 an13 : Option Addr} {sl13 : Array (Option Value)} {oc13 kV13 dc13 pm13 cd13 ct13 : Value} {f14 : Addr} {od14 an14 : Option Addr} {sl14 : Array (Option Value)} {oc14 kV14 dc14 pm14 cd14 ct14 : Value} {f15 : Addr} {od15 an15 : Option Addr} {sl15 : Array (Option Value)} {oc15 kV15 dc15 pm15 cd15 ct15 : Value} {f16 : Addr} {od16 an16 : Option Addr} {sl16 : Array (Option Value)} {oc16 kV16 dc16 pm16 cd16 ct16 : Value} {f17 : Addr} {od17 an17 : Option Addr} {sl17 : Array (Option Value)} {oc17 kV17 dc17 pm17 cd17 ct17 : Value} {f18 : Addr} {od18 an18 : Option Addr} {sl18 : Array (Option Value)} {oc18 kV18 dc18 pm18 cd18 ct18 : Value} {f19 : Addr} {od19 an19 : Option Addr} {sl19 : Array (Option Value)} {oc19 kV19 dc19 pm19 cd19 ct19 : Value} {f20 : Addr} {od20 an20 : Option Addr} {sl20 : Array (Option Value)} {oc20 kV20 dc20 pm20 cd20 ct20 : Value} {f21 : Addr} {od21 an21 : Option Addr} {sl21 : Array (Option Value)} {oc21 kV21 dc21 pm21 cd21 ct21 : Value} {f22 : Addr} {od22 an22 : Option Addr} {sl22 : Array (Option Value)} {oc22 kV22 dc22 pm22 cd22 ct22 : Value} {f23 : Addr} {od23 an23 : Option Addr} {sl23 : Array (Option Value)} {oc23 kV23 dc23 pm23 cd23 ct23 : Value} {f24 : Addr} {od24 an24 : Option Addr} {sl24 : Array (Option Value)} {oc24 kV24 dc24 pm24 cd24 ct24 : Value} {f25 : Addr} {od25 an25 : Option Addr} {sl25 : Array (Option Value)} {oc25 kV25 dc25 pm25 cd25 ct25 : Value} {t_LEAST_SIGNS : Tok} {t_MOST_LENGTH : Tok} {t_MOST_SIGNS : Tok}
    (a0 : PySem.W.nsIn K mainGlobals "is_number" = some (some (.ref f0))) (l0 : K.lookup f0 = some ⟨oc0, od0, .func (PySem.W.fnOf "is_number" "is_number" (defArgs S_is_number) (defBody S_is_number) (defScope S_is_number) .none kV0 dc0 pm0 an0 cd0 ct0), sl0⟩) (c0 : PySem.W.codeIn K cd0 "is_number" = true) (k0 : PySem.W.keepIn K (.ref f0) = true)
    (a1 : PySem.W.nsIn K mainGlobals "want_count" = some (some (.ref f1))) (l1 : K.lookup f1 = some ⟨oc1, od1, .func (PySem.W.fnOf "want_count" "want_count" (defArgs S_want_count) (defBody S_want_count) (defScope S_want_count) .none kV1 dc1 pm1 an1 cd1 ct1), sl1⟩) (c1 : PySem.W.codeIn K cd1 "want_count" = true) (k1 : PySem.W.keepIn K (.ref f1) = true)
    (a2 : PySem.W.nsIn K mainGlobals "is_sign" = some (some (.ref f2))) (l2 : K.lookup f2 = some ⟨oc2, od2, .func (PySem.W.fnOf "is_sign" "is_sign" (defArgs S_is_sign) (defBody S_is_sign) (defScope S_is_sign) .none kV2 dc2 pm2 an2 cd2 ct2), sl2⟩) (c2 : PySem.W.codeIn K cd2 "is_sign" = true) (k2 : PySem.W.keepIn K (.ref f2) = true)
    (a3 : PySem.W.nsIn K mainGlobals "want_word" = some (some (.ref f3))) (l3 : K.lookup f3 = some ⟨oc3, od3, .func (PySem.W.fnOf "want_word" "want_word" (defArgs S_want_word) (defBody S_want_word) (defScope S_want_word) .none kV3 dc3 pm3 an3 cd3 ct3), sl3⟩) (c3 : PySem.W.codeIn K cd3 "want_word" = true) (k3 : PySem.W.keepIn K (.ref f3) = true)
    (a4 : PySem.W.nsIn K mainGlobals "lengths_from" = some (some (.ref f4))) (l4 : K.lookup f4 = some ⟨oc4, od4, .func (PySem.W.fnOf "lengths_from" "lengths_from" (defArgs S_lengths_from) (defBody S_lengths_from) (defScope S_lengths_from) .none kV4 dc4 pm4 an4 cd4 ct4), sl4⟩) (c4 : PySem.W.codeIn K cd4 "lengths_from" = true) (k4 : PySem.W.keepIn K (.ref f4) = true)
    (a5 : PySem.W.nsIn K mainGlobals "first_sign" = some (some (.ref f5))) (l5 : K.lookup f5 = some ⟨oc5, od5, .func (PySem.W.fnOf "first_sign" "first_sign" (defArgs S_first_sign) (defBody S_first_sign) (defScope S_first_sign) .none kV5 dc5 pm5 an5 cd5 ct5), sl5⟩) (c5 : PySem.W.codeIn K cd5 "first_sign" = true) (k5 : PySem.W.keepIn K (.ref f5) = true)
    (a6 : PySem.W.nsIn K mainGlobals "common_row" = some (some (.ref f6))) (l6 : K.lookup f6 = some ⟨oc6, od6, .func (PySem.W.fnOf "common_row" "common_row" (defArgs S_common_row) (defBody S_common_row) (defScope S_common_row) .none kV6 dc6 pm6 an6 cd6 ct6), sl6⟩) (c6 : PySem.W.codeIn K cd6 "common_row" = true) (k6 : PySem.W.keepIn K (.ref f6) = true)
    (a7 : PySem.W.nsIn K mainGlobals "nearness" = some (some (.ref f7))) (l7 : K.lookup f7 = some ⟨oc7, od7, .func (PySem.W.fnOf "nearness" "nearness" (defArgs S_nearness) (defBody S_nearness) (defScope S_nearness) .none kV7 dc7 pm7 an7 cd7 ct7), sl7⟩) (c7 : PySem.W.codeIn K cd7 "nearness" = true) (k7 : PySem.W.keepIn K (.ref f7) = true)
    (a8 : PySem.W.nsIn K mainGlobals "want_place" = some (some (.ref f8))) (l8 : K.lookup f8 = some ⟨oc8, od8, .func (PySem.W.fnOf "want_place" "want_place" (defArgs S_want_place) (defBody S_want_place) (defScope S_want_place) .none kV8 dc8 pm8 an8 cd8 ct8), sl8⟩) (c8 : PySem.W.codeIn K cd8 "want_place" = true) (k8 : PySem.W.keepIn K (.ref f8) = true)
    (a9 : PySem.W.nsIn K mainGlobals "lost" = some (some (.ref f9))) (l9 : K.lookup f9 = some ⟨oc9, od9, .func (PySem.W.fnOf "lost" "lost" (defArgs S_lost) (defBody S_lost) (defScope S_lost) .none kV9 dc9 pm9 an9 cd9 ct9), sl9⟩) (c9 : PySem.W.codeIn K cd9 "lost" = true) (k9 : PySem.W.keepIn K (.ref f9) = true)
    (a10 : PySem.W.nsIn K mainGlobals "put_in" = some (some (.ref f10))) (l10 : K.lookup f10 = some ⟨oc10, od10, .func (PySem.W.fnOf "put_in" "put_in" (defArgs S_put_in) (defBody S_put_in) (defScope S_put_in) .none kV10 dc10 pm10 an10 cd10 ct10), sl10⟩) (c10 : PySem.W.codeIn K cd10 "put_in" = true) (k10 : PySem.W.keepIn K (.ref f10) = true)
    (a11 : PySem.W.nsIn K mainGlobals "_law_at" = some (some (.ref f11))) (l11 : K.lookup f11 = some ⟨oc11, od11, .func (PySem.W.fnOf "_law_at" "_law_at" (defArgs S_L_at) (defBody S_L_at) (defScope S_L_at) .none kV11 dc11 pm11 an11 cd11 ct11), sl11⟩) (c11 : PySem.W.codeIn K cd11 "_law_at" = true) (k11 : PySem.W.keepIn K (.ref f11) = true)
    (a12 : PySem.W.nsIn K mainGlobals "_law_pot" = some (some (.ref f12))) (l12 : K.lookup f12 = some ⟨oc12, od12, .func (PySem.W.fnOf "_law_pot" "_law_pot" (defArgs S_L_pot) (defBody S_L_pot) (defScope S_L_pot) .none kV12 dc12 pm12 an12 cd12 ct12), sl12⟩) (c12 : PySem.W.codeIn K cd12 "_law_pot" = true) (k12 : PySem.W.keepIn K (.ref f12) = true)
    (a13 : PySem.W.nsIn K mainGlobals "_law_digit" = some (some (.ref f13))) (l13 : K.lookup f13 = some ⟨oc13, od13, .func (PySem.W.fnOf "_law_digit" "_law_digit" (defArgs S_L_digit) (defBody S_L_digit) (defScope S_L_digit) .none kV13 dc13 pm13 an13 cd13 ct13), sl13⟩) (c13 : PySem.W.codeIn K cd13 "_law_digit" = true) (k13 : PySem.W.keepIn K (.ref f13) = true)
    (a14 : PySem.W.nsIn K mainGlobals "_law_long" = some (some (.ref f14))) (l14 : K.lookup f14 = some ⟨oc14, od14, .func (PySem.W.fnOf "_law_long" "_law_long" (defArgs S_L_long) (defBody S_L_long) (defScope S_L_long) .none kV14 dc14 pm14 an14 cd14 ct14), sl14⟩) (c14 : PySem.W.codeIn K cd14 "_law_long" = true) (k14 : PySem.W.keepIn K (.ref f14) = true)
    (a15 : PySem.W.nsIn K mainGlobals "_law_word" = some (some (.ref f15))) (l15 : K.lookup f15 = some ⟨oc15, od15, .func (PySem.W.fnOf "_law_word" "_law_word" (defArgs S_L_word) (defBody S_L_word) (defScope S_L_word) .none kV15 dc15 pm15 an15 cd15 ct15), sl15⟩) (c15 : PySem.W.codeIn K cd15 "_law_word" = true) (k15 : PySem.W.keepIn K (.ref f15) = true)
    (a16 : PySem.W.nsIn K mainGlobals "_law_runny" = some (some (.ref f16))) (l16 : K.lookup f16 = some ⟨oc16, od16, .func (PySem.W.fnOf "_law_runny" "_law_runny" (defArgs S_L_runny) (defBody S_L_runny) (defScope S_L_runny) .none kV16 dc16 pm16 an16 cd16 ct16), sl16⟩) (c16 : PySem.W.codeIn K cd16 "_law_runny" = true) (k16 : PySem.W.keepIn K (.ref f16) = true)
    (a17 : PySem.W.nsIn K mainGlobals "_law_bent" = some (some (.ref f17))) (l17 : K.lookup f17 = some ⟨oc17, od17, .func (PySem.W.fnOf "_law_bent" "_law_bent" (defArgs S_L_bent) (defBody S_L_bent) (defScope S_L_bent) .none kV17 dc17 pm17 an17 cd17 ct17), sl17⟩) (c17 : PySem.W.codeIn K cd17 "_law_bent" = true) (k17 : PySem.W.keepIn K (.ref f17) = true)
    (a18 : PySem.W.nsIn K mainGlobals "_law_two" = some (some (.ref f18))) (l18 : K.lookup f18 = some ⟨oc18, od18, .func (PySem.W.fnOf "_law_two" "_law_two" (defArgs S_L_two) (defBody S_L_two) (defScope S_L_two) .none kV18 dc18 pm18 an18 cd18 ct18), sl18⟩) (c18 : PySem.W.codeIn K cd18 "_law_two" = true) (k18 : PySem.W.keepIn K (.ref f18) = true)
    (a19 : PySem.W.nsIn K mainGlobals "_law_weighted" = some (some (.ref f19))) (l19 : K.lookup f19 = some ⟨oc19, od19, .func (PySem.W.fnOf "_law_weighted" "_law_weighted" (defArgs S_L_weighted) (defBody S_L_weighted) (defScope S_L_weighted) .none kV19 dc19 pm19 an19 cd19 ct19), sl19⟩) (c19 : PySem.W.codeIn K cd19 "_law_weighted" = true) (k19 : PySem.W.keepIn K (.ref f19) = true)
    (a20 : PySem.W.nsIn K mainGlobals "_law_put" = some (some (.ref f20))) (l20 : K.lookup f20 = some ⟨oc20, od20, .func (PySem.W.fnOf "_law_put" "_law_put" (defArgs S_L_put) (defBody S_L_put) (defScope S_L_put) .none kV20 dc20 pm20 an20 cd20 ct20), sl20⟩) (c20 : PySem.W.codeIn K cd20 "_law_put" = true) (k20 : PySem.W.keepIn K (.ref f20) = true)
    (a21 : PySem.W.nsIn K mainGlobals "_law_losses" = some (some (.ref f21))) (l21 : K.lookup f21 = some ⟨oc21, od21, .func (PySem.W.fnOf "_law_losses" "_law_losses" (defArgs S_L_losses) (defBody S_L_losses) (defScope S_L_losses) .none kV21 dc21 pm21 an21 cd21 ct21), sl21⟩) (c21 : PySem.W.codeIn K cd21 "_law_losses" = true) (k21 : PySem.W.keepIn K (.ref f21) = true)
    (a22 : PySem.W.nsIn K mainGlobals "_law_fits" = some (some (.ref f22))) (l22 : K.lookup f22 = some ⟨oc22, od22, .func (PySem.W.fnOf "_law_fits" "_law_fits" (defArgs S_L_fits) (defBody S_L_fits) (defScope S_L_fits) .none kV22 dc22 pm22 an22 cd22 ct22), sl22⟩) (c22 : PySem.W.codeIn K cd22 "_law_fits" = true) (k22 : PySem.W.keepIn K (.ref f22) = true)
    (a23 : PySem.W.nsIn K mainGlobals "_law_led" = some (some (.ref f23))) (l23 : K.lookup f23 = some ⟨oc23, od23, .func (PySem.W.fnOf "_law_led" "_law_led" (defArgs S_L_led) (defBody S_L_led) (defScope S_L_led) .none kV23 dc23 pm23 an23 cd23 ct23), sl23⟩) (c23 : PySem.W.codeIn K cd23 "_law_led" = true) (k23 : PySem.W.keepIn K (.ref f23) = true)
    (a24 : PySem.W.nsIn K mainGlobals "_law_member" = some (some (.ref f24))) (l24 : K.lookup f24 = some ⟨oc24, od24, .func (PySem.W.fnOf "_law_member" "_law_member" (defArgs S_L_member) (defBody S_L_member) (defScope S_L_member) .none kV24 dc24 pm24 an24 cd24 ct24), sl24⟩) (c24 : PySem.W.codeIn K cd24 "_law_member" = true) (k24 : PySem.W.keepIn K (.ref f24) = true)
    (a25 : PySem.W.nsIn K mainGlobals "law" = some (some (.ref f25))) (l25 : K.lookup f25 = some ⟨oc25, od25, .func (PySem.W.fnOf "law" "law" (defArgs S_law) (defBody S_law) (defScope S_law) .none kV25 dc25 pm25 an25 cd25 ct25), sl25⟩) (c25 : PySem.W.codeIn K cd25 "law" = true) (k25 : PySem.W.keepIn K (.ref f25) = true)
    (z_all : PySem.W.nsIn K mainGlobals "all" = some none)
    (z_bool : PySem.W.nsIn K mainGlobals "bool" = some none)
    (z_enumerate : PySem.W.nsIn K mainGlobals "enumerate" = some none)
    (z_int : PySem.W.nsIn K mainGlobals "int" = some none)
    (z_isinstance : PySem.W.nsIn K mainGlobals "isinstance" = some none)
    (z_len : PySem.W.nsIn K mainGlobals "len" = some none)
    (z_max : PySem.W.nsIn K mainGlobals "max" = some none)
    (z_min : PySem.W.nsIn K mainGlobals "min" = some none)
    (z_range : PySem.W.nsIn K mainGlobals "range" = some none)
    (z_reversed : PySem.W.nsIn K mainGlobals "reversed" = some none)
    (z_set : PySem.W.nsIn K mainGlobals "set" = some none)
    (z_sorted : PySem.W.nsIn K mainGlobals "sorted" = some none)
    (z_sum : PySem.W.nsIn K mainGlobals "sum" = some none)
    (z_tuple : PySem.W.nsIn K mainGlobals "tuple" = some none)
    (c_LEAST_SIGNS : PySem.W.nsIn K mainGlobals "LEAST_SIGNS" = some (some (.int 2 t_LEAST_SIGNS)))
    (c_MOST_LENGTH : PySem.W.nsIn K mainGlobals "MOST_LENGTH" = some (some (.int 60 t_MOST_LENGTH)))
    (c_MOST_SIGNS : PySem.W.nsIn K mainGlobals "MOST_SIGNS" = some (some (.int 36 t_MOST_SIGNS))) :
    ∃ fd : FuncData, (∀ (s : Shared) (v : Value), BindsTo s fd ⟨[v], []⟩ [("_law_script", v)]) ∧ ∀ base : Heap, K.In base → base.Ns mainGlobals mg → FnOk l.prog w K mg base CX0 6 fa fd ["_law_script"] (sp_law K) := by
  have e := hfa.symm.trans (PySem.W.mg_of X G a25)
  cases e
  have F0 := fun_mk (st := S_is_number) l0 c0 k0
  have b0 := F0.binds (ps := ["thing"]) fun _ _ _ _ _ _ us hl => match us, hl with | [_], _ => rfl
  have F1 := fun_mk (st := S_want_count) l1 c1 k1
  have b1 := F1.binds (ps := ["q"]) fun _ _ _ _ _ _ us hl => match us, hl with | [_], _ => rfl
  have F2 := fun_mk (st := S_is_sign) l2 c2 k2
  have b2 := F2.binds (ps := ["q", "thing"]) fun _ _ _ _ _ _ us hl => match us, hl with | [_, _], _ => rfl
  have F3 := fun_mk (st := S_want_word) l3 c3 k3
  have b3 := F3.binds (ps := ["q", "word"]) fun _ _ _ _ _ _ us hl => match us, hl with | [_, _], _ => rfl
  have F4 := fun_mk (st := S_lengths_from) l4 c4 k4
  have b4 := F4.binds (ps := ["one", "other"]) fun _ _ _ _ _ _ us hl => match us, hl with | [_, _], _ => rfl
  have F5 := fun_mk (st := S_first_sign) l5 c5 k5
  have b5 := F5.binds (ps := ["one", "other", "lengths", "i", "j"]) fun _ _ _ _ _ _ us hl => match us, hl with | [_, _, _, _, _], _ => rfl
  have F6 := fun_mk (st := S_common_row) l6 c6 k6
  have b6 := F6.binds (ps := ["one", "other"]) fun _ _ _ _ _ _ us hl => match us, hl with | [_, _], _ => rfl
  have F7 := fun_mk (st := S_nearness) l7 c7 k7
  have b7 := F7.binds (ps := ["one", "other"]) fun _ _ _ _ _ _ us hl => match us, hl with | [_, _], _ => rfl
  have F8 := fun_mk (st := S_want_place) l8 c8 k8
  have b8 := F8.binds (ps := ["k", "most"]) fun _ _ _ _ _ _ us hl => match us, hl with | [_, _], _ => rfl
  have F9 := fun_mk (st := S_lost) l9 c9 k9
  have b9 := F9.binds (ps := ["q", "word", "k"]) fun _ _ _ _ _ _ us hl => match us, hl with | [_, _, _], _ => rfl
  have F10 := fun_mk (st := S_put_in) l10 c10 k10
  have b10 := F10.binds (ps := ["q", "word", "k", "sign"]) fun _ _ _ _ _ _ us hl => match us, hl with | [_, _, _, _], _ => rfl
  have F11 := fun_mk (st := S_L_at) l11 c11 k11
  have b11 := F11.binds (ps := ["_law_script", "_law_k"]) fun _ _ _ _ _ _ us hl => match us, hl with | [_, _], _ => rfl
  have F12 := fun_mk (st := S_L_pot) l12 c12 k12
  have b12 := F12.binds (ps := ["_law_script", "_law_k"]) fun _ _ _ _ _ _ us hl => match us, hl with | [_, _], _ => rfl
  have F13 := fun_mk (st := S_L_digit) l13 c13 k13
  have b13 := F13.binds (ps := ["_law_pot_here", "_law_base"]) fun _ _ _ _ _ _ us hl => match us, hl with | [_, _], _ => rfl
  have F14 := fun_mk (st := S_L_long) l14 c14 k14
  have b14 := F14.binds (ps := ["_law_pot_here", "_law_q", "_law_n"]) fun _ _ _ _ _ _ us hl => match us, hl with | [_, _, _], _ => rfl
  have F15 := fun_mk (st := S_L_word) l15 c15 k15
  have b15 := F15.binds (ps := ["_law_pot_here", "_law_q", "_law_most"]) fun _ _ _ _ _ _ us hl => match us, hl with | [_, _, _], _ => rfl
  have F16 := fun_mk (st := S_L_runny) l16 c16 k16
  have b16 := F16.binds (ps := ["_law_pot_here", "_law_q", "_law_most"]) fun _ _ _ _ _ _ us hl => match us, hl with | [_, _, _], _ => rfl
  have F17 := fun_mk (st := S_L_bent) l17 c17 k17
  have b17 := F17.binds (ps := ["_law_pot_here", "_law_q", "_law_word_here"]) fun _ _ _ _ _ _ us hl => match us, hl with | [_, _, _], _ => rfl
  have F18 := fun_mk (st := S_L_two) l18 c18 k18
  have b18 := F18.binds (ps := ["_law_script", "_law_most"]) fun _ _ _ _ _ _ us hl => match us, hl with | [_, _], _ => rfl
  have F19 := fun_mk (st := S_L_weighted) l19 c19 k19
  have b19 := F19.binds (ps := ["_law_word_here"]) fun _ _ _ _ _ _ us hl => match us, hl with | [_], _ => rfl
  have F20 := fun_mk (st := S_L_put) l20 c20 k20
  have b20 := F20.binds (ps := ["_law_q", "_law_word_here"]) fun _ _ _ _ _ _ us hl => match us, hl with | [_, _], _ => rfl
  have F21 := fun_mk (st := S_L_losses) l21 c21 k21
  have b21 := F21.binds (ps := ["_law_word_here", "_law_row"]) fun _ _ _ _ _ _ us hl => match us, hl with | [_, _], _ => rfl
  have F22 := fun_mk (st := S_L_fits) l22 c22 k22
  have b22 := F22.binds (ps := ["_law_row", "_law_word_here"]) fun _ _ _ _ _ _ us hl => match us, hl with | [_, _], _ => rfl
  have F23 := fun_mk (st := S_L_led) l23 c23 k23
  have b23 := F23.binds (ps := ["_law_one", "_law_other"]) fun _ _ _ _ _ _ us hl => match us, hl with | [_, _], _ => rfl
  have F24 := fun_mk (st := S_L_member) l24 c24 k24
  have b24 := F24.binds (ps := ["_law_n", "_law_a", "_law_short"]) fun _ _ _ _ _ _ us hl => match us, hl with | [_, _, _], _ => rfl
  have F25 := fun_mk (st := S_law) l25 c25 k25
  have b25 := F25.binds (ps := ["_law_script"]) fun _ _ _ _ _ _ us hl => match us, hl with | [_], _ => rfl
  exact ⟨PySem.W.fnOf "law" "law" (defArgs S_law) (defBody S_law) (defScope S_law) .none kV25 dc25 pm25 an25 cd25 ct25, fun s v => .of_eq rfl, fun base _ _ =>
    all_ok (P := l.prog) (w := w) (base := base) (T := {
      a_is_number := f0, fd_is_number := _, g_is_number := PySem.W.mg_of X G a0, F_is_number := F0, b_is_number := b0,
      a_want_count := f1, fd_want_count := _, g_want_count := PySem.W.mg_of X G a1, F_want_count := F1, b_want_count := b1,
      a_is_sign := f2, fd_is_sign := _, g_is_sign := PySem.W.mg_of X G a2, F_is_sign := F2, b_is_sign := b2,
      a_want_word := f3, fd_want_word := _, g_want_word := PySem.W.mg_of X G a3, F_want_word := F3, b_want_word := b3,
      a_lengths_from := f4, fd_lengths_from := _, g_lengths_from := PySem.W.mg_of X G a4, F_lengths_from := F4, b_lengths_from := b4,
      a_first_sign := f5, fd_first_sign := _, g_first_sign := PySem.W.mg_of X G a5, F_first_sign := F5, b_first_sign := b5,
      a_common_row := f6, fd_common_row := _, g_common_row := PySem.W.mg_of X G a6, F_common_row := F6, b_common_row := b6,
      a_nearness := f7, fd_nearness := _, g_nearness := PySem.W.mg_of X G a7, F_nearness := F7, b_nearness := b7,
      a_want_place := f8, fd_want_place := _, g_want_place := PySem.W.mg_of X G a8, F_want_place := F8, b_want_place := b8,
      a_lost := f9, fd_lost := _, g_lost := PySem.W.mg_of X G a9, F_lost := F9, b_lost := b9,
      a_put_in := f10, fd_put_in := _, g_put_in := PySem.W.mg_of X G a10, F_put_in := F10, b_put_in := b10,
      a_L_at := f11, fd_L_at := _, g_L_at := PySem.W.mg_of X G a11, F_L_at := F11, b_L_at := b11,
      a_L_pot := f12, fd_L_pot := _, g_L_pot := PySem.W.mg_of X G a12, F_L_pot := F12, b_L_pot := b12,
      a_L_digit := f13, fd_L_digit := _, g_L_digit := PySem.W.mg_of X G a13, F_L_digit := F13, b_L_digit := b13,
      a_L_long := f14, fd_L_long := _, g_L_long := PySem.W.mg_of X G a14, F_L_long := F14, b_L_long := b14,
      a_L_word := f15, fd_L_word := _, g_L_word := PySem.W.mg_of X G a15, F_L_word := F15, b_L_word := b15,
      a_L_runny := f16, fd_L_runny := _, g_L_runny := PySem.W.mg_of X G a16, F_L_runny := F16, b_L_runny := b16,
      a_L_bent := f17, fd_L_bent := _, g_L_bent := PySem.W.mg_of X G a17, F_L_bent := F17, b_L_bent := b17,
      a_L_two := f18, fd_L_two := _, g_L_two := PySem.W.mg_of X G a18, F_L_two := F18, b_L_two := b18,
      a_L_weighted := f19, fd_L_weighted := _, g_L_weighted := PySem.W.mg_of X G a19, F_L_weighted := F19, b_L_weighted := b19,
      a_L_put := f20, fd_L_put := _, g_L_put := PySem.W.mg_of X G a20, F_L_put := F20, b_L_put := b20,
      a_L_losses := f21, fd_L_losses := _, g_L_losses := PySem.W.mg_of X G a21, F_L_losses := F21, b_L_losses := b21,
      a_L_fits := f22, fd_L_fits := _, g_L_fits := PySem.W.mg_of X G a22, F_L_fits := F22, b_L_fits := b22,
      a_L_led := f23, fd_L_led := _, g_L_led := PySem.W.mg_of X G a23, F_L_led := F23, b_L_led := b23,
      a_L_member := f24, fd_L_member := _, g_L_member := PySem.W.mg_of X G a24, F_L_member := F24, b_L_member := b24,
      a_law := fa, fd_law := _, g_law := PySem.W.mg_of X G a25, F_law := F25, b_law := b25,
      z_all := PySem.W.mg_none_of X G z_all,
      z_bool := PySem.W.mg_none_of X G z_bool,
      z_enumerate := PySem.W.mg_none_of X G z_enumerate,
      z_int := PySem.W.mg_none_of X G z_int,
      z_isinstance := PySem.W.mg_none_of X G z_isinstance,
      z_len := PySem.W.mg_none_of X G z_len,
      z_max := PySem.W.mg_none_of X G z_max,
      z_min := PySem.W.mg_none_of X G z_min,
      z_range := PySem.W.mg_none_of X G z_range,
      z_reversed := PySem.W.mg_none_of X G z_reversed,
      z_set := PySem.W.mg_none_of X G z_set,
      z_sorted := PySem.W.mg_none_of X G z_sorted,
      z_sum := PySem.W.mg_none_of X G z_sum,
      z_tuple := PySem.W.mg_none_of X G z_tuple,
      t_LEAST_SIGNS := t_LEAST_SIGNS, c_LEAST_SIGNS := PySem.W.mg_of X G c_LEAST_SIGNS,
      t_MOST_LENGTH := t_MOST_LENGTH, c_MOST_LENGTH := PySem.W.mg_of X G c_MOST_LENGTH,
      t_MOST_SIGNS := t_MOST_SIGNS, c_MOST_SIGNS := PySem.W.mg_of X G c_MOST_SIGNS })⟩
end LW
open PySem PySem.W PyProof.Rows in
set_option maxRecDepth 100000 in
set_option maxHeartbeats 0 in
theorem PySem.Challenge.cw_lostmark_k83_whole_nearness_holds : PySem.Challenge.rw_lostmark_k83_whole_nearness.Holds := by
  w_on; o_law; k_head; (case hw => w_witness2)
  k_fill
  refine L2.walk_ofK (n := 63) (k := 6) (x := "_law_script") (CX := L2.CX0) (sp := LW.sp_law) rfl (by decide) rfl ⟨rfl, by decide, by decide⟩ (fun w h Y => PySem.W.kIn_of Y) ?F (fun K H a ns hl _ hS => ⟨a, ns, rfl, hS, hl, fun _ => rfl⟩) (fun _ _ _ _ z => z)
  case F =>
    intro w mg fa h KX G hmg
    refine' LW.all_mk KX G hmg ?a0 ?l0 ?c0 ?k0 ?a1 ?l1 ?c1 ?k1 ?a2 ?l2 ?c2 ?k2 ?a3 ?l3 ?c3 ?k3 ?a4 ?l4 ?c4 ?k4 ?a5 ?l5 ?c5 ?k5 ?a6 ?l6 ?c6 ?k6 ?a7 ?l7 ?c7 ?k7 ?a8 ?l8 ?c8 ?k8 ?a9 ?l9 ?c9 ?k9 ?a10 ?l10 ?c10 ?k10 ?a11 ?l11 ?c11 ?k11 ?a12 ?l12 ?c12 ?k12 ?a13 ?l13 ?c13 ?k13 ?a14 ?l14 ?c14 ?k14 ?a15 ?l15 ?c15 ?k15 ?a16 ?l16 ?c16 ?k16 ?a17 ?l17 ?c17 ?k17 ?a18 ?l18 ?c18 ?k18 ?a19 ?l19 ?c19 ?k19 ?a20 ?l20 ?c20 ?k20 ?a21 ?l21 ?c21 ?k21 ?a22 ?l22 ?c22 ?k22 ?a23 ?l23 ?c23 ?k23 ?a24 ?l24 ?c24 ?k24 ?a25 ?l25 ?c25 ?k25 ?z_all ?z_bool ?z_enumerate ?z_int ?z_isinstance ?z_len ?z_max ?z_min ?z_range ?z_reversed ?z_set ?z_sorted ?z_sum ?z_tuple ?c_LEAST_SIGNS ?c_MOST_LENGTH ?c_MOST_SIGNS
    (case a0 => k_is)
    (case l0 => k_is)
    (case c0 => k_is)
    (case k0 => k_is)
    (case a1 => k_is)
    (case l1 => k_is)
    (case c1 => k_is)
    (case k1 => k_is)
    (case a2 => k_is)
    (case l2 => k_is)
    (case c2 => k_is)
    (case k2 => k_is)
    (case a3 => k_is)
    (case l3 => k_is)
    (case c3 => k_is)
    (case k3 => k_is)
    (case a4 => k_is)
    (case l4 => k_is)
    (case c4 => k_is)
    (case k4 => k_is)
    (case a5 => k_is)
    (case l5 => k_is)
    (case c5 => k_is)
    (case k5 => k_is)
    (case a6 => k_is)
    (case l6 => k_is)
    (case c6 => k_is)
    (case k6 => k_is)
    (case a7 => k_is)
    (case l7 => k_is)
    (case c7 => k_is)
    (case k7 => k_is)
    (case a8 => k_is)
    (case l8 => k_is)
    (case c8 => k_is)
    (case k8 => k_is)
    (case a9 => k_is)
    (case l9 => k_is)
    (case c9 => k_is)
    (case k9 => k_is)
    (case a10 => k_is)
    (case l10 => k_is)
    (case c10 => k_is)
    (case k10 => k_is)
    (case a11 => k_is)
    (case l11 => k_is)
    (case c11 => k_is)
    (case k11 => k_is)
    (case a12 => k_is)
    (case l12 => k_is)
    (case c12 => k_is)
    (case k12 => k_is)
    (case a13 => k_is)
    (case l13 => k_is)
    (case c13 => k_is)
    (case k13 => k_is)
    (case a14 => k_is)
    (case l14 => k_is)
    (case c14 => k_is)
    (case k14 => k_is)
    (case a15 => k_is)
    (case l15 => k_is)
    (case c15 => k_is)
    (case k15 => k_is)
    (case a16 => k_is)
    (case l16 => k_is)
    (case c16 => k_is)
    (case k16 => k_is)
    (case a17 => k_is)
    (case l17 => k_is)
    (case c17 => k_is)
    (case k17 => k_is)
    (case a18 => k_is)
    (case l18 => k_is)
    (case c18 => k_is)
    (case k18 => k_is)
    (case a19 => k_is)
    (case l19 => k_is)
    (case c19 => k_is)
    (case k19 => k_is)
    (case a20 => k_is)
    (case l20 => k_is)
    (case c20 => k_is)
    (case k20 => k_is)
    (case a21 => k_is)
    (case l21 => k_is)
    (case c21 => k_is)
    (case k21 => k_is)
    (case a22 => k_is)
    (case l22 => k_is)
    (case c22 => k_is)
    (case k22 => k_is)
    (case a23 => k_is)
    (case l23 => k_is)
    (case c23 => k_is)
    (case k23 => k_is)
    (case a24 => k_is)
    (case l24 => k_is)
    (case c24 => k_is)
    (case k24 => k_is)
    (case a25 => k_is)
    (case l25 => k_is)
    (case c25 => k_is)
    (case k25 => k_is)
    (case z_all => k_is)
    (case z_bool => k_is)
    (case z_enumerate => k_is)
    (case z_int => k_is)
    (case z_isinstance => k_is)
    (case z_len => k_is)
    (case z_max => k_is)
    (case z_min => k_is)
    (case z_range => k_is)
    (case z_reversed => k_is)
    (case z_set => k_is)
    (case z_sorted => k_is)
    (case z_sum => k_is)
    (case z_tuple => k_is)
    (case c_LEAST_SIGNS => k_is)
    (case c_MOST_LENGTH => k_is)
    (case c_MOST_SIGNS => k_is)
#print axioms PySem.Challenge.cw_lostmark_k83_whole_nearness_holds
