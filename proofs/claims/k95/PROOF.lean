import PyProof.Rows.All
import Wide.All
import OpenK.AllK
import Wide.FinOn
import HandS.ForMost
import HandS.Evl
import HandS.IsInst
import HandS.TupAny
import HandS.TupMul
import HandS.Walk
import HandS.Zip
import HandS.Rev
import HandS.Conv
import HandS.More
import KE.KTupSum
import HandS.Wide
import HandS.Style
import HandS.Set
import HandS.SetFor
import HandS.TupLe
import HandS.Deep
import HandS.TupSets
import HandS.SortOrd
import HandS.TupLen
import PyProof.Draws
import PyProof.EnumMake
import KE.KDictDisplayH
import KE.LtData
import KE.DataCmp
import HandS.RevRange
import PyProof.Rows.ReprOcc
import HandS.Replace
import KE.GoesZip
import KE.GoesMore
import KE.GoesEnum
import HandS.FStr
import HandS.Text
import PySem.Challenge.RW_lostmark_k95_whole_through_texts
set_option Elab.async false
set_option linter.all false
set_option maxRecDepth 100000
set_option maxHeartbeats 2000000
/-! general layer: rules of many kinds at once, steps of readings -/
namespace LM
open PySem PySem.Spec PyProof.Rows L2

/-! ### heaps -/
abbrev Ex := Evl.Ex
/-- all but p stands -/
def ExB (p : Addr) (H H' : Hp) : Prop := ∀ a o, a ≠ p → H a = some o → H' a = some o
theorem ExB.of {p : Addr} {H H' : Hp} (e : Ex H H') : ExB p H H' := fun a o _ h => e a o h
theorem ExB.trans {p : Addr} {H H1 H2 : Hp} (e : ExB p H H1) (e2 : ExB p H1 H2) : ExB p H H2 := fun a o n h => e2 a o n (e a o n h)
theorem ExB.refl {p : Addr} {H : Hp} : ExB p H H := fun _ _ _ h => h
theorem ExB.upd {p : Addr} {H : Hp} {o : HO} : ExB p H (upd H p o) := fun a u n h => by rw [upd_ne n]; exact h
theorem ExB.ex {p : Addr} {H H1 H2 : Hp} (e : ExB p H H1) (e2 : Ex H1 H2) : ExB p H H2 := fun a o n h => e2 a o (e a o n h)
theorem exExB {p : Addr} {H H1 H2 : Hp} (e : Ex H H1) (e2 : ExB p H1 H2) : ExB p H H2 := fun a o n h => e2 a o n (e a o h)
/-- a p that the first heap does not know -/
theorem ExB.new {p : Addr} {H H1 H2 : Hp} (e : Ex H H1) (e2 : ExB p H1 H2) (n : H p = none) : Ex H H2 := fun a o h => e2 a o (ne_of_none h n) (e a o h)
theorem exB_rd {p a : Addr} {H H' : Hp} {u : HO} {ys : List V} (e : ExB p H H') (hp : H p = some (.lst ys)) (hu : ∀ zs, u ≠ .lst zs) (h : Rd H a u) : Rd H' a u := by
  rcases h with h | ⟨o, h⟩
  · exact .inl (e _ _ (fun z => by subst z; rw [hp] at h; exact hu ys (Option.some.inj h).symm) h)
  · exact .inr ⟨o, e _ _ (fun z => by subst z; rw [hp] at h; cases h) h⟩
theorem exB_t {K : PySem.W.Frag} {p a : Addr} {H H' : Hp} {xs ys : List V} (e : ExB p H H') (hp : H p = some (.lst ys)) (h : SqT K H a xs) : SqT K H' a xs := by
  rcases h with h | h
  · exact .inl (exB_rd e hp (fun _ z => by cases z) h)
  · exact .inr h
theorem exB_l {K : PySem.W.Frag} {p a : Addr} {H H' : Hp} {xs : List V} (e : ExB p H H') (hn : a ≠ p) (h : SqL K H a xs) : SqL K H' a xs := by
  rcases h with (h | ⟨o, h⟩) | h
  · exact .inl (.inl (e _ _ hn h))
  · exact .inl (.inr ⟨o, e _ _ hn h⟩)
  · exact .inr h
theorem ne_l {p a : Addr} {H : Hp} {o : HO} (h : H a = some o) (n : H p = none) : a ≠ p := ne_of_none h n
theorem exH {H H' : Hp} {a : Addr} {o : HO} (e : Ex H H') (h : H a = some o) : H' a = some o := e a o h
theorem exBH {p : Addr} {H H' : Hp} {a : Addr} {o : HO} (e : ExB p H H') (n : a ≠ p) (h : H a = some o) : H' a = some o := e a o n h

/-! ### new objects -/
def newT (Q : VK) (xs : List V) (H : Hp) : Prop := xs.length ≤ sizeLine ∧ ∀ p, H p = none → Q (.ref p) (upd H p (.tup xs))
def newL (Q : VK) (xs : List V) (H : Hp) : Prop := xs.length ≤ sizeLine ∧ ∀ p, H p = none → Q (.ref p) (upd H p (.lst xs))
theorem sz {n : Nat} (h : n ≤ 100000) : n ≤ sizeLine := Nat.le_trans h (by decide)
theorem szl {n : Nat} (h : n < 100000) : n < sizeLine := Nat.lt_of_lt_of_le h (by decide)

/-! ### operators of many kinds -/
def rAddP (K : PySem.W.Frag) : R2 := fun x y H Q => rI0 (fun i j => .int (i + j)) x y H Q ∨ rCatA K x y H Q ∨ rCat x y H Q ∨ ∃ i j, x = .str i ∧ y = .str j ∧ i.length + j.length ≤ sizeLine ∧ Q (.str (i ++ j)) H
def rSubP : R2 := rI0 fun i j => .int (i - j)
def rModP : R2 := rI (fun _ j => 0 < j) fun i j => .int (i % j)
def rDivP : R2 := rI CDivW fun i j => .int (i / j)
def rPowP : R2 := rI CPow fun i j => .int (i ^ j.toNat)
def rLtP : R2 := rI0 fun i j => .bl (decide (i < j))
def rLeP : R2 := rI0 fun i j => .bl (decide (i ≤ j))
def rGtP : R2 := rI0 fun i j => .bl (decide (j < i))
def rGeP : R2 := rI0 fun i j => .bl (decide (j ≤ i))
def rEqP (K : PySem.W.Frag) : R2 := fun x y H Q => rEq x y H Q ∨ rEqD K x y H Q
def rNeP (K : PySem.W.Frag) : R2 := fun x y H Q => rNe x y H Q ∨ rNeD K x y H Q
def rRep1 (K : PySem.W.Frag) : R2 := fun x y H Q => ∃ l k xs, x = .ref l ∧ y = .int k ∧ SqT K H l xs ∧ k = 1 ∧ Q (.ref l) H
def rMulP (K : PySem.W.Frag) : R2 := fun x y H Q => rI CMul (fun i j => .int (i * j)) x y H Q ∨ rRep1 K x y H Q ∨ rRepT K x y H Q ∨ rRep x y H Q
def rLenP (K : PySem.W.Frag) : List V → Hp → VK → Prop := fun xs H Q => ∃ x n, xs = [x] ∧ LenV K x H n ∧ Q (.int (n : Nat)) H
def rAbsP : List V → Hp → VK → Prop := fun xs H Q => ∃ i, xs = [.int i] ∧ Q (.int (if i < 0 then -i else i)) H
def rMax2P : List V → Hp → VK → Prop := fun xs H Q => ∃ i j, xs = [.int i, .int j] ∧ Q (.int (if j > i then j else i)) H
def rMin2P : List V → Hp → VK → Prop := fun xs H Q => ∃ i j, xs = [.int i, .int j] ∧ Q (.int (if j < i then j else i)) H
def rTupOf (K : PySem.W.Frag) : List V → Hp → VK → Prop := fun xs H Q => ∃ p ys, xs = [.ref p] ∧ ((SqL K H p ys ∧ ∀ l, H l = none → Q (.ref l) (upd H l (.tup ys))) ∨ (SqT K H p ys ∧ Q (.ref p) H))
def rListOf (K : PySem.W.Frag) : List V → Hp → VK → Prop := fun xs H Q => ∃ p ys, xs = [.ref p] ∧ (SqL K H p ys ∨ SqT K H p ys) ∧ ∀ l, H l = none → Q (.ref l) (upd H l (.lst ys))
def rSlP (K : PySem.W.Frag) : V → Option Int → Option Int → Hp → VK → Prop := fun x lo hi H Q => rSlL K x lo hi H Q ∨ rSlA K x lo hi H Q
section
variable {X : Cx}
theorem tuple_mul1 (l : Addr) (items : Array Value) (n : Nat) (dd : Option Addr) (sl : Array (Option Value)) (u : Tok) :
    Meets (Builtin.«tuple.__mul__» ⟨[.ref l, .int 1 u], []⟩) (fun _ R s => s.heap.get? l = some { cls := .type "tuple", dict := dd, data := .seq items n, slots := sl } ∧
      R (.ok (.ret (Value.ref l))) s) :=
  .of_wp fun prog w A R s h => by
    obtain ⟨hp, g, d, tk, os⟩ := s
    obtain ⟨hl, h⟩ := h
    have f1 := AutoSeq1.idx_int
    have c0 : (decide ((1 : Int) < -(2 ^ 63)) || decide ((1 : Int) ≥ 2 ^ 63)) = false := by decide
    have c1 : (items.isEmpty || (1 : Int) == 1) = true := by simp
    wp_walk using wpAny_loadPart' hl
    repeat (first
      | (refine wpAny_ite_false (decide_eq_false (by rw [c0]; exact Bool.false_ne_true)) ?_; wp_walk using wpAny_loadPart' hl)
      | (refine wpAny_ite_true (decide_eq_true (by rw [c1])) ?_; wp_walk using wpAny_loadPart' hl))
    exact ⟨_, rfl, h⟩
theorem op_rep1 : OpR X (binaryOp .Mult) (rRep1 X.K) := by
  intro pins s σ H x y v u Q I rx ry h
  obtain ⟨l, k, xs, rfl, rfl, hT, rfl, q⟩ := h
  cases rx
  obtain ⟨t, rfl⟩ := ry
  obtain ⟨its, r, ⟨⟨cls, dd, data, sl⟩, ho, hc, n, hd⟩, hs⟩ := I.tuple hT
  simp only at hc hd
  subst hc hd
  refine wpAny_binaryOp_repeat_ref (T := "tuple") (U := "int") (by decide) ⟨_, ho, rfl⟩ (fun s' => typeIs_int s' 1 t) noFill_tuple_mul F.fills_int_mul F.slot_int_rmul repeat_tuple F.slot_int_index.lookup
    (call_meets F.slot_int_rmul (typeIs_int s 1 t) F.entry_int_rmul (F.args_int_rmul_2 _ _) (int_rmul_tuple 1 t l its.toArray n dd sl)
      ⟨ho, rfl, ⟨_, ho, rfl⟩, call_meets F.slot_tuple_mul ⟨_, ho, rfl⟩ F.entry_tuple_mul (F.args_tuple_mul_2 _ _) (tuple_mul1 l its.toArray n dd sl t) ⟨ho, ?_⟩⟩)
  exact ⟨.ref l, H, I, rfl, q⟩
theorem op_addP : OpR X (binaryOp .Add) (rAddP X.K) := op_add.or (op_catA.or (op_cat.or op_add_str))
theorem op_subP : OpR X (binaryOp .Sub) rSubP := op_sub
theorem op_modP : OpR X (binaryOp .Mod) rModP := op_mod
theorem op_divP : OpR X (binaryOp .FloorDiv) rDivP := op_fdivW
theorem op_powP : OpR X (binaryOp .Pow) rPowP := op_pow
theorem op_mulP : OpR X (binaryOp .Mult) (rMulP X.K) := op_mul.or (op_rep1.or (op_repT.or op_rep))
theorem op_ltP : OpR X (compareOp .Lt) rLtP := op_lt
theorem op_leP : OpR X (compareOp .LtE) rLeP := op_le
theorem op_gtP : OpR X (compareOp .Gt) rGtP := op_gt
theorem op_geP : OpR X (compareOp .GtE) rGeP := op_ge
theorem op_eqP (hu : X.A.units + 64 < cLine) : OpR X (compareOp .Eq) (rEqP X.K) := op_eq.or (op_eqD hu)
theorem op_neP (hu : X.A.units + 64 < cLine) : OpR X (compareOp .NotEq) (rNeP X.K) := op_ne.or (op_neD hu)
theorem call_lenP : CallR X (.builtin "len") (rLenP X.K) := call_len
theorem call_absP : CallR X (.builtin "abs") rAbsP := call_abs
theorem call_max2P (hc : X.calm = true) : CallR X (.builtin "max") rMax2P := call_max2 hc
theorem call_min2P (hc : X.calm = true) : CallR X (.builtin "min") rMin2P := call_min2 hc
theorem call_tupOf : CallR X (.type "tuple") (rTupOf X.K) := call_tuple_of
theorem call_listOf : CallR X (.type "list") (rListOf X.K) := call_list_of
theorem sl_P : SlR X (rSlP X.K) := sl_list.or sl_tupA
/-- a walk over a list or a tuple -/
def iSeq (K : PySem.W.Frag) (tl : TE) : TI := fun σ H R => tl σ H fun x H1 => ∃ a, x = .ref a ∧ ((∃ xs, SqL K H1 a xs ∧ R (Itl K a) H1) ∨ (∃ xs, SqT K H1 a xs ∧ R (Itt K a) H1))
theorem pi_seq {tg l : Expr} {tl : TE} (hl : PE X l tl) : PI X tg l (iSeq X.K tl) := by
  refine ⟨fun pins s σ H R I h => ?_⟩
  refine thn (hl.run pins s σ H _ I h) fun v s1 ⟨x, H1, I1, r1, q1⟩ => ?_
  obtain ⟨a, e, q⟩ := q1
  subst e
  cases r1
  rcases q with ⟨xs, hq, q⟩ | ⟨xs, hq, q⟩
  · obtain ⟨its, rv, p, hz⟩ := I1.list hq
    refine wpAny_pyIter_list p.isList ?_
    refine ⟨s1.heap.objs.size, [s1.heap.objs.size], _, _, H1, rfl, I1.kept (t' := s1.toks) fun b o e => Heap.get?_push_of_some _ e, turn_list a _, ⟨_, Heap.get?_push_size _ rfl, rfl, rfl⟩, fun b hb => ?_, q⟩
    have e : b = s1.heap.objs.size := by simpa using hb
    subst e
    exact I1.fpOk (Nat.le_refl _) (I1.hok.fresh (Nat.le_refl _))
  · obtain ⟨its, rv, p, hz⟩ := I1.tuple hq
    refine wpAny_pyIter_tuple (show s1.heap.IsTuple a its.toArray from p) ?_
    refine ⟨s1.heap.objs.size, [s1.heap.objs.size], _, _, H1, rfl, I1.kept (t' := s1.toks) fun b o e => Heap.get?_push_of_some _ e, turn_tuple a _, ⟨_, Heap.get?_push_size _ rfl, rfl, rfl⟩, fun b hb => ?_, q⟩
    have e : b = s1.heap.objs.size := by simpa using hb
    subst e
    exact I1.fpOk (Nat.le_refl _) (I1.hok.fresh (Nat.le_refl _))
end

/-! ### steps of readings -/
section
variable {K : PySem.W.Frag} {σ : L2.St} {H : Hp} {Q : VK} {ta tb tc te : TE} {D : Ends} {t u : TS} {ct : TT}
theorem w_var {i : Nat} {v : V} (h : σ[i]? = some (some v)) (k : Q v H) : tVar i σ H Q := ⟨v, h, k⟩
theorem w_c {v : V} (k : Q v H) : tC v σ H Q := k
theorem w_op {r : R2} (k : ta σ H fun x H1 => tb σ H1 fun y H2 => r x y H2 Q) : tOp r ta tb σ H Q := k
theorem w_un {r : V → Hp → VK → Prop} (k : ta σ H fun x H1 => r x H1 Q) : tUn r ta σ H Q := k
theorem w_chain {r r' : R2} (k : ta σ H fun x H1 => tb σ H1 fun y H2 => r x y H2 fun z H3 => ∃ k, z = .bl k ∧ (if k = true then tc σ H3 fun w' H4 => r' y w' H4 Q else Q (.bl false) H3)) : tChain r r' ta tb tc σ H Q := k
theorem w_cons {tr : TA} {Q : List V → Hp → Prop} (k : ta σ H fun x H1 => tr σ H1 fun xs H2 => Q (x :: xs) H2) : tCons ta tr σ H Q := k
theorem w_nil {Q : List V → Hp → Prop} (k : Q [] H) : tNil σ H Q := k
theorem w_cb {r : List V → Hp → VK → Prop} {t : TA} (k : t σ H fun vs H1 => r vs H1 Q) : tCB r t σ H Q := k
theorem w_call {sp : Sp} {E : XK} {t : TA} (k : t σ H fun vs H1 => sp (vs ++ []) H1 Q E) : tCall sp [] E t σ H Q := k
theorem w_tup {t : TA} (k : t σ H fun xs H1 => newT Q xs H1) : tTup t σ H Q := k
theorem w_lst {t : TA} (k : t σ H fun xs H1 => newL Q xs H1) : tLst t σ H Q := k
theorem w_newT {xs : List V} (hz : xs.length ≤ 100000) (k : ∀ p H2, H p = none → Ex H H2 → H2 p = some (.tup xs) → Q (.ref p) H2) : newT Q xs H := ⟨sz hz, fun p hp => k p _ hp (Evl.Ex.new hp) upd_same⟩
theorem w_newL {xs : List V} (hz : xs.length ≤ 100000) (k : ∀ p H2, H p = none → Ex H H2 → H2 p = some (.lst xs) → Q (.ref p) H2) : newL Q xs H := ⟨sz hz, fun p hp => k p _ hp (Evl.Ex.new hp) upd_same⟩
theorem w_test {Q : Bool → Hp → Prop} (k : te σ H fun x H1 => ∃ c, x = .bl c ∧ Q c H1) : tTest te σ H Q := k
theorem w_tB {Q : Bool → Hp → Prop} (k : te σ H fun x H1 => ∃ c, x = .bl c ∧ Q c H1) : tB te σ H Q := k
theorem w_bl {c : Bool} {P : Bool → Prop} (k : P c) : ∃ c', V.bl c = .bl c' ∧ P c' := ⟨c, rfl, k⟩
theorem w_and {t u : TT} {Q : Bool → Hp → Prop} (k : t σ H fun c H1 => if c = true then u σ H1 Q else Q false H1) : tAnd t u σ H Q := k
theorem w_or {t u : TT} {Q : Bool → Hp → Prop} (k : t σ H fun c H1 => if c = true then Q true H1 else u σ H1 Q) : tOr t u σ H Q := k
theorem w_not {t : TT} {Q : Bool → Hp → Prop} (k : t σ H fun c H1 => Q (!c) H1) : tNot t σ H Q := k
theorem w_andV (k : ta σ H fun x H1 => ∃ c, x = .bl c ∧ if c = true then tb σ H1 Q else Q (.bl false) H1) : tAndV ta tb σ H Q := k
theorem w_orV (k : ta σ H fun x H1 => ∃ c, x = .bl c ∧ if c = true then Q (.bl true) H1 else tb σ H1 Q) : tOrV ta tb σ H Q := k
theorem w_notV (k : ta σ H fun x H1 => ∃ c, x = .bl c ∧ Q (.bl (!c)) H1) : tNotV ta σ H Q := k
theorem w_if {c : TT} (k : c σ H fun b H1 => if b = true then ta σ H1 Q else tb σ H1 Q) : tIf c ta tb σ H Q := k
theorem w_no {Q : Option Int → Hp → Prop} (k : Q none H) : tNoPart σ H Q := k
theorem w_part {Q : Option Int → Hp → Prop} (k : te σ H fun x H1 => ∃ i, x = .int i ∧ Q (some i) H1) : tPart te σ H Q := k
theorem w_int {i : Int} {P : Int → Prop} (k : P i) : ∃ j, V.int i = .int j ∧ P j := ⟨i, rfl, k⟩
theorem w_sl {r : V → Option Int → Option Int → Hp → VK → Prop} {tl th : TO} (k : te σ H fun x H1 => tl σ H1 fun l H2 => th σ H2 fun u H3 => r x l u H3 Q) : tSl r te tl th σ H Q := k
theorem w_yes {Q : Bool → Hp → Prop} (k : Q true H) : tYes σ H Q := k
/-! leaves -/
theorem l_add {i j : Int} (k : Q (.int (i + j)) H) : rAddP K (.int i) (.int j) H Q := .inl ⟨i, j, rfl, rfl, k⟩
theorem l_addT {a b : Addr} {xs ys : List V} (h1 : SqT K H a xs) (h2 : SqT K H b ys) (hz : xs.length + ys.length ≤ 100000) (k : ∀ p H', Ex H H' → SqT K H' p (xs ++ ys) → Q (.ref p) H') : rAddP K (.ref a) (.ref b) H Q := by
  refine .inr (.inl ⟨a, b, xs, ys, rfl, rfl, h1, h2, sz hz, fun e => ?_, fun _ e => ?_, fun _ _ p hp => ?_⟩)
  · subst e; exact k _ _ (Evl.Ex.refl _) h2
  · subst e; exact k _ _ (Evl.Ex.refl _) (by rw [List.append_nil]; exact h1)
  · exact k _ _ (Evl.Ex.new hp) (SqT.of upd_same)
theorem l_addL {a b : Addr} {xs ys : List V} (h1 : H a = some (.lst xs)) (h2 : H b = some (.lst ys)) (hz : xs.length + ys.length ≤ 100000) (k : ∀ p H', H p = none → Ex H H' → H' p = some (.lst (xs ++ ys)) → Q (.ref p) H') : rAddP K (.ref a) (.ref b) H Q :=
  .inr (.inr (.inl ⟨a, b, xs, ys, rfl, rfl, h1, h2, sz hz, fun p hp => k _ _ hp (Evl.Ex.new hp) upd_same⟩))
theorem l_addS {x y : Str} (hz : x.length + y.length ≤ 100000) (k : Q (.str (x ++ y)) H) : rAddP K (.str x) (.str y) H Q := .inr (.inr (.inr ⟨x, y, rfl, rfl, sz hz, k⟩))
theorem l_sub {i j : Int} (k : Q (.int (i - j)) H) : rSubP (.int i) (.int j) H Q := ⟨i, j, rfl, rfl, k⟩
theorem l_mod {i j : Int} (h : 0 < j) (k : Q (.int (i % j)) H) : rModP (.int i) (.int j) H Q := ⟨i, j, rfl, rfl, h, k⟩
theorem l_div {i j : Int} (h : 0 < j ∧ j < 4611686018427387904) (k : Q (.int (i / j)) H) : rDivP (.int i) (.int j) H Q := ⟨i, j, rfl, rfl, wide_div (b := 62) h.1 (by omega) (by decide) (by decide), k⟩
theorem l_pow {i j : Int} (h : 0 ≤ j ∧ j ≤ 1000000 ∧ i.natAbs < 2 ^ 64) (k : Q (.int (i ^ j.toNat)) H) : rPowP (.int i) (.int j) H Q := ⟨i, j, rfl, rfl, h, k⟩
theorem l_mul {i j : Int} (h : (-(2 ^ 64) < i ∧ i < 2 ^ 64) ∨ (-(2 ^ 64) < j ∧ j < 2 ^ 64)) (k : Q (.int (i * j)) H) : rMulP K (.int i) (.int j) H Q := .inl ⟨i, j, rfl, rfl, h, k⟩
theorem l_mulT {a : Addr} {xs : List V} {m : Int} (h1 : SqT K H a xs) (hn : xs ≠ []) (hx : xs.length ≤ 1000) (hk : 1 ≤ m ∧ m ≤ 1000) (k : ∀ p H', Ex H H' → SqT K H' p (List.replicate m.toNat xs).flatten → Q (.ref p) H') : rMulP K (.ref a) (.int m) H Q := by
  by_cases e : m = 1
  · subst e
    exact .inr (.inl ⟨a, 1, xs, rfl, rfl, h1, rfl, k _ _ (Evl.Ex.refl _) (by simpa using h1)⟩)
  · exact .inr (.inr (.inl ⟨a, m, xs, rfl, rfl, h1, hn, by omega, hk.2, hx, fun p hp => k _ _ (Evl.Ex.new hp) (SqT.of upd_same)⟩))
theorem l_mulL {a : Addr} {xs : List V} {m : Int} (h1 : H a = some (.lst xs)) (hk : -(2 ^ 63) ≤ m ∧ m < 2 ^ 63) (hz : xs.length * m.toNat ≤ 100000) (k : ∀ p H', H p = none → Ex H H' → H' p = some (.lst (List.replicate m.toNat xs).flatten) → Q (.ref p) H') : rMulP K (.ref a) (.int m) H Q :=
  .inr (.inr (.inr ⟨a, m, xs, rfl, rfl, h1, hk.1, hk.2, sz hz, fun p hp => k _ _ hp (Evl.Ex.new hp) upd_same⟩))
theorem l_lt {i j : Int} (k : Q (.bl (decide (i < j))) H) : rLtP (.int i) (.int j) H Q := ⟨i, j, rfl, rfl, k⟩
theorem l_le {i j : Int} (k : Q (.bl (decide (i ≤ j))) H) : rLeP (.int i) (.int j) H Q := ⟨i, j, rfl, rfl, k⟩
theorem l_gt {i j : Int} (k : Q (.bl (decide (j < i))) H) : rGtP (.int i) (.int j) H Q := ⟨i, j, rfl, rfl, k⟩
theorem l_ge {i j : Int} (k : Q (.bl (decide (j ≤ i))) H) : rGeP (.int i) (.int j) H Q := ⟨i, j, rfl, rfl, k⟩
theorem decI {i j : Int} : decide (V.int i = V.int j) = decide (i = j) := by simp
theorem l_eqI {i j : Int} (k : Q (.bl (decide (i = j))) H) : rEqP K (.int i) (.int j) H Q := .inl ⟨rfl, by rw [decI]; exact k⟩
theorem l_neI {i j : Int} (k : Q (.bl (!decide (i = j))) H) : rNeP K (.int i) (.int j) H Q := .inl ⟨rfl, by rw [decI]; exact k⟩
theorem l_eqD {x y : V} {d e : PyData} (h1 : Dp K H x d) (h2 : Dp K H y e) (s1 : SeqAt.shaped d = true) (s2 : SeqAt.shaped e = true) (k : Q (.bl (PyData.eqv d e)) H) : rEqP K x y H Q := .inr ⟨d, e, h1, h2, s1, s2, k⟩
theorem l_neD {x y : V} {d e : PyData} (h1 : Dp K H x d) (h2 : Dp K H y e) (s1 : SeqAt.shaped d = true) (s2 : SeqAt.shaped e = true) (k : Q (.bl (!PyData.eqv d e)) H) : rNeP K x y H Q := .inr ⟨d, e, h1, h2, s1, s2, k⟩
theorem l_lenT {a : Addr} {xs : List V} (h : SqT K H a xs) (k : Q (.int (xs.length : Nat)) H) : rLenP K [.ref a] H Q := ⟨_, _, rfl, .inr ⟨xs, h, rfl⟩, k⟩
theorem l_lenL {a : Addr} {xs : List V} (h : SqL K H a xs) (k : Q (.int (xs.length : Nat)) H) : rLenP K [.ref a] H Q := ⟨_, _, rfl, .inl ⟨xs, h, rfl⟩, k⟩
theorem l_lenS {z : Str} (h : z.length ≤ 100000) (k : Q (.int (z.length : Nat)) H) : rLenP K [.str z] H Q := ⟨_, _, rfl, ⟨sz h, rfl⟩, k⟩
theorem l_abs {i : Int} (k : Q (.int (if i < 0 then -i else i)) H) : rAbsP [.int i] H Q := ⟨i, rfl, k⟩
theorem l_max2 {i j : Int} (k : Q (.int (if j > i then j else i)) H) : rMax2P [.int i, .int j] H Q := ⟨i, j, rfl, k⟩
theorem l_min2 {i j : Int} (k : Q (.int (if j < i then j else i)) H) : rMin2P [.int i, .int j] H Q := ⟨i, j, rfl, k⟩
theorem l_tupL {a : Addr} {xs : List V} (h : SqL K H a xs) (k : ∀ p H', Ex H H' → SqT K H' p xs → Q (.ref p) H') : rTupOf K [.ref a] H Q := ⟨a, xs, rfl, .inl ⟨h, fun l hl => k _ _ (Evl.Ex.new hl) (SqT.of upd_same)⟩⟩
theorem l_listOf {a : Addr} {xs : List V} (h : SqL K H a xs ∨ SqT K H a xs) (k : ∀ p H', H p = none → Ex H H' → H' p = some (.lst xs) → Q (.ref p) H') : rListOf K [.ref a] H Q := ⟨a, xs, rfl, h, fun l hl => k _ _ hl (Evl.Ex.new hl) upd_same⟩
theorem l_ixL {a : Addr} {xs : List V} {i : Int} {v : V} (h : SqL K H a xs) (ha : atI xs i = some v) (k : Q v H) : rIx K (.ref a) (.int i) H Q := .inl ⟨a, xs, i, v, rfl, rfl, h, ha, k⟩
theorem l_ixT {a : Addr} {xs : List V} {i : Int} {v : V} (h : SqT K H a xs) (ha : atI xs i = some v) (k : Q v H) : rIx K (.ref a) (.int i) H Q := .inr (.inl ⟨a, xs, i, v, rfl, rfl, h, ha, k⟩)
theorem l_ixS {z : Str} {i : Int} {c : Nat} (h : z.length ≤ 100000) (ha : atI z.cps.toList i = some c) (k : Q (.str ⟨#[c]⟩) H) : rIx K (.str z) (.int i) H Q := .inr (.inr ⟨z, i, c, rfl, rfl, sz h, ha, k⟩)
theorem l_slT {a : Addr} {xs : List V} {lo hi : Option Int} (h : SqT K H a xs) (k : ∀ p H', Ex H H' → SqT K H' p (cutV xs lo hi) → Q (.ref p) H') : rSlP K (.ref a) lo hi H Q := by
  refine .inr ⟨a, xs, rfl, h, fun e => ?_, fun _ p hp => k _ _ (Evl.Ex.new hp) (SqT.of upd_same)⟩
  refine k _ _ (Evl.Ex.refl _) ?_
  have : cutV xs lo hi = xs := by unfold cutV; rw [e.1, e.2]; simp
  rw [this]; exact h
theorem l_slL {a : Addr} {xs : List V} {lo hi : Option Int} (h : SqL K H a xs) (k : ∀ p H', H p = none → Ex H H' → H' p = some (.lst (cutV xs lo hi)) → Q (.ref p) H') : rSlP K (.ref a) lo hi H Q :=
  .inl ⟨a, xs, rfl, h, fun p hp => k _ _ hp (Evl.Ex.new hp) upd_same⟩
theorem l_all {a : Addr} {bs : List Bool} (h : SqL K H a (bs.map V.bl)) (k : Q (.bl (bs.all id)) H) : rAll K [.ref a] H Q := ⟨a, bs, rfl, h, k⟩
theorem l_sum {a : Addr} {ns : List Int} (h : SqL K H a (ns.map V.int)) (k : Q (.int ns.sum) H) : rSum K [.ref a] H Q := ⟨a, ns, rfl, h, k⟩
theorem l_setL {a : Addr} {xs : List V} {i : Int} {j : Nat} {v : V} {Q : Hp → Prop} (h : H a = some (.lst xs)) (hj : ixN xs.length i = some j) (k : ∀ H', ExB a H H' → H' a = some (.lst (xs.set j v)) → Q H') : rSetL (.ref a) (.int i) v H Q :=
  ⟨a, xs, i, j, rfl, rfl, h, hj, k _ ExB.upd upd_same⟩
theorem l_app {a : Addr} {xs : List V} {v : V} (h : H a = some (.lst xs)) (hz : xs.length < 100000) (k : ∀ H', ExB a H H' → H' a = some (.lst (xs ++ [v])) → Q .non H') : rAppend (.ref a) [v] H Q :=
  ⟨a, xs, v, rfl, rfl, h, szl hz, k _ ExB.upd upd_same⟩
theorem l_ext {a b : Addr} {xs ys : List V} (h : H a = some (.lst xs)) (h2 : H b = some (.lst ys)) (hz : xs.length + ys.length ≤ 100000) (k : ∀ H', ExB a H H' → H' a = some (.lst (xs ++ ys)) → Q .non H') : rExtend (.ref a) [.ref b] H Q :=
  ⟨a, b, xs, ys, rfl, rfl, h, h2, sz hz, k _ ExB.upd upd_same⟩
theorem l_rev {a : Addr} {xs : List V} (h : H a = some (.lst xs)) (k : ∀ H', ExB a H H' → H' a = some (.lst xs.reverse) → Q .non H') : rReverse (.ref a) [] H Q := ⟨a, xs, rfl, rfl, h, k _ ExB.upd upd_same⟩
theorem l_clear {a : Addr} {xs : List V} (h : H a = some (.lst xs)) (k : ∀ H', ExB a H H' → H' a = some (.lst []) → Q .non H') : rClear (.ref a) [] H Q := ⟨a, xs, rfl, rfl, h, k _ ExB.upd upd_same⟩
theorem l_pop {a : Addr} {xs : List V} {y : V} (h : H a = some (.lst xs)) (hy : xs[xs.length - 1]? = some y) (k : ∀ H', ExB a H H' → H' a = some (.lst xs.dropLast) → Q y H') : rPop (.ref a) [] H Q := ⟨a, xs, y, rfl, rfl, h, hy, k _ ExB.upd upd_same⟩
theorem l_popAt {a : Addr} {xs : List V} {i : Int} {j : Nat} {y : V} (h : H a = some (.lst xs)) (hi : -(2 ^ 63) ≤ i ∧ i < 2 ^ 63) (hj : seqIndex? i xs.length = some j) (hy : xs[j]? = some y) (k : ∀ H', ExB a H H' → H' a = some (.lst (xs.eraseIdx j)) → Q y H') : rPopAt (.ref a) [.int i] H Q := ⟨a, xs, i, j, y, rfl, rfl, h, hi.1, hi.2, hj, hy, k _ ExB.upd upd_same⟩
def rInsP : V → List V → Hp → VK → Prop := fun x vs H Q => ∃ (l : Addr) (xs : List V) (i : Int) (y : V), x = .ref l ∧ vs = [.int i, y] ∧ H l = some (.lst xs) ∧ xs.length < sizeLine ∧ 0 ≤ i ∧ i < 2 ^ 63 ∧ Q .non (upd H l (.lst (xs.take i.toNat ++ [y] ++ xs.drop i.toNat)))
theorem l_ins0 {a : Addr} {xs : List V} {y : V} (h : H a = some (.lst xs)) (hz : xs.length < 100000) (k : ∀ H', ExB a H H' → H' a = some (.lst (y :: xs)) → Q .non H') : rInsP (.ref a) [.int 0, y] H Q :=
  ⟨a, xs, 0, y, rfl, rfl, h, szl hz, Int.le_refl _, by decide, k _ ExB.upd upd_same⟩
/-! statements, in a row and at its end -/
theorem q_asg {i : Nat} (k : te σ H fun x H1 => u D (σ.set i (some x)) H1) : tSeq (tAsg te (gName i)) u D σ H := k
theorem z_asg {i : Nat} (k : te σ H fun x H1 => D.nx (σ.set i (some x)) H1) : tAsg te (gName i) D σ H := k
theorem q_asgT {n : Nat} {g : TGs} (k : te σ H fun x H1 => gTup K n g x σ H1 fun σ' H' => u D σ' H') : tSeq (tAsg te (gTup K n g)) u D σ H := k
theorem z_asgT {n : Nat} {g : TGs} (k : te σ H fun x H1 => gTup K n g x σ H1 fun σ' H' => D.nx σ' H') : tAsg te (gTup K n g) D σ H := k
theorem l_un {g : Int → V} {i : Int} (k : Q (g i) H) : rU g (.int i) H Q := ⟨i, rfl, k⟩
theorem q_drop (k : te σ H fun _ H1 => u D σ H1) : tSeq (tDrop te) u D σ H := k
theorem z_drop (k : te σ H fun _ H1 => D.nx σ H1) : tDrop te D σ H := k
theorem q_if {e : TS} (k : ct σ H fun b H1 => if b = true then t { D with nx := u D } σ H1 else e { D with nx := u D } σ H1) : tSeq (tIfS ct t e) u D σ H := k
theorem z_if {e : TS} (k : ct σ H fun b H1 => if b = true then t D σ H1 else e D σ H1) : tIfS ct t e D σ H := k
theorem z_ret (k : te σ H D.rt) : tRet te D σ H := k
theorem z_retN (k : D.rt .non H) : tRetN D σ H := k
theorem z_next (k : D.nx σ H) : tNext D σ H := k
theorem q_seq (k : t { D with nx := u D } σ H) : tSeq t u D σ H := k
theorem q_set {to ti : TE} {s : TSet} (k : te σ H fun v H1 => to σ H1 fun o H2 => ti σ H2 fun i H3 => s o i v H3 fun H4 => u D σ H4) : tSeq (tAsg te (gSub to ti s)) u D σ H := k
theorem z_set {to ti : TE} {s : TSet} (k : te σ H fun v H1 => to σ H1 fun o H2 => ti σ H2 fun i H3 => s o i v H3 fun H4 => D.nx σ H4) : tAsg te (gSub to ti s) D σ H := k
theorem ifd {c A B : Prop} [Decidable c] (h1 : c → A) (h2 : ¬ c → B) : if decide c = true then A else B := by
  by_cases h : c
  · rw [if_pos (decide_eq_true h)]; exact h1 h
  · rw [if_neg (by simpa using h)]; exact h2 h
theorem ifdn {c A B : Prop} [Decidable c] (h1 : ¬ c → A) (h2 : c → B) : if (!decide c) = true then A else B := by
  by_cases h : c
  · rw [if_neg (by simp [h])]; exact h2 h
  · rw [if_pos (by simp [h])]; exact h1 h
theorem ifb {b : Bool} {A B : Prop} (h1 : b = true → A) (h2 : b = false → B) : if b = true then A else B := by
  cases b with
  | true => exact iteT (h1 rfl)
  | false => exact iteF (h2 rfl)
theorem iteNT {A B : Prop} (h : B) : if (!true) = true then A else B := iteF h
theorem iteNF {A B : Prop} (h : A) : if (!false) = true then A else B := iteT h
/-! loops -/
def ForK (g : TG) (tb : TS) (D : Ends) (J : It) (σ : L2.St) (H : Hp) : Prop := ∃ W : Nat → Nat → L2.St → Hp → Prop, (∃ m, W 0 m σ H) ∧ ∀ i m σ H, W i m σ H →
  ((J.stop i H ∧ D.nx σ H) ∨ (J.go i H ∧ ∃ N : L2.St → Hp → Prop, (∀ σ' H', N σ' H' → ∃ m', m' < m ∧ W (i + 1) m' σ' H') ∧ ∀ x H', J.yld i H x H' → g x σ H' fun σ2 H2 => tb { D with nx := N, ct := N, bk := D.nx } σ2 H2))
def seqK (K : PySem.W.Frag) (R : It → Hp → Prop) (x : V) (H1 : Hp) : Prop := ∃ a, x = .ref a ∧ ((∃ xs, SqL K H1 a xs ∧ R (Itl K a) H1) ∨ (∃ xs, SqT K H1 a xs ∧ R (Itt K a) H1))
def rngK1 (R : It → Hp → Prop) (vs : List V) (H1 : Hp) : Prop := ∃ j : Int, vs = [.int j] ∧ -(2 ^ 62) ≤ j ∧ j < 2 ^ 62 ∧ R (Itr 0 j.toNat) H1
def rngK2 (R : It → Hp → Prop) (vs : List V) (H1 : Hp) : Prop := ∃ i j : Int, vs = [.int i, .int j] ∧ (-(2 ^ 62) ≤ i ∧ i < 2 ^ 62 ∧ -(2 ^ 62) ≤ j ∧ j < 2 ^ 62) ∧ R (Itr i (j - i).toNat) H1
def enumK (K : PySem.W.Frag) (R : It → Hp → Prop) (vs : List V) (H1 : Hp) : Prop := ∃ a xs, vs = [.ref a] ∧ SqL K H1 a xs ∧ R (Ite K a) H1
theorem q_for {wi : TI} {g : TG} {tb : TS} (k : wi σ H fun J H1 => ForK g tb { D with nx := u D } J σ H1) : tSeq (tFor wi g tb) u D σ H := k
theorem z_for {wi : TI} {g : TG} {tb : TS} (k : wi σ H fun J H1 => ForK g tb D J σ H1) : tFor wi g tb D σ H := k
theorem i_seq {tl : TE} {R : It → Hp → Prop} (k : tl σ H fun x H1 => seqK K R x H1) : iSeq K tl σ H R := k
theorem i_rng1 {ta : TA} {R : It → Hp → Prop} (k : ta σ H fun vs H1 => rngK1 R vs H1) : iRng1 ta σ H R := k
theorem i_rng2 {ta : TA} {R : It → Hp → Prop} (k : ta σ H fun vs H1 => rngK2 R vs H1) : iRng2 ta σ H R := k
theorem i_enum {ta : TA} {R : It → Hp → Prop} (k : ta σ H fun vs H1 => enumK K R vs H1) : iEnum K ta σ H R := k
theorem l_seqT {a : Addr} {xs : List V} {R : It → Hp → Prop} (h : SqT K H a xs) (k : R (Itt K a) H) : seqK K R (.ref a) H := ⟨a, rfl, .inr ⟨xs, h, k⟩⟩
theorem l_seqL {a : Addr} {xs : List V} {R : It → Hp → Prop} (h : SqL K H a xs) (k : R (Itl K a) H) : seqK K R (.ref a) H := ⟨a, rfl, .inl ⟨xs, h, k⟩⟩
theorem l_rng1 {j : Int} {R : It → Hp → Prop} (h : -(2 ^ 62) ≤ j ∧ j < 2 ^ 62) (k : R (Itr 0 j.toNat) H) : rngK1 R [.int j] H := ⟨j, rfl, h.1, h.2, k⟩
theorem l_rng2 {i j : Int} {R : It → Hp → Prop} (h : -(2 ^ 62) ≤ i ∧ i < 2 ^ 62 ∧ -(2 ^ 62) ≤ j ∧ j < 2 ^ 62) (k : R (Itr i (j - i).toNat) H) : rngK2 R [.int i, .int j] H := ⟨i, j, rfl, h, k⟩
theorem l_enum {a : Addr} {xs : List V} {R : It → Hp → Prop} (h : SqL K H a xs) (k : R (Ite K a) H) : enumK K R [.ref a] H := ⟨a, xs, rfl, h, k⟩
/-- a for, by a word Pv of the turn, the slots and the heap -/
theorem l_for {J : It} {n : Nat} {G : Hp → Prop} {Y : Nat → Hp → V → Hp → Prop} {g : TG} {tb : TS} (w : Walk J n G Y) (Pv : Nat → L2.St → Hp → Prop) (h0 : Pv 0 σ H) (hG : ∀ i σ H, i ≤ n → Pv i σ H → G H)
    (hs : ∀ i x σ H H', i < n → Pv i σ H → Y i H x H' → g x σ H' fun σ2 H2 => tb { D with nx := Pv (i + 1), ct := Pv (i + 1), bk := D.nx } σ2 H2) (hd : ∀ σ H, Pv n σ H → D.nx σ H) : ForK g tb D J σ H := for_it w Pv h0 hG hs hd
theorem l_forT {a : Addr} {xs : List V} {g : TG} {tb : TS} (Pv : Nat → L2.St → Hp → Prop) (h0 : Pv 0 σ H) (hG : ∀ i σ H, i ≤ xs.length → Pv i σ H → SqT K H a xs)
    (hs : ∀ i x σ H, i < xs.length → xs[i]? = some x → Pv i σ H → g x σ H fun σ2 H2 => tb { D with nx := Pv (i + 1), ct := Pv (i + 1), bk := D.nx } σ2 H2) (hd : ∀ σ H, Pv xs.length σ H → D.nx σ H) : ForK g tb D (Itt K a) σ H :=
  for_it walk_tup Pv h0 hG (fun i x σ H H' hi hp ⟨e, hx⟩ => by subst e; exact hs i x σ _ hi hx hp) hd
theorem l_forL {a : Addr} {xs : List V} {g : TG} {tb : TS} (Pv : Nat → L2.St → Hp → Prop) (h0 : Pv 0 σ H) (hG : ∀ i σ H, i ≤ xs.length → Pv i σ H → SqL K H a xs)
    (hs : ∀ i x σ H, i < xs.length → xs[i]? = some x → Pv i σ H → g x σ H fun σ2 H2 => tb { D with nx := Pv (i + 1), ct := Pv (i + 1), bk := D.nx } σ2 H2) (hd : ∀ σ H, Pv xs.length σ H → D.nx σ H) : ForK g tb D (Itl K a) σ H :=
  for_it walk_list Pv h0 hG (fun i x σ H H' hi hp ⟨e, hx⟩ => by subst e; exact hs i x σ _ hi hx hp) hd
theorem l_forR {lo : Int} {n : Nat} {g : TG} {tb : TS} (Pv : Nat → L2.St → Hp → Prop) (h0 : Pv 0 σ H)
    (hs : ∀ i σ H, i < n → Pv i σ H → g (.int (lo + i)) σ H fun σ2 H2 => tb { D with nx := Pv (i + 1), ct := Pv (i + 1), bk := D.nx } σ2 H2) (hd : ∀ σ H, Pv n σ H → D.nx σ H) : ForK g tb D (Itr lo n) σ H :=
  for_range Pv h0 hs hd
theorem g_name {i : Nat} {x : V} {R : L2.St → Hp → Prop} (k : R (σ.set i (some x)) H) : gName i x σ H R := k
theorem g_tup {n : Nat} {a : Addr} {xs : List V} {t : TGs} {R : L2.St → Hp → Prop} (h : SqT K H a xs) (hn : xs.length = n) (k : t xs σ H R) : gTup K n t (.ref a) σ H R := ⟨a, xs, rfl, h, hn, k⟩
theorem g_cons {t : TG} {u : TGs} {v : V} {r : List V} {R : L2.St → Hp → Prop} (k : t v σ H fun σ' H' => u r σ' H' R) : gCons t u (v :: r) σ H R := ⟨v, r, rfl, k⟩
theorem g_nil {R : L2.St → Hp → Prop} (k : R σ H) : gNil [] σ H R := ⟨rfl, k⟩
/-! comprehensions -/
def LcK (g : TG) (tt : TT) (te : TE) (vs : List Nat) (J : It) (σ : L2.St) (H1 : Hp) (Q : VK) : Prop := ∀ D, H1 D = none → ∃ W : Nat → Nat → Hp → Prop, (∃ m, W 0 m (upd H1 D (.lst []))) ∧ ∀ i m H, W i m H →
  (J.stop i H ∧ Q (.ref D) H) ∨ (J.go i H ∧ ∃ Nx : Hp → Prop, (∀ H', Nx H' → ∃ m', m' < m ∧ W (i + 1) m' H') ∧ ∀ x H', J.yld i H x H' → g x (wipe σ vs) H' fun σ2 H2 => wipe σ2 vs = wipe σ vs ∧ tt σ2 H2 fun b H3 =>
    if b = true then te σ2 H3 fun y H4 => ∃ acc, H4 D = some (.lst acc) ∧ acc.length < sizeLine ∧ Nx (upd H4 D (.lst (acc ++ [y]))) else Nx H3)
theorem w_lc {wi : TI} {g : TG} {tt : TT} {vs : List Nat} (k : wi σ H fun J H1 => LcK g tt te vs J σ H1 Q) : tLc wi g tt te vs σ H Q := k
/-- behind an element y: it is put behind what D holds -/
def lcEnd (Pv : Addr → Nat → List V → Hp → Prop) (D : Addr) (i : Nat) (y : V) (H4 : Hp) : Prop := ∃ acc, H4 D = some (.lst acc) ∧ acc.length < sizeLine ∧ ∃ acc', upd H4 D (.lst (acc ++ [y])) D = some (.lst acc') ∧ Pv D i acc' (upd H4 D (.lst (acc ++ [y])))
/-- an item left out -/
def lcNot (Pv : Addr → Nat → List V → Hp → Prop) (D : Addr) (i : Nat) (H4 : Hp) : Prop := ∃ acc, H4 D = some (.lst acc) ∧ Pv D i acc H4
theorem lc_end {Pv : Addr → Nat → List V → Hp → Prop} {E : Addr} {i : Nat} {y : V} {acc : List V} (h : H E = some (.lst acc)) (hz : acc.length < 100000) (k : ∀ H6, ExB E H H6 → H6 E = some (.lst (acc ++ [y])) → Pv E i (acc ++ [y]) H6) : lcEnd Pv E i y H :=
  ⟨acc, h, szl hz, _, upd_same, k _ ExB.upd upd_same⟩
theorem lc_not {Pv : Addr → Nat → List V → Hp → Prop} {E : Addr} {i : Nat} {acc : List V} (h : H E = some (.lst acc)) (k : Pv E i acc H) : lcNot Pv E i H := ⟨acc, h, k⟩
/-- any comprehension: Pv by the new list's address, the turn, what it holds, the heap -/
theorem l_lc {J : It} {n : Nat} {G : Hp → Prop} {Y : Nat → Hp → V → Hp → Prop} {g : TG} {tt : TT} {vs : List Nat} (w : Walk J n G Y) (Pv : Addr → Nat → List V → Hp → Prop)
    (h0 : ∀ D H', H D = none → Ex H H' → H' D = some (.lst []) → Pv D 0 [] H') (hG : ∀ D i acc H1, i ≤ n → H1 D = some (.lst acc) → Pv D i acc H1 → G H1)
    (hs : ∀ D i acc x H1 H2, H D = none → i < n → H1 D = some (.lst acc) → Pv D i acc H1 → Y i H1 x H2 → g x (wipe σ vs) H2 fun σ2 H3 => wipe σ2 vs = wipe σ vs ∧ tt σ2 H3 fun b H4 => if b = true then te σ2 H4 (lcEnd Pv D (i + 1)) else lcNot Pv D (i + 1) H4)
    (hd : ∀ D acc H1, H D = none → H1 D = some (.lst acc) → Pv D n acc H1 → Q (.ref D) H1) : LcK g tt te vs J σ H Q := fun D hD =>
  lc_it w (fun i H1 => ∃ acc, H1 D = some (.lst acc) ∧ Pv D i acc H1) ⟨[], upd_same, h0 D _ hD (Evl.Ex.new hD) upd_same⟩ (fun i H1 hi ⟨acc, h1, h2⟩ => hG D i acc H1 hi h1 h2)
    (fun i x H1 H2 hi ⟨acc, h1, h2⟩ y => hs D i acc x H1 H2 hD hi h1 h2 y) (fun H1 ⟨acc, h1, h2⟩ => hd D acc H1 hD h1 h2)
theorem q_cut {e : TS} (M : L2.St → Hp → Prop) (h : t { D with nx := M } σ H) (k : ∀ σ' H', M σ' H' → e D σ' H') : Evl.tCut t e D σ H := ⟨M, h, k⟩
/-! a while -/
def whK (W : Nat → L2.St → Hp → Prop) (m : Nat) (tb : TS) (D : Ends) (σ : L2.St) (H1 : Hp) : Prop := ∃ N : L2.St → Hp → Prop, (∀ σ' H', N σ' H' → ∃ m', m' < m ∧ W m' σ' H') ∧ tb { D with nx := N, ct := N, bk := D.nx } σ H1
theorem l_wh {W : Nat → L2.St → Hp → Prop} {m : Nat} {tb : TS} (k : tb { D with nx := fun σ' H' => ∃ m', m' < m ∧ W m' σ' H', ct := fun σ' H' => ∃ m', m' < m ∧ W m' σ' H', bk := D.nx } σ H) : whK W m tb D σ H := ⟨_, fun _ _ p => p, k⟩
theorem q_while {c : TT} {tb : TS} (W : Nat → L2.St → Hp → Prop) (m0 : Nat) (h0 : W m0 σ H) (hs : ∀ m σ H, W m σ H → c σ H fun b H1 => if b = true then whK W m tb { D with nx := u D } σ H1 else u D σ H1) : tSeq (tWhile c tb) u D σ H :=
  ⟨W, ⟨m0, h0⟩, fun m σ H h => hs m σ H h⟩
theorem q_aug {i : Nat} {x : V} {te : TE} {ti : TIp} (hx : σ[i]? = some (some x)) (k : te σ H fun y H1 => ti x y H1 fun z H2 => u D (σ.set i (some z)) H2) : tSeq (tAug i te ti) u D σ H := ⟨x, hx, k⟩
theorem z_aug {i : Nat} {x : V} {te : TE} {ti : TIp} (hx : σ[i]? = some (some x)) (k : te σ H fun y H1 => ti x y H1 fun z H2 => D.nx (σ.set i (some z)) H2) : tAug i te ti D σ H := ⟨x, hx, k⟩
theorem l_ip {f : Int → Int → Int} {i j : Int} (k : Q (.int (f i j)) H) : ipI f (.int i) (.int j) H Q := ⟨i, j, rfl, rfl, k⟩
theorem w_bm {T : String} {r : V → List V → Hp → VK → Prop} {to : TE} {t : TA} (k : to σ H fun x H1 => tyV K T x H1 ∧ t σ H1 fun xs H2 => r x xs H2 Q) : tBM K T r to t σ H Q := k
theorem w_bm0 {T : String} {r : V → List V → Hp → VK → Prop} {to : TE} (k : to σ H fun x H1 => tyV K T x H1 ∧ r x [] H1 Q) : tBM0 K T r to σ H Q := k
theorem l_tyL {a : Addr} {xs : List V} {P : Prop} (h : SqL K H a xs) (k : P) : tyV K "list" (.ref a) H ∧ P := ⟨.inl ⟨rfl, xs, h⟩, k⟩
/-! kinds of values -/
inductive Kd (K : PySem.W.Frag) (H : Hp) : V → String → Prop where
  | non : Kd K H .non "NoneType"
  | bl (b : Bool) : Kd K H (.bl b) "bool"
  | int (i : Int) : Kd K H (.int i) "int"
  | str (x : Str) : Kd K H (.str x) "str"
  | tup {a : Addr} {xs : List V} (h : SqT K H a xs) : Kd K H (.ref a) "tuple"
  | lst {a : Addr} {xs : List V} (h : SqL K H a xs) : Kd K H (.ref a) "list"
  | dct {a : Addr} {kvs : List (Key × V)} (h : H a = some (.dK kvs)) : Kd K H (.ref a) "dict"
theorem tyx_T {a : Addr} {xs : List V} (h : SqT K H a xs) : TyX K H (.ref a) (.type "tuple") := by
  rcases h with (h | ⟨o, h⟩) | h
  · exact .base (.tup h)
  · exact .fTuple h
  · obtain ⟨o, its, n, h1, h2, _⟩ := h
    exact .kTuple h1 h2
theorem tyx_L {a : Addr} {xs : List V} (h : SqL K H a xs) : TyX K H (.ref a) (.type "list") := by
  rcases h with (h | ⟨o, h⟩) | h
  · exact .base (.lst h)
  · exact .base (.frz h)
  · obtain ⟨o, its, n, h1, h2, _⟩ := h
    exact .kList h1 h2
theorem Kd.tyx {v : V} {T : String} (h : Kd K H v T) : TyX K H v (.type T) := by
  cases h with
  | non => exact .base .non
  | bl b => exact .base (.bl b)
  | int i => exact .base (.int i)
  | str x => exact .base (.str x)
  | tup h => exact tyx_T h
  | lst h => exact tyx_L h
  | dct h => exact .base (.dK h)
theorem l_isi {v : V} {T' T : String} {b : Bool} (h : Kd K H v T') (hb : kitB T' T = some b) (k : Q (.bl b) H) : rIsi K [v, .ty T] H Q := ⟨v, _, _, _, b, rfl, .ty T, h.tyx, kit_ty hb, k⟩
theorem Kd.mono {v : V} {T : String} {H' : Hp} (e : Ex H H') (h : Kd K H v T) : Kd K H' v T := by
  cases h with
  | non => exact .non
  | bl b => exact .bl b
  | int i => exact .int i
  | str x => exact .str x
  | tup h => exact .tup (Evl.ex_t e h)
  | lst h => exact .lst (Evl.ex_l e h)
  | dct h => exact .dct (e _ _ h)
def PvT (H : Hp) (f : V → V) (xs : List V) : Addr → Nat → List V → Hp → Prop := fun _ i acc H1 => Ex H H1 ∧ acc = (xs.take i).map f
/-- a comprehension over a tuple, each element a value f x by itself -/
theorem l_lcT {a : Addr} {xs : List V} {j : Nat} {vs : List Nat} (f : V → V) (h : SqT K H a xs) (hz : xs.length < 100000) (hw : ∀ x, wipe ((wipe σ vs).set j (some x)) vs = wipe σ vs)
    (hs : ∀ x H1, x ∈ xs → Ex H H1 → ∀ Q' : VK, (∀ H2, Ex H1 H2 → Q' (f x) H2) → te ((wipe σ vs).set j (some x)) H1 Q')
    (hd : ∀ D H1, H D = none → Ex H H1 → H1 D = some (.lst (xs.map f)) → Q (.ref D) H1) : LcK (gName j) tYes te vs (Itt K a) σ H Q := by
  refine l_lc walk_tup (PvT H f xs) (fun D H1 n e h1 => ⟨e, rfl⟩) (fun D i acc H1 _ _ p => Evl.ex_t p.1 h) (fun D i acc x H1 H2 hn hi h1 p y => ?_) (fun D acc H1 hn h1 p => ?_)
  · obtain ⟨rfl, hx⟩ := y
    obtain ⟨e, rfl⟩ := p
    refine ⟨hw x, w_yes ?_⟩
    refine iteT ?_
    refine hs x _ (List.mem_of_getElem? hx) e _ fun H3 e3 => ?_
    refine lc_end (Pv := PvT H f xs) (e3 _ _ h1) (by simp; omega) fun H6 e6 h6 => ⟨?_, ?_⟩
    · exact ExB.new (e.trans e3) e6 hn
    · have : (xs.take (i + 1)) = xs.take i ++ [x] := by rw [List.take_succ, hx]; rfl
      rw [this, List.map_append]; rfl
  · obtain ⟨e, rfl⟩ := p
    exact hd D H1 hn e (by rw [h1, List.take_length])
theorem l_lcL {a : Addr} {xs : List V} {j : Nat} {vs : List Nat} (f : V → V) (h : SqL K H a xs) (hz : xs.length < 100000) (hw : ∀ x, wipe ((wipe σ vs).set j (some x)) vs = wipe σ vs)
    (hs : ∀ x H1, x ∈ xs → Ex H H1 → ∀ Q' : VK, (∀ H2, Ex H1 H2 → Q' (f x) H2) → te ((wipe σ vs).set j (some x)) H1 Q')
    (hd : ∀ D H1, H D = none → Ex H H1 → H1 D = some (.lst (xs.map f)) → Q (.ref D) H1) : LcK (gName j) tYes te vs (Itl K a) σ H Q := by
  refine l_lc walk_list (PvT H f xs) (fun D H1 n e h1 => ⟨e, rfl⟩) (fun D i acc H1 _ _ p => Evl.ex_l p.1 h) (fun D i acc x H1 H2 hn hi h1 p y => ?_) (fun D acc H1 hn h1 p => ?_)
  · obtain ⟨rfl, hx⟩ := y
    obtain ⟨e, rfl⟩ := p
    refine ⟨hw x, w_yes ?_⟩
    refine iteT ?_
    refine hs x _ (List.mem_of_getElem? hx) e _ fun H3 e3 => ?_
    refine lc_end (Pv := PvT H f xs) (e3 _ _ h1) (by simp; omega) fun H6 e6 h6 => ⟨?_, ?_⟩
    · exact ExB.new (e.trans e3) e6 hn
    · have : (xs.take (i + 1)) = xs.take i ++ [x] := by rw [List.take_succ, hx]; rfl
      rw [this, List.map_append]; rfl
  · obtain ⟨e, rfl⟩ := p
    exact hd D H1 hn e (by rw [h1, List.take_length])
/-! objects of own classes -/
def fldK (K : PySem.W.Frag) (f : Str) (x : V) (H1 : Hp) (Q : VK) : Prop := ∃ a C dx fs v, x = .ref a ∧ H1 a = some (.ins C dx fs) ∧ Cls K C ∧ NoAttr K C f ∧ fs.lookup f = some v ∧ Q v H1
def setK (K : PySem.W.Frag) (f : Str) (y x : V) (H2 : Hp) (R : Hp → Prop) : Prop := ∃ a C dx fs, x = .ref a ∧ H2 a = some (.ins C dx fs) ∧ Cls K C ∧ NoAttr K C f ∧ fs.length < 1000 ∧ R (upd H2 a (.ins C dx (putF f y fs)))
def methK (C : Addr) (m : Str) (sp : Sp) (E : XK) (t : TA) (σ : L2.St) (Q : VK) (x : V) (H1 : Hp) : Prop := ∃ a dx fs, x = .ref a ∧ H1 a = some (.ins C dx fs) ∧ fs.lookup m = none ∧ t σ H1 fun vs H2 => sp (x :: (vs ++ [])) H2 Q E
def makeK (C : Addr) (sp : Sp) (E : XK) (Q : VK) (vs : List V) (H1 : Hp) : Prop := ∀ x dx, H1 x = none → H1 dx = none → dx ≠ x → sp (.ref x :: (vs ++ [])) (upd (upd H1 dx (.own x)) x (.ins C dx [])) (fun v H2 => v = .non ∧ Q (.ref x) H2) E
theorem w_fld {f : Str} (k : te σ H fun x H1 => fldK K f x H1 Q) : tFld K te f σ H Q := k
theorem l_fld {f : Str} {a C dx : Addr} {fs : List (Str × V)} {v : V} (h : H a = some (.ins C dx fs)) (c : Cls K C) (n : NoAttr K C f) (e : fs.lookup f = some v) (k : Q v H) : fldK K f (.ref a) H Q := ⟨a, C, dx, fs, v, rfl, h, c, n, e, k⟩
theorem q_fld {f : Str} {tv : TE} (k : tv σ H fun y H1 => te σ H1 fun x H2 => setK K f y x H2 fun H3 => u D σ H3) : tSeq (sFld K te tv f) u D σ H := k
theorem z_fld {f : Str} {tv : TE} (k : tv σ H fun y H1 => te σ H1 fun x H2 => setK K f y x H2 fun H3 => D.nx σ H3) : sFld K te tv f D σ H := k
theorem l_fldS {f : Str} {a C dx : Addr} {fs : List (Str × V)} {y : V} {R : Hp → Prop} (h : H a = some (.ins C dx fs)) (c : Cls K C) (n : NoAttr K C f) (hl : fs.length < 1000) (k : ∀ H', ExB a H H' → H' a = some (.ins C dx (putF f y fs)) → R H') : setK K f y (.ref a) H R :=
  ⟨a, C, dx, fs, rfl, h, c, n, hl, k _ ExB.upd upd_same⟩
theorem w_meth {C : Addr} {m : Str} {sp : Sp} {E : XK} {t : TA} (k : te σ H fun x H1 => methK C m sp E t σ Q x H1) : tMeth C m sp [] E te t σ H Q := k
theorem l_meth {C : Addr} {m : Str} {sp : Sp} {E : XK} {t : TA} {a dx : Addr} {fs : List (Str × V)} (h : H a = some (.ins C dx fs)) (e : fs.lookup m = none) (k : t σ H fun vs H2 => sp (.ref a :: (vs ++ [])) H2 Q E) : methK C m sp E t σ Q (.ref a) H := ⟨a, dx, fs, rfl, h, e, k⟩
theorem w_make {C : Addr} {sp : Sp} {E : XK} {t : TA} (k : t σ H fun vs H1 => makeK C sp E Q vs H1) : tMake C sp [] E t σ H Q := k
theorem l_make {C : Addr} {sp : Sp} {E : XK} {vs : List V} (k : ∀ x dx H1, H x = none → Ex H H1 → H1 x = some (.ins C dx []) → sp (.ref x :: (vs ++ [])) H1 (fun v H2 => v = .non ∧ Q (.ref x) H2) E) : makeK C sp E Q vs H := fun x dx hx hd hn =>
  k x dx _ hx (fun b o e => by rw [upd_ne (ne_of_none e hx), upd_ne (ne_of_none e hd)]; exact e) upd_same
theorem putF_le (f : Str) (y : V) : ∀ fs : List (Str × V), (putF f y fs).length ≤ fs.length + 1
  | [] => Nat.le_refl _
  | (g, x) :: r => by
    show (if g = f then (g, y) :: r else (g, x) :: putF f y r).length ≤ _
    have := putF_le f y r
    split <;> simp <;> omega
theorem putF_lt {f : Str} {y : V} {fs : List (Str × V)} (h : fs.length < 900) : (putF f y fs).length < 1000 := Nat.lt_of_le_of_lt (putF_le f y fs) (by omega)
theorem putF_lt2 {f g : Str} {y z : V} {fs : List (Str × V)} (h : fs.length < 900) : (putF g z (putF f y fs)).length < 1000 := Nat.lt_of_le_of_lt (putF_le g z _) (by have := putF_le f y fs; omega)
/-- an instance of the class of that name, with these attributes -/
def Ins (K : PySem.W.Frag) (H : Hp) (v : V) (c : Str) (fs : List (Str × V)) : Prop := ∃ p C dx, v = .ref p ∧ PySem.W.nsIn K mainGlobals c = some (some (.ref C)) ∧ H p = some (.ins C dx fs)
theorem Ins.mono {H' : Hp} {v : V} {c : Str} {fs : List (Str × V)} (e : Ex H H') (h : Ins K H v c fs) : Ins K H' v c fs := by
  obtain ⟨p, C, dx, h1, h2, h3⟩ := h
  exact ⟨p, C, dx, h1, h2, e _ _ h3⟩
theorem Ins.exB {H' : Hp} {v : V} {c : Str} {fs : List (Str × V)} {p : Addr} {ys : List V} (e : ExB p H H') (hp : H p = some (.lst ys)) (h : Ins K H v c fs) : Ins K H' v c fs := by
  obtain ⟨q, C, dx, h1, h2, h3⟩ := h
  exact ⟨q, C, dx, h1, h2, e _ _ (fun z => by subst z; rw [hp] at h3; cases h3) h3⟩
theorem Ins.at_ {v : V} {c : Str} {fs : List (Str × V)} {C' : Addr} (h : Ins K H v c fs) (n : PySem.W.nsIn K mainGlobals c = some (some (.ref C'))) : ∃ p dx, v = .ref p ∧ H p = some (.ins C' dx fs) := by
  obtain ⟨p, C, dx, h1, h2, h3⟩ := h
  rw [h2] at n
  cases n
  exact ⟨p, dx, h1, h3⟩
end
section
/-! enumerate of a tuple -/
theorem meets_enumT (l : Addr) (items : Array Value) (n : Nat) (dct : Option Addr) (sl : Array (Option Value)) :
    Meets (Builtin.«enumerate.__new__» ⟨[.type "enumerate", .ref l], []⟩) (fun _ R s => s.heap.get? l = some { cls := .type "tuple", dict := dct, data := .seq items n, slots := sl } ∧
      R (.ok (.ret (.ref (s.heap.push { cls := .type "tuple_iterator", data := .fields #[.ref l, .int 0 0] }).objs.size)))
        { s with heap := (s.heap.push { cls := .type "tuple_iterator", data := .fields #[.ref l, .int 0 0] }).push { cls := .type "enumerate", data := .fields #[.none, .bool false, .ref s.heap.objs.size, rawInt 0, .none, .none] } }) :=
  .of_wp fun prog w A R s h => by
    obtain ⟨hp, g, d, tk, os⟩ := s; obtain ⟨hl, h⟩ := h
    have hsub := sub_enumerate
    have hL : Heap.IsTuple (Shared.heap ⟨hp, g, d, tk, os⟩) l items := ⟨_, hl, rfl, n, rfl⟩
    wp_walk using AutoSeq1.wpAny_loadPart' hl
    refine wpAny_stack_any fun st => wpAny_pure ?_
    split
    · rename_i c _ _ _ _ _
      cases (c == Value.type "enumerate")
      · wp_walk using AutoSeq1.wpAny_loadPart' hl, wpAny_pyIter_tuple hL
        exact ⟨_, rfl, h⟩
      · wp_walk using AutoSeq1.wpAny_loadPart' hl, wpAny_pyIter_tuple hL
        exact ⟨_, rfl, h⟩
    · wp_walk using AutoSeq1.wpAny_loadPart' hl, wpAny_pyIter_tuple hL
      exact ⟨_, rfl, h⟩
theorem call_enumT {prog : Program} {w : World} {A : Around} {E : Value → Shared → Prop} {s : Shared} {l : Addr} {items : Array Value} {Q : Value → Shared → Prop} (hL : s.heap.IsTuple l items)
    (h : ∀ h', IsEnum h' (s.heap.objs.size + 1) s.heap.objs.size 0 .none → h'.IsTupleIter s.heap.objs.size l 0 → h'.objs.size = s.heap.objs.size + 2 →
      (∀ b o, s.heap.get? b = some o → h'.get? b = some o) → Q (.ref (s.heap.objs.size + 1)) { s with heap := h' }) :
    wpAny (model prog w) A (call (.type "enumerate") [.ref l]) Q E s := by
  obtain ⟨⟨c, dct, dt, sl⟩, hl, hc, n, hd⟩ := hL
  simp only at hc hd
  subst hc hd
  refine callType_new F.called_enumerate (by decide) (F.typeCall_enumerate_1 _) (F.newCall_enumerate_1 _) (fun obj => F.args_object_init_2 obj _) F.entry_enumerate_new
    (meets_enumT l items n dct sl) ⟨hl, ?_⟩
  have hz : (s.heap.push { cls := .type "tuple_iterator", data := .fields #[.ref l, .int 0 0] }).objs.size = s.heap.objs.size + 1 := Heap.size_push ..
  show _ ∧ _
  rw [hz]
  have he : IsEnum ((s.heap.push { cls := .type "tuple_iterator", data := .fields #[.ref l, .int 0 0] }).push
      { cls := .type "enumerate", data := .fields #[.none, .bool false, .ref s.heap.objs.size, rawInt 0, .none, .none] }) (s.heap.objs.size + 1) s.heap.objs.size 0 .none := by
    have z := Heap.get?_push_size (s.heap.push { cls := .type "tuple_iterator", data := .fields #[.ref l, .int 0 0] })
      (o := { cls := .type "enumerate", data := .fields #[.none, .bool false, .ref s.heap.objs.size, rawInt 0, .none, .none] }) rfl
    rw [hz] at z; exact z
  refine ⟨⟨_, he, rfl⟩, h _ he ⟨_, Heap.get?_push_of_some _ (Heap.get?_push_size _ rfl), rfl, rfl⟩ (by rw [Heap.size_push, hz]) fun b o x => Heap.get?_push_of_some _ (Heap.get?_push_of_some _ x)⟩
theorem drawsT {prog : Program} {w : World} {A : Around} (hh : A.handled = none) (it l : Addr) (hne : l ≠ it) (items : Array Value) :
    Draws prog w A it [it, l] items.size (fun i v => items[i]? = some v) (fun i h => h.IsTupleIter it l i ∧ h.IsTuple l items) where
  live := fun _ _ st => let ⟨o, ho, _⟩ := st.1; ⟨o, ho⟩
  frame := fun _ _ _ st hk => ⟨st.1.at fun o e => hk it (by simp) o e, st.2.at fun o e => hk l (by simp) o e⟩
  item := fun i s Q E hi st hQ => by
    refine RZ.nextOf_tuple_item st.1 st.2 (x := items[i]) (by simp [hi]) fun h' hit' hs' => ?_
    exact hQ _ h' s.toks (by simp [hi]) ⟨hit', st.2.at fun o e => (hs'.2 l hne).trans e⟩ hs'
  done := fun s Q E st hE => RZ.nextOf_tuple_end hh st.1 st.2 (by simp) hE
def IteT (K : PySem.W.Frag) (a : Addr) : It :=
  ⟨fun i H => ∃ (xs : List V) (x : V), SqT K H a xs ∧ xs[i]? = some x, fun i H v H' => ∃ T x, v = .ref T ∧ H T = none ∧ H' = upd H T (.tup [.int (i : Nat), x]) ∧ ∀ xs, SqT K H a xs → xs[i]? = some x, fun i H => ∃ xs : List V, SqT K H a xs ∧ xs.length ≤ i⟩
theorem turn_enumT {P : Program} {w : World} {K : PySem.W.Frag} {elts : List Expr} {kk : Nat} {tpos : Pos} (a e it : Addr) :
    Turn P w K (.Tuple elts kk tpos) (IteT K a) [e, it] e (fun i h => (∃ old, IsEnum h e it ((i : Nat) : Int) old) ∧ h.IsTupleIter it a i ∧ e ≠ it) where
  mem := by simp
  obj := fun i h st b hb => by
    obtain ⟨⟨old, he⟩, ⟨o, ho, hc, hd⟩, _⟩ := st
    have e' : b = e ∨ b = it := by simpa using hb
    rcases e' with z | z
    · rw [z]; exact ⟨_, he, fun v q => nomatch q⟩
    · rw [z]; exact ⟨o, ho, fun v q => by rw [hd] at q; cases q⟩
  keep := fun i h h' st k => let ⟨⟨old, he⟩, hi, hne⟩ := st; ⟨⟨old, k e (by simp) _ he⟩, hi.at fun o q => k it (by simp) o q, hne⟩
  item := by
    intro X hP hw hK hc i pins s σ H E I hf st hg
    subst hP hw hK
    obtain ⟨⟨old, he⟩, hit, hne⟩ := st
    obtain ⟨xs, x, hq, hx⟩ := hg
    obtain ⟨its, rv, p, hz⟩ := I.tuple hq
    obtain ⟨u, hu, ru⟩ := rv.get hx
    have hT0 : s.heap.IsTuple a its.toArray := p
    have hel : e < s.heap.objs.size := Heap.lt_size he
    have hil : it < s.heap.objs.size := by obtain ⟨_, q, _⟩ := hit; exact Heap.lt_size q
    have hai : a ≠ it := fun z => by
      obtain ⟨o1, q1, c1, _⟩ := hit
      obtain ⟨o2, q2, c2, _⟩ := hT0
      rw [z, q1] at q2; cases q2; rw [c1] at c2; exact absurd (Value.type.inj c2) (by decide)
    have hae : e ≠ a := fun z => by
      obtain ⟨o2, q2, c2, _⟩ := hT0
      have he2 : s.heap.get? e = _ := he
      rw [z, q2] at he2; cases he2; exact absurd (Value.type.inj c2) (by decide)
    refine wpAny_pyNext_enum_itemD (drawsT (by exact I.ok.hd hc) it a hai its.toArray) he ⟨hit, hT0⟩ (by have := (List.getElem?_eq_some_iff.mp hu).1; simpa using this) hne (by simp [hne, hae]) fun x' h' tk hx' ho hst' hT hsz hk => ?_
    have exu : x' = u := by
      have q : its.toArray[i]? = some x' := hx'
      have q' : its[i]? = some x' := by simpa using q
      rw [hu] at q'; exact (Option.some.inj q').symm
    subst exu
    refine ⟨_, rfl, wpAny_letOwnedTupleGo_enum (s := { s with heap := h', toks := tk + 1 }) ho fun h'' he' sb => ?_⟩
    have hT2 : h''.get? s.heap.objs.size = some { cls := .type "tuple", data := .seq #[.int i tk, x'] } := (sb.2 _ (Nat.ne_of_gt hel)).trans hT
    have new : ObjOk X.prog X.w (upd H s.heap.objs.size (.tup [.int (i : Nat), x])) h'' s.heap.objs.size (.tup [.int (i : Nat), x]) :=
      ⟨by show 2 ≤ sizeLine; decide, [.int i tk, x'], .cons ⟨_, rfl⟩ (.cons ru .nil), ⟨_, hT2, rfl, _, rfl⟩⟩
    have I1 : Inv X pins σ (upd H s.heap.objs.size (.tup [.int (i : Nat), x])) { s with heap := h'', toks := tk + 1 } :=
      I.turnedNew (ch := [e, it]) (fun b ob hb q => (sb.2 b (fun z => hb (by simp [z]))).trans (hk b ob (fun z => hb (by simp [z])) (fun z => hb (by simp [z])) q)) hf (Nat.le_refl _) new
    refine ⟨.ref s.heap.objs.size, _, I1, rfl, ⟨_, x, rfl, I.hok.fresh (Nat.le_refl _), rfl, fun ys hy => by rw [I.tuple_inj hy hq]; exact hx⟩, ⟨⟨x', ?_⟩, hst'.1.at fun o q => (sb.2 it (Ne.symm hne)).trans q, hne⟩, fun b hb => ?_⟩
    · have e1 : ((i + 1 : Nat) : Int) = (i : Int) + 1 := by omega
      rw [e1]; exact he'
    · have hb' : b < s.heap.objs.size := by
        have e' : b = e ∨ b = it := by simpa using hb
        rcases e' with z | z
        · rw [z]; exact hel
        · rw [z]; exact hil
      rw [upd_ne (Nat.ne_of_lt hb')]
      exact (hf b hb).1
  done := by
    intro X hP hw hK hc i pins s σ H E I hf st hg
    subst hP hw hK
    obtain ⟨⟨old, he⟩, hit, hne⟩ := st
    obtain ⟨xs, hq, hx⟩ := hg
    obtain ⟨its, rv, p, hz⟩ := I.tuple hq
    have hT0 : s.heap.IsTuple a its.toArray := p
    have hai : a ≠ it := fun z => by
      obtain ⟨o1, q1, c1, _⟩ := hit
      obtain ⟨o2, q2, c2, _⟩ := hT0
      rw [z, q1] at q2; cases q2; rw [c1] at c2; exact absurd (Value.type.inj c2) (by decide)
    obtain ⟨f0, f1, f2, f3, f4, f5⟩ := hf it (by simp)
    have hl := rv.length
    have hle : its.toArray.size ≤ i := by simp; omega
    have D : Draws X.prog X.w X.A.in1 it [it, a] i (fun _ _ => False) (fun j h => j = i ∧ h.IsTupleIter it a i ∧ h.IsTuple a its.toArray) :=
      { live := fun _ _ st => let ⟨o, ho, _⟩ := st.2.1; ⟨o, ho⟩
        frame := fun _ _ _ st hk => ⟨st.1, st.2.1.at fun o e => hk it (by simp) o e, st.2.2.at fun o e => hk a (by simp) o e⟩
        item := fun j s Q E hi st hQ => absurd st.1 (by omega)
        done := fun s Q E st hE => RZ.nextOf_tuple_end (by exact I.ok.hd hc) st.2.1 st.2.2 (by simpa using hle) hE }
    exact wpAny_pyNext_enum_endD D he ⟨rfl, hit, hT0⟩ fun h' eb => ⟨rfl, I.turned (t' := s.toks) (fun b o hb q => eb b o hb q) f0 f1 f3 f4 f5⟩
  self := fun A i s Q E st h => let ⟨⟨_, he⟩, _⟩ := st; wpAny_pyIter_enum he h
def enumKP (K : PySem.W.Frag) (R : It → Hp → Prop) (vs : List V) (H1 : Hp) : Prop := ∃ a, vs = [.ref a] ∧ ((∃ xs, SqL K H1 a xs ∧ R (Ite K a) H1) ∨ (∃ xs, SqT K H1 a xs ∧ R (IteT K a) H1))
def iEnumP (K : PySem.W.Frag) (ta : TA) : TI := fun σ H R => ta σ H fun vs H1 => enumKP K R vs H1
theorem pi_enumP {X : Cx} {e : Expr} {ta : TA} {p pos tpos : Pos} {elts : List Expr} {kk : Nat} (hg : Gl X "enumerate") (hm : X.mg "enumerate" = none) (ha : PA X [e] ta) (hs : starEach [e] X.env = [(false, eval e X.env)] := by rfl) :
    PI X (.Tuple elts kk tpos) (.Call (.Name "enumerate" p) [e] [] pos) (iEnumP X.K ta) := by
  refine ⟨fun pins s σ H R I h => ?_⟩
  refine Call_ (ld_blt I hg hm boot_enumerate (PyProof.Rows.callWith_type1 (thn (ha.run pos pins s σ H _ I h) fun us s1 ⟨vs, H1, I1, r1, q1⟩ => ?_) hs rfl))
  obtain ⟨a, ex, hq⟩ := q1
  subst ex
  cases r1 with
  | cons r rr =>
    cases rr
    cases r
    have two : ∀ b, (b = s1.heap.objs.size + 1 ∨ b = s1.heap.objs.size) → s1.heap.objs.size ≤ b := fun b e' => by
      rcases e' with z | z
      · rw [z]; exact Nat.le_add_right _ _
      · rw [z]; exact Nat.le_refl _
    rcases hq with ⟨xs, hq, q⟩ | ⟨xs, hq, q⟩
    · obtain ⟨its, rv, p', hz⟩ := I1.list hq
      refine call_enumerate_list p'.isList fun h' he hit hsz hk => wpAny_pyIter_enum he ?_
      have I2 : Inv X pins σ H1 { s1 with heap := h' } := I1.kept (t' := s1.toks) hk
      refine ⟨s1.heap.objs.size + 1, [s1.heap.objs.size + 1, s1.heap.objs.size], _, _, H1, rfl, I2, turn_enum a (s1.heap.objs.size + 1) s1.heap.objs.size, ⟨⟨.none, he⟩, hit, Nat.succ_ne_self _⟩, fun b hb => ?_, q⟩
      have hle := two b (by simpa using hb)
      exact I1.fpOk hle (I1.hok.fresh hle)
    · obtain ⟨its, rv, p', hz⟩ := I1.tuple hq
      refine call_enumT (show s1.heap.IsTuple a its.toArray from p') fun h' he hit hsz hk => wpAny_pyIter_enum he ?_
      have I2 : Inv X pins σ H1 { s1 with heap := h' } := I1.kept (t' := s1.toks) hk
      refine ⟨s1.heap.objs.size + 1, [s1.heap.objs.size + 1, s1.heap.objs.size], _, _, H1, rfl, I2, turn_enumT a (s1.heap.objs.size + 1) s1.heap.objs.size, ⟨⟨.none, he⟩, hit, Nat.succ_ne_self _⟩, fun b hb => ?_, q⟩
      have hle := two b (by simpa using hb)
      exact I1.fpOk hle (I1.hok.fresh hle)
theorem i_enumP {K : PySem.W.Frag} {σ : L2.St} {H : Hp} {ta : TA} {R : It → Hp → Prop} (k : ta σ H fun vs H1 => enumKP K R vs H1) : iEnumP K ta σ H R := k
theorem l_enumL {K : PySem.W.Frag} {H : Hp} {a : Addr} {xs : List V} {R : It → Hp → Prop} (h : SqL K H a xs) (k : R (Ite K a) H) : enumKP K R [.ref a] H := ⟨a, rfl, .inl ⟨xs, h, k⟩⟩
theorem l_enumT {K : PySem.W.Frag} {H : Hp} {a : Addr} {xs : List V} {R : It → Hp → Prop} (h : SqT K H a xs) (k : R (IteT K a) H) : enumKP K R [.ref a] H := ⟨a, rfl, .inr ⟨xs, h, k⟩⟩
theorem walk_enumT {K : PySem.W.Frag} {a : Addr} {xs : List V} : Walk (IteT K a) xs.length (fun H => SqT K H a xs) (YPair (fun i => some (.int (i : Nat))) (fun i => xs[i]?)) := by
  refine ⟨fun i _ hi q => ⟨xs, xs[i], q, by simp [hi]⟩, fun _ q => ⟨xs, q, Nat.le_refl _⟩, fun i H v H' _ q y => ?_⟩
  obtain ⟨T, x, h1, h2, h3, h4⟩ := y
  exact ⟨T, .int (i : Nat), x, h1, h2, h3, rfl, h4 xs q⟩
theorem mt_insP {X : Cx} : MtR X "list.insert" rInsP := mt_insert
def zipK (K : PySem.W.Frag) (R : It → Hp → Prop) (vs : List V) (H1 : Hp) : Prop := ∃ a b xs ys, vs = [.ref a, .ref b] ∧ ((SqL K H1 a xs ∧ SqL K H1 b ys ∧ R (Itz K a b) H1) ∨ (SqT K H1 a xs ∧ SqT K H1 b ys ∧ R (RZ.ItzT K a b) H1))
theorem i_zip {K : PySem.W.Frag} {σ : L2.St} {H : Hp} {ta : TA} {R : It → Hp → Prop} (k : ta σ H fun vs H1 => zipK K R vs H1) : RZ.iZipA K ta σ H R := k
theorem l_zipL {K : PySem.W.Frag} {H : Hp} {a b : Addr} {xs ys : List V} {R : It → Hp → Prop} (h : SqL K H a xs) (h2 : SqL K H b ys) (k : R (Itz K a b) H) : zipK K R [.ref a, .ref b] H := ⟨a, b, xs, ys, rfl, .inl ⟨h, h2, k⟩⟩
theorem l_zipT {K : PySem.W.Frag} {H : Hp} {a b : Addr} {xs ys : List V} {R : It → Hp → Prop} (h : SqT K H a xs) (h2 : SqT K H b ys) (k : R (RZ.ItzT K a b) H) : zipK K R [.ref a, .ref b] H := ⟨a, b, xs, ys, rfl, .inr ⟨h, h2, k⟩⟩
/-- the heap without p: what stands whatever becomes of p -/
def hide (p : Addr) (H : Hp) : Hp := fun a => if a = p then none else H a
theorem hide_none {p : Addr} {H : Hp} : hide p H p = none := if_pos rfl
theorem hide_at {p a : Addr} {H : Hp} {o : HO} (n : a ≠ p) (h : H a = some o) : hide p H a = some o := by unfold hide; rw [if_neg n]; exact h
theorem hide_ex {p : Addr} {H : Hp} : Ex (hide p H) H := fun a o h => by
  unfold hide at h
  split at h
  · cases h
  · exact h
theorem hide_t {K : PySem.W.Frag} {p a : Addr} {H : Hp} {xs ys : List V} (hp : H p = some (.lst ys)) (h : SqT K H a xs) : SqT K (hide p H) a xs := exB_t (fun _ _ n h => hide_at n h) hp h
theorem ExB.hidden {p : Addr} {H H' : Hp} (e : ExB p H H') : Ex (hide p H) H' := ExB.new hide_ex e hide_none
theorem walk_zipT {K : PySem.W.Frag} {a b : Addr} {xs ys : List V} {n : Nat} (hn : n = min xs.length ys.length) : Walk (RZ.ItzT K a b) n (fun H => SqT K H a xs ∧ SqT K H b ys) (YPair (fun i => xs[i]?) (fun i => ys[i]?)) := by
  subst hn
  refine ⟨fun i _ hi q => ?_, fun _ q => ⟨xs, ys, q.1, q.2, by omega⟩, fun i H v H' _ q y => ?_⟩
  · have h1 : i < xs.length := by omega
    have h2 : i < ys.length := by omega
    exact ⟨xs, ys, xs[i], ys[i], q.1, q.2, by simp [h1], by simp [h2]⟩
  · obtain ⟨T, x, z, h1, h2, h3, h4, h5⟩ := y
    exact ⟨T, x, z, h1, h2, h3, h4 xs q.1, h5 ys q.2⟩
/-- sum of a tuple of whole numbers -/
def rSumT (K : PySem.W.Frag) : List V → Hp → VK → Prop := fun vs H Q => ∃ (a : Addr) (ns : List Int), vs = [V.ref a] ∧ SqT K H a (ns.map V.int) ∧ Q (.int ns.sum) H
theorem cr_sumT {X : Cx} (hc : X.calm = true) : CallR X (.builtin "sum") (rSumT X.K) := by
  intro pins s σ H vs us Q I r h
  obtain ⟨a, ns, rfl, hs, q⟩ := h
  obtain ⟨its, rv, hl, _⟩ := I.tuple hs
  rw [Vals.ref1 r]
  have hl' : s.heap.IsTuple a its.toArray := hl
  have hi := rv.ints
  obtain ⟨xs, hx⟩ := hi.allInts.items
  have hn : numsOf its.toArray.toList = ns := by rw [show its.toArray.toList = its from rfl, hi.numsOf]
  rw [hx] at hl' hn
  rw [nums_intItems] at hn
  refine PySem.W.ktm_sumG (I.ok.hd hc) hl' fun h' tk t' hk => ?_
  rw [preSum_eq, List.take_of_length_le (by simp), hn]
  exact ⟨.int _, H, I.kept hk, ⟨_, rfl⟩, q⟩
def rSumP (K : PySem.W.Frag) : List V → Hp → VK → Prop := fun vs H Q => rSum K vs H Q ∨ rSumT K vs H Q
theorem l_sumL {K : PySem.W.Frag} {H : Hp} {Q : VK} {a : Addr} {ns : List Int} (h : SqL K H a (ns.map V.int)) (k : Q (.int ns.sum) H) : rSumP K [.ref a] H Q := .inl ⟨a, ns, rfl, h, k⟩
theorem l_sumTp {K : PySem.W.Frag} {H : Hp} {Q : VK} {a : Addr} {ns : List Int} (h : SqT K H a (ns.map V.int)) (k : Q (.int ns.sum) H) : rSumP K [.ref a] H Q := .inr ⟨a, ns, rfl, h, k⟩
def rIntP : List V → Hp → VK → Prop := fun xs H Q => (∃ i, xs = [.int i] ∧ Q (.int i) H) ∨ ∃ k, xs = [.bl k] ∧ Q (.int (if k then 1 else 0)) H
theorem call_intP {X : Cx} : CallR X (.type "int") rIntP := call_int1
theorem l_intB {H : Hp} {Q : VK} {b : Bool} (k : Q (.int (if b then 1 else 0)) H) : rIntP [.bl b] H Q := .inr ⟨b, rfl, k⟩
/-! a range with a step; an item changed in place; the greatest -/
def rngK3 (R : It → Hp → Prop) (vs : List V) (H1 : Hp) : Prop := ∃ (i j c : Int) (n : Nat), vs = [.int i, .int j, .int c] ∧ RgC i j c n ∧ R (Itc i c n) H1
theorem i_rng3 {σ : L2.St} {H : Hp} {ta : TA} {R : It → Hp → Prop} (k : ta σ H fun vs H1 => rngK3 R vs H1) : iRng3 ta σ H R := k
theorem l_rngD {i j : Int} {H : Hp} {R : It → Hp → Prop} (h : -(2 ^ 62) ≤ i ∧ i < 2 ^ 62 ∧ -(2 ^ 62) ≤ j ∧ j < 2 ^ 62) (k : R (Itc i (-1) (i - j).toNat) H) : rngK3 R [.int i, .int j, .int (-1)] H := ⟨i, j, -1, _, rfl, RgC.neg h.1 h.2.1 h.2.2.1 h.2.2.2, k⟩
theorem l_forC {lo c : Int} {n : Nat} {g : TG} {tb : TS} {D : Ends} {σ : L2.St} {H : Hp} (Pv : Nat → L2.St → Hp → Prop) (h0 : Pv 0 σ H)
    (hs : ∀ i σ H, i < n → Pv i σ H → g (.int (lo + (i : Nat) * c)) σ H fun σ2 H2 => tb { D with nx := Pv (i + 1), ct := Pv (i + 1), bk := D.nx } σ2 H2) (hd : ∀ σ H, Pv n σ H → D.nx σ H) : ForK g tb D (Itc lo c n) σ H :=
  for_it walk_rangeC Pv h0 (fun _ _ _ _ _ => True.intro) (fun i x σ H H' hi hp ⟨e, hx⟩ => by subst e; rw [hx]; exact hs i σ _ hi hp) hd
/-- xs[i] op= e on a list of whole numbers -/
def rGetL : V → V → Hp → VK → Prop := fun o i H Q => ∃ p xs j v, o = .ref p ∧ i = .int ((j : Nat) : Int) ∧ H p = some (.lst xs) ∧ j < 100000 ∧ xs[j]? = some v ∧ Q v H
theorem get_list {X : Cx} : PGet X rGetL := by
  intro pins s σ H o i ov iv Q I ro ri h
  obtain ⟨p, xs, j, v, rfl, rfl, hp, hj, hx, q⟩ := h
  cases ro
  obtain ⟨t, rfl⟩ := ri
  obtain ⟨its, r, pl, hz⟩ := I.list (SqL.of (K := X.K) hp)
  obtain ⟨u, hu, ru⟩ := r.get hx
  exact wpAny_getItem_list pl.isList (by omega) (by omega) (by simpa using hu) ⟨v, H, I, ru, q⟩
theorem l_get {H : Hp} {Q : VK} {p : Addr} {xs : List V} {j : Nat} {v : V} (h : H p = some (.lst xs)) (hj : j < 100000) (hx : xs[j]? = some v) (k : Q v H) : rGetL (.ref p) (.int (j : Nat)) H Q := ⟨p, xs, j, v, rfl, rfl, h, hj, hx, k⟩
theorem q_augS {to ti te : TE} {tget : V → V → Hp → VK → Prop} {tip : TIp} {tset : TSet} {D : Ends} {σ : L2.St} {H : Hp} {u : TS} (k : to σ H fun o H1 => ti σ H1 fun i H2 => tget o i H2 fun x H3 => te σ H3 fun y H4 => tip x y H4 fun z H5 => tset o i z H5 fun H6 => u D σ H6) : tSeq (tAugS to ti te tget tip tset) u D σ H := k
theorem z_augS {to ti te : TE} {tget : V → V → Hp → VK → Prop} {tip : TIp} {tset : TSet} {D : Ends} {σ : L2.St} {H : Hp} (k : to σ H fun o H1 => ti σ H1 fun i H2 => tget o i H2 fun x H3 => te σ H3 fun y H4 => tip x y H4 fun z H5 => tset o i z H5 fun H6 => D.nx σ H6) : tAugS to ti te tget tip tset D σ H := k
def rMaxP (K : PySem.W.Frag) : List V → Hp → VK → Prop := rMax K
theorem l_maxL {K : PySem.W.Frag} {H : Hp} {Q : VK} {a : Addr} {ns : List Int} (h : SqL K H a (ns.map V.int)) (hn : 0 < ns.length) (k : ∀ m, m ∈ ns → (∀ y, y ∈ ns → y ≤ m) → Q (.int m) H) : rMaxP K [.ref a] H Q := ⟨a, ns, rfl, h, hn, k⟩
/-! the rules that lean on K, with K told -/
section
variable {X : Cx} {K : PySem.W.Frag}
theorem op_addK (h : X.K = K) : OpR X (binaryOp .Add) (rAddP K) := h ▸ op_addP
theorem op_mulK (h : X.K = K) : OpR X (binaryOp .Mult) (rMulP K) := h ▸ op_mulP
theorem op_eqK (hu : X.A.units + 64 < cLine) (h : X.K = K) : OpR X (compareOp .Eq) (rEqP K) := h ▸ op_eqP hu
theorem op_neK (hu : X.A.units + 64 < cLine) (h : X.K = K) : OpR X (compareOp .NotEq) (rNeP K) := h ▸ op_neP hu
theorem op_inK (h : X.K = K) : OpR X (compareOp .In) (rIn K false) := h ▸ op_in_seq
theorem op_notInK (h : X.K = K) : OpR X (compareOp .NotIn) (rIn K true) := h ▸ op_notIn_seq
theorem call_lenK (h : X.K = K) : CallR X (.builtin "len") (rLenP K) := h ▸ call_lenP
theorem call_tupK (h : X.K = K) : CallR X (.type "tuple") (rTupOf K) := h ▸ call_tupOf
theorem call_listK (h : X.K = K) : CallR X (.type "list") (rListOf K) := h ▸ call_listOf
theorem call_isiK' (h : X.K = K) : CallR X (.builtin "isinstance") (rIsi K) := h ▸ call_isi
theorem cr_allK (hc : X.calm = true) (h : X.K = K) : CallR X (.builtin "all") (rAll K) := h ▸ cr_all hc
theorem cr_anyK (hc : X.calm = true) (h : X.K = K) : CallR X (.builtin "any") (rAny K) := h ▸ cr_any hc
theorem cr_sumK (hc : X.calm = true) (h : X.K = K) : CallR X (.builtin "sum") (rSumP K) := h ▸ (cr_sum hc).or (cr_sumT hc)
theorem cr_maxK (hc : X.calm = true) (h : X.K = K) : CallR X (.builtin "max") (rMaxP K) := h ▸ cr_max hc
theorem sl_K (h : X.K = K) : SlR X (rSlP K) := h ▸ sl_P
theorem ix_K (h : X.K = K) : IxR X (rIx K) := h ▸ ix_seq
theorem mt_indexK (h : X.K = K) : MtR X "list.index" (rIndex K) := h ▸ mt_index
theorem pi_seqK {tg l : Expr} {tl : TE} (h : X.K = K) (hl : PE X l tl) : PI X tg l (iSeq K tl) := h ▸ pi_seq hl
theorem pi_enumK {e : Expr} {ta : TA} {p pos tpos : Pos} {elts : List Expr} {kk : Nat} (h : X.K = K) (hg : Gl X "enumerate") (hm : X.mg "enumerate" = none) (ha : PA X [e] ta) (hs : starEach [e] X.env = [(false, eval e X.env)] := by rfl) :
    PI X (.Tuple elts kk tpos) (.Call (.Name "enumerate" p) [e] [] pos) (iEnumP K ta) := h ▸ pi_enumP hg hm ha hs
theorem pi_zipK {a b : Expr} {ta : TA} {p pos tpos : Pos} {elts : List Expr} {kk : Nat} (h : X.K = K) (hg : Gl X "zip") (hm : X.mg "zip" = none) (ha : PA X [a, b] ta) (hs : starEach [a, b] X.env = (false, eval a X.env) :: starEach [b] X.env := by rfl) (hs2 : (backTo pos (starEach [b] X.env)).any (·.1) = false := by rfl) :
    PI X (.Tuple elts kk tpos) (.Call (.Name "zip" p) [a, b] [] pos) (RZ.iZipA K ta) := h ▸ RZ.pi_zipA hg hm ha hs hs2
theorem pg_tupK {es : List Expr} {k : Nat} {t : TGs} {n : Nat} {pos : Pos} (h : X.K = K) (hc : X.calm = true) (hp : PGs X es t)
    (hn : (assignEach es X.env).length = n := by rfl) (hst : (assignEach es X.env).findIdx? (·.1) = none := by rfl) : PG X (.Tuple es k pos) (gTup K n t) := h ▸ pg_tup hc hp hn hst
theorem pe_fldK {e : Expr} {ta : TE} {f : Str} {pos : Pos} (h : X.K = K) (he : PE X e ta) (hb : attributeBase e f X.env (eval e X.env) = eval e X.env) : PE X (.Attribute e f pos) (tFld K ta f) := h ▸ pe_fld he hb
theorem pe_bmK {T : String} {r : V → List V → Hp → VK → Prop} {o : Expr} {to : TE} {t : TA} (h : X.K = K) (hp : PE X o (tBM X.K T r to t)) : PE X o (tBM K T r to t) := h ▸ hp
theorem pe_bm0K {T : String} {r : V → List V → Hp → VK → Prop} {o : Expr} {to : TE} (h : X.K = K) (hp : PE X o (tBM0 X.K T r to)) : PE X o (tBM0 K T r to) := h ▸ hp
end
end
/-! tuple(reversed(a tuple)) -/
theorem nolen_rt : typeLookup (.type "reversed") "__len__" = pure none := by rw [typeLookup_type, builtinLookup_eq_fast]; kernel_rfl
theorem slot_rt_hint : Slot "reversed" "__length_hint__" "reversed.__length_hint__" :=
  .of (owner := "reversed") (n := "__length_hint__") (by rw [typeLookup_type, builtinLookup_eq_fast]; kernel_rfl) (by decide +kernel) (by decide +kernel) (by decide +kernel)
    (by first | exact .inl (by decide +kernel) | exact .inr (by decide +kernel)) (by rw [isSubtype_type]; kernel_rfl)
theorem entry_rt_hint : entryFor table "reversed.__length_hint__" = some Builtin.«reversed.__length_hint__» := entryFor_of_tree (by kernel_rfl)
theorem args_rt_hint (a : Value) : argsOk "reversed.__length_hint__" ⟨[a], []⟩ := by
  unfold argsOk; rw [signature?_of (id := "reversed.__length_hint__") (n := ['_', '_', 't', 'n', 'i', 'h', '_', 'h', 't', 'g', 'n', 'e', 'l', '_', '_']) (o := ['d', 'e', 's', 'r', 'e', 'v', 'e', 'r']) (by kernel_rfl) RT.owner_rt]; kernel_rfl
theorem walks_rt {prog : Program} {w : World} {A : Around} (hh : A.handled = none) (I l : Addr) (hne : l ≠ I) (items : Array Value) (hn : items.size ≤ sizeLine) :
    Walks prog w A I [I, l] [I] items.size (fun i v => items[items.size - 1 - i]? = some v) (fun i h => i ≤ items.size ∧ RT.IsRt h I l ((items.size : Int) - 1 - (i : Int)) ∧ IsTup h l items) where
  sub := fun b hb => by simp at hb; simp [hb]
  frame := fun _ _ _ x hk => ⟨x.1, x.2.1.at fun o e => hk I (by simp) o e, by
    obtain ⟨o, ho, r⟩ := x.2.2
    exact ⟨o, hk l (by simp) o ho, r⟩⟩
  item := fun i s Q E hi x hQ => by
    have e : (items.size : Int) - 1 - (i : Int) = ((items.size - 1 - i : Nat) : Int) := by omega
    have hit := x.2.1
    rw [e] at hit
    have hx : items[items.size - 1 - i]? = some (items[items.size - 1 - i]'(by omega)) := Array.getElem?_eq_getElem (by omega)
    refine RT.next_rt_item hit x.2.2 hx hn fun h' hit' hs' => ?_
    have e2 : ((items.size - 1 - i : Nat) : Int) - 1 = (items.size : Int) - 1 - ((i + 1 : Nat) : Int) := by omega
    rw [e2] at hit'
    refine hQ _ h' _ hx ⟨hi, hit', ?_⟩ fun b o hb eo => (hs'.2 b (fun h => hb (by simp [h]))).trans eo
    obtain ⟨o, ho, r⟩ := x.2.2
    exact ⟨o, (hs'.2 l hne).trans ho, r⟩
  done := fun s Q E x hQ => by
    have e : (items.size : Int) - 1 - (items.size : Int) = -1 := by omega
    have hit := x.2.1
    rw [e] at hit
    exact RT.next_rt_end hh hit fun h' he' => hQ h' s.toks fun b o hb eo => he' b o (fun h => hb (by simp [h])) eo
  self := fun _ _ _ _ x hQ => RT.iter_rt x.2.1 hQ
section
variable {prog : Program} {w : World} {A : Around} {E : Value → Shared → Prop} {s : Shared}
theorem call_rt_hint {it t : Addr} {items : Array Value} {Q : Value → Shared → Prop} (hit : RT.IsRt s.heap it t ((items.size : Int) - 1)) (ht : IsTup s.heap t items) (hn : items.size ≤ sizeLine)
    (hQ : ∀ tk tk', Q (.int (items.size : Nat) tk) { s with toks := tk' }) : wpAny (model prog w) A (call (.builtin "reversed.__length_hint__") [.ref it]) Q E s := by
  obtain ⟨o, ho, hc, hd⟩ := id hit
  rw [sizeLine_eq] at hn
  refine wpAny_call_entry slot_rt_hint hit.typeIs entry_rt_hint ?_ (args_rt_hint _)
  unfold Builtin.«reversed.__length_hint__»
  refine wpAny_bind (wpAny_of_eq (a := Value.ref it) rfl ?_)
  try dsimp only
  refine wpAny_bind (wpAny_field ho hd (x := .ref t) rfl ?_)
  try dsimp only
  rw [if_neg (by simp)]
  try dsimp only
  refine wpAny_bind ?_
  refine PyProof.Rows.len_tuple ht (by omega) ?_
  refine wpAny_bind (wpAny_of_eq (a := some ((items.size : Nat) : Int)) rfl ?_)
  try dsimp only
  refine wpAny_bind (wpAny_field (s := { s with toks := s.toks + 1 + 1 }) ho hd (x := rawInt ((items.size : Int) - 1)) rfl ?_)
  try dsimp only [rawInt]
  rw [if_neg (by omega)]
  unfold retInt
  refine wpAny_bind (wpAny_mkInt ?_)
  have e : (items.size : Int) - 1 + 1 = (items.size : Nat) := by omega
  refine wpAny_pure ⟨_, rfl, ?_⟩
  rw [e]
  exact hQ _ _
theorem hint_rt {it t : Addr} {items : Array Value} {Q : Bool → Shared → Prop} (hit : RT.IsRt s.heap it t ((items.size : Int) - 1)) (ht : IsTup s.heap t items) (hn : items.size ≤ sizeLine)
    (hQ : ∀ tk', Q (items.size != 0) { s with toks := tk' }) : wpAny (model prog w) A (Builtin.List.listLengthHint (.ref it)) Q E s := by
  have hT := hit.typeIs
  unfold Builtin.List.listLengthHint
  refine wpAny_bind (wpAny_specialOf hT nolen_rt ?_)
  show wpAny _ A (specialOf (Value.ref it) (Str.ofString "__length_hint__") >>= _) _ _ _
  refine wpAny_bind (wpAny_specialOf hT slot_rt_hint.lookup ?_)
  generalize hid : ("reversed.__length_hint__" : String) = id0
  wp_delta
  rw [show splitId id0 = some ("reversed", "__length_hint__") from by subst hid; decide +kernel]
  subst hid
  refine wpAny_bind (wpAny_isInstance (b := true) hT (by rw [isSubtype_type]; kernel_rfl) ?_)
  rw [if_neg (by decide)]
  try dsimp only
  rw [if_neg (by decide +kernel)]
  refine wpAny_bind (wpAny_rule ?_)
  refine wpAny_bind (wpAny_of_eq (slot_rt_hint.bind _) ?_)
  try dsimp only
  refine wpAny_bind (wpAny_attempt (call_rt_hint hit ht hn fun tk tk' => ?_))
  try dsimp only
  have ea : asInt? (Value.int ((items.size : Nat) : Int) tk) = pure (some ((items.size : Nat) : Int)) := rfl
  rw [sizeLine_eq] at hn
  generalize hz : ((items.size : Nat) : Int) = z at *
  refine wpAny_bind ?_
  rw [ea]
  refine wpAny_pure ?_
  try dsimp only
  have f1 : Builtin.List.listFitsIndex z = true := by
    unfold Builtin.List.listFitsIndex
    rw [decide_eq_true (by omega), decide_eq_true (by omega)]; rfl
  have f2 : Builtin.List.listTooLong z.toNat = false := by
    unfold Builtin.List.listTooLong
    rw [sizeLine_eq]
    exact decide_eq_false (by omega)
  rw [if_neg (by rw [f1]; decide), if_neg (by omega), if_neg (by rw [f2]; decide)]
  refine wpAny_pure ?_
  have e : (z != 0) = (items.size != 0) := by
    rw [← hz]
    cases items.size with
    | zero => rfl
    | succ n => rfl
  rw [e]
  exact hQ _
theorem collect_rt {it l : Addr} {items : Array Value} {Q : List Value → Shared → Prop} (hh : A.handled = none) (hit : RT.IsRt s.heap it l ((items.size : Int) - 1)) (hl : IsTup s.heap l items) (hne : l ≠ it) (hn : items.size ≤ sizeLine)
    (hQ : ∀ (h' : Heap) (tk : Nat) (acc : Array Value), (∀ b o, b ≠ it → s.heap.get? b = some o → h'.get? b = some o) → ItemsOf (fun i v => items[items.size - 1 - i]? = some v) acc items.size → Q acc.toList { s with heap := h', toks := tk }) :
    wpAny (model prog w) A (collect (.ref it)) Q E s := by
  have W := (walks_rt (prog := prog) (w := w) (A := A.in1) hh it l hne items hn).toS
  obtain ⟨oi, hoi, _⟩ := id hit
  obtain ⟨ol, hol, _⟩ := id hl
  have hSi : s.heap.objs.size ≠ it := Nat.ne_of_gt (Heap.lt_size hoi)
  have hSl : s.heap.objs.size ≠ l := Nat.ne_of_gt (Heap.lt_size hol)
  have hSf : s.heap.objs.size ∉ [it, l] := by simp only [List.mem_cons, List.not_mem_nil, or_false, not_or]; exact ⟨hSi, hSl⟩
  unfold collect
  refine wpAny_bind (wpAny_runValue (codeAny_builtin F.entry_proto_collect ?_))
  rw [Around.under_plainId F.plain_proto_collect _]
  show wpAny _ A.in1 (newList [] >>= fun l' => again (.builtin "list.__iadd__" ⟨[l', .ref it], []⟩)) _ _ s
  refine wpAny_bind (wpAny_newObj_type ?_)
  refine wpAny_pure ⟨plainId_quiet F.plain_list_iadd _, codeAny_builtin F.entry_list_iadd ?_⟩
  rw [Around.under_plainId F.plain_list_iadd _]
  have k0 : ∀ b o, s.heap.get? b = some o → (s.heap.push { cls := .type "list", data := .seq ([] : List Value).toArray }).get? b = some o := fun b o e => Heap.get?_push_of_some _ e
  have hS₁ : (s.heap.push { cls := .type "list", data := .seq ([] : List Value).toArray }).get? s.heap.objs.size = some { cls := .type "list", data := .seq ([] : List Value).toArray } := Heap.get?_push_size _ rfl
  have hit1 : RT.IsRt (s.heap.push { cls := .type "list", data := .seq ([] : List Value).toArray }) it l ((items.size : Int) - 1) := hit.at fun o e => k0 _ _ e
  have tupK : ∀ {h h' : Heap}, (∀ b o, h.get? b = some o → b ≠ s.heap.objs.size → h'.get? b = some o) → IsTup h l items → IsTup h' l items := fun k ⟨o, ho, r⟩ => ⟨o, k _ _ ho (Ne.symm hSl), r⟩
  have hl1 : IsTup (s.heap.push { cls := .type "list", data := .seq ([] : List Value).toArray }) l items := tupK (fun b o e _ => k0 b o e) hl
  have hT : ({ s with heap := s.heap.push { cls := .type "list", data := .seq ([] : List Value).toArray } } : Shared).TypeIs (.ref it) "reversed" := RT.IsRt.typeIs (s := { s with heap := s.heap.push { cls := .type "list", data := .seq ([] : List Value).toArray } }) hit1
  have h1 : Builtin.List.listSameRef (.ref s.heap.objs.size) (.ref it) = false := by simp [Builtin.List.listSameRef, hSi]
  show wpAny _ A.in1 (Builtin.List.listExtendWith (.ref s.heap.objs.size) (.ref it) (.ref s.heap.objs.size)) _ _ _
  unfold Builtin.List.listExtendWith
  refine wpAny_bind (wpAny_typeOf hT ?_)
  rw [if_neg (by rw [h1]; decide)]
  refine wpAny_bind (RT.iter_rt (s := { s with heap := s.heap.push { cls := .type "list", data := .seq ([] : List Value).toArray } }) hit1 ?_)
  refine wpAny_bind (wpAny_holding ?_)
  refine hint_rt (s := { s with heap := s.heap.push { cls := .type "list", data := .seq ([] : List Value).toArray } }) hit1 hl1 hn fun tk' => ?_
  have e0 : ((items.size : Nat) : Int) - 1 - ((0 : Nat) : Int) = (items.size : Int) - 1 := by omega
  by_cases hz : items.size = 0
  · rw [if_neg (by rw [hz]; decide +kernel)]
    have hS₃ := hS₁
    have oth : ∀ b o, b ≠ s.heap.objs.size → s.heap.get? b = some o → (s.heap.push { cls := .type "list", data := .seq ([] : List Value).toArray }).get? b = some o := fun b o _ e => k0 b o e
    generalize s.heap.push { cls := .type "list", data := .seq ([] : List Value).toArray } = h3 at hS₃ oth ⊢
    have hit3 : RT.IsRt h3 it l ((items.size : Int) - 1) := hit.at fun o e => oth _ _ (Ne.symm hSi) e
    have hl3 : IsTup h3 l items := by
      obtain ⟨o, ho, r⟩ := hl
      exact ⟨o, oth _ _ (Ne.symm hSl) ho, r⟩
    refine wpAny_pure ⟨plainId_quiet F.plain_extend_loop _, codeAny_extend_loopS W hn _ hSf _ items.size 0 _ _ _ rfl (Nat.zero_le _) ⟨Nat.zero_le _, by rw [e0]; exact hit3, hl3⟩ hS₃ (ItemsOf.nil _) fun s' acc' c' hm hS' hacc => ?_⟩
    show wpAny _ A (load s.heap.objs.size >>= _) _ _ s'
    refine wpAny_bind (wpAny_load hS' ?_)
    refine wpAny_pure ?_
    rw [Moved.eq_with hm]
    refine hQ s'.heap s'.toks acc' (fun b o hb e => hm.heap b o (fun hmem => ?_) (oth _ _ (fun z => absurd (Heap.lt_size e) (by rw [z]; exact Nat.lt_irrefl _)) e)) hacc
    rcases List.mem_cons.mp hmem with e' | hmem
    · exact absurd (Heap.lt_size e) (by rw [e']; exact Nat.lt_irrefl _)
    · exact hb (List.mem_singleton.mp hmem)
  · rw [if_pos (by rw [show (items.size != 0) = true by simp [hz]]; rfl)]
    refine wpAny_bind (wpAny_rule ?_)
    refine wpAny_bind ?_
    show wpAny _ A.in1 (updateSeq s.heap.objs.size (·.push .none) >>= fun _ => updateSeq s.heap.objs.size (·.pop)) _ _ _
    refine wpAny_bind (wpAny_updateSeq hS₁ rfl ?_)
    have hS₂ := Heap.get?_update_self (Obj.mapSeq (·.push Value.none)) hS₁ rfl
    refine wpAny_updateSeq hS₂ rfl ?_
    have hS₃ := Heap.get?_update_self (Obj.mapSeq (·.pop)) hS₂ rfl
    have oth : ∀ b o, b ≠ s.heap.objs.size → s.heap.get? b = some o →
      (((s.heap.push { cls := .type "list", data := .seq ([] : List Value).toArray }).update s.heap.objs.size (Obj.mapSeq (·.push Value.none))).update s.heap.objs.size (Obj.mapSeq (·.pop))).get? b = some o :=
      fun b o hb e => (Heap.get?_update_other _ _ (Ne.symm hb)).trans ((Heap.get?_update_other _ _ (Ne.symm hb)).trans (k0 b o e))
    generalize ((s.heap.push { cls := .type "list", data := .seq ([] : List Value).toArray }).update s.heap.objs.size (Obj.mapSeq (·.push Value.none))).update s.heap.objs.size (Obj.mapSeq (·.pop)) = h3 at hS₃ oth ⊢
    have hit3 : RT.IsRt h3 it l ((items.size : Int) - 1) := hit.at fun o e => oth _ _ (Ne.symm hSi) e
    have hl3 : IsTup h3 l items := by
      obtain ⟨o, ho, r⟩ := hl
      exact ⟨o, oth _ _ (Ne.symm hSl) ho, r⟩
    refine wpAny_pure ⟨plainId_quiet F.plain_extend_loop _, codeAny_extend_loopS W hn _ hSf _ items.size 0 _ _ _ rfl (Nat.zero_le _) ⟨Nat.zero_le _, by rw [e0]; exact hit3, hl3⟩ hS₃ (ItemsOf.nil _) fun s' acc' c' hm hS' hacc => ?_⟩
    show wpAny _ A (load s.heap.objs.size >>= _) _ _ s'
    refine wpAny_bind (wpAny_load hS' ?_)
    refine wpAny_pure ?_
    rw [Moved.eq_with hm]
    refine hQ s'.heap s'.toks acc' (fun b o hb e => hm.heap b o (fun hmem => ?_) (oth _ _ (fun z => absurd (Heap.lt_size e) (by rw [z]; exact Nat.lt_irrefl _)) e)) hacc
    rcases List.mem_cons.mp hmem with e' | hmem
    · exact absurd (Heap.lt_size e) (by rw [e']; exact Nat.lt_irrefl _)
    · exact hb (List.mem_singleton.mp hmem)
theorem code_tuple_new_rt {it l : Addr} {items : Array Value} {Q₁ : Value → Shared → Prop} (hh : A.handled = none) (hit : RT.IsRt s.heap it l ((items.size : Int) - 1)) (hl : IsTup s.heap l items) (hne : l ≠ it) (hn : items.size ≤ sizeLine)
    (h : ∀ (h' : Heap) (tk : Nat) (acc : Array Value), (∀ b o, b ≠ it → s.heap.get? b = some o → h'.get? b = some o) → ItemsOf (fun i v => items[items.size - 1 - i]? = some v) acc items.size →
      Q₁ (.ref h'.objs.size) { s with heap := h'.push { cls := .type "tuple", data := .seq acc }, toks := tk }) :
    codeAny (model prog w) A (.call (.builtin "tuple.__new__") ⟨[.type "tuple", .ref it], []⟩) (wants Q₁ E) s := by
  refine codeAny_of_tree ?_
  show wpAny _ A.in1 (do checkBuiltinCall "tuple.__new__" ⟨[.type "tuple", .ref it], []⟩; again (.builtin "tuple.__new__" ⟨[.type "tuple", .ref it], []⟩)) _ _ s
  refine wpAny_bind (wpAny_of_eq (F.newCall_tuple_1 _) (wpAny_pure ⟨plainId_quiet F.plain_tuple_new _, codeAny_builtin F.entry_tuple_new ?_⟩))
  rw [Around.under_plainId F.plain_tuple_new _]
  have hsub := sub_tuple_self
  have hinit := init_tuple_lookup
  have hmh := madeHere_tuple
  have hTI : s.TypeIs (.ref it) "reversed" := hit.typeIs
  have hh1 : A.in1.handled = none := hh
  wp_walk using wpAny_typeOf hTI, collect_rt (A := A.in1) hh1 hit hl hne hn
  intro h' tk acc hk hacc
  show wpAny _ _ (Builtin.Tuple.tupleExact acc.toList.toArray >>= fun v => ret v) _ _ _
  unfold Builtin.Tuple.tupleExact
  refine wpAny_bind (wpAny_newObj_type ?_ (by show acc.toList.toArray.size ≤ sizeLine; simp only [Array.toArray_toList]; rw [hacc.1]; exact hn))
  refine wpAny_pure ?_
  have e : acc.toList.toArray = acc := by simp
  rw [e]
  exact h h' tk acc hk hacc
theorem call_tuple_rt {it l : Addr} {items : Array Value} {Q : Value → Shared → Prop} (hh : A.handled = none) (hit : RT.IsRt s.heap it l ((items.size : Int) - 1)) (hl : IsTup s.heap l items) (hne : l ≠ it) (hn : items.size ≤ sizeLine)
    (hQ : ∀ (h' : Heap) (tk : Nat) (acc : Array Value), (∀ b o, b ≠ it → s.heap.get? b = some o → h'.get? b = some o) → ItemsOf (fun i v => items[items.size - 1 - i]? = some v) acc items.size →
      Q (.ref h'.objs.size) { s with heap := h'.push { cls := .type "tuple", data := .seq acc }, toks := tk }) :
    wpAny (model prog w) A (call (.type "tuple") [.ref it]) Q E s := by
  refine callType_codes (Q₁ := fun obj s₁ => s₁.TypeIs obj "tuple" ∧ Q obj s₁) F.called_tuple (F.typeCall_tuple_1 _) F.entry_object_init
    (code_tuple_new_rt (A := A.in1) hh hit hl hne hn fun h' tk acc hk hacc => ⟨⟨_, Heap.get?_push_size _ rfl, rfl⟩, hQ h' tk acc hk hacc⟩) fun obj s₁ h₁ => ?_
  exact ⟨h₁.1, F.args_object_init_2 obj _, object_init_meets F.called_tuple.init.lookup F.called_tuple.made (by decide) prog w A.in1 _ s₁ ⟨h₁.1, rfl, h₁.2⟩⟩
end
section
variable {X : Cx}
def tTupRevT (K : PySem.W.Frag) (te : TE) : TE := fun σ H Q => te σ H fun v H1 => ∃ (a : Addr) (xs : List V), v = .ref a ∧ SqT K H1 a xs ∧ ∀ q, H1 q = none → Q (.ref q) (upd H1 q (.tup xs.reverse))
theorem pe_tupRevT {e : Expr} {te : TE} {p p2 pos pos2 : Pos} (hc : X.calm = true) (hg : Gl X "tuple") (hm : X.mg "tuple" = none) (hg2 : Gl X "reversed") (hm2 : X.mg "reversed" = none) (he : PE X e te)
    (hs : starEach [e] X.env = (false, eval e X.env) :: starEach [] X.env := by rfl)
    (hs2 : starEach [.Call (.Name "reversed" p2) [e] [] pos2] X.env = (false, eval (.Call (.Name "reversed" p2) [e] [] pos2) X.env) :: starEach [] X.env := by rfl) :
    PE X (.Call (.Name "tuple" p) [.Call (.Name "reversed" p2) [e] [] pos2] [] pos) (tTupRevT X.K te) := by
  refine ⟨fun pins s σ H Q I h => ?_⟩
  refine Call_ (ld_blt I hg hm boot_tuple (PyProof.Rows.callWith_type1 (args_cons (Call_ (ld_blt I hg2 hm2 PyProof.Rows.boot_reversed (PyProof.Rows.callWith_type1 (args_cons (thn (he.run pins s σ H _ I h) fun u s1 ⟨v, H1, I1, r1, q1⟩ => args_nil ?_) hs) hs rfl))) hs2) hs2 rfl))
  obtain ⟨a, xs, ev, hq, q⟩ := q1
  subst ev
  obtain rfl : u = Value.ref a := r1
  obtain ⟨its, rv, p', hz⟩ := I1.tuple hq
  have p2' : IsTup s1.heap a its.toArray := p'
  have hn63 := line63
  have hn : its.toArray.size ≤ sizeLine := by rw [List.size_toArray, ← rv.length]; exact hz
  have hlen := rv.length
  refine RT.call_reversed_tup p2' (fun A E Q k => PyProof.Rows.len_tuple p2' (by simp only [List.size_toArray] <;> omega) k) (args_nil ?_)
  obtain ⟨ol, hol, _⟩ := id p2'
  have hne : a ≠ s1.heap.objs.size := Nat.ne_of_lt (Heap.lt_size hol)
  have k0 : ∀ b o, s1.heap.get? b = some o → (s1.heap.push (RT.rtObj a ((its.toArray.size : Int) - 1))).get? b = some o := fun b o e => Heap.get?_push_of_some _ e
  have I2 : Inv X pins σ H1 { s1 with heap := s1.heap.push (RT.rtObj a ((its.toArray.size : Int) - 1)), toks := s1.toks + 1 + 1 } := I1.kept (t' := s1.toks + 1 + 1) k0
  obtain ⟨f0, f1, f2, f3, f4, f5⟩ := I1.fpOk (H' := H1) (b := s1.heap.objs.size) (Nat.le_refl _) (I1.hok.fresh (Nat.le_refl _))
  have hl2 : IsTup (s1.heap.push (RT.rtObj a ((its.toArray.size : Int) - 1))) a its.toArray := by
    obtain ⟨o, ho, r⟩ := p2'
    exact ⟨o, k0 _ _ ho, r⟩
  refine call_tuple_rt (s := { s1 with heap := s1.heap.push (RT.rtObj a ((its.toArray.size : Int) - 1)), toks := s1.toks + 1 + 1 }) (I1.ok.hd hc) ⟨_, Heap.get?_push_size _ rfl, rfl, rfl⟩ hl2 hne hn fun h' tk acc hk hi => ?_
  have I3 : Inv X pins σ H1 { s1 with heap := h', toks := tk } := I2.turned (t' := tk) (fun b o hb e => hk b o hb e) f0 f1 f3 f4 f5
  refine ⟨.ref h'.objs.size, upd H1 h'.objs.size (.tup xs.reverse), I3.laid (t' := tk) (fun c o e => Heap.get?_push_of_some _ e) (Nat.le_refl _) (show ObjOk X.prog X.w _ _ _ (.tup xs.reverse) from ⟨by rw [List.length_reverse]; exact hz, acc.toList, RT.vals_rev rv hi, ?_⟩), rfl, q _ (I3.hok.fresh (Nat.le_refl _))⟩
  rw [Array.toArray_toList]
  exact IsTup.new _ _
end
theorem pe_tupRevTK {X : Cx} {K : PySem.W.Frag} (h : X.K = K) {e : Expr} {te : TE} (hp : PE X e (tTupRevT X.K te)) : PE X e (tTupRevT K te) := h ▸ hp
def tupRevK (K : PySem.W.Frag) (Q : VK) (v : V) (H : Hp) : Prop := ∃ (a : Addr) (xs : List V), v = .ref a ∧ SqT K H a xs ∧ ∀ q, H q = none → Q (.ref q) (upd H q (.tup xs.reverse))
theorem w_tupRev {K : PySem.W.Frag} {te : TE} {σ : L2.St} {H : Hp} {Q : VK} (k : te σ H (tupRevK K Q)) : tTupRevT K te σ H Q := k
theorem l_tupRev {K : PySem.W.Frag} {H : Hp} {Q : VK} {a : Addr} {xs : List V} (h : SqT K H a xs) (k : ∀ q H', H q = none → Ex H H' → H' q = some (.tup xs.reverse) → Q (.ref q) H') : tupRevK K Q (.ref a) H := ⟨a, xs, rfl, h, fun q hq => k q _ hq (Evl.Ex.new hq) upd_same⟩
/-! a, b = x, y; is not True -/
theorem q_par {i j : Nat} {ta : TA} {D : Ends} {σ : L2.St} {H : Hp} {u : TS} (k : ta σ H fun vs H1 => ∃ v w, vs = [v, w] ∧ u D ((σ.set i (some v)).set j (some w)) H1) : tSeq (tPar i j ta) u D σ H := k
theorem w_two {a b : V} {P : V → V → Prop} (k : P a b) : ∃ v w, [a, b] = [v, w] ∧ P v w := ⟨a, b, rfl, k⟩
theorem l_notB {a b : Bool} {H : Hp} {Q : VK} (k : Q (.bl (!decide (a = b))) H) : rNotB (.bl a) (.bl b) H Q := ⟨a, b, rfl, rfl, k⟩
theorem l_isB {a b : Bool} {H : Hp} {Q : VK} (k : Q (.bl (decide (a = b))) H) : rIsB (.bl a) (.bl b) H Q := ⟨a, b, rfl, rfl, k⟩
/-! sorted(set(xs)) of whole numbers, xs a list or a tuple, fewer than 64 -/
section
variable {P : Program} {w : World} {A : Around} {E : Value → Shared → Prop} {s : Shared}
theorem call_set_lstI {l : Addr} {items : Array Value} (ns : List Int) {Q : Value → Shared → Prop} (hh : A.handled = none) (hl : s.heap.IsList l items) (hit : IntsAre items.toList ns) (hb : ns.length + 1 < scanBound)
    (h : ∀ (h' : Heap) (tk c : Nat), SetR w h' s.heap.objs.size (fun j => decide (j ∈ ns)) c → c ≤ ns.length → (∀ b o, s.heap.get? b = some o → h'.get? b = some o) → Q (.ref s.heap.objs.size) { s with heap := h', toks := tk }) :
    wpAny (model P w) A (call (.type "set") [.ref l]) Q E s := by
  have hisz : items.size = ns.length := by
    have q := IntsAre.length hit
    rw [Array.length_toList] at q
    exact q
  obtain ⟨c, tl, hmro⟩ := F.called_set.mro
  have hmade := F.called_set.made
  have hsub := F.called_set.sub
  refine wpAny_call (codeAny_of_tree ?_)
  show wpAny _ _ (callAny (.type "set") _) _ _ _
  refine wpAny_pure ⟨Code.quiet_builtin _ (by decide +kernel), codeAny_builtin F.entry_type_call ?_⟩
  rw [Around.under_plain (weight_type_call_type "set" [.ref l] []) rfl]
  have h1 := F.called_set.notType
  have h2 := F.called_set.canCreate
  have hct := F.typeCall_set_1 (.ref l)
  repeat (any_goals (first | assumption | wp_step))

  refine codeAny_mono (code_set_led1 (.ref l) (E := E) (Q₁ := fun obj s₁ => obj = .ref s.heap.objs.size ∧ s₁ = { s with heap := s.heap.push { cls := .type "set", dict := none, data := .set #[] 0 (.fresh 0 0 (!w.params.followText "set-order")) } }) ⟨rfl, rfl⟩) fun r s₁ hr => ?_
  cases r with
  | error e => exact hr
  | ok fl =>
    cases fl with
    | ret obj =>
      obtain ⟨rfl, rfl⟩ := hr
      have hS : (s.heap.push { cls := .type "set", dict := none, data := .set #[] 0 (.fresh 0 0 (!w.params.followText "set-order")) }).get? s.heap.objs.size = some { cls := .type "set", dict := none, data := .set #[] 0 (.fresh 0 0 (!w.params.followText "set-order")) } := Heap.get?_push_size _ rfl
      have hT : Shared.TypeIs { s with heap := s.heap.push { cls := .type "set", dict := none, data := .set #[] 0 (.fresh 0 0 (!w.params.followText "set-order")) } } (.ref s.heap.objs.size) "set" := ⟨_, hS, rfl⟩
      have hli := F.called_set.init.lookup
      have hbi := F.called_set.init.bind (.ref s.heap.objs.size)
      repeat (any_goals (first | assumption | wp_step))

      refine codeAny_mono (codeAny_call_builtin (R := wants (fun r s₂ => r = .none ∧ ∃ h' tk c, s₂ = { s with heap := h', toks := tk } ∧ SetR w h' s.heap.objs.size (fun j => decide (j ∈ ns)) c ∧ c ≤ ns.length ∧
          (∀ b o, s.heap.get? b = some o → h'.get? b = some o)) E) F.called_set.init.plain F.entry_set_init (check_set_init_1 hT ?_)) fun r₂ s₂ hr₂ => ?_
      · obtain ⟨ol, hol, hcl, nl, hdl⟩ := hl
        obtain ⟨ocls, odict, odata, oslots⟩ := ol
        simp only at hcl hdl
        subst hcl; subst hdl
        have hol' : (s.heap.push { cls := .type "set", dict := none, data := .set #[] 0 (.fresh 0 0 (!w.params.followText "set-order")) }).get? l = some { cls := .type "list", dict := odict, data := .seq items nl, slots := oslots } := Heap.get?_push_of_some _ hol
        have hsls := F.sub_list_set
        have hslf := F.sub_list_frozenset
        have hne : (Value.type "list" == Value.type "dict") = false := by decide
        have hl1 : (s.heap.push { cls := .type "set", dict := none, data := .set #[] 0 (.fresh 0 0 (!w.params.followText "set-order")) }).IsList l items := ⟨_, hol', rfl, nl, rfl⟩
        unfold Builtin.«set.__init__» noKeywords Builtin.Frozenset.updateFrom
        generalize hPI : pyIter = PI
        wp_walk
        subst hPI

        refine wpAny_pyIter_list hl1 ?_
        refine wpAny_bind (wpAny_runValue ?_)
        have hlS : l < s.heap.objs.size := Heap.lt_size hol
        have hh3 : A.in1.in1.in1.handled = none := by simp [hh]
        have hz1 : (s.heap.push { cls := .type "set", dict := none, data := .set #[] 0 (.fresh 0 0 (!w.params.followText "set-order")) }).objs.size = s.heap.objs.size + 1 := Heap.size_push ..
        have hneI : l ≠ (s.heap.push { cls := .type "set", dict := none, data := .set #[] 0 (.fresh 0 0 (!w.params.followText "set-order")) }).objs.size := by
          rw [Heap.size_push]; exact Nat.ne_of_lt (Nat.lt_succ_of_lt hlS)
        have hSf : s.heap.objs.size ∉ [(s.heap.push { cls := .type "set", dict := none, data := .set #[] 0 (.fresh 0 0 (!w.params.followText "set-order")) }).objs.size, l] := by
          rw [Heap.size_push]; simp only [List.mem_cons, List.mem_singleton, List.not_mem_nil, or_false, not_or]
          exact ⟨Nat.ne_of_lt (Nat.lt_succ_self _), Nat.ne_of_gt hlS⟩
        have hval : ∀ (i : Nat) (v : Value), items[i]? = some v → ∃ k t, ns[i]? = some k ∧ v = .int k t := fun i v hv => by
          have hi : i < ns.length := by rw [← hisz]; exact (Array.getElem?_eq_some_iff.mp hv).1
          obtain ⟨t, e⟩ := PyProof.Rows.IntsAre.int_at hit i v (by rw [Array.getElem?_toList]; exact hv)
          refine ⟨ns[i], t, List.getElem?_eq_getElem hi, ?_⟩
          rw [e, List.getD_eq_getElem?_getD, List.getElem?_eq_getElem hi] <;> rfl
        refine set_update_ints ((Walks.list hh3 _ l hneI items).toS) s.heap.objs.size
          hSf ns hisz hb hval (items.size - 0) 0 _ (by omega) (Nat.zero_le _)
          ⟨⟨_, Heap.get?_push_size _ rfl, rfl, rfl⟩, (hl1.push _)⟩ ?hS0 ?hR
        case hS0 =>
          have hget : ((s.heap.push { cls := .type "set", dict := none, data := .set #[] 0 (.fresh 0 0 (!w.params.followText "set-order")) }).push { cls := .type "list_iterator", data := .fields #[.ref l, .int 0 0] }).get? s.heap.objs.size
              = some { cls := .type "set", dict := none, data := .set #[] 0 (.fresh 0 0 (!w.params.followText "set-order")) } := Heap.get?_push_of_some _ hS
          exact ⟨0, Nat.le_refl 0, setR_new_at hget⟩
        case hR =>
          intro s' c' hm hc' hS'
          obtain ⟨h', g2, d', tk', os'⟩ := s'
          have eg : g2 = s.gens := hm.gens
          have ed : d' = s.drawn := hm.drawn
          have eo : os' = s.os := hm.os
          subst eg; subst ed; subst eo
          show wpAny _ _ _ _ _ _
          refine wpAny_pure ?_
          show wpAny _ _ (ret Value.none) _ _ _
          rw [hisz] at hc'
          refine wpAny_pure ⟨rfl, h', tk', c', rfl, hS', hc', fun b o e => ?_⟩
          have hb0 : b < s.heap.objs.size := Heap.lt_size e
          have hb1 : b ≠ s.heap.objs.size := Nat.ne_of_lt hb0
          have hb2 : b ≠ (s.heap.push { cls := .type "set", dict := none, data := .set #[] 0 (.fresh 0 0 (!w.params.followText "set-order")) }).objs.size := by
            rw [Heap.size_push]; exact Nat.ne_of_lt (Nat.lt_succ_of_lt hb0)
          exact hm.heap b o (by simp only [List.mem_cons, List.mem_singleton, List.not_mem_nil, or_false, not_or]; exact ⟨hb1, hb2⟩) (Heap.get?_push_of_some _ (Heap.get?_push_of_some _ e))

      · cases r₂ with
        | error e => exact hr₂
        | ok fl₂ =>
          cases fl₂ with
          | ret r =>
            obtain ⟨rfl, h', tk, c', rfl, hS', hc', hk'⟩ := hr₂
            repeat (any_goals (first | assumption | wp_step))
            exact h _ _ _ hS' hc' hk'
          | _ => exact hr₂.elim
    | _ => exact hr.elim

end
def sortSetK (K : PySem.W.Frag) (Q : VK) (v : V) (H : Hp) : Prop := ∃ (a : Addr) (ns : List Int), v = .ref a ∧ (SqT K H a (ns.map V.int) ∨ SqL K H a (ns.map V.int)) ∧ ns.length < 64 ∧
  ∀ (out : List Int) (p : Addr), out.Pairwise (· < ·) → (∀ k, k ∈ out ↔ k ∈ ns) → out.length ≤ ns.length → H p = none → Q (.ref p) (upd H p (.lst (out.map V.int)))
/-! ### sorting tuples of whole numbers, any number of them -/
section
open Srt
variable {prog : Program} {w : World} {A : Around} {E : Value → Shared → Prop} {s : Shared}
def byCode (g : Heap) (B : Int) (v u : Value) : Bool := decide (TS.code B (TS.intsOf g v) < TS.code B (TS.intsOf g u))
theorem byCode_swo (g : Heap) (B : Int) : SrtO.Swo (byCode g B) := by
  refine ⟨fun x y h => ?_, fun x y z h1 h2 => ?_⟩
  · have a := of_decide_eq_true h
    exact decide_eq_false (by omega)
  · have a := of_decide_eq_false h1
    have b := of_decide_eq_false h2
    exact decide_eq_false (by omega)
theorem tups_cmp {d : Nat} {B : Int} {vs : List Value} (x : TS.TupsOk s.heap d B vs) (g : Heap) (hg : ∀ v ∈ vs, TS.intsOf g v = TS.intsOf s.heap v) : SrtO.Cmp prog w A s (tuples' true) (fun p => p.1 ∈ vs) (SrtO.lt2 (byCode g B)) := by
  intro p q hm hm'
  obtain ⟨ns, tp, lp, bp⟩ := x _ hm
  obtain ⟨ms, tq, lq, bq⟩ := x _ hm'
  show wpAny (model prog w) A (keyLt' (tuples' true) p.1 q.1) (fun r s' => s' = s ∧ r = byCode g B p.1 q.1) (fun _ _ => False) s
  have e : byCode g B p.1 q.1 = decide (TS.code B ns < TS.code B ms) := by
    unfold byCode
    rw [hg _ hm, hg _ hm', tp.ints, tq.ints]
  rw [e]
  obtain ⟨a, xs, e1, ⟨o, ho, hc, n, hdt⟩, i⟩ := tp
  obtain ⟨a', ys, e2, ⟨o', ho', hc', n', hdt'⟩, i'⟩ := tq
  rw [e1, e2]
  refine PySem.W.kat_lt ho hdt ho' hdt' ?_
  have sz : decide (xs.size < ys.size) = false := by
    have l1 := i.length
    have l2 := i'.length
    rw [Array.length_toList] at l1 l2
    exact decide_eq_false (by omega)
  rw [sz]
  exact TS.lex_ints 0 i i' (by omega) bp bq ⟨rfl, rfl⟩
theorem tups_sortable {a : Addr} {d : Nat} {B : Int} {vs : List Value} (hd : 1 ≤ d) (h0 : 0 < vs.length) (x : TS.TupsOk s.heap d B vs) (ha : ∀ o, s.heap.get? a = some o → o.cls ≠ .type "tuple") (g : Heap) (hg : ∀ v ∈ vs, TS.intsOf g v = TS.intsOf s.heap v) :
    SrtO.SortableO prog w A s a vs (byCode g B) := by
  intro h' keep
  have kk : ∀ b o, s.heap.get? b = some o → o.cls = .type "tuple" → h'.get? b = some o := fun b o e c => keep b o (fun z => by subst z; exact ha o e c) e
  have x' := x.keeps kk
  obtain ⟨fs, h1, h2, h3⟩ := TS.firsts_of hd vs x'
  refine ⟨tuples' true, fun Q E hq => ?_, tups_cmp (s := { s with heap := h' }) x' g fun v hv => ?_⟩
  · refine PySem.W.kat_kind (T := .type "int") h1 (by omega) (fun f hf => ?_) (by rfl) ?_
    · obtain ⟨n, t, rfl⟩ := h3 f hf
      exact PySem.W.Looks.now
    · have e : (Value.type "int" != Value.type "tuple") = true := by first | decide +kernel | rfl | decide
      rw [e]
      exact hq
  · obtain ⟨ns, tv, _⟩ := x v hv
    rw [hg v hv, tv.ints, (tv.keeps kk).ints]
theorem tups_same {g h : Heap} {d : Nat} {B : Int} {vs : List Value} (x : TS.TupsOk g d B vs) (k : ∀ b o, g.get? b = some o → h.get? b = some o) : ∀ v ∈ vs, TS.intsOf g v = TS.intsOf h v := fun v hv => by
  obtain ⟨ns, tv, _⟩ := x v hv
  rw [tv.ints, (tv.keeps fun b o e _ => k b o e).ints]
/-- sorted(l) of tuples of d whole numbers each -/
theorem sorted_tups {l : Addr} {vs : List Value} {d : Nat} {B : Int} {Q : Value → Shared → Prop} (hl : s.heap.IsList l vs.toArray) (hz : vs.length ≤ sizeLine) (hd : 2 ≤ vs.length → 1 ≤ d) (x : TS.TupsOk s.heap d B vs)
    (h : ∀ (h' : Heap) (p : Addr) (out : List Value) (n : Nat), SrtO.Srtd (byCode s.heap B) out → out.Perm vs → (∀ b o, s.heap.get? b = some o → h'.get? b = some o) → s.heap.objs.size ≤ p → h'.get? p = some (seqObj "list" out.toArray n) → Q (.ref p) { s with heap := h' }) :
    wpAny (model prog w) A (call (.builtin "sorted") [.ref l]) Q E s := by
  refine SrtO.sorted_ord (byCode_swo s.heap B) hl hz (fun h2 h₁ a ha kk => ?_) fun out hs hb => ?_
  · refine tups_sortable (s := { s with heap := h₁ }) (hd h2) (by omega) (x.keeps fun b o e _ => (kk b o e).2) (fun o e => ?_) s.heap (tups_same x fun b o e => (kk b o e).2)
    have e' : some o = some (seqObj "list" vs.toArray 0) := e.symm.trans ha
    cases e'
    intro c
    exact absurd (Value.type.inj c) (by decide)
  · obtain ⟨n, hn⟩ := PyProof.Rows.sortedAll_at s.heap vs out.toArray
    exact h _ _ out n hs hb.perm (fun b o e => PyProof.Rows.sortedAll_old e) (Nat.le_succ _) hn
/-- what of «sorted» stands behind the collecting: a new list, sorted in place -/
theorem sort_new {vs : List Value} {d : Nat} {B : Int} {R : PySem.Fin → Shared → Prop} (hd : 2 ≤ vs.length → 1 ≤ d) (hz : vs.length ≤ sizeLine) (x : TS.TupsOk s.heap d B vs)
    (ho : (s.heap.push (seqObj "list" vs.toArray 0)).get? s.heap.objs.size = some (seqObj "list" vs.toArray 0))
    (h : ∀ out : List Value, SrtO.Srtd (byCode s.heap B) out → out.Perm vs → R (.done (.ret .none)) { s with heap := sortedHeap (s.heap.push (seqObj "list" vs.toArray 0)) s.heap.objs.size vs out.toArray }) :
    wpAny (model prog w) A (Builtin.«list.sort» ⟨[.ref s.heap.objs.size], []⟩) R E { s with heap := s.heap.push (seqObj "list" vs.toArray 0) } := by
  have k0 : ∀ b o, s.heap.get? b = some o → (s.heap.push (seqObj "list" vs.toArray 0)).get? b = some o := fun b o e => Heap.get?_push_of_some _ e
  refine SrtO.list_sort_ord (s := { s with heap := s.heap.push (seqObj "list" vs.toArray 0) }) (byCode_swo s.heap B) ho hz (fun h2 => ?_) fun out hs hb => h out hs hb.perm
  refine tups_sortable (s := { s with heap := s.heap.push (seqObj "list" vs.toArray 0) }) (hd h2) (by omega) (x.keeps fun b o e _ => k0 b o e) (fun o e => ?_) s.heap (tups_same x k0)
  have e' : some o = some (seqObj "list" vs.toArray 0) := e.symm.trans ho
  cases e'
  intro c
  exact absurd (Value.type.inj c) (by decide)
end
/-! as rules -/
abbrev KS := List (Addr × List Int)
/-- ks are tuples of these whole numbers -/
def KsOk (K : PySem.W.Frag) (H : Hp) (d : Nat) (B : Int) (ks : KS) : Prop := ∀ p ∈ ks, SqT K H p.1 (p.2.map V.int) ∧ p.2.length = d ∧ TS.Bd B p.2
abbrev refsV (ks : KS) : List V := ks.map fun p => V.ref p.1
abbrev refsU (ks : KS) : List Value := ks.map fun p => Value.ref p.1
abbrev Rises (B : Int) (ks : KS) : Prop := ks.Pairwise fun q r => TS.code B q.2 ≤ TS.code B r.2
section
variable {X : Cx}
theorem ksTups {pins : List (Addr × Obj)} {σ : L2.St} {H : Hp} {s : Shared} {d : Nat} {B : Int} {ks : KS} (I : Inv X pins σ H s) (hk : KsOk X.K H d B ks) : TS.TupsOk s.heap d B (refsU ks) := fun v hv => by
  obtain ⟨p, hp, rfl⟩ := List.mem_map.mp hv
  obtain ⟨h1, h2, h3⟩ := hk p hp
  exact ⟨p.2, tupInts_of (I.isT h1), h2, h3⟩
theorem ksRise {g : Heap} {d : Nat} {B : Int} {ks ks' : KS} {out : List Value} (x : ∀ p ∈ ks, TS.TupInts g (.ref p.1) p.2) (hs : SrtO.Srtd (byCode g B) out) (pm : ks'.Perm ks) (e : refsU ks' = out) : Rises B ks' := by
  subst e
  refine List.Pairwise.imp_of_mem (fun {p q} hp hq h => ?_) (List.pairwise_map.mp hs)
  have := of_decide_eq_false h
  rw [(x p (pm.mem_iff.mp hp)).ints, (x q (pm.mem_iff.mp hq)).ints] at this
  omega
/-- sorted(xs), a list of tuples of d whole numbers each -/
def rSortL (K : PySem.W.Frag) : List V → Hp → VK → Prop := fun vs H Q => ∃ (a : Addr) (ks : KS) (d : Nat) (B : Int), vs = [.ref a] ∧ SqL K H a (refsV ks) ∧ KsOk K H d B ks ∧ (2 ≤ ks.length → 1 ≤ d) ∧
  ∀ (ks' : KS) p, ks'.Perm ks → Rises B ks' → H p = none → Q (.ref p) (upd H p (.lst (refsV ks')))
theorem cr_sortL : CallR X (.builtin "sorted") (rSortL X.K) := by
  intro pins s σ H vs us Q I r h
  obtain ⟨a, ks, d, B, rfl, hl, hk, hd, q⟩ := h
  rw [Vals.ref1 r]
  obtain ⟨its, rv, pl, hz⟩ := I.list hl
  have ei : its = refsU ks := refs_of_vals rv
  subst ei
  have hz' : (refsU ks).length ≤ sizeLine := by rw [List.length_map]; simpa using hz
  refine sorted_tups pl.isList hz' (by rw [List.length_map]; exact hd) (ksTups I hk) fun h' p out n hs pm k hp hn => ?_
  obtain ⟨ks', pm', e'⟩ := L2.perm_lift (fun p : Addr × List Int => Value.ref p.1) pm ks rfl
  have hr := ksRise (d := d) (fun p hp => tupInts_of (I.isT (hk p hp).1)) hs pm' e'
  have hlen : (refsV ks').length ≤ sizeLine := by rw [List.length_map, pm'.length_eq]; simpa using hz
  refine ⟨.ref p, _, I.laid (t' := s.toks) (o := .lst (refsV ks')) k hp ⟨hlen, out, n, by rw [← e']; exact vals_of_refs ks', hn⟩, rfl, q ks' p pm' hr (I.hok.fresh hp)⟩
/-- sorted(d), a dict whose keys are tuples of d whole numbers each -/
def rSortDT : List V → Hp → VK → Prop := fun vs H Q => ∃ (a : Addr) (kvs : List (List Key × V)) (ws : List (List Int)) (d : Nat) (B : Int), vs = [.ref a] ∧ Rd H a (.dT kvs) ∧ kvs.map (·.1) = ws.map (·.map Sum.inl) ∧ (∀ w ∈ ws, w.length = d ∧ TS.Bd B w) ∧ (2 ≤ ws.length → 1 ≤ d) ∧
  ∀ (ks' : KS) p, (ks'.map (·.2)).Perm ws → (∀ q ∈ ks', H q.1 = some (.tup (q.2.map V.int))) → Rises B ks' → H p = none → Q (.ref p) (upd H p (.lst (refsV ks')))
theorem map_inl : ∀ (a b : List Int), a.map (Sum.inl (β := Str)) = b.map Sum.inl → a = b
  | [], [], _ => rfl
  | x :: a, y :: b, h => by
    simp only [List.map_cons, List.cons.injEq, Sum.inl.injEq] at h
    rw [h.1, map_inl a b h.2]
  | [], _ :: _, h => by simp at h
  | _ :: _, [], h => by simp at h
theorem keysKs {H : Hp} : ∀ {kvs : List (List Key × V)} {xs : List (List Key × Addr × Value)} {ws : List (List Int)}, KT H kvs xs → kvs.map (·.1) = ws.map (·.map Sum.inl) → ∃ ks : KS, xs.map (fun x => x.2.1) = ks.map (·.1) ∧ ks.map (·.2) = ws ∧ ∀ q ∈ ks, H q.1 = some (.tup (q.2.map V.int))
  | _, _, [], .nil, _ => ⟨[], rfl, rfl, fun _ h => by cases h⟩
  | _, _, w :: ws, .nil, h => by simp at h
  | _, _, [], .cons _ _, h => by simp at h
  | (k, v) :: kvs, x :: xs, w :: ws, .cons r t, h => by
    simp only [List.map_cons, List.cons.injEq] at h
    obtain ⟨ks, e1, e2, e3⟩ := keysKs t h.2
    refine ⟨(x.2.1, w) :: ks, by rw [List.map_cons, e1]; rfl, by rw [List.map_cons, e2], fun q hq => ?_⟩
    rcases List.mem_cons.mp hq with rfl | hq
    · have := r.2.1
      rw [h.1, List.map_map] at this
      exact this
    · exact e3 q hq
theorem cr_sortDT (hc : X.calm = true) : CallR X (.builtin "sorted") rSortDT := by
  intro pins s σ H vs us Q I r h
  obtain ⟨a, kvs, ws, d, B, rfl, hd, hw, hB, h1, q⟩ := h
  rw [Vals.ref1 r]
  obtain ⟨z, hs, xs, pr, o, es, ep, ho, hx, hdt, he, hn⟩ := (show ObjOk X.prog X.w H s.heap a (.dT kvs) from hd.ok I.hok)
  have l1 : es.size = xs.length := size_of_entries he
  have l2 : kvs.length = xs.length := Paired.length pr
  obtain ⟨ks, k1, k2, k3⟩ := keysKs pr hw
  have lk : ks.length = xs.length := by
    have := congrArg List.length k1
    rw [List.length_map, List.length_map] at this
    exact this.symm
  refine Calls.call_function_entry PyProof.Rows.kind_sorted PyProof.Rows.plain_sorted PyProof.Rows.entry_sorted (PyProof.Rows.args_sorted1 _) ?_
  unfold Builtin.«sorted»
  refine wpAny_bind (m := checkCount "sorted" 1 1 _) (wpAny_pure ?_)
  refine wpAny_bind (PySem.W.kdu_collect (A := X.A.in1) (kdl_raw hs hx hdt) (I.ok.hd hc) ho (by omega) fun h' tk acc hk it => ?_)
  have ea : acc.toList = refsU ks := by
    have e0 : acc.toList = xs.map fun x => Value.ref x.2.1 := by
      have hl : acc.toList.length = xs.length := by rw [Array.length_toList, it.1]; exact l1
      apply List.ext_getElem?
      intro j
      rw [List.getElem?_map]
      cases hj : acc.toList[j]? with
      | none =>
        have h1 := List.getElem?_eq_none_iff.mp hj
        rw [List.getElem?_eq_none (by omega)]
        all_goals rfl
      | some v =>
        obtain ⟨en, hen, hv⟩ := it.2 j v (by rw [← Array.getElem?_toList]; exact hj)
        have qe := entry_at he j
        rw [hen] at qe
        cases hb : xs[j]? with
        | none =>
          rw [hb] at qe
          exact nomatch (show some en = none from qe)
        | some b =>
          rw [hb] at qe
          have e2 : en = entryOfKey (tupleKind (mixKind X.prog X.w)) b := Option.some.inj qe
          rw [hv, e2]
          all_goals rfl
    have e1 := congrArg (List.map Value.ref) k1
    rw [List.map_map, List.map_map] at e1
    exact e0.trans e1
  have I1 : Inv X pins σ H { s with heap := h', toks := tk } := I.kept hk
  have hk1 : KsOk X.K H d B ks := fun p hp => ⟨SqT.of (k3 p hp), hB p.2 (by rw [← k2]; exact List.mem_map.mpr ⟨p, hp, rfl⟩)⟩
  have hz : (refsU ks).length ≤ sizeLine := by rw [List.length_map]; omega
  rw [ea]
  refine wpAny_bind (wpAny_newList ?_ hz)
  have hoL : (h'.push (seqObj "list" (refsU ks).toArray 0)).get? h'.objs.size = some (seqObj "list" (refsU ks).toArray 0) := Heap.get?_push_size _ rfl
  show wpAny _ _ _ _ _ { s with heap := h'.push (seqObj "list" (refsU ks).toArray 0), toks := tk }
  refine wpAny_bind (wpAny_holding (wpAny_call_entry PyProof.Rows.slot_list_sort ⟨_, hoL, rfl⟩ PyProof.Rows.entry_list_sort
    (sort_new (s := { s with heap := h', toks := tk }) (d := d) (B := B) (fun h2 => h1 (by rw [List.length_map] at h2; rw [← k2, List.length_map]; exact h2)) hz (ksTups I1 hk1) hoL fun out g1 g2 => ⟨_, rfl, ?_⟩) (PyProof.Rows.args_list_sort _)))
  obtain ⟨ks', pm', e'⟩ := L2.perm_lift (fun p : Addr × List Int => Value.ref p.1) g2 ks rfl
  have hr := ksRise (d := d) (fun p hp => tupInts_of (I1.isT (hk1 p hp).1)) g1 pm' e'
  obtain ⟨c, hcn⟩ := PyProof.Rows.sortedHeap_at (vs := refsU ks) (out := out.toArray) hoL
  have hlen : (refsV ks').length ≤ sizeLine := by rw [List.length_map, pm'.length_eq]; omega
  refine wpAny_pure ⟨_, rfl, .ref h'.objs.size, upd H h'.objs.size (.lst (refsV ks')), I1.laid (t' := tk) (fun b u e => ?_) (Nat.le_refl _) ⟨hlen, out, c, by rw [← e']; exact vals_of_refs ks', hcn⟩, rfl,
    q ks' _ (by rw [← k2]; exact pm'.map _) (fun p hp => k3 p (pm'.mem_iff.mp hp)) hr (I1.hok.fresh (Nat.le_refl _))⟩
  have hb : b < h'.objs.size := Heap.lt_size e
  rw [PyProof.Rows.sortedHeap_old (Nat.ne_of_lt hb) (by rw [size_push']; exact Nat.lt_succ_of_lt hb)]
  exact Heap.get?_push_of_some _ e
end
/-! sorted(set(xs)), xs a list of tuples of whole numbers -/
section
variable {P : Program} {w : World} {A : Around} {E : Value → Shared → Prop} {s : Shared}
theorem sorted_setK {a : Addr} {L : KS} {es : Array (Int × Value)} {ep : Nat} {t : SetTable} {Q : Value → Shared → Prop} (R : SetTR P w s.heap a L es ep t) (hh : A.handled = none)
    {d : Nat} {B : Int} (hd1 : 2 ≤ L.length → 1 ≤ d) (hB : ∀ p ∈ L, p.2.length = d ∧ TS.Bd B p.2)
    (hQ : ∀ s' p (out : List Value) (c : Nat) (L' : KS), (∀ b o, s.heap.get? b = some o → s'.heap.get? b = some o) → s'.gens = s.gens → s'.os = s.os → s.heap.objs.size ≤ p →
      s'.heap.get? p = some (seqObj "list" out.toArray c) → out = refsU L' → L'.Perm L → Rises B L' → Q (.ref p) s') :
    wpAny (model P w) A (call (.builtin "sorted") [.ref a]) Q E s := by
  obtain ⟨o, ho, hex, hd⟩ := R.ob
  have hsz := R.size
  have hfew := R.few
  refine Calls.call_function_entry PyProof.Rows.kind_sorted PyProof.Rows.plain_sorted PyProof.Rows.entry_sorted (PyProof.Rows.args_sorted1 _) ?_
  unfold Builtin.«sorted»
  refine wpAny_bind (m := checkCount "sorted" 1 1 _) (wpAny_pure ?_)
  refine wpAny_bind (collect_set (A := A.in1) hh ⟨o, ho, hex.1, hd⟩ R.fits (by unfold scanBound; omega) R.tab.ris R.led fun s1 vs k1 hz g1 o1 pm => ?_)
  have hes : es.toList.map (·.2) = refsU L := by
    rw [R.rows]
    unfold rowsOf
    rw [List.map_map] <;> rfl
  rw [hes] at pm
  obtain ⟨L1, p1, e1⟩ := L2.perm_lift (fun p : Addr × List Int => Value.ref p.1) pm L rfl
  subst e1
  have hl1 : L1.length < 64 := by rw [p1.length_eq]; exact hfew
  have hz1 : (refsU L1).length ≤ sizeLine := by rw [List.length_map, sizeLine_eq]; omega
  have tk : ∀ q ∈ L1, TS.TupInts s1.heap (.ref q.1) q.2 := fun q hq => tupInts_of (P := P) (w := w) (isT_keep (R.tup q (p1.mem_iff.mp hq)) k1)
  have x : TS.TupsOk s1.heap d B (refsU L1) := fun v hv => by
    obtain ⟨q, hq, rfl⟩ := List.mem_map.mp hv
    exact ⟨q.2, tk q hq, hB q (p1.mem_iff.mp hq)⟩
  refine wpAny_bind (wpAny_newList ?_ hz1)
  have hoL : (s1.heap.push (seqObj "list" (refsU L1).toArray 0)).get? s1.heap.objs.size = some (seqObj "list" (refsU L1).toArray 0) := Heap.get?_push_size _ rfl
  refine wpAny_bind (wpAny_holding (wpAny_call_entry PyProof.Rows.slot_list_sort ⟨_, hoL, rfl⟩ PyProof.Rows.entry_list_sort
    (sort_new (s := s1) (d := d) (B := B) (fun h2 => hd1 (by rw [List.length_map, p1.length_eq] at h2; exact h2)) hz1 x hoL fun out a1 a2 => ⟨_, rfl, ?_⟩) (PyProof.Rows.args_list_sort _)))
  obtain ⟨L', p2, e2⟩ := L2.perm_lift (fun p : Addr × List Int => Value.ref p.1) a2 L1 rfl
  obtain ⟨c, hc⟩ := PyProof.Rows.sortedHeap_at (vs := refsU L1) (out := out.toArray) hoL
  refine wpAny_pure ⟨_, rfl, hQ _ s1.heap.objs.size out c L' (fun b u e => ?_) g1 o1 hz hc e2.symm (p2.trans p1) (ksRise (d := d) tk a1 p2 e2)⟩
  have q := k1 b u e
  have hlt := Heap.lt_size q
  show (sortedHeap (s1.heap.push (seqObj "list" (refsU L1).toArray 0)) s1.heap.objs.size (refsU L1) out.toArray).get? b = some u
  rw [PyProof.Rows.sortedHeap_old (Nat.ne_of_lt hlt) (by rw [size_push']; exact Nat.lt_succ_of_lt hlt)]
  exact Heap.get?_push_of_some _ q
end
def sortSetT (K : PySem.W.Frag) (Q : VK) (v : V) (H : Hp) : Prop := ∃ (a : Addr) (ks : KS) (d : Nat) (B : Int), v = .ref a ∧ SqL K H a (refsV ks) ∧ KsOk K H d B ks ∧ ks.length < 64 ∧
  ∀ (ks' : KS) p, (∀ q ∈ ks', q ∈ ks) → (∀ q ∈ ks, q.2 ∈ ks'.map (·.2)) → (ks'.map (·.2)).Nodup → Rises B ks' → H p = none → Q (.ref p) (upd H p (.lst (refsV ks')))
def sortSetA (K : PySem.W.Frag) (Q : VK) (v : V) (H : Hp) : Prop := sortSetK K Q v H ∨ sortSetT K Q v H
def tSortSetA (K : PySem.W.Frag) (te : TE) : TE := fun σ H Q => te σ H (sortSetA K Q)
theorem nil_words {L : KS} (h : ∀ p ∈ L, p.2.length = 0) (n : (L.map (·.2)).Nodup) : L.length ≤ 1 := by
  match L, h, n with
  | [], _, _ => exact Nat.zero_le _
  | [_], _, _ => exact Nat.le_refl _
  | p :: q :: L, h, n =>
    exfalso
    have h1 := List.eq_nil_of_length_eq_zero (h p (by simp))
    have h2 := List.eq_nil_of_length_eq_zero (h q (by simp))
    rw [List.map_cons, List.map_cons, List.nodup_cons] at n
    exact n.1 (by rw [h1, h2]; simp)
section
variable {X : Cx}
theorem pe_sortSetA {e : Expr} {te : TE} {p p2 pos pos2 : Pos} (hc : X.calm = true) (hu : X.A.units + 64 < cLine) (hg : Gl X "sorted") (hm : X.mg "sorted" = none) (hg2 : Gl X "set") (hm2 : X.mg "set" = none) (he : PE X e te)
    (na : starEach [e] X.env = (false, eval e X.env) :: starEach [] X.env := by rfl) :
    PE X (.Call (.Name "sorted" p) [.Call (.Name "set" p2) [e] [] pos2] [] pos) (tSortSetA X.K te) := by
  refine ⟨fun pins s σ H Q I h => ?_⟩
  have hQ : ∀ H1, (∀ v, sortSetA X.K Q v H1 → sortSetK X.K Q v H1) → True := fun _ _ => trivial
  refine Call_ (ld_blt I hg hm boot_sorted ?_)
  refine PyProof.Rows.callWith_builtin1 (PyProof.Rows.args_cons ?_ rfl) rfl rfl
  refine Call_ (ld_blt I hg2 hm2 boot_set ?_)
  refine PyProof.Rows.callWith_type1 (PyProof.Rows.args_cons (thn (he.run pins s σ H _ I h) fun v s1 ⟨x, H1, I1, r1, q1⟩ => PyProof.Rows.args_nil ?_) na) na rfl
  have hd := I1.ok.hd hc
  rcases q1 with ⟨a, ns, rfl, hq, hl, q1⟩ | ⟨a, ks, d, B, rfl, hq, hk, hl, q1⟩
  · cases r1
    have fin : ∀ (h' : Heap) (tk c : Nat), SetR X.w h' s1.heap.objs.size (fun j => decide (j ∈ ns)) c → c ≤ ns.length → (∀ b o, s1.heap.get? b = some o → h'.get? b = some o) →
        wpAny (model X.prog X.w) X.A (call (Value.builtin "sorted") [Value.ref s1.heap.objs.size]) (EP X pins σ Q) X.xe { s1 with heap := h', toks := tk } := fun h' tk c R1 hcn k => by
      have I2 : Inv X pins σ H1 { s1 with heap := h', toks := tk } := I1.kept (t' := tk) k
      refine sorted_set (s := { s1 with heap := h', toks := tk }) R1 (I2.ok.hd hc) (by omega) fun s' p out c2 ks k2 g o hp hg hi hs hm hl2 => ?_
      have hlen : (ks.map V.int).length ≤ sizeLine := by rw [List.length_map, hl2, sizeLine_eq]; omega
      have hn : H1 p = none := I2.hok.fresh hp
      have J : Inv X pins σ (upd H1 p (.lst (ks.map V.int))) { { s1 with heap := h', toks := tk } with heap := s'.heap, gens := s'.gens, drawn := s'.drawn, toks := s'.toks } :=
        I2.call (ch := []) (Un.laid k2 hp hn) (I2.hok.laid k2 hp ⟨hlen, out.toList, c2, vals_of_ints hi, hg⟩) (by rw [g]; exact I2.bare) (fun _ z => nomatch z)
      have e : s' = { { s1 with heap := h', toks := tk } with heap := s'.heap, gens := s'.gens, drawn := s'.drawn, toks := s'.toks } := by
        cases s'
        cases s1
        cases o
        rfl
      rw [e]
      exact ⟨.ref p, _, J, rfl, q1 ks p hs (fun j => by rw [hm j, decide_eq_true_eq]) (by rw [hl2]; exact hcn) hn⟩
    rcases hq with hq | hq
    · obtain ⟨its, rv, pt, hz⟩ := I1.tuple hq
      have hi : IntsAre its.toArray.toList ns := ints_of_vals rv
      refine call_set_tupI ns hd (show s1.heap.IsTuple a its.toArray from pt) hi (by unfold scanBound; omega) fun h' tk c R1 hcn k => ?_
      exact PyProof.Rows.args_nil (fin h' tk c R1 hcn k)
    · obtain ⟨its, rv, pt, hz⟩ := I1.list hq
      have hi : IntsAre its.toArray.toList ns := ints_of_vals rv
      refine call_set_lstI ns hd pt.isList hi (by unfold scanBound; omega) fun h' tk c R1 hcn k => ?_
      exact PyProof.Rows.args_nil (fin h' tk c R1 hcn k)
  · cases r1
    obtain ⟨its, rv, pl, hz⟩ := I1.list hq
    refine call_set_tups (P := X.prog) (w := X.w) ks hd pl.isList (by simpa using refs_of_vals rv) (fun p hp => I1.isT (hk p hp).1) hl (by have := hu; first | omega | (show _; simp; omega)) fun h' tk L es ep t R g k => ?_
    refine PyProof.Rows.args_nil ?_
    have I2 : Inv X pins σ H1 { s1 with heap := h', toks := tk } := I1.kept (t' := tk) k
    have sub : ∀ p ∈ L, p ∈ ks := fun p hp => List.mem_of_mem_take (g.sub p hp)
    have all : ∀ p ∈ ks, p.2 ∈ L.map (·.2) := fun p hp => g.all p (by rw [List.take_length]; exact hp)
    refine sorted_setK (s := { s1 with heap := h', toks := tk }) R (I2.ok.hd hc) (d := d) (B := B) (fun h2 => ?_) (fun p hp => (hk p (sub p hp)).2) fun s' p out c L' k2 gg o hp hg ho pm hr => ?_
    · rcases Nat.eq_zero_or_pos d with z | z
      · have := nil_words (fun p hp => by rw [(hk p (sub p hp)).2.1, z]) R.nd
        omega
      · exact z
    have hlen : (refsV L').length ≤ sizeLine := by
      have := R.few
      rw [List.length_map, pm.length_eq, sizeLine_eq]; omega
    have hn : H1 p = none := I2.hok.fresh hp
    have J : Inv X pins σ (upd H1 p (.lst (refsV L'))) { { s1 with heap := h', toks := tk } with heap := s'.heap, gens := s'.gens, drawn := s'.drawn, toks := s'.toks } :=
      I2.call (ch := []) (Un.laid k2 hp hn) (I2.hok.laid k2 hp ⟨hlen, out, c, by rw [ho]; exact vals_of_refs L', hg⟩) (by rw [gg]; exact I2.bare) (fun _ z => nomatch z)
    have e : s' = { { s1 with heap := h', toks := tk } with heap := s'.heap, gens := s'.gens, drawn := s'.drawn, toks := s'.toks } := by
      cases s'
      cases s1
      cases o
      rfl
    rw [e]
    exact ⟨.ref p, _, J, rfl, q1 L' p (fun q hq => sub q (pm.mem_iff.mp hq)) (fun q hq => (pm.map (·.2)).mem_iff.mpr (all q hq)) ((pm.map (·.2)).nodup_iff.mpr R.nd) hr hn⟩
end
theorem pe_sortSetAK {X : Cx} {K : PySem.W.Frag} (h : X.K = K) {e : Expr} {te : TE} (hp : PE X e (tSortSetA X.K te)) : PE X e (tSortSetA K te) := h ▸ hp
theorem w_sortSet {K : PySem.W.Frag} {te : TE} {σ : L2.St} {H : Hp} {Q : VK} (k : te σ H (sortSetA K Q)) : tSortSetA K te σ H Q := k
theorem l_sortSetL {K : PySem.W.Frag} {H : Hp} {Q : VK} {a : Addr} {ns : List Int} (h : SqL K H a (ns.map V.int)) (hl : ns.length < 64) (k : ∀ (out : List Int) p H', out.Pairwise (· < ·) → (∀ k, k ∈ out ↔ k ∈ ns) → out.length ≤ ns.length → H p = none → Ex H H' → H' p = some (.lst (out.map V.int)) → Q (.ref p) H') : sortSetA K Q (.ref a) H :=
  .inl ⟨a, ns, rfl, .inr h, hl, fun out p h1 h2 h3 h4 => k out p _ h1 h2 h3 h4 (Evl.Ex.new h4) upd_same⟩
theorem l_sortSetT {K : PySem.W.Frag} {H : Hp} {Q : VK} {a : Addr} {ns : List Int} (h : SqT K H a (ns.map V.int)) (hl : ns.length < 64) (k : ∀ (out : List Int) p H', out.Pairwise (· < ·) → (∀ k, k ∈ out ↔ k ∈ ns) → out.length ≤ ns.length → H p = none → Ex H H' → H' p = some (.lst (out.map V.int)) → Q (.ref p) H') : sortSetA K Q (.ref a) H :=
  .inl ⟨a, ns, rfl, .inl h, hl, fun out p h1 h2 h3 h4 => k out p _ h1 h2 h3 h4 (Evl.Ex.new h4) upd_same⟩
def rSortA (K : PySem.W.Frag) : List V → Hp → VK → Prop := fun vs H Q => rSortL K vs H Q ∨ rSortDT vs H Q
theorem cr_sortAK {X : Cx} {K : PySem.W.Frag} (hc : X.calm = true) (h : X.K = K) : CallR X (.builtin "sorted") (rSortA K) := h ▸ cr_sortL.or (cr_sortDT hc)
/-- whole numbers and tuples of them, <= -/
def rLeQ (K : PySem.W.Frag) : R2 := fun x y H Q => rLeP x y H Q ∨ rLeT K x y H Q
theorem op_leQ {X : Cx} {K : PySem.W.Frag} (hu : X.A.units + 64 < cLine) (h : X.K = K) : OpR X (compareOp .LtE) (rLeQ K) := h ▸ op_leP.or (op_leT (Nat.lt_of_le_of_lt (Nat.le_add_right _ 64) hu))
theorem l_leQ {K : PySem.W.Frag} {i j : Int} {H : Hp} {Q : VK} (k : Q (.bl (decide (i ≤ j))) H) : rLeQ K (.int i) (.int j) H Q := .inl ⟨i, j, rfl, rfl, k⟩
theorem l_leT {K : PySem.W.Frag} {a b : Addr} {ns ms : List Int} {H : Hp} {Q : VK} (h1 : SqT K H a (ns.map V.int)) (h2 : SqT K H b (ms.map V.int))
    (k : Q (.bl (Ob.lexAt (fun j => decide (ns.getD j 0 = ms.getD j 0)) (fun j => decide (ns.getD j 0 ≤ ms.getD j 0)) (decide (ns.length ≤ ms.length)) 0 (min ns.length ms.length))) H) : rLeQ K (.ref a) (.ref b) H Q := .inr ⟨a, b, ns, ms, rfl, rfl, h1, h2, k⟩
/-! x in xs, x not in xs: flat, data of any depth, a dict's keys -/
theorem room65 {k : Nat} {A : Around} (r : Room k A) : A.units + 65 < cLine := by have := r.un; omega
def rInDct (neg : Bool) : R2 := fun x y H Q => ∃ a o, y = .ref a ∧ DGet H a x o ∧ Q (.bl (if neg then !o.isSome else o.isSome)) H
def rInA (K : PySem.W.Frag) : R2 := fun x y H Q => rIn K false x y H Q ∨ rInD K x y H Q ∨ rInDct false x y H Q
def rNotInA (K : PySem.W.Frag) : R2 := fun x y H Q => rIn K true x y H Q ∨ rNotInD K x y H Q ∨ rInDct true x y H Q
def rIxD : R2 := fun x y H Q => ∃ a v, x = .ref a ∧ DGet H a y (some v) ∧ Q v H
def rIxA (K : PySem.W.Frag) : R2 := fun x y H Q => rIx K x y H Q ∨ rIxD x y H Q
def rSetD : TSet := fun o i v H Q => ∃ a H', o = .ref a ∧ DPut H a i v H' ∧ Q H'
def rSetA : TSet := fun o i v H Q => rSetL o i v H Q ∨ rSetD o i v H Q
section
variable {X : Cx} {K : PySem.W.Frag}
theorem op_inDct (hu : X.A.units + 65 < cLine) : OpR X (compareOp .In) (rInDct false) := by
  intro pins s σ H x y v u Q I rx ry h
  obtain ⟨a, o, rfl, g, q⟩ := h
  cases ry
  exact d_in (by omega) I g rx fun s' J => ⟨.bl o.isSome, H, J, rfl, q⟩
theorem op_notInDct (hu : X.A.units + 65 < cLine) : OpR X (compareOp .NotIn) (rInDct true) := by
  intro pins s σ H x y v u Q I rx ry h
  obtain ⟨a, o, rfl, g, q⟩ := h
  cases ry
  exact d_notIn (by omega) I g rx fun s' J => ⟨.bl (!o.isSome), H, J, rfl, q⟩
theorem op_inA (hu : X.A.units + 65 < cLine) (h : X.K = K) : OpR X (compareOp .In) (rInA K) := h ▸ op_in_seq.or ((op_inD hu).or (op_inDct hu))
theorem op_notInA (hu : X.A.units + 65 < cLine) (h : X.K = K) : OpR X (compareOp .NotIn) (rNotInA K) := h ▸ op_notIn_seq.or ((op_notInD hu).or (op_notInDct hu))
theorem ix_dct (hu : X.A.units + 65 < cLine) : IxR X rIxD := by
  intro value slice pins s σ H x y v u Q I rx ry h hs
  obtain ⟨a, z, rfl, g, q⟩ := h
  cases rx
  have ht := dict_typeIs I g
  rcases g with ⟨kvs, k, e, rfl, l⟩ | ⟨kvs, k, b, e, rfl, eb, l⟩
  · obtain ⟨_, _, vs, rel, dd⟩ := dk_rd I.hok e
    obtain ⟨w', hw, rw'⟩ := RelO.some_of (v := z) (o := valueAt vs k) (by rw [l]; exact rel.val k)
    exact subscriptTail_builtinR (x := w') ht PySem.F.slot_dict_getitem.lookup (wpAny_getItem_of (kV_is ry) dd.mapOf hw ⟨rfl, z, H, I.tok _, rw', q⟩) hs
  · cases (show u = Value.ref b from ry)
    obtain ⟨_, _, xs, rel, dd⟩ := dt_rd I.hok e
    obtain ⟨w', hw, rw'⟩ := RelO.some_of (v := z) (o := (atKey xs k).map (·.2)) (by rw [l]; exact rel.val k)
    obtain ⟨p, hp, hp2⟩ := Option.map_eq_some_iff.mp hw
    exact subscriptTail_builtinR (x := p.2) ht PySem.F.slot_dict_getitem.lookup (wpAny_getItem_heap (tupleKind_room_in1 (by omega)) (key_of I.hok eb) dd hp ⟨rfl, z, H, I.tok _, by rw [hp2]; exact rw', q⟩) hs
theorem ix_A (hu : X.A.units + 65 < cLine) (h : X.K = K) : IxR X (rIxA K) := (ix_K h).or (ix_dct hu)
theorem set_dct (hu : X.A.units + 65 < cLine) : PSet X rSetD := by
  intro pins s σ H o i v ov iv u Q I ro ri rv h
  obtain ⟨a, H', rfl, g, q⟩ := h
  cases ro
  exact d_setItem (by omega) I g ri rv fun s' J => ⟨H', J, q⟩
theorem set_A (hu : X.A.units + 65 < cLine) : PSet X rSetA := by
  intro pins s σ H o i v ov iv u Q I ro ri rv h
  rcases h with h | h
  · exact set_list pins s σ H o i v ov iv u Q I ro ri rv h
  · exact set_dct hu pins s σ H o i v ov iv u Q I ro ri rv h
end
def rLenQ (K : PySem.W.Frag) : List V → Hp → VK → Prop := fun xs H Q => rLenP K xs H Q ∨ rLenT xs H Q
theorem call_lenQ {X : Cx} {K : PySem.W.Frag} (h : X.K = K) : CallR X (.builtin "len") (rLenQ K) := h ▸ call_lenP.or call_len_dT
section
variable {K : PySem.W.Frag} {H : Hp} {Q : VK}
theorem l_inF {x : V} {p : Addr} {xs : List V} (h : SqL K H p xs ∨ SqT K H p xs) (fx : flatV x = true) (fs : xs.all flatV = true) (k : Q (.bl (inV x xs)) H) : rInA K x (.ref p) H Q := .inl ⟨p, xs, rfl, h, fx, fs, k⟩
theorem l_inD {x y : V} {d : PyData} {ds : List PyData} (h1 : Dp K H x d) (h2 : Dp K H y (.list ds)) (s1 : SeqAt.shaped d = true) (s2 : SeqAt.shaped (.list ds) = true) (k : Q (.bl (ds.any fun z => PyData.eqv z d)) H) : rInA K x y H Q := .inr (.inl ⟨d, ds, h1, h2, s1, s2, k⟩)
theorem l_notInD {x y : V} {d : PyData} {ds : List PyData} (h1 : Dp K H x d) (h2 : Dp K H y (.list ds)) (s1 : SeqAt.shaped d = true) (s2 : SeqAt.shaped (.list ds) = true) (k : Q (.bl (!ds.any fun z => PyData.eqv z d)) H) : rNotInA K x y H Q := .inr (.inl ⟨d, ds, h1, h2, s1, s2, k⟩)
theorem l_ixA {x y : V} (k : rIx K x y H Q) : rIxA K x y H Q := .inl k
theorem l_setA {o i v : V} {R : Hp → Prop} (k : rSetL o i v H R) : rSetA o i v H R := .inl k
theorem l_lenQ {xs : List V} (k : rLenP K xs H Q) : rLenQ K xs H Q := .inl k
end
/-! o.f as a target among others -/
def gFld (K : PySem.W.Frag) (ta : TE) (f : Str) : TG := fun v σ H R => ta σ H fun x H1 => setK K f v x H1 fun H2 => R σ H2
theorem g_fld {K : PySem.W.Frag} {ta : TE} {f : Str} {v : V} {σ : L2.St} {H : Hp} {R : L2.St → Hp → Prop} (k : ta σ H fun x H1 => setK K f v x H1 fun H2 => R σ H2) : gFld K ta f v σ H R := k
theorem pg_fld {X : Cx} {K : PySem.W.Frag} (h : X.K = K) {o : Expr} {ta : TE} {f : Str} {pos : Pos} (ha : PE X o ta) : PG X (.Attribute o f pos) (gFld K ta f) := by
  subst h
  refine ⟨fun pins s σ H v u Q I r q => PySem.W.kas_attr (thn (ha.run pins s σ H _ I q) fun ov s1 ⟨x, H1, J, rx, a, C, dx, fs, ex, ea, c, n, l, q1⟩ => ?_)⟩
  subst ex
  obtain rfl : ov = Value.ref a := rx
  exact setattr_ok J ea c n l r fun s2 J2 => ⟨σ, _, J2, q1⟩
/-- one of two readings of the same words -/
def tEither (t u : TE) : TE := fun σ H Q => t σ H Q ∨ u σ H Q
theorem pe_orE {X : Cx} {e : Expr} {t u : TE} (h1 : PE X e t) (h2 : PE X e u) : PE X e (tEither t u) := ⟨fun pins s σ H Q I hw => hw.elim (h1.run pins s σ H Q I) (h2.run pins s σ H Q I)⟩
end LM
namespace LM
open PySem PySem.Spec PyProof.Rows L2
/-! ### sets of tuples, up to 1,200 of them: the tables of 8 to 2,048 slots -/
def Msk (m : Nat) : Prop := m = 7 ∨ m = 31 ∨ m = 127 ∨ m = 511 ∨ m = 2047
def orI (m : Nat) : Nat → Nat → Nat
  | 0, _ => 0
  | f + 1, c => (1 <<< c) ||| orI m f ((c * 5 + 1) % (m + 1))
theorem lcg_shift (m c : Nat) : ∀ k, lcgI m c (k + 1) = lcgI m ((c * 5 + 1) % (m + 1)) k
  | 0 => rfl
  | k + 1 => by
    show (lcgI m c (k + 1) * 5 + 1) % (m + 1) = _
    rw [lcg_shift m c k]
    rfl
theorem lcg_join (m i a : Nat) : ∀ k, lcgI m (lcgI m i a) k = lcgI m i (a + k)
  | 0 => rfl
  | k + 1 => congrArg (fun z => (z * 5 + 1) % (m + 1)) (lcg_join m i a k)
theorem orI_bit (m j : Nat) : ∀ f c, (orI m f c).testBit j = true → ∃ k, k < f ∧ lcgI m c k = j
  | 0, c, h => by
    unfold orI at h
    simp at h
  | f + 1, c, h => by
    unfold orI at h
    rw [Nat.testBit_or, Bool.or_eq_true] at h
    rcases h with h | h
    · rw [Nat.one_shiftLeft, Nat.testBit_two_pow, decide_eq_true_eq] at h
      exact ⟨0, Nat.succ_pos _, h⟩
    · obtain ⟨k, hk, e⟩ := orI_bit m j f _ h
      exact ⟨k + 1, Nat.succ_lt_succ hk, by rw [lcg_shift]; exact e⟩
theorem Msk.full {m : Nat} (hm : Msk m) : orI m (m + 1) 0 = 2 ^ (m + 1) - 1 ∧ lcgI m 0 (m + 1) = 0 := by
  rcases hm with rfl | rfl | rfl | rfl | rfl <;> exact ⟨by decide +kernel, by decide +kernel⟩
theorem Msk.from0 {m j : Nat} (hm : Msk m) (hj : j ≤ m) : ∃ k, k ≤ m ∧ lcgI m 0 k = j := by
  have h : (orI m (m + 1) 0).testBit j = true := by
    rw [hm.full.1, Nat.testBit_two_pow_sub_one, decide_eq_true_eq]
    omega
  obtain ⟨k, hk, e⟩ := orI_bit m j _ _ h
  exact ⟨k, by omega, e⟩
theorem Msk.met {m i j : Nat} (hm : Msk m) (hi : i ≤ m) (hj : j ≤ m) : ∃ k, k ≤ m ∧ lcgI m i k = j := by
  obtain ⟨a, ha, rfl⟩ := hm.from0 hi
  obtain ⟨b, hb, rfl⟩ := hm.from0 hj
  by_cases c : a ≤ b
  · exact ⟨b - a, by omega, by rw [lcg_join, show a + (b - a) = b by omega]⟩
  · refine ⟨b + (m + 1) - a, by omega, ?_⟩
    rw [lcg_join, show a + (b + (m + 1) - a) = m + 1 + b by omega, ← lcg_join, hm.full.2]
theorem Msk.run {m : Nat} (hm : Msk m) (h : Int) {j : Nat} (hj : j ≤ m) : ∃ n, n ≤ m + 12 ∧ runI m (SetTable.bits h) n = j := by
  obtain ⟨k, hk, e⟩ := hm.met (runI_le m (SetTable.bits h) 12) hj
  refine ⟨12 + k, by omega, ?_⟩
  rw [runI_tail (bits_lt h), e]
theorem way_in {m : Nat} {h : Int} {k : Nat} : way m h k ≤ m := by
  have hi : SetTable.bits h % (m + 1) ≤ m := by
    have : SetTable.bits h % (m + 1) < m + 1 := Nat.mod_lt _ (Nat.succ_pos m)
    omega
  have r := runEnd_bd hi
  have q := nth_in (m := m) k (runAt m (SetTable.bits h % (m + 1)) (SetTable.bits h)) (by
    show SetTable.bits h % (m + 1) + (SetTable.runEnd m (SetTable.bits h % (m + 1)) - SetTable.bits h % (m + 1)) ≤ m
    omega)
  unfold way
  omega
/-- a table in which each hash of hs is found on its way -/
structure Tb (t : SetTable) (hs : List Int) : Prop where
  up : Ris t.place.toList
  no : t.dummies = #[]
  len : t.place.size = hs.length
  msk : Msk t.mask
  top : ∀ x ∈ t.place.toList, x ≤ t.mask
  met : ∀ (i : Nat) (h : Int) (j : Nat), hs[i]? = some h → t.place.toList[i]? = some j → ∃ k, way t.mask h k = j ∧ ∀ c < k, way t.mask h c ∈ t.place.toList
theorem Tb.free {t : SetTable} {hs : List Int} (B : Tb t hs) (room : hs.length ≤ t.mask) (h : Int) :
    ∃ K, K < 10 * SetTable.turns t.mask ∧ way t.mask h K ∉ t.place.toList ∧ ∀ c < K, way t.mask h c ∈ t.place.toList := by
  obtain ⟨j, hj, hn⟩ := st_missing t.place.toList (t.mask + 1) (by have := B.len; rw [Array.length_toList]; omega)
  obtain ⟨n, hn1, hn2⟩ := B.msk.run h (show j ≤ t.mask by omega)
  obtain ⟨k, hk1, hk2⟩ := run_nth t.mask (SetTable.bits h) n
  have e : way t.mask h k = j := by unfold way; rw [hk2]; exact hn2
  obtain ⟨K, a, b, c⟩ := st_least (p := fun k => way t.mask h k ∉ t.place.toList) k (by rw [e]; exact hn)
  refine ⟨K, by unfold SetTable.turns; omega, b, fun c' hc' => ?_⟩
  by_cases z : way t.mask h c' ∈ t.place.toList
  · exact z
  · exact absurd z (c c' hc')
theorem Tb.ahead {t : SetTable} {hs : List Int} (B : Tb t hs) {h : Int} {K i j : Nat} (hK : way t.mask h K ∉ t.place.toList) (hi : hs[i]? = some h) (hj : t.place.toList[i]? = some j) : ∃ k, k < K ∧ way t.mask h k = j := by
  obtain ⟨k, e, b⟩ := B.met i h j hi hj
  refine ⟨k, ?_, e⟩
  by_cases c : k < K
  · exact c
  · exfalso
    by_cases d : k = K
    · subst d
      rw [e] at hK
      exact hK (List.mem_of_getElem? hj)
    · exact hK (b K (by omega))
/-- one more stands at the first free slot of its way -/
theorem Tb.more {t : SetTable} {hs : List Int} (B : Tb t hs) {h : Int} {K p : Nat} (hK : way t.mask h K ∉ t.place.toList) (hb : ∀ c < K, way t.mask h c ∈ t.place.toList) (hp : p = SetTable.below t.place (way t.mask h K)) :
    p ≤ hs.length ∧ Tb (t.put (way t.mask h K)).1 (hs.take p ++ h :: hs.drop p) := by
  have hpl : p ≤ t.place.toList.length := by
    rw [Array.length_toList, hp]
    exact (below_cut B.up (way t.mask h K)).1
  have lh : t.place.toList.length = hs.length := by rw [Array.length_toList]; exact B.len
  have hph : p ≤ hs.length := by omega
  have pl : (t.put (way t.mask h K)).1.place.toList = t.place.toList.take p ++ way t.mask h K :: t.place.toList.drop p := by rw [hp]; exact put_place t _
  have old : ∀ {x}, x ∈ t.place.toList → x ∈ (t.put (way t.mask h K)).1.place.toList := fun hx => by rw [pl]; exact mem_ins.mpr (.inr hx)
  refine ⟨hph, ?_, put_dm B.no _, ?_, B.msk, fun x hx => ?_, fun i h' j hi hj => ?_⟩
  · exact ris_insert B.up fun e => hK (List.mem_of_getElem? (by rw [Array.getElem?_toList]; exact e))
  · rw [len_ins hs hph, ← lh, ← len_ins t.place.toList hpl (way t.mask h K), ← pl, Array.length_toList]
  · show x ≤ t.mask
    rw [pl] at hx
    rcases mem_ins.mp hx with rfl | hx
    · exact way_in
    · exact B.top x hx
  · show ∃ k, way t.mask h' k = j ∧ ∀ c < k, way t.mask h' c ∈ (t.put (way t.mask h K)).1.place.toList
    rw [pl, tins_get _ hpl] at hj
    rw [tins_get _ hph] at hi
    have keep : ∀ i', hs[i']? = some h' → t.place.toList[i']? = some j → ∃ k, way t.mask h' k = j ∧ ∀ c < k, way t.mask h' c ∈ (t.put (way t.mask h K)).1.place.toList := fun i' a b => by
      obtain ⟨k, e, z⟩ := B.met i' h' j a b
      exact ⟨k, e, fun c hc => old (z c hc)⟩
    by_cases c1 : i < p
    · rw [if_pos c1] at hi hj
      exact keep i hi hj
    · rw [if_neg c1] at hi hj
      by_cases c2 : i = p
      · rw [if_pos c2] at hi hj
        cases hi
        cases hj
        exact ⟨K, rfl, fun c hc => old (hb c hc)⟩
      · rw [if_neg c2] at hi hj
        exact keep (i - 1) hi hj
/-! laying anew -/
theorem Msk.slot {m : Nat} (hm : Msk m) (owner : Array (Option Nat)) (h : Int) {j : Nat} (hj : j ≤ m) (hf : oAt owner j = none) :
    ∃ K, SetTable.layClean.free m owner (SetTable.turns m) (SetTable.bits h % (m + 1)) (SetTable.bits h) = some (way m h K) ∧ oAt owner (way m h K) = none ∧ ∀ c < K, oAt owner (way m h c) ≠ none := by
  obtain ⟨n, hn, e⟩ := hm.run h hj
  let N := off m (SetTable.bits h % (m + 1)) (SetTable.bits h) n
  have eN : way m h N = j := by
    unfold way
    rw [show N = off m (SetTable.bits h % (m + 1)) (SetTable.bits h) n from rfl, nth_off, itL_run]
    exact e
  obtain ⟨K, a, b, c⟩ := st_least (p := fun k => oAt owner (way m h k) = none) N (by rw [eN]; exact hf)
  refine ⟨K, free_spec m owner (SetTable.turns m) n _ _ K (by unfold SetTable.turns; omega) a (fun k hk => ?_) ?_, b, c⟩
  · have := c k hk
    rw [Option.isNone_eq_false_iff, Option.isSome_iff_ne_none]
    exact this
  · rw [Option.isNone_iff_eq_none]
    exact b
theorem Msk.own {m : Nat} (hm : Msk m) {done : List Int} {owner : Array (Option Nat)} (O : Own m done owner) (room : done.length ≤ m) (h : Int) :
    ∃ j, SetTable.layClean.free m owner (SetTable.turns m) (SetTable.bits h % (m + 1)) (SetTable.bits h) = some j ∧ Own m (done ++ [h]) (owner.setIfInBounds j (some done.length)) := by
  obtain ⟨qs, lq, iq⟩ := O.ps
  obtain ⟨j0, b0, n0⟩ := st_missing qs (m + 1) (by omega)
  have f0 : oAt owner j0 = none := by
    by_cases z : oAt owner j0 = none
    · exact z
    · exact absurd (iq j0 (by omega) z) n0
  obtain ⟨K, r1, r2, r3⟩ := hm.slot owner h (show j0 ≤ m by omega) f0
  have inb : way m h K < owner.size := by
    have := way_in (m := m) (h := h) (k := K)
    have := O.sz
    omega
  have me : oAt (owner.setIfInBounds (way m h K) (some done.length)) (way m h K) = some done.length := oAt_set_self _ inb
  have them : ∀ {i}, i ≠ way m h K → oAt (owner.setIfInBounds (way m h K) (some done.length)) i = oAt owner i := fun hne => oAt_set_ne _ hne
  have stay : ∀ {i}, oAt owner i ≠ none → oAt (owner.setIfInBounds (way m h K) (some done.length)) i ≠ none := fun {i} hi => by
    by_cases c : i = way m h K
    · subst c
      rw [me]
      simp
    · rw [them c]
      exact hi
  refine ⟨_, r1, ⟨?_, fun j k hj e => ?_, fun k hk => ?_, way m h K :: qs, ?_, fun j hj e => ?_⟩⟩
  · rw [Array.size_setIfInBounds, O.sz]
  · by_cases c : j = way m h K
    · subst c
      rw [me] at e
      cases e
      exact ⟨h, K, by simp, rfl, fun c hc => stay (r3 c hc)⟩
    · rw [them c] at e
      obtain ⟨h', K', d1, d2, d3⟩ := O.at_ j k hj e
      have hk := (List.getElem?_eq_some_iff.mp d1).1
      exact ⟨h', K', by rw [List.getElem?_append_left hk]; exact d1, d2, fun c hc => stay (d3 c hc)⟩
  · by_cases c : k < done.length
    · obtain ⟨j, hj, e⟩ := O.all k c
      refine ⟨j, hj, ?_⟩
      by_cases d : j = way m h K
      · rw [d, r2] at e; cases e
      · rw [them d]; exact e
    · refine ⟨way m h K, way_in, ?_⟩
      rw [me, show k = done.length by simp at hk; omega]
  · simp [lq]
  · by_cases c : j = way m h K
    · simp [c]
    · rw [them c] at e
      exact List.mem_cons_of_mem _ (iq j hj e)
theorem Msk.lay {m : Nat} (hm : Msk m) : ∀ (rest done : List Int) (owner : Array (Option Nat)), Own m done owner → done.length + rest.length ≤ m →
    ∃ owner', rest.foldl (stepF m) (some (owner, done.length)) = some (owner', (done ++ rest).length) ∧ Own m (done ++ rest) owner'
  | [], done, owner, O, _ => ⟨owner, by rw [List.append_nil, List.foldl_nil], by rw [List.append_nil]; exact O⟩
  | h :: rest, done, owner, O, room => by
    simp only [List.length_cons] at room
    obtain ⟨j, e, O1⟩ := hm.own O (by omega) h
    have l1 : (done ++ [h]).length = done.length + 1 := by simp
    obtain ⟨owner', f, O2⟩ := hm.lay rest (done ++ [h]) _ O1 (by omega)
    rw [l1] at f
    rw [List.append_assoc, List.singleton_append] at f O2
    exact ⟨owner', by rw [List.foldl_cons, stepF_some e, f], O2⟩
theorem Msk.anew {M : Nat} (hM : Msk M) (t : SetTable) {hs : Array Int} {wanted : Nat} (hw : SetTable.sizeAbove wanted - 1 = M) (hn : hs.size ≤ M) :
    ∃ t' order, t.relaid hs wanted = some (t', order) ∧ order.toList.Perm (List.range hs.size) ∧ Tb t' (order.toList.map fun i => hs.getD i 0) ∧ t'.mask = M ∧ t'.led = t.led ∧ t'.plain = t.plain := by
  obtain ⟨owner, f, O⟩ := hM.lay hs.toList [] _ (Own.init M) (by simpa using hn)
  rw [List.nil_append] at O
  have lc : SetTable.layClean M hs = some owner := by
    rw [layClean_eq]
    have f' : hs.toList.foldl (stepF M) (some (Array.replicate (M + 1) none, 0)) = some (owner, ([] ++ hs.toList).length) := f
    rw [f']
    rfl
  have live := fun (j k : Nat) => mem_live (m := M) (owner := owner) O.sz (j := j) (k := k)
  obtain ⟨u1, u2⟩ := ris_live (fun j => owner.getD j none) (List.range (M + 1)) (by unfold Ris; exact List.pairwise_lt_range)
  have rise : Ris ((liveOf M owner).map (·.1)) := u1
  have inR : ∀ x ∈ (liveOf M owner).map (·.1), x ∈ List.range (M + 1) := u2
  have allk : ∀ k < hs.size, k ∈ (liveOf M owner).map (·.2) := fun k hk => by
    obtain ⟨j, hj, e⟩ := O.all k (by rw [Array.length_toList]; exact hk)
    exact List.mem_map.mpr ⟨(j, k), (live j k).mpr ⟨hj, e⟩, rfl⟩
  have cnt : (liveOf M owner).length = hs.size := by
    obtain ⟨qs, lq, iq⟩ := O.ps
    have nd : ((liveOf M owner).map (·.1)).Nodup := List.Pairwise.imp (fun h => Nat.ne_of_lt h) rise
    have h1 := nat_nodup_len ((liveOf M owner).map (·.1)) qs nd fun x hx => by
      obtain ⟨⟨y, k⟩, hy, rfl⟩ := List.mem_map.mp hx
      obtain ⟨z1, z2⟩ := (live y k).mp hy
      exact iq y z1 (by rw [z2]; simp)
    have h2 := nat_nodup_len (List.range hs.size) ((liveOf M owner).map (·.2)) List.nodup_range fun k hk => allk k (List.mem_range.mp hk)
    rw [List.length_map, lq] at h1
    rw [List.length_map, List.length_range] at h2
    have h3 : hs.toList.length = hs.size := Array.length_toList ..
    omega
  refine ⟨tabOf t M owner, ((liveOf M owner).map (·.2)).toArray, ?_, ?_, ⟨rise, rfl, ?_, hM, fun x hx => ?_, fun i h j hi hj => ?_⟩, rfl, rfl, rfl⟩
  · rw [relaid_eq, hw, lc]
    rfl
  · exact perm_range hs.size _ (by show ((liveOf M owner).map (·.2)).length = _; rw [List.length_map]; exact cnt) allk
  · show ((liveOf M owner).map (·.1)).toArray.size = (((liveOf M owner).map (·.2)).map fun i => hs.getD i 0).length
    simp
  · have := List.mem_range.mp (inR x hx)
    show x ≤ M
    omega
  · have hi' : (((liveOf M owner).map (·.2)).map fun i => hs.getD i 0)[i]? = some h := hi
    have hj' : ((liveOf M owner).map (·.1))[i]? = some j := hj
    rw [List.getElem?_map] at hj'
    obtain ⟨⟨y, k⟩, hq, ey⟩ := Option.map_eq_some_iff.mp hj'
    rw [List.getElem?_map, List.getElem?_map, hq] at hi'
    have eh : hs.getD k 0 = h := Option.some.inj hi'
    have ey' : y = j := ey
    subst ey'
    obtain ⟨z1, z2⟩ := (live y k).mp (List.mem_of_getElem? hq)
    obtain ⟨h0, K, a1, a2, a3⟩ := O.at_ y k z1 z2
    have : hs.getD k 0 = h0 := by
      rw [Array.getElem?_toList] at a1
      rw [Array.getD_eq_getD_getElem?, a1]
      rfl
    rw [eh] at this
    subst this
    refine ⟨K, a2, fun c hc => ?_⟩
    show way M h c ∈ (liveOf M owner).map (·.1)
    obtain ⟨k2, e2⟩ := Option.ne_none_iff_exists'.mp (a3 c hc)
    exact List.mem_map.mpr ⟨(way M h c, k2), (live _ _).mpr ⟨way_in, e2⟩, rfl⟩
/-! the set's object -/
section
variable {P : Program} {w : World} {A : Around} {E : Value → Shared → Prop} {s : Shared} {a x : Addr} {k : List Int} {L : KS} {es : Array (Int × Value)} {t : SetTable}
structure BigS (P : Program) (w : World) (h : Heap) (a : Addr) (L : KS) (es : Array (Int × Value)) (t : SetTable) : Prop where
  ob : ∃ o ep, h.get? a = some o ∧ o.ExactSet ∧ o.data = .set es ep t
  rows : es.toList = rowsOf P w L
  tab : Tb t (L.map fun p => thash P w p.2)
  nd : (L.map (·.2)).Nodup
  tup : ∀ p ∈ L, IsT P w h p.2 p.1
  pl : t.plain = true
  led : w.params.followText "set-order" = true ∨ t.led = true
  room : L.length * 5 < t.mask * 3
theorem rows_size {L : KS} {es : Array (Int × Value)} (h : es.toList = rowsOf P w L) : es.size = L.length := by
  rw [← Array.length_toList, h]
  exact List.length_map ..
theorem rows_at {L : KS} {es : Array (Int × Value)} (h : es.toList = rowsOf P w L) {i : Nat} {p : Addr × List Int} (hp : L[i]? = some p) : es[i]? = some (thash P w p.2, Value.ref p.1) := by
  rw [← Array.getElem?_toList, h]
  show (L.map _)[i]? = _
  rw [List.getElem?_map, hp]
  rfl
theorem fits_if {n : Nat} (h1 : t.place.size = n) (h2 : t.dummies = #[]) (h3 : n ≤ t.mask) : t.fits n = true := by
  unfold SetTable.fits SetTable.fill
  rw [h2, h1]
  simpa using h3
theorem BigS.fit (R : BigS P w s.heap a L es t) : t.fits es.size = true := by
  have h1 := R.tab.len
  have h2 := rows_size R.rows
  have h3 := R.room
  rw [List.length_map] at h1
  exact fits_if (by omega) R.tab.no (by omega)
theorem Msk.keeps {m : Nat} (hm : Msk m) : m % 2 = 1 ∧ 10 * SetTable.turns m ≤ 30000 := by
  unfold SetTable.turns
  rcases hm with rfl | rfl | rfl | rfl | rfl <;> exact ⟨rfl, by decide⟩
/-- a search for the tuple k -/
theorem BigS.search (R : BigS P w s.heap a L es t) (hx : IsT P w s.heap k x) (hu : A.units < cLine) {Q : SetFound → Shared → Prop} (hin : k ∈ L.map (·.2) → Q (.there none) s)
    (hout : ∀ K, k ∉ L.map (·.2) → way t.mask (thash P w k) K ∉ t.place.toList → (∀ c < K, way t.mask (thash P w k) c ∈ t.place.toList) → Q (.free (way t.mask (thash P w k) K) false) s) :
    wpAny (model P w) A (setSearch a (.ref x) (thash P w k) true) Q E s := by
  obtain ⟨o, ep, ho, hex, hd⟩ := R.ob
  have rm := R.room
  obtain ⟨K, K1, K2, K3⟩ := R.tab.free (by rw [List.length_map]; omega) (thash P w k)
  have K4 := R.tab.msk.keeps.2
  have gw : ¬ t.gaveWay = true := by unfold SetTable.gaveWay; rw [R.tab.msk.keeps.1]; decide
  generalize hh : thash P w k = h at *
  generalize hp0 : runAt t.mask (SetTable.bits h % (t.mask + 1)) (SetTable.bits h) = p0 at *
  have wy : ∀ c, (nth t.mask p0 c).j = way t.mask h c := fun c => by rw [← hp0]
  have nodum : ∀ c, (nth t.mask p0 c).dummy = none := fun c => by
    induction c with
    | zero => rw [← hp0]; rfl
    | succ c ih =>
      rw [nth_succ]
      unfold adv
      split <;> exact ih
  have far : ∀ (i : Nat) (p : Addr × List Int), L[i]? = some p → p.2 = k → ∃ c, c < K ∧ t.place.toList[i]? = some (way t.mask h c) := fun i p hp hk => by
    have hi : (L.map fun p => thash P w p.2)[i]? = some h := by rw [List.getElem?_map, hp, ← hh, ← hk]; rfl
    have hil : i < t.place.toList.length := by
      have := R.tab.len
      rw [List.length_map] at this
      have := (List.getElem?_eq_some_iff.mp hp).1
      rw [Array.length_toList]
      omega
    have hj := List.getElem?_eq_getElem hil
    obtain ⟨c, c1, c2⟩ := R.tab.ahead K2 hi hj
    exact ⟨c, c1, by rw [hj, c2]⟩
  -- from the c-th step on
  have go : ∀ (f c : Nat) (stand : Option SetTable.Probe), stand.getD (t.probeStart h) = nth t.mask p0 c → c ≤ K → K - c < f → (∀ (i : Nat) (p : Addr × List Int), L[i]? = some p → p.2 = k → ∃ c', c ≤ c' ∧ c' < K ∧ t.place.toList[i]? = some (way t.mask h c')) →
      wpAny (model P w) A (setSearchFrom a (.ref x) h true f stand) Q E s := by
    intro f
    induction f with
    | zero => intro c stand _ _ z; omega
    | succ f ih =>
      intro c stand hst hc hf hre
      rw [setSearchFrom_succ]
      refine wpAny_bind (wpAny_setState_of ho hd R.fit ?_)
      dsimp only
      refine wp_if_neg gw ?_
      try refine wpAny_bind (wpAny_pure ?_)
      have st : ∀ q, nth t.mask (nth t.mask p0 c) q = nth t.mask p0 (c + q) := fun q => (nth_add t.mask c p0 q).symm
      have eh : ∀ (i : Nat) (p : Addr × List Int), L[i]? = some p → (es[i]?.map (·.1)).getD 0 = thash P w p.2 := fun i p hp => by rw [rows_at R.rows hp]; rfl
      have pr : t.probe (fun i => (es[i]?.map (·.1)).getD 0) h (stand.getD (t.probeStart h)) = SetTable.probe.go t (fun i => (es[i]?.map (·.1)).getD 0) h (10 * SetTable.turns t.mask) (nth t.mask p0 c) := by rw [hst]; rfl
      rcases go_spec t R.tab.up R.tab.no (fun i => (es[i]?.map (·.1)).getD 0) h (10 * SetTable.turns t.mask) (K - c) (nth t.mask p0 c) (nodum c) (by omega) (fun q hq => by rw [st, wy]; exact K3 _ (by omega)) (by rw [st, wy, show c + (K - c) = K by omega]; exact K2) with ⟨q, i, g1, g2, g3, g4, g5⟩ | ⟨g4, g5⟩
      · rw [pr, g5]
        dsimp only
        rw [st, st, wy]
        rw [st, wy] at g2
        have hil : i < L.length := by
          have := (List.getElem?_eq_some_iff.mp g2).1
          have h2 := R.tab.len
          rw [List.length_map] at h2
          rw [Array.length_toList] at this
          omega
        obtain ⟨p, hp⟩ : ∃ p, L[i]? = some p := ⟨_, List.getElem?_eq_getElem hil⟩
        have pin := List.mem_of_getElem? hp
        have sl : t.slot (way t.mask h (c + q)) = .live i := slot_live R.tab.up g2
        have on : wpAny (model P w) A (searchRest a (.ref x) h true f es t (way t.mask h (c + q)) i (nth t.mask p0 (c + (q + 1)))) Q E s := by
          unfold searchRest
          rw [rows_at R.rows hp]
          dsimp only
          refine wpAny_bind (wpAny_holding (wpAny_eqBool_tuple hu (R.tup p pin) hx ?_))
          refine wpAny_bind (wpAny_setState_of ho hd R.fit ?_)
          dsimp only
          by_cases e : p.2 = k
          · refine wp_if_pos (by simp [e]) (wpAny_pure (hin ?_))
            exact List.mem_map.mpr ⟨p, pin, e⟩
          · refine wp_if_neg (by simp [e]) ?_
            try refine wpAny_bind (wpAny_pure ?_)
            rw [sameMem]
            dsimp only
            simp only [if_true, sl, rows_at R.rows hp]
            refine wpAny_bind (wpAny_isSame_ref_self (wpAny_bind (wpAny_pure ?_)))
            simp only [if_true]
            refine wp_if_neg (by simp [e]) (ih (c + (q + 1)) _ rfl (by omega) (by omega) fun i0 p1 h0 hk0 => ?_)
            obtain ⟨c', d1, d2, d3⟩ := hre i0 p1 h0 hk0
            refine ⟨c', ?_, d2, d3⟩
            by_cases z1 : c' < c + q
            · exfalso
              refine g4 (c' - c) i0 (by omega) (by rw [st, wy, show c + (c' - c) = c' by omega]; exact d3) ?_
              show (es[i0]?.map (·.1)).getD 0 = h
              rw [eh i0 p1 h0, hk0, hh]
            · by_cases z2 : c' = c + q
              · exfalso
                subst z2
                have := slot_live R.tab.up d3
                rw [sl] at this
                cases this
                rw [hp] at h0
                cases h0
                exact e hk0
              · omega
        by_cases hl : t.led = true
        · refine wp_if_neg (by simp [hl]) ?_
          try refine wpAny_bind (wpAny_pure ?_)
          exact on
        · refine wp_if_pos (by simp [hl]) (wpAny_bind (seen_tup hx (fun y hy => ?_) ?_))
          · obtain ⟨en, he, rfl⟩ := List.mem_map.mp hy
            have he2 : en ∈ es.toList := by
              have : en ∈ es ∧ en.1 = h := by simpa using he
              simpa using this.1
            rw [R.rows] at he2
            obtain ⟨p2, hp2, rfl⟩ := List.mem_map.mp he2
            exact ⟨p2.2, p2.1, rfl, R.tup p2 hp2⟩
          · refine wp_if_neg (by decide) ?_
            try refine wpAny_bind (wpAny_pure ?_)
            exact on
      · rw [pr, g5]
        dsimp only
        rw [st, wy, show c + (K - c) = K by omega]
        refine wpAny_pure (hout K (fun hm => ?_) K2 K3)
        obtain ⟨p, hp, e⟩ := List.mem_map.mp hm
        obtain ⟨i, hi, ei⟩ := List.getElem_of_mem hp
        have hp' : L[i]? = some p := by rw [List.getElem?_eq_getElem hi, ei]
        obtain ⟨c', d1, d2, d3⟩ := hre i p hp' e
        refine g4 (c' - c) i (by omega) (by rw [st, wy, show c + (c' - c) = c' by omega]; exact d3) ?_
        show (es[i]?.map (·.1)).getD 0 = h
        rw [eh i p hp', e, hh]
  unfold setSearch
  refine go 100000 0 none ?_ (Nat.zero_le _) (by omega) fun i p hp hk => ?_
  · rw [← hp0]; rfl
  · obtain ⟨c, c1, c2⟩ := far i p hp hk
    exact ⟨c, Nat.zero_le _, c1, c2⟩
/-- the table laid anew, larger -/
theorem big_relay {o : Obj} {ep M wanted : Nat} (ho : s.heap.get? a = some o) (hex : o.ExactSet) (hd : o.data = .set es ep t) (hr : es.toList = rowsOf P w L) (h1 : t.place.size = es.size) (h2 : t.dummies = #[]) (h3 : es.size ≤ t.mask)
    (nd : (L.map (·.2)).Nodup) (tup : ∀ p ∈ L, IsT P w s.heap p.2 p.1) (pl : t.plain = true) (ld : w.params.followText "set-order" = true ∨ t.led = true)
    (hw : SetTable.sizeAbove wanted - 1 = M) (hM : Msk M) (hz : SetTable.sizeAbove wanted ≤ 2048) (room : L.length * 5 < M * 3) {Q : Unit → Shared → Prop}
    (hQ : ∀ h' L' es' t', Heap.SameBut a s.heap h' → BigS P w h' a L' es' t' → L'.Perm L → Q () { s with heap := h' }) : wpAny (model P w) A (setRelay a wanted) Q E s := by
  have hsz := rows_size hr
  obtain ⟨t', order, e1, e2, e3, e4, e5, e6⟩ := hM.anew t (hs := es.map (·.1)) hw (by rw [Array.size_map]; omega)
  rw [Array.size_map, hsz] at e2
  obtain ⟨L', r1, r2, r3⟩ := order_rows L es order hr e2
  rw [← r3] at e3
  have hs' : (order.filterMap (es[·]?)).size = L.length := by rw [rows_size r1, r2.length_eq]
  have few : L.length ≤ 2048 := by
    have : M ≤ 2047 := by omega
    omega
  rw [setRelay_eq]
  refine wpAny_bind (wpAny_setState_of ho hd (fits_if h1 h2 h3) ?_)
  dsimp only
  refine wp_if_neg (by rw [sizeLine_eq]; omega) ?_
  try refine wpAny_bind (wpAny_pure ?_)
  rw [e1]
  dsimp only
  refine wpAny_bind (wp_if_neg (by rw [hs', hsz]; simp) ?_)
  try refine wpAny_bind (wpAny_pure ?_)
  refine wpAny_pure ?_
  dsimp only
  refine wpAny_storeSet_of ho hd ?_ (by rw [hs', sizeLine_eq]; omega)
  have sb : Heap.SameBut a s.heap (s.heap.update a (Obj.putSet (order.filterMap (es[·]?)) t')) := Heap.SameBut.update ..
  exact hQ _ L' _ t' sb ⟨⟨_, _, store_at ho hd, hex, rfl⟩, r1, e3, (r2.map (·.2)).nodup_iff.mpr nd, fun p hp => isT_same (tup p (r2.mem_iff.mp hp)) ho hd sb, by rw [e6]; exact pl, by rw [e5]; exact ld, by rw [r2.length_eq, e4]; exact room⟩ r2
end
theorem grow4 : SetTable.sizeAbove (SetTable.grown 5) = 32 ∧ SetTable.sizeAbove (SetTable.grown 19) = 128 ∧ SetTable.sizeAbove (SetTable.grown 77) = 512 ∧ SetTable.sizeAbove (SetTable.grown 307) = 2048 := by decide +kernel
section
variable {P : Program} {w : World} {A : Around} {E : Value → Shared → Prop} {s : Shared} {a x : Addr} {k : List Int} {L : KS} {es : Array (Int × Value)} {t : SetTable}
/-- one tuple is added -/
theorem BigS.add (R : BigS P w s.heap a L es t) (hx : IsT P w s.heap k x) (hu : A.units < cLine) (few : L.length < 1200) {Q : Bool → Shared → Prop}
    (hQ : ∀ b h' L' es' t', Heap.SameBut a s.heap h' → BigS P w h' a L' es' t' → (k ∈ L.map (·.2) → L' = L) → (k ∉ L.map (·.2) → L'.Perm ((x, k) :: L)) → Q b { s with heap := h' }) :
    wpAny (model P w) A (setAddHashed a (.ref x) (thash P w k)) Q E s := by
  obtain ⟨o, ep, ho, hex, hd⟩ := id R.ob
  have hsz := rows_size R.rows
  have rm := R.room
  unfold setAddHashed
  refine wpAny_holding ?_
  rw [show (100000 : Nat) = 99999 + 1 from rfl, setAddHashedIn_succ]
  refine wpAny_bind (wpAny_setState_of ho hd R.fit ?_)
  dsimp only
  refine wp_if_neg (by simp [byScan, Value.scannable]) ?_
  try refine wpAny_bind (wpAny_pure ?_)
  refine wpAny_bind (R.search hx hu (fun hm => ?_) fun K hm K2 K3 => ?_)
  · exact wpAny_pure (hQ false s.heap L es t (Heap.SameBut.refl a s.heap) R (fun _ => rfl) fun z => absurd hm z)
  dsimp only
  refine wpAny_bind (wpAny_setState_of ho hd R.fit ?_)
  dsimp only
  obtain ⟨b1, T1⟩ := R.tab.more K2 K3 rfl
  have f1 : (t.put (way t.mask (thash P w k) K)).2 = SetTable.below t.place (way t.mask (thash P w k) K) := rfl
  have f2 : (t.put (way t.mask (thash P w k) K)).1.mask = t.mask := rfl
  have f3 : (t.put (way t.mask (thash P w k) K)).1.led = t.led := rfl
  have f4 : (t.put (way t.mask (thash P w k) K)).1.plain = t.plain := rfl
  generalize t.put (way t.mask (thash P w k) K) = pt at T1 f1 f2 f3 f4 ⊢
  obtain ⟨t1, p⟩ := pt
  dsimp only at T1 f1 f2 f3 f4 ⊢
  rw [← f1] at T1 b1
  clear f1
  have p1 : t1.plain = true := by rw [f4]; exact R.pl
  first
    | (refine wpAny_bind ?_; refine wp_if_pos p1 ?_; refine hashBy_tup hx ?_)
    | refine wp_if_pos p1 (wpAny_bind (hashBy_tup hx ?_))
  simp only [if_true]
  have r1 : (SetTable.insertAt es p (thash P w k, Value.ref x)).toList = rowsOf P w (L.take p ++ (x, k) :: L.drop p) := by
    rw [SetTable.toList_insertAt, R.rows, rows_put]
  have pm := put_perm L p (x, k)
  have em : (L.map fun p => thash P w p.2).take p ++ thash P w k :: (L.map fun p => thash P w p.2).drop p = (L.take p ++ (x, k) :: L.drop p).map fun p => thash P w p.2 := by
    rw [List.map_append, List.map_cons, List.map_take, List.map_drop]
  rw [em] at T1
  generalize L.take p ++ (x, k) :: L.drop p = L1 at r1 pm T1
  have l1 : L1.length = L.length + 1 := pm.length_eq
  have s1 := rows_size r1
  have t1z := T1.len
  rw [List.length_map, l1] at t1z
  generalize SetTable.insertAt es p (thash P w k, Value.ref x) = es1 at r1 s1 ⊢
  refine wpAny_bind (wpAny_storeSet_of ho hd ?_ (by rw [sizeLine_eq]; omega))
  have sb : Heap.SameBut a s.heap (s.heap.update a (Obj.putSet es1 t1)) := Heap.SameBut.update ..
  have o1 := store_at (es' := es1) (t' := t1) ho hd
  generalize s.heap.update a (Obj.putSet es1 t1) = h1 at sb o1 ⊢
  have nd1 : (L1.map (·.2)).Nodup := (pm.map (·.2)).nodup_iff.mpr (List.nodup_cons.mpr ⟨hm, R.nd⟩)
  have tu1 : ∀ q ∈ L1, IsT P w h1 q.2 q.1 := fun q hq => by
    rcases List.mem_cons.mp (pm.mem_iff.mp hq) with rfl | hq
    · exact isT_same hx ho hd sb
    · exact isT_same (R.tup q hq) ho hd sb
  have ld1 : w.params.followText "set-order" = true ∨ t1.led = true := by rw [f3]; exact R.led
  have fl : t1.fill = L.length + 1 := by unfold SetTable.fill; rw [T1.no, t1z]; rfl
  by_cases hf : t1.tooFull = true
  · first
      | (refine wpAny_bind ?_; refine wp_if_pos (by simp [hf]) ?_)
      | (refine wp_if_pos (by simp [hf]) ?_; refine wpAny_bind ?_)
    have full : t1.mask * 3 ≤ (L.length + 1) * 5 := by
      unfold SetTable.tooFull at hf
      rw [decide_eq_true_eq, fl] at hf
      exact hf
    rw [hsz]
    have on : ∀ M, SetTable.sizeAbove (SetTable.grown (L.length + 1)) = M + 1 → Msk M → (L.length + 1) * 5 < M * 3 → M ≤ 2047 →
        wpAny (model P w) A (setRelay a (SetTable.grown (L.length + 1))) (fun _ s' => wpAny (model P w) A (pure true) Q E s') E { s with heap := h1 } := fun M g1 g2 g3 g4 => by
      refine big_relay (s := { s with heap := h1 }) (M := M) o1 hex rfl r1 (by omega) T1.no (by omega) nd1 tu1 p1 ld1 (by omega) g2 (by omega) (by rw [l1]; exact g3) fun h2 L2 es2 t2 sb2 R2 pm2 => ?_
      exact wpAny_pure (hQ true h2 L2 es2 t2 (sb.trans sb2) R2 (fun z => absurd z hm) fun _ => pm2.trans pm)
    rw [f2] at full
    obtain ⟨g1, g2, g3, g4⟩ := grow4
    rcases R.tab.msk with e | e | e | e | e
    · exact on 31 (by rw [show L.length + 1 = 5 by omega, g1]) (.inr (.inl rfl)) (by omega) (by decide)
    · exact on 127 (by rw [show L.length + 1 = 19 by omega, g2]) (.inr (.inr (.inl rfl))) (by omega) (by decide)
    · exact on 511 (by rw [show L.length + 1 = 77 by omega, g3]) (.inr (.inr (.inr (.inl rfl)))) (by omega) (by decide)
    · exact on 2047 (by rw [show L.length + 1 = 307 by omega, g4]) (.inr (.inr (.inr (.inr rfl)))) (by omega) (by decide)
    · omega
  · first
      | refine wp_if_neg (by simp [hf]) ?_
      | (refine wpAny_bind ?_; refine wp_if_neg (by simp [hf]) ?_; refine wpAny_pure ?_)
    have nf : (L.length + 1) * 5 < t1.mask * 3 := by
      unfold SetTable.tooFull at hf
      rw [decide_eq_true_eq, fl] at hf
      omega
    exact wpAny_pure (hQ true h1 L1 es1 t1 sb ⟨⟨_, _, o1, hex, rfl⟩, r1, T1, nd1, tu1, p1, ld1, by rw [l1]; exact nf⟩ (fun z => absurd z hm) fun _ => pm)
theorem BigS.on {h h' : Heap} (R : BigS P w h a L es t) (ha : ∀ o, h.get? a = some o → h'.get? a = some o) (ht : ∀ p ∈ L, IsT P w h' p.2 p.1) : BigS P w h' a L es t := by
  obtain ⟨o, ep, ho, r⟩ := R.ob
  exact ⟨⟨o, ep, ha o ho, r⟩, R.rows, R.tab, R.nd, ht, R.pl, R.led, R.room⟩
abbrev newSet (w : World) : Obj := { cls := .type "set", dict := none, data := .set #[] 0 (.fresh 0 0 (!w.params.followText "set-order")) }
theorem big_new {h : Heap} (ho : h.get? a = some (newSet w)) : BigS P w h a [] #[] (.fresh 0 0 (!w.params.followText "set-order")) := by
  refine ⟨⟨_, _, ho, ⟨rfl, rfl, rfl⟩, rfl⟩, rfl, ⟨List.Pairwise.nil, rfl, rfl, .inl rfl, fun x hx => (by cases hx), fun i h j hi => (by simp at hi)⟩, List.nodup_nil, fun p hp => (by cases hp), rfl, ?_, (by decide : 0 * 5 < 7 * 3)⟩
  show _ ∨ (!w.params.followText "set-order") = true
  cases w.params.followText "set-order" <;> simp
/-- the loop of set.update -/
theorem big_loop {I S : Addr} {fp wr : List Addr} {G : Array GenState → Array GenState → Prop} {n : Nat} {Pv : Nat → Value → Prop} {St : Nat → Shared → Prop} {R : Result → Shared → Prop} (W : WalksS P w A.in1 I fp wr G n Pv St) (hSf : S ∉ fp)
    (ks : KS) (hn : n = ks.length) (few : ks.length ≤ 1200) (hval : ∀ i v, Pv i v → ∃ p, ks[i]? = some p ∧ v = .ref p.1) (h0 : Heap) (hk : ∀ p ∈ ks, IsT P w h0 p.2 p.1) (hS0 : h0.get? S = none) (hw0 : ∀ b ∈ wr, h0.get? b = none) (hu : A.in1.units < cLine) :
    ∀ (f i : Nat) (s : Shared), n - i = f → i ≤ n → St i s → (∀ b o, h0.get? b = some o → s.heap.get? b = some o) → (∃ L es t, BigS P w s.heap S L es t ∧ Got ks i L) →
      (∀ s' L es t, Moved (S :: wr) G s s' → BigS P w s'.heap S L es t → Got ks n L → (∀ b o, h0.get? b = some o → s'.heap.get? b = some o) → R (.ok (.ret .none)) s') →
      codeAny (model P w) A (.builtin "set.update.loop" ⟨[.ref S, .ref I], []⟩) R s := by
  have nSw : S ∉ wr := fun z => hSf (W.sub _ z)
  have inS : ∀ b ∈ wr, b ∈ S :: wr := fun b hb => List.mem_cons_of_mem _ hb
  have stay : ∀ {s s' : Shared}, Moved wr G s s' → (∀ b o, h0.get? b = some o → s.heap.get? b = some o) → ∀ b o, h0.get? b = some o → s'.heap.get? b = some o := fun hm kp b o e => by
    refine hm.heap b o (fun hb => ?_) (kp b o e)
    rw [hw0 b hb] at e
    cases e
  intro f
  induction f with
  | zero =>
    intro i s hf hi st kp ⟨L, es, t, B, g⟩ fin
    obtain rfl : i = n := by omega
    refine codeAny_builtin F.entry_set_update_loop ?_
    rw [Around.under_plainId F.plain_set_update_loop _]
    show wpAny _ A.in1 (pyNext (.ref I) >>= _) _ _ s
    refine wpAny_bind (W.done s _ _ st fun s' hm => ?_)
    have kp' := stay hm kp
    exact wpAny_pure (fin s' L es t (hm.mono inS) (B.on (fun o e => hm.heap S o nSw e) fun p hp => isT_keep (hk p (List.mem_of_mem_take (g.sub p hp))) kp') g kp')
  | succ f ih =>
    intro i s hf hi st kp ⟨L, es, t, B, g⟩ fin
    refine codeAny_builtin F.entry_set_update_loop ?_
    rw [Around.under_plainId F.plain_set_update_loop _]
    show wpAny _ A.in1 (pyNext (.ref I) >>= _) _ _ s
    refine wpAny_bind (W.item i s _ _ (by omega) st fun v s' hP st' hm => ?_)
    obtain ⟨p, hp, rfl⟩ := hval i v hP
    have kp' := stay hm kp
    have B' : BigS P w s'.heap S L es t := B.on (fun o e => hm.heap S o nSw e) fun q hq => isT_keep (hk q (List.mem_of_mem_take (g.sub q hq))) kp'
    have hx : IsT P w s'.heap p.2 p.1 := isT_keep (hk p (List.mem_of_getElem? hp)) kp'
    show wpAny _ A.in1 (holding [Value.ref p.1] (setAdd S (.ref p.1)) >>= _) _ _ s'
    refine wpAny_bind (wpAny_holding ?_)
    unfold setAdd
    refine wpAny_holding (wpAny_bind (wpAny_pyHash_tuple hu hx ?_))
    refine BigS.add (s := { s' with toks := s'.toks + (p.2.length + 1) }) B' hx hu (by have := g.len; omega) fun b h' L' es' t' sb B2 c1 c2 => ?_
    have g' : Got ks (i + 1) L' := by
      by_cases c : p.2 ∈ L.map (·.2)
      · rw [c1 c]; exact g.same hp c
      · exact g.more hp (c2 c)
    have off : ∀ b, b ≠ S → h'.get? b = s'.heap.get? b := fun b hb => sb.2 b hb
    have kp2 : ∀ b o, h0.get? b = some o → h'.get? b = some o := fun b o e => by
      rw [off b (fun z => by rw [z, hS0] at e; cases e)]
      exact kp' b o e
    refine wpAny_pure ⟨plainId_quiet F.plain_set_update_loop _, ih (i + 1) _ (by omega) (by omega) (W.frame _ s' _ _ st' (Nat.le_add_right _ _) fun b hb o e => ?_) kp2 ⟨L', es', t', B2, g'⟩ fun s'' L2 es2 t2 hm2 B3 g2 kp3 => ?_⟩
    · show h'.get? b = some o
      rw [off b (fun z => hSf (z ▸ hb))]
      exact e
    · refine fin s'' L2 es2 t2 (Moved.trans W.gtrans ((hm.mono inS).then_heap (Nat.le_add_right _ _) fun b o hb e => ?_) hm2) B3 g2 kp3
      show h'.get? b = some o
      rw [off b (fun z => hb (z ▸ List.mem_cons_self))]
      exact e
end
section
variable {P : Program} {w : World} {A : Around} {E : Value → Shared → Prop} {s : Shared}
theorem call_set_big {l : Addr} {items : Array Value} (ks : KS) {Q : Value → Shared → Prop} (hh : A.handled = none) (hl : s.heap.IsList l items) (hit : items.toList = refsU ks) (hk : ∀ p ∈ ks, IsT P w s.heap p.2 p.1) (few : ks.length ≤ 1200) (hu : A.units + 3 < cLine)
    (h : ∀ (h' : Heap) (tk : Nat) L es t, BigS P w h' s.heap.objs.size L es t → Got ks ks.length L → (∀ b o, s.heap.get? b = some o → h'.get? b = some o) → Q (.ref s.heap.objs.size) { s with heap := h', toks := tk }) :
    wpAny (model P w) A (call (.type "set") [.ref l]) Q E s := by
  have hisz : items.size = ks.length := by
    rw [← Array.length_toList, hit]
    exact List.length_map ..
  obtain ⟨c, tl, hmro⟩ := F.called_set.mro
  have hmade := F.called_set.made
  have hsub := F.called_set.sub
  refine wpAny_call (codeAny_of_tree ?_)
  show wpAny _ _ (callAny (.type "set") _) _ _ _
  refine wpAny_pure ⟨Code.quiet_builtin _ (by decide +kernel), codeAny_builtin F.entry_type_call ?_⟩
  rw [Around.under_plain (weight_type_call_type "set" [.ref l] []) rfl]
  have h1 := F.called_set.notType
  have h2 := F.called_set.canCreate
  have hct := F.typeCall_set_1 (.ref l)
  repeat (any_goals (first | assumption | wp_step))

  refine codeAny_mono (code_set_led1 (.ref l) (E := E) (Q₁ := fun obj s₁ => obj = .ref s.heap.objs.size ∧ s₁ = { s with heap := s.heap.push { cls := .type "set", dict := none, data := .set #[] 0 (.fresh 0 0 (!w.params.followText "set-order")) } }) ⟨rfl, rfl⟩) fun r s₁ hr => ?_
  cases r with
  | error e => exact hr
  | ok fl =>
    cases fl with
    | ret obj =>
      obtain ⟨rfl, rfl⟩ := hr
      have hS : (s.heap.push { cls := .type "set", dict := none, data := .set #[] 0 (.fresh 0 0 (!w.params.followText "set-order")) }).get? s.heap.objs.size = some { cls := .type "set", dict := none, data := .set #[] 0 (.fresh 0 0 (!w.params.followText "set-order")) } := Heap.get?_push_size _ rfl
      have hT : Shared.TypeIs { s with heap := s.heap.push { cls := .type "set", dict := none, data := .set #[] 0 (.fresh 0 0 (!w.params.followText "set-order")) } } (.ref s.heap.objs.size) "set" := ⟨_, hS, rfl⟩
      have hli := F.called_set.init.lookup
      have hbi := F.called_set.init.bind (.ref s.heap.objs.size)
      repeat (any_goals (first | assumption | wp_step))

      refine codeAny_mono (codeAny_call_builtin (R := wants (fun r s₂ => r = .none ∧ ∃ h' tk L es t, s₂ = { s with heap := h', toks := tk } ∧ BigS P w h' s.heap.objs.size L es t ∧ Got ks ks.length L ∧ (∀ b o, s.heap.get? b = some o → h'.get? b = some o)) E) F.called_set.init.plain F.entry_set_init (check_set_init_1 hT ?_)) fun r₂ s₂ hr₂ => ?_
      · obtain ⟨ol, hol, hcl, nl, hdl⟩ := hl
        obtain ⟨ocls, odict, odata, oslots⟩ := ol
        simp only at hcl hdl
        subst hcl; subst hdl
        have hol' : (s.heap.push { cls := .type "set", dict := none, data := .set #[] 0 (.fresh 0 0 (!w.params.followText "set-order")) }).get? l = some { cls := .type "list", dict := odict, data := .seq items nl, slots := oslots } := Heap.get?_push_of_some _ hol
        have hsls := F.sub_list_set
        have hslf := F.sub_list_frozenset
        have hne : (Value.type "list" == Value.type "dict") = false := by decide
        have hl1 : (s.heap.push { cls := .type "set", dict := none, data := .set #[] 0 (.fresh 0 0 (!w.params.followText "set-order")) }).IsList l items := ⟨_, hol', rfl, nl, rfl⟩
        unfold Builtin.«set.__init__» noKeywords Builtin.Frozenset.updateFrom
        generalize hPI : pyIter = PI
        wp_walk
        subst hPI

        refine wpAny_pyIter_list hl1 ?_
        refine wpAny_bind (wpAny_runValue ?_)
        have hlS : l < s.heap.objs.size := Heap.lt_size hol
        have hh3 : A.in1.in1.in1.handled = none := by simp [hh]
        have hz1 : (s.heap.push { cls := .type "set", dict := none, data := .set #[] 0 (.fresh 0 0 (!w.params.followText "set-order")) }).objs.size = s.heap.objs.size + 1 := Heap.size_push ..
        have hneI : l ≠ (s.heap.push { cls := .type "set", dict := none, data := .set #[] 0 (.fresh 0 0 (!w.params.followText "set-order")) }).objs.size := by
          rw [Heap.size_push]; exact Nat.ne_of_lt (Nat.lt_succ_of_lt hlS)
        have hSf : s.heap.objs.size ∉ [(s.heap.push { cls := .type "set", dict := none, data := .set #[] 0 (.fresh 0 0 (!w.params.followText "set-order")) }).objs.size, l] := by
          rw [Heap.size_push]; simp only [List.mem_cons, List.mem_singleton, List.not_mem_nil, or_false, not_or]
          exact ⟨Nat.ne_of_lt (Nat.lt_succ_self _), Nat.ne_of_gt hlS⟩
        have hval : ∀ (i : Nat) (v : Value), items[i]? = some v → ∃ p, ks[i]? = some p ∧ v = .ref p.1 := fun i v hv => by
          have q : (refsU ks)[i]? = some v := by rw [← hit, Array.getElem?_toList]; exact hv
          rw [List.getElem?_map] at q
          obtain ⟨p, hp, e⟩ := Option.map_eq_some_iff.mp q
          exact ⟨p, hp, e.symm⟩
        have none_of : ∀ b, s.heap.objs.size ≤ b → s.heap.get? b = none := fun b hb => by
          cases q : s.heap.get? b with
          | none => rfl
          | some o => exact absurd (Nat.lt_of_lt_of_le (Heap.lt_size q) hb) (Nat.lt_irrefl _)
        refine big_loop ((Walks.list hh3 _ l hneI items).toS) hSf ks hisz few hval s.heap hk (none_of _ (Nat.le_refl _)) (fun b hb => none_of b (by
            rw [List.mem_singleton.mp hb, Heap.size_push]
            exact Nat.le_succ _)) hu (items.size - 0) 0 _ (by omega) (Nat.zero_le _)
          ⟨⟨_, Heap.get?_push_size _ rfl, rfl, rfl⟩, (hl1.push _)⟩ (fun b o e => Heap.get?_push_of_some _ (Heap.get?_push_of_some _ e)) ?hS0 ?hR
        case hS0 =>
          have hget : ((s.heap.push { cls := .type "set", dict := none, data := .set #[] 0 (.fresh 0 0 (!w.params.followText "set-order")) }).push { cls := .type "list_iterator", data := .fields #[.ref l, .int 0 0] }).get? s.heap.objs.size
              = some { cls := .type "set", dict := none, data := .set #[] 0 (.fresh 0 0 (!w.params.followText "set-order")) } := Heap.get?_push_of_some _ hS
          exact ⟨[], #[], _, big_new hget, Got.zero ks⟩
        case hR =>
          intro s' L es t hm B' g' kp
          obtain ⟨h', g2, d', tk', os'⟩ := s'
          have z1 : g2 = s.gens := hm.gens
          have z2 : d' = s.drawn := hm.drawn
          have z3 : os' = s.os := hm.os
          subst z1 z2 z3
          show wpAny _ _ _ _ _ _
          refine wpAny_pure ?_
          show wpAny _ _ (ret Value.none) _ _ _
          rw [hisz] at g'
          exact wpAny_pure ⟨rfl, h', tk', L, es, t, rfl, B', g', kp⟩

      · cases r₂ with
        | error e => exact hr₂
        | ok fl₂ =>
          cases fl₂ with
          | ret r =>
            obtain ⟨rfl, h', tk, L, es, t, rfl, B', g', kp⟩ := hr₂
            repeat (any_goals (first | assumption | wp_step))
            exact h _ _ _ _ _ B' g' kp
          | _ => exact hr₂.elim
    | _ => exact hr.elim

end
section
variable {P : Program} {w : World} {A : Around} {E : Value → Shared → Prop} {s : Shared}
theorem sorted_big {a : Addr} {L : KS} {es : Array (Int × Value)} {t : SetTable} {Q : Value → Shared → Prop} (R : BigS P w s.heap a L es t) (few : L.length ≤ 1200) (hh : A.handled = none)
    {d : Nat} {B : Int} (hd1 : 2 ≤ L.length → 1 ≤ d) (hB : ∀ p ∈ L, p.2.length = d ∧ TS.Bd B p.2)
    (hQ : ∀ s' p (out : List Value) (c : Nat) (L' : KS), (∀ b o, s.heap.get? b = some o → s'.heap.get? b = some o) → s'.gens = s.gens → s'.os = s.os → s.heap.objs.size ≤ p →
      s'.heap.get? p = some (seqObj "list" out.toArray c) → out = refsU L' → L'.Perm L → Rises B L' → Q (.ref p) s') :
    wpAny (model P w) A (call (.builtin "sorted") [.ref a]) Q E s := by
  obtain ⟨o, ep, ho, hex, hd⟩ := R.ob
  have hsz := rows_size R.rows
  refine Calls.call_function_entry PyProof.Rows.kind_sorted PyProof.Rows.plain_sorted PyProof.Rows.entry_sorted (PyProof.Rows.args_sorted1 _) ?_
  unfold Builtin.«sorted»
  refine wpAny_bind (m := checkCount "sorted" 1 1 _) (wpAny_pure ?_)
  refine wpAny_bind (collect_set (A := A.in1) hh ⟨o, ho, hex.1, hd⟩ R.fit (by unfold scanBound; omega) R.tab.up R.led fun s1 vs k1 hz g1 o1 pm => ?_)
  have hes : es.toList.map (·.2) = refsU L := by
    rw [R.rows]
    unfold rowsOf
    rw [List.map_map] <;> rfl
  rw [hes] at pm
  obtain ⟨L1, p1, e1⟩ := L2.perm_lift (fun p : Addr × List Int => Value.ref p.1) pm L rfl
  subst e1
  have hl1 : L1.length ≤ 1200 := by rw [p1.length_eq]; exact few
  have hz1 : (refsU L1).length ≤ sizeLine := by rw [List.length_map, sizeLine_eq]; omega
  have tk : ∀ q ∈ L1, TS.TupInts s1.heap (.ref q.1) q.2 := fun q hq => tupInts_of (P := P) (w := w) (isT_keep (R.tup q (p1.mem_iff.mp hq)) k1)
  have x : TS.TupsOk s1.heap d B (refsU L1) := fun v hv => by
    obtain ⟨q, hq, rfl⟩ := List.mem_map.mp hv
    exact ⟨q.2, tk q hq, hB q (p1.mem_iff.mp hq)⟩
  refine wpAny_bind (wpAny_newList ?_ hz1)
  have hoL : (s1.heap.push (seqObj "list" (refsU L1).toArray 0)).get? s1.heap.objs.size = some (seqObj "list" (refsU L1).toArray 0) := Heap.get?_push_size _ rfl
  refine wpAny_bind (wpAny_holding (wpAny_call_entry PyProof.Rows.slot_list_sort ⟨_, hoL, rfl⟩ PyProof.Rows.entry_list_sort
    (sort_new (s := s1) (d := d) (B := B) (fun h2 => hd1 (by rw [List.length_map, p1.length_eq] at h2; exact h2)) hz1 x hoL fun out a1 a2 => ⟨_, rfl, ?_⟩) (PyProof.Rows.args_list_sort _)))
  obtain ⟨L', p2, e2⟩ := L2.perm_lift (fun p : Addr × List Int => Value.ref p.1) a2 L1 rfl
  obtain ⟨c, hc⟩ := PyProof.Rows.sortedHeap_at (vs := refsU L1) (out := out.toArray) hoL
  refine wpAny_pure ⟨_, rfl, hQ _ s1.heap.objs.size out c L' (fun b u e => ?_) g1 o1 hz hc e2.symm (p2.trans p1) (ksRise (d := d) tk a1 p2 e2)⟩
  have q := k1 b u e
  have hlt := Heap.lt_size q
  show (sortedHeap (s1.heap.push (seqObj "list" (refsU L1).toArray 0)) s1.heap.objs.size (refsU L1) out.toArray).get? b = some u
  rw [PyProof.Rows.sortedHeap_old (Nat.ne_of_lt hlt) (by rw [size_push']; exact Nat.lt_succ_of_lt hlt)]
  exact Heap.get?_push_of_some _ q
end
def sortSetB (K : PySem.W.Frag) (Q : VK) (v : V) (H : Hp) : Prop := ∃ (a : Addr) (ks : KS) (d : Nat) (B : Int), v = .ref a ∧ SqL K H a (refsV ks) ∧ KsOk K H d B ks ∧ ks.length ≤ 1200 ∧
  ∀ (ks' : KS) p, (∀ q ∈ ks', q ∈ ks) → (∀ q ∈ ks, q.2 ∈ ks'.map (·.2)) → (ks'.map (·.2)).Nodup → Rises B ks' → H p = none → Q (.ref p) (upd H p (.lst (refsV ks')))
def tSortSetB (K : PySem.W.Frag) (te : TE) : TE := fun σ H Q => te σ H (sortSetB K Q)
section
variable {X : Cx}
/-- sorted(set(xs)), xs a list of at most 1,200 tuples -/
theorem pe_sortSetB {K : PySem.W.Frag} {e : Expr} {te : TE} {p p2 pos pos2 : Pos} (h : X.K = K) (hc : X.calm = true) (hu : X.A.units + 64 < cLine) (hg : Gl X "sorted") (hm : X.mg "sorted" = none) (hg2 : Gl X "set") (hm2 : X.mg "set" = none) (he : PE X e te)
    (na : starEach [e] X.env = (false, eval e X.env) :: starEach [] X.env := by rfl) :
    PE X (.Call (.Name "sorted" p) [.Call (.Name "set" p2) [e] [] pos2] [] pos) (tSortSetB K te) := by
  subst h
  refine ⟨fun pins s σ H Q I h => ?_⟩
  refine Call_ (ld_blt I hg hm boot_sorted ?_)
  refine PyProof.Rows.callWith_builtin1 (PyProof.Rows.args_cons ?_ rfl) rfl rfl
  refine Call_ (ld_blt I hg2 hm2 boot_set ?_)
  refine PyProof.Rows.callWith_type1 (PyProof.Rows.args_cons (thn (he.run pins s σ H _ I h) fun v s1 ⟨x, H1, I1, r1, q1⟩ => PyProof.Rows.args_nil ?_) na) na rfl
  have hd := I1.ok.hd hc
  obtain ⟨a, ks, d, B, rfl, hq, hk, hl, q1⟩ := q1
  cases r1
  obtain ⟨its, rv, pl, hz⟩ := I1.list hq
  refine call_set_big (P := X.prog) (w := X.w) ks hd pl.isList (by simpa using refs_of_vals rv) (fun p hp => I1.isT (hk p hp).1) hl (by have := hu; first | omega | (show _; simp; omega)) fun h' tk L es t R g k => ?_
  refine PyProof.Rows.args_nil ?_
  have I2 : Inv X pins σ H1 { s1 with heap := h', toks := tk } := I1.kept (t' := tk) k
  have sub : ∀ p ∈ L, p ∈ ks := fun p hp => List.mem_of_mem_take (g.sub p hp)
  have all : ∀ p ∈ ks, p.2 ∈ L.map (·.2) := fun p hp => g.all p (by rw [List.take_length]; exact hp)
  have hL : L.length ≤ 1200 := Nat.le_trans g.len hl
  refine sorted_big (s := { s1 with heap := h', toks := tk }) R hL (I2.ok.hd hc) (d := d) (B := B) (fun h2 => ?_) (fun p hp => (hk p (sub p hp)).2) fun s' p out c L' k2 gg o hp hg ho pm hr => ?_
  · rcases Nat.eq_zero_or_pos d with z | z
    · have := nil_words (fun p hp => by rw [(hk p (sub p hp)).2.1, z]) R.nd
      omega
    · exact z
  have hlen : (refsV L').length ≤ sizeLine := by rw [List.length_map, pm.length_eq, sizeLine_eq]; omega
  have hn : H1 p = none := I2.hok.fresh hp
  have J : Inv X pins σ (upd H1 p (.lst (refsV L'))) { { s1 with heap := h', toks := tk } with heap := s'.heap, gens := s'.gens, drawn := s'.drawn, toks := s'.toks } :=
    I2.call (ch := []) (Un.laid k2 hp hn) (I2.hok.laid k2 hp ⟨hlen, out, c, by rw [ho]; exact vals_of_refs L', hg⟩) (by rw [gg]; exact I2.bare) (fun _ z => nomatch z)
  have e : s' = { { s1 with heap := h', toks := tk } with heap := s'.heap, gens := s'.gens, drawn := s'.drawn, toks := s'.toks } := by
    cases s'
    cases s1
    cases o
    rfl
  rw [e]
  exact ⟨.ref p, _, J, rfl, q1 L' p (fun q hq => sub q (pm.mem_iff.mp hq)) (fun q hq => (pm.map (·.2)).mem_iff.mpr (all q hq)) ((pm.map (·.2)).nodup_iff.mpr R.nd) hr hn⟩
end
theorem w_sortSetB {K : PySem.W.Frag} {te : TE} {σ : L2.St} {H : Hp} {Q : VK} (k : te σ H (sortSetB K Q)) : tSortSetB K te σ H Q := k
end LM
namespace LM
open PySem PySem.Spec PyProof.Rows L2
/-! ### tuples without attributes of their own: what a method may be asked of -/
def Nt (H : Hp) (a : Addr) (xs : List V) : Prop := ∃ o, H a = some (.frz o (.tup xs)) ∧ o.dict = none
theorem Nt.sq {K : PySem.W.Frag} {H : Hp} {a : Addr} {xs : List V} (h : Nt H a xs) : SqT K H a xs := by
  obtain ⟨o, h, _⟩ := h
  exact .inl (.inr ⟨o, h⟩)
theorem Nt.mono {H H' : Hp} {a : Addr} {xs : List V} (e : Ex H H') (h : Nt H a xs) : Nt H' a xs := by
  obtain ⟨o, h, d⟩ := h
  exact ⟨o, e _ _ h, d⟩
theorem Nt.exB {H H' : Hp} {p a : Addr} {xs ys : List V} (e : ExB p H H') (hp : H p = some (.lst ys)) (h : Nt H a xs) : Nt H' a xs := by
  obtain ⟨o, h, d⟩ := h
  exact ⟨o, e _ _ (fun z => by subst z; rw [hp] at h; cases h) h, d⟩
theorem laidN {X : Cx} {pins : List (Addr × Obj)} {σ : L2.St} {H : Hp} {s : Shared} {xs : List V} {its : List Value} (I : Inv X pins σ H s) (z : xs.length ≤ sizeLine) (r : Vals xs its) :
    Inv X pins σ (upd H s.heap.objs.size (.frz { cls := .type "tuple", data := .seq its.toArray } (.tup xs))) { s with heap := s.heap.push { cls := .type "tuple", data := .seq its.toArray } } :=
  I.laid (t' := s.toks) (fun b u e => Heap.get?_push_of_some _ e) (Nat.le_refl _) (show ObjOk X.prog X.w _ _ _ (.frz _ (.tup xs)) from ⟨Heap.get?_push_size _ rfl, z, its, r, IsTup.new _ _⟩)
def newN (Q : VK) (xs : List V) (H : Hp) : Prop := xs.length ≤ sizeLine ∧ ∀ p o, H p = none → o.dict = none → Q (.ref p) (upd H p (.frz o (.tup xs)))
theorem w_newN {Q : VK} {xs : List V} {H : Hp} (hz : xs.length ≤ 100000) (k : ∀ p H2, H p = none → Ex H H2 → Nt H2 p xs → Q (.ref p) H2) : newN Q xs H := ⟨sz hz, fun p o hp hd => k p _ hp (Evl.Ex.new hp) ⟨o, upd_same, hd⟩⟩
def tTupN (t : TA) : TE := fun σ H Q => t σ H fun xs H1 => newN Q xs H1
theorem w_tupN {t : TA} {σ : L2.St} {H : Hp} {Q : VK} (k : t σ H fun xs H1 => newN Q xs H1) : tTupN t σ H Q := k
def rTupN (K : PySem.W.Frag) : List V → Hp → VK → Prop := fun xs H Q => ∃ p ys, xs = [.ref p] ∧ ((SqL K H p ys ∧ newN Q ys H) ∨ (SqT K H p ys ∧ Q (.ref p) H))
def rCatN (K : PySem.W.Frag) : R2 := fun x y H Q => (∃ a b xs ys, x = .ref a ∧ y = .ref b ∧ SqT K H a xs ∧ SqT K H b ys ∧ (xs = [] → Q (.ref b) H) ∧ (xs ≠ [] → ys = [] → Q (.ref a) H) ∧ newN Q (xs ++ ys) H) ∨ rAddP K x y H Q
def rSlN (K : PySem.W.Frag) : V → Option Int → Option Int → Hp → VK → Prop := fun x lo hi H Q => (∃ a xs, x = .ref a ∧ SqT K H a xs ∧
  (HT.sIx xs.length 0 lo = 0 ∧ HT.sIx xs.length xs.length hi = xs.length → Q (.ref a) H) ∧ newN Q (cutV xs lo hi) H) ∨ rSlP K x lo hi H Q
def rRepN (K : PySem.W.Frag) : R2 := fun x y H Q => (∃ l k xs, x = .ref l ∧ y = .int k ∧ SqT K H l xs ∧ xs ≠ [] ∧ xs.length ≤ 1000 ∧ 0 ≤ k ∧ k ≤ 1000 ∧ (k = 1 → Q (.ref l) H) ∧ newN Q (List.replicate k.toNat xs).flatten H) ∨ rMulP K x y H Q
section
variable {X : Cx} {K : PySem.W.Frag}
theorem pe_tupN {es : List Expr} {t : TA} {x1 : Nat} {pos : Pos} (h : PA X es t) : PE X (.Tuple es x1 pos) (tTupN t) := by
  refine ⟨fun pins s σ H Q I hq => ?_⟩
  refine wpAny_Tuple_spliced (thn (h.run pos pins s σ H _ I hq) fun us t ⟨xs, H1, J, r, z, q⟩ => ⟨by rw [← r.length]; exact z, ?_⟩)
  exact ⟨.ref t.heap.objs.size, _, laidN J z r, rfl, q _ _ (J.hok.fresh (Nat.le_refl _)) rfl⟩
theorem call_tupN (hK : X.K = K) : CallR X (.type "tuple") (rTupN K) := by
  subst hK
  intro pins s σ H xs us Q I r h
  obtain ⟨p, ys, rfl, h⟩ := h
  obtain ⟨u, rfl, rx⟩ := vals1 r
  cases rx
  rcases h with ⟨hq, z, q⟩ | ⟨hq, q⟩
  · obtain ⟨its, r', pl, hz⟩ := I.list hq
    have hl := r'.length
    refine call_tuple_list pl.isList (fun h' kp => ?_) (by simp only [List.size_toArray]; omega)
    have J : Inv X pins σ H { s with heap := h' } := I.kept (t' := s.toks) kp
    exact ⟨.ref h'.objs.size, _, laidN J z r', rfl, q _ _ (J.hok.fresh (Nat.le_refl _)) rfl⟩
  · obtain ⟨its, r', pl, hz⟩ := I.tuple hq
    exact call_tuple_same pl ⟨.ref p, H, I, rfl, q⟩
theorem op_catN (hK : X.K = K) : OpR X (binaryOp .Add) (rCatN K) := by
  subst hK
  refine OpR.or ?_ op_addP
  intro pins s σ H x y v u Q I rx ry h
  obtain ⟨a, b, xs, ys, rfl, rfl, ha, hb, q0, q1, hz, q2⟩ := h
  cases rx
  cases ry
  obtain ⟨its, r1, p1, _⟩ := I.tuple ha
  obtain ⟨jts, r2, p2, _⟩ := I.tuple hb
  by_cases hx : xs = []
  · subst hx
    cases r1
    exact cat_tup0 p1 p2 ⟨.ref b, H, I, rfl, q0 rfl⟩
  · have hl : its.length + jts.length ≤ sizeLine := by rw [← r1.length, ← r2.length, ← List.length_append]; exact hz
    exact HT.cat_tup p1 p2 (fun z => hx (r1.nil_iff.mp z)) (fun z => ⟨.ref a, H, I, rfl, q1 hx (r2.nil_iff.mp z)⟩) (fun z => ⟨.ref s.heap.objs.size, _, laidN I hz (r1.append r2), rfl, q2 _ _ (I.hok.fresh (Nat.le_refl _)) rfl⟩) hl
theorem sl_N (hK : X.K = K) : SlR X (rSlN K) := by
  subst hK
  refine SlR.or ?_ sl_P
  intro pins s σ H x v vl vu lo hi sl Q I rx hs pl pu h
  obtain ⟨a, xs, rfl, hx, q1, hz, q2⟩ := h
  cases rx
  obtain ⟨its, r, ht, hz2⟩ := I.tuple hx
  have hl : its.toArray.size = xs.length := by rw [List.size_toArray]; exact r.length.symm
  refine ⟨"tuple", _, PyProof.Rows.slot_tuple_getitem.lookup, ht.typeIs, ?_⟩
  by_cases hw : HT.sIx xs.length 0 lo = 0 ∧ HT.sIx xs.length xs.length hi = xs.length
  · exact getItem_tuple_whole ht hs pl pu (by rw [hl]; exact hw) ⟨.ref a, H, I, rfl, q1 hw⟩
  · refine HT.getItem_tuple_cut ht hs pl pu (by rw [hl]; exact hw) ?_ (by rw [hl]; exact hz2)
    rw [hl]
    exact ⟨.ref s.heap.objs.size, _, laidN I hz ((r.drop (HT.sIx xs.length 0 lo)).take (HT.sIx xs.length xs.length hi - HT.sIx xs.length 0 lo)), rfl, q2 _ _ (I.hok.fresh (Nat.le_refl _)) rfl⟩
theorem tuple_mul0 (l : Addr) (items : Array Value) (n : Nat) (dd : Option Addr) (sl : Array (Option Value)) (u : Tok) (he : items.isEmpty = false) :
    Meets (Builtin.«tuple.__mul__» ⟨[.ref l, .int 0 u], []⟩) (fun _ R s => s.heap.get? l = some { cls := .type "tuple", dict := dd, data := .seq items n, slots := sl } ∧
      R (.ok (.ret (Value.ref s.heap.objs.size))) { s with heap := s.heap.push { cls := Value.type "tuple", data := Data.seq #[] } }) :=
  .of_wp fun prog w A R s h => by
    obtain ⟨hp, g, d, tk, os⟩ := s
    obtain ⟨hl, h⟩ := h
    have f1 := AutoSeq1.idx_int
    have c0 : (decide ((0 : Int) < -(2 ^ 63)) || decide ((0 : Int) ≥ 2 ^ 63)) = false := by decide
    have c1 : (items.isEmpty || (0 : Int) == 1) = false := by rw [he]; rfl
    have c2 : (decide ((0 : Int) ≤ 0) || items.isEmpty) = true := by simp
    wp_walk using wpAny_loadPart' hl
    repeat (first
      | (refine wpAny_ite_false (decide_eq_false (by rw [c0]; exact Bool.false_ne_true)) ?_; wp_walk using wpAny_loadPart' hl)
      | (refine wpAny_ite_false (decide_eq_false (by rw [c1]; exact Bool.false_ne_true)) ?_; wp_walk using wpAny_loadPart' hl)
      | (refine wpAny_ite_true (decide_eq_true (by rw [c2])) ?_; wp_walk using wpAny_loadPart' hl))
    exact ⟨_, rfl, h⟩
theorem op_repN (hK : X.K = K) : OpR X (binaryOp .Mult) (rRepN K) := by
  subst hK
  refine OpR.or ?_ op_mulP
  intro pins s σ H x y v u Q I rx ry h
  obtain ⟨l, k, xs, rfl, rfl, hT, hne, hl, h0, h1, q1, hz, q2⟩ := h
  by_cases c : k = 1
  · subst c
    exact op_rep1 pins s σ H _ _ v u Q I rx ry ⟨l, 1, xs, rfl, rfl, hT, rfl, q1 rfl⟩
  cases rx
  obtain ⟨t, rfl⟩ := ry
  obtain ⟨its, r, ⟨⟨cls, dd, data, sl⟩, ho, hc, n, hd⟩, hs⟩ := I.tuple hT
  simp only at hc hd; subst hc hd
  have hle : its.length = xs.length := r.length.symm
  have hi : its.toArray.isEmpty = false := by
    cases its with
    | nil => exact absurd (List.eq_nil_of_length_eq_zero hle.symm) hne
    | cons a b => rfl
  have road : ∀ out : List Value, Vals (List.replicate k.toNat xs).flatten out → (wpAny (model X.prog X.w) X.A (call (.builtin "tuple.__mul__") [.ref l, .int k t]) (fun v s' => v = .ref s.heap.objs.size ∧ s' = { s with heap := s.heap.push { cls := .type "tuple", data := .seq out.toArray } }) X.xe s) →
      wpAny (model X.prog X.w) X.A (binaryOp .Mult (.ref l) (.int k t)) (EP X pins σ Q) X.xe s := fun out ro hm => by
    refine wpAny_binaryOp_repeat_ref (T := "tuple") (U := "int") (by decide) ⟨_, ho, rfl⟩ (fun s' => typeIs_int s' k t) noFill_tuple_mul F.fills_int_mul F.slot_int_rmul repeat_tuple F.slot_int_index.lookup
      (call_meets F.slot_int_rmul (typeIs_int s k t) F.entry_int_rmul (F.args_int_rmul_2 _ _) (int_rmul_tuple k t l its.toArray n dd sl) ⟨ho, rfl, ⟨_, ho, rfl⟩, wpAny_mono hm (fun v s' e => ?_) fun _ _ z => z⟩)
    obtain ⟨rfl, rfl⟩ := e
    exact ⟨.ref s.heap.objs.size, _, laidN I hz ro, rfl, q2 _ _ (I.hok.fresh (Nat.le_refl _)) rfl⟩
  by_cases c0 : k = 0
  · subst c0
    refine road [] .nil ?_
    exact call_meets F.slot_tuple_mul ⟨_, ho, rfl⟩ F.entry_tuple_mul (F.args_tuple_mul_2 _ _) (tuple_mul0 l its.toArray n dd sl t hi) ⟨ho, rfl, rfl⟩
  · have hsz0 : its.toArray.size = xs.length := by rw [List.size_toArray, hle]
    have hm : ((its.toArray.size : Nat) : Int) * k ≤ 1000000 := by
      rw [hsz0]
      have := Int.mul_le_mul_of_nonneg_right (show ((xs.length : Nat) : Int) ≤ 1000 by omega) (show (0 : Int) ≤ k by omega)
      omega
    have d0 : (decide (k < -(2 ^ 63)) || decide (k ≥ 2 ^ 63)) = false := by rw [decide_eq_false (show ¬ k < -(2 ^ 63) by omega), decide_eq_false (show ¬ k ≥ 2 ^ 63 by omega)]; rfl
    have d1 : (its.toArray.isEmpty || k == 1) = false := by rw [hi, Bool.false_or]; exact beq_eq_false_iff_ne.mpr c
    have d2 : (decide (k ≤ 0) || its.toArray.isEmpty) = false := by rw [hi, Bool.or_false]; exact decide_eq_false (show ¬ k ≤ 0 by omega)
    have d4 : Builtin.Tuple.tupleTooMany (((its.toArray.size : Nat) : Int) * k) = false := by
      unfold Builtin.Tuple.tupleTooMany; rw [sizeLine_eq]
      exact decide_eq_false (by omega)
    have fl : (List.replicate k.toNat its).flatten.length ≤ sizeLine := by rw [(r.rep k.toNat).length] at hz; exact hz
    refine road (List.replicate k.toNat its).flatten (r.rep k.toNat) ?_
    refine call_meets F.slot_tuple_mul ⟨_, ho, rfl⟩ F.entry_tuple_mul (F.args_tuple_mul_2 _ _) (tuple_mulW l its.toArray n dd sl k t d0 d1 d2 (by omega) d4 (by rw [size_rep, List.size_toArray]; exact fl)) ⟨ho, ?_⟩
    rw [size_rep]
    exact ⟨rfl, rfl⟩
/-! a method of a tuple; t.index(x, i) -/
def tTM (r : V → List V → Hp → VK → Prop) (to : TE) (t : TA) : TE := fun σ H Q => to σ H fun x H1 => (∃ a xs, x = .ref a ∧ Nt H1 a xs) ∧ t σ H1 fun vs H2 => r x vs H2 Q
theorem w_tm {r : V → List V → Hp → VK → Prop} {to : TE} {t : TA} {σ : L2.St} {H : Hp} {Q : VK} (k : to σ H fun x H1 => (∃ a xs, x = .ref a ∧ Nt H1 a xs) ∧ t σ H1 fun vs H2 => r x vs H2 Q) : tTM r to t σ H Q := k
theorem l_tm {a : Addr} {xs : List V} {H : Hp} {P : Prop} (h : Nt H a xs) (k : P) : (∃ b ys, V.ref a = .ref b ∧ Nt H b ys) ∧ P := ⟨⟨a, xs, rfl, h⟩, k⟩
theorem pe_tm {id : String} {name : Str} {r : V → List V → Hp → VK → Prop} {o e : Expr} {es : List Expr} {to : TE} {t : TA} {apos cpos : Pos} (slot : Slot "tuple" name id) (hty : typeOf (.builtin id) = pure (.type "method_descriptor")) (hm : MtR X id r) (ho : PE X o to) (ha : PA X (e :: es) t)
    (hb : attributeBase o name X.env (eval o X.env) = eval o X.env := by rfl)
    (hf : ((backTo cpos (starEach (e :: es) X.env)).all (fun x => !x.1) && (backToKw cpos (keywordEach [] X.env)).all (fun x => x.1.isSome) && decide ((e :: es).length + ([] : List Keyword).length + (if ([] : List Keyword).isEmpty then 0 else 1) < 30)) = true := by rfl)
    (hl : (apos.endLine == cpos.line) = true := by rfl) (hs : starEach (e :: es) X.env = (false, eval e X.env) :: starEach es X.env := by rfl) (hp : (backTo cpos (starEach es X.env)).any (·.1) = false := by rfl) :
    PE X (.Call (.Attribute o name apos) (e :: es) [] cpos) (tTM r to t) := by
  refine ⟨fun pins s σ H Q I h => ?_⟩
  refine wpAny_Call_method_late hb hf hl rfl (thn (ho.run pins s σ H _ I h) fun v s1 ⟨x, H1, J, r1, ⟨a, xs, ex, n⟩, q1⟩ => ?_)
  subst ex
  obtain rfl : v = Value.ref a := r1
  have hT : s1.TypeIs (.ref a) "tuple" := by
    obtain ⟨_, _, p, _⟩ := J.tuple (n.sq (K := X.K))
    obtain ⟨ob, h1, h2, _⟩ := p
    exact ⟨ob, h1, h2⟩
  refine ⟨"tuple", id, PySem.F.plainAttrs_tuple, slot, hty, hT, fun b e => ?_, ?_⟩
  · obtain rfl : a = b := Value.ref.inj e
    obtain ⟨ob, g, d⟩ := n
    exact ⟨ob, (J.hok _ _ g).1, d⟩
  have hA := ha.run cpos pins s1 σ H1 _ J q1
  rw [hs] at hA ⊢
  refine Calls.callWith_builtin (by show (false || (backTo cpos (starEach es X.env)).any (·.1)) = false; rw [hp]; rfl) (Calls.evalArgs_plain ?_)
  exact thn hA fun us s2 ⟨vs, H2, J2, r2, q2⟩ => hm pins s2 σ H2 (.ref a) vs _ us Q J2 rfl r2 q2
end
theorem forIn_rngA {β : Type} {M : Model} {A : Around} {E : Value → Shared → Prop} {s : Shared} {lo n : Nat} {hp : 0 < 1} (f : Nat → β → Sem (ForInStep β)) (I : List Nat → β → Shared → Prop) (Q : β → Shared → Prop)
    (turn : ∀ x rest b s, I (x :: rest) b s → wpAny M A (f x b) (fun r s' => match r with | .yield b' => I rest b' s' | .done b' => Q b' s') E s)
    (fin : ∀ b s, I [] b s → Q b s) (b : β) (h : I (List.range' lo (n - lo)) b s) : wpAny M A (forIn ({ start := lo, stop := n, step := 1, step_pos := hp } : Std.Legacy.Range) b f) Q E s := by
  rw [Std.Legacy.Range.forIn_eq_forIn_range']
  simp only [Std.Legacy.Range.size, Nat.add_sub_cancel, Nat.div_one]
  exact wpAny_forIn_list f I Q turn fin _ b h
theorem tuple_indexFrom (l : Addr) (items : Array Value) (n : Nat) (dd : Option Addr) (sl : Array (Option Value)) (x : Value) (e : Value → Bool) (i0 : Nat) (u : Tok) (j : Nat) (hi : i0 ≤ j) (hj : j < items.size)
    (hit : e items[j] = true) (hno : ∀ m (hm : m < items.size), i0 ≤ m → m < j → e items[m] = false) :
    Meets (Builtin.«tuple.index» ⟨[.ref l, x, .int (i0 : Nat) u], []⟩)
      (fun A R s => s.heap.get? l = some { cls := .type "tuple", dict := dd, data := .seq items n, slots := sl } ∧ (∀ y, y ∈ items → SeqAt.EqAt A.in1 s y x (e y)) ∧ R (.ok (.ret (.int j s.toks))) { s with toks := s.toks + 1 }) :=
  .of_wp fun prog w A R s h => by
    obtain ⟨hp, g, d, tk, os⟩ := s; obtain ⟨hl, he, h⟩ := h
    have f1 := AutoSeq1.idx_int
    wp_walk using wpAny_loadPart' hl, forIn_rngA _ (fun rest b s' => b.1 = none ∧ s' = ⟨hp, g, d, tk, os⟩ ∧ ∃ i, rest = List.range' i (items.size - i) ∧ i0 ≤ i ∧ i ≤ j) _
    case turn =>
      rintro y rest b s' ⟨hb', rfl, i, hr, h0, h1⟩
      have hlt : i < items.size := by omega
      have ey : y = i ∧ rest = List.range' (i + 1) (items.size - (i + 1)) := by
        rw [show items.size - i = (items.size - (i + 1)) + 1 by omega, List.range'_succ] at hr
        exact List.cons.inj hr
      obtain ⟨rfl, hrest⟩ := ey
      rw [Array.getElem?_eq_getElem hlt]
      refine wpAny_bind (he _ (Array.getElem_mem hlt) prog w _ _ ?_)
      by_cases c : y = j
      · subst c
        rw [hit]; wp_walk
        exact ⟨_, rfl, h⟩
      · rw [hno y hlt h0 (by omega)]; wp_walk
        exact ⟨rfl, rfl, y + 1, hrest, by omega, by omega⟩
    case fin =>
      rintro b s' ⟨hb', rfl, i, hr, h0, h1⟩
      exfalso
      rw [show items.size - i = (items.size - (i + 1)) + 1 by omega, List.range'_succ] at hr
      cases hr
    case h =>
      refine ⟨rfl, rfl, i0, ?_, Nat.le_refl _, hi⟩
      have e1 : (max (if (i0 : Int) < 0 then (i0 : Int) + (items.size : Nat) else (i0 : Int)) 0).toNat = i0 := by rw [if_neg (by omega)]; omega
      rw [e1]
      simp
/-- t.index(x, i): the first place from i on -/
def rTixF (K : PySem.W.Frag) : V → List V → Hp → VK → Prop := fun x xs H Q => ∃ (p : Addr) (ns : List Int) (z : Int) (i j : Nat), x = .ref p ∧ xs = [.int z, .int (i : Nat)] ∧ SqT K H p (ns.map V.int) ∧ i ≤ j ∧ ns[j]? = some z ∧ (∀ m, i ≤ m → m < j → ns[m]? ≠ some z) ∧ Q (.int (j : Nat)) H
theorem mt_tixF {X : Cx} {K : PySem.W.Frag} (hK : X.K = K) : MtR X "tuple.index" (rTixF K) := by
  subst hK
  intro pins s σ H x xs v us Q I rx rs h
  obtain ⟨p, ns, z, i, j, rfl, rfl, hq, hij, hy, hno, q⟩ := h
  cases rx
  cases rs with
  | cons r1 rs =>
    cases rs with
    | cons r2 rs =>
      cases rs
      obtain ⟨t, rfl⟩ := r1
      obtain ⟨t2, rfl⟩ := r2
      obtain ⟨its, r, pl, hz⟩ := I.tuple hq
      obtain ⟨⟨cls, dd, dt, sl⟩, ho, hc, n, hd⟩ := pl
      simp only at hc hd; subst hc; subst hd
      have hlen : its.toArray.size = ns.length := by rw [List.size_toArray, ← r.length, List.length_map]
      have hj : j < its.toArray.size := by rw [hlen]; exact (List.getElem?_eq_some_iff.mp hy).1
      have at' : ∀ (m : Nat) (hm : m < its.toArray.size), ∃ y t', ns[m]? = some y ∧ its.toArray[m] = Value.int y t' := fun m hm => by
        have hm' : m < ns.length := by rw [← hlen]; exact hm
        obtain ⟨w, hw, t', hw'⟩ := r.get (i := m) (x := .int ns[m]) (by simp [hm'])
        refine ⟨ns[m], t', List.getElem?_eq_getElem hm', ?_⟩
        have e := (List.getElem?_eq_some_iff.mp hw).2
        rw [← hw', ← e]; simp
      have fl : (ns.map V.int).all flatV = true := by rw [List.all_map]; exact List.all_eq_true.mpr fun _ _ => rfl
      have eqz : ∀ (m : Nat) (hm : m < its.toArray.size), eqU (.int z) its.toArray[m] = decide (ns[m]? = some z) := fun m hm => by
        obtain ⟨y, t', h1, h2⟩ := at' m hm
        have e3 : eqU (.int z) (.int y t') = eqV (.int y) (.int z) := eqU_of (show RelV (V.int y) (Value.int y t') from ⟨t', rfl⟩) rfl
        rw [h2, h1, e3]
        by_cases c : y = z <;> simp [eqV, c]
      exact call_meets PySem.F.slot_tuple_index ⟨_, ho, rfl⟩ PySem.F.entry_tuple_index (PySem.F.args_tuple_index_3 _ _ _) (tuple_indexFrom p its.toArray n dd sl (.int z t) (eqU (.int z)) i t2 j hij hj (by rw [eqz, hy]; simp) fun m hm h0 h1 => by rw [eqz, decide_eq_false (hno m h0 h1)])
        ⟨ho, fun w hw => mem_eqAt (x := .int z) ⟨t, rfl⟩ rfl r fl w (by simpa using hw), ⟨.int (j : Nat), H, I.tok _, ⟨_, rfl⟩, q⟩⟩
theorem l_tixF {K : PySem.W.Frag} {H : Hp} {Q : VK} {p : Addr} {ns : List Int} {z i : Int} {j : Nat} (h : SqT K H p (ns.map V.int)) (h0 : 0 ≤ i) (hij : i.toNat ≤ j) (hj : ns[j]? = some z) (hn : ∀ m, i.toNat ≤ m → m < j → ns[m]? ≠ some z) (k : Q (.int (j : Nat)) H) : rTixF K (.ref p) [.int z, .int i] H Q :=
  ⟨p, ns, z, i.toNat, j, rfl, by rw [show ((i.toNat : Nat) : Int) = i by omega], h, hij, hj, hn, k⟩
/-! (i, t) < (j, u) -/
theorem lex_words : ∀ (ns ms : List Int) (l m : List (Int ⊕ List Nat)), PyProof.Rows.lexLt itemOrd (PySem.W.keyToksAll (ns.map PyData.int) ++ l) (PySem.W.keyToksAll (ms.map PyData.int) ++ m) = if ns = ms then PyProof.Rows.lexLt itemOrd l m else HT.lexLt ns ms
  | [], [], l, m => by
    rw [if_pos rfl]
    exact lex_self (O := itemOrd) (Sum.inl 0) l m
  | [], y :: ms, l, m => by
    rw [if_neg (by simp)]
    exact (lex_diff (O := itemOrd) (show (Sum.inl 0 : Int ⊕ List Nat) ≠ Sum.inl 1 by simp)).trans rfl
  | x :: ns, [], l, m => by
    rw [if_neg (by simp)]
    exact (lex_diff (O := itemOrd) (show (Sum.inl 1 : Int ⊕ List Nat) ≠ Sum.inl 0 by simp)).trans rfl
  | x :: ns, y :: ms, l, m => by
    have e : ∀ (z : Int) (zs : List Int) (r : List (Int ⊕ List Nat)), PySem.W.keyToksAll ((z :: zs).map PyData.int) ++ r = Sum.inl 1 :: Sum.inl z :: (PySem.W.keyToksAll (zs.map PyData.int) ++ r) := fun z zs r => rfl
    rw [e, e]
    refine (lex_self (O := itemOrd) (Sum.inl 1) _ _).trans ?_
    by_cases c : x = y
    · subst c
      refine (lex_self (O := itemOrd) (Sum.inl x) _ _).trans ?_
      rw [lex_words ns ms l m, HT.lexLt_cons, if_pos rfl]
      by_cases d : ns = ms
      · rw [if_pos d, if_pos (by rw [d])]
      · rw [if_neg d, if_neg (fun z => d (List.cons.inj z).2)]
    · refine (lex_diff (O := itemOrd) (show (Sum.inl x : Int ⊕ List Nat) ≠ Sum.inl y from fun z => c (Sum.inl.inj z))).trans ?_
      rw [HT.lexLt_cons, if_neg c, if_neg (fun z => c (List.cons.inj z).1)]
      rfl
theorem lexLt_self : ∀ ns : List Int, HT.lexLt ns ns = false
  | [] => rfl
  | x :: ns => by rw [HT.lexLt_cons, if_pos rfl, lexLt_self ns]
abbrev iwD (i : Int) (ns : List Int) : PyData := .tuple [.int i, .tuple (ns.map PyData.int)]
theorem lt_iw (i j : Int) (ns ms : List Int) : PySem.W.dataLt (iwD i ns) (iwD j ms) = if i = j then HT.lexLt ns ms else decide (i < j) := by
  have e : ∀ (z : Int) (zs : List Int), PySem.W.keyToks (iwD z zs) = Sum.inl 1 :: Sum.inl z :: Sum.inl 1 :: (PySem.W.keyToksAll (zs.map PyData.int) ++ [Sum.inl 0]) := fun z zs => rfl
  unfold PySem.W.dataLt
  rw [e, e]
  refine (lex_self (O := itemOrd) (Sum.inl 1) _ _).trans ?_
  by_cases c : i = j
  · subst c
    refine (lex_self (O := itemOrd) (Sum.inl i) _ _).trans ?_
    refine (lex_self (O := itemOrd) (Sum.inl 1) _ _).trans ?_
    rw [lex_words, if_pos rfl]
    by_cases d : ns = ms
    · subst d
      rw [if_pos rfl, lexLt_self]
      rfl
    · rw [if_neg d]
  · rw [if_neg c]
    exact (lex_diff (O := itemOrd) (show (Sum.inl i : Int ⊕ List Nat) ≠ Sum.inl j from fun z => c (Sum.inl.inj z))).trans rfl
theorem alike_ints : ∀ ns ms : List Int, PySem.W.alikeAll (ns.map PyData.int) (ms.map PyData.int) = true
  | [], _ => by simp [PySem.W.alikeAll]
  | x :: ns, [] => rfl
  | x :: ns, y :: ms => by
    show (true && PySem.W.alikeAll (ns.map PyData.int) (ms.map PyData.int)) = true
    rw [alike_ints ns ms]; rfl
theorem depth_ns : ∀ ns : List Int, PyData.depthAll (ns.map PyData.int) = 0
  | [] => rfl
  | n :: ns => by
    rw [List.map_cons, PyData.depthAll, depth_ns ns]
    rfl
def rLtW (K : PySem.W.Frag) : R2 := fun x y H Q => ∃ i j ns ms, Dp K H x (iwD i ns) ∧ Dp K H y (iwD j ms) ∧ Q (.bl (if i = j then HT.lexLt ns ms else decide (i < j))) H
def rLtQ (K : PySem.W.Frag) : R2 := fun x y H Q => rLtP x y H Q ∨ rLtT K x y H Q ∨ rLtW K x y H Q
theorem op_ltW {X : Cx} (hu : X.A.units + 64 < cLine) : OpR X (compareOp .Lt) (rLtW X.K) := by
  intro pins s σ H x y v u Q I rx ry h
  obtain ⟨i, j, ns, ms, hd, he, q⟩ := h
  obtain ⟨as, r1⟩ := Dp.reads I _ x v hd rx
  obtain ⟨bs, r2⟩ := Dp.reads I _ y u he ry
  refine PySem.W.lt_data r1 r2 ?_ (fun z => nomatch z) ?_ ?_
  · show (true && (PySem.W.alikeAll (ns.map PyData.int) (ms.map PyData.int) && true)) = true
    rw [alike_ints]; rfl
  · have d1 : (iwD i ns).depth ≤ 2 := by simp only [PyData.depth, PyData.depthAll, depth_ns]; decide
    omega
  · rw [lt_iw]
    exact ⟨.bl _, H, I, rfl, q⟩
theorem op_ltQ {X : Cx} {K : PySem.W.Frag} (hu : X.A.units + 64 < cLine) (h : X.K = K) : OpR X (compareOp .Lt) (rLtQ K) := h ▸ op_ltP.or ((op_ltT (by omega)).or (op_ltW hu))
theorem l_ltQ {K : PySem.W.Frag} {i j : Int} {H : Hp} {Q : VK} (k : Q (.bl (decide (i < j))) H) : rLtQ K (.int i) (.int j) H Q := .inl ⟨i, j, rfl, rfl, k⟩
theorem l_ltT {K : PySem.W.Frag} {a b : Addr} {ns ms : List Int} {H : Hp} {Q : VK} (h1 : SqT K H a (ns.map V.int)) (h2 : SqT K H b (ms.map V.int)) (k : Q (.bl (HT.lexLt ns ms)) H) : rLtQ K (.ref a) (.ref b) H Q := .inr (.inl ⟨a, b, ns, ms, rfl, rfl, h1, h2, k⟩)
theorem dp_nums {K : PySem.W.Frag} {H : Hp} : ∀ ns : List Int, DpAll K H (ns.map V.int) (ns.map PyData.int)
  | [] => .nil
  | _ :: ns => .cons (.int _) (dp_nums ns)
theorem l_ltW {K : PySem.W.Frag} {a b u v : Addr} {i j : Int} {ns ms : List Int} {H : Hp} {Q : VK} (h1 : SqT K H a [.int i, .ref u]) (h2 : SqT K H u (ns.map V.int)) (h3 : SqT K H b [.int j, .ref v]) (h4 : SqT K H v (ms.map V.int)) (k : Q (.bl (if i = j then HT.lexLt ns ms else decide (i < j))) H) : rLtQ K (.ref a) (.ref b) H Q :=
  .inr (.inr ⟨i, j, ns, ms, .tup h1 (.cons (.int _) (.cons (.tup h2 (dp_nums ns)) .nil)), .tup h3 (.cons (.int _) (.cons (.tup h4 (dp_nums ms)) .nil)), k⟩)
/-! t[1::2] -/
theorem fm_congr {α β : Type} {f g : α → Option β} : ∀ {l : List α}, (∀ a ∈ l, f a = g a) → l.filterMap f = l.filterMap g
  | [], _ => rfl
  | a :: l, h => by
    rw [List.filterMap_cons, List.filterMap_cons, h a (by simp), fm_congr fun b hb => h b (by simp [hb])]
def odds {α : Type} : List α → List α
  | [] => []
  | [_] => []
  | _ :: b :: l => b :: odds l
theorem odds_map {α β : Type} (f : α → β) : ∀ l : List α, odds (l.map f) = (odds l).map f
  | [] => rfl
  | [_] => rfl
  | _ :: b :: l => by
    show f b :: odds (l.map f) = _
    rw [odds_map f l]; rfl
theorem odds_pick {α : Type} : ∀ l : List α, (List.range (l.length / 2)).filterMap (fun m => l[1 + m * 2]?) = odds l
  | [] => by simp [odds]
  | [_] => by simp [odds]
  | a :: b :: l => by
    have e : (a :: b :: l).length / 2 = l.length / 2 + 1 := by simp only [List.length_cons]; omega
    rw [e, List.range_succ_eq_map, List.filterMap_cons]
    show b :: List.filterMap _ (List.map Nat.succ (List.range (l.length / 2))) = b :: odds l
    rw [List.filterMap_map, ← odds_pick l]
    congr 1
    refine fm_congr fun m _ => ?_
    show (a :: b :: l)[1 + (m + 1) * 2]? = l[1 + m * 2]?
    rw [show 1 + (m + 1) * 2 = (1 + m * 2) + 2 by omega]
    rfl
theorem odds_len {α : Type} : ∀ l : List α, (odds l).length = l.length / 2
  | [] => by simp [odds]
  | [_] => by simp [odds]
  | _ :: b :: l => by
    show (odds l).length + 1 = _
    rw [odds_len l]; simp only [List.length_cons]; omega
theorem Vals.odds : ∀ {xs : List V} {us : List Value}, Vals xs us → Vals (LM.odds xs) (LM.odds us)
  | _, _, .nil => .nil
  | _, _, .cons _ .nil => .nil
  | _, _, .cons _ (.cons r t) => .cons r (Vals.odds t)
section
variable {prog : Program} {w : World} {A : Around} {E : Value → Shared → Prop} {s : Shared}
theorem applied2 {sl : Addr} {vl vs : Value} {n : Nat} {Q : Int × Int × Nat → Shared → Prop} (hs : s.heap.IsSliceOf sl vl .none vs) (pl : IsPart vl (some 1)) (ps : IsPart vs (some 2))
    (h : Q (((min 1 n : Nat) : Int), 2, n / 2) s) : wpAny (model prog w) A (Builtin.Slice.sliceApplied (.ref sl) (pure (n : Int))) Q E s := by
  obtain ⟨os, hos, hcs, hds⟩ := id hs
  unfold Builtin.Slice.sliceApplied Builtin.Slice.sliceFields; refine wpAny_bind (wpAny_bind (wpAny_field hos hds (x := vl) rfl (wpAny_bind (wpAny_field hos hds (x := .none) rfl (wpAny_bind (wpAny_field hos hds (x := vs) rfl (wpAny_pure ?_)))))))
  refine wpAny_bind (HT.slicePart_ ps ?_)
  show wpAny _ _ (if ((2 : Int) == 0) = true then _ else _) _ _ s; rw [if_neg (by decide)]
  refine wpAny_bind (HT.slicePart_ pl (wpAny_bind (HT.slicePart_ .none (wpAny_bind (wpAny_pure ?_)))))
  show wpAny _ _ (match Builtin.Slice.sliceAdjust (some 1) none 2 (n : Int) with | (lo, hi) => pure (lo, (2 : Int), Builtin.Slice.slicePlaces lo hi 2)) _ _ s
  have e1 : Builtin.Slice.sliceAdjust (some 1) none 2 (n : Int) = (((min 1 n : Nat) : Int), (n : Int)) := by
    unfold Builtin.Slice.sliceAdjust
    simp only [show ¬ ((2 : Int) < 0) by decide, show ¬ ((1 : Int) < 0) by decide, if_false]
    refine Prod.ext ?_ rfl
    show min 1 (n : Int) = ((min 1 n : Nat) : Int)
    omega
  rw [e1]
  show wpAny _ _ (pure (((min 1 n : Nat) : Int), (2 : Int), Builtin.Slice.slicePlaces ((min 1 n : Nat) : Int) (n : Int) 2)) _ _ s
  have e2 : Builtin.Slice.slicePlaces ((min 1 n : Nat) : Int) (n : Int) 2 = n / 2 := by
    unfold Builtin.Slice.slicePlaces
    simp only [show (2 : Int) > 0 by decide, if_true]
    split <;> omega
  rw [e2]
  exact wpAny_pure h
theorem getItem_tuple_odds {t sl : Addr} {items : Array Value} {vl vs : Value} {Q : Value → Shared → Prop} (ht : IsTup s.heap t items) (hs : s.heap.IsSliceOf sl vl .none vs) (pl : IsPart vl (some 1)) (ps : IsPart vs (some 2))
    (h : Q (.ref s.heap.objs.size) { s with heap := s.heap.push { cls := .type "tuple", data := .seq (odds items.toList).toArray } }) (hsz : items.size ≤ sizeLine) : wpAny (model prog w) A (getItem (.ref t) (.ref sl)) Q E s := by
  obtain ⟨os, hos, hcs, hds⟩ := id hs
  have hTs : s.TypeIs (.ref sl) "slice" := ⟨os, hos, hcs⟩
  have hok : sizeOk (.seq (odds items.toList).toArray) := by
    show (odds items.toList).toArray.size ≤ sizeLine
    rw [List.size_toArray, odds_len, Array.length_toList]; omega
  unfold getItem; try with_reducible refine wpAny_holding ?_
  first | refine wpAny_bind (wpAny_pure ?_) | skip
  refine wpAny_bind (wpAny_sequenceKey ht.typeIs (by decide) ?_); refine wpAny_bind (wpAny_callSpecial?_slot (name := Str.ofString "__getitem__") ht.typeIs PyProof.Rows.slot_tuple_getitem (wpAny_call_entry PyProof.Rows.slot_tuple_getitem ht.typeIs entry_tuple_getitem ?_ (args_tuple_getitem _ _)))
  show wpAny _ _ (Builtin.Tuple.tupleItemsOf (.ref t) >>= _) _ _ s; refine wpAny_bind (tupleItemsOf_ ht ?_)
  refine wpAny_bind (wpAny_typeOf hTs ?_); rw [if_pos (by decide)]
  refine wpAny_bind (applied2 hs pl ps ?_)
  have hno : ¬ ((((min 1 items.size : Nat) : Int) == 0 && (2 : Int) == 1 && (items.size / 2) == items.size) = true) := by
    rw [show ((2 : Int) == 1) = false from rfl, Bool.and_false, Bool.false_and]; exact Bool.false_ne_true
  show wpAny _ _ (if (((min 1 items.size : Nat) : Int) == 0 && (2 : Int) == 1 && (items.size / 2) == items.size) = true then _ else _) _ _ s
  rw [if_neg hno]
  have ep : ((List.range (items.size / 2)).filterMap fun (m : Nat) => items[(((min 1 items.size : Nat) : Int) + (m : Int) * 2).toNat]?).toArray = (odds items.toList).toArray := by
    congr 1
    rw [← odds_pick items.toList, Array.length_toList]
    refine fm_congr fun m hm => ?_
    have := List.mem_range.mp hm
    rw [Array.getElem?_toList]
    congr 1
    omega
  rw [ep]
  first
    | exact wpAny_bind (m := Builtin.Tuple.tupleExact _) (wpAny_newObj_type (wpAny_pure ⟨_, rfl, wpAny_pure h⟩) hok)
    | exact wpAny_bind (m := Builtin.Tuple.tupleExact _) (wpAny_newObj_type (wpAny_bind (wpAny_pure (wpAny_pure ⟨_, rfl, wpAny_pure h⟩))) hok)
    | exact wpAny_bind (wpAny_bind (m := Builtin.Tuple.tupleExact _) (wpAny_newObj_type (wpAny_pure (wpAny_pure ⟨_, rfl, wpAny_pure h⟩)) hok))
    | exact wpAny_bind (wpAny_bind (m := Builtin.Tuple.tupleExact _) (wpAny_newObj_type (wpAny_pure ⟨_, rfl, wpAny_pure h⟩) hok))
end
def oddsK (K : PySem.W.Frag) (Q : VK) (x : V) (H : Hp) : Prop := ∃ (a : Addr) (xs : List V), x = .ref a ∧ SqT K H a xs ∧ newN Q (odds xs) H
def tOdds (K : PySem.W.Frag) (te : TE) : TE := fun σ H Q => te σ H (oddsK K Q)
theorem w_odds {K : PySem.W.Frag} {te : TE} {σ : L2.St} {H : Hp} {Q : VK} (k : te σ H (oddsK K Q)) : tOdds K te σ H Q := k
theorem l_odds {K : PySem.W.Frag} {H : Hp} {Q : VK} {a : Addr} {xs : List V} (h : SqT K H a xs) (hz : xs.length ≤ 100000) (k : ∀ p H', H p = none → Ex H H' → Nt H' p (odds xs) → Q (.ref p) H') : oddsK K Q (.ref a) H := ⟨a, xs, rfl, h, w_newN (by rw [odds_len]; omega) k⟩
theorem pe_odds {X : Cx} {K : PySem.W.Frag} (hK : X.K = K) {e : Expr} {te : TE} {k1 k2 : Nat} {p1 p2 p3 pos : Pos} (he : PE X e te) : PE X (.Subscript e (.Slice (some (.Constant (.int 1) k1 p1)) none (some (.Constant (.int 2) k2 p2)) p3) pos) (tOdds K te) := by
  subst hK
  refine ⟨fun pins s σ H Q I h => ?_⟩
  refine Subscript_ (thn (he.run pins s σ H _ I h) fun v s1 ⟨x, H1, J1, r1, a, xs, ex, hx, z, q⟩ => ?_)
  subst ex
  cases r1
  have h1 : PO X (some (.Constant (.int 1) k1 p1)) (tPart (tC (.int 1))) := po_some pe_int
  have h2 : PO X (some (.Constant (.int 2) k2 p2)) (tPart (tC (.int 2))) := po_some pe_int
  refine wpAny_Slice (thn (h1.run pins s1 σ H1 (fun o G => o = some 1 ∧ G = H1) J1 ⟨1, rfl, rfl, rfl⟩) fun vl s2 ⟨l, H2, J2, pl, el, e2⟩ => ?_)
  subst el e2
  refine thn (po_none.run pins s2 σ H2 (fun o G => o = none ∧ G = H2) J2 ⟨rfl, rfl⟩) fun vu s3 ⟨u, H3, J3, pu, eu, e3⟩ => ?_
  subst eu e3
  refine thn (h2.run pins s3 σ H3 (fun o G => o = some 2 ∧ G = H3) J3 ⟨2, rfl, rfl, rfl⟩) fun vs s4 ⟨o, H4, J4, ps, eo, e4⟩ => ?_
  subst eo e4
  cases pu
  have J5 : Inv X pins σ H4 { s4 with heap := s4.heap.push { cls := .type "slice", data := .fields #[vl, .none, vs] } } := J4.kept (t' := s4.toks) fun b ob g => Heap.get?_push_of_some _ g
  obtain ⟨its, r, ht, hz⟩ := J5.tuple hx
  have hl := r.length
  show wpAny (model X.prog X.w) X.A (subscriptTail e (.Slice (some (.Constant (.int 1) k1 p1)) none (some (.Constant (.int 2) k2 p2)) p3) (.ref a) (.ref s4.heap.objs.size)) (EP X pins σ Q) X.xe { s4 with heap := s4.heap.push { cls := .type "slice", data := .fields #[vl, .none, vs] } }
  refine tail_any (T := "tuple") (ops := [.ref a, .ref s4.heap.objs.size]) ht.typeIs PyProof.Rows.slot_tuple_getitem.lookup ?_ (by with_unfolding_all rfl)
  refine getItem_tuple_odds ht (Heap.IsSliceOf.new _ vl .none vs) pl ps ?_ (by rw [List.size_toArray]; omega)
  exact ⟨.ref _, _, laidN J5 z (Vals.odds r), rfl, q _ _ (J5.hok.fresh (Nat.le_refl _)) rfl⟩
/-! leaves over such tuples -/
section
variable {K : PySem.W.Frag} {H : Hp} {Q : VK} {a b : Addr} {xs ys : List V}
theorem l_addN {i j : Int} (k : Q (.int (i + j)) H) : rCatN K (.int i) (.int j) H Q := .inr (l_add k)
theorem l_mulN {i j : Int} (h : (-(2 ^ 64) < i ∧ i < 2 ^ 64) ∨ (-(2 ^ 64) < j ∧ j < 2 ^ 64)) (k : Q (.int (i * j)) H) : rRepN K (.int i) (.int j) H Q := .inr (l_mul h k)
theorem l_addNT (h1 : Nt H a xs) (h2 : Nt H b ys) (hz : xs.length + ys.length ≤ 100000) (k : ∀ p H', Ex H H' → Nt H' p (xs ++ ys) → Q (.ref p) H') : rCatN K (.ref a) (.ref b) H Q :=
  .inl ⟨a, b, xs, ys, rfl, rfl, h1.sq, h2.sq, fun e => k _ _ (Evl.Ex.refl _) (by subst e; exact h2), fun _ e => k _ _ (Evl.Ex.refl _) (by subst e; rw [List.append_nil]; exact h1), w_newN (by rw [List.length_append]; exact hz) fun p H' _ e n => k p H' e n⟩
theorem l_slNT {lo hi : Option Int} (h : Nt H a xs) (hz : xs.length ≤ 100000) (k : ∀ p H', Ex H H' → Nt H' p (cutV xs lo hi) → Q (.ref p) H') : rSlN K (.ref a) lo hi H Q :=
  .inl ⟨a, xs, rfl, h.sq, fun e => k _ _ (Evl.Ex.refl _) (by
    have : cutV xs lo hi = xs := by unfold cutV; rw [e.1, e.2]; simp
    rw [this]; exact h), w_newN (Nat.le_trans (cutV_length xs lo hi) hz) fun p H' _ e n => k p H' e n⟩
theorem l_repNT {m : Int} (h : Nt H a xs) (hn : xs ≠ []) (hx : xs.length ≤ 1000) (hk : 0 ≤ m ∧ m ≤ 1000) (hz : (List.replicate m.toNat xs).flatten.length ≤ 100000) (k : ∀ p H', Ex H H' → Nt H' p (List.replicate m.toNat xs).flatten → Q (.ref p) H') : rRepN K (.ref a) (.int m) H Q :=
  .inl ⟨a, m, xs, rfl, rfl, h.sq, hn, hx, hk.1, hk.2, fun e => k _ _ (Evl.Ex.refl _) (by subst e; simpa using h), w_newN hz fun p H' _ e n => k p H' e n⟩
theorem l_tupLN (h : SqL K H a xs) (hz : xs.length ≤ 100000) (k : ∀ p H', Ex H H' → Nt H' p xs → Q (.ref p) H') : rTupN K [.ref a] H Q := ⟨a, xs, rfl, .inl ⟨h, w_newN hz fun p H' _ e n => k p H' e n⟩⟩
end
/-! for x in reversed(t), for k in reversed(range(n)) -/
theorem pi_revAK {X : Cx} {K : PySem.W.Frag} (h : X.K = K) {tg e : Expr} {te : TE} {p pos : Pos} (hp : PI X tg (.Call (.Name "reversed" p) [e] [] pos) (RT.iRevA X.K te)) : PI X tg (.Call (.Name "reversed" p) [e] [] pos) (RT.iRevA K te) := h ▸ hp
def revK (K : PySem.W.Frag) (R : It → Hp → Prop) (v : V) (H1 : Hp) : Prop := ∃ (a : Addr) (xs : List V), v = .ref a ∧ ((SqL K H1 a xs ∧ R (Itv K a xs.length) H1) ∨ (SqT K H1 a xs ∧ R (RT.ItvT K a xs.length) H1))
theorem i_revA {K : PySem.W.Frag} {te : TE} {σ : L2.St} {H : Hp} {R : It → Hp → Prop} (k : te σ H (revK K R)) : RT.iRevA K te σ H R := k
theorem l_revT {K : PySem.W.Frag} {a : Addr} {xs : List V} {H : Hp} {R : It → Hp → Prop} (h : SqT K H a xs) (k : R (RT.ItvT K a xs.length) H) : revK K R (.ref a) H := ⟨a, xs, rfl, .inr ⟨h, k⟩⟩
theorem walk_revT {K : PySem.W.Frag} {a : Addr} {xs : List V} : Walk (RT.ItvT K a xs.length) xs.length (fun H => SqT K H a xs) (fun i H x H' => H' = H ∧ xs[xs.length - 1 - i]? = some x) := by
  refine ⟨fun i _ hi q => ⟨hi, xs, xs[xs.length - 1 - i], q, by simp⟩, fun _ _ => Nat.le_refl _, fun i H x H' hi q y => ⟨y.1, y.2 xs q⟩⟩
def rgK (R : It → Hp → Prop) (a b : Int) (H1 : Hp) : Prop := -(2 ^ 62) ≤ a ∧ a < 2 ^ 62 ∧ -(2 ^ 62) ≤ b ∧ b < 2 ^ 62 ∧ R (Itc (a + (((b - a).toNat : Nat) : Int) - 1) (-1) (b - a).toNat) H1
theorem i_revR1 {ta : TE} {σ : L2.St} {H : Hp} {R : It → Hp → Prop} (k : ta σ H fun x H1 => ∃ j, x = .int j ∧ rgK R 0 j H1) : iRevR (tRg1 ta) σ H R := k
theorem l_rgK {R : It → Hp → Prop} {j : Int} {H : Hp} (h : 0 ≤ j ∧ j < 1000000) (k : R (Itc (0 + (((j - 0).toNat : Nat) : Int) - 1) (-1) (j - 0).toNat) H) : rgK R 0 j H := ⟨by decide, by decide, by omega, by omega, k⟩
/-! list(range(n)) -/
theorem w_listRg {te : L2.St → Hp → (Int → Int → Hp → Prop) → Prop} {σ : L2.St} {H : Hp} {Q : VK} (k : te σ H fun a b H1 => RgOk a b ∧ ∀ q, H1 q = none → Q (.ref q) (upd H1 q (.lst (rgV a b)))) : tLstRg te σ H Q := k
theorem w_rg1 {ta : TE} {σ : L2.St} {H : Hp} {R : Int → Int → Hp → Prop} (k : ta σ H fun x H1 => ∃ n, x = .int n ∧ R 0 n H1) : tRg1 ta σ H R := k
theorem l_rgL {j : Int} {H : Hp} {Q : VK} (h : 0 ≤ j ∧ j < 1000000) (k : ∀ q H', H q = none → Ex H H' → H' q = some (.lst (rgV 0 j)) → Q (.ref q) H') : RgOk 0 j ∧ ∀ q, H q = none → Q (.ref q) (upd H q (.lst (rgV 0 j))) := ⟨RgOk.of_le (by omega) (by omega) (by omega) (by omega), fun q hq => k q _ hq (Evl.Ex.new hq) upd_same⟩
end LM
namespace LM
open PySem PySem.Spec PyProof.Rows L2
/-! texts: rules, and texts by their signs -/
def rJoin (K : PySem.W.Frag) : V → List V → Hp → VK → Prop := fun x xs H Q => ∃ a p, ∃ ys : List Str, x = .str a ∧ xs = [.ref p] ∧ (SqL K H p (ys.map V.str) ∨ SqT K H p (ys.map V.str)) ∧ (ys.map (·.length)).sum + ys.length * a.length ≤ 16777216 ∧ Q (.str (Txt.join a ys)) H
theorem pe_joinK {X : Cx} {K : PySem.W.Frag} {o e : Expr} {to te : TE} {apos pos : Pos} (h : X.K = K) (ho : PE X o to) (he : PE X e te) (hs : starEach [e] X.env = [(false, eval e X.env)] := by rfl) (hbase : attributeBase o "join" X.env (eval o X.env) = eval o X.env := by rfl) (hline : (apos.endLine == pos.line) = true := by rfl) :
    PE X (.Call (.Attribute o "join" apos) [e] [] pos) (tM1 (rJoin K) to te) := h ▸ pe_join ho he hs hbase hline
section
variable {K : PySem.W.Frag} {σ : L2.St} {H : Hp} {Q : VK} {to te : TE}
theorem w_m1 {r : V → List V → Hp → VK → Prop} (k : to σ H fun x H1 => (∃ a, x = .str a) ∧ te σ H1 fun y H2 => r x [y] H2 Q) : tM1 r to te σ H Q := k
theorem w_m0 {r : V → List V → Hp → VK → Prop} (k : to σ H fun x H1 => (∃ a, x = .str a) ∧ r x [] H1 Q) : tM0 r to σ H Q := k
theorem l_tyS {x : Str} {P : Prop} (k : P) : (∃ a, V.str x = .str a) ∧ P := ⟨⟨_, rfl⟩, k⟩
theorem l_joinL {x : Str} {p : Addr} {ys : List Str} (h : SqL K H p (ys.map V.str)) (hz : (ys.map (·.length)).sum + ys.length * x.length ≤ 100000) (k : Q (.str (Txt.join x ys)) H) : rJoin K (.str x) [.ref p] H Q := ⟨x, p, ys, rfl, rfl, .inl h, Nat.le_trans hz (by decide), k⟩
def rStrI : List V → Hp → VK → Prop := fun xs H Q => ∃ i, xs = [.int i] ∧ i.natAbs.log2 < 1920 ∧ Q (.str (toString i)) H
theorem call_strI {X : Cx} : CallR X (.type "str") rStrI := call_str_int
theorem l_strI {i : Int} (h : i.natAbs.log2 < 1920) (k : Q (.str (toString i)) H) : rStrI [.int i] H Q := ⟨i, rfl, h, k⟩
end
theorem log2_lt {i : Int} {k : Nat} (h : i.natAbs < 2 ^ k) (hk : k < 1920) : i.natAbs.log2 < 1920 := by
  by_cases c : i.natAbs = 0
  · rw [c]; decide
  · exact Nat.lt_trans ((Nat.log2_lt c).mpr h) hk
theorem join_in {x : Str} {ys : List Str} {c : Nat} (h : c ∈ (Txt.join x ys).cps.toList) : (∃ t ∈ ys, c ∈ t.cps.toList) ∨ c ∈ x.cps.toList := by
  rw [show Txt.join x ys = Str.join x ys from StrLaws.glued_eq_join x ys] at h
  exact ((mem_join x c ys).mp h).imp id (·.2)
theorem join_len (x : Str) (ys : List Str) : (Txt.join x ys).length ≤ (ys.map (·.length)).sum + ys.length * x.length := by
  rw [show Txt.join x ys = Str.join x ys from StrLaws.glued_eq_join x ys]
  exact StrLaws.join_length_le x ys
theorem repr_small {z : Str} (h : ∀ c ∈ z.cps.toList, c < 16 ^ 8) (hl : z.length ≤ 10000) : (reprText z).length ≤ sizeLine := by
  have := StrLaws.reprText_len z h
  rw [sizeLine_eq]
  omega
/-! texts by their signs -/
def sS (l : List Nat) : Str := ⟨l.toArray⟩
theorem sS_cps (l : List Nat) : (sS l).cps.toList = l := by simp [sS]
theorem sS_len (l : List Nat) : (sS l).length = l.length := by show l.toArray.size = _; simp
theorem sS_eta (z : Str) : sS z.cps.toList = z := by obtain ⟨a⟩ := z; simp [sS]
theorem len_cps (z : Str) : z.cps.toList.length = z.length := by show _ = z.cps.size; simp
theorem sS_app (a b : List Nat) : sS a ++ sS b = sS (a ++ b) := by
  rw [← sS_eta (sS a ++ sS b), cps_toList_append, sS_cps, sS_cps]
theorem sS_inj {a b : List Nat} (h : sS a = sS b) : a = b := by rw [← sS_cps a, h, sS_cps]
theorem sS_dec (a b : List Nat) : decide (sS a = sS b) = decide (a = b) := by
  by_cases h : a = b
  · rw [h]; simp
  · rw [decide_eq_false h, decide_eq_false fun z => h (sS_inj z)]
theorem cutS_to (z : Str) (k : Nat) : cutS z none (some (k : Int)) = sS (z.cps.toList.take k) := by
  unfold cutS sS
  rw [show HT.sIx z.length z.length (some (k : Int)) = min k z.length from HT.sIx_nat ..]
  show (⟨((z.cps.toList.drop 0).take (min k z.length - 0)).toArray⟩ : Str) = _
  rw [List.drop_zero, Nat.sub_zero, ← len_cps z]
  by_cases h : k ≤ z.cps.toList.length
  · rw [Nat.min_eq_left h]
  · rw [Nat.min_eq_right (by omega), List.take_of_length_le (Nat.le_refl _), List.take_of_length_le (by omega)]
theorem cutS_from (z : Str) (k : Nat) : cutS z (some (k : Int)) none = sS (z.cps.toList.drop k) := by
  unfold cutS sS
  rw [show HT.sIx z.length 0 (some (k : Int)) = min k z.length from HT.sIx_nat ..]
  show (⟨((z.cps.toList.drop (min k z.length)).take (z.length - min k z.length)).toArray⟩ : Str) = _
  rw [← len_cps z]
  by_cases h : k ≤ z.cps.toList.length
  · rw [Nat.min_eq_left h, List.take_of_length_le (by simp)]
  · rw [Nat.min_eq_right (by omega), List.drop_of_length_le (Nat.le_refl _), List.drop_of_length_le (by omega)]
    simp
theorem join_sgl : ∀ l : List Nat, Txt.join "" (l.map fun c => (⟨#[c]⟩ : Str)) = sS l := by
  intro l
  rw [show Txt.join "" (l.map fun c => (⟨#[c]⟩ : Str)) = Str.join "" (l.map fun c => (⟨#[c]⟩ : Str)) from StrLaws.glued_eq_join _ _]
  rw [← sS_eta (Str.join "" (l.map fun c => (⟨#[c]⟩ : Str)))]
  congr 1
  induction l with
  | nil => rfl
  | cons c r ih =>
    cases r with
    | nil => rfl
    | cons d r =>
      rw [List.map_cons, List.map_cons, join_cons_cons, cps_toList_append, cps_toList_append, show (Str.ofString "").cps.toList = [] from rfl]
      rw [List.map_cons] at ih
      rw [ih]
      rfl
theorem sum_sgl : ∀ l : List Nat, ((l.map fun c => (⟨#[c]⟩ : Str)).map (·.length)).sum = l.length
  | [] => rfl
  | c :: r => by
    rw [List.map_cons, List.map_cons, List.sum_cons, sum_sgl r, List.length_cons]
    show 1 + _ = _
    omega
section
variable {K : PySem.W.Frag} {σ : L2.St} {H : Hp} {Q : VK} {to te : TE}
/-- slices of a list, a tuple, a text -/
def rSlX (K : PySem.W.Frag) : V → Option Int → Option Int → Hp → VK → Prop := fun x lo hi H Q => rSlP K x lo hi H Q ∨ rSlS x lo hi H Q
theorem sl_X {X : Cx} {K : PySem.W.Frag} (h : X.K = K) : SlR X (rSlX K) := (sl_K h).or sl_str
theorem l_slS {z : Str} {lo hi : Option Int} (hz : z.length ≤ 100000) (k : Q (.str (cutS z lo hi)) H) : rSlX K (.str z) lo hi H Q := .inr ⟨z, rfl, sz hz, k⟩
theorem l_slQ {x : V} {lo hi : Option Int} (k : rSlP K x lo hi H Q) : rSlX K x lo hi H Q := .inl k
/-- one sign in a text; else as in a list or a tuple -/
def rSign : R2 := fun x y H Q => ∃ (c : Nat) (z : Str), x = .str ⟨#[c]⟩ ∧ y = .str z ∧ Q (.bl (decide (c ∈ z.cps.toList))) H
def rInX (K : PySem.W.Frag) : R2 := fun x y H Q => rSign x y H Q ∨ rIn K false x y H Q
theorem op_inX {X : Cx} {K : PySem.W.Frag} (h : X.K = K) : OpR X (compareOp .In) (rInX K) := OpR.or op_in_sign (op_inK h)
theorem l_inS {c : Nat} {z : Str} (k : Q (.bl (decide (c ∈ z.cps.toList))) H) : rInX K (.str ⟨#[c]⟩) (.str z) H Q := .inl ⟨c, z, rfl, rfl, k⟩
/-- text.index(sign) -/
def rSIdx : V → List V → Hp → VK → Prop := fun x xs H Q => ∃ a b i rest, x = .str a ∧ xs = [.str b] ∧ Builtin.Str.occurrences a b 0 a.length 1 = i :: rest ∧ Q (.int (i : Nat)) H
theorem mt_sidx {X : Cx} : MtR X "str.index" rSIdx := mt_sindex
theorem l_sidx {a b : Str} {i : Nat} {rest : List Nat} (h : Builtin.Str.occurrences a b 0 a.length 1 = i :: rest) (k : Q (.int (i : Nat)) H) : rSIdx (.str a) [.str b] H Q := ⟨a, b, i, rest, rfl, rfl, h, k⟩
/-- a text none or one time -/
def rRepS : R2 := fun x y H Q => ∃ z n, x = .str z ∧ y = .int n ∧ 0 ≤ n ∧ n ≤ 1000 ∧ z.length ≤ 1 ∧ ∀ u : Str, u.length ≤ n.toNat → (n = 1 → u = z) → (n = 0 → u = Str.empty) → Q (.str u) H
end
theorem op_mulS {X : Cx} : OpR X (binaryOp .Mult) rRepS := by
  intro pins s σ H x y v u Q I rx ry h
  obtain ⟨z, n, rfl, rfl, h0, h1, hz, k⟩ := h
  obtain ⟨t, rfl⟩ := rx
  obtain ⟨t', rfl⟩ := ry
  refine _root_.PySem.P.mul_str ?_ (fun hn _ => ?_) (fun _ _ => ?_) ?_
  · rw [decide_eq_false (by omega), decide_eq_false (by omega)]; rfl
  · have h2 : (1 : Int) ≤ (2 ^ 63 - 1) / n := by
      rw [Int.le_ediv_iff_mul_le (by omega)]
      omega
    omega
  · unfold Builtin.Str.tooLong
    have h3 : z.length * n.toNat ≤ 1 * n.toNat := Nat.mul_le_mul_right _ hz
    rw [sizeLine_eq]
    simp
    omega
  · by_cases c : n < 1
    · rw [if_pos c]
      exact ⟨Nat.zero_le _, .str _, H, I.tok _, ⟨_, rfl⟩, k _ (Nat.zero_le _) (fun e => absurd c (by omega)) fun _ => rfl⟩
    · rw [if_neg c]
      by_cases c2 : (n == 1 || z.length == 0) = true
      · rw [if_pos c2]
        exact ⟨.str _, H, I, ⟨_, rfl⟩, k _ (by omega) (fun _ => rfl) fun e => absurd e (by omega)⟩
      · rw [if_neg c2]
        have : ∀ (m : Nat) (a : Array Nat), ((List.replicate m z.cps).foldl (· ++ ·) a).size = a.size + m * z.cps.size := by
          intro m
          induction m with
          | zero => intro a; simp
          | succ m ih =>
            intro a
            rw [List.replicate_succ, List.foldl_cons, ih, Array.size_append, Nat.succ_mul]
            omega
        have hlen : ((List.replicate n.toNat z.cps).foldl (· ++ ·) #[]).size ≤ n.toNat := by
          rw [this]
          have h3 : n.toNat * z.cps.size ≤ n.toNat * 1 := Nat.mul_le_mul_left _ hz
          simpa using h3
        refine ⟨?_, .str _, H, I.tok _, ⟨_, rfl⟩, k _ hlen (fun e => absurd (by rw [e]; rfl) c2) fun e => absurd e (by omega)⟩
        show ((List.replicate n.toNat z.cps).foldl (· ++ ·) #[]).size ≤ sizeLine
        rw [sizeLine_eq]
        omega
def rMulX (K : PySem.W.Frag) : R2 := fun x y H Q => rMulP K x y H Q ∨ rRepS x y H Q
theorem op_mulX {X : Cx} {K : PySem.W.Frag} (h : X.K = K) : OpR X (binaryOp .Mult) (rMulX K) := (op_mulK h).or op_mulS
theorem l_mulQ {K : PySem.W.Frag} {H : Hp} {Q : VK} {x y : V} (k : rMulP K x y H Q) : rMulX K x y H Q := .inl k
theorem l_mulS {K : PySem.W.Frag} {H : Hp} {Q : VK} {z : Str} {n : Int} (h : 0 ≤ n ∧ n ≤ 1000) (hz : z.length ≤ 1) (k : ∀ u : Str, u.length ≤ n.toNat → (n = 1 → u = z) → (n = 0 → u = Str.empty) → Q (.str u) H) : rMulX K (.str z) (.int n) H Q := .inr ⟨z, n, rfl, rfl, h.1, h.2, hz, k⟩
def strK (R : It → Hp → Prop) (v : V) (H1 : Hp) : Prop := ∃ x, v = .str x ∧ R (Its x) H1
theorem i_str {σ : L2.St} {H : Hp} {te : TE} {R : It → Hp → Prop} (k : te σ H fun v H1 => strK R v H1) : iStr te σ H R := k
theorem l_its {H : Hp} {z : Str} {R : It → Hp → Prop} (k : R (Its z) H) : strK R (.str z) H := ⟨z, rfl, k⟩
theorem pickN {α : Type} {xs : List α} {d : Int} (h0 : 0 ≤ d) (h1 : d < xs.length) : ∃ c, atI xs d = some c ∧ c ∈ xs := by
  obtain ⟨n, rfl⟩ : ∃ n : Nat, d = n := ⟨d.toNat, by omega⟩
  have hn : n < xs.length := by omega
  exact ⟨xs[n], atI_nat (List.getElem?_eq_getElem hn), List.getElem_mem hn⟩
theorem app_len (a b : Str) : (a ++ b).length = a.length + b.length := by rw [← len_cps, cps_toList_append, List.length_append, len_cps, len_cps]
theorem l_lcS {σ : L2.St} {H : Hp} {Q : VK} {te : TE} {z : Str} {j : Nat} {vs : List Nat} (f : Nat → V) (hz : z.length < 100000) (hw : ∀ x, wipe ((wipe σ vs).set j (some x)) vs = wipe σ vs)
    (hs : ∀ c H1, c ∈ z.cps.toList → Ex H H1 → ∀ Q' : VK, (∀ H2, Ex H1 H2 → Q' (f c) H2) → te ((wipe σ vs).set j (some (.str ⟨#[c]⟩))) H1 Q')
    (hd : ∀ D H1, H D = none → Ex H H1 → H1 D = some (.lst (z.cps.toList.map f)) → Q (.ref D) H1) : LcK (gName j) tYes te vs (Its z) σ H Q := by
  refine l_lc walk_str (fun _ i acc H1 => Ex H H1 ∧ acc = (z.cps.toList.take i).map f) (fun D H1 n e h1 => ⟨e, rfl⟩) (fun _ _ _ _ _ _ _ => True.intro) (fun D i acc x H1 H2 hn hi h1 p y => ?_) (fun D acc H1 hn h1 p => ?_)
  · obtain ⟨rfl, c, hc, rfl⟩ := y
    obtain ⟨e, rfl⟩ := p
    have hc' : z.cps.toList[i]? = some c := by rw [Array.getElem?_toList]; exact hc
    have hi' : i < z.length := hi
    refine ⟨hw _, w_yes ?_⟩
    refine iteT ?_
    refine hs c _ (List.mem_of_getElem? hc') e _ fun H3 e3 => ?_
    refine lc_end (Pv := fun _ i acc H1 => Ex H H1 ∧ acc = (z.cps.toList.take i).map f) (e3 _ _ h1) (by simp; omega) fun H6 e6 h6 => ⟨?_, ?_⟩
    · exact ExB.new (e.trans e3) e6 hn
    · have : (z.cps.toList.take (i + 1)) = z.cps.toList.take i ++ [c] := by rw [List.take_succ, hc']; rfl
      rw [this, List.map_append]; rfl
  · obtain ⟨e, rfl⟩ := p
    refine hd D H1 hn e ?_
    rw [h1, List.take_of_length_le (by simp)]
end LM
namespace LM
open PySem PySem.Spec PyProof.Rows L2
/-! what the desk wants: zip of a text and a list, a dict of texts of the top, isinstance of own classes, f-strings, split, int(text) -/
def ItzS (K : PySem.W.Frag) (x : Str) (b : Addr) : It :=
  ⟨fun i H => ∃ (ys : List V) (c : Nat) (y : V), SqL K H b ys ∧ x.cps[i]? = some c ∧ ys[i]? = some y,
    fun i H v H' => ∃ T c y, v = .ref T ∧ H T = none ∧ H' = upd H T (.tup [.str ⟨#[c]⟩, y]) ∧ x.cps[i]? = some c ∧ ∀ ys, SqL K H b ys → ys[i]? = some y,
    fun i H => ∃ ys : List V, SqL K H b ys ∧ i ≤ x.cps.size ∧ i ≤ ys.length ∧ (i = x.cps.size ∨ i = ys.length)⟩
theorem turn_zipS {P : Program} {w : World} {K : PySem.W.Frag} {elts : List Expr} {kk : Nat} {tpos : Pos} {x : Str} {t : Tok} {b z TI TO i1 i2 : Addr} (D : ZipSep2 z TI TO i1 i2 [i1] [i2, b]) (hb : b ≠ i2) :
    Turn P w K (.Tuple elts kk tpos) (ItzS K x b) [z, TI, TO, i1, i2] z (fun i h => IsZip h z TI TO .none ∧ IsTupOf2 h TI (.ref i1) (.ref i2) ∧ (∃ a c, IsTupOf2 h TO a c) ∧ h.IsStrIter i1 (strIterType x) x t i ∧ h.IsListIter i2 b i) where
  mem := by simp
  obj := fun i h st c hc => by
    obtain ⟨hz, hTI, ⟨x, y, hTO⟩, ⟨o1, e1, _, d1⟩, ⟨o2, e2, _, d2⟩⟩ := st
    have e' : c = z ∨ c = TI ∨ c = TO ∨ c = i1 ∨ c = i2 := by simpa using hc
    rcases e' with q | q | q | q | q
    · rw [q]; exact ⟨_, hz, fun v q => nomatch q⟩
    · rw [q]; exact ⟨_, hTI, fun v q => nomatch q⟩
    · rw [q]; exact ⟨_, hTO, fun v q => nomatch q⟩
    · rw [q]; exact ⟨o1, e1, fun v q => by rw [d1] at q; cases q⟩
    · rw [q]; exact ⟨o2, e2, fun v q => by rw [d2] at q; cases q⟩
  keep := fun i h h' st k => by
    obtain ⟨hz, hTI, ⟨x, y, hTO⟩, ⟨o1, e1, c1, d1⟩, h2⟩ := st
    exact ⟨k z (by simp) _ hz, k TI (by simp) _ hTI, ⟨x, y, k TO (by simp) _ hTO⟩, ⟨o1, k i1 (by simp) o1 e1, c1, d1⟩, h2.at fun o q => k i2 (by simp) o q⟩
  item := by
    intro X hP hw hK hc i pins s σ H E I hf st hg
    subst hP hw hK
    obtain ⟨hz, hTI, ⟨x0, y0, hTO⟩, h1, h2⟩ := st
    obtain ⟨ys, c, y, hqy, hx, hy⟩ := hg
    obtain ⟨its2, rv2, p2, _⟩ := I.list hqy
    obtain ⟨u2, hu2, ru2⟩ := rv2.get hy
    have hzl : z < s.heap.objs.size := Heap.lt_size hz
    have hh := I.ok.hd hc
    have hl1 : i < x.cps.size := by
      obtain ⟨q, _⟩ := Array.getElem?_eq_some_iff.mp hx
      exact q
    have hl2 : i < its2.toArray.size := by
      rw [List.size_toArray]
      obtain ⟨q, _⟩ := List.getElem?_eq_some_iff.mp hu2
      exact q
    refine wpAny_pyNext_zipD2_item D (Draws.text (prog := X.prog) (w := X.w) (A := X.A.in1) hh i1 x t) (Draws.list (prog := X.prog) (w := X.w) (A := X.A.in1) hh i2 b hb its2.toArray) hz hTI hTO h1 ⟨h2, p2.isList⟩ hl1 hl2 fun y1 y2 h' tk q1 q2 z' TO' h1' h2' hT hsz hk => ?_
    obtain ⟨c', u, hc', rfl⟩ := q1
    rw [hx] at hc'
    cases hc'
    have e2 : y2 = u2 := by
      have : its2.toArray[i]? = some u2 := by simpa using hu2
      rw [this] at q2
      exact (Option.some.inj q2).symm
    subst e2
    refine ⟨_, rfl, wpAny_letOwnedTupleGo_zip (s := { s with heap := h', toks := tk }) z' fun h'' z'' sb => ?_⟩
    have hT2 : h''.get? s.heap.objs.size = some { cls := .type "tuple", data := .seq #[.str ⟨#[c]⟩ u, y2] } := (sb.2 _ (Nat.ne_of_gt hzl)).trans hT
    have ru : RelV (.str ⟨#[c]⟩) (.str ⟨#[c]⟩ u) := ⟨u, rfl⟩
    have new : ObjOk X.prog X.w (upd H s.heap.objs.size (.tup [.str ⟨#[c]⟩, y])) h'' s.heap.objs.size (.tup [.str ⟨#[c]⟩, y]) :=
      ⟨by show 2 ≤ sizeLine; decide, [.str ⟨#[c]⟩ u, y2], .cons ru (.cons ru2 .nil), ⟨_, hT2, rfl, _, rfl⟩⟩
    have I1 : Inv X pins σ (upd H s.heap.objs.size (.tup [.str ⟨#[c]⟩, y])) { s with heap := h'', toks := tk } :=
      I.turnedNew (t' := tk) (ch := [z, TI, TO, i1, i2]) (fun c o hb q => (sb.2 c (fun q' => hb (by simp [q']))).trans (hk c o (fun q' => hb (by simp [q'])) (fun q' => hb (by simp [q'])) (fun q' => hb (by simp [q'])) (fun q' => hb (by simp [q'])) q)) hf (Nat.le_refl _) new
    refine ⟨.ref s.heap.objs.size, _, I1, rfl, ⟨_, c, y, rfl, I.hok.fresh (Nat.le_refl _), rfl, hx, fun l hl => by rw [I.list_inj hl hqy]; exact hy⟩, ⟨z'', ?_, ⟨.str ⟨#[c]⟩ u, y2, ?_⟩, ?_, ?_⟩, fun c hcm => ?_⟩
    · exact (sb.2 _ D.TIz).trans (hk _ _ D.TIz D.TITO D.TIi1 D.TIi2 hTI)
    · exact (sb.2 _ D.TOz).trans TO'
    · obtain ⟨o1, e1, c1, d1⟩ := h1'
      exact ⟨o1, (sb.2 _ D.zi1.symm).trans e1, c1, d1⟩
    · exact h2'.1.at fun o q => (sb.2 _ D.zi2.symm).trans q
    · have hlt : c < s.heap.objs.size := by
        have e' : c = z ∨ c = TI ∨ c = TO ∨ c = i1 ∨ c = i2 := by simpa using hcm
        rcases e' with q | q | q | q | q
        · rw [q]; exact hzl
        · rw [q]; exact Heap.lt_size hTI
        · rw [q]; exact Heap.lt_size hTO
        · rw [q]; obtain ⟨_, e1, _⟩ := h1; exact Heap.lt_size e1
        · rw [q]; obtain ⟨_, e2, _⟩ := h2; exact Heap.lt_size e2
      rw [upd_ne (Nat.ne_of_lt hlt)]
      exact (hf c hcm).1
  done := by
    intro X hP hw hK hc i pins s σ H E I hf st hg
    subst hP hw hK
    obtain ⟨hz, hTI, ⟨x0, y0, hTO⟩, h1, h2⟩ := st
    obtain ⟨ys, hqy, g1, g2, hend⟩ := hg
    obtain ⟨its2, rv2, p2, _⟩ := I.list hqy
    have l2 := rv2.length
    have hh := I.ok.hd hc
    have sz2 : its2.toArray.size = ys.length := by rw [List.size_toArray]; omega
    exact wpAny_pyNext_zipD2_end D (Draws.text (prog := X.prog) (w := X.w) (A := X.A.in1) hh i1 x t) (Draws.list (prog := X.prog) (w := X.w) (A := X.A.in1) hh i2 b hb its2.toArray) hz hTI hTO h1 ⟨h2, p2.isList⟩ g1 (by rw [sz2]; exact g2) (by rw [sz2]; exact hend)
      fun h' tk hk => ⟨rfl, I.turnedL (t' := tk) (ch := [z, TI, TO, i1, i2]) (fun c o hb q =>
        hk c o (fun q' => hb (by simp [q'])) (fun q' => hb (by simp [q'])) (fun q' => hb (by simp [q'])) (fun q' => hb (by simp [q'])) q) hf⟩
  self := fun A i s Q E st h => wpAny_pyIter_zip st.1 h
def zipSK (K : PySem.W.Frag) (R : It → Hp → Prop) (vs : List V) (H1 : Hp) : Prop := ∃ x b ys, vs = [.str x, .ref b] ∧ SqL K H1 b ys ∧ R (ItzS K x b) H1
def iZipS (K : PySem.W.Frag) (ta : TA) : TI := fun σ H R => ta σ H fun vs H1 => zipSK K R vs H1
theorem pi_zipS {X : Cx} {K : PySem.W.Frag} {e e2 : Expr} {ta : TA} {p pos tpos : Pos} {elts : List Expr} {kk : Nat} (hK : X.K = K) (hg : Gl X "zip") (hm : X.mg "zip" = none) (ha : PA X [e, e2] ta)
    (hs : starEach [e, e2] X.env = (false, eval e X.env) :: starEach [e2] X.env := by rfl) (hpl : (backTo pos (starEach [e2] X.env)).any (·.1) = false := by rfl) :
    PI X (.Tuple elts kk tpos) (.Call (.Name "zip" p) [e, e2] [] pos) (iZipS K ta) := by
  subst hK
  refine ⟨fun pins s σ H R I h => ?_⟩
  refine Call_ (ld_blt I hg hm PyProof.Rows.boot_zip (PyProof.Rows.callWith_type1 (thn (ha.run pos pins s σ H _ I h) fun us s1 ⟨vs, H1, I1, r1, q1⟩ => ?_) hs hpl))
  obtain ⟨x, b, ys, ex, hq, q1⟩ := q1
  subst ex
  cases r1 with
  | cons r rr =>
    cases rr with
    | cons r' rr =>
      cases rr
      obtain ⟨t, rfl⟩ := r
      cases r'
      have fresh5 : ∀ c, c ∈ [s1.heap.objs.size + 4, s1.heap.objs.size + 2, s1.heap.objs.size + 3, s1.heap.objs.size, s1.heap.objs.size + 1] → FpOk X pins H1 c := fun c hcm => by
        have e' : c = s1.heap.objs.size + 4 ∨ c = s1.heap.objs.size + 2 ∨ c = s1.heap.objs.size + 3 ∨ c = s1.heap.objs.size ∨ c = s1.heap.objs.size + 1 := by simpa using hcm
        have hle : s1.heap.objs.size ≤ c := by
          rcases e' with z | z | z | z | z
          · rw [z]; exact Nat.le_add_right _ _
          · rw [z]; exact Nat.le_add_right _ _
          · rw [z]; exact Nat.le_add_right _ _
          · rw [z]; exact Nat.le_refl _
          · rw [z]; exact Nat.le_add_right _ _
        exact I1.fpOk hle (I1.hok.fresh hle)
      obtain ⟨its, rv, p1, _⟩ := I1.list hq
      have lb : b < s1.heap.objs.size := p1.lt
      refine zip_begins2 (begins_text x t) (begins_list b its.toArray) trivial p1.isList fun h' hz hTI hTO g1 g2 hsz hk => wpAny_pyIter_zip hz ?_
      have I2 : Inv X pins σ H1 { s1 with heap := h' } := I1.kept (t' := s1.toks) hk
      exact ⟨s1.heap.objs.size + 4, [s1.heap.objs.size + 4, s1.heap.objs.size + 2, s1.heap.objs.size + 3, s1.heap.objs.size, s1.heap.objs.size + 1], _, _, H1, rfl, I2,
        turn_zipS (x := x) (t := t) (zip_sep2 (fp1 := []) (fp2 := [b]) (fun _ h => by cases h) (fun c h => by rw [List.mem_singleton.mp h]; exact lb)) (Nat.ne_of_lt (Nat.lt_succ_of_lt lb)), ⟨hz, hTI, ⟨_, _, hTO⟩, ⟨_, g1, rfl, rfl⟩, ⟨_, g2, rfl, rfl⟩⟩, fresh5, q1⟩
theorem i_zipS {K : PySem.W.Frag} {σ : L2.St} {H : Hp} {ta : TA} {R : It → Hp → Prop} (k : ta σ H fun vs H1 => zipSK K R vs H1) : iZipS K ta σ H R := k
theorem l_zipS {K : PySem.W.Frag} {H : Hp} {x : Str} {b : Addr} {ys : List V} {R : It → Hp → Prop} (h : SqL K H b ys) (k : R (ItzS K x b) H) : zipSK K R [.str x, .ref b] H := ⟨x, b, ys, rfl, h, k⟩
theorem walk_zipS {K : PySem.W.Frag} {x : Str} {b : Addr} {ys : List V} {n : Nat} (hn : n = min x.cps.size ys.length) : Walk (ItzS K x b) n (fun H => SqL K H b ys) (YPair (fun i => x.cps[i]?.map fun c => V.str ⟨#[c]⟩) (fun i => ys[i]?)) := by
  subst hn
  refine ⟨fun i _ hi q => ?_, fun _ q => ⟨ys, q, by omega, by omega, by omega⟩, fun i H v H' _ q y => ?_⟩
  · have h1 : i < x.cps.size := by omega
    have h2 : i < ys.length := by omega
    exact ⟨ys, x.cps[i], ys[i], q, by simp [h1], by simp [h2]⟩
  · obtain ⟨T, c, z, h1, h2, h3, h4, h5⟩ := y
    exact ⟨T, _, z, h1, h2, h3, by show Option.map _ x.cps[i]? = _; rw [h4]; rfl, h5 ys q⟩
/-! a dict of the top whose keys and values are texts -/
def entS (e : DictEntry) : Option (Str × Str) := match e.key, e.val with
  | .str k _, .str v _ => some (k, v)
  | _, _ => none
structure KT (K : PySem.W.Frag) (w : World) (a : Addr) (kvs : List (Str × Str)) : Prop where
  ex : ∃ es n, L2.KDict K w a es n ∧ es.toList.map entS = kvs.map some
theorem kt_look {K : PySem.W.Frag} {z : Str} : ∀ {es : List DictEntry} {kvs : List (Str × Str)}, es.map entS = kvs.map some →
    ((∃ v t, kvs.lookup z = some v ∧ ∃ e, es.find? (·.key.isStr z) = some e ∧ e.val = .str v t) ∨ (kvs.lookup z = none ∧ es.find? (·.key.isStr z) = none)) ∧ es.any (·.refKey) = false
  | [], [], _ => ⟨.inr ⟨rfl, rfl⟩, rfl⟩
  | e :: es, (k, v) :: kvs, h => by
    rw [List.map_cons, List.map_cons] at h
    obtain ⟨h1, h2⟩ := List.cons.inj h
    obtain ⟨i1, i2⟩ := kt_look (K := K) (z := z) h2
    obtain ⟨eh, ek, ev⟩ := e
    unfold entS at h1
    split at h1
    · rename_i k' tk v' tv q1 q2
      dsimp only at q1 q2
      cases h1
      subst q1 q2
      refine ⟨?_, ?_⟩
      · rw [List.lookup_cons, List.find?_cons]
        by_cases c : z = k
        · subst c
          refine .inl ⟨v, tv, by rw [show (z == z) = true from beq_self_eq_true z], ⟨eh, .str z tk, .str v tv⟩, ?_, rfl⟩
          show (match (Value.str z tk).isStr z with | true => some _ | false => _) = _
          rw [show (Value.str z tk).isStr z = true from beq_self_eq_true z]
        · rw [show (z == k) = false from beq_false_of_ne c]
          show (_ ∨ _)
          rw [show (Value.str k tk).isStr z = false from beq_false_of_ne (fun q => c q.symm)]
          exact i1
      · rw [List.any_cons, i2, Bool.or_false]
        rfl
    · cases h1
  | [], _ :: _, h => by cases h
  | _ :: _, [], h => by cases h
theorem KT.look {K : PySem.W.Frag} {w : World} {a : Addr} {kvs : List (Str × Str)} (h : KT K w a kvs) (z : Str) : (∃ v t, kvs.lookup z = some v ∧ PySem.W.nsIn K a z = some (some (.str v t))) ∨ (kvs.lookup z = none ∧ PySem.W.nsIn K a z = some none) := by
  obtain ⟨es, n, D, e⟩ := h.ex
  obtain ⟨i1, i2⟩ := kt_look (K := K) (z := z) e
  unfold PySem.W.nsIn
  rw [D.at_]
  dsimp only
  rcases i1 with ⟨v, t, l, d, h1, h2⟩ | ⟨l, h1⟩
  · exact .inl ⟨v, t, l, by rw [h1]; show some (some d.val) = _; rw [h2]⟩
  · exact .inr ⟨l, by rw [h1, i2]; rfl⟩
def rInKT (neg : Bool) (a : Addr) (kvs : List (Str × Str)) : R2 := fun x y H Q => ∃ z, x = .str z ∧ y = .ref a ∧ Q (.bl (if neg then !(kvs.lookup z).isSome else (kvs.lookup z).isSome)) H
theorem op_inKT {X : Cx} {a : Addr} {kvs : List (Str × Str)} (h : KT X.K X.w a kvs) : OpR X (compareOp .In) (rInKT false a kvs) := by
  intro pins s σ H x y v u Q I rx ry q
  obtain ⟨z, rfl, rfl, q⟩ := q
  have L := h.look z
  obtain ⟨es, n, D, _⟩ := h.ex
  refine L2.op_in_kd D pins s σ H _ _ v u Q I rx ry ?_
  rcases L with ⟨v, t, l, e⟩ | ⟨l, e⟩
  · exact ⟨z, _, rfl, rfl, e, by rw [l] at q; exact q⟩
  · exact ⟨z, _, rfl, rfl, e, by rw [l] at q; exact q⟩
theorem op_notInKT {X : Cx} {a : Addr} {kvs : List (Str × Str)} (h : KT X.K X.w a kvs) : OpR X (compareOp .NotIn) (rInKT true a kvs) := by
  intro pins s σ H x y v u Q I rx ry q
  obtain ⟨z, rfl, rfl, q⟩ := q
  have L := h.look z
  obtain ⟨es, n, D, _⟩ := h.ex
  refine L2.op_notIn_kd D pins s σ H _ _ v u Q I rx ry ?_
  rcases L with ⟨v, t, l, e⟩ | ⟨l, e⟩
  · exact ⟨z, _, rfl, rfl, e, by rw [l] at q; exact q⟩
  · exact ⟨z, _, rfl, rfl, e, by rw [l] at q; exact q⟩
def rIxKT (a : Addr) (kvs : List (Str × Str)) : R2 := fun x y H Q => ∃ z v, x = .ref a ∧ y = .str z ∧ kvs.lookup z = some v ∧ Q (.str v) H
theorem ix_KT {X : Cx} {a : Addr} {kvs : List (Str × Str)} (h : KT X.K X.w a kvs) : IxR X (rIxKT a kvs) := by
  intro value slice pins s σ H x y v u Q I rx ry q hs
  obtain ⟨z, t, rfl, rfl, l, q⟩ := q
  obtain ⟨es, n, D, _⟩ := h.ex
  refine L2.ix_kdict value slice pins s σ H _ _ v u Q I rx ry ?_ hs
  rcases h.look z with ⟨v', tk, l', e⟩ | ⟨l', e⟩
  · rw [l] at l'
    cases l'
    exact ⟨a, z, .str t, rfl, rfl, ⟨es, n, _, D.at_, D.lit, e, ⟨tk, rfl⟩⟩, q⟩
  · rw [l] at l'
    cases l'
section
variable {K : PySem.W.Frag} {σ : L2.St} {H : Hp} {Q : VK} {a : Addr} {kvs : List (Str × Str)}
theorem l_inKT {neg : Bool} {z : Str} (k : Q (.bl (if neg then !(kvs.lookup z).isSome else (kvs.lookup z).isSome)) H) : rInKT neg a kvs (.str z) (.ref a) H Q := ⟨z, rfl, rfl, k⟩
theorem l_ixKT {z v : Str} (h : kvs.lookup z = some v) (k : Q (.str v) H) : rIxKT a kvs (.ref a) (.str z) H Q := ⟨z, v, rfl, rfl, h, k⟩
end
/-! isinstance of an own class's instance -/
structure IsC (K : PySem.W.Frag) (C : Addr) : Prop where
  cl : Cls K C
  ha : PySem.W.findIn K (.ref C) "__class__" = some (some (.builtin "object.__class__"))
  hn : PySem.W.specialIn K (.builtin "object.__class__") "__get__" = some (some (.builtin "getset_descriptor.__get__"))
  htk : PySem.W.takesIn K (.builtin "object.__class__") = some true
  hm : PySem.W.mroIn K C (.type "object") = some true
theorem kit_own {K : PySem.W.Frag} {C D : Addr} {v : Bool} (t : PySem.W.typeIn K (.ref C) = some (.type "type")) (i : PySem.W.isClsIn K C = true) (s : PySem.W.subIn K (.ref C) (.ref C) = some true) (h : PySem.W.subIn K (.ref D) (.ref C) = some v) : PySem.W.kitOne K (.ref D) (.ref C) = some v := by
  unfold PySem.W.kitOne
  by_cases e : D = C
  · subst e
    rw [s] at h
    rw [if_pos (by simp), h]
  · rw [if_neg (by simpa using e)]
    unfold PySem.W.isClsIn at i
    unfold PySem.W.kitCls
    dsimp only
    rw [t, if_pos (by rw [show (PySem.W.clsIn K C).isSome = true from i]; decide), h]
theorem l_isC {K : PySem.W.Frag} {H : Hp} {Q : VK} {p C D dx : Addr} {fs : List (Str × V)} {b : Bool} (h : H p = some (.ins D dx fs)) (c : IsC K D) (e : PySem.W.kitOne K (.ref D) (.ref C) = some b) (k : Q (.bl b) H) : rIsi K [.ref p, .ref C] H Q :=
  ⟨.ref p, .ref C, .ref D, .ref C, b, rfl, .own C, .base (.ins h c.cl c.ha c.hn c.htk c.hm), e, k⟩
/-! f-strings -/
def fmtK (Q : VK) (x : V) (H1 : Hp) : Prop := (∃ y : Str, x = .str y ∧ y.length ≤ sizeLine ∧ Q (.str y) H1) ∨ ∃ i : Int, x = .int i ∧ i.natAbs.log2 < 1920 ∧ Q (.str (toString i)) H1
def jsK (ts : List TE) (acc : Str) (σ : L2.St) (Q : Str → Hp → Prop) (x : V) (H1 : Hp) : Prop := ∃ y : Str, x = .str y ∧ (acc ++ y).length ≤ sizeLine ∧ tJs ts (acc ++ y) σ H1 Q
def tJn (ts : List TE) : TE := fun σ H Q => tJs ts Str.empty σ H fun out H1 => Q (.str out) H1
theorem pe_joinedN {X : Cx} {v1 v2 : Expr} {rest : List Expr} {ts : List TE} {pos : Pos} (h : PJ X (v1 :: v2 :: rest) ts) : PE X (.JoinedStr (v1 :: v2 :: rest) pos) (tJn ts) := pe_joined h
section
variable {K : PySem.W.Frag} {σ : L2.St} {H : Hp} {Q : VK} {te : TE} {ts : List TE} {acc : Str} {R : Str → Hp → Prop}
theorem w_fmt (k : te σ H fun x H1 => fmtK Q x H1) : tFmt te σ H Q := k
theorem w_jn (k : tJs ts Str.empty σ H fun out H1 => Q (.str out) H1) : tJn ts σ H Q := k
theorem w_js (k : te σ H fun x H1 => jsK ts acc σ R x H1) : tJs (te :: ts) acc σ H R := k
theorem w_js0 (k : R acc H) : tJs [] acc σ H R := k
theorem l_fmtS {y : Str} (hz : y.length ≤ 100000) (k : Q (.str y) H) : fmtK Q (.str y) H := .inl ⟨y, rfl, sz hz, k⟩
theorem l_fmtI {i : Int} (h : i.natAbs.log2 < 1920) (k : Q (.str (toString i)) H) : fmtK Q (.int i) H := .inr ⟨i, rfl, h, k⟩
theorem l_js {y : Str} (hz : (acc ++ y).length ≤ 100000) (k : tJs ts (acc ++ y) σ H R) : jsK ts acc σ R (.str y) H := ⟨y, rfl, sz hz, k⟩
end
/-! split, int(text) -/
def rSplit : V → List V → Hp → VK → Prop := fun x xs H Q => ∃ a b, x = .str a ∧ xs = [.str b] ∧ (b.length == 0) = false ∧ a.length + 2 ≤ sizeLine ∧ rNewStrs (Txt.split a b) H Q
theorem pe_splitK {X : Cx} {o e : Expr} {to te : TE} {apos pos : Pos} (ho : PE X o to) (he : PE X e te) (hs : starEach [e] X.env = [(false, eval e X.env)] := by rfl) (hbase : attributeBase o "split" X.env (eval o X.env) = eval o X.env := by rfl) (hline : (apos.endLine == pos.line) = true := by rfl) :
    PE X (.Call (.Attribute o "split" apos) [e] [] pos) (tM1 rSplit to te) := pe_split ho he hs hbase hline
theorem l_split {a b : Str} {H : Hp} {Q : VK} {ys : List Str} (h : Txt.split a b = ys) (hb : (b.length == 0) = false) (hz : a.length ≤ 90000) (k : ∀ p H', H p = none → Ex H H' → H' p = some (.lst (ys.map V.str)) → Q (.ref p) H') : rSplit (.str a) [.str b] H Q :=
  ⟨a, b, rfl, rfl, hb, sz (by omega), fun p hp => by rw [h]; exact k p _ hp (Evl.Ex.new hp) upd_same⟩
def rIntT : List V → Hp → VK → Prop := fun xs H Q => ∃ a n, xs = [.str a] ∧ PySem.intText? a = some n ∧ a.length ≤ 640 ∧ Q (.int n) H
theorem call_intT {X : Cx} : CallR X (.type "int") rIntT := call_int_str
theorem l_intT {a : Str} {n : Int} {H : Hp} {Q : VK} (h : PySem.intText? a = some n) (hz : a.length ≤ 640) (k : Q (.int n) H) : rIntT [.str a] H Q := ⟨a, n, rfl, h, hz, k⟩
end LM
namespace LW
open PySem PySem.Spec PyProof.Rows L2 LM
/-! what things are: numbers of signs, signs, words -/
def isNum : V → Bool
  | .int _ => true
  | _ => false
def signOk (q : Int) : V → Bool
  | .int i => decide (0 ≤ i) && decide (i < q)
  | _ => false
/-- the signs ns are ones over q -/
def Sg (q : Int) (ns : List Int) : Prop := ∀ n ∈ ns, 0 ≤ n ∧ n < q
/-- v is the word ns over q -/
def Wd (K : PySem.W.Frag) (H : Hp) (q : Int) (v : V) (ns : List Int) : Prop := ∃ a, v = .ref a ∧ SqT K H a (ns.map V.int) ∧ ns.length ≤ 60 ∧ Sg q ns
theorem Wd.mono {K : PySem.W.Frag} {H H' : Hp} {q : Int} {v : V} {ns : List Int} (e : Ex H H') (h : Wd K H q v ns) : Wd K H' q v ns := by
  obtain ⟨a, e1, h1, h2⟩ := h
  exact ⟨a, e1, Evl.ex_t e h1, h2⟩
theorem Sg.append {q : Int} {xs ys : List Int} (h : Sg q xs) (h2 : Sg q ys) : Sg q (xs ++ ys) := fun n m => (List.mem_append.mp m).elim (h n) (h2 n)
theorem Sg.take {q : Int} {xs : List Int} (h : Sg q xs) (k : Nat) : Sg q (xs.take k) := fun n m => h n (List.mem_of_mem_take m)
theorem Sg.drop {q : Int} {xs : List Int} (h : Sg q xs) (k : Nat) : Sg q (xs.drop k) := fun n m => h n (List.mem_of_mem_drop m)
theorem cut_to {xs : List V} {k : Nat} (h : k ≤ xs.length) : cutV xs none (some (k : Int)) = xs.take k := by
  have e : HT.sIx xs.length xs.length (some (k : Int)) = k := by
    unfold HT.sIx
    simp only [show ¬ ((k : Int) < 0) by omega, if_false, Int.toNat_natCast]
    omega
  unfold cutV
  rw [e]
  show (xs.drop 0).take (k - 0) = _
  simp
theorem cut_from {xs : List V} {k : Nat} (h : k ≤ xs.length) : cutV xs (some (k : Int)) none = xs.drop k := by
  have e : HT.sIx xs.length 0 (some (k : Int)) = k := by
    unfold HT.sIx
    simp only [show ¬ ((k : Int) < 0) by omega, if_false, Int.toNat_natCast]
    omega
  unfold cutV
  rw [e]
  show (xs.drop k).take (xs.length - k) = _
  rw [List.take_of_length_le (by simp)]
/-- a pot: a list of two whole numbers -/
def Pot (H : Hp) (p : Addr) : Prop := ∃ n s : Int, H p = some (.lst [.int n, .int s]) ∧ 0 ≤ n ∧ 0 ≤ s ∧ s < 2147483647
theorem Pot.mono {H H' : Hp} {p : Addr} (e : Ex H H') (h : Pot H p) : Pot H' p := by
  obtain ⟨n, s, h1, h2⟩ := h
  exact ⟨n, s, e _ _ h1, h2⟩
/-- a comprehension of digits: the pot at p goes on, acc holds signs over q -/
def PvD (p : Addr) (q : Int) (H : Hp) : Addr → Nat → List V → Hp → Prop := fun D i acc H1 => p ≠ D ∧ ExB p H H1 ∧ Pot H1 p ∧ ∃ ns : List Int, acc = ns.map V.int ∧ ns.length = i ∧ Sg q ns
theorem Pot.exB {H1 H2 : Hp} {p a : Addr} (e : ExB a H1 H2) (n : p ≠ a) (h : Pot H1 p) : Pot H2 p := by
  obtain ⟨n3, s3, h3, b3⟩ := h
  exact ⟨n3, s3, e _ _ n h3, b3⟩
theorem Pot.lst {H : Hp} {p : Addr} (h : Pot H p) : ∃ ys, H p = some (.lst ys) := by
  obtain ⟨n3, s3, h3, b3⟩ := h
  exact ⟨_, h3⟩
theorem Pot.t {K : PySem.W.Frag} {H H' : Hp} {p a : Addr} {xs : List V} (h : Pot H p) (e : ExB p H H') (q : SqT K H a xs) : SqT K H' a xs := by
  obtain ⟨ys, hy⟩ := h.lst
  exact exB_t e hy q
theorem Wd.pot {K : PySem.W.Frag} {H H' : Hp} {p : Addr} {q : Int} {v : V} {ns : List Int} (hp : Pot H p) (e : ExB p H H') (h : Wd K H q v ns) : Wd K H' q v ns := by
  obtain ⟨a, e1, h1, h2⟩ := h
  exact ⟨a, e1, hp.t e h1, h2⟩
/-- whole numbers as data -/
theorem dp_ints {K : PySem.W.Frag} {H : Hp} : ∀ ns : List Int, DpAll K H (ns.map V.int) (ns.map PyData.int)
  | [] => .nil
  | n :: ns => .cons (.int n) (dp_ints ns)
theorem lay_ints : ∀ ns : List Int, PyData.canLayAll0 (ns.map PyData.int) = true
  | [] => rfl
  | n :: ns => by
    show (PyData.canLay0 (.int n) && PyData.canLayAll0 (ns.map PyData.int)) = true
    rw [lay_ints ns]; rfl
theorem depth_ints : ∀ ns : List Int, PyData.depthAll (ns.map PyData.int) = 0
  | [] => rfl
  | n :: ns => by
    show max (PyData.depth (.int n)) (PyData.depthAll (ns.map PyData.int)) = 0
    rw [depth_ints ns]; rfl
theorem layT_ints (ns : List Int) : PyData.canLay0 (.tuple (ns.map PyData.int)) = true := by
  show PyData.canLayAll0 (ns.map PyData.int) = true
  exact lay_ints ns
theorem shaped_ints (ns : List Int) : SeqAt.shaped (.tuple (ns.map PyData.int)) = true := by
  show (PyData.canLay0 (.tuple (ns.map PyData.int)) && decide (PyData.depthAll (ns.map PyData.int) + 1 ≤ 64)) = true
  rw [depth_ints, layT_ints]; rfl
theorem eqv_ints : ∀ xs ys : List Int, PyData.eqvAll (xs.map PyData.int) (ys.map PyData.int) = decide (xs = ys)
  | [], [] => by simp [PyData.eqvAll]
  | [], y :: ys => by simp [PyData.eqvAll]
  | x :: xs, [] => by simp [PyData.eqvAll]
  | x :: xs, y :: ys => by
    show (PyData.eqv (.int x) (.int y) && PyData.eqvAll (xs.map PyData.int) (ys.map PyData.int)) = _
    rw [eqv_ints xs ys]
    show ((x == y) && decide (xs = ys)) = decide (x :: xs = y :: ys)
    by_cases h1 : x = y <;> by_cases h2 : xs = ys <;> simp [h1, h2]
theorem eqvT_ints (xs ys : List Int) : PyData.eqv (.tuple (xs.map PyData.int)) (.tuple (ys.map PyData.int)) = decide (xs = ys) := by
  show PyData.eqvAll (xs.map PyData.int) (ys.map PyData.int) = _
  exact eqv_ints xs ys
theorem Sg.nil {q : Int} : Sg q [] := fun n m => by cases m
theorem at_int {ns : List Int} {i : Nat} {z : V} (h : (ns.map V.int)[i]? = some z) : i < ns.length ∧ z = .int (ns.getD i 0) := by
  rw [List.getElem?_map] at h
  cases e : ns[i]? with
  | none => rw [e] at h; cases h
  | some y =>
    rw [e] at h
    have hi := (List.getElem?_eq_some_iff.mp e).1
    exact ⟨hi, by rw [← Option.some.inj h]; simp [List.getD, e]⟩
theorem cut_ints (ns : List Int) (lo hi : Option Int) : ∃ ms : List Int, cutV (ns.map V.int) lo hi = ms.map V.int ∧ ms.length ≤ ns.length ∧ ∀ m ∈ ms, m ∈ ns := by
  refine ⟨(ns.drop (HT.sIx (ns.map V.int).length 0 lo)).take (HT.sIx (ns.map V.int).length (ns.map V.int).length hi - HT.sIx (ns.map V.int).length 0 lo), ?_, ?_, ?_⟩
  · unfold cutV
    rw [List.map_take, List.map_drop]
  · rw [List.length_take, List.length_drop]; omega
  · intro m hm
    exact List.mem_of_mem_drop (List.mem_of_mem_take hm)
/-- all of xs are words over q -/
def Ws (K : PySem.W.Frag) (H : Hp) (q : Int) (xs : List V) : Prop := ∀ x ∈ xs, ∃ ns, Wd K H q x ns
theorem Ws.mono {K : PySem.W.Frag} {H H' : Hp} {q : Int} {xs : List V} (e : Ex H H') (h : Ws K H q xs) : Ws K H' q xs := fun x m => by
  obtain ⟨ns, w⟩ := h x m
  exact ⟨ns, w.mono e⟩
theorem Ws.exB {K : PySem.W.Frag} {H H' : Hp} {q : Int} {xs : List V} {p : Addr} {ys : List V} (e : ExB p H H') (hp : H p = some (.lst ys)) (h : Ws K H q xs) : Ws K H' q xs := fun x m => by
  obtain ⟨ns, a, e1, h1, h2⟩ := h x m
  exact ⟨ns, a, e1, exB_t e hp h1, h2⟩
theorem Ws.nil {K : PySem.W.Frag} {H : Hp} {q : Int} : Ws K H q [] := fun _ m => by cases m
theorem Ws.cons {K : PySem.W.Frag} {H : Hp} {q : Int} {x : V} {xs : List V} {ns : List Int} (w : Wd K H q x ns) (h : Ws K H q xs) : Ws K H q (x :: xs) := fun y m => by
  rcases List.mem_cons.mp m with rfl | m
  · exact ⟨ns, w⟩
  · exact h y m
theorem Ws.append {K : PySem.W.Frag} {H : Hp} {q : Int} {xs ys : List V} (h : Ws K H q xs) (h2 : Ws K H q ys) : Ws K H q (xs ++ ys) := fun x m => (List.mem_append.mp m).elim (h x) (h2 x)
/-- a comprehension of words drawn by the pot at p -/
def PvW (K : PySem.W.Frag) (p : Addr) (q : Int) (H : Hp) : Addr → Nat → List V → Hp → Prop := fun D i acc H1 => p ≠ D ∧ ExB p H H1 ∧ Pot H1 p ∧ Ws K H1 q acc ∧ acc.length = i
/-! weighted sums -/
def wsum (ns : List Int) : Int := ((List.range ns.length).map fun (i : Nat) => ((i : Int) + 1) * ns.getD i 0).sum
theorem wsum_nil : wsum [] = 0 := rfl
theorem wsum_snoc (xs : List Int) (x : Int) : wsum (xs ++ [x]) = wsum xs + ((xs.length : Int) + 1) * x := by
  unfold wsum
  rw [List.length_append, List.length_singleton, List.range_succ, List.map_append, List.sum_append]
  have h1 : (List.range xs.length).map (fun (i : Nat) => ((i : Int) + 1) * (xs ++ [x]).getD i 0) = (List.range xs.length).map (fun (i : Nat) => ((i : Int) + 1) * xs.getD i 0) := by
    refine List.map_congr_left fun i hi => ?_
    have := List.mem_range.mp hi
    simp [List.getD, List.getElem?_append_left this]
  rw [h1]
  simp [List.getD]
theorem snoc_ind {α : Type} {P : List α → Prop} (h0 : P []) (h1 : ∀ xs x, P xs → P (xs ++ [x])) (xs : List α) : P xs := by
  rw [← List.reverse_reverse xs]
  induction xs.reverse with
  | nil => exact h0
  | cons x t ih => rw [List.reverse_cons]; exact h1 _ _ ih
theorem wsum_append (xs ys : List Int) : wsum (xs ++ ys) = wsum xs + wsum ys + (xs.length : Int) * ys.sum := by
  refine snoc_ind (P := fun ys => wsum (xs ++ ys) = wsum xs + wsum ys + (xs.length : Int) * ys.sum) (by simp [wsum_nil]) (fun ys y ih => ?_) ys
  rw [← List.append_assoc, wsum_snoc, ih, wsum_snoc, List.sum_append, List.length_append]
  simp [Int.mul_add, Int.add_mul]
  omega
theorem wsum_zeros : ∀ k : Nat, wsum (List.replicate k 0) = 0
  | 0 => rfl
  | k + 1 => by rw [List.replicate_succ', wsum_snoc, wsum_zeros k]; simp
/-- a comprehension of whole numbers f i, by the turn -/
def PvI (H : Hp) (f : Nat → Int) : Addr → Nat → List V → Hp → Prop := fun _ i acc H1 => Ex H H1 ∧ acc = ((List.range i).map f).map V.int
/-- the shape of a word -/
def shp (ns : List Int) : List Int := (List.range (ns.length - 1)).map fun (i : Nat) => if ns.getD i 0 ≤ ns.getD (i + 1) 0 then 1 else 0
theorem shp_len (ns : List Int) : (shp ns).length = ns.length - 1 := by unfold shp; simp
theorem shp_sg (ns : List Int) : ∀ n ∈ shp ns, 0 ≤ n ∧ n < 2 := fun n h => by
  obtain ⟨i, _, rfl⟩ := List.mem_map.mp h
  split <;> omega
/-- a many list's object -/
def ML (K : PySem.W.Frag) (H : Hp) (v : V) (q n a b : Int) : Prop := ∃ t, Ins K H v "ManyList" [("many_signs", .int q), ("many", .int n), ("both_left", .ref t)] ∧ SqT K H t [.int a, .int b]
theorem ML.mono {K : PySem.W.Frag} {H H' : Hp} {v : V} {q n a b : Int} (e : Ex H H') (h : ML K H v q n a b) : ML K H' v q n a b := by
  obtain ⟨t, h1, h2⟩ := h
  exact ⟨t, h1.mono e, Evl.ex_t e h2⟩
theorem ML.exB {K : PySem.W.Frag} {H H' : Hp} {v : V} {q n a b : Int} {p : Addr} {ys : List V} (e : ExB p H H') (hp : H p = some (.lst ys)) (h : ML K H v q n a b) : ML K H' v q n a b := by
  obtain ⟨t, h1, h2⟩ := h
  exact ⟨t, h1.exB e hp, exB_t e hp h2⟩
/-- a word's belonging to the many list -/
def inML (q n a b : Int) (w : List Int) : Bool := decide ((w.length : Int) = n) && decide ([wsum (shp w) % n, w.sum % q] = [a, b])
/-- a plain list's object -/
def PL (K : PySem.W.Frag) (H : Hp) (v : V) (n a : Int) : Prop := Ins K H v "PlainList" [("many", .int n), ("left", .int a)]
/-! lists of words -/
/-- x is a tuple of these whole numbers -/
def Wt (K : PySem.W.Frag) (H : Hp) (x : V) (w : List Int) : Prop := ∃ b, x = .ref b ∧ SqT K H b (w.map V.int)
theorem Wt.mono {K : PySem.W.Frag} {H H' : Hp} {x : V} {w : List Int} (e : Ex H H') (h : Wt K H x w) : Wt K H' x w := by
  obtain ⟨b, e1, h1⟩ := h
  exact ⟨b, e1, Evl.ex_t e h1⟩
theorem Wt.exB {K : PySem.W.Frag} {H H' : Hp} {x : V} {w : List Int} {p : Addr} {ys : List V} (e : ExB p H H') (hp : H p = some (.lst ys)) (h : Wt K H x w) : Wt K H' x w := by
  obtain ⟨b, e1, h1⟩ := h
  exact ⟨b, e1, exB_t e hp h1⟩
abbrev Wts (K : PySem.W.Frag) (H : Hp) : List V → List (List Int) → Prop := Paired (Wt K H)
theorem Wts.mono {K : PySem.W.Frag} {H H' : Hp} {xs : List V} {ws : List (List Int)} (e : Ex H H') (h : Wts K H xs ws) : Wts K H' xs ws := Paired.mapP h fun _ _ w => Wt.mono e w
theorem Wts.exB {K : PySem.W.Frag} {H H' : Hp} {xs : List V} {ws : List (List Int)} {p : Addr} {ys : List V} (e : ExB p H H') (hp : H p = some (.lst ys)) (h : Wts K H xs ws) : Wts K H' xs ws := Paired.mapP h fun _ _ w => Wt.exB e hp w
theorem pd_app {α β : Type} {F : α → β → Prop} : ∀ {xs xs' : List α} {ys ys' : List β}, Paired F xs ys → Paired F xs' ys' → Paired F (xs ++ xs') (ys ++ ys')
  | _, _, _, _, .nil, s => s
  | _, _, _, _, .cons r t, s => .cons r (pd_app t s)
theorem pd_at {α β : Type} {F : α → β → Prop} : ∀ {xs : List α} {ys : List β} {i : Nat} {x : α}, Paired F xs ys → xs[i]? = some x → ∃ y, ys[i]? = some y ∧ F x y
  | _, _, _, _, .nil, e => by simp at e
  | _, _, 0, _, .cons r _, e => by simp at e; subst e; exact ⟨_, rfl, r⟩
  | _, _, i + 1, x, .cons _ t, e => by
    obtain ⟨u, h1, h2⟩ := pd_at (i := i) (x := x) t (by simpa using e)
    exact ⟨u, by simpa using h1, h2⟩
theorem pd_at2 {α β : Type} {F : α → β → Prop} : ∀ {xs : List α} {ys : List β} {i : Nat} {y : β}, Paired F xs ys → ys[i]? = some y → ∃ x, xs[i]? = some x ∧ F x y
  | _, _, _, _, .nil, e => by simp at e
  | _, _, 0, _, .cons r _, e => by simp at e; subst e; exact ⟨_, rfl, r⟩
  | _, _, i + 1, x, .cons _ t, e => by
    obtain ⟨u, h1, h2⟩ := pd_at2 (i := i) (y := x) t (by simpa using e)
    exact ⟨u, by simpa using h1, h2⟩
theorem take_at {α : Type} {l : List α} {i : Nat} {x : α} (h : l[i]? = some x) : l.take (i + 1) = l.take i ++ [x] := by rw [List.take_succ, h]; rfl
/-- a word as data -/
def wD (w : List Int) : PyData := .tuple (w.map PyData.int)
theorem dp_words {K : PySem.W.Frag} {H : Hp} : ∀ {xs : List V} {ws : List (List Int)}, Wts K H xs ws → DpAll K H xs (ws.map wD)
  | _, _, .nil => .nil
  | _, _, .cons ⟨b, e, h⟩ t => by
    subst e
    exact .cons (.tup h (dp_ints _)) (dp_words t)
theorem lay_words : ∀ ws : List (List Int), PyData.canLayAll0 (ws.map wD) = true
  | [] => rfl
  | w :: ws => by
    show (PyData.canLay0 (wD w) && PyData.canLayAll0 (ws.map wD)) = true
    rw [lay_words ws, show PyData.canLay0 (wD w) = true from layT_ints w]; rfl
theorem depth_words : ∀ ws : List (List Int), PyData.depthAll (ws.map wD) ≤ 1
  | [] => by decide
  | w :: ws => by
    show max (PyData.depthAll (w.map PyData.int) + 1) (PyData.depthAll (ws.map wD)) ≤ 1
    have := depth_words ws
    rw [depth_ints]; omega
theorem shaped_words (ws : List (List Int)) : SeqAt.shaped (.list (ws.map wD)) = true := by
  show (PyData.canLayAll0 (ws.map wD) && decide (PyData.depthAll (ws.map wD) + 1 ≤ 64)) = true
  have := depth_words ws
  rw [lay_words, Bool.true_and]; exact decide_eq_true (by omega)
theorem eqv_words : ∀ xs ys : List (List Int), PyData.eqvAll (xs.map wD) (ys.map wD) = decide (xs = ys)
  | [], [] => by simp [PyData.eqvAll]
  | [], y :: ys => by simp [PyData.eqvAll]
  | x :: xs, [] => by simp [PyData.eqvAll]
  | x :: xs, y :: ys => by
    show (PyData.eqv (wD x) (wD y) && PyData.eqvAll (xs.map wD) (ys.map wD)) = _
    rw [eqv_words xs ys, show PyData.eqv (wD x) (wD y) = decide (x = y) from eqvT_ints x y]
    by_cases h1 : x = y <;> by_cases h2 : xs = ys <;> simp [h1, h2]
theorem eqvL_words (xs ys : List (List Int)) : PyData.eqv (.list (xs.map wD)) (.list (ys.map wD)) = decide (xs = ys) := by
  show PyData.eqvAll (xs.map wD) (ys.map wD) = _
  exact eqv_words xs ys
/-- all words of n signs over q -/
def allW (q : Nat) : Nat → List (List Int)
  | 0 => [[]]
  | n + 1 => (allW q n).flatMap fun w => (List.range q).map fun (s : Nat) => w ++ [((s : Nat) : Int)]
theorem fm_len {α β : Type} {f : α → List β} {m : Nat} : ∀ {l : List α}, (∀ a ∈ l, (f a).length = m) → (l.flatMap f).length = l.length * m
  | [], _ => by simp
  | a :: l, h => by
    rw [List.flatMap_cons, List.length_append, h a (by simp), fm_len fun b hb => h b (by simp [hb]), List.length_cons, Nat.succ_mul, Nat.add_comm]
theorem allW_len (q : Nat) : ∀ n, (allW q n).length = q ^ n
  | 0 => rfl
  | n + 1 => by
    show ((allW q n).flatMap fun w => (List.range q).map fun (s : Nat) => w ++ [((s : Nat) : Int)]).length = _
    rw [fm_len (m := q) fun a _ => by simp, allW_len q n, Nat.pow_succ]
theorem allW_mem {q : Nat} : ∀ {n : Nat} {w : List Int}, w ∈ allW q n ↔ w.length = n ∧ Sg q w
  | 0, w => by
    constructor
    · intro h
      rw [show w = [] from List.mem_singleton.mp h]
      exact ⟨rfl, Sg.nil⟩
    · rintro ⟨h, _⟩
      rw [List.eq_nil_of_length_eq_zero h]
      exact List.mem_singleton.mpr rfl
  | n + 1, w => by
    show w ∈ (allW q n).flatMap _ ↔ _
    rw [List.mem_flatMap]
    constructor
    · rintro ⟨u, hu, hw⟩
      obtain ⟨s, hs, rfl⟩ := List.mem_map.mp hw
      obtain ⟨h1, h2⟩ := allW_mem.mp hu
      have := List.mem_range.mp hs
      exact ⟨by simp [h1], h2.append fun z hz => by rw [List.mem_singleton] at hz; omega⟩
    · rintro ⟨h1, h2⟩
      have hne : w ≠ [] := fun e => by rw [e] at h1; simp at h1
      refine ⟨w.dropLast, allW_mem.mpr ⟨by simp [h1], fun z hz => h2 z ((List.dropLast_sublist w).subset hz)⟩, ?_⟩
      have hl := h2 _ (List.getLast_mem hne)
      refine List.mem_map.mpr ⟨(w.getLast hne).toNat, List.mem_range.mpr (by omega), ?_⟩
      rw [show (((w.getLast hne).toNat : Nat) : Int) = w.getLast hne by omega]
      exact List.dropLast_concat_getLast hne
/-- a word's belonging to the plain list of n, a -/
def inPL (n a : Int) (w : List Int) : Bool := decide ((w.length : Int) = n) && decide (wsum w % (n + 1) = a)
/-- a comprehension over a list of words with a test, each that meets it as it is -/
def PvF (K : PySem.W.Frag) (H : Hp) (p : List Int → Bool) (ws : List (List Int)) : Addr → Nat → List V → Hp → Prop := fun _ i acc H1 => Ex H H1 ∧ Wts K H1 acc ((ws.take i).filter p)
theorem l_lcW {K : PySem.W.Frag} {σ : L2.St} {H : Hp} {Q : VK} {tt : TT} {a : Addr} {xs : List V} {ws : List (List Int)} {j : Nat} {vs : List Nat} (p : List Int → Bool) (h : SqL K H a xs) (hW : Wts K H xs ws) (hz : xs.length < 100000) (hw : ∀ x, wipe ((wipe σ vs).set j (some x)) vs = wipe σ vs)
    (hv : ∀ x, ((wipe σ vs).set j (some x))[j]? = some (some x))
    (ht : ∀ x w H1, w ∈ ws → Wt K H1 x w → Ex H H1 → ∀ Q' : Bool → Hp → Prop, (∀ H2, Ex H1 H2 → Q' (p w) H2) → tt ((wipe σ vs).set j (some x)) H1 Q')
    (hd : ∀ D H1 acc, H D = none → Ex H H1 → H1 D = some (.lst acc) → Wts K H1 acc (ws.filter p) → Q (.ref D) H1) : LcK (gName j) tt (tVar j) vs (Itl K a) σ H Q := by
  refine l_lc walk_list (PvF K H p ws) (fun D H1 n e h1 => ⟨e, .nil⟩) (fun D i acc H1 _ _ p => Evl.ex_l p.1 h) (fun D i acc x H1 H2 hn hi h1 q y => ?_) (fun D acc H1 hn h1 q => ?_)
  · obtain ⟨rfl, hx⟩ := y
    obtain ⟨e, hq⟩ := q
    obtain ⟨w, hw2, hwt⟩ := pd_at hW hx
    refine ⟨hw x, ?_⟩
    refine ht x w _ (List.mem_of_getElem? hw2) (hwt.mono e) e _ fun H3 e3 => ?_
    refine ifb (fun c => ?_) (fun c => ?_)
    · refine w_var (hv x) ?_
      refine lc_end (Pv := PvF K H p ws) (e3 _ _ h1) (by
        have := Paired.length hq
        have h2 : ((ws.take i).filter p).length ≤ (ws.take i).length := List.length_filter_le ..
        rw [List.length_take] at h2
        omega) fun H6 e6 h6 => ⟨ExB.new (e.trans e3) e6 hn, ?_⟩
      rw [take_at hw2, List.filter_append, List.filter_cons, c]
      exact Wts.exB e6 (e3 _ _ h1) (pd_app (Wts.mono e3 hq) (.cons (hwt.mono (e.trans e3)) .nil))
    · refine lc_not (Pv := PvF K H p ws) (e3 _ _ h1) ⟨e.trans e3, ?_⟩
      rw [take_at hw2, List.filter_append, List.filter_cons, c]
      simpa using Wts.mono e3 hq
  · obtain ⟨e, hq⟩ := q
    rw [Paired.length hW, List.take_length] at hq
    exact hd D H1 acc hn e h1 hq
/-! rows of counts: j places (the last ones) to go, each sum's rest by `by` -/
def Dn (m n : Nat) : Nat → Int → Int
  | 0, r => if r = 0 then 1 else 0
  | j + 1, r => Dn m n j r + Dn m n j ((r - ((n - j : Nat) : Int)) % (m : Int))
def drow (m n j : Nat) : List Int := (List.range m).map fun (r : Nat) => Dn m n j (r : Int)
theorem drow_len (m n j : Nat) : (drow m n j).length = m := by unfold drow; simp
theorem drow_at {m n j : Nat} {r : Int} (h0 : 0 ≤ r) (h1 : r < m) : atI ((drow m n j).map V.int) r = some (.int (Dn m n j r)) := by
  rw [show r = ((r.toNat : Nat) : Int) by omega]
  refine atI_nat ?_
  unfold drow
  rw [List.getElem?_map, List.getElem?_map, List.getElem?_range (by omega)]
  rfl
/-- a list of rows at f, k by k: lists that H0 does not know -/
def Rows (H0 H : Hp) (f : Addr) (m n : Nat) (js : List Nat) (xs : List V) : Prop := Paired (fun x j => ∃ b, x = V.ref b ∧ b ≠ f ∧ H0 b = none ∧ H b = some (.lst ((drow m n j).map V.int))) xs js
theorem Rows.mono {H0 H H' : Hp} {f : Addr} {m n : Nat} {js : List Nat} {xs : List V} (e : Ex H H') (h : Rows H0 H f m n js xs) : Rows H0 H' f m n js xs := Paired.mapP h fun _ _ ⟨b, e1, n1, n2, h1⟩ => ⟨b, e1, n1, n2, e _ _ h1⟩
theorem Rows.exB {H0 H H' : Hp} {f : Addr} {m n : Nat} {js : List Nat} {xs : List V} (e : ExB f H H') (h : Rows H0 H f m n js xs) : Rows H0 H' f m n js xs := Paired.mapP h fun _ _ ⟨b, e1, n1, n2, h1⟩ => ⟨b, e1, n1, n2, e _ _ n1 h1⟩
theorem pd_rev {α β : Type} {F : α → β → Prop} : ∀ {xs : List α} {ys : List β}, Paired F xs ys → Paired F xs.reverse ys.reverse
  | _, _, .nil => .nil
  | _, _, .cons r t => by
    rw [List.reverse_cons, List.reverse_cons]
    exact pd_app (pd_rev t) (.cons r .nil)
theorem row0 (m n : Nat) (hm : 1 ≤ m) : [V.int 1] ++ (List.replicate (m - 1) [V.int 0]).flatten = (drow m n 0).map V.int := by
  obtain ⟨k, rfl⟩ : ∃ k, m = k + 1 := ⟨m - 1, by omega⟩
  unfold drow
  rw [List.range_succ_eq_map, List.flatten_replicate_singleton]
  simp only [List.map_cons, List.map_map, List.cons_append, List.nil_append, Nat.add_sub_cancel]
  show V.int 1 :: _ = V.int 1 :: _
  congr 1
  refine (List.eq_replicate_iff.mpr ⟨by simp, fun b hb => ?_⟩).symm
  obtain ⟨i, _, rfl⟩ := List.mem_map.mp hb
  have : ((i + 1 : Nat) : Int) ≠ 0 := by omega
  simp only [Function.comp]
  show V.int (if (((i + 1 : Nat)) : Int) = 0 then 1 else 0) = V.int 0
  rw [if_neg this]
/-! the same counts, the places in another order -/
def Tp (m : Nat) (p : Int) (f : Int → Int) : Int → Int := fun r => f r + f ((r - p) % (m : Int))
def Gp (m : Nat) : List Int → Int → Int
  | [] => fun r => if r = 0 then 1 else 0
  | p :: ps => Tp m p (Gp m ps)
theorem Tp_comm (m : Nat) (p q : Int) (f : Int → Int) : Tp m p (Tp m q f) = Tp m q (Tp m p f) := by
  funext r
  have e : ((r - p) % (m : Int) - q) % (m : Int) = ((r - q) % (m : Int) - p) % (m : Int) := by
    rw [Int.emod_sub_emod, Int.emod_sub_emod]
    congr 1
    omega
  unfold Tp
  show f r + f ((r - q) % m) + (f ((r - p) % m) + f (((r - p) % m - q) % m)) = f r + f ((r - p) % m) + (f ((r - q) % m) + f (((r - q) % m - p) % m))
  rw [e]
  omega
theorem Gp_perm (m : Nat) {l l' : List Int} (h : l.Perm l') : Gp m l = Gp m l' := by
  induction h with
  | nil => rfl
  | cons x _ ih => show Tp m x _ = Tp m x _; rw [ih]
  | swap x y l => exact Tp_comm m y x _
  | trans _ _ h1 h2 => exact h1.trans h2
def Fn (m : Nat) : Nat → Int → Int
  | 0, r => if r = 0 then 1 else 0
  | j + 1, r => Fn m j r + Fn m j ((r - ((j + 1 : Nat) : Int)) % (m : Int))
def frow (m j : Nat) : List Int := (List.range m).map fun (r : Nat) => Fn m j (r : Int)
theorem Fn_G (m : Nat) : ∀ j, Fn m j = Gp m (((List.range j).map fun (i : Nat) => ((i + 1 : Nat) : Int)).reverse)
  | 0 => rfl
  | j + 1 => by
    rw [List.range_succ, List.map_append, List.reverse_append]
    show Tp m ((j + 1 : Nat) : Int) (Fn m j) = Tp m ((j + 1 : Nat) : Int) _
    rw [Fn_G m j]; rfl
theorem Dn_G (m n : Nat) : ∀ j, Dn m n j = Gp m (((List.range j).map fun (i : Nat) => ((n - i : Nat) : Int)).reverse)
  | 0 => rfl
  | j + 1 => by
    rw [List.range_succ, List.map_append, List.reverse_append]
    show Tp m ((n - j : Nat) : Int) (Dn m n j) = Tp m ((n - j : Nat) : Int) _
    rw [Dn_G m n j]; rfl
theorem Dn_Fn (m n : Nat) : Dn m n n = Fn m n := by
  rw [Dn_G, Fn_G]
  refine Gp_perm m ?_
  have e : (List.range n).map (fun (i : Nat) => ((n - i : Nat) : Int)) = ((List.range n).map fun (i : Nat) => ((i + 1 : Nat) : Int)).reverse := by
    refine List.ext_getElem (by simp) fun i h1 h2 => ?_
    simp only [List.getElem_map, List.getElem_range, List.getElem_reverse, List.length_map, List.length_range]
    simp only [List.length_map, List.length_range] at h1
    omega
  rw [e]
  exact (List.reverse_perm _)
theorem drow_frow (n : Nat) : drow (n + 1) n n = frow (n + 1) n := by unfold drow frow; rw [Dn_Fn]
theorem frow_len (m j : Nat) : (frow m j).length = m := by unfold frow; simp
theorem frow_at {m j : Nat} {r : Int} (h0 : 0 ≤ r) (h1 : r < m) : atI ((frow m j).map V.int) r = some (.int (Fn m j r)) := by
  rw [show r = ((r.toNat : Nat) : Int) by omega]
  refine atI_nat ?_
  unfold frow
  rw [List.getElem?_map, List.getElem?_map, List.getElem?_range (by omega)]
  rfl
theorem frow0 (m : Nat) (hm : 1 ≤ m) : [V.int 1] ++ (List.replicate (m - 1) [V.int 0]).flatten = (frow m 0).map V.int := row0 m 0 hm
/-- how many of the words have a sum that leaves r by m -/
def cnt (m : Nat) (r : Int) (ws : List (List Int)) : Nat := ws.countP fun w => decide (wsum w % (m : Int) = r)
theorem countP_two {α β : Type} {p : β → Bool} {f g : α → β} : ∀ l : List α, (l.flatMap fun w => [f w, g w]).countP p = l.countP (fun w => p (f w)) + l.countP fun w => p (g w)
  | [] => rfl
  | a :: l => by
    rw [List.flatMap_cons, List.countP_append, countP_two l, List.countP_cons, List.countP_cons, List.countP_cons, List.countP_cons, List.countP_nil]
    omega
theorem cnt_Fn (m : Nat) (hm : 1 ≤ m) : ∀ (j : Nat) (r : Int), 0 ≤ r → r < m → ((cnt m r (allW 2 j) : Nat) : Int) = Fn m j r
  | 0, r, h0, h1 => by
    show ((([[]] : List (List Int)).countP _ : Nat) : Int) = if r = 0 then 1 else 0
    rw [List.countP_cons, List.countP_nil, wsum_nil, Int.zero_emod]
    by_cases h : r = 0
    · rw [if_pos h, h]; simp
    · rw [if_neg h, decide_eq_false (Ne.symm h)]; simp
  | j + 1, r, h0, h1 => by
    have e : allW 2 (j + 1) = (allW 2 j).flatMap fun w => [w ++ [0], w ++ [1]] := rfl
    unfold cnt
    rw [e, countP_two]
    show (((_ + _ : Nat)) : Int) = Fn m j r + Fn m j ((r - ((j + 1 : Nat) : Int)) % (m : Int))
    have q0 := Int.emod_nonneg (r - ((j + 1 : Nat) : Int)) (show (m : Int) ≠ 0 by omega)
    have q1 := Int.emod_lt_of_pos (r - ((j + 1 : Nat) : Int)) (show (0 : Int) < (m : Int) by omega)
    rw [← cnt_Fn m hm j r h0 h1, ← cnt_Fn m hm j _ q0 q1]
    have a1 : (allW 2 j).countP (fun w => decide (wsum (w ++ [0]) % (m : Int) = r)) = cnt m r (allW 2 j) := by
      unfold cnt
      refine List.countP_congr fun w _ => ?_
      rw [wsum_snoc, Int.mul_zero, Int.add_zero]
    have a2 : (allW 2 j).countP (fun w => decide (wsum (w ++ [1]) % (m : Int) = r)) = cnt m ((r - ((j + 1 : Nat) : Int)) % (m : Int)) (allW 2 j) := by
      unfold cnt
      refine List.countP_congr fun w hw => ?_
      have hl := (allW_mem.mp hw).1
      rw [wsum_snoc, Int.mul_one, hl, decide_eq_true_iff, decide_eq_true_iff]
      constructor
      · intro h
        rw [← h, Int.emod_sub_emod]
        congr 1
        omega
      · intro h
        have h' : wsum w % (m : Int) = (r - ((j + 1 : Nat) : Int)) % (m : Int) := h
        rw [← Int.emod_add_emod, h', Int.emod_add_emod]
        rw [show r - ((j + 1 : Nat) : Int) + ((j : Int) + 1) = r by omega]
        exact Int.emod_eq_of_lt h0 h1
    rw [a1, a2]
    omega
/-! members by their numbers: words from behind -/
def tsum (b : Int) (w : List Int) : Int := wsum w + b * w.sum
theorem tsum_cons (b s : Int) (w : List Int) : tsum b (s :: w) = (b + 1) * s + tsum (b + 1) w := by
  unfold tsum
  have h := wsum_append [s] w
  rw [show [s] ++ w = s :: w by rfl] at h
  have e : wsum [s] = s := by simp [wsum, List.range_succ]
  rw [h, e, List.sum_cons, Int.mul_add, Int.add_mul, Int.add_mul, Int.one_mul, Int.one_mul]
  simp
  omega
theorem tsum_nil (b : Int) : tsum b [] = 0 := by simp [tsum, wsum_nil]
theorem tsum_zero (w : List Int) : tsum 0 w = wsum w := by unfold tsum; omega
theorem modl {m : Nat} {r p t : Int} (h0 : 0 ≤ r) (h1 : r < m) : (p + t) % (m : Int) = r ↔ t % (m : Int) = (r - p) % (m : Int) := by
  constructor
  · intro h
    rw [← h, Int.emod_sub_emod]
    congr 1
    omega
  · intro h
    rw [Int.add_comm, ← Int.emod_add_emod, h, Int.emod_add_emod, show r - p + p = r by omega]
    exact Int.emod_eq_of_lt h0 h1
def memN (m n : Nat) : Nat → Int → Int → List Int
  | 0, _, _ => []
  | j + 1, r, k => if Dn m n j r ≤ k then 1 :: memN m n j ((r - ((n - j : Nat) : Int)) % (m : Int)) (k - Dn m n j r) else 0 :: memN m n j r k
def numN (m n : Nat) : List Int → Int → Int
  | [], _ => 0
  | s :: w, r => if s = 1 then Dn m n w.length r + numN m n w ((r - ((n - w.length : Nat) : Int)) % (m : Int)) else numN m n w r
theorem memN_ok (m n : Nat) (hm : 1 ≤ m) : ∀ j, j ≤ n → ∀ r k : Int, 0 ≤ r → r < m → 0 ≤ k → k < Dn m n j r → (memN m n j r k).length = j ∧ Sg 2 (memN m n j r k) ∧ tsum ((n - j : Nat) : Int) (memN m n j r k) % (m : Int) = r ∧ numN m n (memN m n j r k) r = k
  | 0, _, r, k, h0, h1, k0, k1 => by
    have k1' : k < if r = 0 then 1 else 0 := k1
    by_cases hr : r = 0
    · rw [if_pos hr] at k1'
      have : k = 0 := by omega
      subst this
      refine ⟨rfl, Sg.nil, ?_, rfl⟩
      show tsum _ [] % _ = _
      rw [tsum_nil, hr]; simp
    · rw [if_neg hr] at k1'; omega
  | j + 1, hj, r, k, h0, h1, k0, k1 => by
    have k1' : k < Dn m n j r + Dn m n j ((r - ((n - j : Nat) : Int)) % (m : Int)) := k1
    have q0 := Int.emod_nonneg (r - ((n - j : Nat) : Int)) (show (m : Int) ≠ 0 by omega)
    have q1 := Int.emod_lt_of_pos (r - ((n - j : Nat) : Int)) (show (0 : Int) < (m : Int) by omega)
    have en : (((n - (j + 1) : Nat)) : Int) + 1 = ((n - j : Nat) : Int) := by omega
    by_cases c : Dn m n j r ≤ k
    · obtain ⟨a1, a2, a3, a4⟩ := memN_ok m n hm j (by omega) _ (k - Dn m n j r) q0 q1 (by omega) (by omega)
      have e : memN m n (j + 1) r k = 1 :: memN m n j ((r - ((n - j : Nat) : Int)) % (m : Int)) (k - Dn m n j r) := if_pos c
      rw [e]
      refine ⟨by rw [List.length_cons, a1], fun x hx => ?_, ?_, ?_⟩
      · rcases List.mem_cons.mp hx with rfl | hx
        · omega
        · exact a2 x hx
      · rw [tsum_cons, en, Int.mul_one]
        exact (modl h0 h1).mpr a3
      · show (if (1 : Int) = 1 then _ else _) = _
        rw [if_pos rfl, a1, a4]; omega
    · obtain ⟨a1, a2, a3, a4⟩ := memN_ok m n hm j (by omega) r k h0 h1 k0 (by omega)
      have e : memN m n (j + 1) r k = 0 :: memN m n j r k := if_neg c
      rw [e]
      refine ⟨by rw [List.length_cons, a1], fun x hx => ?_, ?_, ?_⟩
      · rcases List.mem_cons.mp hx with rfl | hx
        · omega
        · exact a2 x hx
      · rw [tsum_cons, en, Int.mul_zero, Int.zero_add]
        exact a3
      · show (if (0 : Int) = 1 then _ else _) = _
        rw [if_neg (by decide), a4]
theorem Dn_nonneg (m n : Nat) : ∀ j r, 0 ≤ Dn m n j r
  | 0, r => by show 0 ≤ (if r = 0 then (1 : Int) else 0); split <;> decide
  | j + 1, r => Int.add_nonneg (Dn_nonneg m n j r) (Dn_nonneg m n j _)
theorem numN_ok (m n : Nat) (hm : 1 ≤ m) : ∀ w : List Int, w.length ≤ n → Sg 2 w → ∀ r : Int, 0 ≤ r → r < m → tsum ((n - w.length : Nat) : Int) w % (m : Int) = r → 0 ≤ numN m n w r ∧ numN m n w r < Dn m n w.length r ∧ memN m n w.length r (numN m n w r) = w
  | [], _, _, r, h0, h1, ht => by
    rw [tsum_nil] at ht
    have hr : r = 0 := by rw [← ht]; simp
    subst hr
    exact ⟨Int.le_refl _, by show (0 : Int) < (if (0 : Int) = 0 then 1 else 0); decide, rfl⟩
  | s :: w, hl, hs, r, h0, h1, ht => by
    rw [List.length_cons] at hl
    have en : (((n - (w.length + 1) : Nat)) : Int) + 1 = ((n - w.length : Nat) : Int) := by omega
    rw [List.length_cons, tsum_cons, en] at ht
    have q0 := Int.emod_nonneg (r - ((n - w.length : Nat) : Int)) (show (m : Int) ≠ 0 by omega)
    have q1 := Int.emod_lt_of_pos (r - ((n - w.length : Nat) : Int)) (show (0 : Int) < (m : Int) by omega)
    have hs0 := hs s (by simp)
    have hs1 : Sg 2 w := fun x hx => hs x (by simp [hx])
    have eD : Dn m n (w.length + 1) r = Dn m n w.length r + Dn m n w.length ((r - ((n - w.length : Nat) : Int)) % (m : Int)) := rfl
    by_cases c : s = 1
    · subst c
      rw [Int.mul_one] at ht
      obtain ⟨a1, a2, a3⟩ := numN_ok m n hm w (by omega) hs1 _ q0 q1 ((modl h0 h1).mp ht)
      have e : numN m n (1 :: w) r = Dn m n w.length r + numN m n w ((r - ((n - w.length : Nat) : Int)) % (m : Int)) := if_pos rfl
      rw [e, List.length_cons, eD]
      have d0 := Dn_nonneg m n w.length r
      refine ⟨by omega, by omega, ?_⟩
      have e2 : memN m n (w.length + 1) r (Dn m n w.length r + numN m n w ((r - ((n - w.length : Nat) : Int)) % (m : Int))) = 1 :: memN m n w.length ((r - ((n - w.length : Nat) : Int)) % (m : Int)) (Dn m n w.length r + numN m n w ((r - ((n - w.length : Nat) : Int)) % (m : Int)) - Dn m n w.length r) := if_pos (by omega)
      rw [e2, show ∀ x y : Int, x + y - x = y from fun x y => by omega, a3]
    · have c0 : s = 0 := by omega
      subst c0
      rw [Int.mul_zero, Int.zero_add] at ht
      obtain ⟨a1, a2, a3⟩ := numN_ok m n hm w (by omega) hs1 r h0 h1 ht
      have e : numN m n (0 :: w) r = numN m n w r := if_neg (by decide)
      rw [e, List.length_cons, eD]
      have d0 := Dn_nonneg m n w.length ((r - ((n - w.length : Nat) : Int)) % (m : Int))
      refine ⟨a1, by omega, ?_⟩
      have e2 : memN m n (w.length + 1) r (numN m n w r) = 0 :: memN m n w.length r (numN m n w r) := if_neg (by omega)
      rw [e2, a3]
/-- the same for whole words -/
theorem memN_all (n : Nat) (r k : Int) (h0 : 0 ≤ r) (h1 : r ≤ n) (k0 : 0 ≤ k) (k1 : k < Dn (n + 1) n n r) : (memN (n + 1) n n r k).length = n ∧ Sg 2 (memN (n + 1) n n r k) ∧ wsum (memN (n + 1) n n r k) % ((n : Int) + 1) = r ∧ numN (n + 1) n (memN (n + 1) n n r k) r = k := by
  obtain ⟨a1, a2, a3, a4⟩ := memN_ok (n + 1) n (by omega) n (Nat.le_refl _) r k h0 (by omega) k0 k1
  rw [Nat.sub_self, show (((0 : Nat)) : Int) = 0 by rfl, tsum_zero] at a3
  exact ⟨a1, a2, a3, a4⟩
theorem numN_all (n : Nat) (w : List Int) (r : Int) (h0 : 0 ≤ r) (h1 : r ≤ n) (hl : w.length = n) (hs : Sg 2 w) (hw : wsum w % ((n : Int) + 1) = r) : 0 ≤ numN (n + 1) n w r ∧ numN (n + 1) n w r < Dn (n + 1) n n r ∧ memN (n + 1) n n r (numN (n + 1) n w r) = w := by
  subst hl
  refine numN_ok (w.length + 1) w.length (by omega) w (Nat.le_refl _) hs r h0 (by omega) ?_
  rw [Nat.sub_self, show (((0 : Nat)) : Int) = 0 by rfl, tsum_zero]
  exact hw
theorem some_word (n : Nat) (a : Int) (h : 0 ≤ a ∧ a ≤ n) : ∃ w : List Int, w.length = n ∧ Sg 2 w ∧ wsum w = a := by
  have z : ∀ k : Nat, Sg 2 (List.replicate k (0 : Int)) := fun k x hx => by rw [(List.mem_replicate.mp hx).2]; omega
  by_cases ha : a = 0
  · exact ⟨List.replicate n 0, by simp, z n, by rw [wsum_zeros, ha]⟩
  · refine ⟨List.replicate (a.toNat - 1) 0 ++ [1] ++ List.replicate (n - a.toNat) 0, by simp; omega, ((z _).append fun x hx => by rw [List.mem_singleton] at hx; omega).append (z _), ?_⟩
    rw [wsum_append, wsum_append, wsum_zeros, wsum_zeros]
    have : wsum [1] = 1 := by decide
    rw [this]
    simp
    omega
theorem Dn_pos (n : Nat) (a : Int) (h : 0 ≤ a ∧ a ≤ n) : 0 < Dn (n + 1) n n a := by
  obtain ⟨w, h1, h2, h3⟩ := some_word n a h
  have := numN_all n w a h.1 h.2 h1 h2 (by rw [h3]; exact Int.emod_eq_of_lt h.1 (by omega))
  omega
/-! the words in their order -/
def twW : Nat → List (List Int)
  | 0 => [[]]
  | j + 1 => (twW j).map (0 :: ·) ++ (twW j).map (1 :: ·)
theorem twW_snoc : ∀ j, ((twW j).flatMap fun w => [w ++ [0], w ++ [1]]) = twW (j + 1)
  | 0 => rfl
  | j + 1 => by
    have h := twW_snoc j
    have e : ∀ s : Int, (((twW j).map (s :: ·)).flatMap fun w => [w ++ [0], w ++ [1]]) = (twW (j + 1)).map (s :: ·) := fun s => by
      rw [← h, List.flatMap_map, List.map_flatMap]
      rfl
    show ((((twW j).map (0 :: ·)) ++ ((twW j).map (1 :: ·))).flatMap _) = (twW (j + 1)).map (0 :: ·) ++ (twW (j + 1)).map (1 :: ·)
    rw [List.flatMap_append, e 0, e 1]
theorem allW_tw : ∀ n, allW 2 n = twW n
  | 0 => rfl
  | n + 1 => by
    rw [← twW_snoc n, ← allW_tw n]
    rfl
def mwW (m n j : Nat) (r : Int) : List (List Int) := (twW j).filter fun w => decide (tsum ((n - j : Nat) : Int) w % (m : Int) = r)
theorem mwW_succ (m n j : Nat) (hj : j < n) (r : Int) (h0 : 0 ≤ r) (h1 : r < m) : mwW m n (j + 1) r = (mwW m n j r).map (0 :: ·) ++ (mwW m n j ((r - ((n - j : Nat) : Int)) % (m : Int))).map (1 :: ·) := by
  have en : (((n - (j + 1) : Nat)) : Int) + 1 = ((n - j : Nat) : Int) := by omega
  unfold mwW
  show (((twW j).map (0 :: ·)) ++ ((twW j).map (1 :: ·))).filter _ = _
  rw [List.filter_append, List.filter_map, List.filter_map]
  congr 2
  · refine List.filter_congr fun w _ => ?_
    show decide (tsum _ (0 :: w) % _ = _) = _
    rw [tsum_cons, en, Int.mul_zero, Int.zero_add]
  · refine List.filter_congr fun w _ => ?_
    show decide (tsum _ (1 :: w) % _ = _) = _
    rw [tsum_cons, en, Int.mul_one, decide_eq_decide]
    exact modl h0 h1
theorem mwW_len (m n : Nat) (hm : 1 ≤ m) : ∀ j, j ≤ n → ∀ r : Int, 0 ≤ r → r < m → ((mwW m n j r).length : Int) = Dn m n j r
  | 0, _, r, h0, h1 => by
    show ((([[]] : List (List Int)).filter _).length : Int) = if r = 0 then 1 else 0
    rw [List.filter_cons, tsum_nil, Int.zero_emod, List.filter_nil]
    by_cases hr : r = 0
    · rw [if_pos hr, hr]; simp
    · rw [if_neg hr, decide_eq_false (Ne.symm hr)]; simp
  | j + 1, hj, r, h0, h1 => by
    have q0 := Int.emod_nonneg (r - ((n - j : Nat) : Int)) (show (m : Int) ≠ 0 by omega)
    have q1 := Int.emod_lt_of_pos (r - ((n - j : Nat) : Int)) (show (0 : Int) < (m : Int) by omega)
    have a := mwW_len m n hm j (by omega) r h0 h1
    have b := mwW_len m n hm j (by omega) _ q0 q1
    rw [mwW_succ m n j (by omega) r h0 h1, List.length_append, List.length_map, List.length_map]
    show _ = Dn m n j r + Dn m n j ((r - ((n - j : Nat) : Int)) % (m : Int))
    omega
theorem mwW_at (m n : Nat) (hm : 1 ≤ m) : ∀ j, j ≤ n → ∀ r : Int, 0 ≤ r → r < m → ∀ k : Nat, (k : Int) < Dn m n j r → (mwW m n j r)[k]? = some (memN m n j r (k : Int))
  | 0, _, r, h0, h1, k, hk => by
    have hl := mwW_len m n hm 0 (Nat.zero_le _) r h0 h1
    have hk' : (k : Int) < if r = 0 then 1 else 0 := hk
    by_cases hr : r = 0
    · rw [if_pos hr] at hk'
      have : k = 0 := by omega
      subst this
      show (([[]] : List (List Int)).filter _)[0]? = some []
      rw [List.filter_cons, tsum_nil, Int.zero_emod, List.filter_nil, hr]
      rfl
    · rw [if_neg hr] at hk'; omega
  | j + 1, hj, r, h0, h1, k, hk => by
    have q0 := Int.emod_nonneg (r - ((n - j : Nat) : Int)) (show (m : Int) ≠ 0 by omega)
    have q1 := Int.emod_lt_of_pos (r - ((n - j : Nat) : Int)) (show (0 : Int) < (m : Int) by omega)
    have hk' : (k : Int) < Dn m n j r + Dn m n j ((r - ((n - j : Nat) : Int)) % (m : Int)) := hk
    have hl := mwW_len m n hm j (by omega) r h0 h1
    rw [mwW_succ m n j (by omega) r h0 h1]
    by_cases c : Dn m n j r ≤ (k : Int)
    · have e : memN m n (j + 1) r (k : Int) = 1 :: memN m n j ((r - ((n - j : Nat) : Int)) % (m : Int)) ((k : Int) - Dn m n j r) := if_pos c
      rw [List.getElem?_append_right (by rw [List.length_map]; omega), List.length_map, List.getElem?_map, e]
      have ek : (((k - (mwW m n j r).length : Nat)) : Int) = (k : Int) - Dn m n j r := by omega
      rw [mwW_at m n hm j (by omega) _ q0 q1 _ (by omega), ek]
      rfl
    · have e : memN m n (j + 1) r (k : Int) = 0 :: memN m n j r (k : Int) := if_neg c
      rw [List.getElem?_append_left (by rw [List.length_map]; omega), List.getElem?_map, e, mwW_at m n hm j (by omega) r h0 h1 k (by omega)]
      rfl
theorem inPL_mw (n : Nat) (a : Int) : (allW 2 n).filter (inPL n a) = mwW (n + 1) n n a := by
  unfold mwW
  rw [← allW_tw]
  refine List.filter_congr fun w hw => ?_
  have hl := (allW_mem.mp hw).1
  unfold inPL
  rw [decide_eq_true (by omega), Bool.true_and, Nat.sub_self, show (((0 : Nat)) : Int) = 0 by rfl, tsum_zero, show (((n + 1 : Nat)) : Int) = (n : Int) + 1 by omega]
theorem due_len (n : Nat) (a : Int) (h : 0 ≤ a ∧ a ≤ n) : (((allW 2 n).filter (inPL n a)).length : Int) = Dn (n + 1) n n a := by
  rw [inPL_mw]
  exact mwW_len (n + 1) n (by omega) n (Nat.le_refl _) a h.1 (by omega)
theorem due_at (n : Nat) (a : Int) (h : 0 ≤ a ∧ a ≤ n) (k : Nat) (hk : (k : Int) < Dn (n + 1) n n a) : ((allW 2 n).filter (inPL n a))[k]? = some (memN (n + 1) n n a (k : Int)) := by
  rw [inPL_mw]
  exact mwW_at (n + 1) n (by omega) n (Nat.le_refl _) a h.1 (by omega) k hk
theorem row_at {H0 H : Hp} {f : Addr} {n i : Nat} {xs : List V} (h : Rows H0 H f (n + 1) n ((List.range (n + 1)).reverse) xs) (hi : i ≤ n) : ∃ b, atI xs ((i : Nat) : Int) = some (.ref b) ∧ H b = some (.lst ((drow (n + 1) n (n - i)).map V.int)) := by
  obtain ⟨x, hx, b, rfl, _, _, hb⟩ := pd_at2 h (i := i) (y := n - i) (by rw [List.getElem?_reverse (by rw [List.length_range]; omega), List.length_range, List.getElem?_range (by omega), show n + 1 - 1 - i = n - i by omega])
  exact ⟨b, atI_nat hx, hb⟩
theorem memN_go {m n i : Nat} {r k : Int} (hi : i < n) : memN m n (n - i) r k = if Dn m n (n - (i + 1)) r ≤ k then 1 :: memN m n (n - (i + 1)) ((r - ((i + 1 : Nat) : Int)) % (m : Int)) (k - Dn m n (n - (i + 1)) r) else 0 :: memN m n (n - (i + 1)) r k := by
  obtain ⟨j, e⟩ : ∃ j, n - i = j + 1 := ⟨n - i - 1, by omega⟩
  rw [e, show n - (i + 1) = j by omega, show i + 1 = n - j by omega]
  rfl
theorem l_insA {H : Hp} {Q : VK} {a : Addr} {xs : List V} {y : V} {i : Int} (h : H a = some (.lst xs)) (hz : xs.length < 100000) (hi : 0 ≤ i ∧ i < 1000000) (k : ∀ H', ExB a H H' → H' a = some (.lst (xs.take i.toNat ++ [y] ++ xs.drop i.toNat)) → Q .non H') : rInsP (.ref a) [.int i, y] H Q :=
  ⟨a, xs, i, y, rfl, rfl, h, szl hz, hi.1, by omega, k _ ExB.upd upd_same⟩
theorem eqvL_ints (xs ys : List Int) : PyData.eqv (.list (xs.map PyData.int)) (.list (ys.map PyData.int)) = decide (xs = ys) := by
  show PyData.eqvAll (xs.map PyData.int) (ys.map PyData.int) = _
  exact eqv_ints xs ys
theorem shapedL_ints (ns : List Int) : SeqAt.shaped (.list (ns.map PyData.int)) = true := by
  show (PyData.canLayAll0 (ns.map PyData.int) && decide (PyData.depthAll (ns.map PyData.int) + 1 ≤ 64)) = true
  rw [depth_ints, lay_ints]; rfl
/-- a strong list's object -/
def StL (K : PySem.W.Frag) (H : Hp) (v : V) (n a : Int) : Prop := Ins K H v "StrongList" [("many", .int n), ("left", .int a)]
/-- a word's belonging to the strong list of n, a -/
def inSL (n a : Int) (w : List Int) : Bool := decide ((w.length : Int) = n) && decide (wsum w % (2 * n) = a)
theorem l_neB {K : PySem.W.Frag} {H : Hp} {Q : VK} {a b : Bool} (k : Q (.bl (!decide (a = b))) H) : rNeP K (.bl a) (.bl b) H Q := .inl ⟨rfl, by rw [show decide (V.bl a = V.bl b) = decide (a = b) by simp]; exact k⟩
/-- a comprehension of signs over q, by the turn -/
def PvS (H : Hp) (q : Int) : Addr → Nat → List V → Hp → Prop := fun _ i acc H1 => Ex H H1 ∧ ∃ ns : List Int, acc = ns.map V.int ∧ ns.length = i ∧ Sg q ns
theorem Sg.one {q x : Int} (h : 0 ≤ x ∧ x < q) : Sg q [x] := fun n m => by rw [List.mem_singleton] at m; rw [m]; exact h
theorem sg_at {q : Int} {ns : List Int} {k : Nat} (h : Sg q ns) (hk : k < ns.length) : 0 ≤ ns.getD k 0 ∧ ns.getD k 0 < q := by
  refine h _ ?_
  rw [show ns.getD k 0 = ns[k] by simp [List.getD, hk]]
  exact List.getElem_mem hk
theorem at_get {ns : List Int} {k : Nat} (hk : k < ns.length) : atI (ns.map V.int) (k : Int) = some (.int (ns.getD k 0)) := atI_nat (by rw [List.getElem?_map]; simp [List.getD, hk])
theorem fresh_pot {H H1 H2 : Hp} {p r : Addr} (hp : Pot H1 p) (e : ExB p H H1) (e2 : Ex H1 H2) (n : H2 r = none) : H r = none := by
  cases h : H r with
  | none => rfl
  | some o =>
    exfalso
    obtain ⟨ys, hy⟩ := hp.lst
    by_cases z : r = p
    · subst z; rw [e2 _ _ hy] at n; cases n
    · rw [e2 _ _ (e _ _ z h)] at n; cases n
theorem Sg.reverse {q : Int} {xs : List Int} (h : Sg q xs) : Sg q xs.reverse := fun n m => h n (List.mem_reverse.mp m)
theorem ex_hide {p : Addr} {H H1 : Hp} (n : H p = none) (e : Ex H H1) : Ex H (hide p H1) := fun a o h => hide_at (ne_of_none h n) (e _ _ h)
theorem sql_hide {K : PySem.W.Frag} {H H1 : Hp} {p a : Addr} {xs : List V} (n : H p = none) (e : Ex H H1) (h : SqL K H a xs) : SqL K (hide p H1) a xs := by
  rcases h with (h | ⟨o, h⟩) | h
  · exact .inl (.inl (hide_at (ne_of_none h n) (e _ _ h)))
  · exact .inl (.inr ⟨o, hide_at (ne_of_none h n) (e _ _ h)⟩)
  · exact .inr h
theorem row_atM {H0 H : Hp} {f : Addr} {m n i : Nat} {xs : List V} (h : Rows H0 H f m n ((List.range (n + 1)).reverse) xs) (hi : i ≤ n) : ∃ b, atI xs ((i : Nat) : Int) = some (.ref b) ∧ H b = some (.lst ((drow m n (n - i)).map V.int)) := by
  obtain ⟨x, hx, b, rfl, _, _, hb⟩ := pd_at2 h (i := i) (y := n - i) (by rw [List.getElem?_reverse (by rw [List.length_range]; omega), List.length_range, List.getElem?_range (by omega), show n + 1 - 1 - i = n - i by omega])
  exact ⟨b, atI_nat hx, hb⟩
/-- the same for the words of strong lists -/
theorem memS_all (n : Nat) (hn : 1 ≤ n) (r k : Int) (h0 : 0 ≤ r) (h1 : r < 2 * (n : Int)) (k0 : 0 ≤ k) (k1 : k < Dn (2 * n) n n r) : (memN (2 * n) n n r k).length = n ∧ Sg 2 (memN (2 * n) n n r k) ∧ wsum (memN (2 * n) n n r k) % (2 * (n : Int)) = r ∧ numN (2 * n) n (memN (2 * n) n n r k) r = k := by
  obtain ⟨a1, a2, a3, a4⟩ := memN_ok (2 * n) n (by omega) n (Nat.le_refl _) r k h0 (by omega) k0 k1
  rw [Nat.sub_self, show (((0 : Nat)) : Int) = 0 by rfl, tsum_zero, show (((2 * n : Nat)) : Int) = 2 * (n : Int) by omega] at a3
  exact ⟨a1, a2, a3, a4⟩
theorem numS_all (n : Nat) (hn : 1 ≤ n) (w : List Int) (r : Int) (h0 : 0 ≤ r) (h1 : r < 2 * (n : Int)) (hl : w.length = n) (hs : Sg 2 w) (hw : wsum w % (2 * (n : Int)) = r) : 0 ≤ numN (2 * n) n w r ∧ numN (2 * n) n w r < Dn (2 * n) n n r ∧ memN (2 * n) n n r (numN (2 * n) n w r) = w := by
  subst hl
  refine numN_ok (2 * w.length) w.length (by omega) w (Nat.le_refl _) hs r h0 (by omega) ?_
  rw [Nat.sub_self, show (((0 : Nat)) : Int) = 0 by rfl, tsum_zero, show (((2 * w.length : Nat)) : Int) = 2 * (w.length : Int) by omega]
  exact hw
theorem inSL_mw (n : Nat) (a : Int) : (allW 2 n).filter (inSL n a) = mwW (2 * n) n n a := by
  unfold mwW
  rw [← allW_tw]
  refine List.filter_congr fun w hw => ?_
  have hl := (allW_mem.mp hw).1
  unfold inSL
  rw [decide_eq_true (by omega), Bool.true_and, Nat.sub_self, show (((0 : Nat)) : Int) = 0 by rfl, tsum_zero, show (((2 * n : Nat)) : Int) = 2 * (n : Int) by omega]
theorem dueS_len (n : Nat) (hn : 1 ≤ n) (a : Int) (h : 0 ≤ a ∧ a < 2 * (n : Int)) : (((allW 2 n).filter (inSL n a)).length : Int) = Dn (2 * n) n n a := by
  rw [inSL_mw]
  exact mwW_len (2 * n) n (by omega) n (Nat.le_refl _) a h.1 (by omega)
theorem dueS_at (n : Nat) (hn : 1 ≤ n) (a : Int) (h : 0 ≤ a ∧ a < 2 * (n : Int)) (k : Nat) (hk : (k : Int) < Dn (2 * n) n n a) : ((allW 2 n).filter (inSL n a))[k]? = some (memN (2 * n) n n a (k : Int)) := by
  rw [inSL_mw]
  exact mwW_at (2 * n) n (by omega) n (Nat.le_refl _) a h.1 (by omega) k hk
/-- from the first sign on that differs -/
def lexLt : List Int → List Int → Prop
  | x :: xs, y :: ys => x < y ∨ x = y ∧ lexLt xs ys
  | _, _ => False
theorem memN_lex (m n : Nat) (hm : 1 ≤ m) : ∀ j, ∀ r k k' : Int, 0 ≤ k → k < k' → k' < Dn m n j r → lexLt (memN m n j r k) (memN m n j r k')
  | 0, r, k, k', h0, h1, h2 => by
    have h2' : k' < if r = 0 then 1 else 0 := h2
    split at h2' <;> omega
  | j + 1, r, k, k', h0, h1, h2 => by
    have h2' : k' < Dn m n j r + Dn m n j ((r - ((n - j : Nat) : Int)) % (m : Int)) := h2
    by_cases c : Dn m n j r ≤ k
    · have e1 : memN m n (j + 1) r k = 1 :: memN m n j ((r - ((n - j : Nat) : Int)) % (m : Int)) (k - Dn m n j r) := if_pos c
      have e2 : memN m n (j + 1) r k' = 1 :: memN m n j ((r - ((n - j : Nat) : Int)) % (m : Int)) (k' - Dn m n j r) := if_pos (by omega)
      rw [e1, e2]
      exact .inr ⟨rfl, memN_lex m n hm j _ _ _ (by omega) (by omega) (by omega)⟩
    · have e1 : memN m n (j + 1) r k = 0 :: memN m n j r k := if_neg c
      by_cases c2 : Dn m n j r ≤ k'
      · have e2 : memN m n (j + 1) r k' = 1 :: memN m n j ((r - ((n - j : Nat) : Int)) % (m : Int)) (k' - Dn m n j r) := if_pos c2
        rw [e1, e2]
        exact .inl (by decide)
      · have e2 : memN m n (j + 1) r k' = 0 :: memN m n j r k' := if_neg c2
        rw [e1, e2]
        exact .inr ⟨rfl, memN_lex m n hm j _ _ _ h0 h1 (by omega)⟩
/-! rows of counts, quickly reckoned -/
def rstep (m p : Nat) (l : List Nat) : List Nat := List.zipWith (· + ·) l (l.drop (m - p) ++ l.take (m - p))
def rit (m : Nat) : Nat → List Nat
  | 0 => 1 :: List.replicate (m - 1) 0
  | j + 1 => rstep m (j + 1) (rit m j)
theorem rit_len (m : Nat) (hm : 1 ≤ m) : ∀ j, j < m → (rit m j).length = m
  | 0, _ => by simp [rit]; omega
  | j + 1, h => by
    show (List.zipWith _ _ _).length = m
    have := rit_len m hm j (by omega)
    rw [List.length_zipWith, List.length_append, List.length_drop, List.length_take, this]
    omega
theorem rit_at (m : Nat) (hm : 1 ≤ m) : ∀ (j : Nat), j < m → ∀ (i : Nat), i < m → (((rit m j).getD i 0 : Nat) : Int) = Fn m j (i : Int)
  | 0, _, i, hi => by
    show ((((1 :: List.replicate (m - 1) 0).getD i 0 : Nat)) : Int) = if (i : Int) = 0 then 1 else 0
    cases i with
    | zero => simp
    | succ i =>
      rw [if_neg (by omega), List.getD_cons_succ]
      by_cases h : i < m - 1
      · simp [List.getD, h]
      · simp [List.getD, h]
  | j + 1, h, i, hi => by
    have hl := rit_len m hm j (by omega)
    have ih := rit_at m hm j (by omega)
    show (((List.zipWith (· + ·) (rit m j) ((rit m j).drop (m - (j + 1)) ++ (rit m j).take (m - (j + 1)))).getD i 0 : Nat) : Int) = Fn m j (i : Int) + Fn m j (((i : Int) - ((j + 1 : Nat) : Int)) % (m : Int))
    have hg : ∀ k : Nat, k < m → (rit m j)[k]? = some ((rit m j).getD k 0) := fun k hk => by simp [List.getD, hl, hk]
    have e : (List.zipWith (· + ·) (rit m j) ((rit m j).drop (m - (j + 1)) ++ (rit m j).take (m - (j + 1)))).getD i 0 = (rit m j).getD i 0 + (rit m j).getD (if i < j + 1 then m - (j + 1) + i else i - (j + 1)) 0 := by
      rw [List.getD, List.getElem?_zipWith, hg i hi]
      by_cases c : i < j + 1
      · rw [List.getElem?_append_left (by rw [List.length_drop, hl]; omega), List.getElem?_drop, hg _ (by omega), if_pos c]
        rfl
      · rw [List.getElem?_append_right (by rw [List.length_drop, hl]; omega), List.length_drop, hl, List.getElem?_take, if_pos (by omega), show i - (m - (m - (j + 1))) = i - (j + 1) by omega, hg _ (by omega), if_neg c]
        rfl
    rw [e]
    show (((_ + _ : Nat)) : Int) = _
    have ex : ((i : Int) - ((j + 1 : Nat) : Int)) % (m : Int) = ((if i < j + 1 then m - (j + 1) + i else i - (j + 1) : Nat) : Int) := by
      split
      · rw [show ((i : Int) - ((j + 1 : Nat) : Int)) = ((m - (j + 1) + i : Nat) : Int) - (m : Int) by omega, Int.sub_emod_right]
        exact Int.emod_eq_of_lt (by omega) (by omega)
      · rw [show ((i : Int) - ((j + 1 : Nat) : Int)) = ((i - (j + 1) : Nat) : Int) by omega]
        exact Int.emod_eq_of_lt (by omega) (by omega)
    rw [ex, ← ih i hi, ← ih _ (by split <;> omega)]
    omega
theorem frow_ritM (m j : Nat) (hm : 1 ≤ m) (hj : j < m) : frow m j = (rit m j).map fun x => ((x : Nat) : Int) := by
  have hl := rit_len m hm j hj
  refine List.ext_getElem? fun i => ?_
  by_cases h1 : i < m
  · have := rit_at m hm j hj i h1
    unfold frow
    rw [List.getElem?_map, List.getElem?_map, List.getElem?_range h1]
    have e : (rit m j)[i]? = some ((rit m j).getD i 0) := by simp [List.getD, hl, h1]
    rw [e]
    show some (Fn m j (i : Int)) = some _
    rw [← this]
  · rw [List.getElem?_eq_none (by rw [frow_len]; omega), List.getElem?_eq_none (by rw [List.length_map, hl]; omega)]
theorem Dn_le (m n : Nat) : ∀ j r, Dn m n j r ≤ 2 ^ j
  | 0, r => by show (if r = 0 then (1 : Int) else 0) ≤ 1; split <;> decide
  | j + 1, r => by
    have a := Dn_le m n j r
    have b := Dn_le m n j ((r - ((n - j : Nat) : Int)) % (m : Int))
    show Dn m n j r + Dn m n j ((r - ((n - j : Nat) : Int)) % (m : Int)) ≤ _
    rw [Int.pow_succ]
    omega
theorem lexLt_le : ∀ (xs ys : List Int) (d : Nat) (us vs : List Int) (z : Bool), xs.length = ys.length → us.length = d → vs.length = d → lexLt xs ys → Ob.lexAt (fun j => decide ((vs ++ ys).getD j 0 = (us ++ xs).getD j 0)) (fun j => decide ((vs ++ ys).getD j 0 ≤ (us ++ xs).getD j 0)) z d ys.length = false
  | [], _, _, _, _, _, _, _, _, h => by cases ‹List Int› <;> exact h.elim
  | x :: xs, [], _, _, _, _, hl, _, _, _ => by simp at hl
  | x :: xs, y :: ys, d, us, vs, z, hl, hu, hv, h => by
    have ex : (us ++ x :: xs).getD d 0 = x := by rw [← hu]; simp [List.getD]
    have ey : (vs ++ y :: ys).getD d 0 = y := by rw [← hv]; simp [List.getD]
    rw [List.length_cons, Ob.lexAt_succ]
    simp only [ex, ey]
    rcases h with h | ⟨rfl, h⟩
    · rw [if_neg (by simp; omega)]
      exact decide_eq_false (by omega)
    · rw [if_pos (by simp)]
      have := lexLt_le xs ys (d + 1) (us ++ [x]) (vs ++ [x]) z (by simpa using hl) (by simp [hu]) (by simp [hv]) h
      rw [List.append_assoc, List.append_assoc] at this
      exact this
/-! words by their codes -/
theorem code_snoc (B : Int) : ∀ (w : List Int) (s : Int), TS.code B (w ++ [s]) = TS.code B w * B + s
  | [], s => by simp [TS.code]
  | d :: r, s => by
    show d * B ^ (r ++ [s]).length + TS.code B (r ++ [s]) = (d * B ^ r.length + TS.code B r) * B + s
    rw [code_snoc B r s, List.length_append, List.length_singleton, Int.pow_succ, Int.add_mul, Int.mul_assoc]
    omega
theorem range_flat (q : Nat) : ∀ a : Nat, ((List.range a).flatMap fun k => (List.range q).map fun s => k * q + s) = List.range (a * q)
  | 0 => by simp
  | a + 1 => by
    rw [List.range_succ, List.flatMap_append, range_flat q a, Nat.succ_mul, List.range_add]
    simp
theorem allW_codes (q : Nat) : ∀ n, (allW q n).map (TS.code (q : Int)) = (List.range (q ^ n)).map fun (k : Nat) => ((k : Nat) : Int)
  | 0 => rfl
  | n + 1 => by
    have ih := allW_codes q n
    have e1 : ∀ w : List Int, ((List.range q).map fun (s : Nat) => w ++ [((s : Nat) : Int)]).map (TS.code (q : Int)) = (fun c : Int => (List.range q).map fun (s : Nat) => c * (q : Int) + ((s : Nat) : Int)) (TS.code (q : Int) w) := fun w => by
      rw [List.map_map]
      exact List.map_congr_left fun s _ => code_snoc _ _ _
    have eL : ((allW q n).flatMap fun w => ((List.range q).map fun (s : Nat) => w ++ [((s : Nat) : Int)]).map (TS.code (q : Int))) = ((allW q n).map (TS.code (q : Int))).flatMap fun c => (List.range q).map fun (s : Nat) => c * (q : Int) + ((s : Nat) : Int) := by
      rw [List.flatMap_map]
      congr 1
      funext w
      exact e1 w
    show ((allW q n).flatMap fun w => (List.range q).map fun (s : Nat) => w ++ [((s : Nat) : Int)]).map (TS.code (q : Int)) = _
    rw [List.map_flatMap, eL, ih, List.flatMap_map, Nat.pow_succ, ← range_flat, List.map_flatMap]
    congr 1
    funext k
    rw [List.map_map]
    exact List.map_congr_left fun s _ => by simp
theorem allW_rise (q n : Nat) : (allW q n).Pairwise fun u v => TS.code (q : Int) u < TS.code (q : Int) v := by
  have h2 : ((allW q n).map (TS.code (q : Int))).Pairwise (· < ·) := by
    rw [allW_codes, List.pairwise_map]
    exact List.Pairwise.imp (fun h => by omega) List.pairwise_lt_range
  exact List.pairwise_map.mp h2
theorem rise_nodup {B : Int} {ws : List (List Int)} (h : ws.Pairwise fun u v => TS.code B u < TS.code B v) : ws.Nodup :=
  List.Pairwise.imp (fun h e => by rw [e] at h; omega) h
theorem allW_nodup (q n : Nat) : (allW q n).Nodup := rise_nodup (allW_rise q n)
theorem rise_eq {B : Int} : ∀ {vs us : List (List Int)}, us.Perm vs → us.Pairwise (fun u v => TS.code B u ≤ TS.code B v) → vs.Pairwise (fun u v => TS.code B u < TS.code B v) → us = vs
  | [], us, h, _, _ => List.Perm.eq_nil h
  | v :: vs, [], h, _, _ => absurd (List.Perm.length_eq h) (by simp)
  | v :: vs, u :: us, h, h1, h2 => by
    have hv := (h.mem_iff (a := v)).mpr (by simp)
    have hu := (h.mem_iff (a := u)).mp (by simp)
    have e : u = v := by
      rcases List.mem_cons.mp hv with e | hv
      · exact e.symm
      · rcases List.mem_cons.mp hu with e | hu
        · exact e
        · have a := (List.pairwise_cons.mp h1).1 v hv
          have b := (List.pairwise_cons.mp h2).1 u hu
          omega
    subst e
    rw [rise_eq h.cons_inv (List.pairwise_cons.mp h1).2 (List.pairwise_cons.mp h2).2]
/-- all lists together have each word just once -/
theorem part_perm {α : Type} [BEq α] [LawfulBEq α] (l : List α) (m : Nat) (f : α → Nat) (h : ∀ x ∈ l, f x < m) : ((List.range m).flatMap fun r => l.filter fun x => decide (f x = r)).Perm l := by
  refine List.perm_iff_count.mpr fun a => ?_
  by_cases ha : a ∈ l
  · have key : ∀ m, List.count a ((List.range m).flatMap fun r => l.filter fun x => decide (f x = r)) = if f a < m then List.count a l else 0 := by
      intro m
      induction m with
      | zero => simp
      | succ m ih =>
        rw [List.range_succ, List.flatMap_append, List.count_append, ih]
        simp only [List.flatMap_cons, List.flatMap_nil, List.append_nil]
        by_cases e : f a = m
        · rw [List.count_filter (by simpa using e), if_neg (by omega), if_pos (by omega), Nat.zero_add]
        · have : List.count a (l.filter fun x => decide (f x = m)) = 0 := List.count_eq_zero.mpr fun hm => e (by simpa using (List.mem_filter.mp hm).2)
          rw [this, Nat.add_zero]
          by_cases c : f a < m
          · rw [if_pos c, if_pos (by omega)]
          · rw [if_neg c, if_neg (by omega)]
    rw [key, if_pos (h a ha)]
  · rw [List.count_eq_zero.mpr ha, List.count_eq_zero.mpr]
    intro hm
    obtain ⟨r, _, hm⟩ := List.mem_flatMap.mp hm
    exact ha (List.mem_filter.mp hm).1
theorem fm_le {α β : Type} {f : α → List β} {m : Nat} : ∀ {l : List α}, (∀ a ∈ l, (f a).length ≤ m) → (l.flatMap f).length ≤ l.length * m
  | [], _ => by simp
  | a :: l, h => by
    have := h a (by simp)
    have := fm_le (l := l) fun b hb => h b (by simp [hb])
    rw [List.flatMap_cons, List.length_append, List.length_cons, Nat.succ_mul]
    omega
/-! sorted, of words -/
theorem ks_of {K : PySem.W.Frag} {H : Hp} : ∀ {xs : List V} {ws : List (List Int)}, Wts K H xs ws → ∃ ks : KS, xs = refsV ks ∧ ws = ks.map (·.2) ∧ ∀ p ∈ ks, SqT K H p.1 (p.2.map V.int)
  | _, _, .nil => ⟨[], rfl, rfl, fun _ h => by cases h⟩
  | _, _, .cons ⟨b, e, h⟩ t => by
    obtain ⟨ks, e1, e2, e3⟩ := ks_of t
    subst e
    refine ⟨(b, _) :: ks, by rw [e1]; rfl, by rw [e2]; rfl, fun p hp => ?_⟩
    rcases List.mem_cons.mp hp with rfl | hp
    · exact h
    · exact e3 p hp
theorem ks_wts {K : PySem.W.Frag} {H : Hp} : ∀ {ks : KS}, (∀ p ∈ ks, SqT K H p.1 (p.2.map V.int)) → Wts K H (refsV ks) (ks.map (·.2))
  | [], _ => .nil
  | p :: ks, h => .cons ⟨p.1, rfl, h p (by simp)⟩ (ks_wts fun q hq => h q (by simp [hq]))
/-- the words ws, each of d signs over B -/
def Wb (d : Nat) (B : Int) (ws : List (List Int)) : Prop := ∀ w ∈ ws, w.length = d ∧ Sg B w
theorem code_inj {B : Int} {d : Nat} {u v : List Int} (hu : u.length = d ∧ Sg B u) (hv : v.length = d ∧ Sg B v) (h : TS.code B u = TS.code B v) : u = v := by
  have key : ∀ (u v : List Int), u.length = v.length → Sg B u → Sg B v → TS.code B u = TS.code B v → u = v := by
    intro u
    induction u with
    | nil => intro v hl _ _ _; exact (List.eq_nil_of_length_eq_zero hl.symm).symm
    | cons x u ih =>
      intro v hl hu hv h
      cases v with
      | nil => simp at hl
      | cons y v =>
        have hl' : u.length = v.length := by simpa using hl
        have hu' : TS.Bd B u := fun m hm => hu m (List.mem_cons_of_mem _ hm)
        have hv' : TS.Bd B v := fun m hm => hv m (List.mem_cons_of_mem _ hm)
        rcases Int.lt_trichotomy x y with c | c | c
        · have := TS.code_lt hl' hu' hv' c; omega
        · subst c
          have h2 : x * B ^ u.length + TS.code B u = x * B ^ v.length + TS.code B v := h
          rw [hl'] at h2
          rw [ih v hl' hu' hv' (by omega)]
        · have := TS.code_lt hl'.symm hv' hu' c; omega
  exact key u v (by omega) hu.2 hv.2 h
theorem l_sortLW {K : PySem.W.Frag} {H : Hp} {Q : VK} {a : Addr} {xs : List V} {ws : List (List Int)} {d : Nat} {B : Int} (h : SqL K H a xs) (hW : Wts K H xs ws) (hb : Wb d B ws) (hd : 2 ≤ ws.length → 1 ≤ d)
    (k : ∀ ys us p H', us.Perm ws → us.Pairwise (fun u v => TS.code B u ≤ TS.code B v) → H p = none → Ex H H' → H' p = some (.lst ys) → Wts K H' ys us → Q (.ref p) H') : rSortA K [.ref a] H Q := by
  obtain ⟨ks, rfl, rfl, hk⟩ := ks_of hW
  refine .inl ⟨a, ks, d, B, rfl, h, fun p hp => ⟨hk p hp, hb p.2 (List.mem_map.mpr ⟨p, hp, rfl⟩)⟩, by rw [List.length_map] at hd; exact hd, fun ks' p pm hr hn => ?_⟩
  exact k (refsV ks') (ks'.map (·.2)) p _ (pm.map _) (List.pairwise_map.mpr hr) hn (Evl.Ex.new hn) upd_same (ks_wts fun q hq => Evl.ex_t (Evl.Ex.new hn) (hk q (pm.mem_iff.mp hq)))
/-- sorted(set(xs)): the words, each once, by their codes -/
theorem l_sortSetW {K : PySem.W.Frag} {H : Hp} {Q : VK} {a : Addr} {xs : List V} {ws : List (List Int)} {d : Nat} {B : Int} (h : SqL K H a xs) (hW : Wts K H xs ws) (hb : Wb d B ws) (hl : ws.length < 64)
    (k : ∀ ys us p H', (∀ w, w ∈ us ↔ w ∈ ws) → us.Pairwise (fun u v => TS.code B u < TS.code B v) → H p = none → Ex H H' → H' p = some (.lst ys) → Wts K H' ys us → Q (.ref p) H') : sortSetA K Q (.ref a) H := by
  obtain ⟨ks, rfl, rfl, hk⟩ := ks_of hW
  have hb' : ∀ p ∈ ks, p.2.length = d ∧ Sg B p.2 := fun p hp => hb p.2 (List.mem_map.mpr ⟨p, hp, rfl⟩)
  refine .inr ⟨a, ks, d, B, rfl, h, fun p hp => ⟨hk p hp, hb' p hp⟩, by rw [List.length_map] at hl; exact hl, fun ks' p sub all nd hr hn => ?_⟩
  refine k (refsV ks') (ks'.map (·.2)) p _ (fun w => ⟨fun m => ?_, fun m => ?_⟩) ?_ hn (Evl.Ex.new hn) upd_same (ks_wts fun q hq => Evl.ex_t (Evl.Ex.new hn) (hk q (sub q hq)))
  · obtain ⟨q, hq, rfl⟩ := List.mem_map.mp m
    exact List.mem_map.mpr ⟨q, sub q hq, rfl⟩
  · obtain ⟨q, hq, rfl⟩ := List.mem_map.mp m
    exact all q hq
  · have h1 : (ks'.map (·.2)).Pairwise fun u v => TS.code B u ≤ TS.code B v := List.pairwise_map.mpr hr
    have h2 : (ks'.map (·.2)).Pairwise fun u v => u ≠ v := nd
    refine List.Pairwise.imp_of_mem (fun {u v} hu hv h => ?_) (h1.and h2)
    obtain ⟨q, hq, rfl⟩ := List.mem_map.mp hu
    obtain ⟨r, hr2, rfl⟩ := List.mem_map.mp hv
    rcases Int.lt_or_eq_of_le h.1 with z | z
    · exact z
    · exact absurd (code_inj (hb' q (sub q hq)) (hb' r (sub r hr2)) z) h.2
/-! rings -/
def lostAt (w : List Int) (k : Nat) : List Int := w.take k ++ w.drop (k + 1)
def putAt (w : List Int) (k : Nat) (s : Int) : List Int := w.take k ++ [s] ++ w.drop k
def chgAt (w : List Int) (k : Nat) (s : Int) : List Int := w.take k ++ [s] ++ w.drop (k + 1)
def losts (w : List Int) : List (List Int) := (List.range w.length).map fun k => lostAt w k
def puts (q : Nat) (w : List Int) : List (List Int) := (List.range (w.length + 1)).flatMap fun k => (List.range q).map fun (s : Nat) => putAt w k ((s : Nat) : Int)
def chgs (q : Nat) (w : List Int) : List (List Int) := (List.range w.length).flatMap fun k => (List.range q).map fun (s : Nat) => chgAt w k ((s : Nat) : Int)
/-- us are the words ws, each once, by their codes -/
def Ring (B : Int) (us ws : List (List Int)) : Prop := (∀ w, w ∈ us ↔ w ∈ ws) ∧ us.Pairwise fun u v => TS.code B u < TS.code B v
theorem lostAt_len {w : List Int} {k : Nat} (h : k < w.length) : (lostAt w k).length = w.length - 1 := by
  unfold lostAt
  rw [List.length_append, List.length_take, List.length_drop]; omega
theorem putAt_len {w : List Int} {k : Nat} {s : Int} (h : k ≤ w.length) : (putAt w k s).length = w.length + 1 := by
  unfold putAt
  rw [List.length_append, List.length_append, List.length_take, List.length_drop, List.length_singleton]; omega
theorem chgAt_len {w : List Int} {k : Nat} {s : Int} (h : k < w.length) : (chgAt w k s).length = w.length := by
  unfold chgAt
  rw [List.length_append, List.length_append, List.length_take, List.length_drop, List.length_singleton]; omega
theorem sg_one {q s : Int} (h : 0 ≤ s ∧ s < q) : Sg q [s] := fun n m => by rw [List.mem_singleton] at m; omega
theorem lostAt_sg {q : Int} {w : List Int} {k : Nat} (h : Sg q w) : Sg q (lostAt w k) := (h.take k).append (h.drop (k + 1))
theorem putAt_sg {q : Int} {w : List Int} {k : Nat} {s : Int} (h : Sg q w) (hs : 0 ≤ s ∧ s < q) : Sg q (putAt w k s) := ((h.take k).append (sg_one hs)).append (h.drop k)
theorem chgAt_sg {q : Int} {w : List Int} {k : Nat} {s : Int} (h : Sg q w) (hs : 0 ≤ s ∧ s < q) : Sg q (chgAt w k s) := ((h.take k).append (sg_one hs)).append (h.drop (k + 1))
theorem mem_losts {w u : List Int} : u ∈ losts w ↔ ∃ k, k < w.length ∧ u = lostAt w k := by
  unfold losts
  rw [List.mem_map]
  exact ⟨fun ⟨k, h, e⟩ => ⟨k, List.mem_range.mp h, e.symm⟩, fun ⟨k, h, e⟩ => ⟨k, List.mem_range.mpr h, e.symm⟩⟩
theorem mem_puts {q : Nat} {w u : List Int} : u ∈ puts q w ↔ ∃ k s, k ≤ w.length ∧ (0 ≤ s ∧ s < (q : Int)) ∧ u = putAt w k s := by
  unfold puts
  rw [List.mem_flatMap]
  constructor
  · rintro ⟨k, h, m⟩
    obtain ⟨s, hs, e⟩ := List.mem_map.mp m
    have := List.mem_range.mp h
    have := List.mem_range.mp hs
    exact ⟨k, s, by omega, by omega, e.symm⟩
  · rintro ⟨k, s, h, hs, e⟩
    exact ⟨k, List.mem_range.mpr (by omega), List.mem_map.mpr ⟨s.toNat, List.mem_range.mpr (by omega), by rw [e]; congr 1; omega⟩⟩
theorem mem_chgs {q : Nat} {w u : List Int} : u ∈ chgs q w ↔ ∃ k s, k < w.length ∧ (0 ≤ s ∧ s < (q : Int)) ∧ u = chgAt w k s := by
  unfold chgs
  rw [List.mem_flatMap]
  constructor
  · rintro ⟨k, h, m⟩
    obtain ⟨s, hs, e⟩ := List.mem_map.mp m
    have := List.mem_range.mp h
    have := List.mem_range.mp hs
    exact ⟨k, s, by omega, by omega, e.symm⟩
  · rintro ⟨k, s, h, hs, e⟩
    exact ⟨k, List.mem_range.mpr (by omega), List.mem_map.mpr ⟨s.toNat, List.mem_range.mpr (by omega), by rw [e]; congr 1; omega⟩⟩
theorem losts_wb {q : Int} {w : List Int} (h : Sg q w) : Wb (w.length - 1) q (losts w) := fun u hu => by
  obtain ⟨k, hk, rfl⟩ := mem_losts.mp hu
  exact ⟨lostAt_len hk, lostAt_sg h⟩
theorem puts_wb {q : Nat} {w : List Int} (h : Sg q w) : Wb (w.length + 1) q (puts q w) := fun u hu => by
  obtain ⟨k, s, hk, hs, rfl⟩ := mem_puts.mp hu
  exact ⟨putAt_len hk, putAt_sg h hs⟩
theorem chgs_wb {q : Nat} {w : List Int} (h : Sg q w) : Wb w.length q (chgs q w) := fun u hu => by
  obtain ⟨k, s, hk, hs, rfl⟩ := mem_chgs.mp hu
  exact ⟨chgAt_len hk, chgAt_sg h hs⟩
theorem losts_len (w : List Int) : (losts w).length = w.length := by unfold losts; simp
theorem puts_len (q : Nat) (w : List Int) : (puts q w).length = (w.length + 1) * q := by
  unfold puts
  rw [fm_len (m := q) (fun k _ => by simp), List.length_range]
theorem chgs_len (q : Nat) (w : List Int) : (chgs q w).length = w.length * q := by
  unfold chgs
  rw [fm_len (m := q) (fun k _ => by simp), List.length_range]
/-- a sign is lost just where it can be put in -/
theorem put_lost {w : List Int} {k : Nat} (h : k < w.length) : w = putAt (lostAt w k) k (w.getD k 0) := by
  unfold putAt lostAt
  have e1 : (w.take k ++ w.drop (k + 1)).take k = w.take k := by rw [List.take_append_of_le_length (by simp; omega), List.take_take, Nat.min_self]
  have e2 : (w.take k ++ w.drop (k + 1)).drop k = w.drop (k + 1) := by
    rw [List.drop_append_of_le_length (by simp; omega), List.drop_of_length_le (by simp; omega), List.nil_append]
  rw [e1, e2]
  have e3 : w.getD k 0 = w[k] := by simp [List.getD, h]
  rw [e3, List.append_assoc, List.singleton_append, ← List.drop_eq_getElem_cons h, List.take_append_drop]
theorem lost_put {w : List Int} {k : Nat} {s : Int} (h : k ≤ w.length) : lostAt (putAt w k s) k = w := by
  unfold putAt lostAt
  rw [List.append_assoc, List.take_append_of_le_length (by simp; omega), List.take_take, Nat.min_self]
  rw [List.drop_append, List.drop_of_length_le (by simp; omega), List.nil_append, List.length_take, Nat.min_eq_left h, show k + 1 - k = 1 by omega]
  show w.take k ++ w.drop k = w
  exact List.take_append_drop k w
/-! one loss or one putting in: the word of a list that it was -/
theorem sum_bd : ∀ {xs : List Int}, Sg 2 xs → 0 ≤ xs.sum ∧ xs.sum ≤ xs.length
  | [], _ => by simp
  | x :: xs, h => by
    have a := h x (by simp)
    have b := sum_bd (xs := xs) fun n m => h n (by simp [m])
    rw [List.sum_cons, List.length_cons]
    omega
theorem sum_0 : ∀ {xs : List Int}, Sg 2 xs → xs.sum = 0 → xs = List.replicate xs.length 0
  | [], _, _ => rfl
  | x :: xs, h, e => by
    have a := h x (by simp)
    have hx : Sg 2 xs := fun n m => h n (by simp [m])
    have b := sum_bd hx
    rw [List.sum_cons] at e
    rw [List.length_cons, List.replicate_succ, ← sum_0 hx (by omega), show x = 0 by omega]
theorem sum_1 : ∀ {xs : List Int}, Sg 2 xs → xs.sum = xs.length → xs = List.replicate xs.length 1
  | [], _, _ => rfl
  | x :: xs, h, e => by
    have a := h x (by simp)
    have hx : Sg 2 xs := fun n m => h n (by simp [m])
    have b := sum_bd hx
    rw [List.sum_cons, List.length_cons] at e
    rw [List.length_cons, List.replicate_succ, ← sum_1 hx (by omega), show x = 1 by omega]
theorem wsum_putAt {x : List Int} {k : Nat} {s : Int} (h : k ≤ x.length) : wsum (putAt x k s) = wsum x + ((k : Int) + 1) * s + (x.drop k).sum := by
  have e1 : wsum x = wsum (x.take k) + wsum (x.drop k) + (k : Int) * (x.drop k).sum := by
    have := wsum_append (x.take k) (x.drop k)
    rw [List.take_append_drop, List.length_take, Nat.min_eq_left h] at this
    exact this
  unfold putAt
  rw [wsum_append, wsum_append, e1, List.length_append, List.length_take, Nat.min_eq_left h, show wsum [s] = s by simp [wsum, List.getD], show [s].sum = s by simp, List.length_singleton, Int.natCast_add, Int.add_mul, Int.add_mul]
  simp
  omega
theorem put_same {x : List Int} {i j : Nat} {s : Int} (hij : i ≤ j) (hj : j ≤ x.length) (h : (x.drop i).take (j - i) = List.replicate (j - i) s) : putAt x i s = putAt x j s := by
  have e1 : x.drop i = List.replicate (j - i) s ++ x.drop j := by
    rw [← h]
    have := (List.take_append_drop (j - i) (x.drop i)).symm
    rw [List.drop_drop, show i + (j - i) = j by omega] at this
    exact this
  have e2 : x.take j = x.take i ++ List.replicate (j - i) s := by
    rw [← h]
    have := List.take_add (l := x) (i := i) (j := j - i)
    rw [show i + (j - i) = j by omega] at this
    exact this
  unfold putAt
  rw [e1, e2, List.append_assoc, List.append_assoc, List.append_assoc, ← List.append_assoc [s], ← List.append_assoc (List.replicate (j - i) s)]
  congr 2
  rw [List.singleton_append, ← List.replicate_succ, ← List.replicate_succ']
theorem emod_sub_0 {a b m : Int} (h : a % m = b % m) (hm : 0 < m) (hl : -m < a - b) (hu : a - b < m) : a = b := by
  have := Int.emod_emod_of_dvd a (Int.dvd_refl m)
  have h2 : (a - b) % m = 0 := by rw [Int.sub_emod, h, Int.sub_self]; simp
  obtain ⟨c, hc⟩ := Int.dvd_of_emod_eq_zero h2
  have : c = 0 := by
    rcases Int.lt_trichotomy c 0 with z | z | z
    · have := Int.mul_le_mul_of_nonneg_left (show c ≤ -1 by omega) (show 0 ≤ m by omega)
      omega
    · exact z
    · have := Int.mul_le_mul_of_nonneg_left (show (1 : Int) ≤ c by omega) (show 0 ≤ m by omega)
      omega
  subst this
  omega
/-- two words of one plain list that come to one word by a loss each are one -/
theorem vt_put {x : List Int} {i j : Nat} {s t : Int} (hx : Sg 2 x) (hi : i ≤ x.length) (hj : j ≤ x.length) (hs : 0 ≤ s ∧ s < 2) (ht : 0 ≤ t ∧ t < 2) (h : wsum (putAt x i s) % ((x.length : Int) + 2) = wsum (putAt x j t) % ((x.length : Int) + 2)) : putAt x i s = putAt x j t := by
  have key : ∀ (i j : Nat) (s t : Int), i ≤ j → j ≤ x.length → (0 ≤ s ∧ s < 2) → (0 ≤ t ∧ t < 2) → wsum (putAt x i s) % ((x.length : Int) + 2) = wsum (putAt x j t) % ((x.length : Int) + 2) → putAt x i s = putAt x j t := by
    intro i j s t hij hj hs ht h
    rw [wsum_putAt (by omega), wsum_putAt hj] at h
    have eM : (x.drop i).sum = ((x.drop i).take (j - i)).sum + (x.drop j).sum := by
      rw [← List.sum_append]
      have := (List.take_append_drop (j - i) (x.drop i)).symm
      rw [List.drop_drop, show i + (j - i) = j by omega] at this
      rw [← this]
    have bM := sum_bd ((hx.drop i).take (j - i))
    have lM : ((x.drop i).take (j - i)).length = j - i := by rw [List.length_take, List.length_drop]; omega
    rw [lM] at bM
    have bJ := sum_bd (hx.drop j)
    rw [List.length_drop] at bJ
    have mz : Sg 2 ((x.drop i).take (j - i)) := (hx.drop i).take (j - i)
    generalize (x.drop j).sum = R at *
    have z0 := fun h => sum_0 mz h
    have z1 := fun h => sum_1 mz h
    rw [lM] at z0 z1
    have ps := fun h => put_same (x := x) (s := s) hij hj h
    generalize (x.drop i).take (j - i) = M at *
    have hs' : s = 0 ∨ s = 1 := by omega
    have ht' : t = 0 ∨ t = 1 := by omega
    rcases hs' with rfl | rfl <;> rcases ht' with rfl | rfl
    · have := emod_sub_0 h (by omega) (by omega) (by omega)
      exact ps (z0 (by omega))
    · have := emod_sub_0 h (by omega) (by omega) (by omega)
      omega
    · have := emod_sub_0 h (by omega) (by omega) (by omega)
      omega
    · have := emod_sub_0 h (by omega) (by omega) (by omega)
      exact ps (z1 (by omega))
  rcases Nat.le_total i j with c | c
  · exact key i j s t c hj hs ht h
  · exact (key j i t s c hi ht hs h.symm).symm
theorem vt_lost {n : Nat} {a : Int} {u v : List Int} {i j : Nat} (hu : inPL n a u = true) (hv : inPL n a v = true) (su : Sg 2 u) (sv : Sg 2 v) (hi : i < u.length) (hj : j < v.length) (h : lostAt u i = lostAt v j) : u = v := by
  unfold inPL at hu hv
  rw [Bool.and_eq_true, decide_eq_true_eq, decide_eq_true_eq] at hu hv
  have gu : 0 ≤ u.getD i 0 ∧ u.getD i 0 < 2 := by
    have : u.getD i 0 = u[i] := by simp [List.getD, hi]
    rw [this]; exact su _ (List.getElem_mem hi)
  have gv : 0 ≤ v.getD j 0 ∧ v.getD j 0 < 2 := by
    have : v.getD j 0 = v[j] := by simp [List.getD, hj]
    rw [this]; exact sv _ (List.getElem_mem hj)
  have lu := lostAt_len hi
  have lv := lostAt_len hj
  have pu := put_lost hi
  have pv := put_lost hj
  have wu := hu.2.trans hv.2.symm
  rw [pu, pv, ← h] at wu
  rw [pu, pv, ← h]
  refine vt_put (lostAt_sg su) (by omega) (by rw [h]; omega) gu gv ?_
  rw [show ((lostAt u i).length : Int) + 2 = (n : Int) + 1 by omega]
  exact wu
theorem lost_lost {y : List Int} {i j : Nat} (h : i < j) (hj : j < y.length) : lostAt (lostAt y i) (j - 1) = lostAt (lostAt y j) i := by
  unfold lostAt
  refine List.ext_getElem? fun k => ?_
  have g : ∀ (z : List Int) (a : Nat), a < z.length → (z.take a ++ z.drop (a + 1))[k]? = if k < a then z[k]? else z[k + 1]? := fun z a ha => by
    by_cases c : k < a
    · rw [if_pos c, List.getElem?_append_left (by simp; omega), List.getElem?_take, if_pos c]
    · rw [if_neg c, List.getElem?_append_right (by simp; omega), List.getElem?_drop, List.length_take, Nat.min_eq_left (by omega), show a + 1 + (k - a) = k + 1 by omega]
  have g' : ∀ (k a : Nat), a < y.length → (y.take a ++ y.drop (a + 1))[k]? = if k < a then y[k]? else y[k + 1]? := fun k a ha => by
    by_cases c : k < a
    · rw [if_pos c, List.getElem?_append_left (by simp; omega), List.getElem?_take, if_pos c]
    · rw [if_neg c, List.getElem?_append_right (by simp; omega), List.getElem?_drop, List.length_take, Nat.min_eq_left (by omega), show a + 1 + (k - a) = k + 1 by omega]
  have l1 : (y.take i ++ y.drop (i + 1)).length = y.length - 1 := lostAt_len (by omega)
  have l2 : (y.take j ++ y.drop (j + 1)).length = y.length - 1 := lostAt_len hj
  rw [g (y.take i ++ y.drop (i + 1)) (j - 1) (by omega), g (y.take j ++ y.drop (j + 1)) i (by omega), g' k i (by omega), g' (k + 1) i (by omega), g' k j hj, g' (k + 1) j hj]
  by_cases c1 : k < i
  · rw [if_pos (by omega), if_pos c1, if_pos c1, if_pos (by omega)]
  · by_cases c2 : k < j - 1
    · rw [if_pos c2, if_neg c1, if_neg c1, if_pos (by omega)]
    · rw [if_neg c2, if_neg (by omega), if_neg c1, if_neg (by omega)]
/-- two words of one plain list of which a word may have come by one putting in each are one -/
theorem vt_came {n : Nat} {a : Int} {y : List Int} {i j : Nat} (hu : inPL n a (lostAt y i) = true) (hv : inPL n a (lostAt y j) = true) (sy : Sg 2 y) (hi : i < y.length) (hj : j < y.length) : lostAt y i = lostAt y j := by
  rcases Nat.lt_trichotomy i j with c | c | c
  · exact vt_lost hu hv (lostAt_sg sy) (lostAt_sg sy) (by rw [lostAt_len hi]; omega) (by rw [lostAt_len hj]; omega) (lost_lost c hj)
  · rw [c]
  · exact (vt_lost hv hu (lostAt_sg sy) (lostAt_sg sy) (by rw [lostAt_len hj]; omega) (by rw [lostAt_len hi]; omega) (lost_lost c hi)).symm
/-- the words of n signs of which ws may have come, by a loss, by nothing, by a putting in -/
def cands (n : Nat) (ws : List Int) : List (List Int) := if (ws.length : Int) = (n : Int) - 1 then puts 2 ws else if ws.length = n then [ws] else losts ws
theorem cands_one {n : Nat} {a : Int} {ws u v : List Int} (hl : ws.length ≤ n + 1 ∧ n ≤ ws.length + 1) (sw : Sg 2 ws) (hu : u ∈ cands n ws) (hv : v ∈ cands n ws) (mu : inPL n a u = true) (mv : inPL n a v = true) : u = v := by
  unfold cands at hu hv
  split at hu
  · rename_i c
    rw [if_pos c] at hv
    obtain ⟨i, s, hi, hs, rfl⟩ := mem_puts.mp hu
    obtain ⟨j, t, hj, ht, rfl⟩ := mem_puts.mp hv
    exact vt_lost mu mv (putAt_sg sw hs) (putAt_sg sw ht) (by rw [putAt_len hi]; omega) (by rw [putAt_len hj]; omega) ((lost_put hi).trans (lost_put hj).symm)
  · rename_i c
    rw [if_neg c] at hv
    split at hu
    · rename_i c2
      rw [if_pos c2] at hv
      rw [List.mem_singleton] at hu hv
      rw [hu, hv]
    · rename_i c2
      rw [if_neg c2] at hv
      obtain ⟨i, hi, rfl⟩ := mem_losts.mp hu
      obtain ⟨j, hj, rfl⟩ := mem_losts.mp hv
      exact vt_came mu mv sw hi hj
/-- what mending tells of ws in the plain list of n, a -/
def Mend (K : PySem.W.Frag) (H : Hp) (n : Nat) (a : Int) (ws : List Int) (v : V) : Prop := (∃ u, Wt K H v u ∧ u ∈ cands n ws ∧ inPL n a u = true) ∨ (v = .non ∧ ∀ u ∈ cands n ws, inPL n a u = false)
theorem anyW (w : List Int) : ∀ us : List (List Int), ((us.map wD).any fun z => PyData.eqv z (.tuple (w.map PyData.int))) = decide (w ∈ us)
  | [] => by simp
  | u :: us => by
    rw [List.map_cons, List.any_cons, anyW w us, show PyData.eqv (wD u) (.tuple (w.map PyData.int)) = decide (u = w) from eqvT_ints u w]
    by_cases h1 : u = w <;> by_cases h2 : w ∈ us <;> simp [h1, h2]
    exact fun e => h1 e.symm
theorem l_inW {K : PySem.W.Frag} {H : Hp} {Q : VK} {x : V} {w : List Int} {p : Addr} {ys : List V} {us : List (List Int)} (hw : Wt K H x w) (hp : H p = some (.lst ys)) (hW : Wts K H ys us) (k : Q (.bl (decide (w ∈ us))) H) : rInA K x (.ref p) H Q := by
  obtain ⟨b, rfl, hb⟩ := hw
  exact l_inD (.tup hb (dp_ints w)) (.lst (SqL.of hp) (dp_words hW)) (shaped_ints w) (shaped_words us) (by rw [anyW]; exact k)
theorem l_notInW {K : PySem.W.Frag} {H : Hp} {Q : VK} {x : V} {w : List Int} {p : Addr} {ys : List V} {us : List (List Int)} (hw : Wt K H x w) (hp : H p = some (.lst ys)) (hW : Wts K H ys us) (k : Q (.bl (!decide (w ∈ us))) H) : rNotInA K x (.ref p) H Q := by
  obtain ⟨b, rfl, hb⟩ := hw
  exact l_notInD (.tup hb (dp_ints w)) (.lst (SqL.of hp) (dp_words hW)) (shaped_ints w) (shaped_words us) (by rw [anyW]; exact k)
theorem decB {i j : Bool} : decide (V.bl i = V.bl j) = decide (i = j) := by simp
theorem l_eqB {K : PySem.W.Frag} {H : Hp} {Q : VK} {i j : Bool} (k : Q (.bl (decide (i = j))) H) : rEqP K (.bl i) (.bl j) H Q := .inl ⟨rfl, by rw [decB]; exact k⟩
/-! exact words (what may be a dict's key), dicts by words -/
def Wx (H : Hp) (x : V) (w : List Int) : Prop := ∃ b, x = .ref b ∧ H b = some (.tup (w.map V.int))
theorem Wx.mono {H H' : Hp} {x : V} {w : List Int} (e : Ex H H') (h : Wx H x w) : Wx H' x w := by
  obtain ⟨b, rfl, h⟩ := h
  exact ⟨b, rfl, e _ _ h⟩
theorem Wx.wt {K : PySem.W.Frag} {H : Hp} {x : V} {w : List Int} (h : Wx H x w) : Wt K H x w := by
  obtain ⟨b, rfl, h⟩ := h
  exact ⟨b, rfl, SqT.of h⟩
theorem Wx.exB {H H' : Hp} {x : V} {w : List Int} {p : Addr} {o : HO} (e : ExB p H H') (hp : H p = some o) (ho : ∀ zs, o ≠ .tup zs) (h : Wx H x w) : Wx H' x w := by
  obtain ⟨b, rfl, h⟩ := h
  exact ⟨b, rfl, e _ _ (fun z => by subst z; rw [hp] at h; exact ho _ (Option.some.inj h)) h⟩
abbrev Wxs (H : Hp) : List V → List (List Int) → Prop := Paired (Wx H)
theorem Wxs.mono {H H' : Hp} {xs : List V} {ws : List (List Int)} (e : Ex H H') (h : Wxs H xs ws) : Wxs H' xs ws := Paired.mapP h fun _ _ w => Wx.mono e w
theorem Wxs.wts {K : PySem.W.Frag} {H : Hp} {xs : List V} {ws : List (List Int)} (h : Wxs H xs ws) : Wts K H xs ws := Paired.mapP h fun _ _ w => Wx.wt w
theorem Wxs.exB {H H' : Hp} {xs : List V} {ws : List (List Int)} {p : Addr} {o : HO} (e : ExB p H H') (hp : H p = some o) (ho : ∀ zs, o ≠ .tup zs) (h : Wxs H xs ws) : Wxs H' xs ws := Paired.mapP h fun _ _ w => Wx.exB e hp ho w
theorem Wxs.lst {H H' : Hp} {xs ys : List V} {ws : List (List Int)} {p : Addr} (e : ExB p H H') (hp : H p = some (.lst ys)) (h : Wxs H xs ws) : Wxs H' xs ws := h.exB e hp fun _ z => by cases z
theorem l_addX {K : PySem.W.Frag} {H : Hp} {Q : VK} {a b : Addr} {xs ys : List V} (h1 : H a = some (.tup xs)) (h2 : H b = some (.tup ys)) (hz : xs.length + ys.length ≤ 100000) (k : ∀ p H', Ex H H' → H' p = some (.tup (xs ++ ys)) → Q (.ref p) H') : rAddP K (.ref a) (.ref b) H Q := by
  refine .inr (.inl ⟨a, b, xs, ys, rfl, rfl, SqT.of h1, SqT.of h2, sz hz, fun e => ?_, fun _ e => ?_, fun _ _ p hp => ?_⟩)
  · subst e; exact k _ _ (Evl.Ex.refl _) h2
  · subst e; exact k _ _ (Evl.Ex.refl _) (by rw [List.append_nil]; exact h1)
  · exact k _ _ (Evl.Ex.new hp) upd_same
theorem l_slX {K : PySem.W.Frag} {H : Hp} {Q : VK} {a : Addr} {xs : List V} {lo hi : Option Int} (h : H a = some (.tup xs)) (k : ∀ p H', Ex H H' → H' p = some (.tup (cutV xs lo hi)) → Q (.ref p) H') : rSlP K (.ref a) lo hi H Q := by
  refine .inr ⟨a, xs, rfl, SqT.of h, fun e => ?_, fun _ p hp => k _ _ (Evl.Ex.new hp) upd_same⟩
  refine k _ _ (Evl.Ex.refl _) ?_
  have : cutV xs lo hi = xs := by unfold cutV; rw [e.1, e.2]; simp
  rw [this]; exact h
theorem l_mulX {K : PySem.W.Frag} {H : Hp} {Q : VK} {a : Addr} {xs : List V} {m : Int} (h1 : H a = some (.tup xs)) (hn : xs ≠ []) (hx : xs.length ≤ 1000) (hk : 1 ≤ m ∧ m ≤ 1000) (k : ∀ p H', Ex H H' → H' p = some (.tup (List.replicate m.toNat xs).flatten) → Q (.ref p) H') : rMulP K (.ref a) (.int m) H Q := by
  by_cases e : m = 1
  · subst e
    exact .inr (.inl ⟨a, 1, xs, rfl, rfl, SqT.of h1, rfl, k _ _ (Evl.Ex.refl _) (by simpa using h1)⟩)
  · exact .inr (.inr (.inl ⟨a, m, xs, rfl, rfl, SqT.of h1, hn, by omega, hk.2, hx, fun p hp => k _ _ (Evl.Ex.new hp) upd_same⟩))
theorem Pot.apart {H : Hp} {p a : Addr} {xs : List V} (hp : Pot H p) (h : H a = some (.tup xs)) : a ≠ p := fun z => by
  obtain ⟨_, hq⟩ := hp.lst
  rw [z, hq] at h
  cases h
abbrev DM := List (List Int × V)
def dmK (m : DM) : List (List Key × V) := m.map fun p => (p.1.map Sum.inl, p.2)
def DW (H : Hp) (d : Addr) (m : DM) : Prop := H d = some (.dT (dmK m))
theorem valV_dmK (w : List Int) : ∀ m : DM, valV (dmK m) (w.map Sum.inl) = valV m w
  | [] => rfl
  | p :: m => by
    by_cases e : p.1 = w
    · rw [valV_pos e, show dmK (p :: m) = (p.1.map Sum.inl, p.2) :: dmK m from rfl, valV_pos (by rw [e])]
    · rw [valV_neg e, show dmK (p :: m) = (p.1.map Sum.inl, p.2) :: dmK m from rfl, valV_neg (fun z => e (map_inl _ _ z))]
      exact valV_dmK w m
theorem putK_dmK (w : List Int) (v : V) (m : DM) : putK (dmK m) (w.map Sum.inl) v = dmK (putK m w v) := by
  have ea : ((dmK m).any fun kv => decide (kv.1 = w.map Sum.inl)) = (m.any fun kv => decide (kv.1 = w)) := by
    rw [valV_any, valV_any, valV_dmK]
  unfold putK
  rw [ea]
  split
  · unfold dmK
    rw [List.map_map, List.map_map]
    refine List.map_congr_left fun p _ => ?_
    show (if p.1.map Sum.inl = w.map Sum.inl then (p.1.map Sum.inl, v) else (p.1.map Sum.inl, p.2)) = _
    by_cases e : p.1 = w
    · rw [if_pos (by rw [e])]; simp [e]
    · rw [if_neg (fun z => e (map_inl _ _ z))]; simp [e]
  · unfold dmK
    rw [List.map_append]
    rfl
theorem keys_put {κ : Type} [DecidableEq κ] (m : List (κ × V)) (k : κ) (v : V) : (putK m k v).map (·.1) = if k ∈ m.map (·.1) then m.map (·.1) else m.map (·.1) ++ [k] := by
  unfold putK
  by_cases h : k ∈ m.map (·.1)
  · have : (m.any fun kv => decide (kv.1 = k)) = true := by
      obtain ⟨p, hp, e⟩ := List.mem_map.mp h
      exact List.any_eq_true.mpr ⟨p, hp, decide_eq_true e⟩
    rw [if_pos this, if_pos h, List.map_map]
    refine List.map_congr_left fun p _ => ?_
    show (if p.1 = k then (p.1, v) else p).1 = p.1
    split <;> rfl
  · have : ¬ (m.any fun kv => decide (kv.1 = k)) = true := fun z => by
      obtain ⟨p, hp, e⟩ := List.any_eq_true.mp z
      exact h (List.mem_map.mpr ⟨p, hp, of_decide_eq_true e⟩)
    rw [if_neg this, if_neg h, List.map_append]
    rfl
/-- the keys of m are ws, each once -/
def Keys (m : DM) (ws : List (List Int)) : Prop := (∀ w, w ∈ m.map (·.1) ↔ w ∈ ws) ∧ (m.map (·.1)).Nodup
theorem Keys.nil : Keys [] [] := ⟨fun _ => Iff.rfl, List.nodup_nil⟩
theorem Keys.put {m : DM} {ws : List (List Int)} (h : Keys m ws) (w : List Int) (v : V) : Keys (putK m w v) (ws ++ [w]) := by
  unfold Keys
  rw [keys_put]
  by_cases e : w ∈ m.map (·.1)
  · rw [if_pos e]
    refine ⟨fun u => ?_, h.2⟩
    rw [h.1 u, List.mem_append, List.mem_singleton]
    exact ⟨.inl, fun z => z.elim id fun z => z ▸ (h.1 w).mp e⟩
  · rw [if_neg e]
    refine ⟨fun u => by rw [List.mem_append, List.mem_append, h.1 u], List.nodup_append.mpr ⟨h.2, by simp, fun a ha b hb z => ?_⟩⟩
    rw [List.mem_singleton] at hb
    subst hb
    subst z
    exact e ha
theorem nodup_len_le {α : Type} [BEq α] [LawfulBEq α] : ∀ {l D : List α}, l.Nodup → (∀ x ∈ l, x ∈ D) → l.length ≤ D.length
  | [], _, _, _ => Nat.zero_le _
  | x :: l, D, nd, sub => by
    rw [List.nodup_cons] at nd
    have hx := sub x (by simp)
    have h := nodup_len_le (l := l) (D := D.erase x) nd.2 fun y hy => (List.mem_erase_of_ne (fun z => by subst z; exact nd.1 hy)).mpr (sub y (by simp [hy]))
    have e := List.length_erase_of_mem hx
    have p := List.length_pos_of_mem hx
    simp only [List.length_cons]
    omega
theorem Keys.len {m : DM} {ws : List (List Int)} (h : Keys m ws) : m.length ≤ ws.length := by
  have := nodup_len_le h.2 fun w hw => (h.1 w).mp hw
  rwa [List.length_map] at this
theorem Keys.val {m : DM} {ws : List (List Int)} (h : Keys m ws) (w : List Int) : (valV m w).isSome = decide (w ∈ ws) := by
  rw [← valV_any]
  have : (m.any fun kv => decide (kv.1 = w)) = decide (w ∈ m.map (·.1)) := by
    rw [Bool.eq_iff_iff, List.any_eq_true, decide_eq_true_eq, List.mem_map]
    exact ⟨fun ⟨p, hp, e⟩ => ⟨p, hp, of_decide_eq_true e⟩, fun ⟨p, hp, e⟩ => ⟨p, hp, decide_eq_true e⟩⟩
  rw [this]
  exact decide_eq_decide.mpr (h.1 w)
theorem mapKV (w : List Int) : w.map V.int = (w.map (Sum.inl (β := Str))).map kV := by rw [List.map_map]; rfl
section
variable {K : PySem.W.Frag} {H : Hp} {Q : VK} {d b : Addr} {m : DM} {w : List Int} {v : V}
theorem w_dnew {σ : L2.St} (k : ∀ p H', H p = none → Ex H H' → DW H' p [] → Q (.ref p) H') : tDNewT σ H Q := fun p hp => k p _ hp (Evl.Ex.new hp) upd_same
theorem l_dput {R : Hp → Prop} (h : DW H d m) (hw : H b = some (.tup (w.map V.int))) (hl : m.length < 100000) (k : ∀ H', ExB d H H' → DW H' d (putK m w v) → R H') : rSetA (.ref d) (.ref b) v H R := by
  refine .inr ⟨d, _, rfl, DPut.t (k := w.map Sum.inl) h (by rw [← mapKV]; exact hw) (by unfold dmK; rw [List.length_map]; exact szl hl), k _ ExB.upd ?_⟩
  show upd H d _ d = _
  rw [upd_same, putK_dmK]
theorem DW.get (h : DW H d m) (hw : H b = some (.tup (w.map V.int))) : DGet H d (.ref b) (valV m w) := by
  have := DGet.t (k := w.map Sum.inl) h (by rw [← mapKV]; exact hw)
  rwa [valV_dmK] at this
theorem l_din (h : DW H d m) (hw : H b = some (.tup (w.map V.int))) (k : Q (.bl (valV m w).isSome) H) : rInA K (.ref b) (.ref d) H Q := .inr (.inr ⟨d, _, rfl, h.get hw, k⟩)
theorem l_dnotin (h : DW H d m) (hw : H b = some (.tup (w.map V.int))) (k : Q (.bl (!(valV m w).isSome)) H) : rNotInA K (.ref b) (.ref d) H Q := .inr (.inr ⟨d, _, rfl, h.get hw, k⟩)
theorem l_dix (h : DW H d m) (hw : H b = some (.tup (w.map V.int))) (hv : valV m w = some v) (k : Q v H) : rIxA K (.ref d) (.ref b) H Q := .inr ⟨d, v, rfl, by rw [← hv]; exact h.get hw, k⟩
theorem l_dlen (h : DW H d m) (k : Q (.int (m.length : Nat)) H) : rLenQ K [.ref d] H Q := .inr ⟨d, _, rfl, h, by unfold dmK; rw [List.length_map]; exact k⟩
theorem DW.mono {H' : Hp} (e : Ex H H') (h : DW H d m) : DW H' d m := e _ _ h
theorem DW.fresh {p : Addr} (h : DW H d m) (n : H p = none) : d ≠ p := ne_of_none h n
end
theorem ks_wxs {H : Hp} : ∀ {ks : KS}, (∀ q ∈ ks, H q.1 = some (.tup (q.2.map V.int))) → Wxs H (refsV ks) (ks.map (·.2))
  | [], _ => .nil
  | p :: ks, h => .cons ⟨p.1, rfl, h p (by simp)⟩ (ks_wxs fun q hq => h q (by simp [hq]))
/-- sorted(d): the keys, by their codes -/
theorem l_sortDW {K : PySem.W.Frag} {H : Hp} {Q : VK} {a : Addr} {m : DM} {ws : List (List Int)} {d : Nat} {B : Int} (h : DW H a m) (hk : Keys m ws) (hb : Wb d B ws) (hd : 2 ≤ ws.length → 1 ≤ d)
    (k : ∀ ys us p H', Ring B us ws → H p = none → Ex H H' → H' p = some (.lst ys) → Wxs H' ys us → Q (.ref p) H') : rSortA K [.ref a] H Q := by
  have hb' : ∀ w ∈ m.map (·.1), w.length = d ∧ Sg B w := fun w hw => hb w ((hk.1 w).mp hw)
  refine .inr ⟨a, dmK m, m.map (·.1), d, B, rfl, .inl h, by unfold dmK; rw [List.map_map, List.map_map]; rfl, hb', fun h2 => hd ?_, fun ks' p pm hw hr hn => ?_⟩
  · have := hk.len
    rw [List.length_map] at h2
    omega
  · refine k (refsV ks') (ks'.map (·.2)) p _ ⟨fun w => ?_, ?_⟩ hn (Evl.Ex.new hn) upd_same (ks_wxs fun q hq => (Evl.Ex.new hn) _ _ (hw q hq))
    · rw [pm.mem_iff, hk.1 w]
    · have h1 : (ks'.map (·.2)).Pairwise fun u v => TS.code B u ≤ TS.code B v := List.pairwise_map.mpr hr
      have h2 : (ks'.map (·.2)).Pairwise fun u v => u ≠ v := pm.nodup_iff.mpr hk.2
      refine List.Pairwise.imp_of_mem (fun {u v} hu hv h => ?_) (h1.and h2)
      rcases Int.lt_or_eq_of_le h.1 with z | z
      · exact z
      · exact absurd (code_inj (hb' u (pm.mem_iff.mp hu)) (hb' v (pm.mem_iff.mp hv)) z) h.2
/-- the same over exact words -/
def PvFx (H : Hp) (p : List Int → Bool) (ws : List (List Int)) : Addr → Nat → List V → Hp → Prop := fun _ i acc H1 => Ex H H1 ∧ Wxs H1 acc ((ws.take i).filter p)
theorem l_lcX {K : PySem.W.Frag} {σ : L2.St} {H : Hp} {Q : VK} {tt : TT} {a : Addr} {xs : List V} {ws : List (List Int)} {j : Nat} {vs : List Nat} (p : List Int → Bool) (h : SqL K H a xs) (hW : Wxs H xs ws) (hz : xs.length < 100000) (hw : ∀ x, wipe ((wipe σ vs).set j (some x)) vs = wipe σ vs)
    (hv : ∀ x, ((wipe σ vs).set j (some x))[j]? = some (some x))
    (ht : ∀ x w H1, w ∈ ws → Wx H1 x w → Ex H H1 → ∀ Q' : Bool → Hp → Prop, (∀ H2, Ex H1 H2 → Q' (p w) H2) → tt ((wipe σ vs).set j (some x)) H1 Q')
    (hd : ∀ D H1 acc, H D = none → Ex H H1 → H1 D = some (.lst acc) → Wxs H1 acc (ws.filter p) → Q (.ref D) H1) : LcK (gName j) tt (tVar j) vs (Itl K a) σ H Q := by
  refine l_lc walk_list (PvFx H p ws) (fun D H1 n e h1 => ⟨e, .nil⟩) (fun D i acc H1 _ _ p => Evl.ex_l p.1 h) (fun D i acc x H1 H2 hn hi h1 q y => ?_) (fun D acc H1 hn h1 q => ?_)
  · obtain ⟨rfl, hx⟩ := y
    obtain ⟨e, hq⟩ := q
    obtain ⟨w, hw2, hwt⟩ := pd_at hW hx
    refine ⟨hw x, ?_⟩
    refine ht x w _ (List.mem_of_getElem? hw2) (hwt.mono e) e _ fun H3 e3 => ?_
    refine ifb (fun c => ?_) (fun c => ?_)
    · refine w_var (hv x) ?_
      refine lc_end (Pv := PvFx H p ws) (e3 _ _ h1) (by
        have := Paired.length hq
        have h2 : ((ws.take i).filter p).length ≤ (ws.take i).length := List.length_filter_le ..
        rw [List.length_take] at h2
        omega) fun H6 e6 h6 => ⟨ExB.new (e.trans e3) e6 hn, ?_⟩
      rw [take_at hw2, List.filter_append, List.filter_cons, c]
      exact Wxs.lst e6 (e3 _ _ h1) (pd_app (Wxs.mono e3 hq) (.cons (hwt.mono (e.trans e3)) .nil))
    · refine lc_not (Pv := PvFx H p ws) (e3 _ _ h1) ⟨e.trans e3, ?_⟩
      rw [take_at hw2, List.filter_append, List.filter_cons, c]
      simpa using Wxs.mono e3 hq
  · obtain ⟨e, hq⟩ := q
    rw [Paired.length hW, List.take_length] at hq
    exact hd D H1 acc hn e h1 hq
theorem notN_non : (!decide (V.non = V.non)) = false := by simp
theorem notN_ref {a : Addr} : (!decide (V.ref a = V.non)) = true := by simp
theorem isN_non : decide (V.non = V.non) = true := by simp
theorem isN_ref {a : Addr} : decide (V.ref a = V.non) = false := by simp
/-! list.count of flat values; {k: v} -/
def rCntF (K : PySem.W.Frag) : V → List V → Hp → VK → Prop := fun x xs H Q => ∃ (a : Addr) (ys : List V) (y : V), x = .ref a ∧ xs = [y] ∧ SqL K H a ys ∧ flatV y = true ∧ ys.all flatV = true ∧ Q (.int ((ys.countP fun z => eqV z y : Nat))) H
theorem count_rel {y : V} {uy : Value} (ry : RelV y uy) : ∀ {ys : List V} {us : List Value}, Vals ys us → ys.all flatV = true → us.countP (eqU y) = ys.countP fun z => eqV z y
  | _, _, .nil, _ => rfl
  | z :: ys, u :: us, .cons r t, f => by
    rw [List.all_cons, Bool.and_eq_true] at f
    rw [List.countP_cons, List.countP_cons, count_rel ry t f.2, eqU_of r f.1]
theorem mt_countK {X : Cx} {K : PySem.W.Frag} (h : X.K = K) : MtR X "list.count" (rCntF K) := by
  subst h
  intro pins s σ H x xs v us Q I rx rxs h
  obtain ⟨a, ys, y, rfl, rfl, hs, fy, fys, q⟩ := h
  cases rx
  cases rxs with
  | cons ry rt =>
    rename_i uy ut
    cases rt
    obtain ⟨its, rv, ⟨⟨cls, dd, data, sl⟩, n, ho, hc, hdn, hd⟩, hlen⟩ := I.list hs
    simp only at hc hd
    subst hc hd
    refine call_meets PySem.F.slot_list_count ⟨_, ho, rfl⟩ PySem.F.entry_list_count (PySem.F.args_list_count_2 _ _)
      (SeqAt.list_countAt a its.toArray n dd sl uy (eqU y)) ⟨ho, fun u' hu' => mem_eqAt ry fy rv fys u' (by simpa using hu'), ?_⟩
    refine ⟨.int ((its.toArray.toList.countP (eqU y) : Nat) : Int), H, I.tok _, ⟨s.toks, rfl⟩, ?_⟩
    rw [show its.toArray.toList = its from rfl, count_rel ry rv fys]
    exact q
theorem l_cntB {K : PySem.W.Frag} {H : Hp} {Q : VK} {a : Addr} {bs : List Bool} {b : Bool} (h : SqL K H a (bs.map V.bl)) (k : Q (.int ((bs.count b : Nat))) H) : rCntF K (.ref a) [.bl b] H Q := by
  refine ⟨a, _, _, rfl, rfl, h, rfl, List.all_eq_true.mpr fun x hx => by obtain ⟨_, _, rfl⟩ := List.mem_map.mp hx; rfl, ?_⟩
  have e : (bs.map V.bl).countP (fun z => eqV z (.bl b)) = bs.count b := by
    rw [List.countP_map]
    rfl
  rw [e]
  exact k
def tDict1 (tk tv : TE) : TE := fun σ H Q => ∀ p, H p = none → tk σ (upd H p (.dT [])) fun x H1 => tv σ H1 fun y H2 => ∃ b k, H2 p = some (.dT []) ∧ x = .ref b ∧ H2 b = some (.tup (k.map kV)) ∧ Q (.ref p) (upd H2 p (.dT [(k, y)]))
theorem pe_dict1 {X : Cx} {k v : Expr} {tk tv : TE} {pos : Pos} (hu : X.A.units + 65 < cLine) (hk : PE X k tk) (hv : PE X v tv) : PE X (.Dict [some k] [v] pos) (tDict1 tk tv) := by
  refine ⟨fun pins s σ H Q I q => ?_⟩
  have hn := I.hok.fresh (Nat.le_refl s.heap.objs.size)
  have I1 := I.laid (a := s.heap.objs.size) (o := .dT []) (h' := s.heap.push { cls := .type "dict", data := .dict #[] }) (t' := s.toks) (fun _ _ q => Heap.get?_push_of_some _ q) (Nat.le_refl _) (dt_empty s.heap I.big)
  have hru : (tupleKind (mixKind X.prog X.w)).room X.A := (show X.A.units < cLine by omega)
  rw [arm_eval_Dict, zip_pairTrees [some k] [v] X.env pos rfl rfl, dictDisplay_pairs (pairTrees [some k] [v] X.env pos) (fun z => by have := congrArg List.length z; rw [pairTrees_length _ _ _ _ rfl rfl] at this; cases this) (by rw [pairTrees_length _ _ _ _ rfl rfl]; simp)]
  refine wpAny_bind (wpAny_standAt (wpAny_bind (wpAny_subDictH (knd := tupleKind (mixKind X.prog X.w)) hru (by rw [pairTrees_length _ _ _ _ rfl rfl]; simp) (pairTrees_cons_walk
    (thn (hk.run pins _ σ _ _ I1 (q _ hn)) fun u s1 ⟨x, H1, I2, rx, q1⟩ => thn (hv.run pins s1 σ H1 _ I2 q1) fun w2 s2 ⟨y, H2, I3, ry, q2⟩ => pairTrees_nil_walk ?_)))))
  obtain ⟨b, kk, hp, rfl, hb, q3⟩ := q2
  cases rx
  obtain ⟨z, hd, xs, rel, dd⟩ := dt_of I3.hok hp
  cases rel
  refine ⟨[(kk, b, w2)], ⟨rfl, rfl, key_of I3.hok hb, trivial⟩, dd, fun h' tk dd' hs => wpAny_pure ?_⟩
  obtain ⟨o, es, ep, hq, h2, h3, h4, _, h5⟩ := dd'
  refine ⟨.ref s.heap.objs.size, upd H2 s.heap.objs.size (.dT [(kk, y)]), d_write I3 (by rw [hp]; exact True.intro) hs ⟨o, hq⟩ ⟨sz (by simp), hd, [(kk, b, w2)], .cons ⟨rfl, ?_, ry⟩ .nil, o, es, ep, hq, h2, h3, h4, h5⟩, rfl, q3⟩
  rw [upd_ne (ne_of hb hp (fun z => nomatch z))]
  exact hb
theorem w_dict1 {tk tv : TE} {σ : L2.St} {H : Hp} {Q : VK} (k : ∀ p H1, H p = none → Ex H H1 → DW H1 p [] → tk σ H1 fun x H2 => tv σ H2 fun y H3 => ∃ b w, DW H3 p [] ∧ x = .ref b ∧ H3 b = some (.tup (w.map V.int)) ∧ ∀ H4, ExB p H3 H4 → DW H4 p [(w, y)] → Q (.ref p) H4) (mk : ∀ {σ H P Q}, (∀ x H1, P x H1 → Q x H1) → tk σ H P → tk σ H Q) (mv : ∀ {σ H P Q}, (∀ x H1, P x H1 → Q x H1) → tv σ H P → tv σ H Q) : tDict1 tk tv σ H Q := fun p hp => by
  refine mk (fun x H1 h => mv (fun y H2 h => ?_) h) (k p _ hp (Evl.Ex.new hp) upd_same)
  obtain ⟨b, w, h1, rfl, h2, h3⟩ := h
  refine ⟨b, w.map Sum.inl, h1, rfl, by rw [← mapKV]; exact h2, h3 _ ExB.upd upd_same⟩
/-! strong lists: no two members come to one word -/
theorem vt_putM {x : List Int} {M : Int} {i j : Nat} {s t : Int} (hM : (x.length : Int) + 2 ≤ M) (hx : Sg 2 x) (hi : i ≤ x.length) (hj : j ≤ x.length) (hs : 0 ≤ s ∧ s < 2) (ht : 0 ≤ t ∧ t < 2) (h : wsum (putAt x i s) % M = wsum (putAt x j t) % M) : putAt x i s = putAt x j t := by
  refine vt_put hx hi hj hs ht ?_
  have bd : ∀ (k : Nat) (s : Int), k ≤ x.length → (0 ≤ s ∧ s < 2) → wsum x ≤ wsum (putAt x k s) ∧ wsum (putAt x k s) ≤ wsum x + ((x.length : Int) + 1) := fun k s hk hs => by
    rw [wsum_putAt hk]
    have b := sum_bd (hx.drop k)
    rw [List.length_drop] at b
    have hs' : s = 0 ∨ s = 1 := by omega
    rcases hs' with rfl | rfl <;> omega
  have b1 := bd i s hi hs
  have b2 := bd j t hj ht
  rw [emod_sub_0 h (by omega) (by omega) (by omega)]
theorem st_lost {n : Nat} (hn : 1 ≤ n) {a : Int} {u v : List Int} {i j : Nat} (hu : inSL n a u = true) (hv : inSL n a v = true) (su : Sg 2 u) (sv : Sg 2 v) (hi : i < u.length) (hj : j < v.length) (h : lostAt u i = lostAt v j) : u = v := by
  unfold inSL at hu hv
  rw [Bool.and_eq_true, decide_eq_true_eq, decide_eq_true_eq] at hu hv
  have lu := lostAt_len hi
  have lv := lostAt_len hj
  have pu := put_lost hi
  have pv := put_lost hj
  have wu := hu.2.trans hv.2.symm
  rw [pu, pv, ← h] at wu
  rw [pu, pv, ← h]
  exact vt_putM (M := 2 * (n : Int)) (by omega) (lostAt_sg su) (by omega) (by rw [h]; omega) (sg_at su hi) (sg_at sv hj) wu
theorem st_came {n : Nat} (hn : 1 ≤ n) {a : Int} {y : List Int} {i j : Nat} (hu : inSL n a (lostAt y i) = true) (hv : inSL n a (lostAt y j) = true) (sy : Sg 2 y) (hi : i < y.length) (hj : j < y.length) : lostAt y i = lostAt y j := by
  rcases Nat.lt_trichotomy i j with c | c | c
  · exact st_lost hn hu hv (lostAt_sg sy) (lostAt_sg sy) (by rw [lostAt_len hi]; omega) (by rw [lostAt_len hj]; omega) (lost_lost c hj)
  · rw [c]
  · exact (st_lost hn hv hu (lostAt_sg sy) (lostAt_sg sy) (by rw [lostAt_len hj]; omega) (by rw [lostAt_len hi]; omega) (lost_lost c hi)).symm
theorem split_at {w : List Int} {k : Nat} (h : k < w.length) : w = w.take k ++ [w.getD k 0] ++ w.drop (k + 1) := by
  rw [List.append_assoc]
  have e : [w.getD k 0] ++ w.drop (k + 1) = w.drop k := by
    rw [List.drop_eq_getElem_cons h]
    simp [List.getD, h]
  rw [e, List.take_append_drop]
theorem chg_self {w : List Int} {k : Nat} (h : k < w.length) : chgAt w k (w.getD k 0) = w := (split_at h).symm
theorem chg_back {w : List Int} {k : Nat} {s : Int} (hk : k < w.length) : chgAt (chgAt w k s) k (w.getD k 0) = w := by
  have lt : (w.take k).length = k := by rw [List.length_take]; omega
  have h1 : (chgAt w k s).take k = w.take k := by
    unfold chgAt
    rw [List.append_assoc, List.take_append_of_le_length (by omega), List.take_of_length_le (by omega)]
  have h2 : (chgAt w k s).drop (k + 1) = w.drop (k + 1) := by
    unfold chgAt
    have l2 : (w.take k ++ [s]).length = k + 1 := by simp; omega
    rw [← l2, List.drop_left]
  have e : chgAt (chgAt w k s) k (w.getD k 0) = (chgAt w k s).take k ++ [w.getD k 0] ++ (chgAt w k s).drop (k + 1) := rfl
  rw [e, h1, h2]
  exact chg_self hk
theorem wsum_chgAt {w : List Int} {k : Nat} {s : Int} (h : k < w.length) : wsum (chgAt w k s) = wsum w + ((k : Int) + 1) * (s - w.getD k 0) := by
  have key : ∀ s : Int, wsum (w.take k ++ [s] ++ w.drop (k + 1)) = wsum (w.take k) + ((k : Int) + 1) * s + wsum (w.drop (k + 1)) + ((k : Int) + 1) * (w.drop (k + 1)).sum := fun s => by
    rw [wsum_append, wsum_snoc, List.length_append, List.length_take, Nat.min_eq_left (by omega), List.length_singleton]
    rw [show ((k + 1 : Nat) : Int) = (k : Int) + 1 by omega]
  have e := key (w.getD k 0)
  rw [← split_at h] at e
  unfold chgAt
  rw [key s, e, Int.mul_sub]
  omega
theorem st_chg {n : Nat} (hn : 1 ≤ n) {a : Int} {y : List Int} {i j : Nat} {s t : Int} (hl : y.length = n) (hu : inSL n a (chgAt y i s) = true) (hv : inSL n a (chgAt y j t) = true) (sy : Sg 2 y) (hi : i < n) (hj : j < n) (hs : 0 ≤ s ∧ s < 2) (ht : 0 ≤ t ∧ t < 2) : chgAt y i s = chgAt y j t := by
  unfold inSL at hu hv
  rw [Bool.and_eq_true, decide_eq_true_eq, decide_eq_true_eq] at hu hv
  have wu := hu.2.trans hv.2.symm
  rw [wsum_chgAt (by omega), wsum_chgAt (by omega)] at wu
  have gi := sg_at sy (k := i) (by omega)
  have gj := sg_at sy (k := j) (by omega)
  have ei : y.getD i 0 = s ∨ y.getD i 0 = 0 ∧ s = 1 ∨ y.getD i 0 = 1 ∧ s = 0 := by omega
  have ej : y.getD j 0 = t ∨ y.getD j 0 = 0 ∧ t = 1 ∨ y.getD j 0 = 1 ∧ t = 0 := by omega
  have same : ∀ {A B : Int}, (wsum y + A) % (2 * (n : Int)) = (wsum y + B) % (2 * (n : Int)) → -(2 * (n : Int)) < A - B → A - B < 2 * (n : Int) → A = B := fun h h1 h2 => by
    have := emod_sub_0 h (by omega) (by omega) (by omega)
    omega
  have zi : y.getD i 0 = s → chgAt y i s = y := fun e => by rw [← e]; exact chg_self (by omega)
  have zj : y.getD j 0 = t → chgAt y j t = y := fun e => by rw [← e]; exact chg_self (by omega)
  rcases ei with e | ⟨e, rfl⟩ | ⟨e, rfl⟩ <;> rcases ej with f | ⟨f, rfl⟩ | ⟨f, rfl⟩
  · rw [zi e, zj f]
  · rw [e, f] at wu
    have := same wu (by omega) (by omega)
    omega
  · rw [e, f] at wu
    have := same wu (by omega) (by omega)
    omega
  · rw [e, f] at wu
    have := same wu (by omega) (by omega)
    omega
  · rw [e, f] at wu
    have := same wu (by omega) (by omega)
    have : i = j := by omega
    rw [this]
  · rw [e, f] at wu
    by_cases c : i = n - 1 ∧ j = n - 1
    · exfalso
      rw [c.1] at e
      rw [c.2] at f
      omega
    · have := same wu (by omega) (by omega)
      omega
  · rw [e, f] at wu
    have := same wu (by omega) (by omega)
    omega
  · rw [e, f] at wu
    by_cases c : i = n - 1 ∧ j = n - 1
    · exfalso
      rw [c.1] at e
      rw [c.2] at f
      omega
    · have := same wu (by omega) (by omega)
      omega
  · rw [e, f] at wu
    have := same wu (by omega) (by omega)
    have : i = j := by omega
    rw [this]
/-! things that are none: numbers out of a range, what is no word -/
def numIn (lo hi : Int) : V → Bool
  | .int i => decide (lo ≤ i) && decide (i ≤ hi)
  | _ => false
theorem numIn_int {lo hi i : Int} : numIn lo hi (.int i) = (decide (lo ≤ i) && decide (i ≤ hi)) := rfl
/-- what is let out: of that class, told of nothing more -/
def Rz (K : PySem.W.Frag) (E : XK) (H : Hp) (nm : Str) : Prop := ∃ C, PySem.W.nsIn K mainGlobals nm = some (some (.ref C)) ∧ ∀ H', Ex H H' → E (.ref C) none H'
theorem Rz.mono {K : PySem.W.Frag} {E : XK} {H H1 : Hp} {nm : Str} (e : Ex H H1) (h : Rz K E H nm) : Rz K E H1 nm := by
  obtain ⟨C, hC, k⟩ := h
  exact ⟨C, hC, fun H' e' => k H' (e.trans e')⟩
theorem Rz.at_ {K : PySem.W.Frag} {E : XK} {H H' : Hp} {nm : Str} {C : Addr} (h : Rz K E H nm) (n : PySem.W.nsIn K mainGlobals nm = some (some (.ref C))) (e : Ex H H') : E (.ref C) none H' := by
  obtain ⟨D, hD, k⟩ := h
  rw [hD] at n
  cases n
  exact k _ e
inductive BadW (K : PySem.W.Frag) (H : Hp) (q : Int) : V → Prop where
  | kind {x : V} {T : String} (h : Kd K H x T) (n : kitB T "tuple" = some false) : BadW K H q x
  | long {a : Addr} {xs : List V} (h : SqT K H a xs) (hl : 60 < xs.length) : BadW K H q (.ref a)
  | sign {a : Addr} {xs : List V} (h : SqT K H a xs) (hl : xs.length ≤ 60) (hk : ∀ y ∈ xs, ∃ T, Kd K H y T) (hb : xs.all (signOk q) = false) : BadW K H q (.ref a)
theorem BadW.mono {K : PySem.W.Frag} {H H' : Hp} {q : Int} {x : V} (e : Ex H H') (h : BadW K H q x) : BadW K H' q x := by
  cases h with
  | kind h n => exact .kind (h.mono e) n
  | long h hl => exact .long (Evl.ex_t e h) hl
  | sign h hl hk hb => exact .sign (Evl.ex_t e h) hl (fun y hy => let ⟨T, hT⟩ := hk y hy; ⟨T, hT.mono e⟩) hb
/-- x is the word r, or none -/
inductive WT (K : PySem.W.Frag) (H : Hp) (q : Int) : V → Option (List Int) → Prop where
  | good {x : V} {ns : List Int} (h : Wd K H q x ns) : WT K H q x (some ns)
  | bad {x : V} (h : BadW K H q x) : WT K H q x none
theorem WT.mono {K : PySem.W.Frag} {H H' : Hp} {q : Int} {x : V} {r : Option (List Int)} (e : Ex H H') (h : WT K H q x r) : WT K H' q x r := by
  cases h with
  | good h => exact .good (h.mono e)
  | bad h => exact .bad (h.mono e)
theorem all_signs {q : Int} : ∀ {xs : List V}, xs.all (signOk q) = true → ∃ ns : List Int, xs = ns.map V.int ∧ Sg q ns
  | [], _ => ⟨[], rfl, Sg.nil⟩
  | x :: xs, h => by
    rw [List.all_cons, Bool.and_eq_true] at h
    obtain ⟨ns, rfl, hs⟩ := all_signs h.2
    cases x with
    | int i =>
      have h1 : (decide (0 ≤ i) && decide (i < q)) = true := h.1
      rw [Bool.and_eq_true, decide_eq_true_eq, decide_eq_true_eq] at h1
      exact ⟨i :: ns, rfl, fun m hm => (List.mem_cons.mp hm).elim (fun z => z ▸ h1) (hs m)⟩
    | _ => exact absurd h.1 (by simp [signOk])
theorem wt_tup {K : PySem.W.Frag} {H : Hp} {a : Addr} {xs : List V} (q : Int) (h : SqT K H a xs) (hk : ∀ y ∈ xs, ∃ T, Kd K H y T) : ∃ r, WT K H q (.ref a) r := by
  by_cases hl : xs.length ≤ 60
  · cases hb : xs.all (signOk q) with
    | false => exact ⟨none, .bad (.sign h hl hk hb)⟩
    | true =>
      obtain ⟨ns, rfl, hs⟩ := all_signs hb
      exact ⟨some ns, .good ⟨a, rfl, h, by rw [List.length_map] at hl; exact hl, hs⟩⟩
  · exact ⟨none, .bad (.long h (by omega))⟩
theorem kd_ints {K : PySem.W.Frag} {H : Hp} {ns : List Int} : ∀ y ∈ ns.map V.int, ∃ T, Kd K H y T := fun y hy => by
  obtain ⟨i, _, rfl⟩ := List.mem_map.mp hy
  exact ⟨"int", .int i⟩
theorem pick {xs : List V} {d : Int} (h0 : 0 ≤ d) (h1 : d < xs.length) : ∃ v, atI xs d = some v ∧ v ∈ xs := by
  obtain ⟨k, rfl⟩ : ∃ k : Nat, d = k := ⟨d.toNat, by omega⟩
  have hk : k < xs.length := by omega
  exact ⟨xs[k], atI_nat (List.getElem?_eq_getElem hk), List.getElem_mem hk⟩
theorem l_idxB {K : PySem.W.Frag} {H : Hp} {Q : VK} {a : Addr} {bs : List Bool} {j : Nat} (h : SqL K H a (bs.map V.bl)) (hj : bs[j]? = some true) (hn : ∀ m, m < j → bs[m]? ≠ some true) (k : Q (.int (j : Nat)) H) : rIndex K (.ref a) [.bl true] H Q := by
  refine ⟨a, _, _, j, .bl true, rfl, rfl, h, rfl, List.all_eq_true.mpr fun x hx => by obtain ⟨_, _, rfl⟩ := List.mem_map.mp hx; rfl, by rw [List.getElem?_map, hj]; rfl, rfl, fun m z hm hz => ?_, k⟩
  rw [List.getElem?_map] at hz
  obtain ⟨b, hb, rfl⟩ := Option.map_eq_some_iff.mp hz
  cases b with
  | true => exact absurd hb (hn m hm)
  | false => rfl
theorem l_neS {K : PySem.W.Frag} {H : Hp} {Q : VK} {a b : Str} (k : Q (.bl (!decide (a = b))) H) : rNeP K (.str a) (.str b) H Q := .inl ⟨rfl, by rw [show decide (V.str a = V.str b) = decide (a = b) by simp]; exact k⟩
theorem l_cntBn {K : PySem.W.Frag} {H : Hp} {Q : VK} {a : Addr} (bs : List Bool) (n : Nat) {b : Bool} (h : H a = some (.lst (bs.map V.bl))) (hn : bs.count b = n) (k : Q (.int (n : Nat)) H) : rCntF K (.ref a) [.bl b] H Q := l_cntB (SqL.of h) (by rw [hn]; exact k)
theorem l_idxBn {K : PySem.W.Frag} {H : Hp} {Q : VK} {a : Addr} (bs : List Bool) (j : Nat) (h : H a = some (.lst (bs.map V.bl))) (hj : bs[j]? = some true) (hn : (bs.take j).all (!·) = true) (k : Q (.int (j : Nat)) H) : rIndex K (.ref a) [.bl true] H Q :=
  l_idxB (SqL.of h) hj (fun m hm e => by
    have h1 : (bs.take j)[m]? = some true := by rw [List.getElem?_take, if_pos hm]; exact e
    have := List.all_eq_true.mp hn true (List.mem_of_getElem? h1)
    simp at this) k
theorem w_dnk {σ : L2.St} {H : Hp} {Q : VK} (k : ∀ p H', H p = none → Ex H H' → H' p = some (.dK []) → Q (.ref p) H') : tDNewK σ H Q := fun p hp => k p _ hp (Evl.Ex.new hp) upd_same
theorem kd_exB {K : PySem.W.Frag} {H H' : Hp} {p : Addr} {ys ys' : List V} {x : V} {T : String} (e : ExB p H H') (hp : H p = some (.lst ys)) (hp' : H' p = some (.lst ys')) (h : Kd K H x T) : Kd K H' x T := by
  cases h with
  | non => exact .non
  | bl b => exact .bl b
  | int i => exact .int i
  | str x => exact .str x
  | tup h => exact .tup (exB_t e hp h)
  | @lst a xs h =>
    by_cases c : a = p
    · subst c; exact .lst (SqL.of hp')
    · exact .lst (exB_l e c h)
  | dct h => exact .dct (e _ _ (fun z => by subst z; rw [hp] at h; cases h) h)
theorem BadW.exB {K : PySem.W.Frag} {H H' : Hp} {p : Addr} {ys ys' : List V} {q : Int} {x : V} (e : ExB p H H') (hp : H p = some (.lst ys)) (hp' : H' p = some (.lst ys')) (h : BadW K H q x) : BadW K H' q x := by
  cases h with
  | kind h n => exact .kind (kd_exB e hp hp' h) n
  | long h hl => exact .long (exB_t e hp h) hl
  | sign h hl hk hb => exact .sign (exB_t e hp h) hl (fun y hy => let ⟨T, hT⟩ := hk y hy; ⟨T, kd_exB e hp hp' hT⟩) hb
theorem WT.exB {K : PySem.W.Frag} {H H' : Hp} {p : Addr} {ys ys' : List V} {q : Int} {x : V} {r : Option (List Int)} (e : ExB p H H') (hp : H p = some (.lst ys)) (hp' : H' p = some (.lst ys')) (h : WT K H q x r) : WT K H' q x r := by
  cases h with
  | good h =>
    obtain ⟨a, rfl, h1, h2⟩ := h
    exact .good ⟨a, rfl, exB_t e hp h1, h2⟩
  | bad h => exact .bad (h.exB e hp hp')
theorem wt_kind {K : PySem.W.Frag} {H : Hp} {q : Int} {x : V} {T : String} (h : Kd K H x T) (n : kitB T "tuple" = some false) : ∃ r, WT K H q x r := ⟨none, .bad (.kind h n)⟩
theorem kd_mem {K : PySem.W.Frag} {H : Hp} {x : V} {xs : List V} (h : ∃ T, Kd K H x T) (t : ∀ y ∈ xs, ∃ T, Kd K H y T) : ∀ y ∈ x :: xs, ∃ T, Kd K H y T := fun y hy => (List.mem_cons.mp hy).elim (fun e => e ▸ h) (t y)
theorem kd_nil {K : PySem.W.Frag} {H : Hp} : ∀ y ∈ ([] : List V), ∃ T, Kd K H y T := fun y hy => by cases hy
theorem wt_mem {K : PySem.W.Frag} {H : Hp} {q : Int} {x : V} {xs : List V} (h : ∃ r, WT K H q x r) (t : ∀ y ∈ xs, ∃ r, WT K H q y r) : ∀ y ∈ x :: xs, ∃ r, WT K H q y r := fun y hy => (List.mem_cons.mp hy).elim (fun e => e ▸ h) (t y)
theorem wt_nil {K : PySem.W.Frag} {H : Hp} {q : Int} : ∀ y ∈ ([] : List V), ∃ r, WT K H q y r := fun y hy => by cases hy
theorem l_tupLX {K : PySem.W.Frag} {H : Hp} {Q : VK} {a : Addr} {xs : List V} (h : SqL K H a xs) (k : ∀ p H', H p = none → Ex H H' → H' p = some (.tup xs) → Q (.ref p) H') : rTupOf K [.ref a] H Q := ⟨a, xs, rfl, .inl ⟨h, fun l hl => k _ _ hl (Evl.Ex.new hl) upd_same⟩⟩
theorem dp_nil {K : PySem.W.Frag} {H : Hp} {a : Addr} (h : H a = some (.tup [])) : Dp K H (.ref a) (.tuple (([] : List Int).map PyData.int)) := .tup (SqT.of h) .nil
/-- word != () -/
theorem l_neNil {K : PySem.W.Frag} {H : Hp} {Q : VK} {a b : Addr} {w : List Int} (h1 : SqT K H a (w.map V.int)) (h2 : H b = some (.tup [])) (k : Q (.bl (!decide (w = []))) H) : rNeP K (.ref a) (.ref b) H Q :=
  l_neD (.tup h1 (dp_ints w)) (dp_nil h2) (shaped_ints w) (shaped_ints []) (by rw [eqvT_ints]; exact k)
theorem l_eqNil {K : PySem.W.Frag} {H : Hp} {Q : VK} {a b : Addr} {w : List Int} (h1 : SqT K H a (w.map V.int)) (h2 : H b = some (.tup [])) (k : Q (.bl (decide (w = []))) H) : rEqP K (.ref a) (.ref b) H Q :=
  l_eqD (.tup h1 (dp_ints w)) (dp_nil h2) (shaped_ints w) (shaped_ints []) (by rw [eqvT_ints]; exact k)
theorem l_neW {K : PySem.W.Frag} {H : Hp} {Q : VK} {x y : V} {u w : List Int} (h1 : Wt K H x u) (h2 : Wt K H y w) (k : Q (.bl (!decide (u = w))) H) : rNeP K x y H Q := by
  obtain ⟨a, rfl, h1⟩ := h1
  obtain ⟨b, rfl, h2⟩ := h2
  exact l_neD (.tup h1 (dp_ints u)) (.tup h2 (dp_ints w)) (shaped_ints u) (shaped_ints w) (by rw [eqvT_ints]; exact k)
/-! strong lists: what came, and the member -/
def candsS (n : Nat) (c : List Int) : List (List Int) := if c.length = n then [c] ++ chgs 2 c else if (c.length : Int) = (n : Int) - 1 then puts 2 c else losts c
theorem in_chgs {n : Nat} {c u : List Int} (hn : 1 ≤ n) (lc : c.length = n) (sc : Sg 2 c) (hu : u ∈ [c] ++ chgs 2 c) : ∃ k s, k < n ∧ (0 ≤ s ∧ s < 2) ∧ u = chgAt c k s := by
  rcases List.mem_append.mp hu with hu | hu
  · rw [List.mem_singleton] at hu
    subst hu
    exact ⟨0, u.getD 0 0, by omega, sg_at sc (by omega), (chg_self (by omega)).symm⟩
  · obtain ⟨k, s, hk, hs, e⟩ := mem_chgs.mp hu
    exact ⟨k, s, by omega, hs, e⟩
theorem candsS_one {n : Nat} (hn : 1 ≤ n) {a : Int} {c u v : List Int} (hl : c.length ≤ n + 1 ∧ n ≤ c.length + 1) (sc : Sg 2 c) (hu : u ∈ candsS n c) (hv : v ∈ candsS n c) (mu : inSL n a u = true) (mv : inSL n a v = true) : u = v := by
  unfold candsS at hu hv
  split at hu
  · rename_i z
    rw [if_pos z] at hv
    obtain ⟨i, s, hi, hs, rfl⟩ := in_chgs hn z sc hu
    obtain ⟨j, t, hj, ht, rfl⟩ := in_chgs hn z sc hv
    exact st_chg hn z mu mv sc hi hj hs ht
  · rename_i z
    rw [if_neg z] at hv
    split at hu
    · rename_i z2
      rw [if_pos z2] at hv
      obtain ⟨i, s, hi, hs, rfl⟩ := mem_puts.mp hu
      obtain ⟨j, t, hj, ht, rfl⟩ := mem_puts.mp hv
      exact st_lost hn mu mv (putAt_sg sc hs) (putAt_sg sc ht) (by rw [putAt_len hi]; omega) (by rw [putAt_len hj]; omega) ((lost_put hi).trans (lost_put hj).symm)
    · rename_i z2
      rw [if_neg z2] at hv
      obtain ⟨i, hi, rfl⟩ := mem_losts.mp hu
      obtain ⟨j, hj, rfl⟩ := mem_losts.mp hv
      exact st_came hn mu mv sc hi hj
theorem candsS_wd {n : Nat} {c u : List Int} (sc : Sg 2 c) (hl : c.length ≤ n + 1 ∧ n ≤ c.length + 1) (hu : u ∈ candsS n c) : u.length = n ∧ Sg 2 u := by
  unfold candsS at hu
  split at hu
  · rename_i z
    rcases List.mem_append.mp hu with hu | hu
    · rw [List.mem_singleton] at hu; subst hu; exact ⟨z, sc⟩
    · have := chgs_wb sc u hu; exact ⟨by omega, this.2⟩
  · split at hu
    · have := puts_wb sc u hu; exact ⟨by omega, this.2⟩
    · have := losts_wb sc u hu; exact ⟨by omega, this.2⟩
def MendS (K : PySem.W.Frag) (H : Hp) (n : Nat) (a : Int) (c : List Int) (v : V) : Prop := (∃ u, Wt K H v u ∧ u ∈ candsS n c ∧ inSL n a u = true) ∨ (v = .non ∧ ∀ u ∈ candsS n c, inSL n a u = false)
/-- what may come of w by one loss, one putting in, one change, nothing -/
def comeS (w : List Int) : List (List Int) := [w] ++ losts w ++ puts 2 w ++ chgs 2 w
theorem comeS_cand {n : Nat} {w c : List Int} (hn : 1 ≤ n) (hl : w.length = n) (sw : Sg 2 w) (h : c ∈ comeS w) : Sg 2 c ∧ (c.length ≤ n + 1 ∧ n ≤ c.length + 1) ∧ w ∈ candsS n c := by
  unfold comeS at h
  rcases List.mem_append.mp h with h | h
  · rcases List.mem_append.mp h with h | h
    · rcases List.mem_append.mp h with h | h
      · rw [List.mem_singleton] at h
        subst h
        refine ⟨sw, by omega, ?_⟩
        unfold candsS
        rw [if_pos hl]
        simp
      · obtain ⟨k, hk, rfl⟩ := mem_losts.mp h
        have := lostAt_len hk
        refine ⟨lostAt_sg sw, by omega, ?_⟩
        unfold candsS
        rw [if_neg (by omega), if_pos (by omega)]
        exact mem_puts.mpr ⟨k, w.getD k 0, by omega, sg_at sw hk, put_lost hk⟩
    · obtain ⟨k, s, hk, hs, rfl⟩ := mem_puts.mp h
      have := putAt_len (s := s) hk
      refine ⟨putAt_sg sw hs, by omega, ?_⟩
      unfold candsS
      rw [if_neg (by omega), if_neg (by omega)]
      exact mem_losts.mpr ⟨k, by omega, (lost_put hk).symm⟩
  · obtain ⟨k, s, hk, hs, rfl⟩ := mem_chgs.mp h
    have lk := chgAt_len (s := s) hk
    refine ⟨chgAt_sg sw hs, by omega, ?_⟩
    unfold candsS
    rw [if_pos (by omega)]
    refine List.mem_append_right _ (mem_chgs.mpr ⟨k, w.getD k 0, by omega, sg_at sw hk, ?_⟩)
    exact (chg_back hk).symm
/-! truths as data -/
theorem dp_bls {K : PySem.W.Frag} {H : Hp} : ∀ bs : List Bool, DpAll K H (bs.map V.bl) (bs.map PyData.bool)
  | [] => .nil
  | b :: bs => .cons (.bl b) (dp_bls bs)
theorem lay_bls : ∀ bs : List Bool, PyData.canLayAll0 (bs.map PyData.bool) = true ∧ PyData.depthAll (bs.map PyData.bool) = 0
  | [] => ⟨rfl, rfl⟩
  | b :: bs => by
    obtain ⟨h1, h2⟩ := lay_bls bs
    refine ⟨?_, ?_⟩
    · show (PyData.canLay0 (.bool b) && PyData.canLayAll0 (bs.map PyData.bool)) = true
      rw [h1]; rfl
    · show max (PyData.depth (.bool b)) (PyData.depthAll (bs.map PyData.bool)) = 0
      rw [h2]; rfl
theorem shaped_bls (bs : List Bool) : SeqAt.shaped (.list (bs.map PyData.bool)) = true := by
  obtain ⟨h1, h2⟩ := lay_bls bs
  show (PyData.canLayAll0 (bs.map PyData.bool) && decide (PyData.depthAll (bs.map PyData.bool) + 1 ≤ 64)) = true
  rw [h1, h2]; rfl
theorem eqv_bls : ∀ xs ys : List Bool, PyData.eqvAll (xs.map PyData.bool) (ys.map PyData.bool) = decide (xs = ys)
  | [], [] => by simp [PyData.eqvAll]
  | [], _ :: _ => by simp [PyData.eqvAll]
  | _ :: _, [] => by simp [PyData.eqvAll]
  | x :: xs, y :: ys => by
    show (PyData.eqv (.bool x) (.bool y) && PyData.eqvAll (xs.map PyData.bool) (ys.map PyData.bool)) = _
    rw [eqv_bls xs ys]
    have e : PyData.eqv (.bool x) (.bool y) = (x == y) := by cases x <;> cases y <;> rfl
    rw [e]
    cases x <;> cases y <;> simp
theorem l_eqBs {K : PySem.W.Frag} {H : Hp} {Q : VK} {a b : Addr} (bs cs : List Bool) (h1 : H a = some (.lst (bs.map V.bl))) (h2 : H b = some (.lst (cs.map V.bl))) (k : Q (.bl (decide (bs = cs))) H) : rEqP K (.ref a) (.ref b) H Q := by
  refine l_eqD (.lst (SqL.of h1) (dp_bls bs)) (.lst (SqL.of h2) (dp_bls cs)) (shaped_bls _) (shaped_bls _) ?_
  rw [show PyData.eqv (.list (bs.map PyData.bool)) (.list (cs.map PyData.bool)) = PyData.eqvAll (bs.map PyData.bool) (cs.map PyData.bool) from rfl, eqv_bls]
  exact k
theorem Pot.ne {H : Hp} {p l : Addr} (hp : Pot H p) (hn : H l = none) : l ≠ p := fun z => by
  obtain ⟨_, hq⟩ := hp.lst
  rw [z, hq] at hn
  cases hn
theorem kd_pot {K : PySem.W.Frag} {H H' : Hp} {p : Addr} {x : V} {T : String} (e : ExB p H H') (hp : Pot H p) (hp' : Pot H' p) (h : Kd K H x T) : Kd K H' x T := by
  obtain ⟨_, a⟩ := hp.lst
  obtain ⟨_, b⟩ := hp'.lst
  exact kd_exB e a b h
theorem wt_pot {K : PySem.W.Frag} {H H' : Hp} {p : Addr} {q : Int} {x : V} {r : Option (List Int)} (e : ExB p H H') (hp : Pot H p) (hp' : Pot H' p) (h : WT K H q x r) : WT K H' q x r := by
  obtain ⟨_, a⟩ := hp.lst
  obtain ⟨_, b⟩ := hp'.lst
  exact h.exB e a b
theorem numIn_true {lo hi : Int} {x : V} (h : numIn lo hi x = true) : ∃ i, x = .int i ∧ lo ≤ i ∧ i ≤ hi := by
  cases x with
  | int i =>
    rw [numIn_int, Bool.and_eq_true, decide_eq_true_eq, decide_eq_true_eq] at h
    exact ⟨i, rfl, h⟩
  | _ => cases h
theorem signOk_true {q : Int} {x : V} (h : signOk q x = true) : ∃ i, x = .int i ∧ 0 ≤ i ∧ i < q := by
  cases x with
  | int i =>
    rw [show signOk q (.int i) = (decide (0 ≤ i) && decide (i < q)) from rfl, Bool.and_eq_true, decide_eq_true_eq, decide_eq_true_eq] at h
    exact ⟨i, rfl, h⟩
  | _ => cases h
theorem cut_toA {xs : List V} (k : Nat) : cutV xs none (some (k : Int)) = xs.take k := by
  by_cases h : k ≤ xs.length
  · exact cut_to h
  · have e : HT.sIx xs.length xs.length (some (k : Int)) = xs.length := by
      unfold HT.sIx
      simp only [show ¬ ((k : Int) < 0) by omega, if_false, Int.toNat_natCast]
      omega
    unfold cutV
    rw [e]
    show (xs.drop 0).take (xs.length - 0) = _
    rw [List.drop_zero, List.take_of_length_le (by omega), List.take_of_length_le (by omega)]
theorem cut_fromA {xs : List V} (k : Nat) : cutV xs (some (k : Int)) none = xs.drop k := by
  by_cases h : k ≤ xs.length
  · exact cut_from h
  · have e : HT.sIx xs.length 0 (some (k : Int)) = xs.length := by
      unfold HT.sIx
      simp only [show ¬ ((k : Int) < 0) by omega, if_false, Int.toNat_natCast]
      omega
    unfold cutV
    rw [e]
    show (xs.drop xs.length).take (xs.length - xs.length) = _
    rw [List.drop_eq_nil_of_le (Nat.le_refl _), List.drop_eq_nil_of_le (by omega)]; simp
/-- the first k of a word -/
theorem cut_few (ns : List Int) (k : Nat) : cutV (ns.map V.int) none (some (k : Int)) = (ns.take k).map V.int := by rw [cut_toA, List.map_take]
/-- any slice from a place on to another one -/
theorem cut_nn {xs : List V} (k j : Nat) : cutV xs (some (k : Int)) (some (j : Int)) = (xs.drop k).take (j - k) := by
  unfold cutV
  rw [show HT.sIx xs.length 0 (some (k : Int)) = min k xs.length from HT.sIx_nat .., show HT.sIx xs.length xs.length (some (j : Int)) = min j xs.length from HT.sIx_nat ..]
  by_cases h : k ≤ xs.length
  · rw [Nat.min_eq_left h]
    by_cases h2 : j ≤ xs.length
    · rw [Nat.min_eq_left h2]
    · rw [Nat.min_eq_right (by omega), List.take_of_length_le (by simp), List.take_of_length_le (by simp; omega)]
  · rw [Nat.min_eq_right (show xs.length ≤ k by omega), List.drop_of_length_le (Nat.le_refl _), List.drop_of_length_le (show xs.length ≤ k by omega)]
    simp
/-- truths of the words of a list -/
theorem l_lcWB {K : PySem.W.Frag} {σ : L2.St} {H : Hp} {Q : VK} {te : TE} {a : Addr} {xs : List V} {ws : List (List Int)} {j : Nat} {vs : List Nat} (f : List Int → Bool) (h : SqL K H a xs) (hW : Wts K H xs ws) (hz : xs.length < 100000) (hw : ∀ x, wipe ((wipe σ vs).set j (some x)) vs = wipe σ vs)
    (hs : ∀ x w H1, w ∈ ws → Wt K H1 x w → Ex H H1 → ∀ Q' : VK, (∀ H2, Ex H1 H2 → Q' (.bl (f w)) H2) → te ((wipe σ vs).set j (some x)) H1 Q')
    (hd : ∀ D H1, H D = none → Ex H H1 → H1 D = some (.lst ((ws.map f).map V.bl)) → Q (.ref D) H1) : LcK (gName j) tYes te vs (Itl K a) σ H Q := by
  refine l_lc walk_list (fun _ i acc H1 => Ex H H1 ∧ acc = ((ws.take i).map f).map V.bl) (fun D H1 n e h1 => ⟨e, rfl⟩) (fun D i acc H1 _ _ p => Evl.ex_l p.1 h) (fun D i acc x H1 H2 hn hi h1 q y => ?_) (fun D acc H1 hn h1 q => ?_)
  · obtain ⟨rfl, hx⟩ := y
    obtain ⟨e, rfl⟩ := q
    obtain ⟨w, hw2, hwt⟩ := pd_at hW hx
    refine ⟨hw x, w_yes ?_⟩
    refine iteT ?_
    refine hs x w _ (List.mem_of_getElem? hw2) (hwt.mono e) e _ fun H3 e3 => ?_
    refine lc_end (Pv := fun _ i acc H1 => Ex H H1 ∧ acc = ((ws.take i).map f).map V.bl) (e3 _ _ h1) (by simp; omega) fun H6 e6 h6 => ⟨ExB.new (e.trans e3) e6 hn, ?_⟩
    rw [take_at hw2]
    simp
  · obtain ⟨e, rfl⟩ := q
    rw [Paired.length hW, List.take_length] at h1
    exact hd D H1 hn e h1
theorem l_eqS {K : PySem.W.Frag} {H : Hp} {Q : VK} {a b : Str} (k : Q (.bl (decide (a = b))) H) : rEqP K (.str a) (.str b) H Q := .inl ⟨rfl, by rw [show decide (V.str a = V.str b) = decide (a = b) by simp]; exact k⟩
/-- sorted(set(xs)): the words, each once, by their codes -/
theorem l_sortSetWB {K : PySem.W.Frag} {H : Hp} {Q : VK} {a : Addr} {xs : List V} {ws : List (List Int)} {d : Nat} {B : Int} (h : SqL K H a xs) (hW : Wts K H xs ws) (hb : Wb d B ws) (hl : ws.length ≤ 1200)
    (k : ∀ ys us p H', (∀ w, w ∈ us ↔ w ∈ ws) → us.Pairwise (fun u v => TS.code B u < TS.code B v) → H p = none → Ex H H' → H' p = some (.lst ys) → Wts K H' ys us → Q (.ref p) H') : sortSetB K Q (.ref a) H := by
  obtain ⟨ks, rfl, rfl, hk⟩ := ks_of hW
  have hb' : ∀ p ∈ ks, p.2.length = d ∧ Sg B p.2 := fun p hp => hb p.2 (List.mem_map.mpr ⟨p, hp, rfl⟩)
  refine ⟨a, ks, d, B, rfl, h, fun p hp => ⟨hk p hp, hb' p hp⟩, by rw [List.length_map] at hl; exact hl, fun ks' p sub all nd hr hn => ?_⟩
  refine k (refsV ks') (ks'.map (·.2)) p _ (fun w => ⟨fun m => ?_, fun m => ?_⟩) ?_ hn (Evl.Ex.new hn) upd_same (ks_wts fun q hq => Evl.ex_t (Evl.Ex.new hn) (hk q (sub q hq)))
  · obtain ⟨q, hq, rfl⟩ := List.mem_map.mp m
    exact List.mem_map.mpr ⟨q, sub q hq, rfl⟩
  · obtain ⟨q, hq, rfl⟩ := List.mem_map.mp m
    exact all q hq
  · have h1 : (ks'.map (·.2)).Pairwise fun u v => TS.code B u ≤ TS.code B v := List.pairwise_map.mpr hr
    have h2 : (ks'.map (·.2)).Pairwise fun u v => u ≠ v := nd
    refine List.Pairwise.imp_of_mem (fun {u v} hu hv h => ?_) (h1.and h2)
    obtain ⟨q, hq, rfl⟩ := List.mem_map.mp hu
    obtain ⟨r, hr2, rfl⟩ := List.mem_map.mp hv
    rcases Int.lt_or_eq_of_le h.1 with z | z
    · exact z
    · exact absurd (code_inj (hb' q (sub q hq)) (hb' r (sub r hr2)) z) h.2
theorem ks_ofx {H : Hp} : ∀ {xs : List V} {ws : List (List Int)}, Wxs H xs ws → ∃ ks : KS, xs = refsV ks ∧ ws = ks.map (·.2) ∧ ∀ q ∈ ks, H q.1 = some (.tup (q.2.map V.int))
  | _, _, .nil => ⟨[], rfl, rfl, fun q h => by cases h⟩
  | _, _, .cons ⟨a, e, h⟩ t => by
    obtain ⟨ks, e1, e2, h2⟩ := ks_ofx t
    subst e
    exact ⟨(a, _) :: ks, by rw [e1]; rfl, by rw [e2]; rfl, fun q hq => (List.mem_cons.mp hq).elim (fun z => by subst z; exact h) (h2 q)⟩
/-- the same over exact words -/
theorem l_sortSetWX {K : PySem.W.Frag} {H : Hp} {Q : VK} {a : Addr} {xs : List V} {ws : List (List Int)} {d : Nat} {B : Int} (h : SqL K H a xs) (hW : Wxs H xs ws) (hb : Wb d B ws) (hl : ws.length ≤ 1200)
    (k : ∀ ys us p H', (∀ w, w ∈ us ↔ w ∈ ws) → us.Pairwise (fun u v => TS.code B u < TS.code B v) → H p = none → Ex H H' → H' p = some (.lst ys) → Wxs H' ys us → Q (.ref p) H') : sortSetB K Q (.ref a) H := by
  obtain ⟨ks, rfl, rfl, hk⟩ := ks_ofx hW
  have hb' : ∀ p ∈ ks, p.2.length = d ∧ Sg B p.2 := fun p hp => hb p.2 (List.mem_map.mpr ⟨p, hp, rfl⟩)
  refine ⟨a, ks, d, B, rfl, h, fun p hp => ⟨SqT.of (hk p hp), hb' p hp⟩, by rw [List.length_map] at hl; exact hl, fun ks' p sub all nd hr hn => ?_⟩
  refine k (refsV ks') (ks'.map (·.2)) p _ (fun w => ⟨fun m => ?_, fun m => ?_⟩) ?_ hn (Evl.Ex.new hn) upd_same (ks_wxs fun q hq => (Evl.Ex.new hn) _ _ (hk q (sub q hq)))
  · obtain ⟨q, hq, rfl⟩ := List.mem_map.mp m
    exact List.mem_map.mpr ⟨q, sub q hq, rfl⟩
  · obtain ⟨q, hq, rfl⟩ := List.mem_map.mp m
    exact all q hq
  · have h1 : (ks'.map (·.2)).Pairwise fun u v => TS.code B u ≤ TS.code B v := List.pairwise_map.mpr hr
    have h2 : (ks'.map (·.2)).Pairwise fun u v => u ≠ v := nd
    refine List.Pairwise.imp_of_mem (fun {u v} hu hv h => ?_) (h1.and h2)
    obtain ⟨q, hq, rfl⟩ := List.mem_map.mp hu
    obtain ⟨r, hr2, rfl⟩ := List.mem_map.mp hv
    rcases Int.lt_or_eq_of_le h.1 with z | z
    · exact z
    · exact absurd (code_inj (hb' q (sub q hq)) (hb' r (sub r hr2)) z) h.2
def tab_ROWS : List (Str × Str) := [(PySem.Str.ofString "plain", PySem.Str.ofString "NN"), (PySem.Str.ofString "strong", PySem.Str.ofString "NN"), (PySem.Str.ofString "many", PySem.Str.ofString "NNNN"), (PySem.Str.ofString "count", PySem.Str.ofString ""), (PySem.Str.ofString "word", PySem.Str.ofString "N"), (PySem.Str.ofString "number", PySem.Str.ofString "W"), (PySem.Str.ofString "mend", PySem.Str.ofString "W"), (PySem.Str.ofString "near", PySem.Str.ofString "WW"), (PySem.Str.ofString "ring", PySem.Str.ofString "W")]
def topS (i : Nat) : Stmt := PySem.Challenge.pw_lostmark_k95_whole_through_texts.main.body.getD i (.Pass ⟨0, 0, 0, 0⟩)
abbrev S_is_number : Stmt := topS 15
theorem sc_is_number : FnScope ["thing"] ["thing"] (defScope S_is_number) := ⟨rfl, rfl, rfl, by decide +kernel, rfl, by decide +kernel, by decide +kernel⟩
abbrev S_want_count : Stmt := topS 16
theorem sc_want_count : FnScope ["q"] ["q"] (defScope S_want_count) := ⟨rfl, rfl, rfl, by decide +kernel, rfl, by decide +kernel, by decide +kernel⟩
abbrev S_is_sign : Stmt := topS 17
theorem sc_is_sign : FnScope ["q", "thing"] ["q", "thing"] (defScope S_is_sign) := ⟨rfl, rfl, rfl, by decide +kernel, rfl, by decide +kernel, by decide +kernel⟩
abbrev S_want_word : Stmt := topS 18
theorem sc_want_word : FnScope ["q", "word", "sign"] ["q", "word"] (defScope S_want_word) := ⟨rfl, rfl, rfl, by decide +kernel, rfl, by decide +kernel, by decide +kernel⟩
abbrev S_lengths_from : Stmt := topS 20
theorem sc_lengths_from : FnScope ["one", "other", "rows", "sign", "later", "row", "k"] ["one", "other"] (defScope S_lengths_from) := ⟨rfl, rfl, rfl, by decide +kernel, rfl, by decide +kernel, by decide +kernel⟩
abbrev S_first_sign : Stmt := topS 21
theorem sc_first_sign : FnScope ["one", "other", "lengths", "i", "j", "sign", "at", "behind"] ["one", "other", "lengths", "i", "j"] (defScope S_first_sign) := ⟨rfl, rfl, rfl, by decide +kernel, rfl, by decide +kernel, by decide +kernel⟩
abbrev S_common_row : Stmt := topS 22
theorem sc_common_row : FnScope ["one", "other", "lengths", "found", "i", "j", "sign"] ["one", "other"] (defScope S_common_row) := ⟨rfl, rfl, rfl, by decide +kernel, rfl, by decide +kernel, by decide +kernel⟩
abbrev S_nearness : Stmt := topS 23
theorem sc_nearness : FnScope ["one", "other", "row"] ["one", "other"] (defScope S_nearness) := ⟨rfl, rfl, rfl, by decide +kernel, rfl, by decide +kernel, by decide +kernel⟩
abbrev S_lost_ring : Stmt := topS 25
theorem sc_lost_ring : FnScope ["q", "word", "k"] ["q", "word"] (defScope S_lost_ring) := ⟨rfl, rfl, rfl, by decide +kernel, rfl, by decide +kernel, by decide +kernel⟩
abbrev S_put_ring : Stmt := topS 26
theorem sc_put_ring : FnScope ["q", "word", "found", "k", "sign"] ["q", "word"] (defScope S_put_ring) := ⟨rfl, rfl, rfl, by decide +kernel, rfl, by decide +kernel, by decide +kernel⟩
abbrev S_changed_ring : Stmt := topS 27
theorem sc_changed_ring : FnScope ["q", "word", "found", "k", "sign"] ["q", "word"] (defScope S_changed_ring) := ⟨rfl, rfl, rfl, by decide +kernel, rfl, by decide +kernel, by decide +kernel⟩
abbrev S_shape : Stmt := topS 29
theorem sc_shape : FnScope ["q", "word", "ahead", "sign"] ["q", "word"] (defScope S_shape) := ⟨rfl, rfl, rfl, by decide +kernel, rfl, by decide +kernel, by decide +kernel⟩
abbrev S_weighted : Stmt := topS 31
theorem sc_weighted : FnScope ["q", "word", "k", "sign"] ["q", "word"] (defScope S_weighted) := ⟨rfl, rfl, rfl, by decide +kernel, rfl, by decide +kernel, by decide +kernel⟩
abbrev S_want_rest : Stmt := topS 36
theorem sc_want_rest : FnScope ["thing", "by"] ["thing", "by"] (defScope S_want_rest) := ⟨rfl, rfl, rfl, by decide +kernel, rfl, by decide +kernel, by decide +kernel⟩
abbrev S_ManyList_init : Stmt := inClass (topS 37) 0
theorem sc_ManyList_init : FnScope ["self", "q", "n", "a", "b"] ["self", "q", "n", "a", "b"] (defScope S_ManyList_init) := ⟨rfl, rfl, rfl, by decide +kernel, rfl, by decide +kernel, by decide +kernel⟩
abbrev S_ManyList_signs : Stmt := inClass (topS 37) 1
theorem sc_ManyList_signs : FnScope ["self"] ["self"] (defScope S_ManyList_signs) := ⟨rfl, rfl, rfl, by decide +kernel, rfl, by decide +kernel, by decide +kernel⟩
abbrev S_ManyList_length : Stmt := inClass (topS 37) 2
theorem sc_ManyList_length : FnScope ["self"] ["self"] (defScope S_ManyList_length) := ⟨rfl, rfl, rfl, by decide +kernel, rfl, by decide +kernel, by decide +kernel⟩
abbrev S_ManyList_rests : Stmt := inClass (topS 37) 3
theorem sc_ManyList_rests : FnScope ["self"] ["self"] (defScope S_ManyList_rests) := ⟨rfl, rfl, rfl, by decide +kernel, rfl, by decide +kernel, by decide +kernel⟩
abbrev S_ManyList_has : Stmt := inClass (topS 37) 4
theorem sc_ManyList_has : FnScope ["self", "word", "of_shape"] ["self", "word"] (defScope S_ManyList_has) := ⟨rfl, rfl, rfl, by decide +kernel, rfl, by decide +kernel, by decide +kernel⟩
abbrev S_words_ahead_of : Stmt := topS 38
theorem sc_words_ahead_of : FnScope ["many", "came"] ["many", "came"] (defScope S_words_ahead_of) := ⟨rfl, rfl, rfl, by decide +kernel, rfl, by decide +kernel, by decide +kernel⟩
abbrev S_many_mended : Stmt := topS 39
theorem sc_many_mended : FnScope ["many", "came", "word"] ["many", "came"] (defScope S_many_mended) := ⟨rfl, rfl, rfl, by decide +kernel, rfl, by decide +kernel, by decide +kernel⟩
abbrev S_code_of : Stmt := topS 41
theorem sc_code_of : FnScope ["q", "n", "sign", "shape_left", "sum_left"] ["q", "n", "sign", "shape_left", "sum_left"] (defScope S_code_of) := ⟨rfl, rfl, rfl, by decide +kernel, rfl, by decide +kernel, by decide +kernel⟩
abbrev S_ways_behind : Stmt := topS 42
theorem sc_ways_behind : FnScope ["q", "n", "place", "later", "code", "ahead", "shape_left", "sum_left", "found", "sign"] ["q", "n", "place", "later", "code"] (defScope S_ways_behind) := ⟨rfl, rfl, rfl, by decide +kernel, rfl, by decide +kernel, by decide +kernel⟩
abbrev S_tables_of : Stmt := topS 43
theorem sc_tables_of : FnScope ["q", "n", "found", "place", "code"] ["q", "n"] (defScope S_tables_of) := ⟨rfl, rfl, rfl, by decide +kernel, rfl, by decide +kernel, by decide +kernel⟩
abbrev S_Walk_init : Stmt := inClass (topS 44) 0
theorem sc_Walk_init : FnScope ["self", "many"] ["self", "many"] (defScope S_Walk_init) := ⟨rfl, rfl, rfl, by decide +kernel, rfl, by decide +kernel, by decide +kernel⟩
abbrev S_Walk_left_by : Stmt := inClass (topS 44) 1
theorem sc_Walk_left_by : FnScope ["self", "sign"] ["self", "sign"] (defScope S_Walk_left_by) := ⟨rfl, rfl, rfl, by decide +kernel, rfl, by decide +kernel, by decide +kernel⟩
abbrev S_Walk_ways : Stmt := inClass (topS 44) 2
theorem sc_Walk_ways : FnScope ["self", "sign"] ["self", "sign"] (defScope S_Walk_ways) := ⟨rfl, rfl, rfl, by decide +kernel, rfl, by decide +kernel, by decide +kernel⟩
abbrev S_Walk_ways_below : Stmt := inClass (topS 44) 3
theorem sc_Walk_ways_below : FnScope ["self", "sign", "lesser"] ["self", "sign"] (defScope S_Walk_ways_below) := ⟨rfl, rfl, rfl, by decide +kernel, rfl, by decide +kernel, by decide +kernel⟩
abbrev S_Walk_go : Stmt := inClass (topS 44) 4
theorem sc_Walk_go : FnScope ["self", "sign"] ["self", "sign"] (defScope S_Walk_go) := ⟨rfl, rfl, rfl, by decide +kernel, rfl, by decide +kernel, by decide +kernel⟩
abbrev S_how_many_many : Stmt := topS 45
theorem sc_how_many_many : FnScope ["many"] ["many"] (defScope S_how_many_many) := ⟨rfl, rfl, rfl, by decide +kernel, rfl, by decide +kernel, by decide +kernel⟩
abbrev S_many_member : Stmt := topS 46
theorem sc_many_member : FnScope ["many", "k", "walk", "found", "place", "sign", "one"] ["many", "k"] (defScope S_many_member) := ⟨rfl, rfl, rfl, by decide +kernel, rfl, by decide +kernel, by decide +kernel⟩
abbrev S_many_number : Stmt := topS 47
theorem sc_many_number : FnScope ["many", "word", "walk", "found", "sign"] ["many", "word"] (defScope S_many_number) := ⟨rfl, rfl, rfl, by decide +kernel, rfl, by decide +kernel, by decide +kernel⟩
abbrev S_want_length : Stmt := topS 50
theorem sc_want_length : FnScope ["n"] ["n"] (defScope S_want_length) := ⟨rfl, rfl, rfl, by decide +kernel, rfl, by decide +kernel, by decide +kernel⟩
abbrev S_PlainList_init : Stmt := inClass (topS 52) 0
theorem sc_PlainList_init : FnScope ["self", "n", "a"] ["self", "n", "a"] (defScope S_PlainList_init) := ⟨rfl, rfl, rfl, by decide +kernel, rfl, by decide +kernel, by decide +kernel⟩
abbrev S_PlainList_length : Stmt := inClass (topS 52) 1
theorem sc_PlainList_length : FnScope ["self"] ["self"] (defScope S_PlainList_length) := ⟨rfl, rfl, rfl, by decide +kernel, rfl, by decide +kernel, by decide +kernel⟩
abbrev S_PlainList_rest : Stmt := inClass (topS 52) 2
theorem sc_PlainList_rest : FnScope ["self"] ["self"] (defScope S_PlainList_rest) := ⟨rfl, rfl, rfl, by decide +kernel, rfl, by decide +kernel, by decide +kernel⟩
abbrev S_PlainList_has : Stmt := inClass (topS 52) 3
theorem sc_PlainList_has : FnScope ["self", "word"] ["self", "word"] (defScope S_PlainList_has) := ⟨rfl, rfl, rfl, by decide +kernel, rfl, by decide +kernel, by decide +kernel⟩
abbrev S_rows_behind : Stmt := topS 54
theorem sc_rows_behind : FnScope ["n", "by", "found", "place", "later", "rest"] ["n"] (defScope S_rows_behind) := ⟨rfl, rfl, rfl, by decide +kernel, rfl, by decide +kernel, by decide +kernel⟩
abbrev S_how_many : Stmt := topS 55
theorem sc_how_many : FnScope ["plain"] ["plain"] (defScope S_how_many) := ⟨rfl, rfl, rfl, by decide +kernel, rfl, by decide +kernel, by decide +kernel⟩
abbrev S_member : Stmt := topS 56
theorem sc_member : FnScope ["plain", "k", "table", "rest", "left", "found", "place", "below", "sign"] ["plain", "k"] (defScope S_member) := ⟨rfl, rfl, rfl, by decide +kernel, rfl, by decide +kernel, by decide +kernel⟩
abbrev S_number_of : Stmt := topS 57
theorem sc_number_of : FnScope ["plain", "word", "table", "rest", "found", "place", "sign"] ["plain", "word"] (defScope S_number_of) := ⟨rfl, rfl, rfl, by decide +kernel, rfl, by decide +kernel, by decide +kernel⟩
abbrev S_words_ahead : Stmt := topS 59
theorem sc_words_ahead : FnScope ["n", "came"] ["n", "came"] (defScope S_words_ahead) := ⟨rfl, rfl, rfl, by decide +kernel, rfl, by decide +kernel, by decide +kernel⟩
abbrev S_mended : Stmt := topS 60
theorem sc_mended : FnScope ["plain", "came", "word"] ["plain", "came"] (defScope S_mended) := ⟨rfl, rfl, rfl, by decide +kernel, rfl, by decide +kernel, by decide +kernel⟩
abbrev S_StrongList_init : Stmt := inClass (topS 63) 0
theorem sc_StrongList_init : FnScope ["self", "n", "a"] ["self", "n", "a"] (defScope S_StrongList_init) := ⟨rfl, rfl, rfl, by decide +kernel, rfl, by decide +kernel, by decide +kernel⟩
abbrev S_StrongList_length : Stmt := inClass (topS 63) 1
theorem sc_StrongList_length : FnScope ["self"] ["self"] (defScope S_StrongList_length) := ⟨rfl, rfl, rfl, by decide +kernel, rfl, by decide +kernel, by decide +kernel⟩
abbrev S_StrongList_rest : Stmt := inClass (topS 63) 2
theorem sc_StrongList_rest : FnScope ["self"] ["self"] (defScope S_StrongList_rest) := ⟨rfl, rfl, rfl, by decide +kernel, rfl, by decide +kernel, by decide +kernel⟩
abbrev S_StrongList_has : Stmt := inClass (topS 63) 3
theorem sc_StrongList_has : FnScope ["self", "word"] ["self", "word"] (defScope S_StrongList_has) := ⟨rfl, rfl, rfl, by decide +kernel, rfl, by decide +kernel, by decide +kernel⟩
abbrev S_ring_before : Stmt := topS 64
theorem sc_ring_before : FnScope ["n", "came"] ["n", "came"] (defScope S_ring_before) := ⟨rfl, rfl, rfl, by decide +kernel, rfl, by decide +kernel, by decide +kernel⟩
abbrev S_strong_mended : Stmt := topS 65
theorem sc_strong_mended : FnScope ["strong", "came", "word"] ["strong", "came"] (defScope S_strong_mended) := ⟨rfl, rfl, rfl, by decide +kernel, rfl, by decide +kernel, by decide +kernel⟩
abbrev S_tails : Stmt := topS 67
theorem sc_tails : FnScope ["n", "by", "found", "place", "later", "rest"] ["n"] (defScope S_tails) := ⟨rfl, rfl, rfl, by decide +kernel, rfl, by decide +kernel, by decide +kernel⟩
abbrev S_how_many_strong : Stmt := topS 68
theorem sc_how_many_strong : FnScope ["strong"] ["strong"] (defScope S_how_many_strong) := ⟨rfl, rfl, rfl, by decide +kernel, rfl, by decide +kernel, by decide +kernel⟩
abbrev S_strong_member : Stmt := topS 69
theorem sc_strong_member : FnScope ["strong", "k", "table", "rest", "found", "place", "below", "sign"] ["strong", "k"] (defScope S_strong_member) := ⟨rfl, rfl, rfl, by decide +kernel, rfl, by decide +kernel, by decide +kernel⟩
abbrev S_strong_number : Stmt := topS 70
theorem sc_strong_number : FnScope ["strong", "word", "table", "rest", "found", "place", "sign"] ["strong", "word"] (defScope S_strong_number) := ⟨rfl, rfl, rfl, by decide +kernel, rfl, by decide +kernel, by decide +kernel⟩
abbrev S_show_word : Stmt := topS 73
theorem sc_show_word : FnScope ["q", "word", "sign"] ["q", "word"] (defScope S_show_word) := ⟨rfl, rfl, rfl, by decide +kernel, rfl, by decide +kernel, by decide +kernel⟩
abbrev S_read_word : Stmt := topS 74
theorem sc_read_word : FnScope ["q", "text", "sign"] ["q", "text"] (defScope S_read_word) := ⟨rfl, rfl, rfl, by decide +kernel, rfl, by decide +kernel, by decide +kernel⟩
abbrev S_is_figures : Stmt := topS 80
theorem sc_is_figures : FnScope ["part", "sign"] ["part"] (defScope S_is_figures) := ⟨rfl, rfl, rfl, by decide +kernel, rfl, by decide +kernel, by decide +kernel⟩
abbrev S_parts_of : Stmt := topS 81
theorem sc_parts_of : FnScope ["row", "parts", "sort", "part"] ["row"] (defScope S_parts_of) := ⟨rfl, rfl, rfl, by decide +kernel, rfl, by decide +kernel, by decide +kernel⟩
abbrev S_shown : Stmt := topS 82
theorem sc_shown : FnScope ["q", "word"] ["q", "word"] (defScope S_shown) := ⟨rfl, rfl, rfl, by decide +kernel, rfl, by decide +kernel, by decide +kernel⟩
abbrev S_word_read : Stmt := topS 83
theorem sc_word_read : FnScope ["q", "part"] ["q", "part"] (defScope S_word_read) := ⟨rfl, rfl, rfl, by decide +kernel, rfl, by decide +kernel, by decide +kernel⟩
abbrev S_Desk_init : Stmt := inClass (topS 84) 0
theorem sc_Desk_init : FnScope ["self"] ["self"] (defScope S_Desk_init) := ⟨rfl, rfl, rfl, by decide +kernel, rfl, by decide +kernel, by decide +kernel⟩
abbrev S_Desk_signs : Stmt := inClass (topS 84) 1
theorem sc_Desk_signs : FnScope ["self"] ["self"] (defScope S_Desk_signs) := ⟨rfl, rfl, rfl, by decide +kernel, rfl, by decide +kernel, by decide +kernel⟩
abbrev S_Desk_keep : Stmt := inClass (topS 84) 2
theorem sc_Desk_keep : FnScope ["self", "word", "numbers"] ["self", "word", "numbers"] (defScope S_Desk_keep) := ⟨rfl, rfl, rfl, by decide +kernel, rfl, by decide +kernel, by decide +kernel⟩
abbrev S_Desk_many_members : Stmt := inClass (topS 84) 3
theorem sc_Desk_many_members : FnScope ["self"] ["self"] (defScope S_Desk_many_members) := ⟨rfl, rfl, rfl, by decide +kernel, rfl, by decide +kernel, by decide +kernel⟩
abbrev S_Desk_member_at : Stmt := inClass (topS 84) 4
theorem sc_Desk_member_at : FnScope ["self", "k"] ["self", "k"] (defScope S_Desk_member_at) := ⟨rfl, rfl, rfl, by decide +kernel, rfl, by decide +kernel, by decide +kernel⟩
abbrev S_Desk_number_at : Stmt := inClass (topS 84) 5
theorem sc_Desk_number_at : FnScope ["self", "word"] ["self", "word"] (defScope S_Desk_number_at) := ⟨rfl, rfl, rfl, by decide +kernel, rfl, by decide +kernel, by decide +kernel⟩
abbrev S_Desk_sent : Stmt := inClass (topS 84) 6
theorem sc_Desk_sent : FnScope ["self", "came"] ["self", "came"] (defScope S_Desk_sent) := ⟨rfl, rfl, rfl, by decide +kernel, rfl, by decide +kernel, by decide +kernel⟩
abbrev S_Desk_mend : Stmt := inClass (topS 84) 7
theorem sc_Desk_mend : FnScope ["self", "part", "q", "found"] ["self", "part"] (defScope S_Desk_mend) := ⟨rfl, rfl, rfl, by decide +kernel, rfl, by decide +kernel, by decide +kernel⟩
abbrev S_Desk_near : Stmt := inClass (topS 84) 8
theorem sc_Desk_near : FnScope ["self", "one", "other", "first", "second"] ["self", "one", "other"] (defScope S_Desk_near) := ⟨rfl, rfl, rfl, by decide +kernel, rfl, by decide +kernel, by decide +kernel⟩
abbrev S_Desk_ring : Stmt := inClass (topS 84) 9
theorem sc_Desk_ring : FnScope ["self", "part", "q", "found", "word"] ["self", "part"] (defScope S_Desk_ring) := ⟨rfl, rfl, rfl, by decide +kernel, rfl, by decide +kernel, by decide +kernel⟩
abbrev S_Desk_say : Stmt := inClass (topS 84) 10
theorem sc_Desk_say : FnScope ["self", "row", "parts", "word", "part"] ["self", "row"] (defScope S_Desk_say) := ⟨rfl, rfl, rfl, by decide +kernel, rfl, by decide +kernel, by decide +kernel⟩
abbrev S_L_at : Stmt := topS 86
theorem sc_L_at : FnScope ["_law_script", "_law_k"] ["_law_script", "_law_k"] (defScope S_L_at) := ⟨rfl, rfl, rfl, by decide +kernel, rfl, by decide +kernel, by decide +kernel⟩
abbrev S_L_pot : Stmt := topS 87
theorem sc_L_pot : FnScope ["_law_script", "_law_k", "_law_seed", "_law_cell", "_law_number"] ["_law_script", "_law_k"] (defScope S_L_pot) := ⟨rfl, rfl, rfl, by decide +kernel, rfl, by decide +kernel, by decide +kernel⟩
abbrev S_L_digit : Stmt := topS 88
theorem sc_L_digit : FnScope ["_law_pot_here", "_law_base", "_law_digit_here"] ["_law_pot_here", "_law_base"] (defScope S_L_digit) := ⟨rfl, rfl, rfl, by decide +kernel, rfl, by decide +kernel, by decide +kernel⟩
abbrev S_L_kept : Stmt := topS 94
theorem sc_L_kept : FnScope ["_law_pot_here", "_law_desk", "_law_sort", "_law_n", "_law_q"] ["_law_pot_here", "_law_desk"] (defScope S_L_kept) := ⟨rfl, rfl, rfl, by decide +kernel, rfl, by decide +kernel, by decide +kernel⟩
abbrev S_L_dashed : Stmt := topS 95
theorem sc_L_dashed : FnScope ["_law_text"] ["_law_text"] (defScope S_L_dashed) := ⟨rfl, rfl, rfl, by decide +kernel, rfl, by decide +kernel, by decide +kernel⟩
abbrev S_L_mends : Stmt := topS 96
theorem sc_L_mends : FnScope ["_law_desk", "_law_text", "_law_came", "_law_far", "_law_row", "_law_told"] ["_law_desk", "_law_text", "_law_came", "_law_far", "_law_row"] (defScope S_L_mends) := ⟨rfl, rfl, rfl, by decide +kernel, rfl, by decide +kernel, by decide +kernel⟩
abbrev S_law : Stmt := topS 97
theorem sc_law : FnScope ["_law_script", "_law_desk", "_law_pot_here", "_law_sort", "_law_q", "_law_n", "_law_many", "_law_k", "_law_text", "_law_at_here", "_law_short", "_law_sign", "_law_place", "_law_other"] ["_law_script"] (defScope S_law) := ⟨rfl, rfl, rfl, by decide +kernel, rfl, by decide +kernel, by decide +kernel⟩
def s_is_number (K : PySem.W.Frag) (x0 : V) (H : Hp) (Q : VK) (E : XK) : Prop := ∃ T, Kd K H x0 T ∧ Q (.bl (isNum x0)) H
def sp_is_number (K : PySem.W.Frag) : Sp := fun vs H Q E => match vs with
  | [x0] => s_is_number K x0 H Q E
  | _ => False
def s_want_count (K : PySem.W.Frag) (x0 : V) (H : Hp) (Q : VK) (E : XK) : Prop := ∃ q : Int, x0 = .int q ∧ (2 ≤ q ∧ q ≤ 36) ∧ Q .non H
def sp_want_count (K : PySem.W.Frag) : Sp := fun vs H Q E => match vs with
  | [x0] => s_want_count K x0 H Q E
  | _ => False
def s_is_sign (K : PySem.W.Frag) (x0 x1 : V) (H : Hp) (Q : VK) (E : XK) : Prop := ∃ (q : Int) (T : String), x0 = .int q ∧ Kd K H x1 T ∧ Q (.bl (signOk q x1)) H
def sp_is_sign (K : PySem.W.Frag) : Sp := fun vs H Q E => match vs with
  | [x0, x1] => s_is_sign K x0 x1 H Q E
  | _ => False
def s_want_word (K : PySem.W.Frag) (x0 x1 : V) (H : Hp) (Q : VK) (E : XK) : Prop := ∃ (q : Int) (ns : List Int), x0 = .int q ∧ (2 ≤ q ∧ q ≤ 36) ∧ Wd K H q x1 ns ∧ ∀ H', Ex H H' → Q .non H'
def sp_want_word (K : PySem.W.Frag) : Sp := fun vs H Q E => match vs with
  | [x0, x1] => s_want_word K x0 x1 H Q E
  | _ => False
/-! longest common rows -/
def lcsN : List Int → List Int → Nat
  | [], _ => 0
  | _ :: _, [] => 0
  | a :: u, b :: v => if b = a then 1 + lcsN u v else max (lcsN (a :: u) v) (lcsN u (b :: v))
termination_by u v => u.length + v.length
theorem lcs_nil (v : List Int) : lcsN [] v = 0 := by rw [lcsN]
theorem lcs_nil2 (u : List Int) : lcsN u [] = 0 := by cases u <;> rw [lcsN]
theorem lcs_eq (a b : Int) (u v : List Int) : lcsN (a :: u) (b :: v) = if b = a then 1 + lcsN u v else max (lcsN (a :: u) v) (lcsN u (b :: v)) := by rw [lcsN]
theorem lcs_le : ∀ (u v r : List Int), r.Sublist u → r.Sublist v → r.length ≤ lcsN u v
  | [], v, r, h, _ => by rw [List.sublist_nil.mp h]; exact Nat.zero_le _
  | _ :: _, [], r, _, g => by rw [List.sublist_nil.mp g]; exact Nat.zero_le _
  | a :: u, b :: v, r, h, g => by
    rw [lcs_eq]
    rcases List.sublist_cons_iff.mp h with h1 | ⟨r1, e1, h1⟩
    · by_cases c : b = a
      · rw [if_pos c]
        rcases List.sublist_cons_iff.mp g with g1 | ⟨r2, e2, g2⟩
        · have := lcs_le u v r h1 g1
          omega
        · have := lcs_le u v r2 ((List.sublist_cons_self b r2).trans (e2 ▸ h1)) g2
          rw [e2, List.length_cons]
          omega
      · rw [if_neg c]
        have := lcs_le u (b :: v) r h1 g
        omega
    · rcases List.sublist_cons_iff.mp g with g1 | ⟨r2, e2, g2⟩
      · by_cases c : b = a
        · rw [if_pos c]
          have := lcs_le u v r1 h1 ((List.sublist_cons_self a r1).trans (e1 ▸ g1))
          rw [e1, List.length_cons]
          omega
        · rw [if_neg c]
          have := lcs_le (a :: u) v r h g1
          omega
      · rw [e1] at e2
        obtain ⟨e3, e4⟩ := List.cons.inj e2
        rw [if_pos e3.symm, e1, List.length_cons]
        have := lcs_le u v r1 h1 (e4 ▸ g2)
        omega
termination_by u v => u.length + v.length
theorem lcs_ex : ∀ (u v : List Int), ∃ r : List Int, r.Sublist u ∧ r.Sublist v ∧ r.length = lcsN u v
  | [], v => ⟨[], List.nil_sublist _, List.nil_sublist _, by rw [lcs_nil]; rfl⟩
  | a :: u, [] => ⟨[], List.nil_sublist _, List.nil_sublist _, by rw [lcs_nil2]; rfl⟩
  | a :: u, b :: v => by
    rw [lcs_eq]
    by_cases c : b = a
    · rw [if_pos c]
      obtain ⟨r, h1, h2, h3⟩ := lcs_ex u v
      subst c
      exact ⟨b :: r, List.cons_sublist_cons.mpr h1, List.cons_sublist_cons.mpr h2, by rw [List.length_cons, h3]; omega⟩
    · rw [if_neg c]
      obtain ⟨r, h1, h2, h3⟩ := lcs_ex (a :: u) v
      obtain ⟨r', h1', h2', h3'⟩ := lcs_ex u (b :: v)
      by_cases d : lcsN u (b :: v) ≤ lcsN (a :: u) v
      · exact ⟨r, h1, h2.trans (List.sublist_cons_self b v), by rw [h3]; omega⟩
      · exact ⟨r', h1'.trans (List.sublist_cons_self a u), h2', by rw [h3']; omega⟩
termination_by u v => u.length + v.length
/-- what stands behind the first s -/
def aft (s : Int) (u : List Int) : List Int := u.drop (u.idxOf s + 1)
theorem aft_sub {s : Int} {t : List Int} : ∀ {u : List Int}, (s :: t).Sublist u ↔ s ∈ u ∧ t.Sublist (aft s u)
  | [] => by simp
  | a :: u => by
    by_cases c : a = s
    · subst c
      have e : aft a (a :: u) = u := by simp [aft]
      rw [e]
      constructor
      · intro h
        exact ⟨by simp, List.cons_sublist_cons.mp h⟩
      · rintro ⟨_, h⟩
        exact List.cons_sublist_cons.mpr h
    · have e : aft s (a :: u) = aft s u := by
        unfold aft
        rw [List.idxOf_cons, show (a == s) = false from beq_eq_false_iff_ne.mpr c]
        rfl
      rw [e]
      constructor
      · intro h
        rcases List.sublist_cons_iff.mp h with h1 | ⟨r, e1, _⟩
        · obtain ⟨h2, h3⟩ := aft_sub.mp h1
          exact ⟨by simp [h2], h3⟩
        · exact absurd (List.cons.inj e1).1.symm c
      · rintro ⟨h1, h2⟩
        have h3 : s ∈ u := by
          rcases List.mem_cons.mp h1 with z | z
          · exact absurd z.symm c
          · exact z
        exact (aft_sub.mpr ⟨h3, h2⟩).trans (List.sublist_cons_self a u)
def Com (u v t : List Int) : Prop := t.Sublist u ∧ t.Sublist v
def Cand (u v : List Int) (s : Int) : Prop := s ∈ u ∧ s ∈ v ∧ 1 + lcsN (aft s u) (aft s v) = lcsN u v
theorem com_cons {u v t : List Int} {s : Int} : Com u v (s :: t) ↔ s ∈ u ∧ s ∈ v ∧ Com (aft s u) (aft s v) t := by
  unfold Com
  rw [aft_sub, aft_sub]
  exact ⟨fun ⟨⟨a, b⟩, c, d⟩ => ⟨a, c, b, d⟩, fun ⟨a, c, b, d⟩ => ⟨⟨a, b⟩, c, d⟩⟩
theorem com_le {u v t : List Int} (h : Com u v t) : t.length ≤ lcsN u v := lcs_le u v t h.1 h.2
theorem cand_le {u v : List Int} {s : Int} (h1 : s ∈ u) (h2 : s ∈ v) : 1 + lcsN (aft s u) (aft s v) ≤ lcsN u v := by
  obtain ⟨r, a, b, c⟩ := lcs_ex (aft s u) (aft s v)
  have := com_le (com_cons.mpr ⟨h1, h2, a, b⟩)
  rw [List.length_cons] at this
  omega
theorem lcs_cand {u v : List Int} (h : 0 < lcsN u v) : ∃ s, Cand u v s := by
  obtain ⟨r, a, b, c⟩ := lcs_ex u v
  cases r with
  | nil => rw [← c] at h; exact absurd h (by simp)
  | cons s t =>
    obtain ⟨h1, h2, h3⟩ := com_cons.mp ⟨a, b⟩
    have h4 := com_le h3
    have h5 := cand_le h1 h2
    rw [List.length_cons] at c
    exact ⟨s, h1, h2, by omega⟩
/-- x is ahead of y: longer, or as long and lesser -/
def btB (x y : List Int) : Prop := y.length < x.length ∨ (x.length = y.length ∧ HT.lexLt x y = true)
theorem lex_tri : ∀ (x y : List Int), x.length = y.length → HT.lexLt x y = false → x = y ∨ HT.lexLt y x = true
  | [], [], _, _ => .inl rfl
  | [], _ :: _, h, _ => by simp at h
  | _ :: _, [], h, _ => by simp at h
  | a :: x, b :: y, h, g => by
    rw [HT.lexLt_cons] at g ⊢
    by_cases c : a = b
    · subst c
      rw [if_pos rfl] at g ⊢
      rcases lex_tri x y (by simpa using h) g with z | z
      · exact .inl (by rw [z])
      · exact .inr z
    · rw [if_neg c] at g
      rw [if_neg (Ne.symm c)]
      have := of_decide_eq_false g
      exact .inr (decide_eq_true (by omega))
theorem lex_trans : ∀ (x y z : List Int), x.length = y.length → y.length = z.length → HT.lexLt x y = true → HT.lexLt y z = true → HT.lexLt x z = true
  | [], [], _, _, _, h, _ => by cases h
  | [], _ :: _, _, h, _, _, _ => by simp at h
  | _ :: _, [], _, h, _, _, _ => by simp at h
  | _ :: _, _ :: _, [], _, h, _, _ => by simp at h
  | a :: x, b :: y, c :: z, h1, h2, g1, g2 => by
    rw [HT.lexLt_cons] at g1 g2 ⊢
    by_cases ab : a = b
    · subst ab
      rw [if_pos rfl] at g1
      by_cases ac : a = c
      · subst ac
        rw [if_pos rfl] at g2 ⊢
        exact lex_trans x y z (by simpa using h1) (by simpa using h2) g1 g2
      · rw [if_neg ac] at g2 ⊢
        exact g2
    · rw [if_neg ab] at g1
      have h3 := of_decide_eq_true g1
      by_cases bc : b = c
      · subst bc
        rw [if_neg ab]
        exact g1
      · rw [if_neg bc] at g2
        have h4 := of_decide_eq_true g2
        rw [if_neg (by omega)]
        exact decide_eq_true (by omega)
theorem btB.trans {x y z : List Int} (h : btB x y) (g : btB y z) : btB x z := by
  rcases h with h | ⟨h, h2⟩
  · rcases g with g | ⟨g, _⟩
    · exact .inl (by omega)
    · exact .inl (by omega)
  · rcases g with g | ⟨g, g2⟩
    · exact .inl (by omega)
    · exact .inr ⟨by omega, lex_trans x y z h g h2 g2⟩
theorem btB.tri {x y : List Int} (h : ¬ btB x y) : x = y ∨ btB y x := by
  by_cases c : x.length = y.length
  · rcases lex_tri x y c (by
      cases e : HT.lexLt x y with
      | false => rfl
      | true => exact absurd (.inr ⟨c, e⟩) h) with z | z
    · exact .inl z
    · exact .inr (.inr ⟨c.symm, z⟩)
  · refine .inr (.inl ?_)
    have : ¬ y.length < x.length := fun z => h (.inl z)
    omega
theorem btB.irr {x : List Int} (h : btB x x) : False := by
  rcases h with h | ⟨_, h⟩
  · omega
  · rw [lexLt_self] at h; cases h
/-- r is the first of those that P tells -/
def IsB (P : List Int → Prop) (r : List Int) : Prop := P r ∧ ∀ t, P t → t = r ∨ btB r t
theorem IsB.one {P : List Int → Prop} {r t : List Int} (h : IsB P r) (g : IsB P t) : r = t := by
  rcases h.2 t g.1 with z | z
  · exact z.symm
  · rcases g.2 r h.1 with y | y
    · exact y
    · exact (btB.irr (z.trans y)).elim
abbrev Bst (u v r : List Int) : Prop := IsB (Com u v) r
theorem Bst.len {u v r : List Int} (h : Bst u v r) : r.length = lcsN u v := by
  obtain ⟨t, a, b, c⟩ := lcs_ex u v
  have h1 := com_le h.1
  rcases h.2 t ⟨a, b⟩ with z | z | ⟨z, _⟩
  · rw [← z]; exact c
  · omega
  · omega
theorem Bst.nil {u v : List Int} (h : lcsN u v = 0) : Bst u v [] := ⟨⟨List.nil_sublist _, List.nil_sublist _⟩, fun t ht => .inl (by
  have := com_le ht
  exact List.eq_nil_of_length_eq_zero (by omega))⟩
theorem Bst.step {u v r : List Int} {s : Int} (hs : Cand u v s) (hm : ∀ s', Cand u v s' → s ≤ s') (h : Bst (aft s u) (aft s v) r) : Bst u v (s :: r) := by
  have hl := h.len
  refine ⟨com_cons.mpr ⟨hs.1, hs.2.1, h.1⟩, fun t ht => ?_⟩
  cases t with
  | nil => exact .inr (.inl (by simp))
  | cons a t =>
    have ht' := com_le ht
    obtain ⟨h1, h2, h3⟩ := com_cons.mp ht
    have h4 := com_le h3
    have h5 := cand_le h1 h2
    have h6 := hs.2.2
    rw [List.length_cons] at ht'
    by_cases c : t.length + 1 = lcsN u v
    · have h7 := hm a ⟨h1, h2, by omega⟩
      by_cases d : s = a
      · subst d
        rcases h.2 t h3 with z | z | ⟨z, y⟩
        · exact .inl (by rw [z])
        · omega
        · exact .inr (.inr ⟨by simp [z], by rw [HT.lexLt_cons, if_pos rfl]; exact y⟩)
      · exact .inr (.inr ⟨by simp only [List.length_cons]; omega, by rw [HT.lexLt_cons, if_neg d]; exact decide_eq_true (by omega)⟩)
    · exact .inr (.inl (by simp only [List.length_cons]; omega))
def lrow (u vs : List Int) : List V := (List.range (vs.length + 1)).map fun j => V.int ((lcsN u (vs.drop j) : Nat) : Int)
/-- the lengths for each two places -/
def LT (H : Hp) (v : V) (us vs : List Int) : Prop := ∃ f xs, v = .ref f ∧ H f = some (.lst xs) ∧ xs.length = us.length + 1 ∧ ∀ i, i ≤ us.length → ∃ b, xs[i]? = some (.ref b) ∧ H b = some (.lst (lrow (us.drop i) vs))
theorem LT.mono {H H' : Hp} {v : V} {us vs : List Int} (e : Ex H H') (h : LT H v us vs) : LT H' v us vs := by
  obtain ⟨f, xs, h1, h2, h3, h4⟩ := h
  exact ⟨f, xs, h1, e _ _ h2, h3, fun i hi => by
    obtain ⟨b, h5, h6⟩ := h4 i hi
    exact ⟨b, h5, e _ _ h6⟩⟩
theorem lrow_at {u vs : List Int} {j : Nat} (h : j ≤ vs.length) : atI (lrow u vs) ((j : Nat) : Int) = some (.int ((lcsN u (vs.drop j) : Nat) : Int)) := by
  refine atI_nat ?_
  unfold lrow
  rw [List.getElem?_map, List.getElem?_range (by omega)]
  rfl
theorem drop_get {us : List Int} {k : Nat} (h : k < us.length) : us.drop k = us.getD k 0 :: us.drop (k + 1) := by
  rw [List.drop_eq_getElem_cons h]
  simp [List.getD, h]
def s_lengths_from (K : PySem.W.Frag) (x0 x1 : V) (H : Hp) (Q : VK) (E : XK) : Prop := ∃ (a b : Addr) (us vs : List Int), x0 = .ref a ∧ SqT K H a (us.map V.int) ∧ x1 = .ref b ∧ SqT K H b (vs.map V.int) ∧ us.length ≤ 60 ∧ vs.length ≤ 60 ∧ ∀ f H', Ex H H' → LT H' (.ref f) us vs → Q (.ref f) H'
def sp_lengths_from (K : PySem.W.Frag) : Sp := fun vs H Q E => match vs with
  | [x0, x1] => s_lengths_from K x0 x1 H Q E
  | _ => False
theorem inV_int (s : Int) : ∀ ns : List Int, inV (.int s) (ns.map V.int) = decide (s ∈ ns)
  | [] => rfl
  | n :: ns => by
    have ih := inV_int s ns
    unfold inV at ih ⊢
    rw [List.map_cons, List.any_cons, ih]
    by_cases c : s = n
    · subst c; simp [eqV]
    · have : ¬ n = s := fun z => c z.symm
      simp [eqV, c, this]
theorem l_inI {K : PySem.W.Frag} {H : Hp} {Q : VK} {s : Int} {p : Addr} {ns : List Int} (h : SqL K H p (ns.map V.int) ∨ SqT K H p (ns.map V.int)) (k : Q (.bl (decide (s ∈ ns))) H) : rIn K false (.int s) (.ref p) H Q :=
  ⟨p, _, rfl, h, rfl, by rw [List.all_map]; exact List.all_eq_true.mpr fun _ _ => rfl, by rw [inV_int]; exact k⟩
theorem idx_le {s : Int} : ∀ {l : List Int} {m : Nat}, l[m]? = some s → l.idxOf s ≤ m
  | [], _, h => by cases h
  | a :: l, 0, h => by
    have e : a = s := Option.some.inj h
    rw [List.idxOf_cons, e]
    simp
  | a :: l, m + 1, h => by
    rw [List.idxOf_cons]
    by_cases c : a = s
    · rw [c]; simp
    · rw [show (a == s) = false from beq_eq_false_iff_ne.mpr c]
      have := idx_le (l := l) (m := m) h
      simp only [cond_false]
      omega
theorem idx_at {us : List Int} {i : Nat} {s : Int} (h : s ∈ us.drop i) : us[i + (us.drop i).idxOf s]? = some s ∧ i + (us.drop i).idxOf s < us.length ∧ ∀ m, i ≤ m → m < i + (us.drop i).idxOf s → us[m]? ≠ some s := by
  have hl := List.idxOf_lt_length_of_mem h
  have hg := List.getElem_idxOf hl
  have h1 : (us.drop i)[(us.drop i).idxOf s]? = some s := by rw [List.getElem?_eq_getElem hl, hg]
  rw [List.getElem?_drop] at h1
  refine ⟨h1, (List.getElem?_eq_some_iff.mp h1).1, fun m h0 hm e => ?_⟩
  have h2 : (us.drop i)[m - i]? = some s := by rw [List.getElem?_drop, show i + (m - i) = m by omega]; exact e
  have h3 := idx_le h2
  omega
theorem aft_drop {us : List Int} {i : Nat} {s : Int} : aft s (us.drop i) = us.drop (i + (us.drop i).idxOf s + 1) := by
  unfold aft
  rw [List.drop_drop]
  rfl
def s_first_sign (K : PySem.W.Frag) (x0 x1 x2 x3 x4 : V) (H : Hp) (Q : VK) (E : XK) : Prop := ∃ (a b : Addr) (us vs : List Int) (i j : Nat), x0 = .ref a ∧ Nt H a (us.map V.int) ∧ x1 = .ref b ∧ Nt H b (vs.map V.int) ∧ LT H x2 us vs ∧ x3 = .int (i : Nat) ∧ i ≤ us.length ∧ x4 = .int (j : Nat) ∧ j ≤ vs.length ∧ us.length ≤ 60 ∧ vs.length ≤ 60 ∧ 0 < lcsN (us.drop i) (vs.drop j) ∧
  ∀ t s H', Ex H H' → SqT K H' t [.int s, .int ((i + (us.drop i).idxOf s + 1 : Nat) : Int), .int ((j + (vs.drop j).idxOf s + 1 : Nat) : Int)] → Cand (us.drop i) (vs.drop j) s → (∀ s', Cand (us.drop i) (vs.drop j) s' → s ≤ s') → Q (.ref t) H'
def sp_first_sign (K : PySem.W.Frag) : Sp := fun vs H Q E => match vs with
  | [x0, x1, x2, x3, x4] => s_first_sign K x0 x1 x2 x3 x4 H Q E
  | _ => False
def s_common_row (K : PySem.W.Frag) (x0 x1 : V) (H : Hp) (Q : VK) (E : XK) : Prop := ∃ (a b : Addr) (us vs : List Int), x0 = .ref a ∧ Nt H a (us.map V.int) ∧ x1 = .ref b ∧ Nt H b (vs.map V.int) ∧ us.length ≤ 60 ∧ vs.length ≤ 60 ∧ Sg 36 us ∧ Sg 36 vs ∧ ∀ t r H', Ex H H' → SqT K H' t (r.map V.int) → Bst us vs r → Q (.ref t) H'
def sp_common_row (K : PySem.W.Frag) : Sp := fun vs H Q E => match vs with
  | [x0, x1] => s_common_row K x0 x1 H Q E
  | _ => False
def s_nearness (K : PySem.W.Frag) (x0 x1 : V) (H : Hp) (Q : VK) (E : XK) : Prop := ∃ (a b : Addr) (us vs : List Int), x0 = .ref a ∧ Nt H a (us.map V.int) ∧ x1 = .ref b ∧ Nt H b (vs.map V.int) ∧ us.length ≤ 60 ∧ vs.length ≤ 60 ∧ Sg 36 us ∧ Sg 36 vs ∧ ∀ H', Ex H H' → Q (.int ((us.length : Int) + vs.length - 2 * (lcsN us vs : Nat))) H'
def sp_nearness (K : PySem.W.Frag) : Sp := fun vs H Q E => match vs with
  | [x0, x1] => s_nearness K x0 x1 H Q E
  | _ => False
def s_lost_ring (K : PySem.W.Frag) (x0 x1 : V) (H : Hp) (Q : VK) (E : XK) : Prop := ∃ (q : Int) (ns : List Int), x0 = .int q ∧ (2 ≤ q ∧ q ≤ 36) ∧ Wd K H q x1 ns ∧ ∀ p ys us H', H p = none → Ex H H' → H' p = some (.lst ys) → Wts K H' ys us → Ring q us (losts ns) → Q (.ref p) H'
def sp_lost_ring (K : PySem.W.Frag) : Sp := fun vs H Q E => match vs with
  | [x0, x1] => s_lost_ring K x0 x1 H Q E
  | _ => False
def s_put_ring (K : PySem.W.Frag) (x0 x1 : V) (H : Hp) (Q : VK) (E : XK) : Prop := ∃ (q : Nat) (ns : List Int), x0 = .int (q : Nat) ∧ (2 ≤ q ∧ q ≤ 36) ∧ Wd K H q x1 ns ∧ ns.length < 60 ∧ (ns.length + 1) * q ≤ 1200 ∧ ∀ p ys us H', H p = none → Ex H H' → H' p = some (.lst ys) → Wts K H' ys us → Ring q us (puts q ns) → Q (.ref p) H'
def sp_put_ring (K : PySem.W.Frag) : Sp := fun vs H Q E => match vs with
  | [x0, x1] => s_put_ring K x0 x1 H Q E
  | _ => False
def s_changed_ring (K : PySem.W.Frag) (x0 x1 : V) (H : Hp) (Q : VK) (E : XK) : Prop := ∃ (q : Nat) (ns : List Int), x0 = .int (q : Nat) ∧ (2 ≤ q ∧ q ≤ 36) ∧ Wd K H q x1 ns ∧ ns.length * q + 1 ≤ 1200 ∧ ∀ p ys us H', H p = none → Ex H H' → H' p = some (.lst ys) → Wts K H' ys us → Ring q us ([ns] ++ chgs q ns) → Q (.ref p) H'
def sp_changed_ring (K : PySem.W.Frag) : Sp := fun vs H Q E => match vs with
  | [x0, x1] => s_changed_ring K x0 x1 H Q E
  | _ => False
def s_shape (K : PySem.W.Frag) (x0 x1 : V) (H : Hp) (Q : VK) (E : XK) : Prop := ∃ (q : Int) (ns : List Int), x0 = .int q ∧ (2 ≤ q ∧ q ≤ 36) ∧ Wd K H q x1 ns ∧ ns ≠ [] ∧ ∀ p H', Ex H H' → SqT K H' p ((shp ns).map V.int) → Q (.ref p) H'
def sp_shape (K : PySem.W.Frag) : Sp := fun vs H Q E => match vs with
  | [x0, x1] => s_shape K x0 x1 H Q E
  | _ => False
def s_weighted (K : PySem.W.Frag) (x0 x1 : V) (H : Hp) (Q : VK) (E : XK) : Prop := ∃ (q : Int) (ns : List Int), x0 = .int q ∧ (2 ≤ q ∧ q ≤ 36) ∧ Wd K H q x1 ns ∧ ∀ H', Ex H H' → Q (.int (wsum ns)) H'
def sp_weighted (K : PySem.W.Frag) : Sp := fun vs H Q E => match vs with
  | [x0, x1] => s_weighted K x0 x1 H Q E
  | _ => False
def s_want_rest (K : PySem.W.Frag) (x0 x1 : V) (H : Hp) (Q : VK) (E : XK) : Prop := ∃ a m : Int, x0 = .int a ∧ x1 = .int m ∧ (0 ≤ a ∧ a < m) ∧ Q .non H
def sp_want_rest (K : PySem.W.Frag) : Sp := fun vs H Q E => match vs with
  | [x0, x1] => s_want_rest K x0 x1 H Q E
  | _ => False
def s_ManyList_init (K : PySem.W.Frag) (x0 x1 x2 x3 x4 : V) (H : Hp) (Q : VK) (E : XK) : Prop := ∃ (p C dx : Addr) (q n a b : Int), x0 = .ref p ∧ PySem.W.nsIn K mainGlobals "ManyList" = some (some (.ref C)) ∧ H p = some (.ins C dx []) ∧ x1 = .int q ∧ (2 ≤ q ∧ q ≤ 10) ∧ x2 = .int n ∧ (2 ≤ n ∧ n ≤ 24) ∧ x3 = .int a ∧ (0 ≤ a ∧ a < n) ∧ x4 = .int b ∧ (0 ≤ b ∧ b < q) ∧ ∀ H', ExB p H H' → ML K H' (.ref p) q n a b → Q .non H'
def sp_ManyList_init (K : PySem.W.Frag) : Sp := fun vs H Q E => match vs with
  | [x0, x1, x2, x3, x4] => s_ManyList_init K x0 x1 x2 x3 x4 H Q E
  | _ => False
def s_ManyList_signs (K : PySem.W.Frag) (x0 : V) (H : Hp) (Q : VK) (E : XK) : Prop := ∃ q n a b : Int, ML K H x0 q n a b ∧ Q (.int q) H
def sp_ManyList_signs (K : PySem.W.Frag) : Sp := fun vs H Q E => match vs with
  | [x0] => s_ManyList_signs K x0 H Q E
  | _ => False
def s_ManyList_length (K : PySem.W.Frag) (x0 : V) (H : Hp) (Q : VK) (E : XK) : Prop := ∃ q n a b : Int, ML K H x0 q n a b ∧ Q (.int n) H
def sp_ManyList_length (K : PySem.W.Frag) : Sp := fun vs H Q E => match vs with
  | [x0] => s_ManyList_length K x0 H Q E
  | _ => False
def s_ManyList_rests (K : PySem.W.Frag) (x0 : V) (H : Hp) (Q : VK) (E : XK) : Prop := ∃ q n a b : Int, ML K H x0 q n a b ∧ ∀ t, SqT K H t [.int a, .int b] → Q (.ref t) H
def sp_ManyList_rests (K : PySem.W.Frag) : Sp := fun vs H Q E => match vs with
  | [x0] => s_ManyList_rests K x0 H Q E
  | _ => False
def s_ManyList_has (K : PySem.W.Frag) (x0 x1 : V) (H : Hp) (Q : VK) (E : XK) : Prop := ∃ (q n a b : Int) (ns : List Int), ML K H x0 q n a b ∧ (2 ≤ q ∧ q ≤ 10) ∧ (2 ≤ n ∧ n ≤ 24) ∧ Wd K H q x1 ns ∧ ∀ H', Ex H H' → Q (.bl (inML q n a b ns)) H'
def sp_ManyList_has (K : PySem.W.Frag) : Sp := fun vs H Q E => match vs with
  | [x0, x1] => s_ManyList_has K x0 x1 H Q E
  | _ => False
def candsM (q n : Nat) (c : List Int) : List (List Int) := if (c.length : Int) = (n : Int) - 1 then puts q c else if c.length = n then [c] else losts c
theorem getD_ext {u v : List Int} (hl : u.length = v.length) (h : ∀ k, k < u.length → u.getD k 0 = v.getD k 0) : u = v := by
  refine List.ext_getElem hl fun k h1 h2 => ?_
  have := h k h1
  rw [List.getD_eq_getElem?_getD, List.getD_eq_getElem?_getD, List.getElem?_eq_getElem h1, List.getElem?_eq_getElem h2] at this
  exact this
theorem put_getD {y : List Int} {i k : Nat} {s : Int} (hi : i ≤ y.length) : (putAt y i s).getD k 0 = if k < i then y.getD k 0 else if k = i then s else y.getD (k - 1) 0 := by
  unfold putAt
  rw [List.getD_eq_getElem?_getD, List.append_assoc]
  by_cases c : k < i
  · rw [List.getElem?_append_left (by rw [List.length_take]; omega), List.getElem?_take, if_pos c, if_pos c, List.getD_eq_getElem?_getD]
  · rw [List.getElem?_append_right (by rw [List.length_take]; omega), List.length_take, Nat.min_eq_left hi, if_neg c]
    by_cases c2 : k = i
    · subst c2
      rw [Nat.sub_self, if_pos rfl]
      rfl
    · obtain ⟨m, hm⟩ : ∃ m, k = i + 1 + m := ⟨k - i - 1, by omega⟩
      subst hm
      rw [if_neg c2, show i + 1 + m - i = m + 1 by omega, List.singleton_append, List.getElem?_cons_succ, List.getElem?_drop, show i + 1 + m - 1 = i + m by omega, List.getD_eq_getElem?_getD]
theorem lost_getD {w : List Int} {i k : Nat} (hi : i < w.length) : (lostAt w i).getD k 0 = if k < i then w.getD k 0 else w.getD (k + 1) 0 := by
  unfold lostAt
  rw [List.getD_eq_getElem?_getD]
  by_cases c : k < i
  · rw [List.getElem?_append_left (by rw [List.length_take]; omega), List.getElem?_take, if_pos c, if_pos c, List.getD_eq_getElem?_getD]
  · rw [List.getElem?_append_right (by rw [List.length_take]; omega), List.length_take, Nat.min_eq_left (by omega), if_neg c, List.getElem?_drop, show i + 1 + (k - i) = k + 1 by omega, List.getD_eq_getElem?_getD]
theorem shp_getD {w : List Int} {k : Nat} (hk : k + 1 < w.length) : (shp w).getD k 0 = if w.getD k 0 ≤ w.getD (k + 1) 0 then 1 else 0 := by
  unfold shp
  rw [List.getD_eq_getElem?_getD, List.getElem?_map, List.getElem?_range (by omega)]
  rfl
theorem bit_iff {A B : Prop} [Decidable A] [Decidable B] (h : (if A then (1 : Int) else 0) = if B then 1 else 0) : A ↔ B := by
  by_cases a : A <;> by_cases b : B <;> simp [a, b] at h ⊢
theorem shp_bits {u v : List Int} (hl : u.length = v.length) (h : shp u = shp v) {k : Nat} (hk : k + 1 < u.length) : u.getD k 0 ≤ u.getD (k + 1) 0 ↔ v.getD k 0 ≤ v.getD (k + 1) 0 := by
  have e : (shp u).getD k 0 = (shp v).getD k 0 := by rw [h]
  rw [shp_getD hk, shp_getD (by omega)] at e
  exact bit_iff e
/-- the same sign put in at two places, and the same shape: the same word -/
theorem put_one {y : List Int} {i j : Nat} {s : Int} (hij : i ≤ j) (hj : j ≤ y.length) (h : shp (putAt y i s) = shp (putAt y j s)) : putAt y i s = putAt y j s := by
  have l1 := putAt_len (w := y) (k := i) (s := s) (by omega)
  have l2 := putAt_len (w := y) (k := j) (s := s) hj
  obtain ⟨m, rfl⟩ : ∃ m, j = i + m := ⟨j - i, by omega⟩
  by_cases hm : m = 0
  · subst hm; rfl
  -- t r : the sign at i + r of the first word
  have x0 : (putAt y i s).getD i 0 = s := by rw [put_getD (by omega), if_neg (by omega), if_pos rfl]
  have xp : ∀ r, 1 ≤ r → (putAt y i s).getD (i + r) 0 = y.getD (i + r - 1) 0 := fun r hr => by
    rw [put_getD (by omega), if_neg (by omega), if_neg (by omega)]
  have xq : ∀ r, r < m → (putAt y (i + m) s).getD (i + r) 0 = y.getD (i + r) 0 := fun r hr => by
    rw [put_getD hj, if_pos (by omega)]
  have xm : (putAt y (i + m) s).getD (i + m) 0 = s := by rw [put_getD hj, if_neg (by omega), if_pos rfl]
  -- T r = the sequence s, y_i, .., y_(i+m-1), s
  have bit : ∀ r, r < m → ((putAt y i s).getD (i + r) 0 ≤ (putAt y i s).getD (i + r + 1) 0 ↔ (putAt y (i + m) s).getD (i + r) 0 ≤ (putAt y (i + m) s).getD (i + r + 1) 0) := fun r hr => shp_bits (by omega) h (by omega)
  have T : ∀ r, r < m → (putAt y i s).getD (i + r + 1) 0 = y.getD (i + r) 0 := fun r hr => by
    have := xp (r + 1) (by omega)
    rwa [show i + (r + 1) = i + r + 1 by omega, show i + r + 1 - 1 = i + r by omega] at this
  -- all bits alike
  have first : s ≤ y.getD i 0 ↔ (putAt y i s).getD (i + 0) 0 ≤ (putAt y i s).getD (i + 0 + 1) 0 := by
    rw [T 0 (by omega), Nat.add_zero, x0]
  have step : ∀ r, r + 1 < m → (y.getD (i + r) 0 ≤ y.getD (i + r + 1) 0 ↔ (putAt y i s).getD (i + r) 0 ≤ (putAt y i s).getD (i + r + 1) 0) := fun r hr => by
    rw [bit r (by omega), xq r (by omega), show i + r + 1 = i + (r + 1) by omega, xq (r + 1) hr]
  have last : y.getD (i + (m - 1)) 0 ≤ s ↔ (putAt y i s).getD (i + (m - 1)) 0 ≤ (putAt y i s).getD (i + (m - 1) + 1) 0 := by
    rw [bit (m - 1) (by omega), xq (m - 1) (by omega), show i + (m - 1) + 1 = i + m by omega, xm]
  have alike : ∀ r, r < m → ((putAt y i s).getD (i + r) 0 ≤ (putAt y i s).getD (i + r + 1) 0 ↔ s ≤ y.getD i 0) := by
    intro r
    induction r with
    | zero => intro _; exact first.symm
    | succ r ih =>
      intro hr
      rw [← ih (by omega), ← step r hr, T (r + 1) hr, show i + (r + 1) = i + r + 1 by omega, T r (by omega)]
  by_cases c : s ≤ y.getD i 0
  · -- rising all the way: all alike
    have up : ∀ r, r < m → s ≤ y.getD (i + r) 0 := by
      intro r
      induction r with
      | zero => intro _; exact c
      | succ r ih =>
        intro hr
        have := (step r hr).mpr ((alike r (by omega)).mpr c)
        have := ih (by omega)
        rw [show i + (r + 1) = i + r + 1 by omega]
        omega
    have ll := last.mpr ((alike (m - 1) (by omega)).mpr c)
    have down : ∀ d, d < m → y.getD (i + (m - 1 - d)) 0 ≤ s := by
      intro d
      induction d with
      | zero => intro _; exact ll
      | succ d ih =>
        intro hd
        have h1 := ih (by omega)
        have h2 := (step (m - 1 - (d + 1)) (by omega)).mpr ((alike (m - 1 - (d + 1)) (by omega)).mpr c)
        rw [show i + (m - 1 - (d + 1)) + 1 = i + (m - 1 - d) by omega] at h2
        omega
    have all : ∀ r, r < m → y.getD (i + r) 0 = s := fun r hr => by
      have h1 := up r hr
      have h2 := down (m - 1 - r) (by omega)
      rw [show m - 1 - (m - 1 - r) = r by omega] at h2
      omega
    refine getD_ext (by omega) fun k hk => ?_
    rw [put_getD (by omega), put_getD hj]
    by_cases c1 : k < i
    · rw [if_pos c1, if_pos (by omega)]
    · rw [if_neg c1]
      obtain ⟨r, rfl⟩ : ∃ r, k = i + r := ⟨k - i, by omega⟩
      by_cases c2 : r < m
      · rw [if_pos (show i + r < i + m by omega), all r c2]
        by_cases c3 : r = 0
        · rw [if_pos (show i + r = i by omega)]
        · rw [if_neg (show ¬ i + r = i by omega), show i + r - 1 = i + (r - 1) by omega, all (r - 1) (by omega)]
      · rw [if_neg (show ¬ i + r < i + m by omega), if_neg (show ¬ i + r = i by omega)]
        by_cases c3 : r = m
        · rw [if_pos (show i + r = i + m by omega), show i + r - 1 = i + (m - 1) by omega, all (m - 1) (by omega)]
        · rw [if_neg (show ¬ i + r = i + m by omega)]
  · exfalso
    have dn : ∀ r, r < m → y.getD (i + r) 0 < s := by
      intro r
      induction r with
      | zero => intro _; rw [Nat.add_zero]; omega
      | succ r ih =>
        intro hr
        have h1 : ¬ y.getD (i + r) 0 ≤ y.getD (i + r + 1) 0 := fun z => c ((alike r (by omega)).mp ((step r hr).mp z))
        have := ih (by omega)
        rw [show i + (r + 1) = i + r + 1 by omega]
        omega
    have h1 : ¬ y.getD (i + (m - 1)) 0 ≤ s := fun z => c ((alike (m - 1) (by omega)).mp (last.mp z))
    have := dn (m - 1) (by omega)
    omega
/-- a word's loss loses a sign of its shape -/
theorem shp_lost {w : List Int} {i : Nat} (h2 : 2 ≤ w.length) (hi : i < w.length) : ∃ k, k < (shp w).length ∧ shp (lostAt w i) = lostAt (shp w) k := by
  have ls := shp_len w
  have ll := lostAt_len hi
  have key : ∀ k, k < w.length - 1 → (∀ j, j + 2 < w.length → ((lostAt w i).getD j 0 ≤ (lostAt w i).getD (j + 1) 0 ↔ w.getD (if j < k then j else j + 1) 0 ≤ w.getD ((if j < k then j else j + 1) + 1) 0)) → shp (lostAt w i) = lostAt (shp w) k := fun k hk hb => by
    refine getD_ext (by rw [shp_len, lostAt_len (w := shp w) (k := k) (by omega), ls, ll]) fun j hj => ?_
    rw [shp_len, ll] at hj
    rw [shp_getD (w := lostAt w i) (by omega), lost_getD (w := shp w) (i := k) (by omega)]
    have := hb j (by omega)
    by_cases c : j < k
    · rw [if_pos c] at this ⊢
      rw [shp_getD (by omega)]
      simp only [this]
    · rw [if_neg c] at this ⊢
      rw [shp_getD (by omega)]
      simp only [this]
  by_cases c0 : i = 0
  · refine ⟨0, by omega, key 0 (by omega) fun j hj => ?_⟩
    rw [lost_getD hi, lost_getD hi, if_neg (by omega), if_neg (by omega), if_neg (by omega)]
  by_cases c1 : i = w.length - 1
  · refine ⟨w.length - 2, by omega, key (w.length - 2) (by omega) fun j hj => ?_⟩
    rw [lost_getD hi, lost_getD hi, if_pos (by omega), if_pos (by omega), if_pos (by omega)]
  by_cases c : (w.getD (i - 1) 0 ≤ w.getD (i + 1) 0 ↔ w.getD (i - 1) 0 ≤ w.getD i 0)
  · refine ⟨i, by omega, key i (by omega) fun j hj => ?_⟩
    rw [lost_getD hi, lost_getD hi]
    by_cases d1 : j + 1 < i
    · rw [if_pos (by omega), if_pos d1, if_pos (by omega)]
    · by_cases d2 : j + 1 = i
      · rw [if_pos (by omega), if_neg (by omega), if_pos (by omega)]
        have e : j = i - 1 := by omega
        subst e
        rw [show i - 1 + 1 + 1 = i + 1 by omega, show i - 1 + 1 = i by omega]
        exact c
      · rw [if_neg (by omega), if_neg (by omega), if_neg (by omega)]
  · refine ⟨i - 1, by omega, key (i - 1) (by omega) fun j hj => ?_⟩
    rw [lost_getD hi, lost_getD hi]
    by_cases d1 : j + 1 < i
    · rw [if_pos (by omega), if_pos d1, if_pos (by omega)]
    · by_cases d2 : j + 1 = i
      · rw [if_pos (by omega), if_neg (by omega), if_neg (by omega)]
        have e : j = i - 1 := by omega
        subst e
        rw [show i - 1 + 1 + 1 = i + 1 by omega, show i - 1 + 1 = i by omega]
        constructor
        · intro z
          by_cases p : w.getD (i - 1) 0 ≤ w.getD i 0
          · exact absurd ⟨fun _ => p, fun _ => z⟩ c
          · omega
        · intro z
          by_cases p : w.getD (i - 1) 0 ≤ w.getD i 0
          · omega
          · refine Decidable.byContradiction fun n => c ⟨fun a => absurd a n, fun a => absurd a p⟩
      · rw [if_neg (by omega), if_neg (by omega), if_neg (by omega)]
theorem sum_app : ∀ u v : List Int, (u ++ v).sum = u.sum + v.sum
  | [], v => by rw [List.nil_append, List.sum_nil]; omega
  | x :: u, v => by rw [List.cons_append, List.sum_cons, List.sum_cons, sum_app u v]; omega
theorem put_sum {y : List Int} {i : Nat} {s : Int} : (putAt y i s).sum = y.sum + s := by
  have e : y.sum = (y.take i).sum + (y.drop i).sum := by rw [← sum_app, List.take_append_drop]
  unfold putAt
  rw [sum_app, sum_app, List.sum_cons, List.sum_nil, e]
  omega
theorem in_ml {q n : Nat} {a b : Int} {w : List Int} (h : inML q n a b w = true) : w.length = n ∧ wsum (shp w) % (n : Int) = a ∧ w.sum % (q : Int) = b := by
  unfold inML at h
  rw [Bool.and_eq_true, decide_eq_true_eq, decide_eq_true_eq] at h
  obtain ⟨h1, h2⟩ := h
  have := List.cons.inj h2
  exact ⟨by omega, this.1, (List.cons.inj this.2).1⟩
theorem ml_pl {q n : Nat} {a b : Int} {w : List Int} (hn : 2 ≤ n) (h : inML q n a b w = true) : inPL ((n - 1 : Nat) : Int) a (shp w) = true := by
  obtain ⟨h1, h2, _⟩ := in_ml h
  unfold inPL
  rw [Bool.and_eq_true, decide_eq_true_eq, decide_eq_true_eq, shp_len]
  refine ⟨by omega, ?_⟩
  rw [show ((n - 1 : Nat) : Int) + 1 = n by omega]
  exact h2
theorem sgn_same {q : Nat} {x s t : Int} (hs : 0 ≤ s ∧ s < (q : Int)) (ht : 0 ≤ t ∧ t < (q : Int)) (h : (x + s) % (q : Int) = (x + t) % (q : Int)) : s = t := by
  have := emod_sub_0 h (by omega) (by omega) (by omega)
  omega
theorem ml_lost {q n : Nat} {a b : Int} {w v : List Int} {i j : Nat} (hn : 2 ≤ n) (hw : inML q n a b w = true) (hv : inML q n a b v = true) (sw : Sg q w) (sv : Sg q v) (hi : i < n) (hj : j < n) (h : lostAt w i = lostAt v j) : w = v := by
  obtain ⟨lw, _, bw⟩ := in_ml hw
  obtain ⟨lv, _, bv⟩ := in_ml hv
  have ew := put_lost (w := w) (k := i) (by omega)
  have ev := put_lost (w := v) (k := j) (by omega)
  have gi := sg_at sw (k := i) (by omega)
  have gj := sg_at sv (k := j) (by omega)
  obtain ⟨k, hk, ek⟩ := shp_lost (w := w) (i := i) (by omega) (by omega)
  obtain ⟨k', hk', ek'⟩ := shp_lost (w := v) (i := j) (by omega) (by omega)
  have ly := lostAt_len (w := w) (k := i) (by omega)
  have lsy := shp_len (lostAt w i)
  have lw2 := shp_len w
  have lv2 := shp_len v
  rw [← h] at ev ek'
  generalize hy : lostAt w i = y at *
  have es : shp w = shp v := by
    have sy : Sg 2 (shp y) := shp_sg y
    have hc : cands (n - 1) (shp y) = puts 2 (shp y) := by
      unfold cands
      rw [if_pos (by omega)]
    refine cands_one (n := n - 1) (a := a) (ws := shp y) (by omega) sy ?_ ?_ (ml_pl hn hw) (ml_pl hn hv)
    · rw [hc]
      exact mem_puts.mpr ⟨k, (shp w).getD k 0, by omega, sg_at (shp_sg w) hk, by rw [ek]; exact put_lost hk⟩
    · rw [hc]
      exact mem_puts.mpr ⟨k', (shp v).getD k' 0, by omega, sg_at (shp_sg v) hk', by rw [ek']; exact put_lost hk'⟩
  have ss : w.getD i 0 = v.getD j 0 := by
    have e1 : w.sum = y.sum + w.getD i 0 := by
      have := congrArg List.sum ew
      rwa [put_sum] at this
    have e2 : v.sum = y.sum + v.getD j 0 := by
      have := congrArg List.sum ev
      rwa [put_sum] at this
    refine sgn_same (q := q) (x := y.sum) gi gj ?_
    rw [← e1, ← e2, bw, bv]
  rw [← ss] at ev
  rw [ew, ev] at es
  rcases Nat.le_total i j with z | z
  · have := put_one z (by omega) es
    rw [ew, ev]
    exact this
  · have := put_one z (by omega) es.symm
    rw [ew, ev]
    exact this.symm
theorem lost_comm {z : List Int} {i j : Nat} (hij : i < j) (hj : j < z.length) : lostAt (lostAt z i) (j - 1) = lostAt (lostAt z j) i := by
  have l1 := lostAt_len (w := z) (k := i) (by omega)
  have l2 := lostAt_len (w := z) (k := j) hj
  have l3 := lostAt_len (w := lostAt z i) (k := j - 1) (by omega)
  have l4 := lostAt_len (w := lostAt z j) (k := i) (by omega)
  refine getD_ext (by omega) fun k hk => ?_
  rw [lost_getD (by omega), lost_getD (by omega), lost_getD (by omega), lost_getD (by omega), lost_getD (by omega), lost_getD (by omega)]
  by_cases c1 : k < i
  · rw [if_pos (by omega), if_pos c1, if_pos c1, if_pos (by omega)]
  · by_cases c2 : k < j - 1
    · rw [if_pos c2, if_neg c1, if_neg c1, if_pos (by omega)]
    · rw [if_neg c2, if_neg (by omega), if_neg c1, if_neg (by omega)]
theorem ml_put {q n : Nat} {a b : Int} {w v : List Int} {i j : Nat} {s t : Int} (hn : 2 ≤ n) (hw : inML q n a b w = true) (hv : inML q n a b v = true) (hs : 0 ≤ s ∧ s < (q : Int)) (ht : 0 ≤ t ∧ t < (q : Int)) (hi : i ≤ n) (hj : j ≤ n) (h : putAt w i s = putAt v j t) : w = v := by
  obtain ⟨lw, _, bw⟩ := in_ml hw
  obtain ⟨lv, _, bv⟩ := in_ml hv
  have ew := lost_put (w := w) (k := i) (s := s) (by omega)
  have ev := lost_put (w := v) (k := j) (s := t) (by omega)
  have lz := putAt_len (w := w) (k := i) (s := s) (by omega)
  have zi : (putAt w i s).getD i 0 = s := by rw [put_getD (by omega), if_neg (by omega), if_pos rfl]
  have zj : (putAt v j t).getD j 0 = t := by rw [put_getD (by omega), if_neg (by omega), if_pos rfl]
  have e1 : (putAt w i s).sum = w.sum + s := put_sum
  have e2 : (putAt v j t).sum = v.sum + t := put_sum
  rw [← h] at ev zj e2
  generalize hz : putAt w i s = z at *
  have ss : s = t := by
    have x1 : w.sum + s - (w.sum + s) % (q : Int) = w.sum + s - (w.sum + s) % (q : Int) := rfl
    have h1 : (z.sum - s) % (q : Int) = (z.sum - t) % (q : Int) := by
      rw [show z.sum - s = w.sum by omega, show z.sum - t = v.sum by omega, bw, bv]
    have := emod_sub_0 h1 (by omega) (by omega) (by omega)
    omega
  subst ss
  obtain ⟨k, hk, ek⟩ := shp_lost (w := z) (i := i) (by omega) (by omega)
  obtain ⟨k', hk', ek'⟩ := shp_lost (w := z) (i := j) (by omega) (by omega)
  rw [ew] at ek
  rw [ev] at ek'
  have lsz := shp_len z
  have es : shp w = shp v := by
    have hc : cands (n - 1) (shp z) = losts (shp z) := by
      unfold cands
      rw [if_neg (by omega), if_neg (by omega)]
    refine cands_one (n := n - 1) (a := a) (ws := shp z) (by omega) (shp_sg z) ?_ ?_ (ml_pl hn hw) (ml_pl hn hv)
    · rw [hc]
      exact mem_losts.mpr ⟨k, hk, ek⟩
    · rw [hc]
      exact mem_losts.mpr ⟨k', hk', ek'⟩
  have main : ∀ {i j : Nat} {w v : List Int}, i < j → j < z.length → lostAt z i = w → lostAt z j = v → z.getD i 0 = s → z.getD j 0 = s → shp w = shp v → w = v := fun {i j w v} hij hj ew ev zi zj es => by
    have l1 := lostAt_len (w := z) (k := i) (by omega)
    have l2 := lostAt_len (w := z) (k := j) hj
    have c := lost_comm hij hj
    rw [ew, ev] at c
    rw [ew] at l1
    rw [ev] at l2
    have pw := put_lost (w := w) (k := j - 1) (by omega)
    have pv := put_lost (w := v) (k := i) (by omega)
    have gw : w.getD (j - 1) 0 = s := by rw [← ew, lost_getD (by omega), if_neg (by omega), show j - 1 + 1 = j by omega, zj]
    have gv : v.getD i 0 = s := by rw [← ev, lost_getD (by omega), if_pos hij, zi]
    rw [gw, c] at pw
    rw [gv] at pv
    have ll := lostAt_len (w := v) (k := i) (by omega)
    generalize lostAt v i = y at *
    rw [pw, pv] at es
    have := put_one (y := y) (i := i) (j := j - 1) (s := s) (by omega) (by omega) es.symm
    rw [pw, pv]
    exact this.symm
  rcases Nat.lt_trichotomy i j with c | c | c
  · exact main c (by omega) ew ev zi zj es
  · subst c
    rw [← ew, ← ev]
  · exact (main c (by omega) ev ew zj zi es.symm).symm
theorem candsM_wb {q n : Nat} {c u : List Int} (sc : Sg q c) (hl : c.length ≤ n + 1 ∧ n ≤ c.length + 1) (hu : u ∈ candsM q n c) : u.length = n ∧ Sg q u := by
  unfold candsM at hu
  split at hu
  · have := puts_wb sc u hu; exact ⟨by omega, this.2⟩
  · split at hu
    · rw [List.mem_singleton] at hu; subst hu; exact ⟨by omega, sc⟩
    · have := losts_wb sc u hu; exact ⟨by omega, this.2⟩
theorem candsM_one {q n : Nat} {a b : Int} {c u v : List Int} (hn : 2 ≤ n) (hl : c.length ≤ n + 1 ∧ n ≤ c.length + 1) (sc : Sg q c) (hu : u ∈ candsM q n c) (hv : v ∈ candsM q n c) (mu : inML q n a b u = true) (mv : inML q n a b v = true) : u = v := by
  have wu := candsM_wb sc hl hu
  have wv := candsM_wb sc hl hv
  unfold candsM at hu hv
  split at hu
  · rename_i c1
    rw [if_pos c1] at hv
    obtain ⟨i, s, hi, hs, rfl⟩ := mem_puts.mp hu
    obtain ⟨j, t, hj, ht, rfl⟩ := mem_puts.mp hv
    exact ml_lost hn mu mv wu.2 wv.2 (i := i) (j := j) (by omega) (by omega) (by rw [lost_put hi, lost_put hj])
  · rename_i c1
    rw [if_neg c1] at hv
    split at hu
    · rename_i c2
      rw [if_pos c2, List.mem_singleton] at hv
      rw [List.mem_singleton] at hu
      rw [hu, hv]
    · rename_i c2
      rw [if_neg c2] at hv
      obtain ⟨i, hi, rfl⟩ := mem_losts.mp hu
      obtain ⟨j, hj, rfl⟩ := mem_losts.mp hv
      exact ml_put hn mu mv (sg_at sc hi) (sg_at sc hj) (i := i) (j := j) (by omega) (by omega) (by rw [← put_lost hi, ← put_lost hj])
/-- what may come of a word -/
def cameM (q : Nat) (w : List Int) : List (List Int) := [w] ++ losts w ++ puts q w
theorem came_cand {q : Nat} {w c : List Int} (hw : 2 ≤ w.length) (sw : Sg q w) (hc : c ∈ cameM q w) : w ∈ candsM q w.length c ∧ (c.length ≤ w.length + 1 ∧ w.length ≤ c.length + 1) ∧ Sg q c := by
  unfold candsM
  rcases List.mem_append.mp hc with hc | hc
  · rcases List.mem_append.mp hc with hc | hc
    · rw [List.mem_singleton] at hc
      subst hc
      rw [if_neg (by omega), if_pos rfl]
      exact ⟨by simp, by omega, sw⟩
    · obtain ⟨k, hk, rfl⟩ := mem_losts.mp hc
      have ll := lostAt_len hk
      rw [if_pos (by omega)]
      exact ⟨mem_puts.mpr ⟨k, _, by omega, sg_at sw hk, put_lost hk⟩, by omega, lostAt_sg sw⟩
  · obtain ⟨k, s, hk, hs, rfl⟩ := mem_puts.mp hc
    have ll := putAt_len (s := s) hk
    rw [if_neg (by omega), if_neg (by omega)]
    exact ⟨mem_losts.mpr ⟨k, by omega, (lost_put hk).symm⟩, by omega, putAt_sg sw hs⟩
theorem cand_came {q n : Nat} {c u : List Int} (sc : Sg q c) (hl : c.length ≤ n + 1 ∧ n ≤ c.length + 1) (hu : u ∈ candsM q n c) : c ∈ cameM q u := by
  unfold candsM at hu
  unfold cameM
  split at hu
  · obtain ⟨i, s, hi, hs, rfl⟩ := mem_puts.mp hu
    have ll := putAt_len (s := s) hi
    exact List.mem_append_left _ (List.mem_append_right _ (mem_losts.mpr ⟨i, by omega, (lost_put hi).symm⟩))
  · split at hu
    · rw [List.mem_singleton] at hu
      subst hu
      simp
    · obtain ⟨i, hi, rfl⟩ := mem_losts.mp hu
      have ll := lostAt_len hi
      exact List.mem_append_right _ (mem_puts.mpr ⟨i, _, by omega, sg_at sc hi, put_lost hi⟩)
def MendM (K : PySem.W.Frag) (H : Hp) (q n : Nat) (a b : Int) (ws : List Int) (v : V) : Prop := (∃ u, Wt K H v u ∧ u ∈ candsM q n ws ∧ inML q n a b u = true) ∨ (v = .non ∧ ∀ u ∈ candsM q n ws, inML q n a b u = false)
def s_words_ahead_of (K : PySem.W.Frag) (x0 x1 : V) (H : Hp) (Q : VK) (E : XK) : Prop := ∃ (q n : Nat) (a b : Int) (ns : List Int), ML K H x0 q n a b ∧ (2 ≤ q ∧ q ≤ 10) ∧ (2 ≤ n ∧ n ≤ 24) ∧ Wd K H q x1 ns ∧ (ns.length ≤ n + 1 ∧ n ≤ ns.length + 1) ∧ ∀ p ys us H', H p = none → Ex H H' → H' p = some (.lst ys) → Wts K H' ys us → (∀ w, w ∈ us ↔ w ∈ candsM q n ns) → Q (.ref p) H'
def sp_words_ahead_of (K : PySem.W.Frag) : Sp := fun vs H Q E => match vs with
  | [x0, x1] => s_words_ahead_of K x0 x1 H Q E
  | _ => False
def s_many_mended (K : PySem.W.Frag) (x0 x1 : V) (H : Hp) (Q : VK) (E : XK) : Prop := ∃ (q n : Nat) (a b0 : Int) (ns : List Int), ML K H x0 q n a b0 ∧ (2 ≤ q ∧ q ≤ 10) ∧ (2 ≤ n ∧ n ≤ 24) ∧ Wd K H q x1 ns ∧ (ns.length ≤ n + 1 ∧ n ≤ ns.length + 1) ∧ ∀ v H', Ex H H' → MendM K H' q n a b0 ns v → Q v H'
def sp_many_mended (K : PySem.W.Frag) : Sp := fun vs H Q E => match vs with
  | [x0, x1] => s_many_mended K x0 x1 H Q E
  | _ => False
/-! the words by their signs from ahead, with what is left of both rests -/
def ind (a x : Int) : Int := if a ≤ x then 1 else 0
def EW (q n : Nat) : Nat → Int → Int → Int → List (List Int)
  | 0, _, s, t => if s % (n : Int) = 0 ∧ t % (q : Int) = 0 then [[]] else []
  | m + 1, a, s, t => (List.range q).flatMap fun (x : Nat) => (EW q n m x (s - ((n : Int) - ((m + 1 : Nat) : Int)) * ind a x) (t - x)).map (((x : Nat) : Int) :: ·)
theorem EW_mod (q n : Nat) : ∀ (m : Nat) (a s t : Int), EW q n m a (s % (n : Int)) (t % (q : Int)) = EW q n m a s t
  | 0, a, s, t => by
    show (if s % (n : Int) % (n : Int) = 0 ∧ t % (q : Int) % (q : Int) = 0 then [[]] else []) = _
    rw [Int.emod_emod, Int.emod_emod]
    rfl
  | m + 1, a, s, t => by
    show ((List.range q).flatMap fun (x : Nat) => (EW q n m x (s % (n : Int) - ((n : Int) - ((m + 1 : Nat) : Int)) * ind a x) (t % (q : Int) - x)).map (((x : Nat) : Int) :: ·)) = (List.range q).flatMap fun (x : Nat) => (EW q n m x (s - ((n : Int) - ((m + 1 : Nat) : Int)) * ind a x) (t - x)).map (((x : Nat) : Int) :: ·)
    congr 1
    funext x
    rw [← EW_mod q n m x (s % (n : Int) - _), ← EW_mod q n m x (s - _), Int.emod_sub_emod, Int.emod_sub_emod]
/-- how many rows may stand behind -/
def wy (q n m : Nat) (a s t : Int) : Int := ((EW q n m a s t).length : Nat)
theorem wy_mod (q n m : Nat) (a s t : Int) : wy q n m a (s % (n : Int)) (t % (q : Int)) = wy q n m a s t := by unfold wy; rw [EW_mod]
/-- the table of a place -/
def Tb (q n m : Nat) : List Int := (List.range (q * n * q)).map fun (c : Nat) => wy q n m ((c / q / n : Nat) : Int) ((c / q % n : Nat) : Int) ((c % q : Nat) : Int)
theorem Tb_len (q n m : Nat) : (Tb q n m).length = q * n * q := by unfold Tb; simp
def cod (q n x s t : Int) : Int := (x * n + s % n) * q + t % q
theorem cod_nat {q n : Nat} (hq : 1 ≤ q) (hn : 1 ≤ n) {x : Nat} (hx : x < q) (s t : Int) : ∃ c : Nat, cod q n x s t = (c : Int) ∧ c < q * n * q ∧ c / q / n = x ∧ ((c / q % n : Nat) : Int) = s % (n : Int) ∧ ((c % q : Nat) : Int) = t % (q : Int) := by
  obtain ⟨u, hu⟩ : ∃ u : Nat, s % (n : Int) = u := ⟨(s % (n : Int)).toNat, by have := Int.emod_nonneg s (show (n : Int) ≠ 0 by omega); omega⟩
  obtain ⟨v, hv⟩ : ∃ v : Nat, t % (q : Int) = v := ⟨(t % (q : Int)).toNat, by have := Int.emod_nonneg t (show (q : Int) ≠ 0 by omega); omega⟩
  have hu1 : u < n := by have := Int.emod_lt_of_pos s (show (0 : Int) < n by omega); omega
  have hv1 : v < q := by have := Int.emod_lt_of_pos t (show (0 : Int) < q by omega); omega
  have e1 : ((x * n + u) * q + v) / q = x * n + u := by
    rw [Nat.add_comm, Nat.add_mul_div_right _ _ (by omega), Nat.div_eq_of_lt hv1, Nat.zero_add]
  have e2 : (x * n + u) / n = x := by
    rw [Nat.add_comm, Nat.add_mul_div_right _ _ (by omega), Nat.div_eq_of_lt hu1, Nat.zero_add]
  refine ⟨(x * n + u) * q + v, ?_, ?_, ?_, ?_, ?_⟩
  · unfold cod
    rw [hu, hv]
    push_cast
    rfl
  · have h1 : x * n + u + 1 ≤ q * n := by
      have := Nat.mul_le_mul_right n hx
      rw [Nat.succ_mul] at this
      omega
    have h2 := Nat.mul_le_mul_right q h1
    rw [Nat.succ_mul] at h2
    omega
  · rw [e1, e2]
  · rw [e1, Nat.add_comm, Nat.add_mul_mod_self_right, Nat.mod_eq_of_lt hu1, hu]
  · rw [Nat.add_comm, Nat.add_mul_mod_self_right, Nat.mod_eq_of_lt hv1, hv]
theorem Tb_at {q n m : Nat} (hq : 1 ≤ q) (hn : 1 ≤ n) {x : Nat} (hx : x < q) (s t : Int) : atI ((Tb q n m).map V.int) (cod q n x s t) = some (.int (wy q n m x s t)) := by
  obtain ⟨c, ec, hc, h1, h2, h3⟩ := cod_nat hq hn hx s t
  rw [ec]
  refine atI_nat ?_
  unfold Tb
  rw [List.getElem?_map, List.getElem?_map, List.getElem?_range hc]
  show some (V.int (wy q n m _ _ _)) = _
  rw [h1, h2, h3, wy_mod]
theorem code0 {q n : Nat} (hq : 1 ≤ q) (c : Nat) : (c % (q * n) = 0) ↔ ((c / q % n : Nat) : Int) % (n : Int) = 0 ∧ ((c % q : Nat) : Int) % (q : Int) = 0 := by
  rw [Nat.mod_mul, ← Int.natCast_emod, ← Int.natCast_emod, Nat.mod_mod, Nat.mod_mod]
  constructor
  · intro h
    have h2 : q * (c / q % n) = 0 := by omega
    rcases Nat.mul_eq_zero.mp h2 with h3 | h3 <;> omega
  · rintro ⟨h1, h2⟩
    have h3 : c / q % n = 0 := by omega
    rw [h3]
    omega
theorem wy0 {q n : Nat} (hq : 1 ≤ q) (c : Nat) (a : Int) : wy q n 0 a ((c / q % n : Nat) : Int) ((c % q : Nat) : Int) = if c % (q * n) = 0 then 1 else 0 := by
  unfold wy EW
  by_cases h : c % (q * n) = 0
  · rw [if_pos ((code0 hq c).mp h), if_pos h]
    rfl
  · rw [if_neg fun z => h ((code0 hq c).mpr z), if_neg h]
    rfl
/-! flat lists by lesser parts -/
def FL {α : Type} (F : Nat → List α) (x : Nat) : List α := (List.range x).flatMap F
theorem FL_succ {α : Type} (F : Nat → List α) (x : Nat) : FL F (x + 1) = FL F x ++ F x := by unfold FL; rw [List.range_succ, List.flatMap_append]; simp
theorem FL_mono {α : Type} (F : Nat → List α) {x y : Nat} (h : x ≤ y) : (FL F x).length ≤ (FL F y).length := by
  induction y with
  | zero => rw [Nat.le_zero.mp h]; exact Nat.le_refl _
  | succ y ih =>
    rw [FL_succ, List.length_append]
    rcases Nat.lt_or_ge x (y + 1) with c | c
    · have := ih (by omega)
      omega
    · have : x = y + 1 := by omega
      rw [this, FL_succ, List.length_append]
      exact Nat.le_refl _
theorem FL_get {α : Type} (F : Nat → List α) {x i : Nat} (hi : i < (F x).length) : ∀ {q : Nat}, x < q → (FL F q)[(FL F x).length + i]? = (F x)[i]?
  | 0, h => by omega
  | q + 1, h => by
    have h1 := FL_mono F (show x + 1 ≤ q + 1 by omega)
    rw [FL_succ, List.length_append] at h1
    rw [FL_succ]
    rcases Nat.lt_or_ge x q with c | c
    · have h2 := FL_mono F (show x + 1 ≤ q by omega)
      rw [FL_succ, List.length_append] at h2
      rw [List.getElem?_append_left (by omega), FL_get F hi c]
    · have : x = q := by omega
      subst this
      rw [List.getElem?_append_right (by omega), Nat.add_sub_cancel_left]
theorem FL_find {α : Type} (F : Nat → List α) {k : Nat} : ∀ {q : Nat}, k < (FL F q).length → ∃ x, x < q ∧ (FL F x).length ≤ k ∧ k < (FL F (x + 1)).length
  | 0, h => by simp [FL] at h
  | q + 1, h => by
    rcases Nat.lt_or_ge k (FL F q).length with c | c
    · obtain ⟨x, h1, h2⟩ := FL_find F c
      exact ⟨x, by omega, h2⟩
    · exact ⟨q, by omega, c, h⟩
/-- the parts of a walk's words -/
def EP (q n m : Nat) (a s t : Int) (x : Nat) : List (List Int) := (EW q n m x (s - ((n : Int) - ((m + 1 : Nat) : Int)) * ind a x) (t - x)).map (((x : Nat) : Int) :: ·)
theorem EW_FL (q n m : Nat) (a s t : Int) : EW q n (m + 1) a s t = FL (EP q n m a s t) q := rfl
def wb (q n m : Nat) (a s t : Int) (x : Nat) : Int := ((FL (EP q n m a s t) x).length : Nat)
theorem wb_sum (q n m : Nat) (a s t : Int) (x : Nat) : wb q n m a s t x = (((List.range x).map fun (y : Nat) => wy q n m y (s - ((n : Int) - ((m + 1 : Nat) : Int)) * ind a y) (t - y))).sum := by
  induction x with
  | zero => rfl
  | succ x ih =>
    unfold wb at ih ⊢
    rw [FL_succ, List.length_append, List.range_succ, List.map_append, List.sum_append, ← ih]
    unfold EP wy
    simp
theorem wy_succ (q n m : Nat) (a s t : Int) : wy q n (m + 1) a s t = wb q n m a s t q := rfl
/-! the same words in the order of all words -/
def caW (q : Nat) : Nat → List (List Int)
  | 0 => [[]]
  | j + 1 => (List.range q).flatMap fun (x : Nat) => (caW q j).map (((x : Nat) : Int) :: ·)
theorem caW_snoc (q : Nat) : ∀ j, ((caW q j).flatMap fun w => (List.range q).map fun (s : Nat) => w ++ [((s : Nat) : Int)]) = caW q (j + 1)
  | 0 => by
    show ([[]].flatMap fun w => (List.range q).map fun (s : Nat) => w ++ [((s : Nat) : Int)]) = (List.range q).flatMap fun (x : Nat) => [[]].map (((x : Nat) : Int) :: ·)
    simp only [List.flatMap_cons, List.flatMap_nil, List.append_nil, List.map_cons, List.map_nil, List.nil_append]
    induction List.range q with
    | nil => rfl
    | cons x l ih => simp [ih]
  | j + 1 => by
    have h := caW_snoc q j
    show ((((List.range q).flatMap fun (x : Nat) => (caW q j).map (((x : Nat) : Int) :: ·))).flatMap fun w => (List.range q).map fun (s : Nat) => w ++ [((s : Nat) : Int)]) = (List.range q).flatMap fun (x : Nat) => (caW q (j + 1)).map (((x : Nat) : Int) :: ·)
    rw [List.flatMap_assoc]
    congr 1
    funext x
    rw [← h, List.flatMap_map, List.map_flatMap]
    congr 1
    funext w
    rw [List.map_map]
    rfl
theorem allW_ca (q : Nat) : ∀ n, allW q n = caW q n
  | 0 => rfl
  | n + 1 => by
    rw [← caW_snoc q n, ← allW_ca q n]
    rfl
def spw : Int → Int → List Int → Int
  | _, _, [] => 0
  | p, a, x :: r => p * ind a x + spw (p + 1) x r
theorem EW_ca (q n : Nat) : ∀ (m : Nat), m ≤ n → ∀ (a s t : Int), EW q n m a s t = (caW q m).filter fun w => decide ((s - spw ((n : Int) - (m : Nat)) a w) % (n : Int) = 0) && decide ((t - w.sum) % (q : Int) = 0)
  | 0, _, a, s, t => by
    show (if s % (n : Int) = 0 ∧ t % (q : Int) = 0 then [[]] else []) = List.filter _ [[]]
    rw [List.filter_cons, List.filter_nil]
    show _ = if (decide ((s - 0) % (n : Int) = 0) && decide ((t - 0) % (q : Int) = 0)) = true then [[]] else []
    simp only [Int.sub_zero, Bool.and_eq_true, decide_eq_true_eq]
  | m + 1, h, a, s, t => by
    show ((List.range q).flatMap fun (x : Nat) => (EW q n m x (s - ((n : Int) - ((m + 1 : Nat) : Int)) * ind a x) (t - x)).map (((x : Nat) : Int) :: ·)) = List.filter _ ((List.range q).flatMap fun (x : Nat) => (caW q m).map (((x : Nat) : Int) :: ·))
    rw [List.filter_flatMap]
    congr 1
    funext x
    rw [EW_ca q n m (by omega), List.filter_map]
    congr 1
    refine congrArg (fun f => List.filter f (caW q m)) ?_
    funext w
    show _ = (decide ((s - spw ((n : Int) - ((m + 1 : Nat) : Int)) a ((x : Int) :: w)) % (n : Int) = 0) && decide ((t - ((x : Int) :: w).sum) % (q : Int) = 0))
    rw [List.sum_cons, show spw ((n : Int) - ((m + 1 : Nat) : Int)) a ((x : Int) :: w) = ((n : Int) - ((m + 1 : Nat) : Int)) * ind a x + spw ((n : Int) - ((m + 1 : Nat) : Int) + 1) x w from rfl, ← Int.sub_sub, ← Int.sub_sub, show (n : Int) - ((m + 1 : Nat) : Int) + 1 = (n : Int) - (m : Nat) by omega]
theorem shp_two (x y : Int) (r : List Int) : shp (x :: y :: r) = ind x y :: shp (y :: r) := by
  unfold shp ind
  rw [show (x :: y :: r).length - 1 = r.length + 1 by simp, show (y :: r).length - 1 = r.length by simp, List.range_succ_eq_map, List.map_cons, List.map_map]
  rfl
theorem spw_shp : ∀ (r : List Int) (x p : Int), spw p x r = tsum (p - 1) (shp (x :: r))
  | [], x, p => by
    show (0 : Int) = tsum (p - 1) []
    rw [tsum_nil]
  | y :: r, x, p => by
    rw [shp_two, tsum_cons, show p - 1 + 1 = p by omega]
    show p * ind x y + spw (p + 1) y r = _
    rw [spw_shp r y (p + 1), show p + 1 - 1 = p by omega]
theorem spw0 (a : Int) (w : List Int) : spw 0 a w = wsum (shp w) := by
  cases w with
  | nil => rfl
  | cons x r =>
    show 0 * ind a x + spw (0 + 1) x r = _
    rw [spw_shp, show (0 : Int) + 1 - 1 = 0 by omega, tsum_zero, Int.zero_mul, Int.zero_add]
theorem mod0 {n a S : Int} (h : 0 ≤ a ∧ a < n) : (a - S) % n = 0 ↔ S % n = a := by
  rw [← Int.emod_eq_emod_iff_emod_sub_eq_zero, Int.emod_eq_of_lt h.1 h.2]
  exact eq_comm
theorem EW_all {q n : Nat} {a b : Int} (ha : 0 ≤ a ∧ a < n) (hb : 0 ≤ b ∧ b < q) : EW q n n 0 a b = (allW q n).filter (inML q n a b) := by
  rw [EW_ca q n n (Nat.le_refl n), allW_ca]
  refine List.filter_congr fun w hw => ?_
  rw [← allW_ca] at hw
  rw [Int.sub_self, spw0]
  unfold inML
  rw [decide_eq_true (show ((w.length : Int) = (n : Int)) by rw [(allW_mem.mp hw).1]), Bool.true_and]
  have h1 := mod0 (S := wsum (shp w)) ha
  have h2 := mod0 (S := w.sum) hb
  simp only [h1, h2, List.cons.injEq, and_true, Bool.decide_and]
/-! sorted, each once -/
theorem EW_rise (q n : Nat) : ∀ (m : Nat) (a s t : Int), (EW q n m a s t).Pairwise fun u v => HT.lexLt u v = true
  | 0, a, s, t => by
    unfold EW
    split
    · exact List.pairwise_singleton _ _
    · exact List.Pairwise.nil
  | m + 1, a, s, t => by
    rw [EW_FL]
    have hx : ∀ x u, u ∈ EP q n m a s t x → ∃ r, u = ((x : Nat) : Int) :: r := fun x u hu => by
      obtain ⟨r, _, rfl⟩ := List.mem_map.mp hu
      exact ⟨r, rfl⟩
    have hF : ∀ j, (FL (EP q n m a s t) j).Pairwise (fun u v => HT.lexLt u v = true) ∧ ∀ u ∈ FL (EP q n m a s t) j, ∃ (x : Nat) (r : List Int), x < j ∧ u = ((x : Nat) : Int) :: r := by
      intro j
      induction j with
      | zero => exact ⟨List.Pairwise.nil, fun u hu => by cases hu⟩
      | succ j ih =>
        rw [FL_succ]
        refine ⟨List.pairwise_append.mpr ⟨ih.1, ?_, fun u hu v hv => ?_⟩, fun u hu => ?_⟩
        · unfold EP
          rw [List.pairwise_map]
          refine (EW_rise q n m _ _ _).imp fun {u v} h => ?_
          rw [HT.lexLt_cons, if_pos rfl]
          exact h
        · obtain ⟨x, r, hxj, rfl⟩ := ih.2 u hu
          obtain ⟨r', rfl⟩ := hx j v hv
          rw [HT.lexLt_cons, if_neg (by omega)]
          exact decide_eq_true (by omega)
        · rcases List.mem_append.mp hu with h | h
          · obtain ⟨x, r, h1, h2⟩ := ih.2 u h
            exact ⟨x, r, by omega, h2⟩
          · obtain ⟨r, h2⟩ := hx j u h
            exact ⟨j, r, by omega, h2⟩
    exact (hF q).1
theorem putF_lt3 {f g i : Str} {x y z : V} {fs : List (Str × V)} (h : fs.length < 800) : (putF i z (putF g y (putF f x fs))).length < 1000 := Nat.lt_of_le_of_lt (putF_le i z _) (by have h1 := putF_le f x fs; have h2 := putF_le g y (putF f x fs); omega)
theorem putF_b {f : Str} {y : V} {fs : List (Str × V)} {k : Nat} (h : fs.length < k) : (putF f y fs).length < k + 1 := Nat.lt_of_le_of_lt (putF_le f y fs) (by omega)
/-- the tables of a walk -/
def TbP (H : Hp) (q n : Nat) (xs : List V) (ms : List Nat) : Prop := Paired (fun x m => ∃ b, x = V.ref b ∧ H b = some (.lst ((Tb q n m).map V.int))) xs ms
theorem TbP.mono {H H' : Hp} {q n : Nat} {xs : List V} {ms : List Nat} (e : Ex H H') (h : TbP H q n xs ms) : TbP H' q n xs ms := Paired.mapP h fun _ _ ⟨b, e1, h1⟩ => ⟨b, e1, e _ _ h1⟩
def TbR (H : Hp) (f : Addr) (q n : Nat) : Prop := ∃ xs, H f = some (.lst xs) ∧ TbP H q n xs (List.range n).reverse
theorem TbR.mono {H H' : Hp} {f : Addr} {q n : Nat} (e : Ex H H') (h : TbR H f q n) : TbR H' f q n := by
  obtain ⟨xs, h1, h2⟩ := h
  exact ⟨xs, e _ _ h1, h2.mono e⟩
theorem TbR.ins {H H' : Hp} {f p C dx : Addr} {fs : List (Str × V)} {q n : Nat} (e : ExB p H H') (hp : H p = some (.ins C dx fs)) (h : TbR H f q n) : TbR H' f q n := by
  obtain ⟨xs, h1, h2⟩ := h
  exact ⟨xs, e _ _ (fun z => by rw [z, hp] at h1; cases h1) h1, Paired.mapP h2 fun _ _ ⟨b, e1, g⟩ => ⟨b, e1, e _ _ (fun z => by rw [z, hp] at g; cases g) g⟩⟩
theorem insT {K : PySem.W.Frag} {H H' : Hp} {p a C dx : Addr} {fs : List (Str × V)} {xs : List V} (e : ExB p H H') (hp : H p = some (.ins C dx fs)) (h : SqT K H a xs) : SqT K H' a xs := by
  rcases h with (h | ⟨o, h⟩) | h
  · exact .inl (.inl (e _ _ (fun z => by rw [z, hp] at h; cases h) h))
  · exact .inl (.inr ⟨o, e _ _ (fun z => by rw [z, hp] at h; cases h) h⟩)
  · exact .inr h
/-- a walk, m signs ahead of its end -/
def wkF (q n : Nat) (s t : Int) (f : Addr) (m : Nat) (a : Int) : List (Str × V) := [("q", .int (q : Nat)), ("n", .int (n : Nat)), ("shape_left", .int s), ("sum_left", .int t), ("tables", .ref f), ("place", .int ((n : Int) - (m : Nat))), ("ahead", .int a)]
def WK (K : PySem.W.Frag) (H : Hp) (v : V) (q n m : Nat) (a s t : Int) : Prop := ∃ f, Ins K H v "Walk" (wkF q n s t f m a) ∧ TbR H f q n ∧ m ≤ n
theorem WK.mono {K : PySem.W.Frag} {H H' : Hp} {v : V} {q n m : Nat} {a s t : Int} (e : Ex H H') (h : WK K H v q n m a s t) : WK K H' v q n m a s t := by
  obtain ⟨f, h1, h2, h3⟩ := h
  exact ⟨f, h1.mono e, h2.mono e, h3⟩
def s_code_of (K : PySem.W.Frag) (x0 x1 x2 x3 x4 : V) (H : Hp) (Q : VK) (E : XK) : Prop := ∃ q n x s t : Int, x0 = .int q ∧ (0 < q ∧ q ≤ 10) ∧ x1 = .int n ∧ (0 < n ∧ n ≤ 24) ∧ x2 = .int x ∧ x3 = .int s ∧ x4 = .int t ∧ Q (.int (cod q n x s t)) H
def sp_code_of (K : PySem.W.Frag) : Sp := fun vs H Q E => match vs with
  | [x0, x1, x2, x3, x4] => s_code_of K x0 x1 x2 x3 x4 H Q E
  | _ => False
def s_ways_behind (K : PySem.W.Frag) (x0 x1 x2 x3 x4 : V) (H : Hp) (Q : VK) (E : XK) : Prop := ∃ (q n m c : Nat) (b : Addr), x0 = .int (q : Nat) ∧ (2 ≤ q ∧ q ≤ 10) ∧ x1 = .int (n : Nat) ∧ (2 ≤ n ∧ n ≤ 24) ∧ x2 = .int ((n : Int) - ((m + 1 : Nat) : Int)) ∧ m + 1 ≤ n ∧ x3 = .ref b ∧ H b = some (.lst ((Tb q n m).map V.int)) ∧ x4 = .int (c : Nat) ∧ c < q * n * q ∧ Q (.int (wy q n (m + 1) ((c / q / n : Nat) : Int) ((c / q % n : Nat) : Int) ((c % q : Nat) : Int))) H
def sp_ways_behind (K : PySem.W.Frag) : Sp := fun vs H Q E => match vs with
  | [x0, x1, x2, x3, x4] => s_ways_behind K x0 x1 x2 x3 x4 H Q E
  | _ => False
def s_tables_of (K : PySem.W.Frag) (x0 x1 : V) (H : Hp) (Q : VK) (E : XK) : Prop := ∃ q n : Nat, x0 = .int (q : Nat) ∧ (2 ≤ q ∧ q ≤ 10) ∧ x1 = .int (n : Nat) ∧ (2 ≤ n ∧ n ≤ 24) ∧ ∀ f H', Ex H H' → TbR H' f q n → Q (.ref f) H'
def sp_tables_of (K : PySem.W.Frag) : Sp := fun vs H Q E => match vs with
  | [x0, x1] => s_tables_of K x0 x1 H Q E
  | _ => False
def s_Walk_init (K : PySem.W.Frag) (x0 x1 : V) (H : Hp) (Q : VK) (E : XK) : Prop := ∃ (p C dx : Addr) (q n : Nat) (a b : Int), x0 = .ref p ∧ PySem.W.nsIn K mainGlobals "Walk" = some (some (.ref C)) ∧ H p = some (.ins C dx []) ∧ ML K H x1 (q : Nat) (n : Nat) a b ∧ (2 ≤ q ∧ q ≤ 10) ∧ (2 ≤ n ∧ n ≤ 24) ∧ ∀ H', ExB p H H' → WK K H' (.ref p) q n n 0 a b → Q .non H'
def sp_Walk_init (K : PySem.W.Frag) : Sp := fun vs H Q E => match vs with
  | [x0, x1] => s_Walk_init K x0 x1 H Q E
  | _ => False
def s_Walk_left_by (K : PySem.W.Frag) (x0 x1 : V) (H : Hp) (Q : VK) (E : XK) : Prop := ∃ (q n m : Nat) (a s t x : Int), WK K H x0 q n (m + 1) a s t ∧ n ≤ 24 ∧ x1 = .int x ∧ Q (.int (s - ((n : Int) - ((m + 1 : Nat) : Int)) * ind a x)) H
def sp_Walk_left_by (K : PySem.W.Frag) : Sp := fun vs H Q E => match vs with
  | [x0, x1] => s_Walk_left_by K x0 x1 H Q E
  | _ => False
def s_Walk_ways (K : PySem.W.Frag) (x0 x1 : V) (H : Hp) (Q : VK) (E : XK) : Prop := ∃ (q n m x : Nat) (a s t : Int), WK K H x0 q n (m + 1) a s t ∧ (2 ≤ q ∧ q ≤ 10) ∧ (2 ≤ n ∧ n ≤ 24) ∧ x1 = .int (x : Nat) ∧ x < q ∧ Q (.int (wy q n m x (s - ((n : Int) - ((m + 1 : Nat) : Int)) * ind a x) (t - x))) H
def sp_Walk_ways (K : PySem.W.Frag) : Sp := fun vs H Q E => match vs with
  | [x0, x1] => s_Walk_ways K x0 x1 H Q E
  | _ => False
def s_Walk_ways_below (K : PySem.W.Frag) (x0 x1 : V) (H : Hp) (Q : VK) (E : XK) : Prop := ∃ (q n m x : Nat) (a s t : Int), WK K H x0 q n (m + 1) a s t ∧ (2 ≤ q ∧ q ≤ 10) ∧ (2 ≤ n ∧ n ≤ 24) ∧ x1 = .int (x : Nat) ∧ x ≤ q ∧ ∀ H', Ex H H' → Q (.int (wb q n m a s t x)) H'
def sp_Walk_ways_below (K : PySem.W.Frag) : Sp := fun vs H Q E => match vs with
  | [x0, x1] => s_Walk_ways_below K x0 x1 H Q E
  | _ => False
def s_Walk_go (K : PySem.W.Frag) (x0 x1 : V) (H : Hp) (Q : VK) (E : XK) : Prop := ∃ (q n m : Nat) (a s t x : Int) (p : Addr), x0 = .ref p ∧ WK K H x0 q n (m + 1) a s t ∧ n ≤ 24 ∧ x1 = .int x ∧ ∀ H', ExB p H H' → WK K H' (.ref p) q n m x (s - ((n : Int) - ((m + 1 : Nat) : Int)) * ind a x) (t - x) → Q .non H'
def sp_Walk_go (K : PySem.W.Frag) : Sp := fun vs H Q E => match vs with
  | [x0, x1] => s_Walk_go K x0 x1 H Q E
  | _ => False
def s_how_many_many (K : PySem.W.Frag) (x0 : V) (H : Hp) (Q : VK) (E : XK) : Prop := ∃ (q n : Nat) (a b : Int), ML K H x0 (q : Nat) (n : Nat) a b ∧ (2 ≤ q ∧ q ≤ 10) ∧ (2 ≤ n ∧ n ≤ 24) ∧ ∀ H', Ex H H' → Q (.int ((EW q n n 0 a b).length : Nat)) H'
def sp_how_many_many (K : PySem.W.Frag) : Sp := fun vs H Q E => match vs with
  | [x0] => s_how_many_many K x0 H Q E
  | _ => False
def s_many_member (K : PySem.W.Frag) (x0 x1 : V) (H : Hp) (Q : VK) (E : XK) : Prop := ∃ (q n k : Nat) (a b : Int), ML K H x0 (q : Nat) (n : Nat) a b ∧ (2 ≤ q ∧ q ≤ 10) ∧ (2 ≤ n ∧ n ≤ 24) ∧ x1 = .int (k : Nat) ∧ k < (EW q n n 0 a b).length ∧ ∀ d w H', Ex H H' → SqT K H' d (w.map V.int) → (EW q n n 0 a b)[k]? = some w → Q (.ref d) H'
def sp_many_member (K : PySem.W.Frag) : Sp := fun vs H Q E => match vs with
  | [x0, x1] => s_many_member K x0 x1 H Q E
  | _ => False
def s_many_number (K : PySem.W.Frag) (x0 x1 : V) (H : Hp) (Q : VK) (E : XK) : Prop := ∃ (q n : Nat) (a b : Int) (w : List Int), ML K H x0 (q : Nat) (n : Nat) a b ∧ (2 ≤ q ∧ q ≤ 10) ∧ (2 ≤ n ∧ n ≤ 24) ∧ (0 ≤ a ∧ a < n) ∧ (0 ≤ b ∧ b < q) ∧ Wd K H (q : Nat) x1 w ∧ inML q n a b w = true ∧ ∀ (k : Nat) H', Ex H H' → (EW q n n 0 a b)[k]? = some w → Q (.int (k : Nat)) H'
def sp_many_number (K : PySem.W.Frag) : Sp := fun vs H Q E => match vs with
  | [x0, x1] => s_many_number K x0 x1 H Q E
  | _ => False
def s_want_length (K : PySem.W.Frag) (x0 : V) (H : Hp) (Q : VK) (E : XK) : Prop := ∃ n : Int, x0 = .int n ∧ (0 ≤ n ∧ n ≤ 60) ∧ Q .non H
def sp_want_length (K : PySem.W.Frag) : Sp := fun vs H Q E => match vs with
  | [x0] => s_want_length K x0 H Q E
  | _ => False
def s_PlainList_init (K : PySem.W.Frag) (x0 x1 x2 : V) (H : Hp) (Q : VK) (E : XK) : Prop := ∃ (p C dx : Addr) (n a : Int), x0 = .ref p ∧ PySem.W.nsIn K mainGlobals "PlainList" = some (some (.ref C)) ∧ H p = some (.ins C dx []) ∧ x1 = .int n ∧ (0 ≤ n ∧ n ≤ 60) ∧ x2 = .int a ∧ (0 ≤ a ∧ a ≤ n) ∧ ∀ H', ExB p H H' → H' p = some (.ins C dx [("many", .int n), ("left", .int a)]) → Q .non H'
def sp_PlainList_init (K : PySem.W.Frag) : Sp := fun vs H Q E => match vs with
  | [x0, x1, x2] => s_PlainList_init K x0 x1 x2 H Q E
  | _ => False
def s_PlainList_length (K : PySem.W.Frag) (x0 : V) (H : Hp) (Q : VK) (E : XK) : Prop := ∃ n a : Int, PL K H x0 n a ∧ Q (.int n) H
def sp_PlainList_length (K : PySem.W.Frag) : Sp := fun vs H Q E => match vs with
  | [x0] => s_PlainList_length K x0 H Q E
  | _ => False
def s_PlainList_rest (K : PySem.W.Frag) (x0 : V) (H : Hp) (Q : VK) (E : XK) : Prop := ∃ n a : Int, PL K H x0 n a ∧ Q (.int a) H
def sp_PlainList_rest (K : PySem.W.Frag) : Sp := fun vs H Q E => match vs with
  | [x0] => s_PlainList_rest K x0 H Q E
  | _ => False
def s_PlainList_has (K : PySem.W.Frag) (x0 x1 : V) (H : Hp) (Q : VK) (E : XK) : Prop := ∃ (n a : Int) (ns : List Int), PL K H x0 n a ∧ (0 ≤ n ∧ n ≤ 60) ∧ Wd K H 2 x1 ns ∧ ∀ H', Ex H H' → Q (.bl (decide ((ns.length : Int) = n) && decide (wsum ns % (n + 1) = a))) H'
def sp_PlainList_has (K : PySem.W.Frag) : Sp := fun vs H Q E => match vs with
  | [x0, x1] => s_PlainList_has K x0 x1 H Q E
  | _ => False
def s_rows_behind (K : PySem.W.Frag) (x0 : V) (H : Hp) (Q : VK) (E : XK) : Prop := ∃ n : Nat, x0 = .int (n : Nat) ∧ n ≤ 60 ∧ ∀ f xs H', H f = none → Ex H H' → H' f = some (.lst xs) → Rows H H' f (n + 1) n ((List.range (n + 1)).reverse) xs → Q (.ref f) H'
def sp_rows_behind (K : PySem.W.Frag) : Sp := fun vs H Q E => match vs with
  | [x0] => s_rows_behind K x0 H Q E
  | _ => False
def s_how_many (K : PySem.W.Frag) (x0 : V) (H : Hp) (Q : VK) (E : XK) : Prop := ∃ (n : Nat) (a : Int), PL K H x0 (n : Nat) a ∧ n ≤ 60 ∧ (0 ≤ a ∧ a ≤ n) ∧ ∀ H', Ex H H' → Q (.int (Dn (n + 1) n n a)) H'
def sp_how_many (K : PySem.W.Frag) : Sp := fun vs H Q E => match vs with
  | [x0] => s_how_many K x0 H Q E
  | _ => False
def s_member (K : PySem.W.Frag) (x0 x1 : V) (H : Hp) (Q : VK) (E : XK) : Prop := ∃ (n : Nat) (a k : Int), PL K H x0 (n : Nat) a ∧ n ≤ 60 ∧ (0 ≤ a ∧ a ≤ n) ∧ x1 = .int k ∧ (0 ≤ k ∧ k < Dn (n + 1) n n a) ∧ ∀ b H', Ex H H' → SqT K H' b ((memN (n + 1) n n a k).map V.int) → Q (.ref b) H'
def sp_member (K : PySem.W.Frag) : Sp := fun vs H Q E => match vs with
  | [x0, x1] => s_member K x0 x1 H Q E
  | _ => False
def s_number_of (K : PySem.W.Frag) (x0 x1 : V) (H : Hp) (Q : VK) (E : XK) : Prop := ∃ (n : Nat) (a : Int) (w : List Int), PL K H x0 (n : Nat) a ∧ n ≤ 60 ∧ (0 ≤ a ∧ a ≤ n) ∧ Wd K H 2 x1 w ∧ w.length = n ∧ wsum w % ((n : Int) + 1) = a ∧ ∀ H', Ex H H' → Q (.int (numN (n + 1) n w a)) H'
def sp_number_of (K : PySem.W.Frag) : Sp := fun vs H Q E => match vs with
  | [x0, x1] => s_number_of K x0 x1 H Q E
  | _ => False
def s_words_ahead (K : PySem.W.Frag) (x0 x1 : V) (H : Hp) (Q : VK) (E : XK) : Prop := ∃ (n : Nat) (ns : List Int), x0 = .int (n : Nat) ∧ n ≤ 60 ∧ Wd K H 2 x1 ns ∧ (ns.length ≤ n + 1 ∧ n ≤ ns.length + 1) ∧ ∀ p ys us H', H p = none → Ex H H' → H' p = some (.lst ys) → Wts K H' ys us → (∀ w, w ∈ us ↔ w ∈ cands n ns) → Q (.ref p) H'
def sp_words_ahead (K : PySem.W.Frag) : Sp := fun vs H Q E => match vs with
  | [x0, x1] => s_words_ahead K x0 x1 H Q E
  | _ => False
def s_mended (K : PySem.W.Frag) (x0 x1 : V) (H : Hp) (Q : VK) (E : XK) : Prop := ∃ (n : Nat) (a : Int) (ns : List Int), PL K H x0 (n : Nat) a ∧ n ≤ 60 ∧ Wd K H 2 x1 ns ∧ (ns.length ≤ n + 1 ∧ n ≤ ns.length + 1) ∧ ∀ v H', Ex H H' → Mend K H' n a ns v → Q v H'
def sp_mended (K : PySem.W.Frag) : Sp := fun vs H Q E => match vs with
  | [x0, x1] => s_mended K x0 x1 H Q E
  | _ => False
def s_StrongList_init (K : PySem.W.Frag) (x0 x1 x2 : V) (H : Hp) (Q : VK) (E : XK) : Prop := ∃ (p C dx : Addr) (n a : Int), x0 = .ref p ∧ PySem.W.nsIn K mainGlobals "StrongList" = some (some (.ref C)) ∧ H p = some (.ins C dx []) ∧ x1 = .int n ∧ (1 ≤ n ∧ n ≤ 59) ∧ x2 = .int a ∧ (0 ≤ a ∧ a < 2 * n) ∧ ∀ H', ExB p H H' → H' p = some (.ins C dx [("many", .int n), ("left", .int a)]) → Q .non H'
def sp_StrongList_init (K : PySem.W.Frag) : Sp := fun vs H Q E => match vs with
  | [x0, x1, x2] => s_StrongList_init K x0 x1 x2 H Q E
  | _ => False
def s_StrongList_length (K : PySem.W.Frag) (x0 : V) (H : Hp) (Q : VK) (E : XK) : Prop := ∃ n a : Int, StL K H x0 n a ∧ Q (.int n) H
def sp_StrongList_length (K : PySem.W.Frag) : Sp := fun vs H Q E => match vs with
  | [x0] => s_StrongList_length K x0 H Q E
  | _ => False
def s_StrongList_rest (K : PySem.W.Frag) (x0 : V) (H : Hp) (Q : VK) (E : XK) : Prop := ∃ n a : Int, StL K H x0 n a ∧ Q (.int a) H
def sp_StrongList_rest (K : PySem.W.Frag) : Sp := fun vs H Q E => match vs with
  | [x0] => s_StrongList_rest K x0 H Q E
  | _ => False
def s_StrongList_has (K : PySem.W.Frag) (x0 x1 : V) (H : Hp) (Q : VK) (E : XK) : Prop := ∃ (n a : Int) (ns : List Int), StL K H x0 n a ∧ (1 ≤ n ∧ n ≤ 59) ∧ Wd K H 2 x1 ns ∧ ∀ H', Ex H H' → Q (.bl (inSL n a ns)) H'
def sp_StrongList_has (K : PySem.W.Frag) : Sp := fun vs H Q E => match vs with
  | [x0, x1] => s_StrongList_has K x0 x1 H Q E
  | _ => False
def s_ring_before (K : PySem.W.Frag) (x0 x1 : V) (H : Hp) (Q : VK) (E : XK) : Prop := ∃ (n : Nat) (ns : List Int), x0 = .int (n : Nat) ∧ (1 ≤ n ∧ n ≤ 59) ∧ Wd K H 2 x1 ns ∧ (ns.length ≤ n + 1 ∧ n ≤ ns.length + 1) ∧ ∀ p ys us H', H p = none → Ex H H' → H' p = some (.lst ys) → Wts K H' ys us → (∀ w, w ∈ us ↔ w ∈ candsS n ns) → Q (.ref p) H'
def sp_ring_before (K : PySem.W.Frag) : Sp := fun vs H Q E => match vs with
  | [x0, x1] => s_ring_before K x0 x1 H Q E
  | _ => False
def s_strong_mended (K : PySem.W.Frag) (x0 x1 : V) (H : Hp) (Q : VK) (E : XK) : Prop := ∃ (n : Nat) (a : Int) (ns : List Int), StL K H x0 (n : Nat) a ∧ (1 ≤ n ∧ n ≤ 59) ∧ Wd K H 2 x1 ns ∧ (ns.length ≤ n + 1 ∧ n ≤ ns.length + 1) ∧ ∀ v H', Ex H H' → MendS K H' n a ns v → Q v H'
def sp_strong_mended (K : PySem.W.Frag) : Sp := fun vs H Q E => match vs with
  | [x0, x1] => s_strong_mended K x0 x1 H Q E
  | _ => False
def s_tails (K : PySem.W.Frag) (x0 : V) (H : Hp) (Q : VK) (E : XK) : Prop := ∃ n : Nat, x0 = .int (n : Nat) ∧ (1 ≤ n ∧ n ≤ 59) ∧ ∀ f xs H', H f = none → Ex H H' → H' f = some (.lst xs) → Rows H H' f (2 * n) n ((List.range (n + 1)).reverse) xs → Q (.ref f) H'
def sp_tails (K : PySem.W.Frag) : Sp := fun vs H Q E => match vs with
  | [x0] => s_tails K x0 H Q E
  | _ => False
def s_how_many_strong (K : PySem.W.Frag) (x0 : V) (H : Hp) (Q : VK) (E : XK) : Prop := ∃ (n : Nat) (a : Int), StL K H x0 (n : Nat) a ∧ (1 ≤ n ∧ n ≤ 59) ∧ (0 ≤ a ∧ a < 2 * (n : Int)) ∧ ∀ H', Ex H H' → Q (.int (Dn (2 * n) n n a)) H'
def sp_how_many_strong (K : PySem.W.Frag) : Sp := fun vs H Q E => match vs with
  | [x0] => s_how_many_strong K x0 H Q E
  | _ => False
def s_strong_member (K : PySem.W.Frag) (x0 x1 : V) (H : Hp) (Q : VK) (E : XK) : Prop := ∃ (n : Nat) (a k : Int), StL K H x0 (n : Nat) a ∧ (1 ≤ n ∧ n ≤ 59) ∧ (0 ≤ a ∧ a < 2 * (n : Int)) ∧ x1 = .int k ∧ (0 ≤ k ∧ k < Dn (2 * n) n n a) ∧ ∀ b H', Ex H H' → SqT K H' b ((memN (2 * n) n n a k).map V.int) → Q (.ref b) H'
def sp_strong_member (K : PySem.W.Frag) : Sp := fun vs H Q E => match vs with
  | [x0, x1] => s_strong_member K x0 x1 H Q E
  | _ => False
def s_strong_number (K : PySem.W.Frag) (x0 x1 : V) (H : Hp) (Q : VK) (E : XK) : Prop := ∃ (n : Nat) (a : Int) (w : List Int), StL K H x0 (n : Nat) a ∧ (1 ≤ n ∧ n ≤ 59) ∧ (0 ≤ a ∧ a < 2 * (n : Int)) ∧ Wd K H 2 x1 w ∧ w.length = n ∧ wsum w % (2 * (n : Int)) = a ∧ ∀ H', Ex H H' → Q (.int (numN (2 * n) n w a)) H'
def sp_strong_number (K : PySem.W.Frag) : Sp := fun vs H Q E => match vs with
  | [x0, x1] => s_strong_number K x0 x1 H Q E
  | _ => False
/-- the signs of words in texts -/
def lets : List Nat := [48, 49, 50, 51, 52, 53, 54, 55, 56, 57, 97, 98, 99, 100, 101, 102, 103, 104, 105, 106, 107, 108, 109, 110, 111, 112, 113, 114, 115, 116, 117, 118, 119, 120, 121, 122]
theorem lets_eq : (PySem.Str.ofString "0123456789abcdefghijklmnopqrstuvwxyz") = sS lets := by decide +kernel
theorem lets_len : lets.length = 36 := rfl
def ltr (i : Int) : Nat := lets.getD i.toNat 0
theorem ltr_at {i : Int} (h : 0 ≤ i ∧ i < 36) : atI lets i = some (ltr i) := by
  obtain ⟨n, rfl⟩ : ∃ n : Nat, i = n := ⟨i.toNat, by omega⟩
  have hn : n < lets.length := by rw [lets_len]; omega
  refine atI_nat ?_
  rw [List.getElem?_eq_getElem hn]
  unfold ltr
  rw [Int.toNat_natCast, List.getD_eq_getElem?_getD, List.getElem?_eq_getElem hn]
  rfl
/-- a word's text -/
def wtx (ns : List Int) : Str := sS (ns.map ltr)
theorem wtx_len (ns : List Int) : (wtx ns).length = ns.length := by unfold wtx; rw [sS_len, List.length_map]
theorem ltr_mem {i : Int} {q : Int} (h : 0 ≤ i ∧ i < q) (hq : q ≤ 36) : ltr i ∈ lets.take q.toNat := by
  obtain ⟨n, rfl⟩ : ∃ n : Nat, i = n := ⟨i.toNat, by omega⟩
  have hn : n < lets.length := by rw [lets_len]; omega
  have hm : n < (lets.take q.toNat).length := by rw [List.length_take]; omega
  have e : (lets.take q.toNat)[n] = ltr (n : Int) := by
    rw [List.getElem_take]
    unfold ltr
    rw [Int.toNat_natCast, List.getD_eq_getElem?_getD, List.getElem?_eq_getElem hn]
    rfl
  exact e ▸ List.getElem_mem hm
def idx (c : Nat) : Int := ((lets.idxOf c : Nat) : Int)
theorem idx_ltrF : ∀ i : Fin 36, lets.idxOf (lets.getD i.val 0) = i.val := by decide +kernel
theorem idx_ltr {i : Int} (h : 0 ≤ i ∧ i < 36) : idx (ltr i) = i := by
  obtain ⟨n, rfl⟩ : ∃ n : Nat, i = n := ⟨i.toNat, by omega⟩
  unfold idx ltr
  rw [Int.toNat_natCast, idx_ltrF ⟨n, by omega⟩]
/-- the word of a text -/
def idxs (z : Str) : List Int := z.cps.toList.map idx
theorem idxs_wtx {ns : List Int} (h : ∀ i ∈ ns, 0 ≤ i ∧ i < 36) : idxs (wtx ns) = ns := by
  unfold idxs wtx
  rw [sS_cps, List.map_map]
  conv => rhs; rw [← List.map_id ns]
  exact List.map_congr_left fun i hi => idx_ltr (h i hi)
theorem occ_ltr : ∀ c ∈ lets, Builtin.Str.occurrences (sS lets) ⟨#[c]⟩ 0 (sS lets).length 1 = [lets.idxOf c] := by decide +kernel
def s_show_word (K : PySem.W.Frag) (x0 x1 : V) (H : Hp) (Q : VK) (E : XK) : Prop := ∃ (q : Int) (ns : List Int), x0 = .int q ∧ (2 ≤ q ∧ q ≤ 36) ∧ Wd K H q x1 ns ∧ ∀ H', Ex H H' → Q (.str (wtx ns)) H'
def sp_show_word (K : PySem.W.Frag) : Sp := fun vs H Q E => match vs with
  | [x0, x1] => s_show_word K x0 x1 H Q E
  | _ => False
def s_read_word (K : PySem.W.Frag) (x0 x1 : V) (H : Hp) (Q : VK) (E : XK) : Prop := ∃ (q : Int) (z : Str), x0 = .int q ∧ (2 ≤ q ∧ q ≤ 36) ∧ x1 = .str z ∧ z.length ≤ 60 ∧ (∀ c ∈ z.cps.toList, c ∈ lets.take q.toNat) ∧ ∀ a H', Ex H H' → Nt H' a ((idxs z).map V.int) → Q (.ref a) H'
def sp_read_word (K : PySem.W.Frag) : Sp := fun vs H Q E => match vs with
  | [x0, x1] => s_read_word K x0 x1 H Q E
  | _ => False
/-! the desk: its rows, the sorts of lists -/
/-- a number's text -/
def nx (n : Nat) : Str := Str.ofString (toString ((n : Nat) : Int))
def digs : List Nat := [48, 49, 50, 51, 52, 53, 54, 55, 56, 57]
theorem digs_eq : (PySem.Str.ofString "0123456789") = sS digs := by decide +kernel
/-- a number in figures without noughts ahead -/
def figB (z : Str) : Bool := !decide (z = "") && decide (z.length ≤ 60) && (z.cps.toList.all fun c => decide (c ∈ digs)) && (decide (z = "0") || !decide (z.cps.toList.head? = some 48))
/-- a sort of list, with its signs, length and rests -/
inductive Knd where
  | plain (n : Nat) (a : Int)
  | strong (n : Nat) (a : Int)
  | many (q n : Nat) (a b : Int)
def Knd.q : Knd → Nat
  | .plain _ _ => 2
  | .strong _ _ => 2
  | .many q _ _ _ => q
def Knd.n : Knd → Nat
  | .plain n _ => n
  | .strong n _ => n
  | .many _ n _ _ => n
def Knd.ok : Knd → Prop
  | .plain n a => n ≤ 60 ∧ (0 ≤ a ∧ a ≤ n)
  | .strong n a => (1 ≤ n ∧ n ≤ 59) ∧ (0 ≤ a ∧ a < 2 * (n : Int))
  | .many q n a b => (2 ≤ q ∧ q ≤ 10) ∧ (2 ≤ n ∧ n ≤ 24) ∧ (0 ≤ a ∧ a < n) ∧ (0 ≤ b ∧ b < q)
/-- how many members -/
def Knd.cnt : Knd → Int
  | .plain n a => Dn (n + 1) n n a
  | .strong n a => Dn (2 * n) n n a
  | .many q n a b => ((EW q n n 0 a b).length : Nat)
/-- w is the member of the number k -/
def Knd.mem : Knd → Int → List Int → Prop
  | .plain n a, k, w => w = memN (n + 1) n n a k
  | .strong n a, k, w => w = memN (2 * n) n n a k
  | .many q n a b, k, w => (EW q n n 0 a b)[k.toNat]? = some w
def Knd.has : Knd → List Int → Bool
  | .plain n a, w => inPL n a w
  | .strong n a, w => inSL n a w
  | .many q n a b, w => inML q n a b w
def Knd.cands : Knd → List Int → List (List Int)
  | .plain n _, c => LW.cands n c
  | .strong n _, c => candsS n c
  | .many q n _ _, c => candsM q n c
def KndV (K : PySem.W.Frag) (H : Hp) (v : V) : Knd → Prop
  | .plain n a => PL K H v (n : Nat) a
  | .strong n a => StL K H v (n : Nat) a
  | .many q n a b => ML K H v (q : Nat) (n : Nat) a b
def SentR (K : PySem.W.Frag) (H : Hp) (kd : Knd) (c : List Int) (v : V) : Prop := (∃ u, Wt K H v u ∧ u ∈ kd.cands c ∧ kd.has u = true) ∨ (v = .non ∧ ∀ u ∈ kd.cands c, kd.has u = false)
theorem KndV.mono {K : PySem.W.Frag} {H H' : Hp} {v : V} {kd : Knd} (e : Ex H H') (h : KndV K H v kd) : KndV K H' v kd := by
  cases kd with
  | plain n a => exact Ins.mono e h
  | strong n a => exact Ins.mono e h
  | many q n a b => exact ML.mono e h
theorem KndV.exB {K : PySem.W.Frag} {H H' : Hp} {v : V} {kd : Knd} {p : Addr} {ys : List V} (e : ExB p H H') (hp : H p = some (.lst ys)) (h : KndV K H v kd) : KndV K H' v kd := by
  cases kd with
  | plain n a => exact Ins.exB e hp h
  | strong n a => exact Ins.exB e hp h
  | many q n a b => exact ML.exB e hp h
theorem Knd.q2 {kd : Knd} (h : kd.ok) : 2 ≤ kd.q ∧ kd.q ≤ 10 := by
  cases kd with
  | plain n a => exact ⟨by show 2 ≤ 2; omega, by show 2 ≤ 10; omega⟩
  | strong n a => exact ⟨by show 2 ≤ 2; omega, by show 2 ≤ 10; omega⟩
  | many q n a b => exact h.1
theorem Knd.n60 {kd : Knd} (h : kd.ok) : kd.n ≤ 60 := by
  cases kd with
  | plain n a => exact h.1
  | strong n a => exact Nat.le_trans h.1.2 (by omega)
  | many q n a b => exact Nat.le_trans h.2.1.2 (by omega)
/-- a desk that keeps a list -/
def DeskV (K : PySem.W.Frag) (H : Hp) (x : V) (kd : Knd) : Prop := ∃ pv, Ins K H x "Desk" [("kept", pv)] ∧ KndV K H pv kd ∧ kd.ok
theorem DeskV.mono {K : PySem.W.Frag} {H H' : Hp} {v : V} {kd : Knd} (e : Ex H H') (h : DeskV K H v kd) : DeskV K H' v kd := by
  obtain ⟨pv, h1, h2, h3⟩ := h
  exact ⟨pv, h1.mono e, h2.mono e, h3⟩
theorem DeskV.exB {K : PySem.W.Frag} {H H' : Hp} {v : V} {kd : Knd} {p : Addr} {ys : List V} (e : ExB p H H') (hp : H p = some (.lst ys)) (h : DeskV K H v kd) : DeskV K H' v kd := by
  obtain ⟨pv, h1, h2, h3⟩ := h
  exact ⟨pv, h1.exB e hp, h2.exB e hp, h3⟩
/-- a word as it stands in a row -/
def wtxD (ns : List Int) : Str := if ns = [] then "-" else wtx ns
/-- a text that is read as a word -/
def rdOk (q : Nat) (z : Str) : Prop := z = "-" ∨ (z.length ≤ 60 ∧ ∀ c ∈ z.cps.toList, c ∈ lets.take q)
def rdW (z : Str) : List Int := if z = "-" then [] else idxs z
theorem idx_lt {q : Nat} {c : Nat} (hq : q ≤ 36) (h : c ∈ lets.take q) : 0 ≤ idx c ∧ idx c < q := by
  obtain ⟨i, hi, rfl⟩ := List.mem_iff_getElem.mp h
  rw [List.length_take] at hi
  have hi36 : i < 36 := by omega
  rw [List.getElem_take]
  have e : lets[i]'(by rw [lets_len]; omega) = ltr (i : Int) := by
    unfold ltr
    rw [Int.toNat_natCast, List.getD_eq_getElem?_getD, List.getElem?_eq_getElem (by rw [lets_len]; omega)]
    rfl
  rw [e, idx_ltr (by omega)]
  omega
theorem rd_word {q : Nat} {z : Str} (hq : q ≤ 36) (h : rdOk q z) : (rdW z).length ≤ 60 ∧ Sg q (rdW z) := by
  unfold rdW
  split
  · exact ⟨by simp, fun i hi => by cases hi⟩
  · rename_i c
    rcases h with h | ⟨h1, h2⟩
    · exact absurd h c
    · refine ⟨by unfold idxs; rw [List.length_map, len_cps]; exact h1, fun i hi => ?_⟩
      unfold idxs at hi
      obtain ⟨x, hx, rfl⟩ := List.mem_map.mp hi
      exact idx_lt hq (h2 x hx)
theorem wtx_sgn {ns : List Int} {q : Nat} (hs : Sg q ns) (hq : q ≤ 36) : ∀ c ∈ (wtx ns).cps.toList, c ∈ lets.take q := fun c hc => by
  unfold wtx at hc
  rw [sS_cps] at hc
  obtain ⟨i, hi, rfl⟩ := List.mem_map.mp hc
  have := ltr_mem (i := i) (q := (q : Nat)) (hs i hi) (by omega)
  rwa [Int.toNat_natCast] at this
theorem dash_no {ns : List Int} {q : Nat} (hs : Sg q ns) (hq : q ≤ 36) : wtx ns ≠ "-" := fun h => by
  have e0 : ("-" : Str).cps.toList = [45] := by decide +kernel
  have := wtx_sgn hs hq 45 (by rw [h, e0]; simp)
  exact absurd (List.mem_of_mem_take this) (by decide)
theorem rd_wtxD {ns : List Int} {q : Nat} (hs : Sg q ns) (hl : ns.length ≤ 60) (hq : q ≤ 36) : rdOk q (wtxD ns) ∧ rdW (wtxD ns) = ns := by
  unfold wtxD
  by_cases c : ns = []
  · rw [if_pos c]
    exact ⟨.inl rfl, by unfold rdW; rw [if_pos rfl, c]⟩
  · rw [if_neg c]
    refine ⟨.inr ⟨by rw [wtx_len]; exact hl, wtx_sgn hs hq⟩, ?_⟩
    unfold rdW
    rw [if_neg (dash_no hs hq), idxs_wtx fun i hi => ?_]
    have := hs i hi
    omega
theorem sg_36 {q : Nat} {ns : List Int} (hq : q ≤ 36) (h : Sg q ns) : Sg 36 ns := fun i hi => by
  have := h i hi
  omega
def s_is_figures (K : PySem.W.Frag) (x0 : V) (H : Hp) (Q : VK) (E : XK) : Prop := ∃ z : Str, x0 = .str z ∧ z.length ≤ 90000 ∧ ∀ H', Ex H H' → Q (.bl (figB z)) H'
def sp_is_figures (K : PySem.W.Frag) : Sp := fun vs H Q E => match vs with
  | [x0] => s_is_figures K x0 H Q E
  | _ => False
/-- parts that make a row -/
def RowOk (ps : List Str) : Prop := ∃ (w : Str) (args : List Str) (sorts : Str), ps = w :: args ∧ tab_ROWS.lookup w = some sorts ∧ args.length = sorts.cps.toList.length ∧ (∀ p ∈ ps, 32 ∉ p.cps.toList) ∧
  ∀ (i : Nat) (p : Str) (c : Nat), args[i]? = some p → sorts.cps.toList[i]? = some c → p ≠ "" ∧ (c = 78 → figB p = true) ∧ p.length ≤ 90000
def s_parts_of (K : PySem.W.Frag) (x0 : V) (H : Hp) (Q : VK) (E : XK) : Prop := ∃ ps : List Str, x0 = .str (Txt.join " " ps) ∧ RowOk ps ∧ (Txt.join " " ps).length ≤ 90000 ∧ ∀ p H', H p = none → Ex H H' → H' p = some (.lst (ps.map V.str)) → Q (.ref p) H'
def sp_parts_of (K : PySem.W.Frag) : Sp := fun vs H Q E => match vs with
  | [x0] => s_parts_of K x0 H Q E
  | _ => False
def s_shown (K : PySem.W.Frag) (x0 x1 : V) (H : Hp) (Q : VK) (E : XK) : Prop := ∃ (q : Nat) (ns : List Int), x0 = .int (q : Nat) ∧ (2 ≤ q ∧ q ≤ 36) ∧ Wd K H (q : Nat) x1 ns ∧ ∀ H', Ex H H' → Q (.str (wtxD ns)) H'
def sp_shown (K : PySem.W.Frag) : Sp := fun vs H Q E => match vs with
  | [x0, x1] => s_shown K x0 x1 H Q E
  | _ => False
def s_word_read (K : PySem.W.Frag) (x0 x1 : V) (H : Hp) (Q : VK) (E : XK) : Prop := ∃ (q : Nat) (z : Str), x0 = .int (q : Nat) ∧ (2 ≤ q ∧ q ≤ 36) ∧ x1 = .str z ∧ rdOk q z ∧ ∀ a H', Ex H H' → Nt H' a ((rdW z).map V.int) → Q (.ref a) H'
def sp_word_read (K : PySem.W.Frag) : Sp := fun vs H Q E => match vs with
  | [x0, x1] => s_word_read K x0 x1 H Q E
  | _ => False
def s_Desk_init (K : PySem.W.Frag) (x0 : V) (H : Hp) (Q : VK) (E : XK) : Prop := ∃ (p C dx : Addr), x0 = .ref p ∧ PySem.W.nsIn K mainGlobals "Desk" = some (some (.ref C)) ∧ H p = some (.ins C dx []) ∧ ∀ H', ExB p H H' → DeskV K H' (.ref p) (.plain 0 0) → Q .non H'
def sp_Desk_init (K : PySem.W.Frag) : Sp := fun vs H Q E => match vs with
  | [x0] => s_Desk_init K x0 H Q E
  | _ => False
def s_Desk_signs (K : PySem.W.Frag) (x0 : V) (H : Hp) (Q : VK) (E : XK) : Prop := ∃ kd : Knd, DeskV K H x0 kd ∧ Q (.int (kd.q : Nat)) H
def sp_Desk_signs (K : PySem.W.Frag) : Sp := fun vs H Q E => match vs with
  | [x0] => s_Desk_signs K x0 H Q E
  | _ => False
def Knd.word : Knd → Str
  | .plain _ _ => "plain"
  | .strong _ _ => "strong"
  | .many _ _ _ _ => "many"
def Knd.nums : Knd → List Int
  | .plain n a => [(n : Nat), a]
  | .strong n a => [(n : Nat), a]
  | .many q n a b => [(q : Nat), (n : Nat), a, b]
theorem exI_t {K : PySem.W.Frag} {p a : Addr} {H H' : Hp} {xs : List V} {C dx : Addr} {fs : List (Str × V)} (e : ExB p H H') (hp : H p = some (.ins C dx fs)) (h : SqT K H a xs) : SqT K H' a xs := by
  rcases h with h | h
  · refine .inl ?_
    rcases h with h | ⟨o, h⟩
    · exact .inl (e _ _ (fun z => by subst z; rw [hp] at h; cases h) h)
    · exact .inr ⟨o, e _ _ (fun z => by subst z; rw [hp] at h; cases h) h⟩
  · exact .inr h
def s_Desk_keep (K : PySem.W.Frag) (x0 x1 x2 : V) (H : Hp) (Q : VK) (E : XK) : Prop := ∃ (p l : Addr) (kd0 kd : Knd), x0 = .ref p ∧ DeskV K H (.ref p) kd0 ∧ x1 = .str kd.word ∧ x2 = .ref l ∧ SqL K H l (kd.nums.map V.int) ∧ kd.ok ∧ ∀ H', ExB p H H' → DeskV K H' (.ref p) kd → Q (.str "ok") H'
def sp_Desk_keep (K : PySem.W.Frag) : Sp := fun vs H Q E => match vs with
  | [x0, x1, x2] => s_Desk_keep K x0 x1 x2 H Q E
  | _ => False
def s_Desk_many_members (K : PySem.W.Frag) (x0 : V) (H : Hp) (Q : VK) (E : XK) : Prop := ∃ kd : Knd, DeskV K H x0 kd ∧ ∀ H', Ex H H' → Q (.int kd.cnt) H'
def sp_Desk_many_members (K : PySem.W.Frag) : Sp := fun vs H Q E => match vs with
  | [x0] => s_Desk_many_members K x0 H Q E
  | _ => False
def s_Desk_member_at (K : PySem.W.Frag) (x0 x1 : V) (H : Hp) (Q : VK) (E : XK) : Prop := ∃ (kd : Knd) (j : Int), DeskV K H x0 kd ∧ x1 = .int j ∧ (0 ≤ j ∧ j < kd.cnt) ∧ ∀ b w H', Ex H H' → SqT K H' b (w.map V.int) → kd.mem j w → Q (.ref b) H'
def sp_Desk_member_at (K : PySem.W.Frag) : Sp := fun vs H Q E => match vs with
  | [x0, x1] => s_Desk_member_at K x0 x1 H Q E
  | _ => False
def s_Desk_number_at (K : PySem.W.Frag) (x0 x1 : V) (H : Hp) (Q : VK) (E : XK) : Prop := ∃ (kd : Knd) (w : List Int), DeskV K H x0 kd ∧ Wd K H (kd.q : Nat) x1 w ∧ kd.has w = true ∧ ∀ j H', Ex H H' → (0 ≤ j ∧ j < kd.cnt) → kd.mem j w → Q (.int j) H'
def sp_Desk_number_at (K : PySem.W.Frag) : Sp := fun vs H Q E => match vs with
  | [x0, x1] => s_Desk_number_at K x0 x1 H Q E
  | _ => False
def s_Desk_sent (K : PySem.W.Frag) (x0 x1 : V) (H : Hp) (Q : VK) (E : XK) : Prop := ∃ (kd : Knd) (c : List Int), DeskV K H x0 kd ∧ Wd K H (kd.q : Nat) x1 c ∧ (c.length ≤ kd.n + 1 ∧ kd.n ≤ c.length + 1) ∧ ∀ v H', Ex H H' → SentR K H' kd c v → Q v H'
def sp_Desk_sent (K : PySem.W.Frag) : Sp := fun vs H Q E => match vs with
  | [x0, x1] => s_Desk_sent K x0 x1 H Q E
  | _ => False
def MendTx (kd : Knd) (c : List Int) (z : Str) : Prop := (∃ u ∈ kd.cands c, kd.has u = true ∧ z = wtxD u) ∨ (z = "none" ∧ ∀ u ∈ kd.cands c, kd.has u = false)
theorem has_len {kd : Knd} {u : List Int} (h : kd.has u = true) : u.length = kd.n := by
  cases kd with
  | plain n a =>
    have hh : inPL n a u = true := h
    unfold inPL at hh
    rw [Bool.and_eq_true, decide_eq_true_eq] at hh
    have := hh.1
    show u.length = n
    omega
  | strong n a =>
    have hh : inSL n a u = true := h
    unfold inSL at hh
    rw [Bool.and_eq_true, decide_eq_true_eq] at hh
    have := hh.1
    show u.length = n
    omega
  | many q n a b =>
    have hh : inML q n a b u = true := h
    unfold inML at hh
    rw [Bool.and_eq_true, decide_eq_true_eq] at hh
    have := hh.1
    show u.length = n
    omega
theorem cands_sg {kd : Knd} {c u : List Int} (sc : Sg (kd.q : Nat) c) (h : u ∈ kd.cands c) : Sg (kd.q : Nat) u := by
  cases kd with
  | plain n a =>
    have h : u ∈ LW.cands n c := h
    unfold LW.cands at h
    split at h
    · exact (puts_wb sc u h).2
    · split at h
      · rw [List.mem_singleton] at h; rw [h]; exact sc
      · exact (losts_wb sc u h).2
  | strong n a =>
    have h : u ∈ candsS n c := h
    unfold candsS at h
    split at h
    · rcases List.mem_append.mp h with h | h
      · rw [List.mem_singleton] at h; rw [h]; exact sc
      · exact (chgs_wb sc u h).2
    · split at h
      · exact (puts_wb sc u h).2
      · exact (losts_wb sc u h).2
  | many q n a b =>
    have h : u ∈ candsM q n c := h
    unfold candsM at h
    split at h
    · exact (puts_wb sc u h).2
    · split at h
      · rw [List.mem_singleton] at h; rw [h]; exact sc
      · exact (losts_wb sc u h).2
def s_Desk_mend (K : PySem.W.Frag) (x0 x1 : V) (H : Hp) (Q : VK) (E : XK) : Prop := ∃ (kd : Knd) (z : Str), DeskV K H x0 kd ∧ x1 = .str z ∧ rdOk kd.q z ∧ ((rdW z).length ≤ kd.n + 1 ∧ kd.n ≤ (rdW z).length + 1) ∧ ∀ t H', Ex H H' → MendTx kd (rdW z) t → Q (.str t) H'
def sp_Desk_mend (K : PySem.W.Frag) : Sp := fun vs H Q E => match vs with
  | [x0, x1] => s_Desk_mend K x0 x1 H Q E
  | _ => False
def nearTx (us vs r : List Int) : Str := Str.ofString (toString ((us.length : Int) + vs.length - 2 * (lcsN us vs : Nat))) ++ "; " ++ wtxD r
def s_Desk_near (K : PySem.W.Frag) (x0 x1 x2 : V) (H : Hp) (Q : VK) (E : XK) : Prop := ∃ (y z : Str), x1 = .str y ∧ x2 = .str z ∧ rdOk 36 y ∧ rdOk 36 z ∧ ∀ r H', Ex H H' → Bst (rdW y) (rdW z) r → Q (.str (nearTx (rdW y) (rdW z) r)) H'
def sp_Desk_near (K : PySem.W.Frag) : Sp := fun vs H Q E => match vs with
  | [x0, x1, x2] => s_Desk_near K x0 x1 x2 H Q E
  | _ => False
def ringTx (us : List (List Int)) : Str := if us = [] then "none" else Txt.join " " (us.map wtxD)
def s_Desk_ring (K : PySem.W.Frag) (x0 x1 : V) (H : Hp) (Q : VK) (E : XK) : Prop := ∃ (kd : Knd) (z : Str), DeskV K H x0 kd ∧ x1 = .str z ∧ rdOk kd.q z ∧ ∀ us H', Ex H H' → Ring (kd.q : Nat) us (losts (rdW z)) → Q (.str (ringTx us)) H'
def sp_Desk_ring (K : PySem.W.Frag) : Sp := fun vs H Q E => match vs with
  | [x0, x1] => s_Desk_ring K x0 x1 H Q E
  | _ => False
/-- the rows that ask, with what is told -/
def Asked (K : PySem.W.Frag) (kd : Knd) (ps : List Str) (H : Hp) (Q : VK) : Prop :=
  (ps = [("count" : Str)] ∧ ∀ H', Ex H H' → Q (.str (Str.ofString (toString kd.cnt))) H') ∨
  (∃ j : Nat, ps = [("word" : Str), nx j] ∧ (j : Int) < kd.cnt ∧ ∀ w H', Ex H H' → w.length ≤ 60 → kd.mem j w → Q (.str (wtxD w)) H') ∨
  (∃ w, ps = [("number" : Str), wtxD w] ∧ w.length ≤ 60 ∧ Sg (kd.q : Nat) w ∧ kd.has w = true ∧ ∀ j H', Ex H H' → (0 ≤ j ∧ j < kd.cnt) → kd.mem j w → Q (.str (Str.ofString (toString j))) H') ∨
  (∃ c, ps = [("mend" : Str), wtxD c] ∧ c.length ≤ 60 ∧ Sg (kd.q : Nat) c ∧ (c.length ≤ kd.n + 1 ∧ kd.n ≤ c.length + 1) ∧ ∀ t H', Ex H H' → MendTx kd c t → Q (.str t) H') ∨
  (∃ u v, ps = [("near" : Str), wtxD u, wtxD v] ∧ (u.length ≤ 60 ∧ v.length ≤ 60) ∧ Sg 36 u ∧ Sg 36 v ∧ ∀ r H', Ex H H' → Bst u v r → Q (.str (nearTx u v r)) H') ∨
  (∃ w, ps = [("ring" : Str), wtxD w] ∧ w.length ≤ 60 ∧ Sg (kd.q : Nat) w ∧ ∀ us H', Ex H H' → Ring (kd.q : Nat) us (losts w) → Q (.str (ringTx us)) H')
/-- a list's numbers as parts of a row -/
def Knd.args (kd : Knd) : List Str := kd.nums.map fun (i : Int) => nx i.toNat
theorem nx_l (n : Nat) : (nx n).cps.toList = TL.numL n := TL.tl_num n
theorem nx_free (n : Nat) : 32 ∉ (nx n).cps.toList := by
  rw [nx_l]
  exact TL.numL_free (.inl (by omega))
theorem nx_ne (n : Nat) : nx n ≠ "" := fun h => by
  have e := nx_l n
  rw [h] at e
  exact TL.numL_ne n e.symm
theorem nx_len2 {n k : Nat} (hk : 0 < k) (h : n < 10 ^ k) : (nx n).length ≤ k := by
  rw [TL.len_tl]
  show (nx n).cps.toList.length ≤ k
  rw [nx_l]
  exact TL.numL_len hk h
theorem num_head : ∀ n : Nat, n ≠ 0 → (TL.numL n).head? ≠ some 48 := fun n => by
  induction n using Nat.strongRecOn with
  | _ n ih =>
    intro h0
    by_cases h : n < 10
    · rw [TL.numL_lt h]
      intro z
      have := Option.some.inj z
      omega
    · have hi := ih (n / 10) (by omega) (by omega)
      rw [TL.numL_step (by omega)]
      cases q : TL.numL (n / 10) with
      | nil => exact absurd q (TL.numL_ne _)
      | cons a l => rw [q] at hi; exact hi
theorem nx_fig {n : Nat} (h : n < 10 ^ 60) : figB (nx n) = true := by
  have e1 := nx_ne n
  have e2 := nx_len2 (n := n) (k := 60) (by decide) h
  unfold figB
  rw [decide_eq_false e1, decide_eq_true e2, nx_l]
  have e3 : ((TL.numL n).all fun c => decide (c ∈ digs)) = true := by
    rw [List.all_eq_true]
    intro c hc
    have := TL.numL_digits n c hc
    have h2 : ∀ k : Fin 10, (48 + k.val) ∈ digs := by decide
    have h3 := h2 ⟨c - 48, by omega⟩
    dsimp only at h3
    rw [show 48 + (c - 48) = c by omega] at h3
    exact decide_eq_true h3
  rw [e3]
  by_cases c : n = 0
  · subst c
    rw [decide_eq_true (show nx 0 = "0" by decide +kernel)]
    rfl
  · rw [decide_eq_false (num_head n c), Bool.not_false, Bool.or_true]
    rfl
theorem wtxD_free {ns : List Int} {q : Nat} (hs : Sg q ns) (hq : q ≤ 36) : 32 ∉ (wtxD ns).cps.toList := by
  unfold wtxD
  split
  · decide +kernel
  · intro h
    exact absurd (List.mem_of_mem_take (wtx_sgn hs hq 32 h)) (by decide)
theorem wtxD_ne (ns : List Int) : wtxD ns ≠ "" := by
  unfold wtxD
  split
  · decide +kernel
  · rename_i c
    intro h
    have := congrArg Str.length h
    rw [wtx_len] at this
    exact c (List.length_eq_zero_iff.mp this)
theorem wtxD_len3 (ns : List Int) : (wtxD ns).length ≤ ns.length + 1 := by
  unfold wtxD
  split
  · have e0 : ("-" : Str).length = 1 := by decide +kernel
    rw [e0]
    omega
  · rw [wtx_len]
    omega
/-- a part behind a row's first word -/
def GoodArg (p : Str) (c : Nat) : Prop := 32 ∉ p.cps.toList ∧ p ≠ "" ∧ (c = 78 → figB p = true) ∧ p.length ≤ 61
theorem arg_N {n : Nat} (h : n < 10 ^ 60) : GoodArg (nx n) 78 := ⟨nx_free n, nx_ne n, fun _ => nx_fig h, Nat.le_trans (nx_len2 (k := 60) (by decide) h) (by decide)⟩
theorem arg_W {ns : List Int} {q : Nat} (hs : Sg q ns) (hq : q ≤ 36) (hl : ns.length ≤ 60) : GoodArg (wtxD ns) 87 := ⟨wtxD_free hs hq, wtxD_ne ns, fun z => absurd z (by decide), (by have := wtxD_len3 ns; omega)⟩
theorem sum_b {ys : List Str} {c : Nat} (h : ∀ y ∈ ys, y.length ≤ c) : (ys.map (·.length)).sum ≤ ys.length * c := by
  induction ys with
  | nil => simp
  | cons y ys ih =>
    have h1 := h y (by simp)
    have h2 := ih fun z hz => h z (by simp [hz])
    rw [List.map_cons, List.sum_cons, List.length_cons, Nat.succ_mul]
    omega
theorem mk_row {w : Str} {args : List Str} {sorts : Str} {cs : List Nat} (hl : tab_ROWS.lookup w = some sorts) (hc : sorts.cps.toList = cs) (hw : 32 ∉ w.cps.toList) (hwl : w.length ≤ 61) (hp : Paired GoodArg args cs) (hn : cs.length ≤ 4) : RowOk (w :: args) ∧ (Txt.join " " (w :: args)).length ≤ 90000 := by
  have hlen := Paired.length hp
  have ha : ∀ p ∈ args, 32 ∉ p.cps.toList ∧ p.length ≤ 61 := fun p hp2 => by
    obtain ⟨i, hi, rfl⟩ := List.mem_iff_getElem.mp hp2
    obtain ⟨c, _, g⟩ := pd_at hp (List.getElem?_eq_getElem hi)
    exact ⟨g.1, g.2.2.2⟩
  refine ⟨⟨w, args, sorts, rfl, hl, by rw [hc, hlen], fun p hp2 => ?_, fun i p c h1 h2 => ?_⟩, ?_⟩
  · rcases List.mem_cons.mp hp2 with rfl | hp2
    · exact hw
    · exact (ha p hp2).1
  · obtain ⟨c', h3, g⟩ := pd_at hp h1
    rw [hc, h3] at h2
    cases h2
    exact ⟨g.2.1, g.2.2.1, Nat.le_trans g.2.2.2 (by decide)⟩
  · have h1 := join_len " " (w :: args)
    have h2 := sum_b (ys := w :: args) (c := 61) fun y hy => by
      rcases List.mem_cons.mp hy with rfl | hy
      · exact hwl
      · exact (ha y hy).2
    have e1 : (Str.ofString " ").length = 1 := by decide +kernel
    rw [e1] at h1
    rw [List.length_cons] at h1 h2
    omega
theorem pow_small {x : Int} {q n : Nat} (hx : x ≤ ((q ^ n : Nat) : Int)) (h : q ^ n < 10 ^ 60) : x < 10 ^ 60 := by
  have h2 : ((q ^ n : Nat) : Int) < ((10 ^ 60 : Nat) : Int) := by omega
  have h3 : ((10 ^ 60 : Nat) : Int) = 10 ^ 60 := by decide +kernel
  omega
theorem cnt_small {kd : Knd} (ok : kd.ok) : 0 ≤ kd.cnt ∧ kd.cnt < 10 ^ 60 := by
  have h60 : (2 : Nat) ^ 60 < 10 ^ 60 := by decide +kernel
  cases kd with
  | plain n a =>
    refine ⟨Dn_nonneg _ _ _ _, ?_⟩
    have h1 := Dn_le (n + 1) n n a
    have h2 : (2 : Nat) ^ n ≤ 2 ^ 60 := Nat.pow_le_pow_right (by decide) ok.1
    refine pow_small (q := 2) (n := n) ?_ (by omega)
    show Dn (n + 1) n n a ≤ _
    rw [Int.natCast_pow]
    exact h1
  | strong n a =>
    refine ⟨Dn_nonneg _ _ _ _, ?_⟩
    have h1 := Dn_le (2 * n) n n a
    have h2 : (2 : Nat) ^ n ≤ 2 ^ 60 := Nat.pow_le_pow_right (by decide) (Nat.le_trans ok.1.2 (by decide))
    refine pow_small (q := 2) (n := n) ?_ (by omega)
    show Dn (2 * n) n n a ≤ _
    rw [Int.natCast_pow]
    exact h1
  | many q n a b =>
    refine ⟨by show (0 : Int) ≤ ((EW q n n 0 a b).length : Nat); omega, ?_⟩
    have h1 : (EW q n n 0 a b).length ≤ q ^ n := by
      rw [EW_all ok.2.2.1 ok.2.2.2, ← allW_len q n]
      exact List.length_filter_le _ _
    have h2 : q ^ n ≤ 10 ^ 24 := Nat.le_trans (Nat.pow_le_pow_left ok.1.2 n) (Nat.pow_le_pow_right (by decide) ok.2.1.2)
    have h3 : (10 : Nat) ^ 24 < 10 ^ 60 := by decide +kernel
    refine pow_small (q := q) (n := n) ?_ (by omega)
    show ((EW q n n 0 a b).length : Int) ≤ _
    omega
theorem cnt_log {x : Int} (h0 : 0 ≤ x) (h1 : x < 10 ^ 60) : x.natAbs.log2 < 1920 := by
  refine log2_lt (k := 200) ?_ (by decide)
  have h3 : ((10 ^ 60 : Nat) : Int) = 10 ^ 60 := by decide +kernel
  have h4 : (10 : Nat) ^ 60 < 2 ^ 200 := by decide +kernel
  omega
/-- a member of a number -/
theorem mem_facts {kd : Knd} {j : Int} {w : List Int} (ok : kd.ok) (hj : 0 ≤ j ∧ j < kd.cnt) (h : kd.mem j w) : kd.has w = true ∧ w.length = kd.n ∧ Sg (kd.q : Nat) w := by
  cases kd with
  | plain n a =>
    obtain ⟨g1, g2, g3, g4⟩ := memN_all n a j ok.2.1 ok.2.2 hj.1 hj.2
    have h : w = _ := h
    rw [← h] at g1 g2 g3
    refine ⟨?_, g1, g2⟩
    show inPL n a w = true
    unfold inPL
    rw [decide_eq_true (by omega), decide_eq_true g3]
    rfl
  | strong n a =>
    obtain ⟨g1, g2, g3, g4⟩ := memS_all n ok.1.1 a j ok.2.1 ok.2.2 hj.1 hj.2
    have h : w = _ := h
    rw [← h] at g1 g2 g3
    refine ⟨?_, g1, g2⟩
    show inSL n a w = true
    unfold inSL
    rw [decide_eq_true (by omega), decide_eq_true g3]
    rfl
  | many q n a b =>
    have h : (EW q n n 0 a b)[j.toNat]? = some w := h
    have hm := List.mem_of_getElem? h
    rw [EW_all ok.2.2.1 ok.2.2.2, List.mem_filter] at hm
    have := allW_mem.mp hm.1
    exact ⟨hm.2, this.1, this.2⟩
theorem word_free (kd : Knd) : 32 ∉ kd.word.cps.toList ∧ kd.word.length ≤ 61 := by
  cases kd with
  | plain n a => exact ⟨(by decide +kernel : 32 ∉ ("plain" : Str).cps.toList), (by decide +kernel : ("plain" : Str).length ≤ 61)⟩
  | strong n a => exact ⟨(by decide +kernel : 32 ∉ ("strong" : Str).cps.toList), (by decide +kernel : ("strong" : Str).length ≤ 61)⟩
  | many q n a b => exact ⟨(by decide +kernel : 32 ∉ ("many" : Str).cps.toList), (by decide +kernel : ("many" : Str).length ≤ 61)⟩
theorem inv_word (kd : Knd) : inV (V.str kd.word) [V.str "plain", V.str "strong", V.str "many"] = true := by
  cases kd with
  | plain n a => exact (by decide +kernel : inV (V.str "plain") [V.str "plain", V.str "strong", V.str "many"] = true)
  | strong n a => exact (by decide +kernel : inV (V.str "strong") [V.str "plain", V.str "strong", V.str "many"] = true)
  | many q n a b => exact (by decide +kernel : inV (V.str "many") [V.str "plain", V.str "strong", V.str "many"] = true)
theorem nums_len (kd : Knd) : kd.nums.length ≤ 4 := by
  cases kd with
  | plain n a => exact (by decide : 2 ≤ 4)
  | strong n a => exact (by decide : 2 ≤ 4)
  | many q n a b => exact (by decide : 4 ≤ 4)
theorem keep_row {kd : Knd} (ok : kd.ok) : RowOk (kd.word :: kd.args) ∧ (Txt.join " " (kd.word :: kd.args)).length ≤ 90000 := by
  have h3 : (1000 : Nat) < 10 ^ 60 := by decide +kernel
  cases kd with
  | plain n a =>
    have ok1 : n ≤ 60 ∧ (0 ≤ a ∧ a ≤ n) := ok
    exact mk_row (sorts := "NN") (cs := [78, 78]) (show tab_ROWS.lookup ("plain" : Str) = some "NN" by decide +kernel) (by decide +kernel) (word_free (.plain n a)).1 (word_free (.plain n a)).2 (.cons (arg_N (by omega)) (.cons (arg_N (by omega)) .nil)) (by decide)
  | strong n a =>
    have ok1 : (1 ≤ n ∧ n ≤ 59) ∧ (0 ≤ a ∧ a < 2 * (n : Int)) := ok
    exact mk_row (sorts := "NN") (cs := [78, 78]) (show tab_ROWS.lookup ("strong" : Str) = some "NN" by decide +kernel) (by decide +kernel) (word_free (.strong n a)).1 (word_free (.strong n a)).2 (.cons (arg_N (by omega)) (.cons (arg_N (by omega)) .nil)) (by decide)
  | many q n a b =>
    have ok1 : (2 ≤ q ∧ q ≤ 10) ∧ (2 ≤ n ∧ n ≤ 24) ∧ (0 ≤ a ∧ a < n) ∧ (0 ≤ b ∧ b < q) := ok
    exact mk_row (sorts := "NNNN") (cs := [78, 78, 78, 78]) (show tab_ROWS.lookup ("many" : Str) = some "NNNN" by decide +kernel) (by decide +kernel) (word_free (.many q n a b)).1 (word_free (.many q n a b)).2 (.cons (arg_N (by omega)) (.cons (arg_N (by omega)) (.cons (arg_N (by omega)) (.cons (arg_N (by omega)) .nil)))) (by decide)
theorem nums_ok {kd : Knd} (ok : kd.ok) : ∀ i ∈ kd.nums, 0 ≤ i ∧ i < 1000 := by
  cases kd with
  | plain n a =>
    have ok1 : n ≤ 60 ∧ (0 ≤ a ∧ a ≤ n) := ok
    intro i hi
    rcases List.mem_cons.mp hi with rfl | hi
    · omega
    · rw [List.mem_singleton.mp hi]; omega
  | strong n a =>
    have ok1 : (1 ≤ n ∧ n ≤ 59) ∧ (0 ≤ a ∧ a < 2 * (n : Int)) := ok
    intro i hi
    rcases List.mem_cons.mp hi with rfl | hi
    · omega
    · rw [List.mem_singleton.mp hi]; omega
  | many q n a b =>
    have ok1 : (2 ≤ q ∧ q ≤ 10) ∧ (2 ≤ n ∧ n ≤ 24) ∧ (0 ≤ a ∧ a < n) ∧ (0 ≤ b ∧ b < q) := ok
    intro i hi
    rcases List.mem_cons.mp hi with rfl | hi
    · omega
    rcases List.mem_cons.mp hi with rfl | hi
    · omega
    rcases List.mem_cons.mp hi with rfl | hi
    · omega
    · rw [List.mem_singleton.mp hi]; omega
theorem nx_int {n : Nat} (h : n < 10 ^ 60) : intText? (nx n) = some (n : Int) := TL.int_num (Nat.le_trans (TL.numL_len (k := 60) (by decide) h) (by decide))
theorem row_of {kd : Knd} (ok : kd.ok) {K : PySem.W.Frag} {ps : List Str} {H : Hp} {Q : VK} (h : Asked K kd ps H Q) : RowOk ps ∧ (Txt.join " " ps).length ≤ 90000 := by
  have hq := kd.q2 ok
  have hc := cnt_small ok
  have h3 : ((10 ^ 60 : Nat) : Int) = 10 ^ 60 := by decide +kernel
  rcases h with ⟨rfl, _⟩ | ⟨j, rfl, hj, _⟩ | ⟨w, rfl, hl, hs, _⟩ | ⟨w, rfl, hl, hs, _⟩ | ⟨u, v, rfl, hl, hs, ht, _⟩ | ⟨w, rfl, hl, hs, _⟩
  · exact mk_row (sorts := "") (cs := []) (by decide +kernel) (by decide +kernel) (by decide +kernel) (by decide +kernel) .nil (by decide)
  · exact mk_row (sorts := "N") (cs := [78]) (by decide +kernel) (by decide +kernel) (by decide +kernel) (by decide +kernel) (.cons (arg_N (by omega)) .nil) (by decide)
  · exact mk_row (sorts := "W") (cs := [87]) (by decide +kernel) (by decide +kernel) (by decide +kernel) (by decide +kernel) (.cons (arg_W hs (by omega) hl) .nil) (by decide)
  · exact mk_row (sorts := "W") (cs := [87]) (by decide +kernel) (by decide +kernel) (by decide +kernel) (by decide +kernel) (.cons (arg_W hs (by omega) hl) .nil) (by decide)
  · exact mk_row (sorts := "WW") (cs := [87, 87]) (by decide +kernel) (by decide +kernel) (by decide +kernel) (by decide +kernel) (.cons (arg_W (q := 36) hs (by omega) hl.1) (.cons (arg_W (q := 36) ht (by omega) hl.2) .nil)) (by decide)
  · exact mk_row (sorts := "W") (cs := [87]) (by decide +kernel) (by decide +kernel) (by decide +kernel) (by decide +kernel) (.cons (arg_W hs (by omega) hl) .nil) (by decide)
def s_Desk_say (K : PySem.W.Frag) (x0 x1 : V) (H : Hp) (Q : VK) (E : XK) : Prop := ∃ (p : Addr) (kd : Knd) (ps : List Str), x0 = .ref p ∧ DeskV K H (.ref p) kd ∧ x1 = .str (Txt.join " " ps) ∧
  (Asked K kd ps H Q ∨ ∃ kd' : Knd, kd'.ok ∧ ps = kd'.word :: kd'.args ∧ ∀ H', ExB p H H' → DeskV K H' (.ref p) kd' → Q (.str "ok") H')
def sp_Desk_say (K : PySem.W.Frag) : Sp := fun vs H Q E => match vs with
  | [x0, x1] => s_Desk_say K x0 x1 H Q E
  | _ => False
def s_L_at (K : PySem.W.Frag) (x0 x1 : V) (H : Hp) (Q : VK) (E : XK) : Prop := ∃ (a : Addr) (ns : List Int) (k : Nat), x0 = .ref a ∧ SqL K H a (ns.map V.int) ∧ x1 = .int (k : Nat) ∧ Q (.int (ns.getD k 0)) H
def sp_L_at (K : PySem.W.Frag) : Sp := fun vs H Q E => match vs with
  | [x0, x1] => s_L_at K x0 x1 H Q E
  | _ => False
def s_L_pot (K : PySem.W.Frag) (x0 x1 : V) (H : Hp) (Q : VK) (E : XK) : Prop := ∃ (a : Addr) (ns : List Int) (k : Nat), x0 = .ref a ∧ SqL K H a (ns.map V.int) ∧ x1 = .int (k : Nat) ∧ k ≤ 1000 ∧ ∀ p H', H p = none → Ex H H' → Pot H' p → Q (.ref p) H'
def sp_L_pot (K : PySem.W.Frag) : Sp := fun vs H Q E => match vs with
  | [x0, x1] => s_L_pot K x0 x1 H Q E
  | _ => False
def s_L_digit (K : PySem.W.Frag) (x0 x1 : V) (H : Hp) (Q : VK) (E : XK) : Prop := ∃ (p : Addr) (b : Int), x0 = .ref p ∧ Pot H p ∧ x1 = .int b ∧ (0 < b ∧ b < 4611686018427387904) ∧ ∀ d H', ExB p H H' → Pot H' p → 0 ≤ d → d < b → Q (.int d) H'
def sp_L_digit (K : PySem.W.Frag) : Sp := fun vs H Q E => match vs with
  | [x0, x1] => s_L_digit K x0 x1 H Q E
  | _ => False
def Knd.sort : Knd → Int
  | .plain _ _ => 0
  | .strong _ _ => 1
  | .many _ _ _ _ => 2
/-- all but two stands -/
def ExB2 (p d : Addr) (H H' : Hp) : Prop := ∀ a o, a ≠ p → a ≠ d → H a = some o → H' a = some o
theorem row_three {w w' a b : Str} (h : w'.cps.toList = w.cps.toList ++ [32]) : (((Str.empty ++ w') ++ a) ++ " ") ++ b = Txt.join " " [w, a, b] := by
  refine TL.ext_tl ?_
  rw [TL.join_eq]
  show _ = ((w ++ " " ++ (a ++ " " ++ b) : Str)).cps.toList
  have e1 : (" " : Str).cps.toList = [32] := by decide +kernel
  have e0 : Str.empty.cps.toList = [] := rfl
  simp only [TL.tl, cps_toList_append, h, e0, e1, List.nil_append, List.append_assoc]
theorem row_five {w w' a b c d : Str} (h : w'.cps.toList = w.cps.toList ++ [32]) : (((((((Str.empty ++ w') ++ a) ++ " ") ++ b) ++ " ") ++ c) ++ " ") ++ d = Txt.join " " [w, a, b, c, d] := by
  refine TL.ext_tl ?_
  rw [TL.join_eq]
  show _ = ((w ++ " " ++ (a ++ " " ++ (b ++ " " ++ (c ++ " " ++ d))) : Str)).cps.toList
  have e1 : (" " : Str).cps.toList = [32] := by decide +kernel
  have e0 : Str.empty.cps.toList = [] := rfl
  simp only [TL.tl, cps_toList_append, h, e0, e1, List.nil_append, List.append_assoc]
theorem row_twoF {w w' a : Str} (h : w'.cps.toList = w.cps.toList ++ [32]) : (Str.empty ++ w') ++ a = Txt.join " " [w, a] := by
  refine TL.ext_tl ?_
  rw [TL.join_eq]
  show _ = ((w ++ " " ++ a : Str)).cps.toList
  have e1 : (" " : Str).cps.toList = [32] := by decide +kernel
  have e0 : Str.empty.cps.toList = [] := rfl
  simp only [TL.tl, cps_toList_append, h, e0, e1, List.nil_append, List.append_assoc]
theorem row_two {w w' a : Str} (h : w'.cps.toList = w.cps.toList ++ [32]) : w' ++ a = Txt.join " " [w, a] := by
  refine TL.ext_tl ?_
  rw [TL.join_eq]
  show _ = ((w ++ " " ++ a : Str)).cps.toList
  have e1 : (" " : Str).cps.toList = [32] := by decide +kernel
  simp only [TL.tl, cps_toList_append, h, e1, List.append_assoc]
theorem nx_ln {n k : Nat} (hk : 0 < k) (h : n < 10 ^ k) : (Str.ofString (toString ((n : Nat) : Int))).length ≤ k := by
  rw [TL.len_tl, TL.tl_num]
  exact TL.numL_len hk h
def s_L_kept (K : PySem.W.Frag) (x0 x1 : V) (H : Hp) (Q : VK) (E : XK) : Prop := ∃ (p d : Addr) (kd0 : Knd), x0 = .ref p ∧ Pot H p ∧ x1 = .ref d ∧ DeskV K H (.ref d) kd0 ∧ ∀ (kd : Knd) t H', kd.ok → (1 ≤ kd.n ∧ kd.n ≤ 40) → kd.q ≤ 4 → ExB2 p d H H' → DeskV K H' (.ref d) kd → SqT K H' t [.int kd.sort, .int (kd.q : Nat), .int (kd.n : Nat)] → Q (.ref t) H'
def sp_L_kept (K : PySem.W.Frag) : Sp := fun vs H Q E => match vs with
  | [x0, x1] => s_L_kept K x0 x1 H Q E
  | _ => False
def s_L_dashed (K : PySem.W.Frag) (x0 : V) (H : Hp) (Q : VK) (E : XK) : Prop := ∃ ns : List Int, x0 = .str (wtx ns) ∧ Q (.str (wtxD ns)) H
def sp_L_dashed (K : PySem.W.Frag) : Sp := fun vs H Q E => match vs with
  | [x0] => s_L_dashed K x0 H Q E
  | _ => False
def s_L_mends (K : PySem.W.Frag) (x0 x1 x2 x3 x4 : V) (H : Hp) (Q : VK) (E : XK) : Prop := ∃ (d : Addr) (kd : Knd) (w c r : List Int), x0 = .ref d ∧ DeskV K H (.ref d) kd ∧ x1 = .str (wtx w) ∧ x2 = .str (wtx c) ∧ x3 = .int ((w.length : Int) + c.length - 2 * (lcsN w c : Nat)) ∧ x4 = .str (wtx r) ∧
  w ≠ [] ∧ (w.length ≤ 60 ∧ c.length ≤ 60 ∧ r.length ≤ 60) ∧ Sg (kd.q : Nat) w ∧ Sg (kd.q : Nat) c ∧ (c.length ≤ kd.n + 1 ∧ kd.n ≤ c.length + 1) ∧ (w ∈ kd.cands c ∧ kd.has w = true ∧ ∀ u ∈ kd.cands c, kd.has u = true → u = w) ∧ (∀ r', Bst w c r' → r' = r) ∧ ∀ H', Ex H H' → Q (.bl true) H'
def sp_L_mends (K : PySem.W.Frag) : Sp := fun vs H Q E => match vs with
  | [x0, x1, x2, x3, x4] => s_L_mends K x0 x1 x2 x3 x4 H Q E
  | _ => False
def s_law (K : PySem.W.Frag) (x0 : V) (H : Hp) (Q : VK) (E : XK) : Prop := ∃ (a : Addr) (ns : List Int), x0 = .ref a ∧ SqL K H a (ns.map V.int) ∧ ns.length ≤ 63 ∧ ∀ H', Q (.bl true) H'
def sp_law (K : PySem.W.Frag) : Sp := fun vs H Q E => match vs with
  | [x0] => s_law K x0 H Q E
  | _ => False
structure Txt (K : PySem.W.Frag) (mg : Str → Option Value) (w : World) : Type where
  a_is_number : Addr
  fd_is_number : FuncData
  g_is_number : mg "is_number" = some (.ref a_is_number)
  F_is_number : Fun K "is_number" "is_number" S_is_number a_is_number fd_is_number
  b_is_number : Binds K fd_is_number ["thing"] []
  a_want_count : Addr
  fd_want_count : FuncData
  g_want_count : mg "want_count" = some (.ref a_want_count)
  F_want_count : Fun K "want_count" "want_count" S_want_count a_want_count fd_want_count
  b_want_count : Binds K fd_want_count ["q"] []
  a_is_sign : Addr
  fd_is_sign : FuncData
  g_is_sign : mg "is_sign" = some (.ref a_is_sign)
  F_is_sign : Fun K "is_sign" "is_sign" S_is_sign a_is_sign fd_is_sign
  b_is_sign : Binds K fd_is_sign ["q", "thing"] []
  a_want_word : Addr
  fd_want_word : FuncData
  g_want_word : mg "want_word" = some (.ref a_want_word)
  F_want_word : Fun K "want_word" "want_word" S_want_word a_want_word fd_want_word
  b_want_word : Binds K fd_want_word ["q", "word"] []
  a_lengths_from : Addr
  fd_lengths_from : FuncData
  g_lengths_from : mg "lengths_from" = some (.ref a_lengths_from)
  F_lengths_from : Fun K "lengths_from" "lengths_from" S_lengths_from a_lengths_from fd_lengths_from
  b_lengths_from : Binds K fd_lengths_from ["one", "other"] []
  a_first_sign : Addr
  fd_first_sign : FuncData
  g_first_sign : mg "first_sign" = some (.ref a_first_sign)
  F_first_sign : Fun K "first_sign" "first_sign" S_first_sign a_first_sign fd_first_sign
  b_first_sign : Binds K fd_first_sign ["one", "other", "lengths", "i", "j"] []
  a_common_row : Addr
  fd_common_row : FuncData
  g_common_row : mg "common_row" = some (.ref a_common_row)
  F_common_row : Fun K "common_row" "common_row" S_common_row a_common_row fd_common_row
  b_common_row : Binds K fd_common_row ["one", "other"] []
  a_nearness : Addr
  fd_nearness : FuncData
  g_nearness : mg "nearness" = some (.ref a_nearness)
  F_nearness : Fun K "nearness" "nearness" S_nearness a_nearness fd_nearness
  b_nearness : Binds K fd_nearness ["one", "other"] []
  a_lost_ring : Addr
  fd_lost_ring : FuncData
  g_lost_ring : mg "lost_ring" = some (.ref a_lost_ring)
  F_lost_ring : Fun K "lost_ring" "lost_ring" S_lost_ring a_lost_ring fd_lost_ring
  b_lost_ring : Binds K fd_lost_ring ["q", "word"] []
  a_put_ring : Addr
  fd_put_ring : FuncData
  g_put_ring : mg "put_ring" = some (.ref a_put_ring)
  F_put_ring : Fun K "put_ring" "put_ring" S_put_ring a_put_ring fd_put_ring
  b_put_ring : Binds K fd_put_ring ["q", "word"] []
  a_changed_ring : Addr
  fd_changed_ring : FuncData
  g_changed_ring : mg "changed_ring" = some (.ref a_changed_ring)
  F_changed_ring : Fun K "changed_ring" "changed_ring" S_changed_ring a_changed_ring fd_changed_ring
  b_changed_ring : Binds K fd_changed_ring ["q", "word"] []
  a_shape : Addr
  fd_shape : FuncData
  g_shape : mg "shape" = some (.ref a_shape)
  F_shape : Fun K "shape" "shape" S_shape a_shape fd_shape
  b_shape : Binds K fd_shape ["q", "word"] []
  a_weighted : Addr
  fd_weighted : FuncData
  g_weighted : mg "weighted" = some (.ref a_weighted)
  F_weighted : Fun K "weighted" "weighted" S_weighted a_weighted fd_weighted
  b_weighted : Binds K fd_weighted ["q", "word"] []
  a_want_rest : Addr
  fd_want_rest : FuncData
  g_want_rest : mg "want_rest" = some (.ref a_want_rest)
  F_want_rest : Fun K "want_rest" "want_rest" S_want_rest a_want_rest fd_want_rest
  b_want_rest : Binds K fd_want_rest ["thing", "by"] []
  a_ManyList_init : Addr
  fd_ManyList_init : FuncData
  F_ManyList_init : Fun K "__init__" "ManyList.__init__" S_ManyList_init a_ManyList_init fd_ManyList_init
  b_ManyList_init : Binds K fd_ManyList_init ["self", "q", "n", "a", "b"] []
  a_ManyList_signs : Addr
  fd_ManyList_signs : FuncData
  F_ManyList_signs : Fun K "signs" "ManyList.signs" S_ManyList_signs a_ManyList_signs fd_ManyList_signs
  b_ManyList_signs : Binds K fd_ManyList_signs ["self"] []
  a_ManyList_length : Addr
  fd_ManyList_length : FuncData
  F_ManyList_length : Fun K "length" "ManyList.length" S_ManyList_length a_ManyList_length fd_ManyList_length
  b_ManyList_length : Binds K fd_ManyList_length ["self"] []
  a_ManyList_rests : Addr
  fd_ManyList_rests : FuncData
  F_ManyList_rests : Fun K "rests" "ManyList.rests" S_ManyList_rests a_ManyList_rests fd_ManyList_rests
  b_ManyList_rests : Binds K fd_ManyList_rests ["self"] []
  a_ManyList_has : Addr
  fd_ManyList_has : FuncData
  F_ManyList_has : Fun K "has" "ManyList.has" S_ManyList_has a_ManyList_has fd_ManyList_has
  b_ManyList_has : Binds K fd_ManyList_has ["self", "word"] []
  a_words_ahead_of : Addr
  fd_words_ahead_of : FuncData
  g_words_ahead_of : mg "words_ahead_of" = some (.ref a_words_ahead_of)
  F_words_ahead_of : Fun K "words_ahead_of" "words_ahead_of" S_words_ahead_of a_words_ahead_of fd_words_ahead_of
  b_words_ahead_of : Binds K fd_words_ahead_of ["many", "came"] []
  a_many_mended : Addr
  fd_many_mended : FuncData
  g_many_mended : mg "many_mended" = some (.ref a_many_mended)
  F_many_mended : Fun K "many_mended" "many_mended" S_many_mended a_many_mended fd_many_mended
  b_many_mended : Binds K fd_many_mended ["many", "came"] []
  a_code_of : Addr
  fd_code_of : FuncData
  g_code_of : mg "code_of" = some (.ref a_code_of)
  F_code_of : Fun K "code_of" "code_of" S_code_of a_code_of fd_code_of
  b_code_of : Binds K fd_code_of ["q", "n", "sign", "shape_left", "sum_left"] []
  a_ways_behind : Addr
  fd_ways_behind : FuncData
  g_ways_behind : mg "ways_behind" = some (.ref a_ways_behind)
  F_ways_behind : Fun K "ways_behind" "ways_behind" S_ways_behind a_ways_behind fd_ways_behind
  b_ways_behind : Binds K fd_ways_behind ["q", "n", "place", "later", "code"] []
  a_tables_of : Addr
  fd_tables_of : FuncData
  g_tables_of : mg "tables_of" = some (.ref a_tables_of)
  F_tables_of : Fun K "tables_of" "tables_of" S_tables_of a_tables_of fd_tables_of
  b_tables_of : Binds K fd_tables_of ["q", "n"] []
  a_Walk_init : Addr
  fd_Walk_init : FuncData
  F_Walk_init : Fun K "__init__" "Walk.__init__" S_Walk_init a_Walk_init fd_Walk_init
  b_Walk_init : Binds K fd_Walk_init ["self", "many"] []
  a_Walk_left_by : Addr
  fd_Walk_left_by : FuncData
  F_Walk_left_by : Fun K "left_by" "Walk.left_by" S_Walk_left_by a_Walk_left_by fd_Walk_left_by
  b_Walk_left_by : Binds K fd_Walk_left_by ["self", "sign"] []
  a_Walk_ways : Addr
  fd_Walk_ways : FuncData
  F_Walk_ways : Fun K "ways" "Walk.ways" S_Walk_ways a_Walk_ways fd_Walk_ways
  b_Walk_ways : Binds K fd_Walk_ways ["self", "sign"] []
  a_Walk_ways_below : Addr
  fd_Walk_ways_below : FuncData
  F_Walk_ways_below : Fun K "ways_below" "Walk.ways_below" S_Walk_ways_below a_Walk_ways_below fd_Walk_ways_below
  b_Walk_ways_below : Binds K fd_Walk_ways_below ["self", "sign"] []
  a_Walk_go : Addr
  fd_Walk_go : FuncData
  F_Walk_go : Fun K "go" "Walk.go" S_Walk_go a_Walk_go fd_Walk_go
  b_Walk_go : Binds K fd_Walk_go ["self", "sign"] []
  a_how_many_many : Addr
  fd_how_many_many : FuncData
  g_how_many_many : mg "how_many_many" = some (.ref a_how_many_many)
  F_how_many_many : Fun K "how_many_many" "how_many_many" S_how_many_many a_how_many_many fd_how_many_many
  b_how_many_many : Binds K fd_how_many_many ["many"] []
  a_many_member : Addr
  fd_many_member : FuncData
  g_many_member : mg "many_member" = some (.ref a_many_member)
  F_many_member : Fun K "many_member" "many_member" S_many_member a_many_member fd_many_member
  b_many_member : Binds K fd_many_member ["many", "k"] []
  a_many_number : Addr
  fd_many_number : FuncData
  g_many_number : mg "many_number" = some (.ref a_many_number)
  F_many_number : Fun K "many_number" "many_number" S_many_number a_many_number fd_many_number
  b_many_number : Binds K fd_many_number ["many", "word"] []
  a_want_length : Addr
  fd_want_length : FuncData
  g_want_length : mg "want_length" = some (.ref a_want_length)
  F_want_length : Fun K "want_length" "want_length" S_want_length a_want_length fd_want_length
  b_want_length : Binds K fd_want_length ["n"] []
  a_PlainList_init : Addr
  fd_PlainList_init : FuncData
  F_PlainList_init : Fun K "__init__" "PlainList.__init__" S_PlainList_init a_PlainList_init fd_PlainList_init
  b_PlainList_init : Binds K fd_PlainList_init ["self", "n", "a"] []
  a_PlainList_length : Addr
  fd_PlainList_length : FuncData
  F_PlainList_length : Fun K "length" "PlainList.length" S_PlainList_length a_PlainList_length fd_PlainList_length
  b_PlainList_length : Binds K fd_PlainList_length ["self"] []
  a_PlainList_rest : Addr
  fd_PlainList_rest : FuncData
  F_PlainList_rest : Fun K "rest" "PlainList.rest" S_PlainList_rest a_PlainList_rest fd_PlainList_rest
  b_PlainList_rest : Binds K fd_PlainList_rest ["self"] []
  a_PlainList_has : Addr
  fd_PlainList_has : FuncData
  F_PlainList_has : Fun K "has" "PlainList.has" S_PlainList_has a_PlainList_has fd_PlainList_has
  b_PlainList_has : Binds K fd_PlainList_has ["self", "word"] []
  a_rows_behind : Addr
  fd_rows_behind : FuncData
  g_rows_behind : mg "rows_behind" = some (.ref a_rows_behind)
  F_rows_behind : Fun K "rows_behind" "rows_behind" S_rows_behind a_rows_behind fd_rows_behind
  b_rows_behind : Binds K fd_rows_behind ["n"] []
  a_how_many : Addr
  fd_how_many : FuncData
  g_how_many : mg "how_many" = some (.ref a_how_many)
  F_how_many : Fun K "how_many" "how_many" S_how_many a_how_many fd_how_many
  b_how_many : Binds K fd_how_many ["plain"] []
  a_member : Addr
  fd_member : FuncData
  g_member : mg "member" = some (.ref a_member)
  F_member : Fun K "member" "member" S_member a_member fd_member
  b_member : Binds K fd_member ["plain", "k"] []
  a_number_of : Addr
  fd_number_of : FuncData
  g_number_of : mg "number_of" = some (.ref a_number_of)
  F_number_of : Fun K "number_of" "number_of" S_number_of a_number_of fd_number_of
  b_number_of : Binds K fd_number_of ["plain", "word"] []
  a_words_ahead : Addr
  fd_words_ahead : FuncData
  g_words_ahead : mg "words_ahead" = some (.ref a_words_ahead)
  F_words_ahead : Fun K "words_ahead" "words_ahead" S_words_ahead a_words_ahead fd_words_ahead
  b_words_ahead : Binds K fd_words_ahead ["n", "came"] []
  a_mended : Addr
  fd_mended : FuncData
  g_mended : mg "mended" = some (.ref a_mended)
  F_mended : Fun K "mended" "mended" S_mended a_mended fd_mended
  b_mended : Binds K fd_mended ["plain", "came"] []
  a_StrongList_init : Addr
  fd_StrongList_init : FuncData
  F_StrongList_init : Fun K "__init__" "StrongList.__init__" S_StrongList_init a_StrongList_init fd_StrongList_init
  b_StrongList_init : Binds K fd_StrongList_init ["self", "n", "a"] []
  a_StrongList_length : Addr
  fd_StrongList_length : FuncData
  F_StrongList_length : Fun K "length" "StrongList.length" S_StrongList_length a_StrongList_length fd_StrongList_length
  b_StrongList_length : Binds K fd_StrongList_length ["self"] []
  a_StrongList_rest : Addr
  fd_StrongList_rest : FuncData
  F_StrongList_rest : Fun K "rest" "StrongList.rest" S_StrongList_rest a_StrongList_rest fd_StrongList_rest
  b_StrongList_rest : Binds K fd_StrongList_rest ["self"] []
  a_StrongList_has : Addr
  fd_StrongList_has : FuncData
  F_StrongList_has : Fun K "has" "StrongList.has" S_StrongList_has a_StrongList_has fd_StrongList_has
  b_StrongList_has : Binds K fd_StrongList_has ["self", "word"] []
  a_ring_before : Addr
  fd_ring_before : FuncData
  g_ring_before : mg "ring_before" = some (.ref a_ring_before)
  F_ring_before : Fun K "ring_before" "ring_before" S_ring_before a_ring_before fd_ring_before
  b_ring_before : Binds K fd_ring_before ["n", "came"] []
  a_strong_mended : Addr
  fd_strong_mended : FuncData
  g_strong_mended : mg "strong_mended" = some (.ref a_strong_mended)
  F_strong_mended : Fun K "strong_mended" "strong_mended" S_strong_mended a_strong_mended fd_strong_mended
  b_strong_mended : Binds K fd_strong_mended ["strong", "came"] []
  a_tails : Addr
  fd_tails : FuncData
  g_tails : mg "tails" = some (.ref a_tails)
  F_tails : Fun K "tails" "tails" S_tails a_tails fd_tails
  b_tails : Binds K fd_tails ["n"] []
  a_how_many_strong : Addr
  fd_how_many_strong : FuncData
  g_how_many_strong : mg "how_many_strong" = some (.ref a_how_many_strong)
  F_how_many_strong : Fun K "how_many_strong" "how_many_strong" S_how_many_strong a_how_many_strong fd_how_many_strong
  b_how_many_strong : Binds K fd_how_many_strong ["strong"] []
  a_strong_member : Addr
  fd_strong_member : FuncData
  g_strong_member : mg "strong_member" = some (.ref a_strong_member)
  F_strong_member : Fun K "strong_member" "strong_member" S_strong_member a_strong_member fd_strong_member
  b_strong_member : Binds K fd_strong_member ["strong", "k"] []
  a_strong_number : Addr
  fd_strong_number : FuncData
  g_strong_number : mg "strong_number" = some (.ref a_strong_number)
  F_strong_number : Fun K "strong_number" "strong_number" S_strong_number a_strong_number fd_strong_number
  b_strong_number : Binds K fd_strong_number ["strong", "word"] []
  a_show_word : Addr
  fd_show_word : FuncData
  g_show_word : mg "show_word" = some (.ref a_show_word)
  F_show_word : Fun K "show_word" "show_word" S_show_word a_show_word fd_show_word
  b_show_word : Binds K fd_show_word ["q", "word"] []
  a_read_word : Addr
  fd_read_word : FuncData
  g_read_word : mg "read_word" = some (.ref a_read_word)
  F_read_word : Fun K "read_word" "read_word" S_read_word a_read_word fd_read_word
  b_read_word : Binds K fd_read_word ["q", "text"] []
  a_is_figures : Addr
  fd_is_figures : FuncData
  g_is_figures : mg "is_figures" = some (.ref a_is_figures)
  F_is_figures : Fun K "is_figures" "is_figures" S_is_figures a_is_figures fd_is_figures
  b_is_figures : Binds K fd_is_figures ["part"] []
  a_parts_of : Addr
  fd_parts_of : FuncData
  g_parts_of : mg "parts_of" = some (.ref a_parts_of)
  F_parts_of : Fun K "parts_of" "parts_of" S_parts_of a_parts_of fd_parts_of
  b_parts_of : Binds K fd_parts_of ["row"] []
  a_shown : Addr
  fd_shown : FuncData
  g_shown : mg "shown" = some (.ref a_shown)
  F_shown : Fun K "shown" "shown" S_shown a_shown fd_shown
  b_shown : Binds K fd_shown ["q", "word"] []
  a_word_read : Addr
  fd_word_read : FuncData
  g_word_read : mg "word_read" = some (.ref a_word_read)
  F_word_read : Fun K "word_read" "word_read" S_word_read a_word_read fd_word_read
  b_word_read : Binds K fd_word_read ["q", "part"] []
  a_Desk_init : Addr
  fd_Desk_init : FuncData
  F_Desk_init : Fun K "__init__" "Desk.__init__" S_Desk_init a_Desk_init fd_Desk_init
  b_Desk_init : Binds K fd_Desk_init ["self"] []
  a_Desk_signs : Addr
  fd_Desk_signs : FuncData
  F_Desk_signs : Fun K "signs" "Desk.signs" S_Desk_signs a_Desk_signs fd_Desk_signs
  b_Desk_signs : Binds K fd_Desk_signs ["self"] []
  a_Desk_keep : Addr
  fd_Desk_keep : FuncData
  F_Desk_keep : Fun K "keep" "Desk.keep" S_Desk_keep a_Desk_keep fd_Desk_keep
  b_Desk_keep : Binds K fd_Desk_keep ["self", "word", "numbers"] []
  a_Desk_many_members : Addr
  fd_Desk_many_members : FuncData
  F_Desk_many_members : Fun K "many_members" "Desk.many_members" S_Desk_many_members a_Desk_many_members fd_Desk_many_members
  b_Desk_many_members : Binds K fd_Desk_many_members ["self"] []
  a_Desk_member_at : Addr
  fd_Desk_member_at : FuncData
  F_Desk_member_at : Fun K "member_at" "Desk.member_at" S_Desk_member_at a_Desk_member_at fd_Desk_member_at
  b_Desk_member_at : Binds K fd_Desk_member_at ["self", "k"] []
  a_Desk_number_at : Addr
  fd_Desk_number_at : FuncData
  F_Desk_number_at : Fun K "number_at" "Desk.number_at" S_Desk_number_at a_Desk_number_at fd_Desk_number_at
  b_Desk_number_at : Binds K fd_Desk_number_at ["self", "word"] []
  a_Desk_sent : Addr
  fd_Desk_sent : FuncData
  F_Desk_sent : Fun K "sent" "Desk.sent" S_Desk_sent a_Desk_sent fd_Desk_sent
  b_Desk_sent : Binds K fd_Desk_sent ["self", "came"] []
  a_Desk_mend : Addr
  fd_Desk_mend : FuncData
  F_Desk_mend : Fun K "mend" "Desk.mend" S_Desk_mend a_Desk_mend fd_Desk_mend
  b_Desk_mend : Binds K fd_Desk_mend ["self", "part"] []
  a_Desk_near : Addr
  fd_Desk_near : FuncData
  F_Desk_near : Fun K "near" "Desk.near" S_Desk_near a_Desk_near fd_Desk_near
  b_Desk_near : Binds K fd_Desk_near ["self", "one", "other"] []
  a_Desk_ring : Addr
  fd_Desk_ring : FuncData
  F_Desk_ring : Fun K "ring" "Desk.ring" S_Desk_ring a_Desk_ring fd_Desk_ring
  b_Desk_ring : Binds K fd_Desk_ring ["self", "part"] []
  a_Desk_say : Addr
  fd_Desk_say : FuncData
  F_Desk_say : Fun K "say" "Desk.say" S_Desk_say a_Desk_say fd_Desk_say
  b_Desk_say : Binds K fd_Desk_say ["self", "row"] []
  a_L_at : Addr
  fd_L_at : FuncData
  g_L_at : mg "_law_at" = some (.ref a_L_at)
  F_L_at : Fun K "_law_at" "_law_at" S_L_at a_L_at fd_L_at
  b_L_at : Binds K fd_L_at ["_law_script", "_law_k"] []
  a_L_pot : Addr
  fd_L_pot : FuncData
  g_L_pot : mg "_law_pot" = some (.ref a_L_pot)
  F_L_pot : Fun K "_law_pot" "_law_pot" S_L_pot a_L_pot fd_L_pot
  b_L_pot : Binds K fd_L_pot ["_law_script", "_law_k"] []
  a_L_digit : Addr
  fd_L_digit : FuncData
  g_L_digit : mg "_law_digit" = some (.ref a_L_digit)
  F_L_digit : Fun K "_law_digit" "_law_digit" S_L_digit a_L_digit fd_L_digit
  b_L_digit : Binds K fd_L_digit ["_law_pot_here", "_law_base"] []
  a_L_kept : Addr
  fd_L_kept : FuncData
  g_L_kept : mg "_law_kept" = some (.ref a_L_kept)
  F_L_kept : Fun K "_law_kept" "_law_kept" S_L_kept a_L_kept fd_L_kept
  b_L_kept : Binds K fd_L_kept ["_law_pot_here", "_law_desk"] []
  a_L_dashed : Addr
  fd_L_dashed : FuncData
  g_L_dashed : mg "_law_dashed" = some (.ref a_L_dashed)
  F_L_dashed : Fun K "_law_dashed" "_law_dashed" S_L_dashed a_L_dashed fd_L_dashed
  b_L_dashed : Binds K fd_L_dashed ["_law_text"] []
  a_L_mends : Addr
  fd_L_mends : FuncData
  g_L_mends : mg "_law_mends" = some (.ref a_L_mends)
  F_L_mends : Fun K "_law_mends" "_law_mends" S_L_mends a_L_mends fd_L_mends
  b_L_mends : Binds K fd_L_mends ["_law_desk", "_law_text", "_law_came", "_law_far", "_law_row"] []
  a_law : Addr
  fd_law : FuncData
  g_law : mg "law" = some (.ref a_law)
  F_law : Fun K "law" "law" S_law a_law fd_law
  b_law : Binds K fd_law ["_law_script"] []
  ac_ManyList : Addr
  gx_ManyList : mg "ManyList" = some (.ref ac_ManyList)
  nx_ManyList : PySem.W.nsIn K mainGlobals "ManyList" = some (some (.ref ac_ManyList))
  cl_ManyList : Cls K ac_ManyList
  mk_ManyList : Mk K ac_ManyList a_ManyList_init
  na_ManyList_many_signs : NoAttr K ac_ManyList "many_signs"
  na_ManyList_many : NoAttr K ac_ManyList "many"
  na_ManyList_both_left : NoAttr K ac_ManyList "both_left"
  m_ManyList_signs : Meth K ac_ManyList "signs" a_ManyList_signs
  m_ManyList_length : Meth K ac_ManyList "length" a_ManyList_length
  m_ManyList_rests : Meth K ac_ManyList "rests" a_ManyList_rests
  m_ManyList_has : Meth K ac_ManyList "has" a_ManyList_has
  ac_Walk : Addr
  gx_Walk : mg "Walk" = some (.ref ac_Walk)
  nx_Walk : PySem.W.nsIn K mainGlobals "Walk" = some (some (.ref ac_Walk))
  cl_Walk : Cls K ac_Walk
  mk_Walk : Mk K ac_Walk a_Walk_init
  na_Walk_q : NoAttr K ac_Walk "q"
  na_Walk_n : NoAttr K ac_Walk "n"
  na_Walk_tables : NoAttr K ac_Walk "tables"
  na_Walk_place : NoAttr K ac_Walk "place"
  na_Walk_ahead : NoAttr K ac_Walk "ahead"
  na_Walk_shape_left : NoAttr K ac_Walk "shape_left"
  na_Walk_sum_left : NoAttr K ac_Walk "sum_left"
  m_Walk_left_by : Meth K ac_Walk "left_by" a_Walk_left_by
  m_Walk_ways : Meth K ac_Walk "ways" a_Walk_ways
  m_Walk_ways_below : Meth K ac_Walk "ways_below" a_Walk_ways_below
  m_Walk_go : Meth K ac_Walk "go" a_Walk_go
  ac_PlainList : Addr
  gx_PlainList : mg "PlainList" = some (.ref ac_PlainList)
  nx_PlainList : PySem.W.nsIn K mainGlobals "PlainList" = some (some (.ref ac_PlainList))
  cl_PlainList : Cls K ac_PlainList
  mk_PlainList : Mk K ac_PlainList a_PlainList_init
  na_PlainList_many : NoAttr K ac_PlainList "many"
  na_PlainList_left : NoAttr K ac_PlainList "left"
  m_PlainList_length : Meth K ac_PlainList "length" a_PlainList_length
  m_PlainList_rest : Meth K ac_PlainList "rest" a_PlainList_rest
  m_PlainList_has : Meth K ac_PlainList "has" a_PlainList_has
  ac_StrongList : Addr
  gx_StrongList : mg "StrongList" = some (.ref ac_StrongList)
  nx_StrongList : PySem.W.nsIn K mainGlobals "StrongList" = some (some (.ref ac_StrongList))
  cl_StrongList : Cls K ac_StrongList
  mk_StrongList : Mk K ac_StrongList a_StrongList_init
  na_StrongList_many : NoAttr K ac_StrongList "many"
  na_StrongList_left : NoAttr K ac_StrongList "left"
  m_StrongList_length : Meth K ac_StrongList "length" a_StrongList_length
  m_StrongList_rest : Meth K ac_StrongList "rest" a_StrongList_rest
  m_StrongList_has : Meth K ac_StrongList "has" a_StrongList_has
  ac_Desk : Addr
  gx_Desk : mg "Desk" = some (.ref ac_Desk)
  nx_Desk : PySem.W.nsIn K mainGlobals "Desk" = some (some (.ref ac_Desk))
  cl_Desk : Cls K ac_Desk
  mk_Desk : Mk K ac_Desk a_Desk_init
  na_Desk_kept : NoAttr K ac_Desk "kept"
  m_Desk_signs : Meth K ac_Desk "signs" a_Desk_signs
  m_Desk_keep : Meth K ac_Desk "keep" a_Desk_keep
  m_Desk_many_members : Meth K ac_Desk "many_members" a_Desk_many_members
  m_Desk_member_at : Meth K ac_Desk "member_at" a_Desk_member_at
  m_Desk_number_at : Meth K ac_Desk "number_at" a_Desk_number_at
  m_Desk_sent : Meth K ac_Desk "sent" a_Desk_sent
  m_Desk_mend : Meth K ac_Desk "mend" a_Desk_mend
  m_Desk_near : Meth K ac_Desk "near" a_Desk_near
  m_Desk_ring : Meth K ac_Desk "ring" a_Desk_ring
  m_Desk_say : Meth K ac_Desk "say" a_Desk_say
  is_ManyList : IsC K ac_ManyList
  ow_ManyList_ManyList : PySem.W.kitOne K (.ref ac_ManyList) (.ref ac_ManyList) = some true
  ow_ManyList_PlainList : PySem.W.kitOne K (.ref ac_ManyList) (.ref ac_PlainList) = some false
  ow_ManyList_StrongList : PySem.W.kitOne K (.ref ac_ManyList) (.ref ac_StrongList) = some false
  is_PlainList : IsC K ac_PlainList
  ow_PlainList_ManyList : PySem.W.kitOne K (.ref ac_PlainList) (.ref ac_ManyList) = some false
  ow_PlainList_PlainList : PySem.W.kitOne K (.ref ac_PlainList) (.ref ac_PlainList) = some true
  ow_PlainList_StrongList : PySem.W.kitOne K (.ref ac_PlainList) (.ref ac_StrongList) = some false
  is_StrongList : IsC K ac_StrongList
  ow_StrongList_ManyList : PySem.W.kitOne K (.ref ac_StrongList) (.ref ac_ManyList) = some false
  ow_StrongList_PlainList : PySem.W.kitOne K (.ref ac_StrongList) (.ref ac_PlainList) = some false
  ow_StrongList_StrongList : PySem.W.kitOne K (.ref ac_StrongList) (.ref ac_StrongList) = some true
  z_abs : mg "abs" = none
  z_all : mg "all" = none
  z_bool : mg "bool" = none
  z_enumerate : mg "enumerate" = none
  z_int : mg "int" = none
  z_isinstance : mg "isinstance" = none
  z_len : mg "len" = none
  z_max : mg "max" = none
  z_range : mg "range" = none
  z_reversed : mg "reversed" = none
  z_set : mg "set" = none
  z_sorted : mg "sorted" = none
  z_str : mg "str" = none
  z_sum : mg "sum" = none
  z_tuple : mg "tuple" = none
  z_zip : mg "zip" = none
  t_EMPTY : Tok
  c_EMPTY : mg "EMPTY" = some (.str (PySem.Str.ofString "-") t_EMPTY)
  t_FIGURES : Tok
  c_FIGURES : mg "FIGURES" = some (.str (PySem.Str.ofString "0123456789") t_FIGURES)
  t_LEAST_MANY : Tok
  c_LEAST_MANY : mg "LEAST_MANY" = some (.int 2 t_LEAST_MANY)
  t_LEAST_SIGNS : Tok
  c_LEAST_SIGNS : mg "LEAST_SIGNS" = some (.int 2 t_LEAST_SIGNS)
  t_MOST_FIGURES : Tok
  c_MOST_FIGURES : mg "MOST_FIGURES" = some (.int 60 t_MOST_FIGURES)
  t_MOST_LENGTH : Tok
  c_MOST_LENGTH : mg "MOST_LENGTH" = some (.int 60 t_MOST_LENGTH)
  t_MOST_MANY : Tok
  c_MOST_MANY : mg "MOST_MANY" = some (.int 24 t_MOST_MANY)
  t_MOST_MANY_SIGNS : Tok
  c_MOST_MANY_SIGNS : mg "MOST_MANY_SIGNS" = some (.int 10 t_MOST_MANY_SIGNS)
  t_MOST_SIGNS : Tok
  c_MOST_SIGNS : mg "MOST_SIGNS" = some (.int 36 t_MOST_SIGNS)
  t_MOST_STRONG : Tok
  c_MOST_STRONG : mg "MOST_STRONG" = some (.int 59 t_MOST_STRONG)
  t_ROWS : Addr
  c_ROWS : mg "ROWS" = some (.ref t_ROWS)
  d_ROWS : KT K w t_ROWS tab_ROWS
  t_SIGNS : Tok
  c_SIGNS : mg "SIGNS" = some (.str (PySem.Str.ofString "0123456789abcdefghijklmnopqrstuvwxyz") t_SIGNS)
/-! own steps under names of «walk_at»: sq finds what stands in a later heap; sx goes on in a reading as far as it goes by itself -/
local macro_rules | `(tactic| walk_at "ar") => `(tactic| first | omega | decide | (simp only [List.length_cons, List.length_nil, List.length_map, List.length_append, List.length_singleton]; omega))
local macro_rules | `(tactic| walk_at "sq") => `(tactic| first
  | assumption
  | exact SqL.of (by assumption)
  | exact SqT.of (by assumption)
  | ((with_reducible refine' Evl.ex_t (by assumption) ?k); (case k => walk_at "sq"))
  | ((with_reducible refine' Evl.ex_l (by assumption) ?k); (case k => walk_at "sq"))
  | ((with_reducible refine' exH (by assumption) ?k); (case k => walk_at "sq"))
  | ((with_reducible refine' exB_t (by assumption) ?a ?b); (case a => walk_at "sq"); (case b => walk_at "sq"))
  | ((with_reducible refine' exBH (by assumption) ?a ?b); (case a => assumption); (case b => walk_at "sq"))
  | ((with_reducible refine' exB_l (by assumption) ?a ?b); (case a => assumption); (case b => walk_at "sq")))
local macro_rules | `(tactic| walk_at "sx1") => `(tactic| first
  | ((with_reducible refine' w_var ?h ?_); (case h => with_unfolding_all rfl))
  | with_reducible refine' w_c ?_
  | with_reducible refine' w_op ?_
  | with_reducible refine' w_cb ?_
  | with_reducible refine' w_cons ?_
  | with_reducible refine' w_nil ?_
  | with_reducible refine' w_call ?_
  | with_reducible refine' w_test ?_
  | with_reducible refine' w_tB ?_
  | with_reducible refine' w_bl ?_
  | with_reducible refine' w_int ?_
  | with_reducible refine' q_asg ?_
  | with_reducible refine' z_asg ?_
  | with_reducible refine' q_asgT ?_
  | with_reducible refine' z_asgT ?_
  | with_reducible refine' l_un ?_
  | ((with_reducible refine' g_tup ?h ?hn ?_); (case h => walk_at "sq"); (case hn => rfl))
  | with_reducible refine' q_drop ?_
  | with_reducible refine' z_drop ?_
  | with_reducible refine' q_if ?_
  | with_reducible refine' z_if ?_
  | with_reducible refine' z_ret ?_
  | with_reducible refine' z_retN ?_
  | with_reducible refine' z_next ?_
  | with_reducible refine' q_par ?_
  | with_reducible refine' w_two ?_
  | with_reducible refine' w_tupRev ?_
  | with_reducible refine' w_sortSet ?_
  | with_reducible refine' l_notB ?_
  | with_reducible refine' l_isB ?_
  | with_reducible refine' q_set ?_
  | with_reducible refine' z_set ?_
  | with_reducible refine' q_for ?_
  | with_reducible refine' z_for ?_
  | ((with_reducible refine' q_aug ?h ?_); (case h => with_unfolding_all rfl))
  | ((with_reducible refine' z_aug ?h ?_); (case h => with_unfolding_all rfl))
  | with_reducible refine' l_ip ?_
  | with_reducible refine' w_un ?_
  | with_reducible refine' w_chain ?_
  | with_reducible refine' w_tup ?_
  | with_reducible refine' w_lst ?_
  | with_reducible refine' w_and ?_
  | with_reducible refine' w_or ?_
  | with_reducible refine' w_not ?_
  | with_reducible refine' w_andV ?_
  | with_reducible refine' w_orV ?_
  | with_reducible refine' w_notV ?_
  | with_reducible refine' w_if ?_
  | with_reducible refine' w_no ?_
  | with_reducible refine' w_part ?_
  | with_reducible refine' w_sl ?_
  | with_reducible refine' w_yes ?_
  | with_reducible refine' w_lc ?_
  | with_reducible refine' w_bm ?_
  | with_reducible refine' w_bm0 ?_
  | with_reducible refine' i_seq ?_
  | with_reducible refine' i_rng1 ?_
  | with_reducible refine' i_rng2 ?_
  | with_reducible refine' i_enumP ?_
  | with_reducible refine' q_augS ?_
  | with_reducible refine' z_augS ?_
  | with_reducible refine' i_rng3 ?_
  | with_reducible refine' i_zip ?_
  | with_reducible refine' w_fld ?_
  | with_reducible refine' q_fld ?_
  | with_reducible refine' z_fld ?_
  | with_reducible refine' w_meth ?_
  | with_reducible refine' w_make ?_
  | with_reducible refine' g_name ?_
  | with_reducible refine' g_fld ?_
  | with_reducible refine' g_cons ?_
  | with_reducible refine' g_nil ?_
  | with_reducible refine' iteT ?_
  | with_reducible refine' iteF ?_
  | with_reducible refine' iteNT ?_
  | with_reducible refine' iteNF ?_
  | with_reducible refine' l_add ?_
  | with_reducible refine' l_sub ?_
  | ((with_reducible refine' l_mod ?h ?_); (case h => walk_at "ar"))
  | ((with_reducible refine' l_div ?h ?_); (case h => walk_at "ar"))
  | ((with_reducible refine' l_mul ?h ?_); (case h => walk_at "ar"))
  | ((with_reducible refine' l_pow ?h ?_); (case h => decide))
  | with_reducible refine' l_lt ?_
  | with_reducible refine' l_leQ ?_
  | with_reducible refine' l_gt ?_
  | with_reducible refine' l_ge ?_
  | with_reducible refine' l_eqI ?_
  | with_reducible refine' l_neI ?_
  | with_reducible refine' l_abs ?_
  | with_reducible refine' l_intB ?_
  | with_reducible refine' l_max2 ?_
  | with_reducible refine' l_min2 ?_
  | ((with_reducible refine' l_lenT ?h ?_); (case h => walk_at "sq"))
  | ((with_reducible refine' l_lenL ?h ?_); (case h => walk_at "sq"))
  | ((with_reducible refine' l_lenQ (l_lenT ?h ?_)); (case h => walk_at "sq"))
  | ((with_reducible refine' l_lenQ (l_lenL ?h ?_)); (case h => walk_at "sq"))
  | ((with_reducible refine' l_seqT ?h ?_); (case h => walk_at "sq"))
  | ((with_reducible refine' l_seqL ?h ?_); (case h => walk_at "sq"))
  | ((with_reducible refine' l_rng1 ?h ?_); (case h => walk_at "ar"))
  | ((with_reducible refine' l_rng2 ?h ?_); (case h => walk_at "ar"))
  | ((with_reducible refine' l_rngD ?h ?_); (case h => walk_at "ar"))
  | ((with_reducible refine' l_zipL ?h ?h2 ?_); (case h => walk_at "sq"); (case h2 => walk_at "sq"))
  | ((with_reducible refine' l_zipT ?h ?h2 ?_); (case h => walk_at "sq"); (case h2 => walk_at "sq"))
  | ((with_reducible refine' l_enumT ?h ?_); (case h => walk_at "sq"))
  | ((with_reducible refine' l_enumL ?h ?_); (case h => walk_at "sq"))
  | ((with_reducible refine' l_tyL ?h ?_); (case h => walk_at "sq"))
  | dsimp only [List.set_cons_zero, List.set_cons_succ, isNum, Bool.not_true, Bool.not_false])
local macro_rules | `(tactic| walk_at "sx") => `(tactic| repeat (walk_at "sx1"))
local macro_rules | `(tactic| walk_at "sx1") => `(tactic| with_reducible refine' w_sortSetB ?_)
local macro_rules | `(tactic| walk_at "sx1") => `(tactic| first
  | with_reducible refine' w_tupN ?_
  | with_reducible refine' w_odds ?_
  | with_reducible refine' w_tm ?_
  | with_reducible refine' w_listRg ?_
  | with_reducible refine' w_rg1 ?_
  | with_reducible refine' l_addN ?_
  | ((with_reducible refine' l_mulN ?h ?_); (case h => walk_at "ar"))
  | with_reducible refine' l_ltQ ?_
  | with_reducible refine' i_revA ?_
  | with_reducible refine' i_revR1 ?_)
local macro_rules | `(tactic| walk_at "sq") => `(tactic| exact Nt.sq (by assumption))
local macro_rules | `(tactic| walk_at "sx1") => `(tactic| first
  | with_reducible refine' i_zipS ?_
  | with_reducible refine' w_fmt ?_
  | with_reducible refine' w_jn ?_
  | with_reducible refine' w_js ?_
  | with_reducible refine' w_js0 ?_
  | with_reducible refine' l_inKT ?_)
local macro_rules | `(tactic| walk_at "sx1") => `(tactic| first
  | with_reducible refine' w_m1 ?_
  | with_reducible refine' w_m0 ?_
  | with_reducible refine' l_tyS ?_
  | with_reducible refine' i_str ?_
  | with_reducible refine' l_its ?_
  | with_reducible refine' l_inS ?_)
section
variable {P : Program} {w : World} {K : PySem.W.Frag} {mg : Str → Option Value} {base : Heap}
theorem ok_is_number (T : Txt K mg w) : FnOk P w K mg base CX0 1 T.a_is_number T.fd_is_number ["thing"] (sp_is_number K) := by
  refine T.F_is_number.ok sc_is_number (fun vs H Q E h => match vs, h with | [_], _ => rfl) (fun cdv A outer s H vs Q E hr h => ?_)
  refine ⟨_, ((pss_one (ps_ret (pe_and (pe_callB (call_isiK' (K := K) rfl) (by rfl) T.z_isinstance (by decide +kernel) (pa_cons (pv 0) (pa_cons (pe_bltn (v := .ty "int") (by rfl) T.z_int (by decide +kernel) rfl) pa_nil))) (pe_one (pe_not (pe_callB (call_isiK' (K := K) rfl) (by rfl) T.z_isinstance (by decide +kernel) (pa_cons (pv 0) (pa_cons (pe_bltn (v := .ty "bool") (by rfl) T.z_bool (by decide +kernel) rfl) pa_nil))))))))), ?_⟩
  match vs, h with
  | [x0], h =>
  replace h : s_is_number K x0 H Q E := h
  try dsimp only [cxOf, Cx.nox, Cx.wish]
  show (_ : TS) { nx := fun _ H' => Q .non H', rt := Q } [some x0] H
  obtain ⟨T, hk, k⟩ := h
  cases hk with
  | int i => walk_at "sx"; refine l_isi (.int i) (b := true) (by decide +kernel) ?_; walk_at "sx"; refine l_isi (.int i) (b := false) (by decide +kernel) ?_; walk_at "sx"; exact k
  | bl i => walk_at "sx"; refine l_isi (.bl i) (b := true) (by decide +kernel) ?_; walk_at "sx"; refine l_isi (.bl i) (b := true) (by decide +kernel) ?_; walk_at "sx"; exact k
  | non => walk_at "sx"; refine l_isi .non (b := false) (by decide +kernel) ?_; walk_at "sx"; exact k
  | str i => walk_at "sx"; refine l_isi (.str i) (b := false) (by decide +kernel) ?_; walk_at "sx"; exact k
  | tup h => walk_at "sx"; refine l_isi (.tup h) (b := false) (by decide +kernel) ?_; walk_at "sx"; exact k
  | lst h => walk_at "sx"; refine l_isi (.lst h) (b := false) (by decide +kernel) ?_; walk_at "sx"; exact k
  | dct h => walk_at "sx"; refine l_isi (.dct h) (b := false) (by decide +kernel) ?_; walk_at "sx"; exact k
end
section
variable {P : Program} {w : World} {K : PySem.W.Frag} {mg : Str → Option Value} {base : Heap}
theorem ok_want_count (T : Txt K mg w) (o_is_number : FnOk P w K mg base CX0 1 T.a_is_number T.fd_is_number ["thing"] (sp_is_number K)) : FnOk P w K mg base CX0 2 T.a_want_count T.fd_want_count ["q"] (sp_want_count K) := by
  refine T.F_want_count.ok sc_want_count (fun vs H Q E h => match vs, h with | [_], _ => rfl) (fun cdv A outer s H vs Q E hr h => ?_)
  refine ⟨_, ((pss_one (ps_if (PW.pt (pw_or (pt_not (pt_val (pe_call o_is_number hr rfl T.g_is_number T.F_is_number.kp T.b_is_number .nil pass0 (pa_cons (pv 0) pa_nil)))) (pw_or1 (pt_not (pt_chain (op_leQ (K := K) hr.units rfl) (op_leQ (K := K) hr.units rfl) (pe_glob (v := .int 2) rfl T.c_LEAST_SIGNS ⟨_, rfl⟩) (pv 0) (pe_glob (v := .int 36) rfl T.c_MOST_SIGNS ⟨_, rfl⟩)))))) (pss_one ps_never) pss_nil))), ?_⟩
  match vs, h with
  | [x0], h =>
  replace h : s_want_count K x0 H Q E := h
  try dsimp only [cxOf, Cx.nox, Cx.wish]
  show (_ : TS) { nx := fun _ H' => Q .non H', rt := Q } [some x0] H
  obtain ⟨q, rfl, hq, k⟩ := h
  walk_at "sx"
  refine ⟨"int", .int q, ?_⟩
  walk_at "sx"
  refine ifd (fun c => ?_) (fun c => absurd hq.1 c)
  walk_at "sx"
  refine ifdn (fun c => absurd hq.2 c) (fun c => ?_)
  walk_at "sx"
  exact k
end
section
variable {P : Program} {w : World} {K : PySem.W.Frag} {mg : Str → Option Value} {base : Heap}
theorem ok_is_sign (T : Txt K mg w) (o_is_number : FnOk P w K mg base CX0 1 T.a_is_number T.fd_is_number ["thing"] (sp_is_number K)) : FnOk P w K mg base CX0 2 T.a_is_sign T.fd_is_sign ["q", "thing"] (sp_is_sign K) := by
  refine T.F_is_sign.ok sc_is_sign (fun vs H Q E h => match vs, h with | [_, _], _ => rfl) (fun cdv A outer s H vs Q E hr h => ?_)
  refine ⟨_, ((pss_one (ps_ret (pe_and (pe_call o_is_number hr rfl T.g_is_number T.F_is_number.kp T.b_is_number .nil pass0 (pa_cons (pv 1) pa_nil)) (pe_one (pe_chain (op_leQ (K := K) hr.units rfl) op_ltP pe_int (pv 1) (pv 0))))))), ?_⟩
  match vs, h with
  | [x0, x1], h =>
  replace h : s_is_sign K x0 x1 H Q E := h
  try dsimp only [cxOf, Cx.nox, Cx.wish]
  show (_ : TS) { nx := fun _ H' => Q .non H', rt := Q } [some x0, some x1] H
  obtain ⟨q, T', rfl, hk, k⟩ := h
  walk_at "sx"
  refine ⟨T', hk, ?_⟩
  cases x1 with
  | int i =>
    walk_at "sx"
    refine ifd (fun c => ?_) (fun c => ?_)
    · walk_at "sx"
      have e : signOk q (.int i) = decide (i < q) := by show (decide (0 ≤ i) && decide (i < q)) = _; rw [decide_eq_true c]; rfl
      rw [e] at k
      exact k
    · have e : signOk q (.int i) = false := by show (decide (0 ≤ i) && decide (i < q)) = _; rw [decide_eq_false c]; rfl
      rw [e] at k
      exact k
  | non => walk_at "sx"; exact k
  | bl b => walk_at "sx"; exact k
  | str b => walk_at "sx"; exact k
  | byt b => walk_at "sx"; exact k
  | flt b => walk_at "sx"; exact k
  | ref b => walk_at "sx"; exact k
  | ty b => walk_at "sx"; exact k
end
section
variable {P : Program} {w : World} {K : PySem.W.Frag} {mg : Str → Option Value} {base : Heap}
theorem ok_want_word (T : Txt K mg w) (o_is_sign : FnOk P w K mg base CX0 2 T.a_is_sign T.fd_is_sign ["q", "thing"] (sp_is_sign K)) (o_want_count : FnOk P w K mg base CX0 2 T.a_want_count T.fd_want_count ["q"] (sp_want_count K)) : FnOk P w K mg base CX0 3 T.a_want_word T.fd_want_word ["q", "word"] (sp_want_word K) := by
  refine T.F_want_word.ok sc_want_word (fun vs H Q E h => match vs, h with | [_, _], _ => rfl) (fun cdv A outer s H vs Q E hr h => ?_)
  refine ⟨_, ((pss_cons (ps_expr (pe_call o_want_count hr rfl T.g_want_count T.F_want_count.kp T.b_want_count .nil pass0 (pa_cons (pv 0) pa_nil)))
    (pss_one (ps_if (PW.pt (pw_or (pt_not (pt_val (pe_callB (call_isiK' (K := K) rfl) (by rfl) T.z_isinstance (by decide +kernel) (pa_cons (pv 1) (pa_cons (pe_bltn (v := .ty "tuple") (by rfl) T.z_tuple (by decide +kernel) rfl) pa_nil))))) (pw_or (pt_cmpR op_gtP (pe_callB (call_lenK (K := K) rfl) (by rfl) T.z_len (by decide +kernel) (pa_cons (pv 1) pa_nil)) (pe_glob (v := .int 60) rfl T.c_MOST_LENGTH ⟨_, rfl⟩) (nomark _)) (pw_or1 (pt_not (pt_val (pe_callB (cr_allK (K := K) rfl rfl) (by rfl) T.z_all (by decide +kernel) (pa_cons (pe_lc (own := [("sign", 2)]) (g := (gName 2)) (tt := tYes) rfl sc_want_word.nd (pi_seqK (K := K) rfl (pv 1)) (blkOk_by (own := [("sign", 2)]) (N := ["q", "word", "sign"]) (sc := defScope S_want_word) (by decide +kernel)) (fun _ _ _ _ _ => (pg_name (i := 2) sc_want_word.nd rfl (by first | exact Or.inl rfl | exact Or.inr rfl))) (fun _ _ _ _ _ => pts_nil) (fun _ _ _ _ _ => (pe_call o_is_sign hr rfl T.g_is_sign T.F_is_sign.kp T.b_is_sign .nil pass0 (pa_cons (pv 0) (pa_cons (pv 2) pa_nil))))) pa_nil)))))))) (pss_one ps_never) pss_nil)))), ?_⟩
  match vs, h with
  | [x0, x1], h =>
  replace h : s_want_word K x0 x1 H Q E := h
  try dsimp only [cxOf, Cx.nox, Cx.wish]
  show (_ : TS) { nx := fun _ H' => Q .non H', rt := Q } [some x0, some x1, none] H
  obtain ⟨q, ns, rfl, hq, ⟨a, rfl, hs, hl, hg⟩, k⟩ := h
  walk_at "sx"
  refine ⟨q, rfl, hq, ?_⟩
  walk_at "sx"
  refine l_isi (.tup hs) (b := true) (by decide +kernel) ?_
  walk_at "sx"
  refine ifd (fun c => ?_) (fun c => ?_)
  · rw [List.length_map] at c; omega
  walk_at "sx"
  refine l_lcT (fun x => .bl (signOk q x)) hs (by simp; omega) (fun _ => rfl) (fun x H1 hx e Q' k' => ?_) (fun D H1 hn e h1 => ?_)
  · obtain ⟨i, hi, rfl⟩ := List.mem_map.mp hx
    walk_at "sx"
    exact ⟨q, "int", rfl, .int i, k' _ (Evl.Ex.refl _)⟩
  · walk_at "sx"
    refine l_all (bs := ns.map fun i => signOk q (.int i)) (SqL.of (by rw [h1]; simp [List.map_map, Function.comp_def])) ?_
    walk_at "sx"
    have ea : (ns.map fun i => signOk q (.int i)).all id = true := by
      rw [List.all_eq_true]
      intro b hb
      obtain ⟨i, hi, rfl⟩ := List.mem_map.mp hb
      have := hg i hi
      simp [signOk, this.1, this.2]
    rw [ea]
    walk_at "sx"
    exact k _ e
end
section
variable {P : Program} {w : World} {K : PySem.W.Frag} {mg : Str → Option Value} {base : Heap}
/-- the row as it grows from its end -/
def rrow (u vs : List Int) (t : Nat) : List V := (List.range (t + 1)).map fun j => V.int ((lcsN u (vs.drop (vs.length - j)) : Nat) : Int)
theorem rrow_succ (u vs : List Int) (t : Nat) : rrow u vs (t + 1) = rrow u vs t ++ [V.int ((lcsN u (vs.drop (vs.length - (t + 1))) : Nat) : Int)] := by
  unfold rrow
  rw [List.range_succ (n := t + 1), List.map_append]
  rfl
theorem rrow_last (u vs : List Int) (t : Nat) : atI (rrow u vs t) (-1) = some (.int ((lcsN u (vs.drop (vs.length - t)) : Nat) : Int)) := by
  cases t with
  | zero => rfl
  | succ t => rw [rrow_succ]; exact atI_last _ _
theorem rrow_rev (u vs : List Int) : (rrow u vs vs.length).reverse = lrow u vs := by
  refine List.ext_getElem (by simp [rrow, lrow]) fun i h1 h2 => ?_
  simp only [rrow, lrow, List.getElem_reverse, List.getElem_map, List.getElem_range, List.length_map, List.length_range]
  have : i ≤ vs.length := by simp [lrow] at h2; omega
  rw [show vs.length - (vs.length + 1 - 1 - i) = i by omega]
theorem maxI (x y : Nat) : (if ((y : Nat) : Int) > ((x : Nat) : Int) then ((y : Nat) : Int) else ((x : Nat) : Int)) = ((max x y : Nat) : Int) := by split <;> omega
theorem ok_lengths_from (T : Txt K mg w) : FnOk P w K mg base CX0 1 T.a_lengths_from T.fd_lengths_from ["one", "other"] (sp_lengths_from K) := by
  refine T.F_lengths_from.ok sc_lengths_from (fun vs H Q E h => match vs, h with | [_, _], _ => rfl) (fun cdv A outer s H vs Q E hr h => ?_)
  refine ⟨_, ((pss_cons (ps_set (i := 2) sc_lengths_from.nd rfl (by first | exact Or.inl rfl | exact Or.inr rfl) (pe_lst (pa_cons (pe_op (op_mulK (K := K) rfl) (pe_lst (pa_cons pe_int pa_nil)) (pe_op (op_addK (K := K) rfl) (pe_callB (call_lenK (K := K) rfl) (by rfl) T.z_len (by decide +kernel) (pa_cons (pv 1) pa_nil)) pe_int)) pa_nil)))
    (pss_cons (ps_for PassesOwn.never rfl (pi_revAK (K := K) rfl (RT.pi_revA (by rfl) T.z_reversed (pv 0))) (pg_name (i := 3) sc_lengths_from.nd rfl (by first | exact Or.inl rfl | exact Or.inr rfl)) (pss_cons (ps_set (i := 4) sc_lengths_from.nd rfl (by first | exact Or.inl rfl | exact Or.inr rfl) (pe_ix (ix_K (K := K) rfl) (pv 2) (pe_un un_neg pe_int) (fun _ _ => rfl)))
    (pss_cons (ps_set (i := 5) sc_lengths_from.nd rfl (by first | exact Or.inl rfl | exact Or.inr rfl) (pe_lst (pa_cons pe_int pa_nil)))
    (pss_cons (ps_for PassesOwn.never rfl (pi_revR (by rfl) T.z_reversed (prg_1 (by rfl) T.z_range (pe_callB (call_lenK (K := K) rfl) (by rfl) T.z_len (by decide +kernel) (pa_cons (pv 1) pa_nil)))) (pg_name (i := 6) sc_lengths_from.nd rfl (by first | exact Or.inl rfl | exact Or.inr rfl)) (pss_one (ps_if (pt_cmpR (op_eqK (K := K) hr.units rfl) (pe_ix (ix_K (K := K) rfl) (pv 1) (pv 6) (fun _ _ => rfl)) (pv 3) (nomark _)) (pss_one (ps_expr (pe_bmK (K := K) rfl (pe_bm PySem.F.plainAttrs_list PySem.F.slot_list_append PySem.F.type_list_append mt_append (pv 5) (pa_cons (pe_op (op_addK (K := K) rfl) pe_int (pe_ix (ix_K (K := K) rfl) (pv 4) (pe_op (op_addK (K := K) rfl) (pv 6) pe_int) (fun _ _ => rfl))) pa_nil))))) (pss_one (ps_expr (pe_bmK (K := K) rfl (pe_bm PySem.F.plainAttrs_list PySem.F.slot_list_append PySem.F.type_list_append mt_append (pv 5) (pa_cons (pe_callB (call_max2P rfl) (by rfl) T.z_max (by decide +kernel) (pa_cons (pe_ix (ix_K (K := K) rfl) (pv 5) (pe_un un_neg pe_int) (fun _ _ => rfl)) (pa_cons (pe_ix (ix_K (K := K) rfl) (pv 4) (pv 6) (fun _ _ => rfl)) pa_nil))) pa_nil))))))))
    (pss_cons (ps_expr (pe_bm0K (K := K) rfl (pe_bm0 PySem.F.plainAttrs_list PySem.F.slot_list_reverse PySem.F.type_list_reverse mt_reverse (pv 5))))
    (pss_one (ps_expr (pe_bmK (K := K) rfl (pe_bm PySem.F.plainAttrs_list PySem.F.slot_list_append PySem.F.type_list_append mt_append (pv 2) (pa_cons (pv 5) pa_nil))))))))))
    (pss_cons (ps_expr (pe_bm0K (K := K) rfl (pe_bm0 PySem.F.plainAttrs_list PySem.F.slot_list_reverse PySem.F.type_list_reverse mt_reverse (pv 2))))
    (pss_one (ps_ret (pv 2))))))), ?_⟩
  match vs, h with
  | [x0, x1], h =>
  replace h : s_lengths_from K x0 x1 H Q E := h
  try dsimp only [cxOf, Cx.nox, Cx.wish]
  show (_ : TS) { nx := fun _ H' => Q .non H', rt := Q } [some x0, some x1, none, none, none, none, none] H
  obtain ⟨a, b, us, vs, rfl, ha, rfl, hb, hu, hv, k⟩ := h
  walk_at "sx"
  refine w_newL (by simp) fun l1 H1 _ e1 h1 => ?_
  walk_at "sx"
  rw [List.length_map]
  refine l_mulL h1 (by omega) (by simp; omega) fun l2 H2 hn2 e2 h2 => ?_
  walk_at "sx"
  refine w_newL (by simp) fun f H3 hf e3 h3 => ?_
  have eA := e1.trans (e2.trans e3)
  have hf0 : H f = none := Evl.fresh_back (e1.trans e2) hf
  have n2f : l2 ≠ f := ne_of_none h2 hf
  walk_at "sx"
  refine l_revT (Evl.ex_t eA ha) ?_
  have hlu : (us.map V.int).length = us.length := List.length_map ..
  have hlv : (vs.map V.int).length = vs.length := List.length_map ..
  have row0 : H3 l2 = some (.lst (lrow (us.drop us.length) vs)) := by
    rw [e3 _ _ h2, List.flatten_replicate_singleton, show ((vs.length : Int) + 1).toNat = vs.length + 1 by omega]
    congr 2
    refine List.ext_getElem (by simp [lrow]) fun i h1 h2 => ?_
    simp [lrow, lcs_nil]
  refine l_for walk_revT (fun i σ Hx => ∃ xs v3 v4 v5 v6, σ = [some (.ref a), some (.ref b), some (.ref f), v3, v4, v5, v6] ∧ Ex H Hx ∧ Hx f = some (.lst xs) ∧ xs.length = i + 1 ∧ ∀ t, t ≤ i → ∃ c, xs[t]? = some (.ref c) ∧ c ≠ f ∧ Hx c = some (.lst (lrow (us.drop (us.length - t)) vs))) ⟨_, _, _, _, _, rfl, eA, h3, rfl, fun t ht => ⟨l2, by rw [show t = 0 by omega]; rfl, n2f, by rw [show t = 0 by omega]; exact row0⟩⟩ (fun i σ Hx _ ⟨_, _, _, _, _, _, e, _⟩ => Evl.ex_t e ha) ?_ ?_
  · rintro i x σ Hx H' hi ⟨xs, v3, v4, v5, v6, rfl, ex, hfx, hxl, hxs⟩ ⟨rfl, hx⟩
    rw [hlu] at hi hx
    obtain ⟨_, rfl⟩ := at_int hx
    obtain ⟨c, hc, ncf, hcr⟩ := hxs i (Nat.le_refl _)
    obtain ⟨ys, rfl⟩ : ∃ ys, xs = ys ++ [.ref c] := ⟨xs.take i, by rw [← take_at hc, ← hxl, List.take_length]⟩
    have hcons : us.drop (us.length - 1 - i) = us.getD (us.length - 1 - i) 0 :: us.drop (us.length - i) := by
      rw [drop_get (by omega), show us.length - 1 - i + 1 = us.length - i by omega]
    have hb' := Evl.ex_t ex hb
    walk_at "sx"
    refine l_ixL (SqL.of hfx) (atI_last _ _) ?_
    walk_at "sx"
    refine w_newL (by simp) fun r H5 hr5 e5 h5 => ?_
    have ncr : c ≠ r := ne_of_none hcr hr5
    have nfr : f ≠ r := ne_of_none hfx hr5
    walk_at "sx"
    rw [hlv]
    refine l_rgK (by omega) ?_
    rw [show ((vs.length : Int) - 0).toNat = vs.length by omega]
    generalize hs : us.getD (us.length - 1 - i) 0 = s at *
    refine l_forC (fun t σ Hy => ∃ v6, σ = [some (.ref a), some (.ref b), some (.ref f), some (.int s), some (.ref c), some (.ref r), v6] ∧ ExB r H5 Hy ∧ Hy r = some (.lst (rrow (us.drop (us.length - 1 - i)) vs t))) ⟨_, rfl, ExB.refl, by rw [h5]; congr 2; show _ = [V.int ((lcsN _ (vs.drop (vs.length - 0)) : Nat) : Int)]; rw [Nat.sub_zero, List.drop_length, lcs_nil2]; rfl⟩ ?_ ?_
    · rintro t σ Hy ht ⟨v6, rfl, ey, hr⟩
      have hb2 : SqT K Hy b (vs.map V.int) := exB_t ey h5 (Evl.ex_t e5 hb')
      have hc2 : Hy c = some (.lst (lrow (us.drop (us.length - i)) vs)) := ey _ _ ncr (e5 _ _ hcr)
      have ek : (0 + ((vs.length : Nat) : Int) - 1 + ((t : Nat) : Int) * -1) = ((vs.length - 1 - t : Nat) : Int) := by omega
      have hdv : vs.drop (vs.length - (t + 1)) = vs.getD (vs.length - 1 - t) 0 :: vs.drop (vs.length - t) := by
        rw [show vs.length - (t + 1) = vs.length - 1 - t by omega, drop_get (by omega), show vs.length - 1 - t + 1 = vs.length - t by omega]
      walk_at "sx"
      rw [ek]
      refine l_ixT hb2 (at_get (by omega)) ?_
      walk_at "sx"
      refine ifd (fun e => ?_) (fun e => ?_)
      · walk_at "sx"
        rw [show (((vs.length - 1 - t : Nat) : Int) + 1) = ((vs.length - t : Nat) : Int) by omega]
        refine l_ixL (SqL.of hc2) (lrow_at (by omega)) ?_
        walk_at "sx"
        refine l_app hr (by simp [rrow]; omega) fun H6 e6 h6 => ?_
        walk_at "sx"
        refine ⟨_, rfl, ey.trans e6, ?_⟩
        rw [h6, rrow_succ, hdv, hcons, lcs_eq, if_pos e]
        congr 4 <;> omega
      · walk_at "sx"
        refine l_ixL (SqL.of hr) (rrow_last _ _ _) ?_
        walk_at "sx"
        refine l_ixL (SqL.of hc2) (lrow_at (by omega)) ?_
        walk_at "sx"
        refine l_app hr (by simp [rrow]; omega) fun H6 e6 h6 => ?_
        walk_at "sx"
        refine ⟨_, rfl, ey.trans e6, ?_⟩
        rw [h6, rrow_succ, hdv, hcons, lcs_eq, if_neg e, ← hcons, ← hdv, show vs.length - 1 - t = vs.length - (t + 1) by omega]
        rw [maxI]
    · rintro σ Hy ⟨v6, rfl, ey, hr⟩
      walk_at "sx"
      refine l_rev hr fun H6 e6 h6 => ?_
      rw [rrow_rev] at h6
      walk_at "sx"
      have eB := ey.trans e6
      refine l_app (eB _ _ nfr (e5 _ _ hfx)) (by omega) fun H7 e7 h7 => ?_
      walk_at "sx"
      have nrf : r ≠ f := Ne.symm nfr
      have eX : Ex H' H6 := ExB.new e5 eB hr5
      refine ⟨_, _, _, _, _, rfl, ExB.new (ex.trans eX) e7 hf0, h7, by simp at hxl ⊢; omega, fun t ht => ?_⟩
      by_cases c2 : t = i + 1
      · subst c2
        refine ⟨r, by rw [List.getElem?_append_right (by omega), hxl]; simp, nrf, ?_⟩
        rw [show us.length - (i + 1) = us.length - 1 - i by omega]
        exact e7 _ _ nrf h6
      · obtain ⟨d, d1, d2, d3⟩ := hxs t (by omega)
        exact ⟨d, by rw [List.getElem?_append_left (by omega)]; exact d1, d2, e7 _ _ d2 (eX _ _ d3)⟩
  · rintro σ Hx ⟨xs, v3, v4, v5, v6, rfl, ex, hfx, hxl, hxs⟩
    rw [hlu] at hxl hxs
    walk_at "sx"
    refine l_rev hfx fun H6 e6 h6 => ?_
    walk_at "sx"
    refine k f H6 (ExB.new ex e6 hf0) ⟨f, _, rfl, h6, by simp [hxl], fun i hi => ?_⟩
    obtain ⟨c, c1, c2, c3⟩ := hxs (us.length - i) (by omega)
    refine ⟨c, ?_, ?_⟩
    · rw [List.getElem?_reverse (by omega), hxl, show us.length + 1 - 1 - i = us.length - i by omega]
      exact c1
    · rw [show us.length - (us.length - i) = i by omega] at c3
      exact e6 _ _ c2 c3
end
section
variable {P : Program} {w : World} {K : PySem.W.Frag} {mg : Str → Option Value} {base : Heap}
theorem ok_first_sign (T : Txt K mg w) : FnOk P w K mg base CX0 1 T.a_first_sign T.fd_first_sign ["one", "other", "lengths", "i", "j"] (sp_first_sign K) := by
  refine T.F_first_sign.ok sc_first_sign (fun vs H Q E h => match vs, h with | [_, _, _, _, _], _ => rfl) (fun cdv A outer s H vs Q E hr h => ?_)
  refine ⟨_, ((pss_cons (ps_for PassesOwn.never rfl (pi_seqK (K := K) rfl (pe_sortSetAK (K := K) rfl (pe_sortSetA rfl hr.units (by rfl) T.z_sorted (by rfl) T.z_set (pe_slice (sl_K (K := K) rfl) (pv 0) (po_some (pv 3)) po_none)))) (pg_name (i := 5) sc_first_sign.nd rfl (by first | exact Or.inl rfl | exact Or.inr rfl)) (pss_one (ps_if (pt_cmpR (op_inK (K := K) rfl) (pv 5) (pe_slice (sl_K (K := K) rfl) (pv 1) (po_some (pv 4)) po_none) (by rfl)) (pss_cons (ps_set (i := 6) sc_first_sign.nd rfl (by first | exact Or.inl rfl | exact Or.inr rfl) (pe_tm PySem.F.slot_tuple_index PySem.F.type_tuple_index (mt_tixF (K := K) rfl) (pv 0) (pa_cons (pv 5) (pa_cons (pv 3) pa_nil))))
    (pss_cons (ps_set (i := 7) sc_first_sign.nd rfl (by first | exact Or.inl rfl | exact Or.inr rfl) (pe_tm PySem.F.slot_tuple_index PySem.F.type_tuple_index (mt_tixF (K := K) rfl) (pv 1) (pa_cons (pv 5) (pa_cons (pv 4) pa_nil))))
    (pss_one (ps_if (pt_cmpR (op_eqK (K := K) hr.units rfl) (pe_op (op_addK (K := K) rfl) pe_int (pe_ix (ix_K (K := K) rfl) (pe_ix (ix_K (K := K) rfl) (pv 2) (pe_op (op_addK (K := K) rfl) (pv 6) pe_int) (fun _ _ => rfl)) (pe_op (op_addK (K := K) rfl) (pv 7) pe_int) (fun _ _ => rfl))) (pe_ix (ix_K (K := K) rfl) (pe_ix (ix_K (K := K) rfl) (pv 2) (pv 3) (fun _ _ => rfl)) (pv 4) (fun _ _ => rfl)) (nomark _)) (pss_one (ps_ret (pe_tup (pa_cons (pv 5) (pa_cons (pe_op (op_addK (K := K) rfl) (pv 6) pe_int) (pa_cons (pe_op (op_addK (K := K) rfl) (pv 7) pe_int) pa_nil)))))) pss_nil)))) pss_nil)))
    (pss_one (ps_ret (pe_tup (pa_cons pe_int (pa_cons (pv 3) (pa_cons (pv 4) pa_nil)))))))), ?_⟩
  match vs, h with
  | [x0, x1, x2, x3, x4], h =>
  replace h : s_first_sign K x0 x1 x2 x3 x4 H Q E := h
  try dsimp only [cxOf, Cx.nox, Cx.wish]
  show (_ : TS) { nx := fun _ H' => Q .non H', rt := Q } [some x0, some x1, some x2, some x3, some x4, none, none, none] H
  obtain ⟨a, b, us, vs, i, j, rfl, ha, rfl, hb, hL, rfl, hi, rfl, hj, hu, hv, hpos, k⟩ := h
  obtain ⟨f, xs, rfl, hf, hxl, hxs⟩ := hL
  walk_at "sx"
  refine l_slT ha.sq fun p1 H1 e1 h1 => ?_
  rw [cut_from (by simp; omega), ← List.map_drop] at h1
  refine l_sortSetT h1 (by simp; omega) fun out p2 H2 hso hmem hlen hn2 e2 h2 => ?_
  have e12 := e1.trans e2
  refine l_seqL (SqL.of h2) ?_
  refine l_forL (fun t σ Hx => ∃ v5 v6 v7, σ = [some (.ref a), some (.ref b), some (.ref f), some (.int i), some (.int j), v5, v6, v7] ∧ Ex H2 Hx ∧ ∀ s ∈ out.take t, ¬ Cand (us.drop i) (vs.drop j) s) ⟨_, _, _, rfl, Evl.Ex.refl _, fun s hs => by cases hs⟩ (fun t σ Hx _ ⟨_, _, _, _, e, _⟩ => SqL.of (e _ _ h2)) ?_ ?_
  · rintro t x σ Hx ht hx ⟨v5, v6, v7, rfl, ex, hno⟩
    obtain ⟨ht2, rfl⟩ := at_int hx
    have hso2 : out[t]? = some (out.getD t 0) := by simp [List.getD, ht2]
    generalize hs : out.getD t 0 = s at hso2 ⊢
    have hmu : s ∈ us.drop i := (hmem s).mp (List.mem_of_getElem? hso2)
    have least : (∀ s', Cand (us.drop i) (vs.drop j) s' → s ≤ s') := fun s' hc => by
      have hm := (hmem s').mpr hc.1
      obtain ⟨t', ht', e⟩ := List.getElem_of_mem hm
      by_cases c : t' < t
      · exact absurd hc (hno s' (List.mem_of_getElem? (i := t') (by rw [List.getElem?_take, if_pos c, List.getElem?_eq_getElem ht', e])))
      · by_cases d : t' = t
        · subst d
          rw [List.getElem?_eq_getElem ht', e] at hso2
          exact Int.le_of_eq (Option.some.inj hso2).symm
        · have := List.pairwise_iff_getElem.mp hso t t' ht2 ht' (by omega)
          rw [List.getElem?_eq_getElem ht2] at hso2
          have e2 := Option.some.inj hso2
          omega
    have eH : Ex H Hx := e12.trans ex
    have next : ¬ Cand (us.drop i) (vs.drop j) s → ∀ s' ∈ out.take (t + 1), ¬ Cand (us.drop i) (vs.drop j) s' := fun hc s' hs' => by
      rw [take_at hso2] at hs'
      rcases List.mem_append.mp hs' with z | z
      · exact hno s' z
      · rw [List.mem_singleton.mp z]; exact hc
    walk_at "sx"
    refine l_slT (hb.mono eH).sq fun p3 H3 e3 h3 => ?_
    rw [cut_from (by simp; omega), ← List.map_drop] at h3
    refine l_inI (.inr h3) ?_
    walk_at "sx"
    refine ifd (fun hmv => ?_) (fun c => ?_)
    · obtain ⟨u1, u2, u3⟩ := idx_at hmu
      obtain ⟨w1, w2, w3⟩ := idx_at hmv
      have eH3 := eH.trans e3
      walk_at "sx"
      refine l_tm (ha.mono eH3) ?_
      walk_at "sx"
      refine l_tixF (ha.mono eH3).sq (by omega) (by omega) u1 (fun m h0 h1 => u3 m (by omega) h1) ?_
      walk_at "sx"
      refine l_tm (hb.mono eH3) ?_
      walk_at "sx"
      refine l_tixF (hb.mono eH3).sq (by omega) (by omega) w1 (fun m h0 h1 => w3 m (by omega) h1) ?_
      walk_at "sx"
      obtain ⟨c1, c2, c3⟩ := hxs (i + (us.drop i).idxOf s + 1) (by omega)
      refine l_ixL (SqL.of (eH3 _ _ hf)) (by rw [show (((i + (us.drop i).idxOf s : Nat) : Int) + 1) = ((i + (us.drop i).idxOf s + 1 : Nat) : Int) by omega]; exact atI_nat c2) ?_
      walk_at "sx"
      refine l_ixL (SqL.of (eH3 _ _ c3)) (by rw [show (((j + (vs.drop j).idxOf s : Nat) : Int) + 1) = ((j + (vs.drop j).idxOf s + 1 : Nat) : Int) by omega]; exact lrow_at (by omega)) ?_
      walk_at "sx"
      obtain ⟨d1, d2, d3⟩ := hxs i hi
      refine l_ixL (SqL.of (eH3 _ _ hf)) (atI_nat d2) ?_
      walk_at "sx"
      refine l_ixL (SqL.of (eH3 _ _ d3)) (lrow_at hj) ?_
      walk_at "sx"
      rw [← aft_drop, ← aft_drop]
      refine ifd (fun c => ?_) (fun c => ?_)
      · walk_at "sx"
        refine w_newT (by simp) fun p9 H9 _ e9 h9 => ?_
        walk_at "sx"
        exact k p9 s H9 (eH3.trans e9) (SqT.of h9) ⟨hmu, hmv, by omega⟩ least
      · walk_at "sx"
        exact ⟨_, _, _, rfl, ex.trans e3, next fun z => c (by have := z.2.2; omega)⟩
    · walk_at "sx"
      exact ⟨_, _, _, rfl, ex.trans e3, next fun z => c z.2.1⟩
  · rintro σ Hx ⟨v5, v6, v7, rfl, ex, hno⟩
    rw [List.length_map, List.take_length] at hno
    obtain ⟨s, hs⟩ := lcs_cand hpos
    exact absurd hs (hno s ((hmem s).mpr hs.1))
end
section
variable {P : Program} {w : World} {K : PySem.W.Frag} {mg : Str → Option Value} {base : Heap}
theorem ok_common_row (T : Txt K mg w) (o_first_sign : FnOk P w K mg base CX0 1 T.a_first_sign T.fd_first_sign ["one", "other", "lengths", "i", "j"] (sp_first_sign K)) (o_lengths_from : FnOk P w K mg base CX0 1 T.a_lengths_from T.fd_lengths_from ["one", "other"] (sp_lengths_from K)) (o_want_word : FnOk P w K mg base CX0 3 T.a_want_word T.fd_want_word ["q", "word"] (sp_want_word K)) : FnOk P w K mg base CX0 4 T.a_common_row T.fd_common_row ["one", "other"] (sp_common_row K) := by
  refine T.F_common_row.ok sc_common_row (fun vs H Q E h => match vs, h with | [_, _], _ => rfl) (fun cdv A outer s H vs Q E hr h => ?_)
  refine ⟨_, ((pss_cons (ps_expr (pe_call o_want_word hr rfl T.g_want_word T.F_want_word.kp T.b_want_word .nil pass0 (pa_cons (pe_glob (v := .int 36) rfl T.c_MOST_SIGNS ⟨_, rfl⟩) (pa_cons (pv 0) pa_nil))))
    (pss_cons (ps_expr (pe_call o_want_word hr rfl T.g_want_word T.F_want_word.kp T.b_want_word .nil pass0 (pa_cons (pe_glob (v := .int 36) rfl T.c_MOST_SIGNS ⟨_, rfl⟩) (pa_cons (pv 1) pa_nil))))
    (pss_cons (ps_set (i := 2) sc_common_row.nd rfl (by first | exact Or.inl rfl | exact Or.inr rfl) (pe_call o_lengths_from (hr.mono (by decide)) rfl T.g_lengths_from T.F_lengths_from.kp T.b_lengths_from .nil pass0 (pa_cons (pv 0) (pa_cons (pv 1) pa_nil))))
    (pss_cons (ps_set (i := 3) sc_common_row.nd rfl (by first | exact Or.inl rfl | exact Or.inr rfl) (pe_tup pa_nil))
    (pss_cons (ps_set (i := 4) sc_common_row.nd rfl (by first | exact Or.inl rfl | exact Or.inr rfl) pe_int)
    (pss_cons (ps_set (i := 5) sc_common_row.nd rfl (by first | exact Or.inl rfl | exact Or.inr rfl) pe_int)
    (pss_cons (ps_while PassesOwn.never (pt_cmpR op_gtP (pe_ix (ix_K (K := K) rfl) (pe_ix (ix_K (K := K) rfl) (pv 2) (pv 4) (fun _ _ => rfl)) (pv 5) (fun _ _ => rfl)) pe_int (nomark _)) (pss_cons (ps_asg (pe_call o_first_sign (hr.mono (by decide)) rfl T.g_first_sign T.F_first_sign.kp T.b_first_sign .nil pass0 (pa_cons (pv 0) (pa_cons (pv 1) (pa_cons (pv 2) (pa_cons (pv 4) (pa_cons (pv 5) pa_nil)))))) (pg_tupK (K := K) rfl rfl (pgs_cons (pg_name (i := 6) sc_common_row.nd rfl (by first | exact Or.inl rfl | exact Or.inr rfl)) (pgs_cons (pg_name (i := 4) sc_common_row.nd rfl (by first | exact Or.inl rfl | exact Or.inr rfl)) (pgs_cons (pg_name (i := 5) sc_common_row.nd rfl (by first | exact Or.inl rfl | exact Or.inr rfl)) pgs_nil)))))
    (pss_one (ps_set (i := 3) sc_common_row.nd rfl (by first | exact Or.inl rfl | exact Or.inr rfl) (pe_op (op_addK (K := K) rfl) (pv 3) (pe_tup (pa_cons (pv 6) pa_nil)))))))
    (pss_one (ps_ret (pv 3))))))))))), ?_⟩
  match vs, h with
  | [x0, x1], h =>
  replace h : s_common_row K x0 x1 H Q E := h
  try dsimp only [cxOf, Cx.nox, Cx.wish]
  show (_ : TS) { nx := fun _ H' => Q .non H', rt := Q } [some x0, some x1, none, none, none, none, none] H
  obtain ⟨a, b, us, vs, rfl, ha, rfl, hb, hu, hv, gu, gv, k⟩ := h
  walk_at "sx"
  refine ⟨36, us, rfl, by omega, ⟨a, rfl, ha.sq, hu, gu⟩, fun H1 e1 => ?_⟩
  walk_at "sx"
  refine ⟨36, vs, rfl, by omega, ⟨b, rfl, (hb.mono e1).sq, hv, gv⟩, fun H2 e2 => ?_⟩
  have e12 := e1.trans e2
  walk_at "sx"
  refine ⟨a, b, us, vs, rfl, (ha.mono e12).sq, rfl, (hb.mono e12).sq, hu, hv, fun f H3 e3 hL => ?_⟩
  walk_at "sx"
  refine w_newT (by simp) fun p4 H4 _ e4 h4 => ?_
  have e14 := e12.trans (e3.trans e4)
  have hL4 := hL.mono e4
  walk_at "sx"
  refine q_while (fun m σ Hx => ∃ (c : Addr) (acc : List Int) (i j : Nat) (v6 : Option V), σ = [some (.ref a), some (.ref b), some (.ref f), some (.ref c), some (.int i), some (.int j), v6] ∧ Ex H4 Hx ∧ SqT K Hx c (acc.map V.int) ∧ i ≤ us.length ∧ j ≤ vs.length ∧ m = lcsN (us.drop i) (vs.drop j) ∧ acc.length + m ≤ 60 ∧ ∀ r, Bst (us.drop i) (vs.drop j) r → Bst us vs (acc ++ r)) (lcsN us vs) ⟨p4, [], 0, 0, _, rfl, Evl.Ex.refl _, SqT.of h4, by omega, by omega, rfl, ?_, fun r h => h⟩ ?_
  · obtain ⟨r, z1, z2, z3⟩ := lcs_ex us vs
    have := z1.length_le
    simp
    omega
  rintro m σ Hx ⟨c, acc, i, j, v6, rfl, ex, hc, hi, hj, hm, hacc, hbst⟩
  obtain ⟨f', xs, ef, hf, hxl, hxs⟩ := hL4
  cases ef
  obtain ⟨d1, d2, d3⟩ := hxs i hi
  walk_at "sx"
  refine l_ixL (SqL.of (ex _ _ hf)) (atI_nat d2) ?_
  walk_at "sx"
  refine l_ixL (SqL.of (ex _ _ d3)) (lrow_at hj) ?_
  walk_at "sx"
  refine ifd (fun c0 => ?_) (fun c0 => ?_)
  · refine l_wh ?_
    walk_at "sx"
    have eHx : Ex H Hx := e14.trans ex
    refine ⟨a, b, us, vs, i, j, rfl, ha.mono eHx, rfl, hb.mono eHx, ⟨f, xs, rfl, ex _ _ hf, hxl, fun i hi => ?_⟩, rfl, hi, rfl, hj, hu, hv, by omega, fun t s H5 e5 h5 hcs hls => ?_⟩
    · obtain ⟨y, y1, y2⟩ := hxs i hi
      exact ⟨y, y1, ex _ _ y2⟩
    obtain ⟨_, u2, _⟩ := idx_at hcs.1
    obtain ⟨_, w2, _⟩ := idx_at hcs.2.1
    walk_at "sx"
    refine w_newT (by simp) fun p6 H6 _ e6 h6 => ?_
    refine l_addT (Evl.ex_t (e5.trans e6) hc) (SqT.of h6) (by simp; omega) fun p7 H7 e7 h7 => ?_
    walk_at "sx"
    have hlc := hcs.2.2
    refine ⟨_, ?_, p7, acc ++ [s], i + (us.drop i).idxOf s + 1, j + (vs.drop j).idxOf s + 1, _, rfl, ex.trans (e5.trans (e6.trans e7)), ?_, by omega, by omega, rfl, ?_, fun r hr => ?_⟩
    · rw [← aft_drop, ← aft_drop]
      omega
    · rw [List.map_append]
      exact h7
    · rw [← aft_drop, ← aft_drop, List.length_append, List.length_singleton]
      omega
    · rw [← aft_drop, ← aft_drop] at hr
      rw [List.append_assoc]
      exact hbst _ (Bst.step hcs hls hr)
  · walk_at "sx"
    have := hbst [] (Bst.nil (by omega))
    rw [List.append_nil] at this
    exact k c acc Hx (e14.trans ex) hc this
end
section
variable {P : Program} {w : World} {K : PySem.W.Frag} {mg : Str → Option Value} {base : Heap}
theorem ok_nearness (T : Txt K mg w) (o_common_row : FnOk P w K mg base CX0 4 T.a_common_row T.fd_common_row ["one", "other"] (sp_common_row K)) : FnOk P w K mg base CX0 5 T.a_nearness T.fd_nearness ["one", "other"] (sp_nearness K) := by
  refine T.F_nearness.ok sc_nearness (fun vs H Q E h => match vs, h with | [_, _], _ => rfl) (fun cdv A outer s H vs Q E hr h => ?_)
  refine ⟨_, ((pss_cons (ps_set (i := 2) sc_nearness.nd rfl (by first | exact Or.inl rfl | exact Or.inr rfl) (pe_call o_common_row hr rfl T.g_common_row T.F_common_row.kp T.b_common_row .nil pass0 (pa_cons (pv 0) (pa_cons (pv 1) pa_nil))))
    (pss_one (ps_ret (pe_op op_subP (pe_op (op_addK (K := K) rfl) (pe_callB (call_lenK (K := K) rfl) (by rfl) T.z_len (by decide +kernel) (pa_cons (pv 0) pa_nil)) (pe_callB (call_lenK (K := K) rfl) (by rfl) T.z_len (by decide +kernel) (pa_cons (pv 1) pa_nil))) (pe_op (op_mulK (K := K) rfl) pe_int (pe_callB (call_lenK (K := K) rfl) (by rfl) T.z_len (by decide +kernel) (pa_cons (pv 2) pa_nil)))))))), ?_⟩
  match vs, h with
  | [x0, x1], h =>
  replace h : s_nearness K x0 x1 H Q E := h
  try dsimp only [cxOf, Cx.nox, Cx.wish]
  show (_ : TS) { nx := fun _ H' => Q .non H', rt := Q } [some x0, some x1, none] H
  obtain ⟨a, b, us, vs, rfl, ha, rfl, hb, hu, hv, gu, gv, k⟩ := h
  walk_at "sx"
  refine ⟨a, b, us, vs, rfl, ha, rfl, hb, hu, hv, gu, gv, fun t r H1 e1 h1 hB => ?_⟩
  have ha1 := (ha.mono e1).sq (K := K)
  have hb1 := (hb.mono e1).sq (K := K)
  walk_at "sx"
  rw [List.length_map, List.length_map, List.length_map, hB.len]
  exact k _ e1
end
section
variable {P : Program} {w : World} {K : PySem.W.Frag} {mg : Str → Option Value} {base : Heap}
def PvLR (K : PySem.W.Frag) (G : Hp) (ns : List Int) : Addr → Nat → List V → Hp → Prop := fun _ i acc H1 => Ex G H1 ∧ Wts K H1 acc ((List.range i).map fun k => lostAt ns k)
theorem ok_lost_ring (T : Txt K mg w) (o_want_word : FnOk P w K mg base CX0 3 T.a_want_word T.fd_want_word ["q", "word"] (sp_want_word K)) : FnOk P w K mg base CX0 4 T.a_lost_ring T.fd_lost_ring ["q", "word"] (sp_lost_ring K) := by
  refine T.F_lost_ring.ok sc_lost_ring (fun vs H Q E h => match vs, h with | [_, _], _ => rfl) (fun cdv A outer s H vs Q E hr h => ?_)
  refine ⟨_, ((pss_cons (ps_expr (pe_call o_want_word hr rfl T.g_want_word T.F_want_word.kp T.b_want_word .nil pass0 (pa_cons (pv 0) (pa_cons (pv 1) pa_nil))))
    (pss_one (ps_ret (pe_sortSetB (K := K) rfl rfl hr.units (by rfl) T.z_sorted (by rfl) T.z_set (pe_lc (own := [("k", 2)]) (g := (gName 2)) (tt := tYes) rfl sc_lost_ring.nd (pi_range1 rfl T.z_range (pa_cons (pe_callB (call_lenK (K := K) rfl) (by rfl) T.z_len (by decide +kernel) (pa_cons (pv 1) pa_nil)) pa_nil)) (blkOk_by (own := [("k", 2)]) (N := ["q", "word", "k"]) (sc := defScope S_lost_ring) (by decide +kernel)) (fun _ _ _ _ _ => (pg_name (i := 2) sc_lost_ring.nd rfl (by first | exact Or.inl rfl | exact Or.inr rfl))) (fun _ _ _ _ _ => pts_nil) (fun _ _ _ _ _ => (pe_op (op_addK (K := K) rfl) (pe_slice (sl_K (K := K) rfl) (pv 1) po_none (po_some (pv 2))) (pe_slice (sl_K (K := K) rfl) (pv 1) (po_some (pe_op (op_addK (K := K) rfl) (pv 2) pe_int)) po_none))))))))), ?_⟩
  match vs, h with
  | [x0, x1], h =>
  replace h : s_lost_ring K x0 x1 H Q E := h
  try dsimp only [cxOf, Cx.nox, Cx.wish]
  show (_ : TS) { nx := fun _ H' => Q .non H', rt := Q } [some x0, some x1, none] H
  obtain ⟨q, ns, rfl, hq, hw, kk⟩ := h
  have hw0 := hw
  obtain ⟨a, rfl, hs, hl, hg⟩ := hw0
  walk_at "sx"
  refine ⟨q, ns, rfl, hq, hw, fun H1 e1 => ?_⟩
  walk_at "sx"
  have hs1 := Evl.ex_t e1 hs
  rw [List.length_map]
  refine l_lc walk_range (PvLR K H1 ns) (fun D H2 hD e h2 => ⟨e, .nil⟩) (fun _ _ _ _ _ _ _ => True.intro) ?_ ?_
  · rintro D i acc x H2 H3 hD hi h2 ⟨e2, hA⟩ ⟨rfl, rfl⟩
    have hi' : i < ns.length := by omega
    walk_at "sx"
    refine ⟨rfl, ?_⟩
    walk_at "sx"
    refine l_slT (Evl.ex_t e2 hs1) fun p4 H4 e4 h4 => ?_
    walk_at "sx"
    refine l_slT (Evl.ex_t (e2.trans e4) hs1) fun p5 H5 e5 h5 => ?_
    rw [show (0 : Int) + (i : Int) = ((i : Nat) : Int) by omega, cut_to (by simp; omega), ← List.map_take] at h4
    rw [show (0 : Int) + (i : Int) + 1 = ((i + 1 : Nat) : Int) by omega, cut_from (by simp; omega), ← List.map_drop] at h5
    refine l_addT (Evl.ex_t e5 h4) h5 (by simp; omega) fun p6 H6 e6 h6 => ?_
    rw [← List.map_append] at h6
    have e26 := e4.trans (e5.trans e6)
    have hla := Paired.length hA
    rw [List.length_map, List.length_range] at hla
    refine lc_end (Pv := PvLR K H1 ns) (e26 _ _ h2) (by omega) fun H7 e7 h7 => ⟨ExB.new (e2.trans e26) e7 hD, ?_⟩
    rw [List.range_succ, List.map_append]
    exact pd_app (Wts.exB e7 (e26 _ _ h2) (Wts.mono e26 hA)) (.cons ⟨p6, rfl, exB_t e7 (e26 _ _ h2) h6⟩ .nil)
  · rintro D acc H2 hD h2 ⟨e2, hA⟩
    walk_at "sx"
    refine l_sortSetWB (SqL.of h2) hA (losts_wb hg) (by rw [List.length_map, List.length_range]; omega) fun ys us p H3 hm hr hn e3 h3 hW => ?_
    exact kk p ys us _ (Evl.fresh_back (e1.trans e2) hn) (e1.trans (e2.trans e3)) h3 hW ⟨hm, hr⟩
end
section
variable {P : Program} {w : World} {K : PySem.W.Frag} {mg : Str → Option Value} {base : Heap}
def PvPR (K : PySem.W.Frag) (G : Hp) (ns : List Int) (k : Nat) : Addr → Nat → List V → Hp → Prop := fun _ i acc H1 => Ex G H1 ∧ Wts K H1 acc ((List.range i).map fun (s : Nat) => putAt ns k ((s : Nat) : Int))
theorem ok_put_ring (T : Txt K mg w) (o_want_word : FnOk P w K mg base CX0 3 T.a_want_word T.fd_want_word ["q", "word"] (sp_want_word K)) : FnOk P w K mg base CX0 4 T.a_put_ring T.fd_put_ring ["q", "word"] (sp_put_ring K) := by
  refine T.F_put_ring.ok sc_put_ring (fun vs H Q E h => match vs, h with | [_, _], _ => rfl) (fun cdv A outer s H vs Q E hr h => ?_)
  refine ⟨_, ((pss_cons (ps_expr (pe_call o_want_word hr rfl T.g_want_word T.F_want_word.kp T.b_want_word .nil pass0 (pa_cons (pv 0) (pa_cons (pv 1) pa_nil))))
    (pss_cons (ps_if (pt_cmpR (op_eqK (K := K) hr.units rfl) (pe_callB (call_lenK (K := K) rfl) (by rfl) T.z_len (by decide +kernel) (pa_cons (pv 1) pa_nil)) (pe_glob (v := .int 60) rfl T.c_MOST_LENGTH ⟨_, rfl⟩) (nomark _)) (pss_one ps_never) pss_nil)
    (pss_cons (ps_set (i := 2) sc_put_ring.nd rfl (by first | exact Or.inl rfl | exact Or.inr rfl) (pe_lst pa_nil))
    (pss_cons (ps_for PassesOwn.never rfl (pi_range1 rfl T.z_range (pa_cons (pe_op (op_addK (K := K) rfl) (pe_callB (call_lenK (K := K) rfl) (by rfl) T.z_len (by decide +kernel) (pa_cons (pv 1) pa_nil)) pe_int) pa_nil)) (pg_name (i := 3) sc_put_ring.nd rfl (by first | exact Or.inl rfl | exact Or.inr rfl)) (pss_one (ps_expr (pe_bmK (K := K) rfl (pe_bm PySem.F.plainAttrs_list PySem.F.slot_list_extend PySem.F.type_list_extend mt_extend (pv 2) (pa_cons (pe_lc (own := [("sign", 4)]) (g := (gName 4)) (tt := tYes) rfl sc_put_ring.nd (pi_range1 rfl T.z_range (pa_cons (pv 0) pa_nil)) (blkOk_by (own := [("sign", 4)]) (N := ["q", "word", "found", "k", "sign"]) (sc := defScope S_put_ring) (by decide +kernel)) (fun _ _ _ _ _ => (pg_name (i := 4) sc_put_ring.nd rfl (by first | exact Or.inl rfl | exact Or.inr rfl))) (fun _ _ _ _ _ => pts_nil) (fun _ _ _ _ _ => (pe_op (op_addK (K := K) rfl) (pe_op (op_addK (K := K) rfl) (pe_slice (sl_K (K := K) rfl) (pv 1) po_none (po_some (pv 3))) (pe_tup (pa_cons (pv 4) pa_nil))) (pe_slice (sl_K (K := K) rfl) (pv 1) (po_some (pv 3)) po_none)))) pa_nil))))))
    (pss_one (ps_ret (pe_sortSetB (K := K) rfl rfl hr.units (by rfl) T.z_sorted (by rfl) T.z_set (pv 2))))))))), ?_⟩
  match vs, h with
  | [x0, x1], h =>
  replace h : s_put_ring K x0 x1 H Q E := h
  try dsimp only [cxOf, Cx.nox, Cx.wish]
  show (_ : TS) { nx := fun _ H' => Q .non H', rt := Q } [some x0, some x1, none, none, none] H
  obtain ⟨q, ns, rfl, hq, hw, h60, hsm, kk⟩ := h
  have hw0 := hw
  obtain ⟨a, rfl, hs, hl, hg⟩ := hw0
  walk_at "sx"
  refine ⟨q, ns, rfl, by omega, hw, fun H1 e1 => ?_⟩
  have hs1 := Evl.ex_t e1 hs
  walk_at "sx"
  rw [List.length_map]
  refine ifd (fun c => absurd c (by omega)) (fun c => ?_)
  walk_at "sx"
  refine w_newL (by simp) fun f H2 hn2 e2 h2 => ?_
  replace hs1 := Evl.ex_t e2 hs1
  walk_at "sx"
  rw [List.length_map]
  refine l_forR (fun i σ H3 => ∃ ys v3 v4, σ = [some (.int q), some (.ref a), some (.ref f), v3, v4] ∧ ExB f H2 H3 ∧ H3 f = some (.lst ys) ∧ Wts K H3 ys ((List.range i).flatMap fun k => (List.range q).map fun (s : Nat) => putAt ns k ((s : Nat) : Int))) ⟨_, _, _, rfl, ExB.refl, h2, .nil⟩ ?_ ?_
  · rintro i σ H3 hi ⟨ys, v3, v4, rfl, e3, h3, hY⟩
    have hi' : i ≤ ns.length := by omega
    have hs3 := exB_t e3 h2 hs1
    have hlY := Paired.length hY
    rw [fm_len (m := q) (fun k _ => by simp), List.length_range] at hlY
    have hle : i * q ≤ (ns.length + 1) * q := Nat.mul_le_mul_right _ (by omega)
    walk_at "sx"
    refine l_lc walk_range (PvPR K H3 ns i) (fun D H4 hD e h4 => ⟨e, .nil⟩) (fun _ _ _ _ _ _ _ => True.intro) ?_ ?_
    · rintro D j acc x H4 H5 hD hj h4 ⟨e4, hA⟩ ⟨rfl, rfl⟩
      walk_at "sx"
      refine ⟨rfl, ?_⟩
      walk_at "sx"
      refine l_slT (Evl.ex_t e4 hs3) fun p5 H5 e5 h5 => ?_
      walk_at "sx"
      refine w_newT (by simp) fun p6 H6 _ e6 h6 => ?_
      rw [show (0 : Int) + (i : Int) = ((i : Nat) : Int) by omega, cut_to (by simp; omega), ← List.map_take] at h5
      refine l_addT (Evl.ex_t e6 h5) (SqT.of h6) (by simp; omega) fun p7 H7 e7 h7 => ?_
      walk_at "sx"
      refine l_slT (Evl.ex_t (e4.trans (e5.trans (e6.trans e7))) hs3) fun p8 H8 e8 h8 => ?_
      rw [show (0 : Int) + (i : Int) = ((i : Nat) : Int) by omega, cut_from (by simp; omega), ← List.map_drop] at h8
      refine l_addT (Evl.ex_t e8 h7) h8 (by simp; omega) fun p9 H9 e9 h9 => ?_
      have e49 := e5.trans (e6.trans (e7.trans (e8.trans e9)))
      have hla := Paired.length hA
      rw [List.length_map, List.length_range] at hla
      refine lc_end (Pv := PvPR K H3 ns i) (e49 _ _ h4) (by omega) fun H10 e10 h10 => ⟨ExB.new (e4.trans e49) e10 hD, ?_⟩
      rw [List.range_succ, List.map_append]
      refine pd_app (Wts.exB e10 (e49 _ _ h4) (Wts.mono e49 hA)) (.cons ⟨p9, rfl, exB_t e10 (e49 _ _ h4) ?_⟩ .nil)
      have ee : List.map V.int (List.take i ns) ++ [V.int (0 + (j : Int))] ++ List.map V.int (List.drop i ns) = (putAt ns i ((j : Nat) : Int)).map V.int := by
        unfold putAt
        rw [List.map_append, List.map_append, show (0 : Int) + (j : Int) = ((j : Nat) : Int) by omega]
        rfl
      rw [ee] at h9
      exact h9
    · rintro D acc H4 hD h4 ⟨e4, hA⟩
      have hla := Paired.length hA
      rw [List.length_map, List.length_range] at hla
      walk_at "sx"
      refine l_ext (e4 _ _ h3) h4 (by omega) fun H5 e5 h5 => ?_
      walk_at "sx"
      refine ⟨_, _, _, rfl, (e3.ex e4).trans e5, h5, ?_⟩
      rw [List.range_succ, List.flatMap_append]
      refine pd_app (Wts.exB e5 (e4 _ _ h3) (Wts.mono e4 hY)) ?_
      simpa using Wts.exB e5 (e4 _ _ h3) hA
  · rintro σ H3 ⟨ys, v3, v4, rfl, e3, h3, hY⟩
    rw [show ((ns.length : Int) + 1).toNat = ns.length + 1 by omega] at hY
    have eH : Ex H1 H3 := ExB.new e2 e3 hn2
    walk_at "sx"
    refine l_sortSetWB (SqL.of h3) hY (puts_wb hg) (by have := puts_len q ns; unfold puts at this; rw [this]; exact hsm) fun zs us p H4 hm hr hn e4 h4 hW => ?_
    exact kk p zs us _ (Evl.fresh_back (e1.trans eH) hn) (e1.trans (eH.trans e4)) h4 hW ⟨hm, hr⟩
end
section
variable {P : Program} {w : World} {K : PySem.W.Frag} {mg : Str → Option Value} {base : Heap}
def PvCR (K : PySem.W.Frag) (G : Hp) (ns : List Int) (k : Nat) : Addr → Nat → List V → Hp → Prop := fun _ i acc H1 => Ex G H1 ∧ Wts K H1 acc ((List.range i).map fun (s : Nat) => chgAt ns k ((s : Nat) : Int))
theorem ok_changed_ring (T : Txt K mg w) (o_want_word : FnOk P w K mg base CX0 3 T.a_want_word T.fd_want_word ["q", "word"] (sp_want_word K)) : FnOk P w K mg base CX0 4 T.a_changed_ring T.fd_changed_ring ["q", "word"] (sp_changed_ring K) := by
  refine T.F_changed_ring.ok sc_changed_ring (fun vs H Q E h => match vs, h with | [_, _], _ => rfl) (fun cdv A outer s H vs Q E hr h => ?_)
  refine ⟨_, ((pss_cons (ps_expr (pe_call o_want_word hr rfl T.g_want_word T.F_want_word.kp T.b_want_word .nil pass0 (pa_cons (pv 0) (pa_cons (pv 1) pa_nil))))
    (pss_cons (ps_set (i := 2) sc_changed_ring.nd rfl (by first | exact Or.inl rfl | exact Or.inr rfl) (pe_lst (pa_cons (pv 1) pa_nil)))
    (pss_cons (ps_for PassesOwn.never rfl (pi_range1 rfl T.z_range (pa_cons (pe_callB (call_lenK (K := K) rfl) (by rfl) T.z_len (by decide +kernel) (pa_cons (pv 1) pa_nil)) pa_nil)) (pg_name (i := 3) sc_changed_ring.nd rfl (by first | exact Or.inl rfl | exact Or.inr rfl)) (pss_one (ps_expr (pe_bmK (K := K) rfl (pe_bm PySem.F.plainAttrs_list PySem.F.slot_list_extend PySem.F.type_list_extend mt_extend (pv 2) (pa_cons (pe_lc (own := [("sign", 4)]) (g := (gName 4)) (tt := tYes) rfl sc_changed_ring.nd (pi_range1 rfl T.z_range (pa_cons (pv 0) pa_nil)) (blkOk_by (own := [("sign", 4)]) (N := ["q", "word", "found", "k", "sign"]) (sc := defScope S_changed_ring) (by decide +kernel)) (fun _ _ _ _ _ => (pg_name (i := 4) sc_changed_ring.nd rfl (by first | exact Or.inl rfl | exact Or.inr rfl))) (fun _ _ _ _ _ => pts_nil) (fun _ _ _ _ _ => (pe_op (op_addK (K := K) rfl) (pe_op (op_addK (K := K) rfl) (pe_slice (sl_K (K := K) rfl) (pv 1) po_none (po_some (pv 3))) (pe_tup (pa_cons (pv 4) pa_nil))) (pe_slice (sl_K (K := K) rfl) (pv 1) (po_some (pe_op (op_addK (K := K) rfl) (pv 3) pe_int)) po_none)))) pa_nil))))))
    (pss_one (ps_ret (pe_sortSetB (K := K) rfl rfl hr.units (by rfl) T.z_sorted (by rfl) T.z_set (pv 2)))))))), ?_⟩
  match vs, h with
  | [x0, x1], h =>
  replace h : s_changed_ring K x0 x1 H Q E := h
  try dsimp only [cxOf, Cx.nox, Cx.wish]
  show (_ : TS) { nx := fun _ H' => Q .non H', rt := Q } [some x0, some x1, none, none, none] H
  obtain ⟨q, ns, rfl, hq, hw, hsm, kk⟩ := h
  have hw0 := hw
  obtain ⟨a, rfl, hs, hl, hg⟩ := hw0
  walk_at "sx"
  refine ⟨q, ns, rfl, by omega, hw, fun H1 e1 => ?_⟩
  have hs1 := Evl.ex_t e1 hs
  walk_at "sx"
  refine w_newL (by simp) fun f H2 hn2 e2 h2 => ?_
  replace hs1 := Evl.ex_t e2 hs1
  walk_at "sx"
  rw [List.length_map]
  refine l_forR (fun i σ H3 => ∃ ys v3 v4, σ = [some (.int q), some (.ref a), some (.ref f), v3, v4] ∧ ExB f H2 H3 ∧ H3 f = some (.lst ys) ∧ Wts K H3 ys ([ns] ++ ((List.range i).flatMap fun k => (List.range q).map fun (s : Nat) => chgAt ns k ((s : Nat) : Int)))) ⟨_, _, _, rfl, ExB.refl, h2, .cons ⟨a, rfl, hs1⟩ .nil⟩ ?_ ?_
  · rintro i σ H3 hi ⟨ys, v3, v4, rfl, e3, h3, hY⟩
    have hi' : i < ns.length := by omega
    have hs3 := exB_t e3 h2 hs1
    have hlY := Paired.length hY
    rw [List.length_append, fm_len (m := q) (fun k _ => by simp), List.length_range, List.length_singleton] at hlY
    have hle : i * q ≤ ns.length * q := Nat.mul_le_mul_right _ (by omega)
    walk_at "sx"
    refine l_lc walk_range (PvCR K H3 ns i) (fun D H4 hD e h4 => ⟨e, .nil⟩) (fun _ _ _ _ _ _ _ => True.intro) ?_ ?_
    · rintro D j acc x H4 H5 hD hj h4 ⟨e4, hA⟩ ⟨rfl, rfl⟩
      walk_at "sx"
      refine ⟨rfl, ?_⟩
      walk_at "sx"
      refine l_slT (Evl.ex_t e4 hs3) fun p5 H5 e5 h5 => ?_
      walk_at "sx"
      refine w_newT (by simp) fun p6 H6 _ e6 h6 => ?_
      rw [show (0 : Int) + (i : Int) = ((i : Nat) : Int) by omega, cut_to (by simp; omega), ← List.map_take] at h5
      refine l_addT (Evl.ex_t e6 h5) (SqT.of h6) (by simp; omega) fun p7 H7 e7 h7 => ?_
      walk_at "sx"
      refine l_slT (Evl.ex_t (e4.trans (e5.trans (e6.trans e7))) hs3) fun p8 H8 e8 h8 => ?_
      rw [show (0 : Int) + (i : Int) + 1 = ((i + 1 : Nat) : Int) by omega, cut_from (by simp; omega), ← List.map_drop] at h8
      refine l_addT (Evl.ex_t e8 h7) h8 (by simp; omega) fun p9 H9 e9 h9 => ?_
      have e49 := e5.trans (e6.trans (e7.trans (e8.trans e9)))
      have hla := Paired.length hA
      rw [List.length_map, List.length_range] at hla
      refine lc_end (Pv := PvCR K H3 ns i) (e49 _ _ h4) (by omega) fun H10 e10 h10 => ⟨ExB.new (e4.trans e49) e10 hD, ?_⟩
      rw [List.range_succ, List.map_append]
      refine pd_app (Wts.exB e10 (e49 _ _ h4) (Wts.mono e49 hA)) (.cons ⟨p9, rfl, exB_t e10 (e49 _ _ h4) ?_⟩ .nil)
      have ee : List.map V.int (List.take i ns) ++ [V.int (0 + (j : Int))] ++ List.map V.int (List.drop (i + 1) ns) = (chgAt ns i ((j : Nat) : Int)).map V.int := by
        unfold chgAt
        rw [List.map_append, List.map_append, show (0 : Int) + (j : Int) = ((j : Nat) : Int) by omega]
        rfl
      rw [ee] at h9
      exact h9
    · rintro D acc H4 hD h4 ⟨e4, hA⟩
      have hla := Paired.length hA
      rw [List.length_map, List.length_range] at hla
      walk_at "sx"
      refine l_ext (e4 _ _ h3) h4 (by omega) fun H5 e5 h5 => ?_
      walk_at "sx"
      refine ⟨_, _, _, rfl, (e3.ex e4).trans e5, h5, ?_⟩
      rw [List.range_succ (n := i), List.flatMap_append, ← List.append_assoc]
      refine pd_app (Wts.exB e5 (e4 _ _ h3) (Wts.mono e4 hY)) ?_
      simpa using Wts.exB e5 (e4 _ _ h3) hA
  · rintro σ H3 ⟨ys, v3, v4, rfl, e3, h3, hY⟩
    rw [show ((ns.length : Nat) : Int).toNat = ns.length by omega] at hY
    have eH : Ex H1 H3 := ExB.new e2 e3 hn2
    have hwb : Wb ns.length (q : Int) ([ns] ++ chgs q ns) := fun w hw => by
      rcases List.mem_append.mp hw with hw | hw
      · rw [List.mem_singleton] at hw; subst hw; exact ⟨rfl, hg⟩
      · exact chgs_wb hg w hw
    walk_at "sx"
    refine l_sortSetWB (SqL.of h3) hY hwb (by have := chgs_len q ns; unfold chgs at this; rw [List.length_append, this, List.length_singleton]; omega) fun zs us p H4 hm hr hn e4 h4 hW => ?_
    exact kk p zs us _ (Evl.fresh_back (e1.trans eH) hn) (e1.trans (eH.trans e4)) h4 hW ⟨hm, hr⟩
end
section
variable {P : Program} {w : World} {K : PySem.W.Frag} {mg : Str → Option Value} {base : Heap}
theorem ok_shape (T : Txt K mg w) (o_want_word : FnOk P w K mg base CX0 3 T.a_want_word T.fd_want_word ["q", "word"] (sp_want_word K)) : FnOk P w K mg base CX0 4 T.a_shape T.fd_shape ["q", "word"] (sp_shape K) := by
  refine T.F_shape.ok sc_shape (fun vs H Q E h => match vs, h with | [_, _], _ => rfl) (fun cdv A outer s H vs Q E hr h => ?_)
  refine ⟨_, ((pss_cons (ps_expr (pe_call o_want_word hr rfl T.g_want_word T.F_want_word.kp T.b_want_word .nil pass0 (pa_cons (pv 0) (pa_cons (pv 1) pa_nil))))
    (pss_cons (ps_if (pt_cmpR (op_eqK (K := K) hr.units rfl) (pv 1) (pe_tup pa_nil) (nomark _)) (pss_one ps_never) pss_nil)
    (pss_one (ps_ret (pe_callTy (call_tupK (K := K) rfl) (by rfl) T.z_tuple (by decide +kernel) (pa_cons (pe_lc (own := [("ahead", 2), ("sign", 3)]) (g := (gTup K 2 (gCons (gName 2) (gCons (gName 3) gNil)))) (tt := tYes) rfl sc_shape.nd (pi_zipK (K := K) rfl (by rfl) T.z_zip (pa_cons (pv 1) (pa_cons (pe_slice (sl_K (K := K) rfl) (pv 1) (po_some pe_int) po_none) pa_nil))) (blkOk_by (own := [("ahead", 2), ("sign", 3)]) (N := ["q", "word", "ahead", "sign"]) (sc := defScope S_shape) (by decide +kernel)) (fun _ _ _ _ _ => (pg_tupK (K := K) rfl rfl (pgs_cons (pg_name (i := 2) sc_shape.nd rfl (by first | exact Or.inl rfl | exact Or.inr rfl)) (pgs_cons (pg_name (i := 3) sc_shape.nd rfl (by first | exact Or.inl rfl | exact Or.inr rfl)) pgs_nil)))) (fun _ _ _ _ _ => pts_nil) (fun _ _ _ _ _ => (pe_callTy call_intP (by rfl) T.z_int (by decide +kernel) (pa_cons (pe_cmpR op_geP (pv 3) (pv 2) (nomark _)) pa_nil)))) pa_nil))))))), ?_⟩
  match vs, h with
  | [x0, x1], h =>
  replace h : s_shape K x0 x1 H Q E := h
  try dsimp only [cxOf, Cx.nox, Cx.wish]
  show (_ : TS) { nx := fun _ H' => Q .non H', rt := Q } [some x0, some x1, none, none] H
  obtain ⟨q, ns, rfl, hq, hw, hne, k⟩ := h
  have hw0 := hw
  obtain ⟨a, rfl, hs, hl, hg⟩ := hw0
  walk_at "sx"
  refine ⟨q, ns, rfl, hq, hw, fun H1 e1 => ?_⟩
  walk_at "sx"
  refine w_newT (by simp) fun p2 H2 _ e2 h2 => ?_
  refine l_eqD (.tup (Evl.ex_t (e1.trans e2) hs) (dp_ints ns)) (.tup (SqT.of h2) (dp_ints [])) (shaped_ints ns) (shaped_ints []) ?_
  rw [eqvT_ints]
  walk_at "sx"
  refine ifd (fun c => absurd c hne) (fun c => ?_)
  walk_at "sx"
  refine l_slT (Evl.ex_t (e1.trans e2) hs) fun p3 H3 e3 h3 => ?_
  rw [show (1 : Int) = ((1 : Nat) : Int) by rfl, cut_from (by
    cases ns with
    | nil => exact absurd rfl hne
    | cons x xs => simp)] at h3
  rw [← List.map_drop] at h3
  have hs3 := Evl.ex_t (e1.trans (e2.trans e3)) hs
  walk_at "sx"
  have hlen : min ((ns.map V.int).length) (((ns.drop 1).map V.int).length) = ns.length - 1 := by simp
  refine l_lc (walk_zipT hlen.symm) (PvI H3 fun i => if ns.getD i 0 ≤ ns.getD (i + 1) 0 then 1 else 0) (fun D H4 hD e h4 => ⟨e, rfl⟩) (fun D i acc H4 _ _ p => ⟨Evl.ex_t p.1 hs3, Evl.ex_t p.1 h3⟩) ?_ ?_
  · rintro D i acc x H4 H5 hD hi h4 ⟨e4, rfl⟩ ⟨T', y, z, rfl, hT, rfl, hy, hz⟩
    obtain ⟨hy1, rfl⟩ := at_int hy
    obtain ⟨hz1, rfl⟩ := at_int hz
    have ez : (ns.drop 1).getD i 0 = ns.getD (i + 1) 0 := by simp [List.getD, List.getElem?_drop, Nat.add_comm]
    rw [ez]
    refine g_tup (SqT.of upd_same) rfl ?_
    walk_at "sx"
    refine ⟨rfl, ?_⟩
    walk_at "sx"
    have hDT : D ≠ T' := ne_of_none h4 hT
    refine lc_end (Pv := PvI H3 fun i => if ns.getD i 0 ≤ ns.getD (i + 1) 0 then 1 else 0) (by rw [upd_ne hDT]; exact h4) (by simp; omega) fun H6 e6 h6 => ⟨ExB.new (e4.trans (Evl.Ex.new hT)) e6 hD, ?_⟩
    rw [List.range_succ, List.map_append, List.map_append]
    simp
  · rintro D acc H4 hD h4 ⟨e4, rfl⟩
    walk_at "sx"
    refine l_tupL (SqL.of h4) fun p5 H5 e5 h5 => ?_
    exact k _ _ (e1.trans (e2.trans (e3.trans (e4.trans e5)))) h5
end
section
variable {P : Program} {w : World} {K : PySem.W.Frag} {mg : Str → Option Value} {base : Heap}
theorem ok_weighted (T : Txt K mg w) (o_want_word : FnOk P w K mg base CX0 3 T.a_want_word T.fd_want_word ["q", "word"] (sp_want_word K)) : FnOk P w K mg base CX0 4 T.a_weighted T.fd_weighted ["q", "word"] (sp_weighted K) := by
  refine T.F_weighted.ok sc_weighted (fun vs H Q E h => match vs, h with | [_, _], _ => rfl) (fun cdv A outer s H vs Q E hr h => ?_)
  refine ⟨_, ((pss_cons (ps_expr (pe_call o_want_word hr rfl T.g_want_word T.F_want_word.kp T.b_want_word .nil pass0 (pa_cons (pv 0) (pa_cons (pv 1) pa_nil))))
    (pss_one (ps_ret (pe_callB (cr_sumK (K := K) rfl rfl) (by rfl) T.z_sum (by decide +kernel) (pa_cons (pe_lc (own := [("k", 2), ("sign", 3)]) (g := (gTup K 2 (gCons (gName 2) (gCons (gName 3) gNil)))) (tt := tYes) rfl sc_weighted.nd (pi_enumK (K := K) rfl (by rfl) T.z_enumerate (pa_cons (pv 1) pa_nil)) (blkOk_by (own := [("k", 2), ("sign", 3)]) (N := ["q", "word", "k", "sign"]) (sc := defScope S_weighted) (by decide +kernel)) (fun _ _ _ _ _ => (pg_tupK (K := K) rfl rfl (pgs_cons (pg_name (i := 2) sc_weighted.nd rfl (by first | exact Or.inl rfl | exact Or.inr rfl)) (pgs_cons (pg_name (i := 3) sc_weighted.nd rfl (by first | exact Or.inl rfl | exact Or.inr rfl)) pgs_nil)))) (fun _ _ _ _ _ => pts_nil) (fun _ _ _ _ _ => (pe_op (op_mulK (K := K) rfl) (pe_op (op_addK (K := K) rfl) (pv 2) pe_int) (pv 3)))) pa_nil)))))), ?_⟩
  match vs, h with
  | [x0, x1], h =>
  replace h : s_weighted K x0 x1 H Q E := h
  try dsimp only [cxOf, Cx.nox, Cx.wish]
  show (_ : TS) { nx := fun _ H' => Q .non H', rt := Q } [some x0, some x1, none, none] H
  obtain ⟨q, ns, rfl, hq, hw, k⟩ := h
  have hw0 := hw
  obtain ⟨a, rfl, hs, hl, hg⟩ := hw0
  walk_at "sx"
  refine ⟨q, ns, rfl, hq, hw, fun H1 e1 => ?_⟩
  walk_at "sx"
  refine l_lc walk_enumT (PvI H1 fun i => ((i : Int) + 1) * ns.getD i 0) (fun D H2 hD e h2 => ⟨e, rfl⟩) (fun D i acc H2 _ _ p => Evl.ex_t (e1.trans p.1) hs) ?_ ?_
  · rintro D i acc x H2 H3 hD hi h2 ⟨e2, rfl⟩ ⟨T', y, z, rfl, hT, rfl, hy, hz⟩
    cases hy
    rw [List.length_map] at hi
    have ez : z = .int (ns.getD i 0) := (at_int hz).2
    subst ez
    refine g_tup (SqT.of upd_same) rfl ?_
    walk_at "sx"
    refine ⟨rfl, ?_⟩
    walk_at "sx"
    have hDT : D ≠ T' := ne_of_none h2 hT
    refine lc_end (Pv := PvI H1 fun i => ((i : Int) + 1) * ns.getD i 0) (by rw [upd_ne hDT]; exact h2) (by simp; omega) fun H6 e6 h6 => ⟨?_, ?_⟩
    · exact ExB.new (e2.trans (Evl.Ex.new hT)) e6 hD
    · rw [List.range_succ, List.map_append, List.map_append]; rfl
  · rintro D acc H2 hD h2 ⟨e2, rfl⟩
    walk_at "sx"
    rw [List.length_map] at h2
    exact l_sumL (SqL.of h2) (k _ (e1.trans e2))
end
section
variable {P : Program} {w : World} {K : PySem.W.Frag} {mg : Str → Option Value} {base : Heap}
theorem ok_want_rest (T : Txt K mg w) (o_is_number : FnOk P w K mg base CX0 1 T.a_is_number T.fd_is_number ["thing"] (sp_is_number K)) : FnOk P w K mg base CX0 2 T.a_want_rest T.fd_want_rest ["thing", "by"] (sp_want_rest K) := by
  refine T.F_want_rest.ok sc_want_rest (fun vs H Q E h => match vs, h with | [_, _], _ => rfl) (fun cdv A outer s H vs Q E hr h => ?_)
  refine ⟨_, ((pss_one (ps_if (PW.pt (pw_or (pt_not (pt_val (pe_call o_is_number hr rfl T.g_is_number T.F_is_number.kp T.b_is_number .nil pass0 (pa_cons (pv 0) pa_nil)))) (pw_or1 (pt_not (pt_chain (op_leQ (K := K) hr.units rfl) op_ltP pe_int (pv 0) (pv 1)))))) (pss_one ps_never) pss_nil))), ?_⟩
  match vs, h with
  | [x0, x1], h =>
  replace h : s_want_rest K x0 x1 H Q E := h
  try dsimp only [cxOf, Cx.nox, Cx.wish]
  show (_ : TS) { nx := fun _ H' => Q .non H', rt := Q } [some x0, some x1] H
  obtain ⟨k, m, rfl, rfl, hk, q⟩ := h
  walk_at "sx"
  refine ⟨"int", .int k, ?_⟩
  walk_at "sx"
  refine ifd (fun c => ?_) (fun c => absurd hk.1 c)
  walk_at "sx"
  refine ifdn (fun c => absurd hk.2 c) (fun c => ?_)
  walk_at "sx"
  exact q
end
section
variable {P : Program} {w : World} {K : PySem.W.Frag} {mg : Str → Option Value} {base : Heap}
theorem ok_ManyList_init (T : Txt K mg w) (o_want_rest : FnOk P w K mg base CX0 2 T.a_want_rest T.fd_want_rest ["thing", "by"] (sp_want_rest K)) (o_is_number : FnOk P w K mg base CX0 1 T.a_is_number T.fd_is_number ["thing"] (sp_is_number K)) : FnOk P w K mg base CX0 3 T.a_ManyList_init T.fd_ManyList_init ["self", "q", "n", "a", "b"] (sp_ManyList_init K) := by
  refine T.F_ManyList_init.ok sc_ManyList_init (fun vs H Q E h => match vs, h with | [_, _, _, _, _], _ => rfl) (fun cdv A outer s H vs Q E hr h => ?_)
  refine ⟨_, ((pss_cons (ps_if (PW.pt (pw_or (pt_not (pt_val (pe_call o_is_number (hr.mono (by decide)) rfl T.g_is_number T.F_is_number.kp T.b_is_number .nil pass0 (pa_cons (pv 1) pa_nil)))) (pw_or1 (pt_not (pt_chain (op_leQ (K := K) hr.units rfl) (op_leQ (K := K) hr.units rfl) (pe_glob (v := .int 2) rfl T.c_LEAST_SIGNS ⟨_, rfl⟩) (pv 1) (pe_glob (v := .int 10) rfl T.c_MOST_MANY_SIGNS ⟨_, rfl⟩)))))) (pss_one ps_never) pss_nil)
    (pss_cons (ps_if (PW.pt (pw_or (pt_not (pt_val (pe_call o_is_number (hr.mono (by decide)) rfl T.g_is_number T.F_is_number.kp T.b_is_number .nil pass0 (pa_cons (pv 2) pa_nil)))) (pw_or1 (pt_not (pt_chain (op_leQ (K := K) hr.units rfl) (op_leQ (K := K) hr.units rfl) (pe_glob (v := .int 2) rfl T.c_LEAST_MANY ⟨_, rfl⟩) (pv 2) (pe_glob (v := .int 24) rfl T.c_MOST_MANY ⟨_, rfl⟩)))))) (pss_one ps_never) pss_nil)
    (pss_cons (ps_expr (pe_call o_want_rest hr rfl T.g_want_rest T.F_want_rest.kp T.b_want_rest .nil pass0 (pa_cons (pv 3) (pa_cons (pv 2) pa_nil))))
    (pss_cons (ps_expr (pe_call o_want_rest hr rfl T.g_want_rest T.F_want_rest.kp T.b_want_rest .nil pass0 (pa_cons (pv 4) (pa_cons (pv 1) pa_nil))))
    (pss_cons (ps_fld (pv 0) (pv 1) rfl)
    (pss_cons (ps_fld (pv 0) (pv 2) rfl)
    (pss_one (ps_fld (pv 0) (pe_tup (pa_cons (pv 3) (pa_cons (pv 4) pa_nil))) rfl))))))))), ?_⟩
  match vs, h with
  | [x0, x1, x2, x3, x4], h =>
  replace h : s_ManyList_init K x0 x1 x2 x3 x4 H Q E := h
  try dsimp only [cxOf, Cx.nox, Cx.wish]
  show (_ : TS) { nx := fun _ H' => Q .non H', rt := Q } [some x0, some x1, some x2, some x3, some x4] H
  obtain ⟨p, C, dx, q, n, a, b, rfl, hC, hp, rfl, hq, rfl, hn, rfl, ha, rfl, hb, k⟩ := h
  have eC := hC.symm.trans T.nx_ManyList
  cases eC
  walk_at "sx"
  refine ⟨"int", .int q, ?_⟩
  walk_at "sx"
  refine ifd (fun c => ?_) (fun c => absurd hq.1 c)
  walk_at "sx"
  refine ifdn (fun c => absurd hq.2 c) (fun c => ?_)
  walk_at "sx"
  refine ⟨"int", .int n, ?_⟩
  walk_at "sx"
  refine ifd (fun c => ?_) (fun c => absurd hn.1 c)
  walk_at "sx"
  refine ifdn (fun c => absurd hn.2 c) (fun c => ?_)
  walk_at "sx"
  refine ⟨a, n, rfl, rfl, ha, ?_⟩
  walk_at "sx"
  refine ⟨b, q, rfl, rfl, hb, ?_⟩
  walk_at "sx"
  refine l_fldS hp T.cl_ManyList T.na_ManyList_many_signs (by simp) fun H1 e1 h1 => ?_
  walk_at "sx"
  refine l_fldS h1 T.cl_ManyList T.na_ManyList_many (putF_lt (by simp)) fun H2 e2 h2 => ?_
  walk_at "sx"
  refine w_newT (by simp) fun t H3 hn3 e3 h3 => ?_
  walk_at "sx"
  refine l_fldS (e3 _ _ h2) T.cl_ManyList T.na_ManyList_both_left (putF_lt2 (by simp)) fun H4 e4 h4 => ?_
  exact k _ (((e1.trans e2).ex e3).trans e4) ⟨t, ⟨p, _, dx, rfl, T.nx_ManyList, h4⟩, SqT.of (e4 _ _ (Ne.symm (ne_of_none h2 hn3)) h3)⟩
end
section
variable {P : Program} {w : World} {K : PySem.W.Frag} {mg : Str → Option Value} {base : Heap}
theorem ok_ManyList_signs (T : Txt K mg w) : FnOk P w K mg base CX0 1 T.a_ManyList_signs T.fd_ManyList_signs ["self"] (sp_ManyList_signs K) := by
  refine T.F_ManyList_signs.ok sc_ManyList_signs (fun vs H Q E h => match vs, h with | [_], _ => rfl) (fun cdv A outer s H vs Q E hr h => ?_)
  refine ⟨_, ((pss_one (ps_ret (pe_fldK (K := K) rfl (pv 0) rfl)))), ?_⟩
  match vs, h with
  | [x0], h =>
  replace h : s_ManyList_signs K x0 H Q E := h
  try dsimp only [cxOf, Cx.nox, Cx.wish]
  show (_ : TS) { nx := fun _ H' => Q .non H', rt := Q } [some x0] H
  obtain ⟨q, n, a, b, ⟨t, hp, ht⟩, k⟩ := h
  obtain ⟨p, dx, rfl, h1⟩ := hp.at_ T.nx_ManyList
  walk_at "sx"
  exact l_fld h1 T.cl_ManyList T.na_ManyList_many_signs rfl k
end
section
variable {P : Program} {w : World} {K : PySem.W.Frag} {mg : Str → Option Value} {base : Heap}
theorem ok_ManyList_length (T : Txt K mg w) : FnOk P w K mg base CX0 1 T.a_ManyList_length T.fd_ManyList_length ["self"] (sp_ManyList_length K) := by
  refine T.F_ManyList_length.ok sc_ManyList_length (fun vs H Q E h => match vs, h with | [_], _ => rfl) (fun cdv A outer s H vs Q E hr h => ?_)
  refine ⟨_, ((pss_one (ps_ret (pe_fldK (K := K) rfl (pv 0) rfl)))), ?_⟩
  match vs, h with
  | [x0], h =>
  replace h : s_ManyList_length K x0 H Q E := h
  try dsimp only [cxOf, Cx.nox, Cx.wish]
  show (_ : TS) { nx := fun _ H' => Q .non H', rt := Q } [some x0] H
  obtain ⟨q, n, a, b, ⟨t, hp, ht⟩, k⟩ := h
  obtain ⟨p, dx, rfl, h1⟩ := hp.at_ T.nx_ManyList
  walk_at "sx"
  exact l_fld h1 T.cl_ManyList T.na_ManyList_many rfl k
end
section
variable {P : Program} {w : World} {K : PySem.W.Frag} {mg : Str → Option Value} {base : Heap}
theorem ok_ManyList_rests (T : Txt K mg w) : FnOk P w K mg base CX0 1 T.a_ManyList_rests T.fd_ManyList_rests ["self"] (sp_ManyList_rests K) := by
  refine T.F_ManyList_rests.ok sc_ManyList_rests (fun vs H Q E h => match vs, h with | [_], _ => rfl) (fun cdv A outer s H vs Q E hr h => ?_)
  refine ⟨_, ((pss_one (ps_ret (pe_fldK (K := K) rfl (pv 0) rfl)))), ?_⟩
  match vs, h with
  | [x0], h =>
  replace h : s_ManyList_rests K x0 H Q E := h
  try dsimp only [cxOf, Cx.nox, Cx.wish]
  show (_ : TS) { nx := fun _ H' => Q .non H', rt := Q } [some x0] H
  obtain ⟨q, n, a, b, ⟨t, hp, ht⟩, k⟩ := h
  obtain ⟨p, dx, rfl, h1⟩ := hp.at_ T.nx_ManyList
  walk_at "sx"
  exact l_fld h1 T.cl_ManyList T.na_ManyList_both_left rfl (k t ht)
end
section
variable {P : Program} {w : World} {K : PySem.W.Frag} {mg : Str → Option Value} {base : Heap}
theorem ok_ManyList_has (T : Txt K mg w) (o_weighted : FnOk P w K mg base CX0 4 T.a_weighted T.fd_weighted ["q", "word"] (sp_weighted K)) (o_shape : FnOk P w K mg base CX0 4 T.a_shape T.fd_shape ["q", "word"] (sp_shape K)) (o_want_word : FnOk P w K mg base CX0 3 T.a_want_word T.fd_want_word ["q", "word"] (sp_want_word K)) : FnOk P w K mg base CX0 5 T.a_ManyList_has T.fd_ManyList_has ["self", "word"] (sp_ManyList_has K) := by
  refine T.F_ManyList_has.ok sc_ManyList_has (fun vs H Q E h => match vs, h with | [_, _], _ => rfl) (fun cdv A outer s H vs Q E hr h => ?_)
  refine ⟨_, ((pss_cons (ps_expr (pe_call o_want_word (hr.mono (by decide)) rfl T.g_want_word T.F_want_word.kp T.b_want_word .nil pass0 (pa_cons (pe_fldK (K := K) rfl (pv 0) rfl) (pa_cons (pv 1) pa_nil))))
    (pss_cons (ps_if (pt_cmpR (op_neK (K := K) hr.units rfl) (pe_callB (call_lenK (K := K) rfl) (by rfl) T.z_len (by decide +kernel) (pa_cons (pv 1) pa_nil)) (pe_fldK (K := K) rfl (pv 0) rfl) (nomark _)) (pss_one (ps_ret pe_bl)) pss_nil)
    (pss_cons (ps_set (i := 2) sc_ManyList_has.nd rfl (by first | exact Or.inl rfl | exact Or.inr rfl) (pe_op op_modP (pe_call o_weighted hr rfl T.g_weighted T.F_weighted.kp T.b_weighted .nil pass0 (pa_cons pe_int (pa_cons (pe_call o_shape hr rfl T.g_shape T.F_shape.kp T.b_shape .nil pass0 (pa_cons (pe_fldK (K := K) rfl (pv 0) rfl) (pa_cons (pv 1) pa_nil))) pa_nil))) (pe_fldK (K := K) rfl (pv 0) rfl)))
    (pss_one (ps_ret (pe_cmpR (op_eqK (K := K) hr.units rfl) (pe_tup (pa_cons (pv 2) (pa_cons (pe_op op_modP (pe_callB (cr_sumK (K := K) rfl rfl) (by rfl) T.z_sum (by decide +kernel) (pa_cons (pv 1) pa_nil)) (pe_fldK (K := K) rfl (pv 0) rfl)) pa_nil))) (pe_fldK (K := K) rfl (pv 0) rfl) (nomark _)))))))), ?_⟩
  match vs, h with
  | [x0, x1], h =>
  replace h : s_ManyList_has K x0 x1 H Q E := h
  try dsimp only [cxOf, Cx.nox, Cx.wish]
  show (_ : TS) { nx := fun _ H' => Q .non H', rt := Q } [some x0, some x1, none] H
  obtain ⟨q, n, a, b, ns, ⟨t, hp, ht⟩, hq, hn, hw, k⟩ := h
  obtain ⟨p, dx, rfl, h1⟩ := hp.at_ T.nx_ManyList
  walk_at "sx"
  refine l_fld h1 T.cl_ManyList T.na_ManyList_many_signs rfl ?_
  walk_at "sx"
  refine ⟨q, ns, rfl, by omega, hw, fun H1 e1 => ?_⟩
  have hw1 := hw.mono e1
  have hw0 := hw1
  obtain ⟨v, rfl, hs, hl, hg⟩ := hw0
  walk_at "sx"
  refine l_fld (e1 _ _ h1) T.cl_ManyList T.na_ManyList_many rfl ?_
  walk_at "sx"
  rw [List.length_map]
  refine ifdn (fun c => ?_) (fun c => ?_)
  · walk_at "sx"
    have kk := k _ e1
    unfold inML at kk
    rw [decide_eq_false c, Bool.false_and] at kk
    exact kk
  walk_at "sx"
  refine l_fld (e1 _ _ h1) T.cl_ManyList T.na_ManyList_many_signs rfl ?_
  walk_at "sx"
  refine ⟨q, ns, rfl, by omega, hw1, fun z => by rw [z] at c; simp at c; omega, fun ps H2 e2 h2 => ?_⟩
  walk_at "sx"
  refine ⟨2, shp ns, rfl, by omega, ⟨ps, rfl, h2, by rw [shp_len]; omega, shp_sg ns⟩, fun H3 e3 => ?_⟩
  have e13 := e1.trans (e2.trans e3)
  walk_at "sx"
  refine l_fld (e13 _ _ h1) T.cl_ManyList T.na_ManyList_many rfl ?_
  walk_at "sx"
  refine l_sumTp (Evl.ex_t (e2.trans e3) hs) ?_
  walk_at "sx"
  refine l_fld (e13 _ _ h1) T.cl_ManyList T.na_ManyList_many_signs rfl ?_
  walk_at "sx"
  refine w_newT (by simp) fun p4 H4 _ e4 h4 => ?_
  walk_at "sx"
  refine l_fld ((e13.trans e4) _ _ h1) T.cl_ManyList T.na_ManyList_both_left rfl ?_
  refine l_eqD (.tup (SqT.of h4) (dp_ints [wsum (shp ns) % n, ns.sum % q])) (.tup (Evl.ex_t (e13.trans e4) ht) (dp_ints [a, b])) (shaped_ints _) (shaped_ints _) ?_
  rw [eqvT_ints]
  have kk := k _ (e13.trans e4)
  unfold inML at kk
  rw [decide_eq_true c, Bool.true_and] at kk
  exact kk
end
section
variable {P : Program} {w : World} {K : PySem.W.Frag} {mg : Str → Option Value} {base : Heap}
theorem ok_words_ahead_of (T : Txt K mg w) (o_lost_ring : FnOk P w K mg base CX0 4 T.a_lost_ring T.fd_lost_ring ["q", "word"] (sp_lost_ring K)) (o_ManyList_signs : FnOk P w K mg base CX0 1 T.a_ManyList_signs T.fd_ManyList_signs ["self"] (sp_ManyList_signs K)) (o_ManyList_length : FnOk P w K mg base CX0 1 T.a_ManyList_length T.fd_ManyList_length ["self"] (sp_ManyList_length K)) (o_put_ring : FnOk P w K mg base CX0 4 T.a_put_ring T.fd_put_ring ["q", "word"] (sp_put_ring K)) : FnOk P w K mg base CX0 5 T.a_words_ahead_of T.fd_words_ahead_of ["many", "came"] (sp_words_ahead_of K) := by
  refine T.F_words_ahead_of.ok sc_words_ahead_of (fun vs H Q E h => match vs, h with | [_, _], _ => rfl) (fun cdv A outer s H vs Q E hr h => ?_)
  refine ⟨_, ((pss_cons (ps_if (pt_cmpR (op_eqK (K := K) hr.units rfl) (pe_callB (call_lenK (K := K) rfl) (by rfl) T.z_len (by decide +kernel) (pa_cons (pv 1) pa_nil)) (pe_op op_subP (pe_meth0 (pv 0) T.cl_ManyList T.m_ManyList_length o_ManyList_length (hr.mono (by decide)) T.b_ManyList_length .nil pass0) pe_int) (nomark _)) (pss_one (ps_ret (pe_call o_put_ring hr rfl T.g_put_ring T.F_put_ring.kp T.b_put_ring .nil pass0 (pa_cons (pe_meth0 (pv 0) T.cl_ManyList T.m_ManyList_signs o_ManyList_signs (hr.mono (by decide)) T.b_ManyList_signs .nil pass0) (pa_cons (pv 1) pa_nil))))) pss_nil)
    (pss_cons (ps_if (pt_cmpR (op_eqK (K := K) hr.units rfl) (pe_callB (call_lenK (K := K) rfl) (by rfl) T.z_len (by decide +kernel) (pa_cons (pv 1) pa_nil)) (pe_meth0 (pv 0) T.cl_ManyList T.m_ManyList_length o_ManyList_length (hr.mono (by decide)) T.b_ManyList_length .nil pass0) (nomark _)) (pss_one (ps_ret (pe_lst (pa_cons (pv 1) pa_nil)))) pss_nil)
    (pss_one (ps_ret (pe_call o_lost_ring hr rfl T.g_lost_ring T.F_lost_ring.kp T.b_lost_ring .nil pass0 (pa_cons (pe_meth0 (pv 0) T.cl_ManyList T.m_ManyList_signs o_ManyList_signs (hr.mono (by decide)) T.b_ManyList_signs .nil pass0) (pa_cons (pv 1) pa_nil)))))))), ?_⟩
  match vs, h with
  | [x0, x1], h =>
  replace h : s_words_ahead_of K x0 x1 H Q E := h
  try dsimp only [cxOf, Cx.nox, Cx.wish]
  show (_ : TS) { nx := fun _ H' => Q .non H', rt := Q } [some x0, some x1] H
  obtain ⟨q, n, a0, b0, ns, hP, hq, hn, hw, hl2, kk⟩ := h
  have hw0 := hw
  obtain ⟨a, rfl, hs, hl, hg⟩ := hw0
  have hP0 := hP
  obtain ⟨tt, hI, _⟩ := hP0
  obtain ⟨o, dx, rfl, ho⟩ := hI.at_ T.nx_ManyList
  have hb1 : (ns.length + 1) * q ≤ 1200 := Nat.le_trans (Nat.mul_le_mul (show ns.length + 1 ≤ 26 by omega) hq.2) (by decide)
  walk_at "sx"
  refine l_meth ho rfl ?_
  walk_at "sx"
  refine ⟨q, n, a0, b0, hP, ?_⟩
  walk_at "sx"
  rw [List.length_map]
  unfold candsM at kk
  refine ifd (fun c => ?_) (fun c => ?_)
  · rw [if_pos c] at kk
    walk_at "sx"
    refine l_meth ho rfl ?_
    walk_at "sx"
    refine ⟨q, n, a0, b0, hP, ?_⟩
    walk_at "sx"
    exact ⟨q, ns, rfl, by omega, hw, by omega, hb1, fun p ys us H' h1 h2 h3 h4 h5 => kk p ys us H' h1 h2 h3 h4 h5.1⟩
  rw [if_neg c] at kk
  walk_at "sx"
  refine l_meth ho rfl ?_
  walk_at "sx"
  refine ⟨q, n, a0, b0, hP, ?_⟩
  walk_at "sx"
  rw [List.length_map]
  refine ifd (fun c => ?_) (fun c => ?_)
  · rw [if_pos (by omega)] at kk
    walk_at "sx"
    refine w_newL (by simp) fun f H2 hn2 e2 h2 => ?_
    exact kk f _ [ns] _ hn2 e2 h2 (.cons ⟨a, rfl, Evl.ex_t e2 hs⟩ .nil) fun w => Iff.rfl
  · rw [if_neg (by omega)] at kk
    walk_at "sx"
    refine l_meth ho rfl ?_
    walk_at "sx"
    refine ⟨q, n, a0, b0, hP, ?_⟩
    walk_at "sx"
    exact ⟨q, ns, rfl, by omega, hw, fun p ys us H' h1 h2 h3 h4 h5 => kk p ys us H' h1 h2 h3 h4 h5.1⟩
end
section
variable {P : Program} {w : World} {K : PySem.W.Frag} {mg : Str → Option Value} {base : Heap}
theorem ok_many_mended (T : Txt K mg w) (o_words_ahead_of : FnOk P w K mg base CX0 5 T.a_words_ahead_of T.fd_words_ahead_of ["many", "came"] (sp_words_ahead_of K)) (o_ManyList_has : FnOk P w K mg base CX0 5 T.a_ManyList_has T.fd_ManyList_has ["self", "word"] (sp_ManyList_has K)) (o_ManyList_length : FnOk P w K mg base CX0 1 T.a_ManyList_length T.fd_ManyList_length ["self"] (sp_ManyList_length K)) (o_want_word : FnOk P w K mg base CX0 3 T.a_want_word T.fd_want_word ["q", "word"] (sp_want_word K)) (o_ManyList_signs : FnOk P w K mg base CX0 1 T.a_ManyList_signs T.fd_ManyList_signs ["self"] (sp_ManyList_signs K)) : FnOk P w K mg base CX0 6 T.a_many_mended T.fd_many_mended ["many", "came"] (sp_many_mended K) := by
  refine T.F_many_mended.ok sc_many_mended (fun vs H Q E h => match vs, h with | [_, _], _ => rfl) (fun cdv A outer s H vs Q E hr h => ?_)
  refine ⟨_, ((pss_cons (ps_expr (pe_call o_want_word (hr.mono (by decide)) rfl T.g_want_word T.F_want_word.kp T.b_want_word .nil pass0 (pa_cons (pe_meth0 (pv 0) T.cl_ManyList T.m_ManyList_signs o_ManyList_signs (hr.mono (by decide)) T.b_ManyList_signs .nil pass0) (pa_cons (pv 1) pa_nil))))
    (pss_cons (ps_if (pt_cmpR op_gtP (pe_callB call_absP (by rfl) T.z_abs (by decide +kernel) (pa_cons (pe_op op_subP (pe_callB (call_lenK (K := K) rfl) (by rfl) T.z_len (by decide +kernel) (pa_cons (pv 1) pa_nil)) (pe_meth0 (pv 0) T.cl_ManyList T.m_ManyList_length o_ManyList_length (hr.mono (by decide)) T.b_ManyList_length .nil pass0)) pa_nil)) pe_int (nomark _)) (pss_one ps_never) pss_nil)
    (pss_cons (ps_for PassesOwn.never rfl (pi_seqK (K := K) rfl (pe_call o_words_ahead_of hr rfl T.g_words_ahead_of T.F_words_ahead_of.kp T.b_words_ahead_of .nil pass0 (pa_cons (pv 0) (pa_cons (pv 1) pa_nil)))) (pg_name (i := 2) sc_many_mended.nd rfl (by first | exact Or.inl rfl | exact Or.inr rfl)) (pss_one (ps_if (pt_val (pe_meth (pv 0) T.cl_ManyList T.m_ManyList_has o_ManyList_has hr T.b_ManyList_has .nil pass0 (pa_cons (pv 2) pa_nil))) (pss_one (ps_ret (pv 2))) pss_nil)))
    (pss_one (ps_ret pe_non)))))), ?_⟩
  match vs, h with
  | [x0, x1], h =>
  replace h : s_many_mended K x0 x1 H Q E := h
  try dsimp only [cxOf, Cx.nox, Cx.wish]
  show (_ : TS) { nx := fun _ H' => Q .non H', rt := Q } [some x0, some x1, none] H
  obtain ⟨q, n, a, b0, ns, hP, hq, hn, hw, hl2, kk⟩ := h
  have hw0 := hw
  obtain ⟨b, rfl, hs, hl, hg⟩ := hw0
  have hPa := hP
  obtain ⟨t0, hI0, _⟩ := hPa
  obtain ⟨p, dx, rfl, h0⟩ := hI0.at_ T.nx_ManyList
  walk_at "sx"
  refine l_meth h0 rfl ?_
  walk_at "sx"
  refine ⟨q, n, a, b0, hP, ?_⟩
  walk_at "sx"
  refine ⟨q, ns, rfl, by omega, hw, fun H1 e1 => ?_⟩
  replace hP := hP.mono e1
  replace hw := hw.mono e1
  replace hs := Evl.ex_t e1 hs
  have h1 := e1 _ _ h0
  walk_at "sx"
  refine l_meth h1 rfl ?_
  walk_at "sx"
  refine ⟨q, n, a, b0, hP, ?_⟩
  walk_at "sx"
  rw [List.length_map]
  refine ifd (fun c => ?_) (fun c => ?_)
  · exfalso
    split at c <;> omega
  walk_at "sx"
  refine ⟨q, n, a, b0, ns, hP, hq, hn, hw, hl2, fun f ys us H2 hf e2 h2 hW hm => ?_⟩
  walk_at "sx"
  refine l_forL (fun i σ H3 => Ex H2 H3 ∧ (∃ v2, σ = [some (.ref p), some (.ref b), v2]) ∧ ∀ u ∈ us.take i, inML q n a b0 u = false) ⟨Evl.Ex.refl _, ⟨_, rfl⟩, fun u hu => by simp at hu⟩ (fun i σ H3 _ ⟨e, _⟩ => SqL.of (e _ _ h2)) ?_ ?_
  · rintro i x σ H3 hi hx ⟨e3, ⟨v2, rfl⟩, hno⟩
    obtain ⟨u, hu, b2, rfl, hb2⟩ := pd_at hW hx
    have hb3 := Evl.ex_t e3 hb2
    have huc := (hm u).mp (List.mem_of_getElem? hu)
    have hwb : u.length ≤ 60 ∧ Sg q u := by
      have := candsM_wb hg hl2 huc
      exact ⟨by omega, this.2⟩
    walk_at "sx"
    refine l_meth (e3 _ _ (e2 _ _ h1)) rfl ?_
    walk_at "sx"
    refine ⟨q, n, a, b0, u, hP.mono (e2.trans e3), by omega, by omega, ⟨b2, rfl, hb3, hwb.1, hwb.2⟩, fun H4 e4 => ?_⟩
    walk_at "sx"
    refine ifb (fun c => ?_) (fun c => ?_)
    · walk_at "sx"
      exact kk _ _ (e1.trans (e2.trans (e3.trans e4))) (.inl ⟨u, ⟨b2, rfl, Evl.ex_t e4 hb3⟩, huc, c⟩)
    · walk_at "sx"
      refine ⟨e3.trans e4, ⟨_, rfl⟩, fun w hw => ?_⟩
      rw [take_at hu] at hw
      rcases List.mem_append.mp hw with hw | hw
      · exact hno w hw
      · rw [List.mem_singleton.mp hw]; exact c
  · rintro σ H3 ⟨e3, ⟨v2, rfl⟩, hno⟩
    walk_at "sx"
    rw [show ys.length = us.length from Paired.length hW, List.take_length] at hno
    exact kk _ _ (e1.trans (e2.trans e3)) (.inr ⟨rfl, fun u hu => hno u ((hm u).mpr hu)⟩)
end
section
variable {P : Program} {w : World} {K : PySem.W.Frag} {mg : Str → Option Value} {base : Heap}
theorem ok_code_of (T : Txt K mg w) : FnOk P w K mg base CX0 1 T.a_code_of T.fd_code_of ["q", "n", "sign", "shape_left", "sum_left"] (sp_code_of K) := by
  refine T.F_code_of.ok sc_code_of (fun vs H Q E h => match vs, h with | [_, _, _, _, _], _ => rfl) (fun cdv A outer s H vs Q E hr h => ?_)
  refine ⟨_, ((pss_one (ps_ret (pe_op (op_addK (K := K) rfl) (pe_op (op_mulK (K := K) rfl) (pe_op (op_addK (K := K) rfl) (pe_op (op_mulK (K := K) rfl) (pv 2) (pv 1)) (pe_op op_modP (pv 3) (pv 1))) (pv 0)) (pe_op op_modP (pv 4) (pv 0)))))), ?_⟩
  match vs, h with
  | [x0, x1, x2, x3, x4], h =>
  replace h : s_code_of K x0 x1 x2 x3 x4 H Q E := h
  try dsimp only [cxOf, Cx.nox, Cx.wish]
  show (_ : TS) { nx := fun _ H' => Q .non H', rt := Q } [some x0, some x1, some x2, some x3, some x4] H
  obtain ⟨q, n, x, s, t, rfl, hq, rfl, hn, rfl, rfl, rfl, k⟩ := h
  walk_at "sx"
  exact k
end
section
variable {P : Program} {w : World} {K : PySem.W.Frag} {mg : Str → Option Value} {base : Heap}
theorem ok_ways_behind (T : Txt K mg w) (o_code_of : FnOk P w K mg base CX0 1 T.a_code_of T.fd_code_of ["q", "n", "sign", "shape_left", "sum_left"] (sp_code_of K)) : FnOk P w K mg base CX0 2 T.a_ways_behind T.fd_ways_behind ["q", "n", "place", "later", "code"] (sp_ways_behind K) := by
  refine T.F_ways_behind.ok sc_ways_behind (fun vs H Q E h => match vs, h with | [_, _, _, _, _], _ => rfl) (fun cdv A outer s H vs Q E hr h => ?_)
  refine ⟨_, ((pss_cons (ps_set (i := 5) sc_ways_behind.nd rfl (by first | exact Or.inl rfl | exact Or.inr rfl) (pe_op op_divP (pe_op op_divP (pv 4) (pv 0)) (pv 1)))
    (pss_cons (ps_set (i := 6) sc_ways_behind.nd rfl (by first | exact Or.inl rfl | exact Or.inr rfl) (pe_op op_modP (pe_op op_divP (pv 4) (pv 0)) (pv 1)))
    (pss_cons (ps_set (i := 7) sc_ways_behind.nd rfl (by first | exact Or.inl rfl | exact Or.inr rfl) (pe_op op_modP (pv 4) (pv 0)))
    (pss_cons (ps_set (i := 8) sc_ways_behind.nd rfl (by first | exact Or.inl rfl | exact Or.inr rfl) pe_int)
    (pss_cons (ps_for PassesOwn.never rfl (pi_range1 rfl T.z_range (pa_cons (pv 0) pa_nil)) (pg_name (i := 9) sc_ways_behind.nd rfl (by first | exact Or.inl rfl | exact Or.inr rfl)) (pss_one (ps_aug (i := 8) sc_ways_behind.nd rfl (by first | exact Or.inl rfl | exact Or.inr rfl) (pe_ix (ix_K (K := K) rfl) (pv 3) (pe_call o_code_of hr rfl T.g_code_of T.F_code_of.kp T.b_code_of .nil pass0 (pa_cons (pv 0) (pa_cons (pv 1) (pa_cons (pv 9) (pa_cons (pe_op op_subP (pv 6) (pe_op (op_mulK (K := K) rfl) (pv 2) (pe_callTy call_intP (by rfl) T.z_int (by decide +kernel) (pa_cons (pe_cmpR op_geP (pv 9) (pv 5) (nomark _)) pa_nil)))) (pa_cons (pe_op op_subP (pv 7) (pv 9)) pa_nil)))))) (fun _ _ => rfl)) ip_add)))
    (pss_one (ps_ret (pv 8))))))))), ?_⟩
  match vs, h with
  | [x0, x1, x2, x3, x4], h =>
  replace h : s_ways_behind K x0 x1 x2 x3 x4 H Q E := h
  try dsimp only [cxOf, Cx.nox, Cx.wish]
  show (_ : TS) { nx := fun _ H' => Q .non H', rt := Q } [some x0, some x1, some x2, some x3, some x4, none, none, none, none, none] H
  obtain ⟨q, n, m, c, b, rfl, hq, rfl, hn, rfl, hm, rfl, hb, rfl, hc, k⟩ := h
  walk_at "sx"
  refine l_forR (fun i σ Hx => ∃ v9, σ = [some (.int q), some (.int n), some (.int ((n : Int) - ((m + 1 : Nat) : Int))), some (.ref b), some (.int c), some (.int ((c / q / n : Nat) : Int)), some (.int ((c / q % n : Nat) : Int)), some (.int ((c % q : Nat) : Int)), some (.int (wb q n m ((c / q / n : Nat) : Int) ((c / q % n : Nat) : Int) ((c % q : Nat) : Int) i)), v9] ∧ Hx = H) ⟨_, rfl, rfl⟩ ?_ ?_
  · rintro i σ Hx hi ⟨v9, rfl, rfl⟩
    walk_at "sx"
    refine ⟨q, n, _, _, _, rfl, by omega, rfl, by omega, rfl, rfl, rfl, ?_⟩
    walk_at "sx"
    have hi' : i < q := by omega
    rw [Int.zero_add]
    have ed : (if decide (((c / q / n : Nat) : Int) ≤ (i : Int)) = true then (1 : Int) else 0) = ind ((c / q / n : Nat) : Int) (i : Int) := by
      unfold ind
      simp only [decide_eq_true_eq]
    rw [ed]
    refine l_ixL (SqL.of hb) (Tb_at (by omega) (by omega) hi' _ _) ?_
    walk_at "sx"
    refine ⟨some (.int (i : Int)), ?_, rfl⟩
    rw [wb_sum, wb_sum, List.range_succ, List.map_append, List.sum_append]
    simp
  · rintro σ Hx ⟨v9, rfl, rfl⟩
    walk_at "sx"
    exact k
end
section
variable {P : Program} {w : World} {K : PySem.W.Frag} {mg : Str → Option Value} {base : Heap}
def PvT0 (H : Hp) (q n : Nat) : Addr → Nat → List V → Hp → Prop := fun _ r acc H1 => Ex H H1 ∧ acc = ((List.range r).map fun (c : Nat) => wy q n 0 ((c / q / n : Nat) : Int) ((c / q % n : Nat) : Int) ((c % q : Nat) : Int)).map V.int
def PvT (H : Hp) (q n m : Nat) : Addr → Nat → List V → Hp → Prop := fun _ r acc H1 => Ex H H1 ∧ acc = ((List.range r).map fun (c : Nat) => wy q n m ((c / q / n : Nat) : Int) ((c / q % n : Nat) : Int) ((c % q : Nat) : Int)).map V.int
/-- the tables that are there, other lists than f, made behind H0 -/
def TbQ (H : Hp) (f : Addr) (q n : Nat) (xs : List V) (ms : List Nat) : Prop := Paired (fun x m => ∃ b, x = V.ref b ∧ b ≠ f ∧ H b = some (.lst ((Tb q n m).map V.int))) xs ms
theorem ok_tables_of (T : Txt K mg w) (o_ways_behind : FnOk P w K mg base CX0 2 T.a_ways_behind T.fd_ways_behind ["q", "n", "place", "later", "code"] (sp_ways_behind K)) : FnOk P w K mg base CX0 3 T.a_tables_of T.fd_tables_of ["q", "n"] (sp_tables_of K) := by
  refine T.F_tables_of.ok sc_tables_of (fun vs H Q E h => match vs, h with | [_, _], _ => rfl) (fun cdv A outer s H vs Q E hr h => ?_)
  refine ⟨_, ((pss_cons (ps_set (i := 2) sc_tables_of.nd rfl (by first | exact Or.inl rfl | exact Or.inr rfl) (pe_lst (pa_cons (pe_lc (own := [("code", 4)]) (g := (gName 4)) (tt := tYes) rfl sc_tables_of.nd (pi_range1 rfl T.z_range (pa_cons (pe_op (op_mulK (K := K) rfl) (pe_op (op_mulK (K := K) rfl) (pv 0) (pv 1)) (pv 0)) pa_nil)) (blkOk_by (own := [("code", 4)]) (N := ["q", "n", "found", "place", "code"]) (sc := defScope S_tables_of) (by decide +kernel)) (fun _ _ _ _ _ => (pg_name (i := 4) sc_tables_of.nd rfl (by first | exact Or.inl rfl | exact Or.inr rfl))) (fun _ _ _ _ _ => pts_nil) (fun _ _ _ _ _ => (pe_callTy call_intP (by rfl) T.z_int (by decide +kernel) (pa_cons (pe_cmpR (op_eqK (K := K) hr.units rfl) (pe_op op_modP (pv 4) (pe_op (op_mulK (K := K) rfl) (pv 0) (pv 1))) pe_int (nomark _)) pa_nil)))) pa_nil)))
    (pss_cons (ps_for PassesOwn.never rfl (pi_range3 rfl T.z_range (pa_cons (pe_op op_subP (pv 1) pe_int) (pa_cons pe_int (pa_cons (pe_un un_neg pe_int) pa_nil)))) (pg_name (i := 3) sc_tables_of.nd rfl (by first | exact Or.inl rfl | exact Or.inr rfl)) (pss_one (ps_expr (pe_bmK (K := K) rfl (pe_bm PySem.F.plainAttrs_list PySem.F.slot_list_insert PySem.F.type_list_insert mt_insP (pv 2) (pa_cons pe_int (pa_cons (pe_lc (own := [("code", 4)]) (g := (gName 4)) (tt := tYes) rfl sc_tables_of.nd (pi_range1 rfl T.z_range (pa_cons (pe_op (op_mulK (K := K) rfl) (pe_op (op_mulK (K := K) rfl) (pv 0) (pv 1)) (pv 0)) pa_nil)) (blkOk_by (own := [("code", 4)]) (N := ["q", "n", "found", "place", "code"]) (sc := defScope S_tables_of) (by decide +kernel)) (fun _ _ _ _ _ => (pg_name (i := 4) sc_tables_of.nd rfl (by first | exact Or.inl rfl | exact Or.inr rfl))) (fun _ _ _ _ _ => pts_nil) (fun _ _ _ _ _ => (pe_call o_ways_behind hr rfl T.g_ways_behind T.F_ways_behind.kp T.b_ways_behind .nil pass0 (pa_cons (pv 0) (pa_cons (pv 1) (pa_cons (pv 3) (pa_cons (pe_ix (ix_K (K := K) rfl) (pv 2) pe_int (fun _ _ => rfl)) (pa_cons (pv 4) pa_nil)))))))) pa_nil)))))))
    (pss_one (ps_ret (pv 2)))))), ?_⟩
  match vs, h with
  | [x0, x1], h =>
  replace h : s_tables_of K x0 x1 H Q E := h
  try dsimp only [cxOf, Cx.nox, Cx.wish]
  show (_ : TS) { nx := fun _ H' => Q .non H', rt := Q } [some x0, some x1, none, none, none] H
  obtain ⟨q, n, rfl, hq, rfl, hn, k⟩ := h
  have hqn : (q : Int) * (n : Int) = ((q * n : Nat) : Int) := by push_cast; rfl
  walk_at "sx"
  have hc : (q : Int) * (n : Int) * (q : Int) = ((q * n * q : Nat) : Int) := by push_cast; rfl
  have hcB : q * n * q ≤ 2400 := Nat.le_trans (Nat.mul_le_mul (Nat.mul_le_mul hq.2 hn.2) hq.2) (by decide)
  rw [hc]
  refine l_rng1 (by omega) ?_
  walk_at "sx"
  refine l_lc walk_range (PvT H q n 0) (fun D H6 _ e6 _ => ⟨e6, rfl⟩) (fun _ _ _ _ _ _ _ => True.intro) ?_ ?_
  · rintro D r acc y H6 H7 hD hr h6 ⟨e6, rfl⟩ ⟨rfl, rfl⟩
    walk_at "sx"
    refine ⟨rfl, ?_⟩
    walk_at "sx"
    refine l_mod (Int.mul_pos (by omega) (by omega)) ?_
    walk_at "sx"
    rw [Int.zero_add, hqn]
    have ed : (if decide ((r : Int) % ((q * n : Nat) : Int) = 0) = true then (1 : Int) else 0) = wy q n 0 ((r / q / n : Nat) : Int) ((r / q % n : Nat) : Int) ((r % q : Nat) : Int) := by
      rw [wy0 (by omega)]
      have h1 : ((r : Int) % ((q * n : Nat) : Int) = 0) ↔ r % (q * n) = 0 := by
        rw [← Int.natCast_emod]
        omega
      simp only [decide_eq_true_eq, h1]
    rw [ed]
    refine lc_end (Pv := PvT H q n 0) h6 (by simp; omega) fun H8 e8 h8 => ⟨ExB.new e6 e8 hD, ?_⟩
    rw [List.range_succ, List.map_append, List.map_append]
    rfl
  · rintro D acc H6 hD h6 ⟨e6, rfl⟩
    walk_at "sx"
    refine w_newL (by simp) fun f H1 hf e1 h1 => ?_
    have e6o := e6
    have hDf : D ≠ f := ne_of_none h6 hf
    walk_at "sx"
    refine l_forC (fun i σ Hx => ∃ xs v3 v4, σ = [some (.int q), some (.int n), some (.ref f), v3, v4] ∧ Ex H Hx ∧ Hx f = some (.lst xs) ∧ TbQ Hx f q n xs (List.range (i + 1)).reverse) ⟨_, _, _, rfl, e6.trans e1, h1, .cons ⟨D, rfl, hDf, ?_⟩ .nil⟩ ?_ ?_
    · rw [e1 _ _ h6]
      unfold Tb
      rw [show ((q * n * q : Nat) : Int).toNat = q * n * q by omega]
    · rintro i σ Hx hi ⟨xs, v3, v4, rfl, ex, hfx, hR⟩
      obtain ⟨x, hx, b, rfl, nb, hb⟩ := pd_at2 hR (i := 0) (y := i) (by rw [List.getElem?_reverse (by simp)]; simp)
      have hxs : xs.length = i + 1 := by rw [Paired.length hR]; simp
      walk_at "sx"
      have hDm : i + 1 + 1 ≤ n := by omega
      rw [hc]
      refine l_lc walk_range (PvT Hx q n (i + 1)) (fun D H6 _ e6 _ => ⟨e6, rfl⟩) (fun _ _ _ _ _ _ _ => True.intro) ?_ ?_
      · rintro D r acc y H6 H7 hD hr h6 ⟨e6, rfl⟩ ⟨rfl, rfl⟩
        walk_at "sx"
        refine ⟨rfl, ?_⟩
        walk_at "sx"
        rw [Int.zero_add]
        refine l_ixL (SqL.of (e6 _ _ hfx)) (show atI xs 0 = some (.ref b) from atI_nat hx) ?_
        walk_at "sx"
        refine ⟨q, n, i, r, b, rfl, hq, rfl, hn, by congr 1; omega, by omega, rfl, e6 _ _ hb, rfl, by omega, ?_⟩
        refine lc_end (Pv := PvT Hx q n (i + 1)) h6 (by simp; omega) fun H8 e8 h8 => ⟨ExB.new e6 e8 hD, ?_⟩
        rw [List.range_succ, List.map_append, List.map_append]
        rfl
      · rintro D acc H6 hD h6 ⟨e6, rfl⟩
        have hfD : f ≠ D := ne_of_none hfx hD
        walk_at "sx"
        refine l_ins0 (e6 _ _ hfx) (by rw [hxs]; omega) fun H7 e7 h7 => ?_
        walk_at "sx"
        refine ⟨_, _, _, rfl, ExB.new (ex.trans e6) e7 (Evl.fresh_back e6o hf), h7, ?_⟩
        rw [List.range_succ (n := i + 1), List.reverse_append]
        refine pd_app (xs := [V.ref D]) (ys := [i + 1]) (.cons ⟨D, rfl, Ne.symm hfD, ?_⟩ .nil) (Paired.mapP hR fun _ _ ⟨b, e1, nb, hb⟩ => ⟨b, e1, nb, e7 _ _ nb (e6 _ _ hb)⟩)
        rw [e7 _ _ (Ne.symm hfD) h6]
        unfold Tb
        rw [show ((q * n * q : Nat) : Int).toNat = q * n * q by omega]
    · rintro σ Hx ⟨xs, v3, v4, rfl, ex, hfx, hR⟩
      walk_at "sx"
      rw [show ((n : Int) - 1 - 0).toNat + 1 = n by omega] at hR
      exact k f _ ex ⟨xs, hfx, Paired.mapP hR fun _ _ ⟨b, e1, _, hb⟩ => ⟨b, e1, hb⟩⟩
end
section
variable {P : Program} {w : World} {K : PySem.W.Frag} {mg : Str → Option Value} {base : Heap}
theorem ok_Walk_init (T : Txt K mg w) (o_tables_of : FnOk P w K mg base CX0 3 T.a_tables_of T.fd_tables_of ["q", "n"] (sp_tables_of K)) (o_ManyList_rests : FnOk P w K mg base CX0 1 T.a_ManyList_rests T.fd_ManyList_rests ["self"] (sp_ManyList_rests K)) (o_ManyList_length : FnOk P w K mg base CX0 1 T.a_ManyList_length T.fd_ManyList_length ["self"] (sp_ManyList_length K)) (o_ManyList_signs : FnOk P w K mg base CX0 1 T.a_ManyList_signs T.fd_ManyList_signs ["self"] (sp_ManyList_signs K)) : FnOk P w K mg base CX0 4 T.a_Walk_init T.fd_Walk_init ["self", "many"] (sp_Walk_init K) := by
  refine T.F_Walk_init.ok sc_Walk_init (fun vs H Q E h => match vs, h with | [_, _], _ => rfl) (fun cdv A outer s H vs Q E hr h => ?_)
  refine ⟨_, ((pss_cons (ps_fld (pv 0) (pe_meth0 (pv 1) T.cl_ManyList T.m_ManyList_signs o_ManyList_signs (hr.mono (by decide)) T.b_ManyList_signs .nil pass0) rfl)
    (pss_cons (ps_fld (pv 0) (pe_meth0 (pv 1) T.cl_ManyList T.m_ManyList_length o_ManyList_length (hr.mono (by decide)) T.b_ManyList_length .nil pass0) rfl)
    (pss_cons (ps_asg (pe_meth0 (pv 1) T.cl_ManyList T.m_ManyList_rests o_ManyList_rests (hr.mono (by decide)) T.b_ManyList_rests .nil pass0) (pg_tupK (K := K) rfl rfl (pgs_cons (pg_fld (K := K) rfl (pv 0)) (pgs_cons (pg_fld (K := K) rfl (pv 0)) pgs_nil))))
    (pss_cons (ps_fld (pv 0) (pe_call o_tables_of hr rfl T.g_tables_of T.F_tables_of.kp T.b_tables_of .nil pass0 (pa_cons (pe_fldK (K := K) rfl (pv 0) rfl) (pa_cons (pe_fldK (K := K) rfl (pv 0) rfl) pa_nil))) rfl)
    (pss_cons (ps_fld (pv 0) pe_int rfl)
    (pss_one (ps_fld (pv 0) pe_int rfl)))))))), ?_⟩
  match vs, h with
  | [x0, x1], h =>
  replace h : s_Walk_init K x0 x1 H Q E := h
  try dsimp only [cxOf, Cx.nox, Cx.wish]
  show (_ : TS) { nx := fun _ H' => Q .non H', rt := Q } [some x0, some x1] H
  obtain ⟨p, C, dx, q, n, a, b, rfl, hC, hp, hM, hq, hn, k⟩ := h
  have eC := hC.symm.trans T.nx_Walk
  cases eC
  obtain ⟨t, hM1, hM2⟩ := id hM
  obtain ⟨o, dx1, rfl, h1⟩ := hM1.at_ T.nx_ManyList
  walk_at "sx"
  have hop : o ≠ p := fun z => by
    rw [z, hp] at h1
    injection h1 with e
    injection e with _ _ e3
    cases e3
  refine l_meth h1 rfl ?_
  walk_at "sx"
  refine ⟨q, n, a, b, hM, ?_⟩
  walk_at "sx"
  refine l_fldS hp T.cl_Walk T.na_Walk_q (by simp) fun H1 e1 g1 => ?_
  have h11 := e1 _ _ hop h1
  have hM_1 : ML K H1 (.ref o) q n a b := ⟨t, ⟨o, _, dx1, rfl, T.nx_ManyList, h11⟩, insT e1 hp hM2⟩
  walk_at "sx"
  refine l_meth h11 rfl ?_
  walk_at "sx"
  refine ⟨q, n, a, b, hM_1, ?_⟩
  walk_at "sx"
  refine l_fldS g1 T.cl_Walk T.na_Walk_n (putF_lt (by simp)) fun H2 e2 g2 => ?_
  have h12 := e2 _ _ hop h11
  have hM_2 : ML K H2 (.ref o) q n a b := ⟨t, ⟨o, _, dx1, rfl, T.nx_ManyList, h12⟩, insT e2 g1 (insT e1 hp hM2)⟩
  walk_at "sx"
  refine l_meth h12 rfl ?_
  walk_at "sx"
  refine ⟨q, n, a, b, hM_2, fun t2 ht2 => ?_⟩
  walk_at "sx"
  refine l_fldS g2 T.cl_Walk T.na_Walk_shape_left (putF_lt2 (by simp)) fun H3 e3 g3 => ?_
  walk_at "sx"
  refine l_fldS g3 T.cl_Walk T.na_Walk_sum_left (putF_lt3 (by simp)) fun H4 e4 g4 => ?_
  walk_at "sx"
  refine l_fld g4 T.cl_Walk T.na_Walk_q rfl ?_
  walk_at "sx"
  refine l_fld g4 T.cl_Walk T.na_Walk_n rfl ?_
  walk_at "sx"
  refine ⟨q, n, rfl, hq, rfl, hn, fun f H5 e5 hf => ?_⟩
  walk_at "sx"
  refine l_fldS (e5 _ _ g4) T.cl_Walk T.na_Walk_tables (Nat.lt_of_lt_of_le (putF_b (putF_b (putF_b (putF_b (show ([] : List (Str × V)).length < 9 by simp))))) (by omega)) fun H6 e6 g6 => ?_
  walk_at "sx"
  refine l_fldS g6 T.cl_Walk T.na_Walk_place (Nat.lt_of_lt_of_le (putF_b (putF_b (putF_b (putF_b (putF_b (show ([] : List (Str × V)).length < 9 by simp)))))) (by omega)) fun H7 e7 g7 => ?_
  walk_at "sx"
  refine l_fldS g7 T.cl_Walk T.na_Walk_ahead (Nat.lt_of_lt_of_le (putF_b (putF_b (putF_b (putF_b (putF_b (putF_b (show ([] : List (Str × V)).length < 9 by simp))))))) (by omega)) fun H8 e8 g8 => ?_
  refine k _ (((((((e1.trans e2).trans e3).trans e4).ex e5).trans e6).trans e7).trans e8) ⟨f, ⟨p, _, dx, rfl, T.nx_Walk, ?_⟩, ((hf.ins e6 (e5 _ _ g4)).ins e7 g6).ins e8 g7, Nat.le_refl _⟩
  rw [g8]
  unfold wkF
  rw [Int.sub_self]
  rfl
end
section
variable {P : Program} {w : World} {K : PySem.W.Frag} {mg : Str → Option Value} {base : Heap}
theorem ok_Walk_left_by (T : Txt K mg w) : FnOk P w K mg base CX0 1 T.a_Walk_left_by T.fd_Walk_left_by ["self", "sign"] (sp_Walk_left_by K) := by
  refine T.F_Walk_left_by.ok sc_Walk_left_by (fun vs H Q E h => match vs, h with | [_, _], _ => rfl) (fun cdv A outer s H vs Q E hr h => ?_)
  refine ⟨_, ((pss_one (ps_ret (pe_op op_subP (pe_fldK (K := K) rfl (pv 0) rfl) (pe_op (op_mulK (K := K) rfl) (pe_fldK (K := K) rfl (pv 0) rfl) (pe_callTy call_intP (by rfl) T.z_int (by decide +kernel) (pa_cons (pe_cmpR op_geP (pv 1) (pe_fldK (K := K) rfl (pv 0) rfl) (nomark _)) pa_nil))))))), ?_⟩
  match vs, h with
  | [x0, x1], h =>
  replace h : s_Walk_left_by K x0 x1 H Q E := h
  try dsimp only [cxOf, Cx.nox, Cx.wish]
  show (_ : TS) { nx := fun _ H' => Q .non H', rt := Q } [some x0, some x1] H
  obtain ⟨q, n, m, a, s, t, x, ⟨f, hI, hT, hm⟩, hn, rfl, k⟩ := h
  obtain ⟨p, dx, rfl, h1⟩ := hI.at_ T.nx_Walk
  walk_at "sx"
  refine l_fld h1 T.cl_Walk T.na_Walk_shape_left rfl ?_
  walk_at "sx"
  refine l_fld h1 T.cl_Walk T.na_Walk_place rfl ?_
  walk_at "sx"
  refine l_fld h1 T.cl_Walk T.na_Walk_ahead rfl ?_
  walk_at "sx"
  have ed : (if decide (a ≤ x) = true then (1 : Int) else 0) = ind a x := by
    unfold ind
    simp only [decide_eq_true_eq]
  rw [ed]
  exact k
end
section
variable {P : Program} {w : World} {K : PySem.W.Frag} {mg : Str → Option Value} {base : Heap}
theorem ok_Walk_ways (T : Txt K mg w) (o_code_of : FnOk P w K mg base CX0 1 T.a_code_of T.fd_code_of ["q", "n", "sign", "shape_left", "sum_left"] (sp_code_of K)) (o_Walk_left_by : FnOk P w K mg base CX0 1 T.a_Walk_left_by T.fd_Walk_left_by ["self", "sign"] (sp_Walk_left_by K)) : FnOk P w K mg base CX0 2 T.a_Walk_ways T.fd_Walk_ways ["self", "sign"] (sp_Walk_ways K) := by
  refine T.F_Walk_ways.ok sc_Walk_ways (fun vs H Q E h => match vs, h with | [_, _], _ => rfl) (fun cdv A outer s H vs Q E hr h => ?_)
  refine ⟨_, ((pss_one (ps_ret (pe_ix (ix_K (K := K) rfl) (pe_ix (ix_K (K := K) rfl) (pe_fldK (K := K) rfl (pv 0) rfl) (pe_fldK (K := K) rfl (pv 0) rfl) (fun _ _ => rfl)) (pe_call o_code_of hr rfl T.g_code_of T.F_code_of.kp T.b_code_of .nil pass0 (pa_cons (pe_fldK (K := K) rfl (pv 0) rfl) (pa_cons (pe_fldK (K := K) rfl (pv 0) rfl) (pa_cons (pv 1) (pa_cons (pe_meth (pv 0) T.cl_Walk T.m_Walk_left_by o_Walk_left_by hr T.b_Walk_left_by .nil pass0 (pa_cons (pv 1) pa_nil)) (pa_cons (pe_op op_subP (pe_fldK (K := K) rfl (pv 0) rfl) (pv 1)) pa_nil)))))) (fun _ _ => rfl))))), ?_⟩
  match vs, h with
  | [x0, x1], h =>
  replace h : s_Walk_ways K x0 x1 H Q E := h
  try dsimp only [cxOf, Cx.nox, Cx.wish]
  show (_ : TS) { nx := fun _ H' => Q .non H', rt := Q } [some x0, some x1] H
  obtain ⟨q, n, m, x, a, s, t, hW, hq, hn, rfl, hx, k⟩ := h
  have hW0 := hW
  obtain ⟨f, hI, hT, hm⟩ := hW0
  obtain ⟨p, dx, rfl, h1⟩ := hI.at_ T.nx_Walk
  walk_at "sx"
  refine l_fld h1 T.cl_Walk T.na_Walk_tables rfl ?_
  walk_at "sx"
  refine l_fld h1 T.cl_Walk T.na_Walk_place rfl ?_
  obtain ⟨xs, hf, hP⟩ := hT
  obtain ⟨y, hy, b, rfl, hb⟩ := pd_at2 hP (i := n - (m + 1)) (y := m) (by rw [List.getElem?_reverse (by simp; omega), List.length_range, show n - 1 - (n - (m + 1)) = m by omega, List.getElem?_range (by omega)])
  refine l_ixL (SqL.of hf) (by rw [show (n : Int) - ((m + 1 : Nat) : Int) = ((n - (m + 1) : Nat) : Int) by omega]; exact atI_nat hy) ?_
  walk_at "sx"
  refine l_fld h1 T.cl_Walk T.na_Walk_q rfl ?_
  walk_at "sx"
  refine l_fld h1 T.cl_Walk T.na_Walk_n rfl ?_
  walk_at "sx"
  refine l_meth h1 rfl ?_
  walk_at "sx"
  refine ⟨q, n, m, a, s, t, x, hW, by omega, rfl, ?_⟩
  walk_at "sx"
  refine l_fld h1 T.cl_Walk T.na_Walk_sum_left rfl ?_
  walk_at "sx"
  refine ⟨q, n, _, _, _, rfl, by omega, rfl, by omega, rfl, rfl, rfl, ?_⟩
  exact l_ixL (SqL.of hb) (Tb_at (by omega) (by omega) hx _ _) k
end
section
variable {P : Program} {w : World} {K : PySem.W.Frag} {mg : Str → Option Value} {base : Heap}
def PvB (H : Hp) (q n m : Nat) (a s t : Int) : Addr → Nat → List V → Hp → Prop := fun _ i acc H1 => Ex H H1 ∧ acc = ((List.range i).map fun (y : Nat) => wy q n m y (s - ((n : Int) - ((m + 1 : Nat) : Int)) * ind a y) (t - y)).map V.int
theorem ok_Walk_ways_below (T : Txt K mg w) (o_Walk_ways : FnOk P w K mg base CX0 2 T.a_Walk_ways T.fd_Walk_ways ["self", "sign"] (sp_Walk_ways K)) : FnOk P w K mg base CX0 3 T.a_Walk_ways_below T.fd_Walk_ways_below ["self", "sign"] (sp_Walk_ways_below K) := by
  refine T.F_Walk_ways_below.ok sc_Walk_ways_below (fun vs H Q E h => match vs, h with | [_, _], _ => rfl) (fun cdv A outer s H vs Q E hr h => ?_)
  refine ⟨_, ((pss_one (ps_ret (pe_callB (cr_sumK (K := K) rfl rfl) (by rfl) T.z_sum (by decide +kernel) (pa_cons (pe_lc (own := [("lesser", 2)]) (g := (gName 2)) (tt := tYes) rfl sc_Walk_ways_below.nd (pi_range1 rfl T.z_range (pa_cons (pv 1) pa_nil)) (blkOk_by (own := [("lesser", 2)]) (N := ["self", "sign", "lesser"]) (sc := defScope S_Walk_ways_below) (by decide +kernel)) (fun _ _ _ _ _ => (pg_name (i := 2) sc_Walk_ways_below.nd rfl (by first | exact Or.inl rfl | exact Or.inr rfl))) (fun _ _ _ _ _ => pts_nil) (fun _ _ _ _ _ => (pe_meth (pv 0) T.cl_Walk T.m_Walk_ways o_Walk_ways hr T.b_Walk_ways .nil pass0 (pa_cons (pv 2) pa_nil)))) pa_nil))))), ?_⟩
  match vs, h with
  | [x0, x1], h =>
  replace h : s_Walk_ways_below K x0 x1 H Q E := h
  try dsimp only [cxOf, Cx.nox, Cx.wish]
  show (_ : TS) { nx := fun _ H' => Q .non H', rt := Q } [some x0, some x1, none] H
  obtain ⟨q, n, m, x, a, s, t, hW, hq, hn, rfl, hx, k⟩ := h
  have hW0 := hW
  obtain ⟨f, hI, hT, hm⟩ := hW0
  obtain ⟨p, dx, rfl, h1⟩ := hI.at_ T.nx_Walk
  walk_at "sx"
  refine l_lc walk_range (PvB H q n m a s t) (fun D H2 hD e h2 => ⟨e, rfl⟩) (fun _ _ _ _ _ _ _ => True.intro) ?_ ?_
  · rintro D i acc y H2 H3 hD hi h2 ⟨e2, rfl⟩ ⟨rfl, rfl⟩
    walk_at "sx"
    refine ⟨rfl, ?_⟩
    walk_at "sx"
    have hi' : i < x := by omega
    refine l_meth (e2 _ _ h1) rfl ?_
    walk_at "sx"
    rw [Int.zero_add]
    refine ⟨q, n, m, i, a, s, t, hW.mono e2, hq, hn, rfl, by omega, ?_⟩
    refine lc_end (Pv := PvB H q n m a s t) h2 (by simp; omega) fun H7 e7 h7 => ⟨ExB.new e2 e7 hD, ?_⟩
    rw [List.range_succ, List.map_append, List.map_append]
    rfl
  · rintro D acc H2 hD h2 ⟨e2, rfl⟩
    walk_at "sx"
    refine l_sumL (SqL.of h2) ?_
    rw [← wb_sum]
    exact k _ e2
end
section
variable {P : Program} {w : World} {K : PySem.W.Frag} {mg : Str → Option Value} {base : Heap}
theorem ok_Walk_go (T : Txt K mg w) (o_Walk_left_by : FnOk P w K mg base CX0 1 T.a_Walk_left_by T.fd_Walk_left_by ["self", "sign"] (sp_Walk_left_by K)) : FnOk P w K mg base CX0 2 T.a_Walk_go T.fd_Walk_go ["self", "sign"] (sp_Walk_go K) := by
  refine T.F_Walk_go.ok sc_Walk_go (fun vs H Q E h => match vs, h with | [_, _], _ => rfl) (fun cdv A outer s H vs Q E hr h => ?_)
  refine ⟨_, ((pss_cons (ps_fld (pv 0) (pe_meth (pv 0) T.cl_Walk T.m_Walk_left_by o_Walk_left_by hr T.b_Walk_left_by .nil pass0 (pa_cons (pv 1) pa_nil)) rfl)
    (pss_cons (ps_fld (pv 0) (pe_op op_subP (pe_fldK (K := K) rfl (pv 0) rfl) (pv 1)) rfl)
    (pss_cons (ps_fld (pv 0) (pv 1) rfl)
    (pss_one (ps_fld (pv 0) (pe_op (op_addK (K := K) rfl) (pe_fldK (K := K) rfl (pv 0) rfl) pe_int) rfl)))))), ?_⟩
  match vs, h with
  | [x0, x1], h =>
  replace h : s_Walk_go K x0 x1 H Q E := h
  try dsimp only [cxOf, Cx.nox, Cx.wish]
  show (_ : TS) { nx := fun _ H' => Q .non H', rt := Q } [some x0, some x1] H
  obtain ⟨q, n, m, a, s, t, x, p, rfl, hW, hn, rfl, k⟩ := h
  have hW0 := hW
  obtain ⟨f, hI, hT, hm⟩ := hW0
  obtain ⟨p', dx, e, h1⟩ := hI.at_ T.nx_Walk
  cases e
  walk_at "sx"
  refine l_meth h1 rfl ?_
  walk_at "sx"
  refine ⟨q, n, m, a, s, t, x, hW, hn, rfl, ?_⟩
  walk_at "sx"
  refine l_fldS h1 T.cl_Walk T.na_Walk_shape_left (by simp [wkF]) fun H1 e1 g1 => ?_
  walk_at "sx"
  refine l_fld g1 T.cl_Walk T.na_Walk_sum_left rfl ?_
  walk_at "sx"
  refine l_fldS g1 T.cl_Walk T.na_Walk_sum_left (putF_lt (by simp [wkF])) fun H2 e2 g2 => ?_
  walk_at "sx"
  refine l_fldS g2 T.cl_Walk T.na_Walk_ahead (putF_lt2 (by simp [wkF])) fun H3 e3 g3 => ?_
  walk_at "sx"
  refine l_fld g3 T.cl_Walk T.na_Walk_place rfl ?_
  walk_at "sx"
  refine l_fldS g3 T.cl_Walk T.na_Walk_place (putF_lt3 (by simp [wkF])) fun H4 e4 g4 => ?_
  have e14 := ((e1.trans e2).trans e3).trans e4
  refine k _ e14 ⟨f, ⟨p, _, dx, rfl, T.nx_Walk, ?_⟩, hT.ins e14 h1, by omega⟩
  rw [g4]
  unfold wkF
  rw [show (n : Int) - (m : Nat) = (n : Int) - ((m + 1 : Nat) : Int) + 1 by omega]
  rfl
end
section
variable {P : Program} {w : World} {K : PySem.W.Frag} {mg : Str → Option Value} {base : Heap}
theorem ok_how_many_many (T : Txt K mg w) (o_Walk_ways_below : FnOk P w K mg base CX0 3 T.a_Walk_ways_below T.fd_Walk_ways_below ["self", "sign"] (sp_Walk_ways_below K)) (o_Walk_init : FnOk P w K mg base CX0 4 T.a_Walk_init T.fd_Walk_init ["self", "many"] (sp_Walk_init K)) (o_ManyList_signs : FnOk P w K mg base CX0 1 T.a_ManyList_signs T.fd_ManyList_signs ["self"] (sp_ManyList_signs K)) : FnOk P w K mg base CX0 6 T.a_how_many_many T.fd_how_many_many ["many"] (sp_how_many_many K) := by
  refine T.F_how_many_many.ok sc_how_many_many (fun vs H Q E h => match vs, h with | [_], _ => rfl) (fun cdv A outer s H vs Q E hr h => ?_)
  refine ⟨_, ((pss_one (ps_ret (pe_meth (pe_make T.mk_Walk o_Walk_init hr rfl T.gx_Walk T.b_Walk_init .nil pass0 (pa_cons (pv 0) pa_nil)) T.cl_Walk T.m_Walk_ways_below o_Walk_ways_below (hr.mono (by decide)) T.b_Walk_ways_below .nil pass0 (pa_cons (pe_meth0 (pv 0) T.cl_ManyList T.m_ManyList_signs o_ManyList_signs (hr.mono (by decide)) T.b_ManyList_signs .nil pass0) pa_nil))))), ?_⟩
  match vs, h with
  | [x0], h =>
  replace h : s_how_many_many K x0 H Q E := h
  try dsimp only [cxOf, Cx.nox, Cx.wish]
  show (_ : TS) { nx := fun _ H' => Q .non H', rt := Q } [some x0] H
  obtain ⟨q, n, a, b, hM, hq, hn, k⟩ := h
  obtain ⟨t, hM1, hM2⟩ := id hM
  obtain ⟨o, dx1, rfl, h1⟩ := hM1.at_ T.nx_ManyList
  walk_at "sx"
  refine l_make fun p dx H1 hn1 e1 g1 => ?_
  refine ⟨p, _, dx, q, n, a, b, rfl, T.nx_Walk, g1, hM.mono e1, hq, hn, fun H2 e2 hW => ⟨rfl, ?_⟩⟩
  have e02 : Ex H H2 := ExB.new e1 e2 hn1
  obtain ⟨f, hI, hT, hm⟩ := id hW
  obtain ⟨p', dx', e, h2⟩ := hI.at_ T.nx_Walk
  cases e
  refine l_meth h2 rfl ?_
  walk_at "sx"
  refine l_meth (e02 _ _ h1) rfl ?_
  walk_at "sx"
  refine ⟨q, n, a, b, hM.mono e02, ?_⟩
  walk_at "sx"
  obtain ⟨m, rfl⟩ : ∃ m, n = m + 1 := ⟨n - 1, by omega⟩
  refine ⟨q, m + 1, m, q, 0, a, b, hW, hq, hn, rfl, Nat.le_refl _, fun H3 e3 => ?_⟩
  exact k _ (e02.trans e3)
end
section
variable {P : Program} {w : World} {K : PySem.W.Frag} {mg : Str → Option Value} {base : Heap}
/-- the signs behind whose ways a number lies, from the least one on -/
def PvSg (H : Hp) (x : Nat) : Addr → Nat → List V → Hp → Prop := fun _ i acc H1 => Ex H H1 ∧ acc.length ≤ i ∧ (i ≤ x → acc = []) ∧ (x < i → acc[0]? = some (.int (x : Nat)))
theorem ok_many_member (T : Txt K mg w) (o_ManyList_length : FnOk P w K mg base CX0 1 T.a_ManyList_length T.fd_ManyList_length ["self"] (sp_ManyList_length K)) (o_Walk_go : FnOk P w K mg base CX0 2 T.a_Walk_go T.fd_Walk_go ["self", "sign"] (sp_Walk_go K)) (o_Walk_ways_below : FnOk P w K mg base CX0 3 T.a_Walk_ways_below T.fd_Walk_ways_below ["self", "sign"] (sp_Walk_ways_below K)) (o_ManyList_signs : FnOk P w K mg base CX0 1 T.a_ManyList_signs T.fd_ManyList_signs ["self"] (sp_ManyList_signs K)) (o_is_number : FnOk P w K mg base CX0 1 T.a_is_number T.fd_is_number ["thing"] (sp_is_number K)) (o_Walk_init : FnOk P w K mg base CX0 4 T.a_Walk_init T.fd_Walk_init ["self", "many"] (sp_Walk_init K)) : FnOk P w K mg base CX0 6 T.a_many_member T.fd_many_member ["many", "k"] (sp_many_member K) := by
  refine T.F_many_member.ok sc_many_member (fun vs H Q E h => match vs, h with | [_, _], _ => rfl) (fun cdv A outer s H vs Q E hr h => ?_)
  refine ⟨_, ((pss_cons (ps_set (i := 2) sc_many_member.nd rfl (by first | exact Or.inl rfl | exact Or.inr rfl) (pe_make T.mk_Walk o_Walk_init hr rfl T.gx_Walk T.b_Walk_init .nil pass0 (pa_cons (pv 0) pa_nil)))
    (pss_cons (ps_if (PW.pt (pw_or (pt_not (pt_val (pe_call o_is_number (hr.mono (by decide)) rfl T.g_is_number T.F_is_number.kp T.b_is_number .nil pass0 (pa_cons (pv 1) pa_nil)))) (pw_or1 (pt_not (pt_chain (op_leQ (K := K) hr.units rfl) op_ltP pe_int (pv 1) (pe_meth (pv 2) T.cl_Walk T.m_Walk_ways_below o_Walk_ways_below (hr.mono (by decide)) T.b_Walk_ways_below .nil pass0 (pa_cons (pe_meth0 (pv 0) T.cl_ManyList T.m_ManyList_signs o_ManyList_signs (hr.mono (by decide)) T.b_ManyList_signs .nil pass0) pa_nil))))))) (pss_one ps_never) pss_nil)
    (pss_cons (ps_set (i := 3) sc_many_member.nd rfl (by first | exact Or.inl rfl | exact Or.inr rfl) (pe_tup pa_nil))
    (pss_cons (ps_for PassesOwn.never rfl (pi_range1 rfl T.z_range (pa_cons (pe_meth0 (pv 0) T.cl_ManyList T.m_ManyList_length o_ManyList_length (hr.mono (by decide)) T.b_ManyList_length .nil pass0) pa_nil)) (pg_name (i := 4) sc_many_member.nd rfl (by first | exact Or.inl rfl | exact Or.inr rfl)) (pss_cons (ps_set (i := 5) sc_many_member.nd rfl (by first | exact Or.inl rfl | exact Or.inr rfl) (pe_ix (ix_K (K := K) rfl) (pe_lc (own := [("one", 6)]) (g := (gName 6)) rfl sc_many_member.nd (pi_range1 rfl T.z_range (pa_cons (pe_meth0 (pv 0) T.cl_ManyList T.m_ManyList_signs o_ManyList_signs (hr.mono (by decide)) T.b_ManyList_signs .nil pass0) pa_nil)) (blkOk_by (own := [("one", 6)]) (N := ["many", "k", "walk", "found", "place", "sign", "one"]) (sc := defScope S_many_member) (by decide +kernel)) (fun _ _ _ _ _ => (pg_name (i := 6) sc_many_member.nd rfl (by first | exact Or.inl rfl | exact Or.inr rfl))) (fun _ _ _ _ _ => pts_one (pt_cmpR op_gtP (pe_meth (pv 2) T.cl_Walk T.m_Walk_ways_below o_Walk_ways_below (hr.mono (by decide)) T.b_Walk_ways_below .nil pass0 (pa_cons (pe_op (op_addK (K := K) rfl) (pv 6) pe_int) pa_nil)) (pv 1) (nomark _))) (fun _ _ _ _ _ => (pv 6))) pe_int (fun _ _ => rfl)))
    (pss_cons (ps_set (i := 1) sc_many_member.nd rfl (by first | exact Or.inl rfl | exact Or.inr rfl) (pe_op op_subP (pv 1) (pe_meth (pv 2) T.cl_Walk T.m_Walk_ways_below o_Walk_ways_below (hr.mono (by decide)) T.b_Walk_ways_below .nil pass0 (pa_cons (pv 5) pa_nil))))
    (pss_cons (ps_expr (pe_meth (pv 2) T.cl_Walk T.m_Walk_go o_Walk_go (hr.mono (by decide)) T.b_Walk_go .nil pass0 (pa_cons (pv 5) pa_nil)))
    (pss_one (ps_set (i := 3) sc_many_member.nd rfl (by first | exact Or.inl rfl | exact Or.inr rfl) (pe_op (op_addK (K := K) rfl) (pv 3) (pe_tup (pa_cons (pv 5) pa_nil)))))))))
    (pss_one (ps_ret (pv 3)))))))), ?_⟩
  match vs, h with
  | [x0, x1], h =>
  replace h : s_many_member K x0 x1 H Q E := h
  try dsimp only [cxOf, Cx.nox, Cx.wish]
  show (_ : TS) { nx := fun _ H' => Q .non H', rt := Q } [some x0, some x1, none, none, none, none, none] H
  obtain ⟨q, n, k, a, b, hM, hq, hn, rfl, hk, kk⟩ := h
  obtain ⟨t, hM1, hM2⟩ := id hM
  obtain ⟨o, dx1, rfl, h1⟩ := hM1.at_ T.nx_ManyList
  walk_at "sx"
  refine l_make fun p dx H1 hn1 e1 g1 => ?_
  refine ⟨p, _, dx, q, n, a, b, rfl, T.nx_Walk, g1, hM.mono e1, hq, hn, fun H2 e2 hW => ⟨rfl, ?_⟩⟩
  have e02 : Ex H H2 := ExB.new e1 e2 hn1
  obtain ⟨f, hI, hT, hm⟩ := id hW
  obtain ⟨p', dx', e, h2⟩ := hI.at_ T.nx_Walk
  cases e
  walk_at "sx"
  refine ⟨"int", .int k, ?_⟩
  walk_at "sx"
  refine ifd (fun c => ?_) (fun c => absurd (by omega) c)
  walk_at "sx"
  refine l_meth h2 rfl ?_
  walk_at "sx"
  refine l_meth (e02 _ _ h1) rfl ?_
  walk_at "sx"
  refine ⟨q, n, a, b, hM.mono e02, ?_⟩
  walk_at "sx"
  obtain ⟨m, rfl⟩ : ∃ m, n = m + 1 := ⟨n - 1, by omega⟩
  refine ⟨q, m + 1, m, q, 0, a, b, hW, hq, hn, rfl, Nat.le_refl _, fun H3 e3 => ?_⟩
  walk_at "sx"
  have hk2 : ((k : Nat) : Int) < wb q (m + 1) m 0 a b q := by
    show ((k : Nat) : Int) < ((EW q (m + 1) (m + 1) 0 a b).length : Nat)
    omega
  refine ifdn (fun c => absurd hk2 c) (fun c => ?_)
  walk_at "sx"
  refine w_newT (by simp) fun t0 H4 _ e4 h4 => ?_
  walk_at "sx"
  refine l_meth ((e02.trans (e3.trans e4)) _ _ h1) rfl ?_
  walk_at "sx"
  refine ⟨q, _, a, b, hM.mono (e02.trans (e3.trans e4)), ?_⟩
  walk_at "sx"
  have e04 := e02.trans (e3.trans e4)
  refine l_forR (fun i σ Hx => ∃ (d : Addr) (pre : List Int) (k' : Nat) (x' : Int) (s' t' : Int) (v5 v6 v7 : Option V), σ = [some (.ref o), some (.int (k' : Nat)), some (.ref p), some (.ref d), v5, v6, v7] ∧ Ex H Hx ∧ SqT K Hx d (pre.map V.int) ∧ pre.length = i ∧ i ≤ m + 1 ∧ WK K Hx (.ref p) q (m + 1) (m + 1 - i) x' s' t' ∧ k' < (EW q (m + 1) (m + 1 - i) x' s' t').length ∧ ∀ w, (EW q (m + 1) (m + 1 - i) x' s' t')[k']? = some w → (EW q (m + 1) (m + 1) 0 a b)[k]? = some (pre ++ w)) ⟨t0, [], k, 0, a, b, _, _, _, rfl, e04, SqT.of h4, rfl, by omega, hW.mono (e3.trans e4), hk, fun w hw => hw⟩ ?_ ?_
  · rintro i σ Hx hi ⟨d, pre, k', x', s', t', v5, v6, v7, rfl, ex, hd, hl, him, hWx, hk', hat⟩
    have hi' : i < m + 1 := by omega
    obtain ⟨j, hj⟩ : ∃ j, m + 1 - i = j + 1 := ⟨m - i, by omega⟩
    rw [hj] at hWx hk' hat
    walk_at "sx"
    have hM_x := hM.mono ex
    refine l_meth (ex _ _ h1) rfl ?_
    walk_at "sx"
    refine ⟨q, _, a, b, hM_x, ?_⟩
    walk_at "sx"
    obtain ⟨x, hxq, hx1, hx2⟩ := FL_find (EP q (m + 1) j x' s' t') (q := q) hk'
    obtain ⟨fx, hIx, hTx, hmx⟩ := id hWx
    obtain ⟨p', dx', e, hpx⟩ := hIx.at_ T.nx_Walk
    cases e
    refine l_lc walk_range (PvSg Hx x) (fun D H6 _ e6 _ => ⟨e6, Nat.le_refl _, fun _ => rfl, fun c => by omega⟩) (fun _ _ _ _ _ _ _ => True.intro) ?_ ?_
    · rintro D r acc y H6 H7 hD hr h6 ⟨e6, hlr, ha1, ha2⟩ ⟨rfl, rfl⟩
      have hr' : r < q := by omega
      walk_at "sx"
      refine ⟨rfl, ?_⟩
      walk_at "sx"
      refine l_meth (e6 _ _ hpx) rfl ?_
      walk_at "sx"
      refine ⟨q, m + 1, j, r + 1, x', s', t', hWx.mono e6, hq, hn, by congr 1; omega, by omega, fun H8 e8 => ?_⟩
      walk_at "sx"
      have h68 := e8 _ _ h6
      by_cases c : ((k' : Nat) : Int) < wb q (m + 1) j x' s' t' (r + 1)
      · rw [decide_eq_true c]
        walk_at "sx"
        have hxr : x ≤ r := by
          rcases Nat.lt_or_ge r x with z | z
          · have := FL_mono (EP q (m + 1) j x' s' t') (show r + 1 ≤ x by omega)
            unfold wb at c
            omega
          · exact z
        refine lc_end (Pv := PvSg Hx x) h68 (by omega) fun H9 e9 h9 => ⟨ExB.new (e6.trans e8) e9 hD, by simp; omega, fun z => by omega, fun _ => ?_⟩
        rcases Nat.lt_or_ge x r with z | z
        · rw [List.getElem?_append_left ?_]
          · exact ha2 z
          · have := ha2 z
            exact (List.getElem?_eq_some_iff.mp this).1
        · have : x = r := by omega
          subst this
          rw [ha1 (Nat.le_refl _), Int.zero_add]
          rfl
      · rw [decide_eq_false c]
        walk_at "sx"
        refine lc_not (Pv := PvSg Hx x) h68 ⟨e6.trans e8, by omega, fun z => ha1 (by omega), fun z => ?_⟩
        rcases Nat.lt_or_ge x r with z2 | z2
        · exact ha2 z2
        · have : x = r := by omega
          subst this
          exact absurd (by unfold wb; omega) c
    · rintro D acc H6 hD h6 ⟨e6, _, _, ha2⟩
      walk_at "sx"
      refine l_ixL (SqL.of h6) (show atI acc 0 = some (.int (x : Nat)) from atI_nat (ha2 (by omega))) ?_
      walk_at "sx"
      refine l_meth (e6 _ _ hpx) rfl ?_
      walk_at "sx"
      refine ⟨q, m + 1, j, x, x', s', t', hWx.mono e6, hq, hn, rfl, by omega, fun H7 e7 => ?_⟩
      walk_at "sx"
      refine l_meth ((e6.trans e7) _ _ hpx) rfl ?_
      walk_at "sx"
      refine ⟨q, m + 1, j, x', s', t', x, p, rfl, hWx.mono (e6.trans e7), by omega, rfl, fun H8 e8 hW8 => ?_⟩
      have hd8 := insT e8 ((e6.trans e7) _ _ hpx) (Evl.ex_t (e6.trans e7) hd)
      walk_at "sx"
      refine w_newT (by simp) fun t9 H9 _ e9 h9 => ?_
      refine l_addT (Evl.ex_t e9 hd8) (SqT.of h9) (by simp; omega) fun t10 H10 e10 h10 => ?_
      walk_at "sx"
      rw [FL_succ, List.length_append] at hx2
      have hep : (EP q (m + 1) j x' s' t' x).length = (EW q (m + 1) j x (s' - (((m + 1 : Nat) : Int) - ((j + 1 : Nat) : Int)) * ind x' x) (t' - x)).length := by unfold EP; rw [List.length_map]
      refine ⟨t10, pre ++ [(x : Int)], k' - (FL (EP q (m + 1) j x' s' t') x).length, x, _, _, some (.int (0 + (i : Int))), some (.int (x : Nat)), v7, ?_, ExB.new (ex.trans (e6.trans e7)) e8 ?_ |>.trans (e9.trans e10), by rw [List.map_append]; exact h10, by simp [hl], by omega, by rw [show m + 1 - (i + 1) = j by omega]; exact hW8.mono (e9.trans e10), by rw [show m + 1 - (i + 1) = j by omega]; omega, fun w hw => ?_⟩
      · unfold wb
        rw [Int.ofNat_sub hx1]
      · exact hn1
      · rw [show m + 1 - (i + 1) = j by omega] at hw
        have := hat ((x : Int) :: w) ?_
        · rw [List.append_assoc]
          exact this
        · have hg := FL_get (EP q (m + 1) j x' s' t') (x := x) (i := k' - (FL (EP q (m + 1) j x' s' t') x).length) (by omega) (q := q) hxq
          rw [show (FL (EP q (m + 1) j x' s' t') x).length + (k' - (FL (EP q (m + 1) j x' s' t') x).length) = k' by omega] at hg
          rw [EW_FL, hg]
          generalize k' - (FL (EP q (m + 1) j x' s' t') x).length = z at hw ⊢
          unfold EP
          rw [List.getElem?_map, hw]
          rfl
  · rintro σ Hx ⟨d, pre, k', x', s', t', v5, v6, v7, rfl, ex, hd, hl, him, hWx, hk', hat⟩
    walk_at "sx"
    rw [show m + 1 - ((m + 1 : Nat) : Int).toNat = 0 by omega] at hk' hat
    refine kk d pre _ ex hd ?_
    have e0 : (EW q (m + 1) 0 x' s' t') = [[]] ∨ (EW q (m + 1) 0 x' s' t') = [] := by
      unfold EW
      split
      · exact .inl rfl
      · exact .inr rfl
    rcases e0 with e0 | e0 <;> rw [e0] at hk' hat
    · have : k' = 0 := by simpa using hk'
      subst this
      have := hat [] rfl
      rwa [List.append_nil] at this
    · simp at hk'
end
section
variable {P : Program} {w : World} {K : PySem.W.Frag} {mg : Str → Option Value} {base : Heap}
theorem ok_many_number (T : Txt K mg w) (o_Walk_go : FnOk P w K mg base CX0 2 T.a_Walk_go T.fd_Walk_go ["self", "sign"] (sp_Walk_go K)) (o_Walk_ways_below : FnOk P w K mg base CX0 3 T.a_Walk_ways_below T.fd_Walk_ways_below ["self", "sign"] (sp_Walk_ways_below K)) (o_Walk_init : FnOk P w K mg base CX0 4 T.a_Walk_init T.fd_Walk_init ["self", "many"] (sp_Walk_init K)) (o_ManyList_has : FnOk P w K mg base CX0 5 T.a_ManyList_has T.fd_ManyList_has ["self", "word"] (sp_ManyList_has K)) : FnOk P w K mg base CX0 6 T.a_many_number T.fd_many_number ["many", "word"] (sp_many_number K) := by
  refine T.F_many_number.ok sc_many_number (fun vs H Q E h => match vs, h with | [_, _], _ => rfl) (fun cdv A outer s H vs Q E hr h => ?_)
  refine ⟨_, ((pss_cons (ps_if (pt_not (pt_val (pe_meth (pv 0) T.cl_ManyList T.m_ManyList_has o_ManyList_has hr T.b_ManyList_has .nil pass0 (pa_cons (pv 1) pa_nil)))) (pss_one ps_never) pss_nil)
    (pss_cons (ps_set (i := 2) sc_many_number.nd rfl (by first | exact Or.inl rfl | exact Or.inr rfl) (pe_make T.mk_Walk o_Walk_init hr rfl T.gx_Walk T.b_Walk_init .nil pass0 (pa_cons (pv 0) pa_nil)))
    (pss_cons (ps_set (i := 3) sc_many_number.nd rfl (by first | exact Or.inl rfl | exact Or.inr rfl) pe_int)
    (pss_cons (ps_for PassesOwn.never rfl (pi_seqK (K := K) rfl (pv 1)) (pg_name (i := 4) sc_many_number.nd rfl (by first | exact Or.inl rfl | exact Or.inr rfl)) (pss_cons (ps_aug (i := 3) sc_many_number.nd rfl (by first | exact Or.inl rfl | exact Or.inr rfl) (pe_meth (pv 2) T.cl_Walk T.m_Walk_ways_below o_Walk_ways_below (hr.mono (by decide)) T.b_Walk_ways_below .nil pass0 (pa_cons (pv 4) pa_nil)) ip_add)
    (pss_one (ps_expr (pe_meth (pv 2) T.cl_Walk T.m_Walk_go o_Walk_go (hr.mono (by decide)) T.b_Walk_go .nil pass0 (pa_cons (pv 4) pa_nil))))))
    (pss_one (ps_ret (pv 3)))))))), ?_⟩
  match vs, h with
  | [x0, x1], h =>
  replace h : s_many_number K x0 x1 H Q E := h
  try dsimp only [cxOf, Cx.nox, Cx.wish]
  show (_ : TS) { nx := fun _ H' => Q .non H', rt := Q } [some x0, some x1, none, none, none] H
  obtain ⟨q, n, a, b, w, hM, hq, hn, ha, hb, hw, hi, kk⟩ := h
  obtain ⟨t, hM1, hM2⟩ := id hM
  obtain ⟨o, dx1, rfl, h1⟩ := hM1.at_ T.nx_ManyList
  have hmem : w ∈ EW q n n 0 a b := by
    rw [EW_all ha hb]
    obtain ⟨_, _, _, _, hg⟩ := hw
    refine List.mem_filter.mpr ⟨allW_mem.mpr ⟨?_, hg⟩, hi⟩
    unfold inML at hi
    simp only [Bool.and_eq_true, decide_eq_true_eq] at hi
    omega
  have hwl : w.length = n := by
    rw [EW_all ha hb] at hmem
    exact (allW_mem.mp (List.mem_filter.mp hmem).1).1
  walk_at "sx"
  refine l_meth h1 rfl ?_
  walk_at "sx"
  refine ⟨q, n, a, b, w, hM, by omega, by omega, hw, fun H0 e0 => ?_⟩
  rw [hi]
  walk_at "sx"
  refine l_make fun p dx H1 hn1 e1 g1 => ?_
  refine ⟨p, _, dx, q, n, a, b, rfl, T.nx_Walk, g1, hM.mono (e0.trans e1), hq, hn, fun H2 e2 hW => ⟨rfl, ?_⟩⟩
  have e02 : Ex H H2 := e0.trans (ExB.new e1 e2 hn1)
  obtain ⟨v, rfl, hs, hl, hg⟩ := id hw
  have hpn : H p = none := Evl.fresh_back e0 hn1
  walk_at "sx"
  refine l_forT (fun i σ Hx => ∃ (fo : Nat) (x' s' t' : Int) (v5 : Option V), σ = [some (.ref o), some (.ref v), some (.ref p), some (.int (fo : Nat)), v5] ∧ Ex H Hx ∧ i ≤ n ∧ WK K Hx (.ref p) q n (n - i) x' s' t' ∧ w.drop i ∈ EW q n (n - i) x' s' t' ∧ ∀ k', (EW q n (n - i) x' s' t')[k']? = some (w.drop i) → (EW q n n 0 a b)[fo + k']? = some w) ⟨0, 0, a, b, _, rfl, e02, by omega, hW, hmem, fun k' h => by rw [Nat.zero_add]; exact h⟩ (fun i σ Hx _ ⟨_, _, _, _, _, _, e, _⟩ => Evl.ex_t e hs) ?_ ?_
  · rintro i z σ Hx hi hz ⟨fo, x', s', t', v5, rfl, ex, him, hWx, hme, hat⟩
    rw [List.length_map] at hi
    obtain ⟨_, rfl⟩ := at_int hz
    obtain ⟨j, hj⟩ : ∃ j, n - i = j + 1 := ⟨n - i - 1, by omega⟩
    have hj2 : n - (i + 1) = j := by omega
    rw [hj] at hWx hme hat
    rw [hj2]
    obtain ⟨fx, hIx, hTx, hmx⟩ := id hWx
    obtain ⟨p', dx', e, hpx⟩ := hIx.at_ T.nx_Walk
    cases e
    obtain ⟨y, hy, hm2⟩ := List.mem_flatMap.mp (show w.drop i ∈ (List.range q).flatMap (EP q n j x' s' t') from hme)
    have hyq := List.mem_range.mp hy
    obtain ⟨r', hr, hre⟩ := List.mem_map.mp hm2
    have hd : w.drop i = w.getD i 0 :: w.drop (i + 1) := by
      rw [List.drop_eq_getElem_cons hi]; simp [List.getD, hi]
    rw [hd] at hre
    injection hre with he1 he2
    subst he2
    rw [hd] at hat
    rw [← he1] at hat ⊢
    walk_at "sx"
    refine l_meth hpx rfl ?_
    walk_at "sx"
    refine ⟨q, n, j, y, x', s', t', hWx, hq, hn, rfl, by omega, fun H7 e7 => ?_⟩
    walk_at "sx"
    refine l_meth (e7 _ _ hpx) rfl ?_
    walk_at "sx"
    refine ⟨q, n, j, x', s', t', y, p, rfl, hWx.mono e7, by omega, rfl, fun H8 e8 hW8 => ?_⟩
    walk_at "sx"
    refine ⟨fo + (FL (EP q n j x' s' t') y).length, y, _, _, some (.int (y : Nat)), ?_, ExB.new (ex.trans e7) e8 hpn, by omega, hW8, hr, fun k' hk' => ?_⟩
    · unfold wb
      push_cast
      rfl
    · have hep : (EP q n j x' s' t' y).length = (EW q n j y (s' - ((n : Int) - ((j + 1 : Nat) : Int)) * ind x' y) (t' - y)).length := by unfold EP; rw [List.length_map]
      have hlt := (List.getElem?_eq_some_iff.mp hk').1
      have hg := FL_get (EP q n j x' s' t') (x := y) (i := k') (by omega) (q := q) hyq
      rw [Nat.add_assoc]
      refine hat _ ?_
      rw [EW_FL, hg]
      unfold EP
      rw [List.getElem?_map, hk']
      rfl
  · rintro σ Hx ⟨fo, x', s', t', v5, rfl, ex, him, hWx, hme, hat⟩
    walk_at "sx"
    rw [List.length_map, hwl, Nat.sub_self] at hme hat
    refine kk fo _ ex ?_
    have hz := List.drop_eq_nil_iff.mpr (Nat.le_of_eq hwl)
    rw [hz] at hme hat
    refine hat 0 ?_
    unfold EW at hme ⊢
    split at hme
    · rename_i c
      rw [if_pos c]
      rfl
    · cases hme
end
section
variable {P : Program} {w : World} {K : PySem.W.Frag} {mg : Str → Option Value} {base : Heap}
theorem ok_want_length (T : Txt K mg w) (o_is_number : FnOk P w K mg base CX0 1 T.a_is_number T.fd_is_number ["thing"] (sp_is_number K)) : FnOk P w K mg base CX0 2 T.a_want_length T.fd_want_length ["n"] (sp_want_length K) := by
  refine T.F_want_length.ok sc_want_length (fun vs H Q E h => match vs, h with | [_], _ => rfl) (fun cdv A outer s H vs Q E hr h => ?_)
  refine ⟨_, ((pss_one (ps_if (PW.pt (pw_or (pt_not (pt_val (pe_call o_is_number hr rfl T.g_is_number T.F_is_number.kp T.b_is_number .nil pass0 (pa_cons (pv 0) pa_nil)))) (pw_or1 (pt_not (pt_chain (op_leQ (K := K) hr.units rfl) (op_leQ (K := K) hr.units rfl) pe_int (pv 0) (pe_glob (v := .int 60) rfl T.c_MOST_LENGTH ⟨_, rfl⟩)))))) (pss_one ps_never) pss_nil))), ?_⟩
  match vs, h with
  | [x0], h =>
  replace h : s_want_length K x0 H Q E := h
  try dsimp only [cxOf, Cx.nox, Cx.wish]
  show (_ : TS) { nx := fun _ H' => Q .non H', rt := Q } [some x0] H
  obtain ⟨n, rfl, hn, k⟩ := h
  walk_at "sx"
  refine ⟨"int", .int n, ?_⟩
  walk_at "sx"
  refine ifd (fun c => ?_) (fun c => absurd hn.1 c)
  walk_at "sx"
  refine ifdn (fun c => absurd hn.2 c) (fun c => ?_)
  walk_at "sx"
  exact k
end
section
variable {P : Program} {w : World} {K : PySem.W.Frag} {mg : Str → Option Value} {base : Heap}
theorem ok_PlainList_init (T : Txt K mg w) (o_is_number : FnOk P w K mg base CX0 1 T.a_is_number T.fd_is_number ["thing"] (sp_is_number K)) (o_want_length : FnOk P w K mg base CX0 2 T.a_want_length T.fd_want_length ["n"] (sp_want_length K)) : FnOk P w K mg base CX0 3 T.a_PlainList_init T.fd_PlainList_init ["self", "n", "a"] (sp_PlainList_init K) := by
  refine T.F_PlainList_init.ok sc_PlainList_init (fun vs H Q E h => match vs, h with | [_, _, _], _ => rfl) (fun cdv A outer s H vs Q E hr h => ?_)
  refine ⟨_, ((pss_cons (ps_expr (pe_call o_want_length hr rfl T.g_want_length T.F_want_length.kp T.b_want_length .nil pass0 (pa_cons (pv 1) pa_nil)))
    (pss_cons (ps_if (PW.pt (pw_or (pt_not (pt_val (pe_call o_is_number (hr.mono (by decide)) rfl T.g_is_number T.F_is_number.kp T.b_is_number .nil pass0 (pa_cons (pv 2) pa_nil)))) (pw_or1 (pt_not (pt_chain (op_leQ (K := K) hr.units rfl) (op_leQ (K := K) hr.units rfl) pe_int (pv 2) (pv 1)))))) (pss_one ps_never) pss_nil)
    (pss_cons (ps_fld (pv 0) (pv 1) rfl)
    (pss_one (ps_fld (pv 0) (pv 2) rfl)))))), ?_⟩
  match vs, h with
  | [x0, x1, x2], h =>
  replace h : s_PlainList_init K x0 x1 x2 H Q E := h
  try dsimp only [cxOf, Cx.nox, Cx.wish]
  show (_ : TS) { nx := fun _ H' => Q .non H', rt := Q } [some x0, some x1, some x2] H
  obtain ⟨p, C, dx, n, a, rfl, hC, hp, rfl, hn, rfl, ha, k⟩ := h
  have eC := hC.symm.trans T.nx_PlainList
  cases eC
  walk_at "sx"
  refine ⟨n, rfl, hn, ?_⟩
  walk_at "sx"
  refine ⟨"int", .int a, ?_⟩
  walk_at "sx"
  refine ifd (fun c => ?_) (fun c => absurd ha.1 c)
  walk_at "sx"
  refine ifdn (fun c => absurd ha.2 c) (fun c => ?_)
  walk_at "sx"
  refine l_fldS hp T.cl_PlainList T.na_PlainList_many (by simp) fun H1 e1 h1 => ?_
  walk_at "sx"
  refine l_fldS h1 T.cl_PlainList T.na_PlainList_left (by simp [putF]) fun H2 e2 h2 => ?_
  exact k _ (e1.trans e2) h2
end
section
variable {P : Program} {w : World} {K : PySem.W.Frag} {mg : Str → Option Value} {base : Heap}
theorem ok_PlainList_length (T : Txt K mg w) : FnOk P w K mg base CX0 1 T.a_PlainList_length T.fd_PlainList_length ["self"] (sp_PlainList_length K) := by
  refine T.F_PlainList_length.ok sc_PlainList_length (fun vs H Q E h => match vs, h with | [_], _ => rfl) (fun cdv A outer s H vs Q E hr h => ?_)
  refine ⟨_, ((pss_one (ps_ret (pe_fldK (K := K) rfl (pv 0) rfl)))), ?_⟩
  match vs, h with
  | [x0], h =>
  replace h : s_PlainList_length K x0 H Q E := h
  try dsimp only [cxOf, Cx.nox, Cx.wish]
  show (_ : TS) { nx := fun _ H' => Q .non H', rt := Q } [some x0] H
  obtain ⟨n, a, hp, k⟩ := h
  obtain ⟨p, dx, rfl, h1⟩ := hp.at_ T.nx_PlainList
  walk_at "sx"
  exact l_fld h1 T.cl_PlainList T.na_PlainList_many rfl k
end
section
variable {P : Program} {w : World} {K : PySem.W.Frag} {mg : Str → Option Value} {base : Heap}
theorem ok_PlainList_rest (T : Txt K mg w) : FnOk P w K mg base CX0 1 T.a_PlainList_rest T.fd_PlainList_rest ["self"] (sp_PlainList_rest K) := by
  refine T.F_PlainList_rest.ok sc_PlainList_rest (fun vs H Q E h => match vs, h with | [_], _ => rfl) (fun cdv A outer s H vs Q E hr h => ?_)
  refine ⟨_, ((pss_one (ps_ret (pe_fldK (K := K) rfl (pv 0) rfl)))), ?_⟩
  match vs, h with
  | [x0], h =>
  replace h : s_PlainList_rest K x0 H Q E := h
  try dsimp only [cxOf, Cx.nox, Cx.wish]
  show (_ : TS) { nx := fun _ H' => Q .non H', rt := Q } [some x0] H
  obtain ⟨n, a, hp, k⟩ := h
  obtain ⟨p, dx, rfl, h1⟩ := hp.at_ T.nx_PlainList
  walk_at "sx"
  exact l_fld h1 T.cl_PlainList T.na_PlainList_left rfl k
end
section
variable {P : Program} {w : World} {K : PySem.W.Frag} {mg : Str → Option Value} {base : Heap}
theorem ok_PlainList_has (T : Txt K mg w) (o_weighted : FnOk P w K mg base CX0 4 T.a_weighted T.fd_weighted ["q", "word"] (sp_weighted K)) (o_want_word : FnOk P w K mg base CX0 3 T.a_want_word T.fd_want_word ["q", "word"] (sp_want_word K)) : FnOk P w K mg base CX0 5 T.a_PlainList_has T.fd_PlainList_has ["self", "word"] (sp_PlainList_has K) := by
  refine T.F_PlainList_has.ok sc_PlainList_has (fun vs H Q E h => match vs, h with | [_, _], _ => rfl) (fun cdv A outer s H vs Q E hr h => ?_)
  refine ⟨_, ((pss_cons (ps_expr (pe_call o_want_word (hr.mono (by decide)) rfl T.g_want_word T.F_want_word.kp T.b_want_word .nil pass0 (pa_cons pe_int (pa_cons (pv 1) pa_nil))))
    (pss_one (ps_ret (pe_and (pe_cmpR (op_eqK (K := K) hr.units rfl) (pe_callB (call_lenK (K := K) rfl) (by rfl) T.z_len (by decide +kernel) (pa_cons (pv 1) pa_nil)) (pe_fldK (K := K) rfl (pv 0) rfl) (nomark _)) (pe_one (pe_cmpR (op_eqK (K := K) hr.units rfl) (pe_op op_modP (pe_call o_weighted hr rfl T.g_weighted T.F_weighted.kp T.b_weighted .nil pass0 (pa_cons pe_int (pa_cons (pv 1) pa_nil))) (pe_op (op_addK (K := K) rfl) (pe_fldK (K := K) rfl (pv 0) rfl) pe_int)) (pe_fldK (K := K) rfl (pv 0) rfl) (nomark _)))))))), ?_⟩
  match vs, h with
  | [x0, x1], h =>
  replace h : s_PlainList_has K x0 x1 H Q E := h
  try dsimp only [cxOf, Cx.nox, Cx.wish]
  show (_ : TS) { nx := fun _ H' => Q .non H', rt := Q } [some x0, some x1] H
  obtain ⟨n, a, ns, hp, hn, hw, k⟩ := h
  walk_at "sx"
  refine ⟨2, ns, rfl, by omega, hw, fun H1 e1 => ?_⟩
  obtain ⟨p, dx, rfl, h1⟩ := hp.at_ T.nx_PlainList
  have hw1 := hw.mono e1
  have hw0 := hw1
  obtain ⟨b, rfl, hs, hl, hg⟩ := hw0
  walk_at "sx"
  refine l_fld (e1 _ _ h1) T.cl_PlainList T.na_PlainList_many rfl ?_
  walk_at "sx"
  rw [List.length_map]
  refine ifd (fun c => ?_) (fun c => ?_)
  · walk_at "sx"
    refine ⟨2, ns, rfl, by omega, hw1, fun H2 e2 => ?_⟩
    have h2 := e2 _ _ (e1 _ _ h1)
    walk_at "sx"
    refine l_fld h2 T.cl_PlainList T.na_PlainList_many rfl ?_
    walk_at "sx"
    refine l_fld h2 T.cl_PlainList T.na_PlainList_left rfl ?_
    walk_at "sx"
    have kk := k _ (e1.trans e2)
    rw [decide_eq_true c, Bool.true_and] at kk
    exact kk
  · have kk := k _ e1
    rw [decide_eq_false c, Bool.false_and] at kk
    exact kk
end
section
variable {P : Program} {w : World} {K : PySem.W.Frag} {mg : Str → Option Value} {base : Heap}
def PvR (H : Hp) (n i : Nat) : Addr → Nat → List V → Hp → Prop := fun _ r acc H1 => Ex H H1 ∧ acc = ((List.range r).map fun (z : Nat) => Dn (n + 1) n (i + 1) (z : Int)).map V.int
theorem ok_rows_behind (T : Txt K mg w) : FnOk P w K mg base CX0 1 T.a_rows_behind T.fd_rows_behind ["n"] (sp_rows_behind K) := by
  refine T.F_rows_behind.ok sc_rows_behind (fun vs H Q E h => match vs, h with | [_], _ => rfl) (fun cdv A outer s H vs Q E hr h => ?_)
  refine ⟨_, ((pss_cons (ps_set (i := 1) sc_rows_behind.nd rfl (by first | exact Or.inl rfl | exact Or.inr rfl) (pe_op (op_addK (K := K) rfl) (pv 0) pe_int))
    (pss_cons (ps_set (i := 2) sc_rows_behind.nd rfl (by first | exact Or.inl rfl | exact Or.inr rfl) (pe_lst (pa_cons (pe_op (op_addK (K := K) rfl) (pe_lst (pa_cons pe_int pa_nil)) (pe_op (op_mulK (K := K) rfl) (pe_lst (pa_cons pe_int pa_nil)) (pv 0))) pa_nil)))
    (pss_cons (ps_for PassesOwn.never rfl (pi_range3 rfl T.z_range (pa_cons (pv 0) (pa_cons pe_int (pa_cons (pe_un un_neg pe_int) pa_nil)))) (pg_name (i := 3) sc_rows_behind.nd rfl (by first | exact Or.inl rfl | exact Or.inr rfl)) (pss_cons (ps_set (i := 4) sc_rows_behind.nd rfl (by first | exact Or.inl rfl | exact Or.inr rfl) (pe_ix (ix_K (K := K) rfl) (pv 2) (pe_un un_neg pe_int) (fun _ _ => rfl)))
    (pss_one (ps_expr (pe_bmK (K := K) rfl (pe_bm PySem.F.plainAttrs_list PySem.F.slot_list_append PySem.F.type_list_append mt_append (pv 2) (pa_cons (pe_lc (own := [("rest", 5)]) (g := (gName 5)) (tt := tYes) rfl sc_rows_behind.nd (pi_range1 rfl T.z_range (pa_cons (pv 1) pa_nil)) (blkOk_by (own := [("rest", 5)]) (N := ["n", "by", "found", "place", "later", "rest"]) (sc := defScope S_rows_behind) (by decide +kernel)) (fun _ _ _ _ _ => (pg_name (i := 5) sc_rows_behind.nd rfl (by first | exact Or.inl rfl | exact Or.inr rfl))) (fun _ _ _ _ _ => pts_nil) (fun _ _ _ _ _ => (pe_op (op_addK (K := K) rfl) (pe_ix (ix_K (K := K) rfl) (pv 4) (pv 5) (fun _ _ => rfl)) (pe_ix (ix_K (K := K) rfl) (pv 4) (pe_op op_modP (pe_op op_subP (pv 5) (pv 3)) (pv 1)) (fun _ _ => rfl))))) pa_nil)))))))
    (pss_cons (ps_expr (pe_bm0K (K := K) rfl (pe_bm0 PySem.F.plainAttrs_list PySem.F.slot_list_reverse PySem.F.type_list_reverse mt_reverse (pv 2))))
    (pss_one (ps_ret (pv 2)))))))), ?_⟩
  match vs, h with
  | [x0], h =>
  replace h : s_rows_behind K x0 H Q E := h
  try dsimp only [cxOf, Cx.nox, Cx.wish]
  show (_ : TS) { nx := fun _ H' => Q .non H', rt := Q } [some x0, none, none, none, none, none] H
  obtain ⟨n, rfl, hn, k⟩ := h
  walk_at "sx"
  refine w_newL (by simp) fun l1 H1 _ e1 h1 => ?_
  walk_at "sx"
  refine w_newL (by simp) fun l2 H2 _ e2 h2 => ?_
  walk_at "sx"
  refine l_mulL h2 (by omega) (by simp; omega) fun l3 H3 _ e3 h3 => ?_
  refine l_addL ((e2.trans e3) _ _ h1) h3 (by simp [List.length_flatten]; omega) fun l4 H4 hn4 e4 h4 => ?_
  walk_at "sx"
  refine w_newL (by simp) fun f H5 hf e5 h5 => ?_
  have e04 : Ex H H4 := e1.trans (e2.trans (e3.trans e4))
  have e03 : Ex H H3 := e1.trans (e2.trans e3)
  rw [show ((n : Int)).toNat = (n + 1) - 1 by omega, row0 (n + 1) n (by omega)] at h4
  have hl4f : l4 ≠ f := ne_of_none h4 hf
  walk_at "sx"
  refine l_forC (fun i σ Hx => ∃ xs v3 v4 v5, σ = [some (.int n), some (.int ((n : Int) + 1)), some (.ref f), v3, v4, v5] ∧ Ex H Hx ∧ Hx f = some (.lst xs) ∧ Rows H Hx f (n + 1) n (List.range (i + 1)) xs) ⟨_, _, _, _, rfl, e04.trans e5, h5, .cons ⟨l4, rfl, hl4f, Evl.fresh_back e03 hn4, e5 _ _ h4⟩ .nil⟩ ?_ ?_
  · rintro i σ Hx hi ⟨xs, v3, v4, v5, rfl, ex, hfx, hR⟩
    obtain ⟨x, hx, b, rfl, nb, fb, hb⟩ := pd_at2 hR (i := i) (y := i) (by simp)
    have hxs : xs.length = i + 1 := by rw [Paired.length hR]; simp
    obtain ⟨ys, rfl⟩ : ∃ ys, xs = ys ++ [.ref b] := by
      refine ⟨xs.take i, ?_⟩
      rw [← take_at hx, ← hxs, List.take_length]
    walk_at "sx"
    refine l_ixL (SqL.of hfx) (atI_last _ _) ?_
    walk_at "sx"
    refine l_lc walk_range (PvR Hx n i) (fun D H6 _ e6 _ => ⟨e6, rfl⟩) (fun _ _ _ _ _ _ _ => True.intro) ?_ ?_
    · rintro D r acc y H6 H7 hD hr h6 ⟨e6, rfl⟩ ⟨rfl, rfl⟩
      have hb6 := e6 _ _ hb
      walk_at "sx"
      refine ⟨rfl, ?_⟩
      walk_at "sx"
      rw [Int.zero_add]
      refine l_ixL (SqL.of hb6) (drow_at (by omega) (by omega)) ?_
      walk_at "sx"
      have q0 := Int.emod_nonneg ((r : Int) - ((n : Int) + (i : Int) * -1)) (show (n : Int) + 1 ≠ 0 by omega)
      have q1 := Int.emod_lt_of_pos ((r : Int) - ((n : Int) + (i : Int) * -1)) (show (0 : Int) < (n : Int) + 1 by omega)
      refine l_ixL (SqL.of hb6) (drow_at q0 (by omega)) ?_
      walk_at "sx"
      refine lc_end (Pv := PvR Hx n i) h6 (by simp; omega) fun H8 e8 h8 => ⟨ExB.new e6 e8 hD, ?_⟩
      rw [List.range_succ, List.map_append, List.map_append]
      simp only [List.map_cons, List.map_nil]
      show _ = _ ++ [V.int (Dn (n + 1) n i (r : Int) + Dn (n + 1) n i (((r : Int) - ((n - i : Nat) : Int)) % ((n + 1 : Nat) : Int)))]
      rw [show (((n - i : Nat)) : Int) = (n : Int) + (i : Int) * -1 by omega, show (((n + 1 : Nat)) : Int) = (n : Int) + 1 by omega]
    · rintro D acc H6 hD h6 ⟨e6, rfl⟩
      have hfD : f ≠ D := ne_of_none hfx hD
      have hDf : D ≠ f := Ne.symm hfD
      walk_at "sx"
      refine l_app (e6 _ _ hfx) (by rw [hxs]; omega) fun H7 e7 h7 => ?_
      walk_at "sx"
      refine ⟨_, _, _, _, rfl, ExB.new (ex.trans e6) e7 (Evl.fresh_back e04 hf), h7, ?_⟩
      rw [List.range_succ (n := i + 1)]
      refine pd_app (Rows.exB e7 (Rows.mono e6 hR)) (.cons ⟨D, rfl, hDf, Evl.fresh_back ex hD, ?_⟩ .nil)
      rw [e7 _ _ hDf h6]
      unfold drow
      rw [show ((n : Int) + 1).toNat = n + 1 by omega]
  · rintro σ Hx ⟨xs, v3, v4, v5, rfl, ex, hfx, hR⟩
    rw [show ((n : Int) - 0).toNat = n by omega] at hR
    walk_at "sx"
    refine l_rev hfx fun H6 e6 h6 => ?_
    walk_at "sx"
    exact k f _ _ (Evl.fresh_back e04 hf) (ExB.new ex e6 (Evl.fresh_back e04 hf)) h6 (pd_rev (Rows.exB e6 hR))
end
section
variable {P : Program} {w : World} {K : PySem.W.Frag} {mg : Str → Option Value} {base : Heap}
theorem ok_how_many (T : Txt K mg w) (o_rows_behind : FnOk P w K mg base CX0 1 T.a_rows_behind T.fd_rows_behind ["n"] (sp_rows_behind K)) (o_PlainList_length : FnOk P w K mg base CX0 1 T.a_PlainList_length T.fd_PlainList_length ["self"] (sp_PlainList_length K)) (o_PlainList_rest : FnOk P w K mg base CX0 1 T.a_PlainList_rest T.fd_PlainList_rest ["self"] (sp_PlainList_rest K)) : FnOk P w K mg base CX0 2 T.a_how_many T.fd_how_many ["plain"] (sp_how_many K) := by
  refine T.F_how_many.ok sc_how_many (fun vs H Q E h => match vs, h with | [_], _ => rfl) (fun cdv A outer s H vs Q E hr h => ?_)
  refine ⟨_, ((pss_one (ps_ret (pe_ix (ix_K (K := K) rfl) (pe_ix (ix_K (K := K) rfl) (pe_call o_rows_behind hr rfl T.g_rows_behind T.F_rows_behind.kp T.b_rows_behind .nil pass0 (pa_cons (pe_meth0 (pv 0) T.cl_PlainList T.m_PlainList_length o_PlainList_length hr T.b_PlainList_length .nil pass0) pa_nil)) pe_int (fun _ _ => rfl)) (pe_meth0 (pv 0) T.cl_PlainList T.m_PlainList_rest o_PlainList_rest hr T.b_PlainList_rest .nil pass0) (fun _ _ => rfl))))), ?_⟩
  match vs, h with
  | [x0], h =>
  replace h : s_how_many K x0 H Q E := h
  try dsimp only [cxOf, Cx.nox, Cx.wish]
  show (_ : TS) { nx := fun _ H' => Q .non H', rt := Q } [some x0] H
  obtain ⟨n, a, hP, hn, ha, k⟩ := h
  obtain ⟨p, dx, rfl, h1⟩ := hP.at_ T.nx_PlainList
  walk_at "sx"
  refine l_meth h1 rfl ?_
  walk_at "sx"
  refine ⟨n, a, hP, ?_⟩
  walk_at "sx"
  refine ⟨n, rfl, hn, fun f xs H1 hf e1 hx hR => ?_⟩
  walk_at "sx"
  obtain ⟨x, hx0, b, rfl, nb, fb, hb⟩ := pd_at2 hR (i := 0) (y := n) (by rw [List.getElem?_reverse (by simp)]; simp)
  refine l_ixL (SqL.of hx) (atI_nat hx0) ?_
  walk_at "sx"
  refine l_meth (e1 _ _ h1) rfl ?_
  walk_at "sx"
  refine ⟨n, a, hP.mono e1, ?_⟩
  refine l_ixL (SqL.of hb) (drow_at (by omega) (by omega)) ?_
  exact k _ e1
end
section
variable {P : Program} {w : World} {K : PySem.W.Frag} {mg : Str → Option Value} {base : Heap}
theorem ok_member (T : Txt K mg w) (o_PlainList_length : FnOk P w K mg base CX0 1 T.a_PlainList_length T.fd_PlainList_length ["self"] (sp_PlainList_length K)) (o_is_number : FnOk P w K mg base CX0 1 T.a_is_number T.fd_is_number ["thing"] (sp_is_number K)) (o_PlainList_rest : FnOk P w K mg base CX0 1 T.a_PlainList_rest T.fd_PlainList_rest ["self"] (sp_PlainList_rest K)) (o_rows_behind : FnOk P w K mg base CX0 1 T.a_rows_behind T.fd_rows_behind ["n"] (sp_rows_behind K)) : FnOk P w K mg base CX0 2 T.a_member T.fd_member ["plain", "k"] (sp_member K) := by
  refine T.F_member.ok sc_member (fun vs H Q E h => match vs, h with | [_, _], _ => rfl) (fun cdv A outer s H vs Q E hr h => ?_)
  refine ⟨_, ((pss_cons (ps_set (i := 2) sc_member.nd rfl (by first | exact Or.inl rfl | exact Or.inr rfl) (pe_call o_rows_behind hr rfl T.g_rows_behind T.F_rows_behind.kp T.b_rows_behind .nil pass0 (pa_cons (pe_meth0 (pv 0) T.cl_PlainList T.m_PlainList_length o_PlainList_length hr T.b_PlainList_length .nil pass0) pa_nil)))
    (pss_cons (ps_set (i := 3) sc_member.nd rfl (by first | exact Or.inl rfl | exact Or.inr rfl) (pe_meth0 (pv 0) T.cl_PlainList T.m_PlainList_rest o_PlainList_rest hr T.b_PlainList_rest .nil pass0))
    (pss_cons (ps_if (PW.pt (pw_or (pt_not (pt_val (pe_call o_is_number hr rfl T.g_is_number T.F_is_number.kp T.b_is_number .nil pass0 (pa_cons (pv 1) pa_nil)))) (pw_or1 (pt_not (pt_chain (op_leQ (K := K) hr.units rfl) op_ltP pe_int (pv 1) (pe_ix (ix_K (K := K) rfl) (pe_ix (ix_K (K := K) rfl) (pv 2) pe_int (fun _ _ => rfl)) (pv 3) (fun _ _ => rfl))))))) (pss_one ps_never) pss_nil)
    (pss_cons (ps_set (i := 4) sc_member.nd rfl (by first | exact Or.inl rfl | exact Or.inr rfl) (pv 1))
    (pss_cons (ps_set (i := 5) sc_member.nd rfl (by first | exact Or.inl rfl | exact Or.inr rfl) (pe_tup pa_nil))
    (pss_cons (ps_for PassesOwn.never rfl (pi_range1 rfl T.z_range (pa_cons (pe_meth0 (pv 0) T.cl_PlainList T.m_PlainList_length o_PlainList_length hr T.b_PlainList_length .nil pass0) pa_nil)) (pg_name (i := 6) sc_member.nd rfl (by first | exact Or.inl rfl | exact Or.inr rfl)) (pss_cons (ps_set (i := 7) sc_member.nd rfl (by first | exact Or.inl rfl | exact Or.inr rfl) (pe_ix (ix_K (K := K) rfl) (pe_ix (ix_K (K := K) rfl) (pv 2) (pe_op (op_addK (K := K) rfl) (pv 6) pe_int) (fun _ _ => rfl)) (pv 3) (fun _ _ => rfl)))
    (pss_cons (ps_set (i := 8) sc_member.nd rfl (by first | exact Or.inl rfl | exact Or.inr rfl) (pe_callTy call_intP (by rfl) T.z_int (by decide +kernel) (pa_cons (pe_cmpR op_geP (pv 4) (pv 7) (nomark _)) pa_nil)))
    (pss_cons (ps_set (i := 4) sc_member.nd rfl (by first | exact Or.inl rfl | exact Or.inr rfl) (pe_op op_subP (pv 4) (pe_op (op_mulK (K := K) rfl) (pv 8) (pv 7))))
    (pss_cons (ps_set (i := 3) sc_member.nd rfl (by first | exact Or.inl rfl | exact Or.inr rfl) (pe_op op_modP (pe_op op_subP (pv 3) (pe_op (op_mulK (K := K) rfl) (pv 8) (pe_op (op_addK (K := K) rfl) (pv 6) pe_int))) (pe_callB (call_lenK (K := K) rfl) (by rfl) T.z_len (by decide +kernel) (pa_cons (pe_ix (ix_K (K := K) rfl) (pv 2) pe_int (fun _ _ => rfl)) pa_nil))))
    (pss_one (ps_set (i := 5) sc_member.nd rfl (by first | exact Or.inl rfl | exact Or.inr rfl) (pe_op (op_addK (K := K) rfl) (pv 5) (pe_tup (pa_cons (pv 8) pa_nil))))))))))
    (pss_one (ps_ret (pv 5)))))))))), ?_⟩
  match vs, h with
  | [x0, x1], h =>
  replace h : s_member K x0 x1 H Q E := h
  try dsimp only [cxOf, Cx.nox, Cx.wish]
  show (_ : TS) { nx := fun _ H' => Q .non H', rt := Q } [some x0, some x1, none, none, none, none, none, none, none] H
  obtain ⟨n, a, k, hP, hn, ha, rfl, hk, kk⟩ := h
  obtain ⟨p, dx, rfl, h1⟩ := hP.at_ T.nx_PlainList
  walk_at "sx"
  refine l_meth h1 rfl ?_
  walk_at "sx"
  refine ⟨n, a, hP, ?_⟩
  walk_at "sx"
  refine ⟨n, rfl, hn, fun f xs H1 hf e1 hx hR => ?_⟩
  walk_at "sx"
  refine l_meth (e1 _ _ h1) rfl ?_
  walk_at "sx"
  refine ⟨n, a, hP.mono e1, ?_⟩
  walk_at "sx"
  refine ⟨"int", .int k, ?_⟩
  walk_at "sx"
  refine ifd (fun c => ?_) (fun c => absurd hk.1 c)
  obtain ⟨b0, hb0, g0⟩ := row_at hR (i := 0) (Nat.zero_le _)
  walk_at "sx"
  refine l_ixL (SqL.of hx) hb0 ?_
  walk_at "sx"
  refine l_ixL (SqL.of g0) (drow_at ha.1 (by omega)) ?_
  walk_at "sx"
  refine ifdn (fun c => absurd hk.2 c) (fun c => ?_)
  walk_at "sx"
  refine w_newT (by simp) fun t0 H2 _ e2 h2 => ?_
  walk_at "sx"
  refine l_meth (e2 _ _ (e1 _ _ h1)) rfl ?_
  walk_at "sx"
  refine ⟨n, a, hP.mono (e1.trans e2), ?_⟩
  walk_at "sx"
  refine l_forR (fun i σ Hx => ∃ (t : Addr) (pre : List Int) (r l : Int) (v6 v7 v8 : Option V), σ = [some (.ref p), some (.int k), some (.ref f), some (.int r), some (.int l), some (.ref t), v6, v7, v8] ∧ Ex H2 Hx ∧ SqT K Hx t (pre.map V.int) ∧ pre.length = i ∧ (0 ≤ r ∧ r ≤ n) ∧ pre ++ memN (n + 1) n (n - i) r l = memN (n + 1) n n a k) ⟨t0, [], a, k, _, _, _, rfl, Evl.Ex.refl _, SqT.of h2, rfl, ha, rfl⟩ ?_ ?_
  · rintro i σ Hx hi ⟨t, pre, r, l, v6, v7, v8, rfl, ex, ht, hl, hr, hq⟩
    have hi' : i < n := by omega
    walk_at "sx"
    have e2x := e2.trans ex
    obtain ⟨b, hb, g⟩ := row_at hR (i := i + 1) (by omega)
    refine l_ixL (SqL.of (e2x _ _ hx)) (by rw [show (0 : Int) + (i : Int) + 1 = ((i + 1 : Nat) : Int) by omega]; exact hb) ?_
    walk_at "sx"
    refine l_ixL (SqL.of (e2x _ _ g)) (drow_at hr.1 (by omega)) ?_
    walk_at "sx"
    obtain ⟨sg, hsg, hs2⟩ : ∃ sg : Int, (if decide (Dn (n + 1) n (n - (i + 1)) r ≤ l) = true then (1 : Int) else 0) = sg ∧ (sg = 1 ∧ Dn (n + 1) n (n - (i + 1)) r ≤ l ∨ sg = 0 ∧ ¬ Dn (n + 1) n (n - (i + 1)) r ≤ l) := by
      by_cases c : Dn (n + 1) n (n - (i + 1)) r ≤ l
      · exact ⟨1, by simp [c], .inl ⟨rfl, c⟩⟩
      · exact ⟨0, by simp [c], .inr ⟨rfl, c⟩⟩
    rw [hsg]
    refine l_ixL (SqL.of (e2x _ _ hx)) hb0 ?_
    walk_at "sx"
    rw [List.length_map, drow_len]
    walk_at "sx"
    refine w_newT (by simp) fun t3 H3 _ e3 h3 => ?_
    refine l_addT (Evl.ex_t e3 ht) (SqT.of h3) (by simp [hl]; omega) fun t4 H4 e4 h4 => ?_
    walk_at "sx"
    have q0 := Int.emod_nonneg (r - sg * (0 + (i : Int) + 1)) (show ((n + 1 : Nat) : Int) ≠ 0 by omega)
    have q1 := Int.emod_lt_of_pos (r - sg * (0 + (i : Int) + 1)) (show (0 : Int) < ((n + 1 : Nat) : Int) by omega)
    refine ⟨t4, pre ++ [sg], _, _, _, _, _, rfl, ex.trans (e3.trans e4), by rw [List.map_append]; exact h4, by simp [hl], by omega, ?_⟩
    rw [← hq, memN_go hi', List.append_assoc]
    congr 1
    rcases hs2 with ⟨rfl, c⟩ | ⟨rfl, c⟩
    · rw [if_pos c, Int.one_mul, Int.one_mul, show (0 : Int) + (i : Int) + 1 = ((i + 1 : Nat) : Int) by omega]
      rfl
    · rw [if_neg c, Int.zero_mul, Int.zero_mul, Int.sub_zero, Int.sub_zero, Int.emod_eq_of_lt hr.1 (by omega)]
      rfl
  · rintro σ Hx ⟨t, pre, r, l, v6, v7, v8, rfl, ex, ht, hl, hr, hq⟩
    walk_at "sx"
    rw [show n - (n : Int).toNat = 0 by omega, show memN (n + 1) n 0 r l = [] from rfl, List.append_nil] at hq
    subst hq
    exact kk _ _ (e1.trans (e2.trans ex)) ht
end
section
variable {P : Program} {w : World} {K : PySem.W.Frag} {mg : Str → Option Value} {base : Heap}
theorem ok_number_of (T : Txt K mg w) (o_PlainList_rest : FnOk P w K mg base CX0 1 T.a_PlainList_rest T.fd_PlainList_rest ["self"] (sp_PlainList_rest K)) (o_rows_behind : FnOk P w K mg base CX0 1 T.a_rows_behind T.fd_rows_behind ["n"] (sp_rows_behind K)) (o_PlainList_length : FnOk P w K mg base CX0 1 T.a_PlainList_length T.fd_PlainList_length ["self"] (sp_PlainList_length K)) (o_PlainList_has : FnOk P w K mg base CX0 5 T.a_PlainList_has T.fd_PlainList_has ["self", "word"] (sp_PlainList_has K)) : FnOk P w K mg base CX0 6 T.a_number_of T.fd_number_of ["plain", "word"] (sp_number_of K) := by
  refine T.F_number_of.ok sc_number_of (fun vs H Q E h => match vs, h with | [_, _], _ => rfl) (fun cdv A outer s H vs Q E hr h => ?_)
  refine ⟨_, ((pss_cons (ps_if (pt_not (pt_val (pe_meth (pv 0) T.cl_PlainList T.m_PlainList_has o_PlainList_has hr T.b_PlainList_has .nil pass0 (pa_cons (pv 1) pa_nil)))) (pss_one ps_never) pss_nil)
    (pss_cons (ps_set (i := 2) sc_number_of.nd rfl (by first | exact Or.inl rfl | exact Or.inr rfl) (pe_call o_rows_behind (hr.mono (by decide)) rfl T.g_rows_behind T.F_rows_behind.kp T.b_rows_behind .nil pass0 (pa_cons (pe_meth0 (pv 0) T.cl_PlainList T.m_PlainList_length o_PlainList_length (hr.mono (by decide)) T.b_PlainList_length .nil pass0) pa_nil)))
    (pss_cons (ps_set (i := 3) sc_number_of.nd rfl (by first | exact Or.inl rfl | exact Or.inr rfl) (pe_meth0 (pv 0) T.cl_PlainList T.m_PlainList_rest o_PlainList_rest (hr.mono (by decide)) T.b_PlainList_rest .nil pass0))
    (pss_cons (ps_set (i := 4) sc_number_of.nd rfl (by first | exact Or.inl rfl | exact Or.inr rfl) pe_int)
    (pss_cons (ps_for PassesOwn.never rfl (pi_enumK (K := K) rfl (by rfl) T.z_enumerate (pa_cons (pv 1) pa_nil)) (pg_tupK (K := K) rfl rfl (pgs_cons (pg_name (i := 5) sc_number_of.nd rfl (by first | exact Or.inl rfl | exact Or.inr rfl)) (pgs_cons (pg_name (i := 6) sc_number_of.nd rfl (by first | exact Or.inl rfl | exact Or.inr rfl)) pgs_nil))) (pss_one (ps_if (pt_cmpR (op_eqK (K := K) hr.units rfl) (pv 6) pe_int (nomark _)) (pss_cons (ps_set (i := 4) sc_number_of.nd rfl (by first | exact Or.inl rfl | exact Or.inr rfl) (pe_op (op_addK (K := K) rfl) (pv 4) (pe_ix (ix_K (K := K) rfl) (pe_ix (ix_K (K := K) rfl) (pv 2) (pe_op (op_addK (K := K) rfl) (pv 5) pe_int) (fun _ _ => rfl)) (pv 3) (fun _ _ => rfl))))
    (pss_one (ps_set (i := 3) sc_number_of.nd rfl (by first | exact Or.inl rfl | exact Or.inr rfl) (pe_op op_modP (pe_op op_subP (pe_op op_subP (pv 3) (pv 5)) pe_int) (pe_callB (call_lenK (K := K) rfl) (by rfl) T.z_len (by decide +kernel) (pa_cons (pe_ix (ix_K (K := K) rfl) (pv 2) pe_int (fun _ _ => rfl)) pa_nil)))))) pss_nil)))
    (pss_one (ps_ret (pv 4))))))))), ?_⟩
  match vs, h with
  | [x0, x1], h =>
  replace h : s_number_of K x0 x1 H Q E := h
  try dsimp only [cxOf, Cx.nox, Cx.wish]
  show (_ : TS) { nx := fun _ H' => Q .non H', rt := Q } [some x0, some x1, none, none, none, none, none] H
  obtain ⟨n, a, w, hP, hn, ha, hW, hl, hw, kk⟩ := h
  obtain ⟨p, dx, rfl, h1⟩ := hP.at_ T.nx_PlainList
  walk_at "sx"
  refine l_meth h1 rfl ?_
  walk_at "sx"
  refine ⟨n, a, w, hP, by omega, hW, fun H0 e0 => ?_⟩
  rw [decide_eq_true (by omega), decide_eq_true hw, show (true && true) = true from rfl]
  walk_at "sx"
  refine l_meth (e0 _ _ h1) rfl ?_
  walk_at "sx"
  refine ⟨n, a, hP.mono e0, ?_⟩
  walk_at "sx"
  refine ⟨n, rfl, hn, fun f xs H1 hf e1 hx hR => ?_⟩
  walk_at "sx"
  refine l_meth ((e0.trans e1) _ _ h1) rfl ?_
  walk_at "sx"
  refine ⟨n, a, hP.mono (e0.trans e1), ?_⟩
  obtain ⟨b0, hb0, g0⟩ := row_at hR (i := 0) (Nat.zero_le _)
  obtain ⟨wa, rfl, hwa, hwl, hsg⟩ := hW
  have hwa1 := Evl.ex_t (e0.trans e1) hwa
  walk_at "sx"
  refine l_for walk_enumT (fun i σ Hx => ∃ (r fo : Int) (v5 v6 : Option V), σ = [some (.ref p), some (.ref wa), some (.ref f), some (.int r), some (.int fo), v5, v6] ∧ Ex H1 Hx ∧ (0 ≤ r ∧ r ≤ n) ∧ fo + numN (n + 1) n (w.drop i) r = numN (n + 1) n w a) ⟨a, 0, _, _, rfl, Evl.Ex.refl _, ha, by simp⟩ (fun i σ Hx _ ⟨_, _, _, _, _, e, _⟩ => Evl.ex_t e hwa1) ?_ ?_
  · rintro i x σ Hx H3 hi ⟨r, fo, v5, v6, rfl, ex, hr, hq⟩ ⟨T', y, z, rfl, hT, rfl, hy, hz⟩
    cases hy
    rw [List.length_map] at hi
    have ez : z = .int (w.getD i 0) := (at_int hz).2
    subst ez
    have e3 : Ex Hx (upd Hx T' (.tup [.int (i : Nat), .int (w.getD i 0)])) := Evl.Ex.new hT
    refine g_tup (SqT.of upd_same) rfl ?_
    generalize upd Hx T' (.tup [.int (i : Nat), .int (w.getD i 0)]) = H3 at *
    have e13 := ex.trans e3
    have hd : w.drop i = w.getD i 0 :: w.drop (i + 1) := by
      rw [List.drop_eq_getElem_cons hi]; simp [List.getD, hi]
    have hdl : (w.drop (i + 1)).length = n - (i + 1) := by rw [List.length_drop, hl]
    rw [hd] at hq
    walk_at "sx"
    refine ifd (fun c => ?_) (fun c => ?_)
    · walk_at "sx"
      obtain ⟨b, hb, g⟩ := row_at hR (i := i + 1) (by omega)
      refine l_ixL (SqL.of (e13 _ _ hx)) (by rw [show (i : Int) + 1 = ((i + 1 : Nat) : Int) by omega]; exact hb) ?_
      walk_at "sx"
      refine l_ixL (SqL.of (e13 _ _ g)) (drow_at hr.1 (by omega)) ?_
      walk_at "sx"
      refine l_ixL (SqL.of (e13 _ _ hx)) hb0 ?_
      walk_at "sx"
      rw [List.length_map, drow_len]
      walk_at "sx"
      have q0 := Int.emod_nonneg (r - (i : Int) - 1) (show ((n + 1 : Nat) : Int) ≠ 0 by omega)
      have q1 := Int.emod_lt_of_pos (r - (i : Int) - 1) (show (0 : Int) < ((n + 1 : Nat) : Int) by omega)
      refine ⟨_, _, _, _, rfl, e13, by omega, ?_⟩
      rw [← hq, c]
      show _ = fo + (if (1 : Int) = 1 then _ else _)
      rw [if_pos rfl, hdl, show n - (n - (i + 1)) = i + 1 by omega, show r - (i : Int) - 1 = r - ((i + 1 : Nat) : Int) by omega]
      omega
    · walk_at "sx"
      refine ⟨_, _, _, _, rfl, e13, hr, ?_⟩
      rw [← hq]
      show _ = fo + (if w.getD i 0 = 1 then _ else _)
      rw [if_neg c]
  · rintro σ Hx ⟨r, fo, v5, v6, rfl, ex, hr, hq⟩
    rw [List.length_map, List.drop_length, show numN (n + 1) n [] r = 0 from rfl, Int.add_zero] at hq
    subst hq
    walk_at "sx"
    exact kk _ (e0.trans (e1.trans ex))
end
section
variable {P : Program} {w : World} {K : PySem.W.Frag} {mg : Str → Option Value} {base : Heap}
theorem ok_words_ahead (T : Txt K mg w) (o_lost_ring : FnOk P w K mg base CX0 4 T.a_lost_ring T.fd_lost_ring ["q", "word"] (sp_lost_ring K)) (o_put_ring : FnOk P w K mg base CX0 4 T.a_put_ring T.fd_put_ring ["q", "word"] (sp_put_ring K)) : FnOk P w K mg base CX0 5 T.a_words_ahead T.fd_words_ahead ["n", "came"] (sp_words_ahead K) := by
  refine T.F_words_ahead.ok sc_words_ahead (fun vs H Q E h => match vs, h with | [_, _], _ => rfl) (fun cdv A outer s H vs Q E hr h => ?_)
  refine ⟨_, ((pss_cons (ps_if (pt_cmpR (op_eqK (K := K) hr.units rfl) (pe_callB (call_lenK (K := K) rfl) (by rfl) T.z_len (by decide +kernel) (pa_cons (pv 1) pa_nil)) (pe_op op_subP (pv 0) pe_int) (nomark _)) (pss_one (ps_ret (pe_call o_put_ring hr rfl T.g_put_ring T.F_put_ring.kp T.b_put_ring .nil pass0 (pa_cons pe_int (pa_cons (pv 1) pa_nil))))) pss_nil)
    (pss_cons (ps_if (pt_cmpR (op_eqK (K := K) hr.units rfl) (pe_callB (call_lenK (K := K) rfl) (by rfl) T.z_len (by decide +kernel) (pa_cons (pv 1) pa_nil)) (pv 0) (nomark _)) (pss_one (ps_ret (pe_lst (pa_cons (pv 1) pa_nil)))) pss_nil)
    (pss_one (ps_ret (pe_call o_lost_ring hr rfl T.g_lost_ring T.F_lost_ring.kp T.b_lost_ring .nil pass0 (pa_cons pe_int (pa_cons (pv 1) pa_nil)))))))), ?_⟩
  match vs, h with
  | [x0, x1], h =>
  replace h : s_words_ahead K x0 x1 H Q E := h
  try dsimp only [cxOf, Cx.nox, Cx.wish]
  show (_ : TS) { nx := fun _ H' => Q .non H', rt := Q } [some x0, some x1] H
  obtain ⟨n, ns, rfl, hn, hw, hl2, kk⟩ := h
  have hw0 := hw
  obtain ⟨a, rfl, hs, hl, hg⟩ := hw0
  walk_at "sx"
  rw [List.length_map]
  unfold cands at kk
  refine ifd (fun c => ?_) (fun c => ?_)
  · rw [if_pos c] at kk
    walk_at "sx"
    exact ⟨2, ns, rfl, by omega, hw, by omega, by omega, fun p ys us H' h1 h2 h3 h4 h5 => kk p ys us H' h1 h2 h3 h4 h5.1⟩
  rw [if_neg c] at kk
  walk_at "sx"
  rw [List.length_map]
  refine ifd (fun c => ?_) (fun c => ?_)
  · rw [if_pos (by omega)] at kk
    walk_at "sx"
    refine w_newL (by simp) fun f H2 hn2 e2 h2 => ?_
    exact kk f _ [ns] _ hn2 e2 h2 (.cons ⟨a, rfl, Evl.ex_t e2 hs⟩ .nil) fun w => Iff.rfl
  · rw [if_neg (by omega)] at kk
    walk_at "sx"
    exact ⟨2, ns, rfl, by omega, hw, fun p ys us H' h1 h2 h3 h4 h5 => kk p ys us H' h1 h2 h3 h4 h5.1⟩
end
section
variable {P : Program} {w : World} {K : PySem.W.Frag} {mg : Str → Option Value} {base : Heap}
theorem ok_mended (T : Txt K mg w) (o_words_ahead : FnOk P w K mg base CX0 5 T.a_words_ahead T.fd_words_ahead ["n", "came"] (sp_words_ahead K)) (o_PlainList_length : FnOk P w K mg base CX0 1 T.a_PlainList_length T.fd_PlainList_length ["self"] (sp_PlainList_length K)) (o_PlainList_has : FnOk P w K mg base CX0 5 T.a_PlainList_has T.fd_PlainList_has ["self", "word"] (sp_PlainList_has K)) (o_want_word : FnOk P w K mg base CX0 3 T.a_want_word T.fd_want_word ["q", "word"] (sp_want_word K)) : FnOk P w K mg base CX0 6 T.a_mended T.fd_mended ["plain", "came"] (sp_mended K) := by
  refine T.F_mended.ok sc_mended (fun vs H Q E h => match vs, h with | [_, _], _ => rfl) (fun cdv A outer s H vs Q E hr h => ?_)
  refine ⟨_, ((pss_cons (ps_expr (pe_call o_want_word (hr.mono (by decide)) rfl T.g_want_word T.F_want_word.kp T.b_want_word .nil pass0 (pa_cons pe_int (pa_cons (pv 1) pa_nil))))
    (pss_cons (ps_if (pt_cmpR op_gtP (pe_callB call_absP (by rfl) T.z_abs (by decide +kernel) (pa_cons (pe_op op_subP (pe_callB (call_lenK (K := K) rfl) (by rfl) T.z_len (by decide +kernel) (pa_cons (pv 1) pa_nil)) (pe_meth0 (pv 0) T.cl_PlainList T.m_PlainList_length o_PlainList_length (hr.mono (by decide)) T.b_PlainList_length .nil pass0)) pa_nil)) pe_int (nomark _)) (pss_one ps_never) pss_nil)
    (pss_cons (ps_for PassesOwn.never rfl (pi_seqK (K := K) rfl (pe_call o_words_ahead hr rfl T.g_words_ahead T.F_words_ahead.kp T.b_words_ahead .nil pass0 (pa_cons (pe_meth0 (pv 0) T.cl_PlainList T.m_PlainList_length o_PlainList_length (hr.mono (by decide)) T.b_PlainList_length .nil pass0) (pa_cons (pv 1) pa_nil)))) (pg_name (i := 2) sc_mended.nd rfl (by first | exact Or.inl rfl | exact Or.inr rfl)) (pss_one (ps_if (pt_val (pe_meth (pv 0) T.cl_PlainList T.m_PlainList_has o_PlainList_has hr T.b_PlainList_has .nil pass0 (pa_cons (pv 2) pa_nil))) (pss_one (ps_ret (pv 2))) pss_nil)))
    (pss_one (ps_ret pe_non)))))), ?_⟩
  match vs, h with
  | [x0, x1], h =>
  replace h : s_mended K x0 x1 H Q E := h
  try dsimp only [cxOf, Cx.nox, Cx.wish]
  show (_ : TS) { nx := fun _ H' => Q .non H', rt := Q } [some x0, some x1, none] H
  obtain ⟨n, a, ns, hP, hn, hw, hl2, kk⟩ := h
  have hw0 := hw
  obtain ⟨b, rfl, hs, hl, hg⟩ := hw0
  walk_at "sx"
  refine ⟨2, ns, rfl, by omega, hw, fun H1 e1 => ?_⟩
  replace hP := hP.mono e1
  replace hw := hw.mono e1
  replace hs := Evl.ex_t e1 hs
  have hP0 := hP
  obtain ⟨p, dx, rfl, h1⟩ := hP0.at_ T.nx_PlainList
  walk_at "sx"
  refine l_meth h1 rfl ?_
  walk_at "sx"
  refine ⟨n, a, hP, ?_⟩
  walk_at "sx"
  rw [List.length_map]
  refine ifd (fun c => ?_) (fun c => ?_)
  · exfalso
    split at c <;> omega
  walk_at "sx"
  refine l_meth h1 rfl ?_
  walk_at "sx"
  refine ⟨n, a, hP, ?_⟩
  walk_at "sx"
  refine ⟨n, ns, rfl, hn, hw, hl2, fun f ys us H2 hf e2 h2 hW hm => ?_⟩
  walk_at "sx"
  refine l_forL (fun i σ H3 => Ex H2 H3 ∧ (∃ v2, σ = [some (.ref p), some (.ref b), v2]) ∧ ∀ u ∈ us.take i, inPL n a u = false) ⟨Evl.Ex.refl _, ⟨_, rfl⟩, fun u hu => by simp at hu⟩ (fun i σ H3 _ ⟨e, _⟩ => SqL.of (e _ _ h2)) ?_ ?_
  · rintro i x σ H3 hi hx ⟨e3, ⟨v2, rfl⟩, hno⟩
    obtain ⟨u, hu, b2, rfl, hb2⟩ := pd_at hW hx
    have hb3 := Evl.ex_t e3 hb2
    have huc := (hm u).mp (List.mem_of_getElem? hu)
    have hwb : u.length ≤ 60 ∧ Sg 2 u := by
      unfold cands at huc
      split at huc
      · have := puts_wb hg u huc; exact ⟨by omega, this.2⟩
      · split at huc
        · rw [List.mem_singleton] at huc; subst huc; exact ⟨hl, hg⟩
        · have := losts_wb hg u huc; exact ⟨by omega, this.2⟩
    walk_at "sx"
    refine l_meth (e3 _ _ (e2 _ _ h1)) rfl ?_
    walk_at "sx"
    refine ⟨n, a, u, hP.mono (e2.trans e3), by omega, ⟨b2, rfl, hb3, hwb.1, hwb.2⟩, fun H4 e4 => ?_⟩
    walk_at "sx"
    refine ifb (fun c => ?_) (fun c => ?_)
    · walk_at "sx"
      exact kk _ _ (e1.trans (e2.trans (e3.trans e4))) (.inl ⟨u, ⟨b2, rfl, Evl.ex_t e4 hb3⟩, huc, c⟩)
    · walk_at "sx"
      refine ⟨e3.trans e4, ⟨_, rfl⟩, fun w hw => ?_⟩
      rw [take_at hu] at hw
      rcases List.mem_append.mp hw with hw | hw
      · exact hno w hw
      · rw [List.mem_singleton.mp hw]; exact c
  · rintro σ H3 ⟨e3, ⟨v2, rfl⟩, hno⟩
    walk_at "sx"
    rw [show ys.length = us.length from Paired.length hW, List.take_length] at hno
    exact kk _ _ (e1.trans (e2.trans e3)) (.inr ⟨rfl, fun u hu => hno u ((hm u).mpr hu)⟩)
end
section
variable {P : Program} {w : World} {K : PySem.W.Frag} {mg : Str → Option Value} {base : Heap}
theorem ok_StrongList_init (T : Txt K mg w) (o_is_number : FnOk P w K mg base CX0 1 T.a_is_number T.fd_is_number ["thing"] (sp_is_number K)) : FnOk P w K mg base CX0 2 T.a_StrongList_init T.fd_StrongList_init ["self", "n", "a"] (sp_StrongList_init K) := by
  refine T.F_StrongList_init.ok sc_StrongList_init (fun vs H Q E h => match vs, h with | [_, _, _], _ => rfl) (fun cdv A outer s H vs Q E hr h => ?_)
  refine ⟨_, ((pss_cons (ps_if (PW.pt (pw_or (pt_not (pt_val (pe_call o_is_number hr rfl T.g_is_number T.F_is_number.kp T.b_is_number .nil pass0 (pa_cons (pv 1) pa_nil)))) (pw_or1 (pt_not (pt_chain (op_leQ (K := K) hr.units rfl) (op_leQ (K := K) hr.units rfl) pe_int (pv 1) (pe_glob (v := .int 59) rfl T.c_MOST_STRONG ⟨_, rfl⟩)))))) (pss_one ps_never) pss_nil)
    (pss_cons (ps_if (PW.pt (pw_or (pt_not (pt_val (pe_call o_is_number hr rfl T.g_is_number T.F_is_number.kp T.b_is_number .nil pass0 (pa_cons (pv 2) pa_nil)))) (pw_or1 (pt_not (pt_chain (op_leQ (K := K) hr.units rfl) op_ltP pe_int (pv 2) (pe_op (op_mulK (K := K) rfl) pe_int (pv 1))))))) (pss_one ps_never) pss_nil)
    (pss_cons (ps_fld (pv 0) (pv 1) rfl)
    (pss_one (ps_fld (pv 0) (pv 2) rfl)))))), ?_⟩
  match vs, h with
  | [x0, x1, x2], h =>
  replace h : s_StrongList_init K x0 x1 x2 H Q E := h
  try dsimp only [cxOf, Cx.nox, Cx.wish]
  show (_ : TS) { nx := fun _ H' => Q .non H', rt := Q } [some x0, some x1, some x2] H
  obtain ⟨p, C, dx, n, a, rfl, hC, hp, rfl, hn, rfl, ha, k⟩ := h
  have eC := hC.symm.trans T.nx_StrongList
  cases eC
  walk_at "sx"
  refine ⟨"int", .int n, ?_⟩
  walk_at "sx"
  refine ifd (fun c => ?_) (fun c => absurd hn.1 c)
  walk_at "sx"
  refine ifdn (fun c => absurd hn.2 c) (fun c => ?_)
  walk_at "sx"
  refine ⟨"int", .int a, ?_⟩
  walk_at "sx"
  refine ifd (fun c => ?_) (fun c => absurd ha.1 c)
  walk_at "sx"
  refine ifdn (fun c => absurd ha.2 c) (fun c => ?_)
  walk_at "sx"
  refine l_fldS hp T.cl_StrongList T.na_StrongList_many (by simp) fun H1 e1 h1 => ?_
  walk_at "sx"
  refine l_fldS h1 T.cl_StrongList T.na_StrongList_left (by simp [putF]) fun H2 e2 h2 => ?_
  exact k _ (e1.trans e2) h2
end
section
variable {P : Program} {w : World} {K : PySem.W.Frag} {mg : Str → Option Value} {base : Heap}
theorem ok_StrongList_length (T : Txt K mg w) : FnOk P w K mg base CX0 1 T.a_StrongList_length T.fd_StrongList_length ["self"] (sp_StrongList_length K) := by
  refine T.F_StrongList_length.ok sc_StrongList_length (fun vs H Q E h => match vs, h with | [_], _ => rfl) (fun cdv A outer s H vs Q E hr h => ?_)
  refine ⟨_, ((pss_one (ps_ret (pe_fldK (K := K) rfl (pv 0) rfl)))), ?_⟩
  match vs, h with
  | [x0], h =>
  replace h : s_StrongList_length K x0 H Q E := h
  try dsimp only [cxOf, Cx.nox, Cx.wish]
  show (_ : TS) { nx := fun _ H' => Q .non H', rt := Q } [some x0] H
  obtain ⟨n, a, hp, k⟩ := h
  obtain ⟨p, dx, rfl, h1⟩ := hp.at_ T.nx_StrongList
  walk_at "sx"
  exact l_fld h1 T.cl_StrongList T.na_StrongList_many rfl k
end
section
variable {P : Program} {w : World} {K : PySem.W.Frag} {mg : Str → Option Value} {base : Heap}
theorem ok_StrongList_rest (T : Txt K mg w) : FnOk P w K mg base CX0 1 T.a_StrongList_rest T.fd_StrongList_rest ["self"] (sp_StrongList_rest K) := by
  refine T.F_StrongList_rest.ok sc_StrongList_rest (fun vs H Q E h => match vs, h with | [_], _ => rfl) (fun cdv A outer s H vs Q E hr h => ?_)
  refine ⟨_, ((pss_one (ps_ret (pe_fldK (K := K) rfl (pv 0) rfl)))), ?_⟩
  match vs, h with
  | [x0], h =>
  replace h : s_StrongList_rest K x0 H Q E := h
  try dsimp only [cxOf, Cx.nox, Cx.wish]
  show (_ : TS) { nx := fun _ H' => Q .non H', rt := Q } [some x0] H
  obtain ⟨n, a, hp, k⟩ := h
  obtain ⟨p, dx, rfl, h1⟩ := hp.at_ T.nx_StrongList
  walk_at "sx"
  exact l_fld h1 T.cl_StrongList T.na_StrongList_left rfl k
end
section
variable {P : Program} {w : World} {K : PySem.W.Frag} {mg : Str → Option Value} {base : Heap}
theorem ok_StrongList_has (T : Txt K mg w) (o_weighted : FnOk P w K mg base CX0 4 T.a_weighted T.fd_weighted ["q", "word"] (sp_weighted K)) (o_want_word : FnOk P w K mg base CX0 3 T.a_want_word T.fd_want_word ["q", "word"] (sp_want_word K)) : FnOk P w K mg base CX0 5 T.a_StrongList_has T.fd_StrongList_has ["self", "word"] (sp_StrongList_has K) := by
  refine T.F_StrongList_has.ok sc_StrongList_has (fun vs H Q E h => match vs, h with | [_, _], _ => rfl) (fun cdv A outer s H vs Q E hr h => ?_)
  refine ⟨_, ((pss_cons (ps_expr (pe_call o_want_word (hr.mono (by decide)) rfl T.g_want_word T.F_want_word.kp T.b_want_word .nil pass0 (pa_cons pe_int (pa_cons (pv 1) pa_nil))))
    (pss_one (ps_ret (pe_and (pe_cmpR (op_eqK (K := K) hr.units rfl) (pe_callB (call_lenK (K := K) rfl) (by rfl) T.z_len (by decide +kernel) (pa_cons (pv 1) pa_nil)) (pe_fldK (K := K) rfl (pv 0) rfl) (nomark _)) (pe_one (pe_cmpR (op_eqK (K := K) hr.units rfl) (pe_op op_modP (pe_call o_weighted hr rfl T.g_weighted T.F_weighted.kp T.b_weighted .nil pass0 (pa_cons pe_int (pa_cons (pv 1) pa_nil))) (pe_op (op_mulK (K := K) rfl) pe_int (pe_fldK (K := K) rfl (pv 0) rfl))) (pe_fldK (K := K) rfl (pv 0) rfl) (nomark _)))))))), ?_⟩
  match vs, h with
  | [x0, x1], h =>
  replace h : s_StrongList_has K x0 x1 H Q E := h
  try dsimp only [cxOf, Cx.nox, Cx.wish]
  show (_ : TS) { nx := fun _ H' => Q .non H', rt := Q } [some x0, some x1] H
  obtain ⟨n, a, ns, hp, hn, hw, k⟩ := h
  unfold inSL at k
  walk_at "sx"
  refine ⟨2, ns, rfl, by omega, hw, fun H1 e1 => ?_⟩
  obtain ⟨p, dx, rfl, h1⟩ := hp.at_ T.nx_StrongList
  have hw1 := hw.mono e1
  have hw0 := hw1
  obtain ⟨b, rfl, hs, hl, hg⟩ := hw0
  walk_at "sx"
  refine l_fld (e1 _ _ h1) T.cl_StrongList T.na_StrongList_many rfl ?_
  walk_at "sx"
  rw [List.length_map]
  refine ifd (fun c => ?_) (fun c => ?_)
  · walk_at "sx"
    refine ⟨2, ns, rfl, by omega, hw1, fun H2 e2 => ?_⟩
    have h2 := e2 _ _ (e1 _ _ h1)
    walk_at "sx"
    refine l_fld h2 T.cl_StrongList T.na_StrongList_many rfl ?_
    walk_at "sx"
    refine l_fld h2 T.cl_StrongList T.na_StrongList_left rfl ?_
    walk_at "sx"
    have kk := k _ (e1.trans e2)
    rw [decide_eq_true c, Bool.true_and] at kk
    exact kk
  · have kk := k _ e1
    rw [decide_eq_false c, Bool.false_and] at kk
    exact kk
end
section
variable {P : Program} {w : World} {K : PySem.W.Frag} {mg : Str → Option Value} {base : Heap}
theorem ok_ring_before (T : Txt K mg w) (o_lost_ring : FnOk P w K mg base CX0 4 T.a_lost_ring T.fd_lost_ring ["q", "word"] (sp_lost_ring K)) (o_put_ring : FnOk P w K mg base CX0 4 T.a_put_ring T.fd_put_ring ["q", "word"] (sp_put_ring K)) (o_changed_ring : FnOk P w K mg base CX0 4 T.a_changed_ring T.fd_changed_ring ["q", "word"] (sp_changed_ring K)) : FnOk P w K mg base CX0 5 T.a_ring_before T.fd_ring_before ["n", "came"] (sp_ring_before K) := by
  refine T.F_ring_before.ok sc_ring_before (fun vs H Q E h => match vs, h with | [_, _], _ => rfl) (fun cdv A outer s H vs Q E hr h => ?_)
  refine ⟨_, ((pss_cons (ps_if (pt_cmpR (op_eqK (K := K) hr.units rfl) (pe_callB (call_lenK (K := K) rfl) (by rfl) T.z_len (by decide +kernel) (pa_cons (pv 1) pa_nil)) (pv 0) (nomark _)) (pss_one (ps_ret (pe_call o_changed_ring hr rfl T.g_changed_ring T.F_changed_ring.kp T.b_changed_ring .nil pass0 (pa_cons pe_int (pa_cons (pv 1) pa_nil))))) pss_nil)
    (pss_cons (ps_if (pt_cmpR (op_eqK (K := K) hr.units rfl) (pe_callB (call_lenK (K := K) rfl) (by rfl) T.z_len (by decide +kernel) (pa_cons (pv 1) pa_nil)) (pe_op op_subP (pv 0) pe_int) (nomark _)) (pss_one (ps_ret (pe_call o_put_ring hr rfl T.g_put_ring T.F_put_ring.kp T.b_put_ring .nil pass0 (pa_cons pe_int (pa_cons (pv 1) pa_nil))))) pss_nil)
    (pss_one (ps_ret (pe_call o_lost_ring hr rfl T.g_lost_ring T.F_lost_ring.kp T.b_lost_ring .nil pass0 (pa_cons pe_int (pa_cons (pv 1) pa_nil)))))))), ?_⟩
  match vs, h with
  | [x0, x1], h =>
  replace h : s_ring_before K x0 x1 H Q E := h
  try dsimp only [cxOf, Cx.nox, Cx.wish]
  show (_ : TS) { nx := fun _ H' => Q .non H', rt := Q } [some x0, some x1] H
  obtain ⟨n, ns, rfl, hn, hw, hl2, kk⟩ := h
  have hw0 := hw
  obtain ⟨a, rfl, hs, hl, hg⟩ := hw0
  walk_at "sx"
  rw [List.length_map]
  unfold candsS at kk
  refine ifd (fun c => ?_) (fun c => ?_)
  · rw [if_pos (by omega)] at kk
    walk_at "sx"
    exact ⟨2, ns, rfl, by omega, hw, by omega, fun p ys us H' h1 h2 h3 h4 h5 => kk p ys us H' h1 h2 h3 h4 h5.1⟩
  rw [if_neg (by omega)] at kk
  walk_at "sx"
  rw [List.length_map]
  refine ifd (fun c => ?_) (fun c => ?_)
  · rw [if_pos c] at kk
    walk_at "sx"
    exact ⟨2, ns, rfl, by omega, hw, by omega, by omega, fun p ys us H' h1 h2 h3 h4 h5 => kk p ys us H' h1 h2 h3 h4 h5.1⟩
  · rw [if_neg c] at kk
    walk_at "sx"
    exact ⟨2, ns, rfl, by omega, hw, fun p ys us H' h1 h2 h3 h4 h5 => kk p ys us H' h1 h2 h3 h4 h5.1⟩
end
section
variable {P : Program} {w : World} {K : PySem.W.Frag} {mg : Str → Option Value} {base : Heap}
theorem ok_strong_mended (T : Txt K mg w) (o_ring_before : FnOk P w K mg base CX0 5 T.a_ring_before T.fd_ring_before ["n", "came"] (sp_ring_before K)) (o_StrongList_length : FnOk P w K mg base CX0 1 T.a_StrongList_length T.fd_StrongList_length ["self"] (sp_StrongList_length K)) (o_StrongList_has : FnOk P w K mg base CX0 5 T.a_StrongList_has T.fd_StrongList_has ["self", "word"] (sp_StrongList_has K)) (o_want_word : FnOk P w K mg base CX0 3 T.a_want_word T.fd_want_word ["q", "word"] (sp_want_word K)) : FnOk P w K mg base CX0 6 T.a_strong_mended T.fd_strong_mended ["strong", "came"] (sp_strong_mended K) := by
  refine T.F_strong_mended.ok sc_strong_mended (fun vs H Q E h => match vs, h with | [_, _], _ => rfl) (fun cdv A outer s H vs Q E hr h => ?_)
  refine ⟨_, ((pss_cons (ps_expr (pe_call o_want_word (hr.mono (by decide)) rfl T.g_want_word T.F_want_word.kp T.b_want_word .nil pass0 (pa_cons pe_int (pa_cons (pv 1) pa_nil))))
    (pss_cons (ps_if (pt_cmpR op_gtP (pe_callB call_absP (by rfl) T.z_abs (by decide +kernel) (pa_cons (pe_op op_subP (pe_callB (call_lenK (K := K) rfl) (by rfl) T.z_len (by decide +kernel) (pa_cons (pv 1) pa_nil)) (pe_meth0 (pv 0) T.cl_StrongList T.m_StrongList_length o_StrongList_length (hr.mono (by decide)) T.b_StrongList_length .nil pass0)) pa_nil)) pe_int (nomark _)) (pss_one ps_never) pss_nil)
    (pss_cons (ps_for PassesOwn.never rfl (pi_seqK (K := K) rfl (pe_call o_ring_before hr rfl T.g_ring_before T.F_ring_before.kp T.b_ring_before .nil pass0 (pa_cons (pe_meth0 (pv 0) T.cl_StrongList T.m_StrongList_length o_StrongList_length (hr.mono (by decide)) T.b_StrongList_length .nil pass0) (pa_cons (pv 1) pa_nil)))) (pg_name (i := 2) sc_strong_mended.nd rfl (by first | exact Or.inl rfl | exact Or.inr rfl)) (pss_one (ps_if (pt_val (pe_meth (pv 0) T.cl_StrongList T.m_StrongList_has o_StrongList_has hr T.b_StrongList_has .nil pass0 (pa_cons (pv 2) pa_nil))) (pss_one (ps_ret (pv 2))) pss_nil)))
    (pss_one (ps_ret pe_non)))))), ?_⟩
  match vs, h with
  | [x0, x1], h =>
  replace h : s_strong_mended K x0 x1 H Q E := h
  try dsimp only [cxOf, Cx.nox, Cx.wish]
  show (_ : TS) { nx := fun _ H' => Q .non H', rt := Q } [some x0, some x1, none] H
  obtain ⟨n, a, ns, hP, hn, hw, hl2, kk⟩ := h
  have hw0 := hw
  obtain ⟨b, rfl, hs, hl, hg⟩ := hw0
  walk_at "sx"
  refine ⟨2, ns, rfl, by omega, hw, fun H1 e1 => ?_⟩
  replace hP := hP.mono e1
  replace hw := hw.mono e1
  replace hs := Evl.ex_t e1 hs
  have hP0 := hP
  obtain ⟨p, dx, rfl, h1⟩ := hP0.at_ T.nx_StrongList
  walk_at "sx"
  refine l_meth h1 rfl ?_
  walk_at "sx"
  refine ⟨n, a, hP, ?_⟩
  walk_at "sx"
  rw [List.length_map]
  refine ifd (fun c => ?_) (fun c => ?_)
  · exfalso
    split at c <;> omega
  walk_at "sx"
  refine l_meth h1 rfl ?_
  walk_at "sx"
  refine ⟨n, a, hP, ?_⟩
  walk_at "sx"
  refine ⟨n, ns, rfl, hn, hw, hl2, fun f ys us H2 hf e2 h2 hW hm => ?_⟩
  walk_at "sx"
  refine l_forL (fun i σ H3 => Ex H2 H3 ∧ (∃ v2, σ = [some (.ref p), some (.ref b), v2]) ∧ ∀ u ∈ us.take i, inSL n a u = false) ⟨Evl.Ex.refl _, ⟨_, rfl⟩, fun u hu => by simp at hu⟩ (fun i σ H3 _ ⟨e, _⟩ => SqL.of (e _ _ h2)) ?_ ?_
  · rintro i x σ H3 hi hx ⟨e3, ⟨v2, rfl⟩, hno⟩
    obtain ⟨u, hu, b2, rfl, hb2⟩ := pd_at hW hx
    have hb3 := Evl.ex_t e3 hb2
    have huc := (hm u).mp (List.mem_of_getElem? hu)
    have hwb : u.length ≤ 60 ∧ Sg 2 u := by
      have := candsS_wd hg hl2 huc
      exact ⟨by omega, this.2⟩
    walk_at "sx"
    refine l_meth (e3 _ _ (e2 _ _ h1)) rfl ?_
    walk_at "sx"
    refine ⟨n, a, u, hP.mono (e2.trans e3), by omega, ⟨b2, rfl, hb3, hwb.1, hwb.2⟩, fun H4 e4 => ?_⟩
    walk_at "sx"
    refine ifb (fun c => ?_) (fun c => ?_)
    · walk_at "sx"
      exact kk _ _ (e1.trans (e2.trans (e3.trans e4))) (.inl ⟨u, ⟨b2, rfl, Evl.ex_t e4 hb3⟩, huc, c⟩)
    · walk_at "sx"
      refine ⟨e3.trans e4, ⟨_, rfl⟩, fun w hw => ?_⟩
      rw [take_at hu] at hw
      rcases List.mem_append.mp hw with hw | hw
      · exact hno w hw
      · rw [List.mem_singleton.mp hw]; exact c
  · rintro σ H3 ⟨e3, ⟨v2, rfl⟩, hno⟩
    walk_at "sx"
    rw [show ys.length = us.length from Paired.length hW, List.take_length] at hno
    exact kk _ _ (e1.trans (e2.trans e3)) (.inr ⟨rfl, fun u hu => hno u ((hm u).mpr hu)⟩)
end
section
variable {P : Program} {w : World} {K : PySem.W.Frag} {mg : Str → Option Value} {base : Heap}
def PvQ (H : Hp) (m n i : Nat) : Addr → Nat → List V → Hp → Prop := fun _ r acc H1 => Ex H H1 ∧ acc = ((List.range r).map fun (z : Nat) => Dn m n (i + 1) (z : Int)).map V.int
theorem ok_tails (T : Txt K mg w) : FnOk P w K mg base CX0 1 T.a_tails T.fd_tails ["n"] (sp_tails K) := by
  refine T.F_tails.ok sc_tails (fun vs H Q E h => match vs, h with | [_], _ => rfl) (fun cdv A outer s H vs Q E hr h => ?_)
  refine ⟨_, ((pss_cons (ps_set (i := 1) sc_tails.nd rfl (by first | exact Or.inl rfl | exact Or.inr rfl) (pe_op (op_mulK (K := K) rfl) pe_int (pv 0)))
    (pss_cons (ps_set (i := 2) sc_tails.nd rfl (by first | exact Or.inl rfl | exact Or.inr rfl) (pe_lst (pa_cons (pe_op (op_addK (K := K) rfl) (pe_lst (pa_cons pe_int pa_nil)) (pe_op (op_mulK (K := K) rfl) (pe_lst (pa_cons pe_int pa_nil)) (pe_op op_subP (pv 1) pe_int))) pa_nil)))
    (pss_cons (ps_for PassesOwn.never rfl (pi_range3 rfl T.z_range (pa_cons (pv 0) (pa_cons pe_int (pa_cons (pe_un un_neg pe_int) pa_nil)))) (pg_name (i := 3) sc_tails.nd rfl (by first | exact Or.inl rfl | exact Or.inr rfl)) (pss_cons (ps_set (i := 4) sc_tails.nd rfl (by first | exact Or.inl rfl | exact Or.inr rfl) (pe_ix (ix_K (K := K) rfl) (pv 2) pe_int (fun _ _ => rfl)))
    (pss_one (ps_expr (pe_bmK (K := K) rfl (pe_bm PySem.F.plainAttrs_list PySem.F.slot_list_insert PySem.F.type_list_insert mt_insP (pv 2) (pa_cons pe_int (pa_cons (pe_lc (own := [("rest", 5)]) (g := (gName 5)) (tt := tYes) rfl sc_tails.nd (pi_range1 rfl T.z_range (pa_cons (pv 1) pa_nil)) (blkOk_by (own := [("rest", 5)]) (N := ["n", "by", "found", "place", "later", "rest"]) (sc := defScope S_tails) (by decide +kernel)) (fun _ _ _ _ _ => (pg_name (i := 5) sc_tails.nd rfl (by first | exact Or.inl rfl | exact Or.inr rfl))) (fun _ _ _ _ _ => pts_nil) (fun _ _ _ _ _ => (pe_op (op_addK (K := K) rfl) (pe_ix (ix_K (K := K) rfl) (pv 4) (pv 5) (fun _ _ => rfl)) (pe_ix (ix_K (K := K) rfl) (pv 4) (pe_op op_modP (pe_op op_subP (pv 5) (pv 3)) (pv 1)) (fun _ _ => rfl))))) pa_nil))))))))
    (pss_one (ps_ret (pv 2))))))), ?_⟩
  match vs, h with
  | [x0], h =>
  replace h : s_tails K x0 H Q E := h
  try dsimp only [cxOf, Cx.nox, Cx.wish]
  show (_ : TS) { nx := fun _ H' => Q .non H', rt := Q } [some x0, none, none, none, none, none] H
  obtain ⟨n, rfl, hn, k⟩ := h
  walk_at "sx"
  refine w_newL (by simp) fun l1 H1 _ e1 h1 => ?_
  walk_at "sx"
  refine w_newL (by simp) fun l2 H2 _ e2 h2 => ?_
  walk_at "sx"
  refine l_mulL h2 (by omega) (by simp; omega) fun l3 H3 _ e3 h3 => ?_
  refine l_addL ((e2.trans e3) _ _ h1) h3 (by simp [List.length_flatten]; omega) fun l4 H4 hn4 e4 h4 => ?_
  walk_at "sx"
  refine w_newL (by simp) fun f H5 hf e5 h5 => ?_
  have e04 : Ex H H4 := e1.trans (e2.trans (e3.trans e4))
  have e03 : Ex H H3 := e1.trans (e2.trans e3)
  rw [show ((2 * (n : Int)) - 1).toNat = 2 * n - 1 by omega, row0 (2 * n) n (by omega)] at h4
  have hl4f : l4 ≠ f := ne_of_none h4 hf
  walk_at "sx"
  refine l_forC (fun i σ Hx => ∃ xs v3 v4 v5, σ = [some (.int n), some (.int (2 * (n : Int))), some (.ref f), v3, v4, v5] ∧ Ex H Hx ∧ Hx f = some (.lst xs) ∧ Rows H Hx f (2 * n) n (List.range (i + 1)).reverse xs) ⟨_, _, _, _, rfl, e04.trans e5, h5, .cons ⟨l4, rfl, hl4f, Evl.fresh_back e03 hn4, e5 _ _ h4⟩ .nil⟩ ?_ ?_
  · rintro i σ Hx hi ⟨xs, v3, v4, v5, rfl, ex, hfx, hR⟩
    obtain ⟨x, hx, b, rfl, nb, fb, hb⟩ := pd_at2 hR (i := 0) (y := i) (by rw [List.getElem?_reverse (by simp)]; simp)
    have hxs : xs.length = i + 1 := by rw [Paired.length hR]; simp
    walk_at "sx"
    refine l_ixL (SqL.of hfx) (show atI xs 0 = some (.ref b) from atI_nat hx) ?_
    walk_at "sx"
    refine l_lc walk_range (PvQ Hx (2 * n) n i) (fun D H6 _ e6 _ => ⟨e6, rfl⟩) (fun _ _ _ _ _ _ _ => True.intro) ?_ ?_
    · rintro D r acc y H6 H7 hD hr h6 ⟨e6, rfl⟩ ⟨rfl, rfl⟩
      have hb6 := e6 _ _ hb
      walk_at "sx"
      refine ⟨rfl, ?_⟩
      walk_at "sx"
      rw [Int.zero_add]
      refine l_ixL (SqL.of hb6) (drow_at (by omega) (by omega)) ?_
      walk_at "sx"
      have q0 := Int.emod_nonneg ((r : Int) - ((n : Int) + (i : Int) * -1)) (show 2 * (n : Int) ≠ 0 by omega)
      have q1 := Int.emod_lt_of_pos ((r : Int) - ((n : Int) + (i : Int) * -1)) (show (0 : Int) < 2 * (n : Int) by omega)
      refine l_ixL (SqL.of hb6) (drow_at q0 (by omega)) ?_
      walk_at "sx"
      refine lc_end (Pv := PvQ Hx (2 * n) n i) h6 (by simp; omega) fun H8 e8 h8 => ⟨ExB.new e6 e8 hD, ?_⟩
      rw [List.range_succ, List.map_append, List.map_append]
      simp only [List.map_cons, List.map_nil]
      show _ = _ ++ [V.int (Dn (2 * n) n i (r : Int) + Dn (2 * n) n i (((r : Int) - ((n - i : Nat) : Int)) % ((2 * n : Nat) : Int)))]
      rw [show (((n - i : Nat)) : Int) = (n : Int) + (i : Int) * -1 by omega, show (((2 * n : Nat)) : Int) = 2 * (n : Int) by omega]
    · rintro D acc H6 hD h6 ⟨e6, rfl⟩
      have hfD : f ≠ D := ne_of_none hfx hD
      have hDf : D ≠ f := Ne.symm hfD
      walk_at "sx"
      refine l_ins0 (e6 _ _ hfx) (by rw [hxs]; omega) fun H7 e7 h7 => ?_
      walk_at "sx"
      refine ⟨_, _, _, _, rfl, ExB.new (ex.trans e6) e7 (Evl.fresh_back e04 hf), h7, ?_⟩
      rw [List.range_succ (n := i + 1), List.reverse_append]
      refine pd_app (xs := [V.ref D]) (ys := [i + 1]) (.cons ⟨D, rfl, hDf, Evl.fresh_back ex hD, ?_⟩ .nil) (Rows.exB e7 (Rows.mono e6 hR))
      rw [e7 _ _ hDf h6]
      unfold drow
      rw [show (2 * (n : Int)).toNat = 2 * n by omega]
  · rintro σ Hx ⟨xs, v3, v4, v5, rfl, ex, hfx, hR⟩
    rw [show ((n : Int) - 0).toNat = n by omega] at hR
    walk_at "sx"
    exact k f _ _ (Evl.fresh_back e04 hf) ex hfx hR
end
section
variable {P : Program} {w : World} {K : PySem.W.Frag} {mg : Str → Option Value} {base : Heap}
theorem ok_how_many_strong (T : Txt K mg w) (o_tails : FnOk P w K mg base CX0 1 T.a_tails T.fd_tails ["n"] (sp_tails K)) (o_StrongList_length : FnOk P w K mg base CX0 1 T.a_StrongList_length T.fd_StrongList_length ["self"] (sp_StrongList_length K)) (o_StrongList_rest : FnOk P w K mg base CX0 1 T.a_StrongList_rest T.fd_StrongList_rest ["self"] (sp_StrongList_rest K)) : FnOk P w K mg base CX0 2 T.a_how_many_strong T.fd_how_many_strong ["strong"] (sp_how_many_strong K) := by
  refine T.F_how_many_strong.ok sc_how_many_strong (fun vs H Q E h => match vs, h with | [_], _ => rfl) (fun cdv A outer s H vs Q E hr h => ?_)
  refine ⟨_, ((pss_one (ps_ret (pe_ix (ix_K (K := K) rfl) (pe_ix (ix_K (K := K) rfl) (pe_call o_tails hr rfl T.g_tails T.F_tails.kp T.b_tails .nil pass0 (pa_cons (pe_meth0 (pv 0) T.cl_StrongList T.m_StrongList_length o_StrongList_length hr T.b_StrongList_length .nil pass0) pa_nil)) pe_int (fun _ _ => rfl)) (pe_meth0 (pv 0) T.cl_StrongList T.m_StrongList_rest o_StrongList_rest hr T.b_StrongList_rest .nil pass0) (fun _ _ => rfl))))), ?_⟩
  match vs, h with
  | [x0], h =>
  replace h : s_how_many_strong K x0 H Q E := h
  try dsimp only [cxOf, Cx.nox, Cx.wish]
  show (_ : TS) { nx := fun _ H' => Q .non H', rt := Q } [some x0] H
  obtain ⟨n, a, hP, hn, ha, k⟩ := h
  obtain ⟨p, dx, rfl, h1⟩ := hP.at_ T.nx_StrongList
  walk_at "sx"
  refine l_meth h1 rfl ?_
  walk_at "sx"
  refine ⟨n, a, hP, ?_⟩
  walk_at "sx"
  refine ⟨n, rfl, hn, fun f xs H1 hf e1 hx hR => ?_⟩
  walk_at "sx"
  obtain ⟨x, hx0, b, rfl, nb, fb, hb⟩ := pd_at2 hR (i := 0) (y := n) (by rw [List.getElem?_reverse (by simp)]; simp)
  refine l_ixL (SqL.of hx) (atI_nat hx0) ?_
  walk_at "sx"
  refine l_meth (e1 _ _ h1) rfl ?_
  walk_at "sx"
  refine ⟨n, a, hP.mono e1, ?_⟩
  refine l_ixL (SqL.of hb) (drow_at (by omega) (by omega)) ?_
  exact k _ e1
end
section
variable {P : Program} {w : World} {K : PySem.W.Frag} {mg : Str → Option Value} {base : Heap}
theorem ok_strong_member (T : Txt K mg w) (o_StrongList_length : FnOk P w K mg base CX0 1 T.a_StrongList_length T.fd_StrongList_length ["self"] (sp_StrongList_length K)) (o_is_number : FnOk P w K mg base CX0 1 T.a_is_number T.fd_is_number ["thing"] (sp_is_number K)) (o_StrongList_rest : FnOk P w K mg base CX0 1 T.a_StrongList_rest T.fd_StrongList_rest ["self"] (sp_StrongList_rest K)) (o_tails : FnOk P w K mg base CX0 1 T.a_tails T.fd_tails ["n"] (sp_tails K)) : FnOk P w K mg base CX0 2 T.a_strong_member T.fd_strong_member ["strong", "k"] (sp_strong_member K) := by
  refine T.F_strong_member.ok sc_strong_member (fun vs H Q E h => match vs, h with | [_, _], _ => rfl) (fun cdv A outer s H vs Q E hr h => ?_)
  refine ⟨_, ((pss_cons (ps_set (i := 2) sc_strong_member.nd rfl (by first | exact Or.inl rfl | exact Or.inr rfl) (pe_call o_tails hr rfl T.g_tails T.F_tails.kp T.b_tails .nil pass0 (pa_cons (pe_meth0 (pv 0) T.cl_StrongList T.m_StrongList_length o_StrongList_length hr T.b_StrongList_length .nil pass0) pa_nil)))
    (pss_cons (ps_set (i := 3) sc_strong_member.nd rfl (by first | exact Or.inl rfl | exact Or.inr rfl) (pe_meth0 (pv 0) T.cl_StrongList T.m_StrongList_rest o_StrongList_rest hr T.b_StrongList_rest .nil pass0))
    (pss_cons (ps_if (PW.pt (pw_or (pt_not (pt_val (pe_call o_is_number hr rfl T.g_is_number T.F_is_number.kp T.b_is_number .nil pass0 (pa_cons (pv 1) pa_nil)))) (pw_or1 (pt_not (pt_chain (op_leQ (K := K) hr.units rfl) op_ltP pe_int (pv 1) (pe_ix (ix_K (K := K) rfl) (pe_ix (ix_K (K := K) rfl) (pv 2) pe_int (fun _ _ => rfl)) (pv 3) (fun _ _ => rfl))))))) (pss_one ps_never) pss_nil)
    (pss_cons (ps_set (i := 4) sc_strong_member.nd rfl (by first | exact Or.inl rfl | exact Or.inr rfl) (pe_tup pa_nil))
    (pss_cons (ps_for PassesOwn.never rfl (pi_range1 rfl T.z_range (pa_cons (pe_meth0 (pv 0) T.cl_StrongList T.m_StrongList_length o_StrongList_length hr T.b_StrongList_length .nil pass0) pa_nil)) (pg_name (i := 5) sc_strong_member.nd rfl (by first | exact Or.inl rfl | exact Or.inr rfl)) (pss_cons (ps_set (i := 6) sc_strong_member.nd rfl (by first | exact Or.inl rfl | exact Or.inr rfl) (pe_ix (ix_K (K := K) rfl) (pe_ix (ix_K (K := K) rfl) (pv 2) (pe_op (op_addK (K := K) rfl) (pv 5) pe_int) (fun _ _ => rfl)) (pv 3) (fun _ _ => rfl)))
    (pss_cons (ps_set (i := 7) sc_strong_member.nd rfl (by first | exact Or.inl rfl | exact Or.inr rfl) (pe_callTy call_intP (by rfl) T.z_int (by decide +kernel) (pa_cons (pe_cmpR op_geP (pv 1) (pv 6) (nomark _)) pa_nil)))
    (pss_cons (ps_set (i := 1) sc_strong_member.nd rfl (by first | exact Or.inl rfl | exact Or.inr rfl) (pe_op op_subP (pv 1) (pe_op (op_mulK (K := K) rfl) (pv 7) (pv 6))))
    (pss_cons (ps_set (i := 3) sc_strong_member.nd rfl (by first | exact Or.inl rfl | exact Or.inr rfl) (pe_op op_modP (pe_op op_subP (pv 3) (pe_op (op_mulK (K := K) rfl) (pv 7) (pe_op (op_addK (K := K) rfl) (pv 5) pe_int))) (pe_callB (call_lenK (K := K) rfl) (by rfl) T.z_len (by decide +kernel) (pa_cons (pe_ix (ix_K (K := K) rfl) (pv 2) pe_int (fun _ _ => rfl)) pa_nil))))
    (pss_one (ps_set (i := 4) sc_strong_member.nd rfl (by first | exact Or.inl rfl | exact Or.inr rfl) (pe_op (op_addK (K := K) rfl) (pv 4) (pe_tup (pa_cons (pv 7) pa_nil))))))))))
    (pss_one (ps_ret (pv 4))))))))), ?_⟩
  match vs, h with
  | [x0, x1], h =>
  replace h : s_strong_member K x0 x1 H Q E := h
  try dsimp only [cxOf, Cx.nox, Cx.wish]
  show (_ : TS) { nx := fun _ H' => Q .non H', rt := Q } [some x0, some x1, none, none, none, none, none, none] H
  obtain ⟨n, a, k, hP, hn, ha, rfl, hk, kk⟩ := h
  obtain ⟨p, dx, rfl, h1⟩ := hP.at_ T.nx_StrongList
  walk_at "sx"
  refine l_meth h1 rfl ?_
  walk_at "sx"
  refine ⟨n, a, hP, ?_⟩
  walk_at "sx"
  refine ⟨n, rfl, hn, fun f xs H1 hf e1 hx hR => ?_⟩
  walk_at "sx"
  refine l_meth (e1 _ _ h1) rfl ?_
  walk_at "sx"
  refine ⟨n, a, hP.mono e1, ?_⟩
  walk_at "sx"
  refine ⟨"int", .int k, ?_⟩
  walk_at "sx"
  refine ifd (fun c => ?_) (fun c => absurd hk.1 c)
  obtain ⟨b0, hb0, g0⟩ := row_atM hR (i := 0) (Nat.zero_le _)
  walk_at "sx"
  refine l_ixL (SqL.of hx) hb0 ?_
  walk_at "sx"
  refine l_ixL (SqL.of g0) (drow_at ha.1 (by omega)) ?_
  walk_at "sx"
  refine ifdn (fun c => absurd hk.2 c) (fun c => ?_)
  walk_at "sx"
  refine w_newT (by simp) fun t0 H2 _ e2 h2 => ?_
  walk_at "sx"
  refine l_meth (e2 _ _ (e1 _ _ h1)) rfl ?_
  walk_at "sx"
  refine ⟨n, a, hP.mono (e1.trans e2), ?_⟩
  walk_at "sx"
  refine l_forR (fun i σ Hx => ∃ (t : Addr) (pre : List Int) (r l : Int) (v6 v7 v8 : Option V), σ = [some (.ref p), some (.int l), some (.ref f), some (.int r), some (.ref t), v6, v7, v8] ∧ Ex H2 Hx ∧ SqT K Hx t (pre.map V.int) ∧ pre.length = i ∧ (0 ≤ r ∧ r < 2 * (n : Int)) ∧ pre ++ memN (2 * n) n (n - i) r l = memN (2 * n) n n a k) ⟨t0, [], a, k, _, _, _, rfl, Evl.Ex.refl _, SqT.of h2, rfl, ha, rfl⟩ ?_ ?_
  · rintro i σ Hx hi ⟨t, pre, r, l, v6, v7, v8, rfl, ex, ht, hl, hr, hq⟩
    have hi' : i < n := by omega
    walk_at "sx"
    have e2x := e2.trans ex
    obtain ⟨b, hb, g⟩ := row_atM hR (i := i + 1) (by omega)
    refine l_ixL (SqL.of (e2x _ _ hx)) (by rw [show (0 : Int) + (i : Int) + 1 = ((i + 1 : Nat) : Int) by omega]; exact hb) ?_
    walk_at "sx"
    refine l_ixL (SqL.of (e2x _ _ g)) (drow_at hr.1 (by omega)) ?_
    walk_at "sx"
    obtain ⟨sg, hsg, hs2⟩ : ∃ sg : Int, (if decide (Dn (2 * n) n (n - (i + 1)) r ≤ l) = true then (1 : Int) else 0) = sg ∧ (sg = 1 ∧ Dn (2 * n) n (n - (i + 1)) r ≤ l ∨ sg = 0 ∧ ¬ Dn (2 * n) n (n - (i + 1)) r ≤ l) := by
      by_cases c : Dn (2 * n) n (n - (i + 1)) r ≤ l
      · exact ⟨1, by simp [c], .inl ⟨rfl, c⟩⟩
      · exact ⟨0, by simp [c], .inr ⟨rfl, c⟩⟩
    rw [hsg]
    refine l_ixL (SqL.of (e2x _ _ hx)) hb0 ?_
    walk_at "sx"
    rw [List.length_map, drow_len]
    walk_at "sx"
    refine w_newT (by simp) fun t3 H3 _ e3 h3 => ?_
    refine l_addT (Evl.ex_t e3 ht) (SqT.of h3) (by simp [hl]; omega) fun t4 H4 e4 h4 => ?_
    walk_at "sx"
    have q0 := Int.emod_nonneg (r - sg * (0 + (i : Int) + 1)) (show ((2 * n : Nat) : Int) ≠ 0 by omega)
    have q1 := Int.emod_lt_of_pos (r - sg * (0 + (i : Int) + 1)) (show (0 : Int) < ((2 * n : Nat) : Int) by omega)
    refine ⟨t4, pre ++ [sg], _, _, _, _, _, rfl, ex.trans (e3.trans e4), by rw [List.map_append]; exact h4, by simp [hl], by omega, ?_⟩
    rw [← hq, memN_go hi', List.append_assoc]
    congr 1
    rcases hs2 with ⟨rfl, c⟩ | ⟨rfl, c⟩
    · rw [if_pos c, Int.one_mul, Int.one_mul, show (0 : Int) + (i : Int) + 1 = ((i + 1 : Nat) : Int) by omega]
      rfl
    · rw [if_neg c, Int.zero_mul, Int.zero_mul, Int.sub_zero, Int.sub_zero, Int.emod_eq_of_lt hr.1 (by omega)]
      rfl
  · rintro σ Hx ⟨t, pre, r, l, v6, v7, v8, rfl, ex, ht, hl, hr, hq⟩
    walk_at "sx"
    rw [show n - (n : Int).toNat = 0 by omega, show memN (2 * n) n 0 r l = [] from rfl, List.append_nil] at hq
    subst hq
    exact kk _ _ (e1.trans (e2.trans ex)) ht
end
section
variable {P : Program} {w : World} {K : PySem.W.Frag} {mg : Str → Option Value} {base : Heap}
theorem ok_strong_number (T : Txt K mg w) (o_StrongList_rest : FnOk P w K mg base CX0 1 T.a_StrongList_rest T.fd_StrongList_rest ["self"] (sp_StrongList_rest K)) (o_tails : FnOk P w K mg base CX0 1 T.a_tails T.fd_tails ["n"] (sp_tails K)) (o_StrongList_length : FnOk P w K mg base CX0 1 T.a_StrongList_length T.fd_StrongList_length ["self"] (sp_StrongList_length K)) (o_StrongList_has : FnOk P w K mg base CX0 5 T.a_StrongList_has T.fd_StrongList_has ["self", "word"] (sp_StrongList_has K)) : FnOk P w K mg base CX0 6 T.a_strong_number T.fd_strong_number ["strong", "word"] (sp_strong_number K) := by
  refine T.F_strong_number.ok sc_strong_number (fun vs H Q E h => match vs, h with | [_, _], _ => rfl) (fun cdv A outer s H vs Q E hr h => ?_)
  refine ⟨_, ((pss_cons (ps_if (pt_not (pt_val (pe_meth (pv 0) T.cl_StrongList T.m_StrongList_has o_StrongList_has hr T.b_StrongList_has .nil pass0 (pa_cons (pv 1) pa_nil)))) (pss_one ps_never) pss_nil)
    (pss_cons (ps_set (i := 2) sc_strong_number.nd rfl (by first | exact Or.inl rfl | exact Or.inr rfl) (pe_call o_tails (hr.mono (by decide)) rfl T.g_tails T.F_tails.kp T.b_tails .nil pass0 (pa_cons (pe_meth0 (pv 0) T.cl_StrongList T.m_StrongList_length o_StrongList_length (hr.mono (by decide)) T.b_StrongList_length .nil pass0) pa_nil)))
    (pss_cons (ps_set (i := 3) sc_strong_number.nd rfl (by first | exact Or.inl rfl | exact Or.inr rfl) (pe_meth0 (pv 0) T.cl_StrongList T.m_StrongList_rest o_StrongList_rest (hr.mono (by decide)) T.b_StrongList_rest .nil pass0))
    (pss_cons (ps_set (i := 4) sc_strong_number.nd rfl (by first | exact Or.inl rfl | exact Or.inr rfl) pe_int)
    (pss_cons (ps_for PassesOwn.never rfl (pi_enumK (K := K) rfl (by rfl) T.z_enumerate (pa_cons (pv 1) pa_nil)) (pg_tupK (K := K) rfl rfl (pgs_cons (pg_name (i := 5) sc_strong_number.nd rfl (by first | exact Or.inl rfl | exact Or.inr rfl)) (pgs_cons (pg_name (i := 6) sc_strong_number.nd rfl (by first | exact Or.inl rfl | exact Or.inr rfl)) pgs_nil))) (pss_cons (ps_set (i := 4) sc_strong_number.nd rfl (by first | exact Or.inl rfl | exact Or.inr rfl) (pe_op (op_addK (K := K) rfl) (pv 4) (pe_op (op_mulK (K := K) rfl) (pv 6) (pe_ix (ix_K (K := K) rfl) (pe_ix (ix_K (K := K) rfl) (pv 2) (pe_op (op_addK (K := K) rfl) (pv 5) pe_int) (fun _ _ => rfl)) (pv 3) (fun _ _ => rfl)))))
    (pss_one (ps_set (i := 3) sc_strong_number.nd rfl (by first | exact Or.inl rfl | exact Or.inr rfl) (pe_op op_modP (pe_op op_subP (pv 3) (pe_op (op_mulK (K := K) rfl) (pv 6) (pe_op (op_addK (K := K) rfl) (pv 5) pe_int))) (pe_callB (call_lenK (K := K) rfl) (by rfl) T.z_len (by decide +kernel) (pa_cons (pe_ix (ix_K (K := K) rfl) (pv 2) pe_int (fun _ _ => rfl)) pa_nil)))))))
    (pss_one (ps_ret (pv 4))))))))), ?_⟩
  match vs, h with
  | [x0, x1], h =>
  replace h : s_strong_number K x0 x1 H Q E := h
  try dsimp only [cxOf, Cx.nox, Cx.wish]
  show (_ : TS) { nx := fun _ H' => Q .non H', rt := Q } [some x0, some x1, none, none, none, none, none] H
  obtain ⟨n, a, w, hP, hn, ha, hW, hl, hw, kk⟩ := h
  obtain ⟨p, dx, rfl, h1⟩ := hP.at_ T.nx_StrongList
  walk_at "sx"
  refine l_meth h1 rfl ?_
  walk_at "sx"
  refine ⟨n, a, w, hP, by omega, hW, fun H0 e0 => ?_⟩
  rw [show inSL n a w = true by unfold inSL; rw [decide_eq_true (by omega), decide_eq_true hw]; rfl]
  walk_at "sx"
  refine l_meth (e0 _ _ h1) rfl ?_
  walk_at "sx"
  refine ⟨n, a, hP.mono e0, ?_⟩
  walk_at "sx"
  refine ⟨n, rfl, hn, fun f xs H1 hf e1 hx hR => ?_⟩
  walk_at "sx"
  refine l_meth ((e0.trans e1) _ _ h1) rfl ?_
  walk_at "sx"
  refine ⟨n, a, hP.mono (e0.trans e1), ?_⟩
  obtain ⟨b0, hb0, g0⟩ := row_atM hR (i := 0) (Nat.zero_le _)
  obtain ⟨wa, rfl, hwa, hwl, hsg⟩ := hW
  have hwa1 := Evl.ex_t (e0.trans e1) hwa
  walk_at "sx"
  refine l_for walk_enumT (fun i σ Hx => ∃ (r fo : Int) (v5 v6 : Option V), σ = [some (.ref p), some (.ref wa), some (.ref f), some (.int r), some (.int fo), v5, v6] ∧ Ex H1 Hx ∧ (0 ≤ r ∧ r < 2 * (n : Int)) ∧ fo + numN (2 * n) n (w.drop i) r = numN (2 * n) n w a) ⟨a, 0, _, _, rfl, Evl.Ex.refl _, ha, by simp⟩ (fun i σ Hx _ ⟨_, _, _, _, _, e, _⟩ => Evl.ex_t e hwa1) ?_ ?_
  · rintro i x σ Hx H3 hi ⟨r, fo, v5, v6, rfl, ex, hr, hq⟩ ⟨T', y, z, rfl, hT, rfl, hy, hz⟩
    cases hy
    rw [List.length_map] at hi
    have ez : z = .int (w.getD i 0) := (at_int hz).2
    subst ez
    have e3 : Ex Hx (upd Hx T' (.tup [.int (i : Nat), .int (w.getD i 0)])) := Evl.Ex.new hT
    refine g_tup (SqT.of upd_same) rfl ?_
    generalize upd Hx T' (.tup [.int (i : Nat), .int (w.getD i 0)]) = H3 at *
    have e13 := ex.trans e3
    have hd : w.drop i = w.getD i 0 :: w.drop (i + 1) := by
      rw [List.drop_eq_getElem_cons hi]; simp [List.getD, hi]
    have hdl : (w.drop (i + 1)).length = n - (i + 1) := by rw [List.length_drop, hl]
    rw [hd] at hq
    walk_at "sx"
    have hsg2 := sg_at hsg hi
    obtain ⟨b, hb, g⟩ := row_atM hR (i := i + 1) (by omega)
    refine l_ixL (SqL.of (e13 _ _ hx)) (by rw [show (i : Int) + 1 = ((i + 1 : Nat) : Int) by omega]; exact hb) ?_
    walk_at "sx"
    refine l_ixL (SqL.of (e13 _ _ g)) (drow_at hr.1 (by omega)) ?_
    walk_at "sx"
    refine l_ixL (SqL.of (e13 _ _ hx)) hb0 ?_
    walk_at "sx"
    rw [List.length_map, drow_len]
    walk_at "sx"
    have q0 := Int.emod_nonneg (r - w.getD i 0 * ((i : Int) + 1)) (show ((2 * n : Nat) : Int) ≠ 0 by omega)
    have q1 := Int.emod_lt_of_pos (r - w.getD i 0 * ((i : Int) + 1)) (show (0 : Int) < ((2 * n : Nat) : Int) by omega)
    refine ⟨_, _, _, _, rfl, e13, by omega, ?_⟩
    rw [← hq]
    by_cases c : w.getD i 0 = 1
    · rw [c]
      show _ = fo + (if (1 : Int) = 1 then _ else _)
      rw [if_pos rfl, hdl, show n - (n - (i + 1)) = i + 1 by omega, Int.one_mul, Int.one_mul, show (((i + 1 : Nat)) : Int) = (i : Int) + 1 by omega]
      omega
    · have c0 : w.getD i 0 = 0 := by omega
      rw [c0, Int.zero_mul, Int.zero_mul, Int.sub_zero, Int.add_zero, Int.emod_eq_of_lt hr.1 (by omega)]
      show _ = fo + (if (0 : Int) = 1 then _ else _)
      rw [if_neg (by decide)]
  · rintro σ Hx ⟨r, fo, v5, v6, rfl, ex, hr, hq⟩
    rw [List.length_map, List.drop_length, show numN (2 * n) n [] r = 0 from rfl, Int.add_zero] at hq
    subst hq
    walk_at "sx"
    exact kk _ (e0.trans (e1.trans ex))
end
section
variable {P : Program} {w : World} {K : PySem.W.Frag} {mg : Str → Option Value} {base : Heap}
theorem ok_show_word (T : Txt K mg w) (o_want_word : FnOk P w K mg base CX0 3 T.a_want_word T.fd_want_word ["q", "word"] (sp_want_word K)) : FnOk P w K mg base CX0 4 T.a_show_word T.fd_show_word ["q", "word"] (sp_show_word K) := by
  refine T.F_show_word.ok sc_show_word (fun vs H Q E h => match vs, h with | [_, _], _ => rfl) (fun cdv A outer s H vs Q E hr h => ?_)
  refine ⟨_, ((pss_cons (ps_expr (pe_call o_want_word hr rfl T.g_want_word T.F_want_word.kp T.b_want_word .nil pass0 (pa_cons (pv 0) (pa_cons (pv 1) pa_nil))))
    (pss_one (ps_ret (pe_joinK (K := K) rfl pe_str (pe_lc (own := [("sign", 2)]) (g := (gName 2)) (tt := tYes) rfl sc_show_word.nd (pi_seqK (K := K) rfl (pv 1)) (blkOk_by (own := [("sign", 2)]) (N := ["q", "word", "sign"]) (sc := defScope S_show_word) (by decide +kernel)) (fun _ _ _ _ _ => (pg_name (i := 2) sc_show_word.nd rfl (by first | exact Or.inl rfl | exact Or.inr rfl))) (fun _ _ _ _ _ => pts_nil) (fun _ _ _ _ _ => (pe_ix (ix_K (K := K) rfl) (pe_glob (v := .str (PySem.Str.ofString "0123456789abcdefghijklmnopqrstuvwxyz")) rfl T.c_SIGNS ⟨_, rfl⟩) (pv 2) (fun _ _ => rfl))))))))), ?_⟩
  match vs, h with
  | [x0, x1], h =>
  replace h : s_show_word K x0 x1 H Q E := h
  try dsimp only [cxOf, Cx.nox, Cx.wish]
  show (_ : TS) { nx := fun _ H' => Q .non H', rt := Q } [some x0, some x1, none] H
  obtain ⟨q, ns, rfl, hq, hw, k⟩ := h
  have hw0 := hw
  obtain ⟨a, rfl, hs, hl, hg⟩ := hw0
  have g36 : ∀ i ∈ ns, 0 ≤ i ∧ i < 36 := fun i hi => by have := hg i hi; omega
  walk_at "sx"
  refine ⟨q, ns, rfl, hq, hw, fun H1 e1 => ?_⟩
  walk_at "sx"
  refine l_lcT (fun x => match x with | .int i => .str ⟨#[ltr i]⟩ | v => v) (Evl.ex_t e1 hs) (by simp; omega) (fun _ => rfl) (fun x H2 hx e2 Q' k' => ?_) (fun D H2 hn2 e2 h2 => ?_)
  · obtain ⟨i, hi, rfl⟩ := List.mem_map.mp hx
    walk_at "sx"
    rw [lets_eq]
    exact l_ixS (by rw [sS_len]; decide) (by rw [sS_cps]; exact ltr_at (g36 i hi)) (k' _ (Evl.Ex.refl _))
  have hys : (ns.map V.int).map (fun x => match x with | .int i => V.str ⟨#[ltr i]⟩ | v => v) = ((ns.map ltr).map fun c => (⟨#[c]⟩ : Str)).map V.str := by
    rw [List.map_map, List.map_map, List.map_map]; rfl
  rw [hys] at h2
  have hem : (Str.ofString "").length = 0 := rfl
  refine l_joinL (SqL.of h2) (by rw [sum_sgl, hem]; simp; omega) ?_
  rw [join_sgl]
  exact k _ (e1.trans e2)
end
section
variable {P : Program} {w : World} {K : PySem.W.Frag} {mg : Str → Option Value} {base : Heap}
theorem ok_read_word (T : Txt K mg w) (o_want_count : FnOk P w K mg base CX0 2 T.a_want_count T.fd_want_count ["q"] (sp_want_count K)) : FnOk P w K mg base CX0 3 T.a_read_word T.fd_read_word ["q", "text"] (sp_read_word K) := by
  refine T.F_read_word.ok sc_read_word (fun vs H Q E h => match vs, h with | [_, _], _ => rfl) (fun cdv A outer s H vs Q E hr h => ?_)
  refine ⟨_, ((pss_cons (ps_expr (pe_call o_want_count hr rfl T.g_want_count T.F_want_count.kp T.b_want_count .nil pass0 (pa_cons (pv 0) pa_nil)))
    (pss_cons (ps_if (PW.pt (pw_or (pt_not (pt_val (pe_callB (call_isiK' (K := K) rfl) (by rfl) T.z_isinstance (by decide +kernel) (pa_cons (pv 1) (pa_cons (pe_bltn (v := .ty "str") (by rfl) T.z_str (by decide +kernel) rfl) pa_nil))))) (pw_or1 (pt_cmpR op_gtP (pe_callB (call_lenK (K := K) rfl) (by rfl) T.z_len (by decide +kernel) (pa_cons (pv 1) pa_nil)) (pe_glob (v := .int 60) rfl T.c_MOST_LENGTH ⟨_, rfl⟩) (nomark _))))) (pss_one ps_never) pss_nil)
    (pss_cons (ps_if (pt_not (pt_val (pe_callB (cr_allK (K := K) rfl rfl) (by rfl) T.z_all (by decide +kernel) (pa_cons (pe_lc (own := [("sign", 2)]) (g := (gName 2)) (tt := tYes) rfl sc_read_word.nd (pi_str (pv 1)) (blkOk_by (own := [("sign", 2)]) (N := ["q", "text", "sign"]) (sc := defScope S_read_word) (by decide +kernel)) (fun _ _ _ _ _ => (pg_name (i := 2) sc_read_word.nd rfl (by first | exact Or.inl rfl | exact Or.inr rfl))) (fun _ _ _ _ _ => pts_nil) (fun _ _ _ _ _ => (pe_cmpR (op_inX (K := K) rfl) (pv 2) (pe_slice (sl_X (K := K) rfl) (pe_glob (v := .str (PySem.Str.ofString "0123456789abcdefghijklmnopqrstuvwxyz")) rfl T.c_SIGNS ⟨_, rfl⟩) po_none (po_some (pv 0))) (by rfl)))) pa_nil)))) (pss_one ps_never) pss_nil)
    (pss_one (ps_ret (pe_callTy (call_tupN (K := K) rfl) (by rfl) T.z_tuple (by decide +kernel) (pa_cons (pe_lc (own := [("sign", 2)]) (g := (gName 2)) (tt := tYes) rfl sc_read_word.nd (pi_str (pv 1)) (blkOk_by (own := [("sign", 2)]) (N := ["q", "text", "sign"]) (sc := defScope S_read_word) (by decide +kernel)) (fun _ _ _ _ _ => (pg_name (i := 2) sc_read_word.nd rfl (by first | exact Or.inl rfl | exact Or.inr rfl))) (fun _ _ _ _ _ => pts_nil) (fun _ _ _ _ _ => (pe_m1 F.slot_str_index F.type_str_index mt_sidx (pe_glob (v := .str (PySem.Str.ofString "0123456789abcdefghijklmnopqrstuvwxyz")) rfl T.c_SIGNS ⟨_, rfl⟩) (pv 2)))) pa_nil)))))))), ?_⟩
  match vs, h with
  | [x0, x1], h =>
  replace h : s_read_word K x0 x1 H Q E := h
  try dsimp only [cxOf, Cx.nox, Cx.wish]
  show (_ : TS) { nx := fun _ H' => Q .non H', rt := Q } [some x0, some x1, none] H
  obtain ⟨q, z, rfl, hq, rfl, hl, hc, k⟩ := h
  obtain ⟨q, rfl⟩ : ∃ n : Nat, q = n := ⟨q.toNat, by omega⟩
  walk_at "sx"
  refine ⟨q, rfl, hq, ?_⟩
  walk_at "sx"
  refine l_isi (.str z) (b := true) (by decide +kernel) ?_
  walk_at "sx"
  refine l_lenS (by omega) ?_
  walk_at "sx"
  refine ifd (fun c => absurd c (by omega)) (fun _ => ?_)
  walk_at "sx"
  refine l_lcS (fun c => .bl (decide (c ∈ lets.take q))) (by omega) (fun _ => rfl) (fun c H1 hcm e1 Q' k' => ?_) (fun D H1 hn1 e1 h1 => ?_)
  · walk_at "sx"
    rw [lets_eq]
    refine l_slS (by rw [sS_len]; decide) ?_
    rw [cutS_to, sS_cps]
    refine l_inS ?_
    rw [sS_cps]
    exact k' _ (Evl.Ex.refl _)
  walk_at "sx"
  refine l_all (bs := z.cps.toList.map fun c => decide (c ∈ lets.take q)) (SqL.of (by rw [h1, List.map_map]; rfl)) ?_
  have ea : (z.cps.toList.map fun c => decide (c ∈ lets.take q)).all id = true := by
    rw [List.all_eq_true]
    intro b hb
    obtain ⟨c, h2, rfl⟩ := List.mem_map.mp hb
    have := hc c h2
    rw [Int.toNat_natCast] at this
    simpa using this
  rw [ea]
  walk_at "sx"
  refine l_lcS (fun c => .int (idx c)) (by omega) (fun _ => rfl) (fun c H2 hcm e2 Q' k' => ?_) (fun D H2 hn2 e2 h2 => ?_)
  · walk_at "sx"
    rw [lets_eq]
    exact l_sidx (occ_ltr c (List.mem_of_mem_take (hc c hcm))) (k' _ (Evl.Ex.refl _))
  walk_at "sx"
  refine l_tupLN (SqL.of h2) (by rw [List.length_map, len_cps]; omega) fun a H3 e3 h3 => ?_
  refine k a _ (e1.trans (e2.trans e3)) ?_
  rw [show (idxs z).map V.int = z.cps.toList.map fun c => V.int (idx c) by unfold idxs; rw [List.map_map]; rfl]
  exact h3
end
section
variable {P : Program} {w : World} {K : PySem.W.Frag} {mg : Str → Option Value} {base : Heap}
theorem ok_is_figures (T : Txt K mg w) : FnOk P w K mg base CX0 1 T.a_is_figures T.fd_is_figures ["part"] (sp_is_figures K) := by
  refine T.F_is_figures.ok sc_is_figures (fun vs H Q E h => match vs, h with | [_], _ => rfl) (fun cdv A outer s H vs Q E hr h => ?_)
  refine ⟨_, ((pss_cons (ps_if (PW.pt (pw_or (pt_cmpR (op_eqK (K := K) hr.units rfl) (pv 0) pe_str (nomark _)) (pw_or (pt_cmpR op_gtP (pe_callB (call_lenK (K := K) rfl) (by rfl) T.z_len (by decide +kernel) (pa_cons (pv 0) pa_nil)) (pe_glob (v := .int 60) rfl T.c_MOST_FIGURES ⟨_, rfl⟩) (nomark _)) (pw_or1 (pt_not (pt_val (pe_callB (cr_allK (K := K) rfl rfl) (by rfl) T.z_all (by decide +kernel) (pa_cons (pe_lc (own := [("sign", 1)]) (g := (gName 1)) (tt := tYes) rfl sc_is_figures.nd (pi_str (pv 0)) (blkOk_by (own := [("sign", 1)]) (N := ["part", "sign"]) (sc := defScope S_is_figures) (by decide +kernel)) (fun _ _ _ _ _ => (pg_name (i := 1) sc_is_figures.nd rfl (by first | exact Or.inl rfl | exact Or.inr rfl))) (fun _ _ _ _ _ => pts_nil) (fun _ _ _ _ _ => (pe_cmpR (op_inX (K := K) rfl) (pv 1) (pe_glob (v := .str (PySem.Str.ofString "0123456789")) rfl T.c_FIGURES ⟨_, rfl⟩) (by rfl)))) pa_nil)))))))) (pss_one (ps_ret pe_bl)) pss_nil)
    (pss_one (ps_ret (pe_or (pe_cmpR (op_eqK (K := K) hr.units rfl) (pv 0) pe_str (nomark _)) (pe_one (pe_cmpR (op_neK (K := K) hr.units rfl) (pe_ix (ix_K (K := K) rfl) (pv 0) pe_int (fun _ _ => rfl)) pe_str (nomark _)))))))), ?_⟩
  match vs, h with
  | [x0], h =>
  replace h : s_is_figures K x0 H Q E := h
  try dsimp only [cxOf, Cx.nox, Cx.wish]
  show (_ : TS) { nx := fun _ H' => Q .non H', rt := Q } [some x0, none] H
  obtain ⟨z, rfl, hl, k⟩ := h
  walk_at "sx"
  refine l_eqS ?_
  walk_at "sx"
  refine ifd (fun c => ?_) (fun c => ?_)
  · walk_at "sx"
    have := k H (Evl.Ex.refl _)
    unfold figB at this
    rw [decide_eq_true c] at this
    exact this
  walk_at "sx"
  refine l_lenS (by omega) ?_
  walk_at "sx"
  refine ifd (fun c2 => ?_) (fun c2 => ?_)
  · walk_at "sx"
    have := k H (Evl.Ex.refl _)
    unfold figB at this
    rw [decide_eq_false (p := z.length ≤ 60) (by omega), Bool.and_false, Bool.false_and, Bool.false_and] at this
    exact this
  walk_at "sx"
  refine l_lcS (fun c => .bl (decide (c ∈ digs))) (by omega) (fun _ => rfl) (fun c H1 hcm e1 Q' k' => ?_) (fun D H1 hn1 e1 h1 => ?_)
  · walk_at "sx"
    rw [digs_eq, sS_cps]
    exact k' _ (Evl.Ex.refl _)
  walk_at "sx"
  refine l_all (bs := z.cps.toList.map fun c => decide (c ∈ digs)) (SqL.of (by rw [h1, List.map_map]; rfl)) ?_
  have ea : (z.cps.toList.map fun c => decide (c ∈ digs)).all id = z.cps.toList.all fun c => decide (c ∈ digs) := by rw [List.all_map]; rfl
  rw [ea]
  walk_at "sx"
  refine ifb (fun c3 => ?_) (fun c3 => ?_)
  · walk_at "sx"
    have := k _ e1
    unfold figB at this
    rw [show (z.cps.toList.all fun c => decide (c ∈ digs)) = false by simpa using c3, Bool.and_false, Bool.false_and] at this
    exact this
  have c3' : (z.cps.toList.all fun c => decide (c ∈ digs)) = true := by simpa using c3
  walk_at "sx"
  refine l_eqS ?_
  have hb : ∀ b : Bool, (decide (z = "0") || !decide (z.cps.toList.head? = some 48)) = b → Q (.bl b) H1 := fun b hb => by
    have := k _ e1
    unfold figB at this
    rw [decide_eq_false c, decide_eq_true (p := z.length ≤ 60) (by omega), c3', hb] at this
    exact this
  refine ⟨_, rfl, ?_⟩
  refine ifd (fun c4 => ?_) (fun c4 => ?_)
  · walk_at "sx"
    exact hb true (by rw [decide_eq_true c4]; rfl)
  obtain ⟨d, l, hz⟩ : ∃ d l, z.cps.toList = d :: l := by
    cases hz : z.cps.toList with
    | nil =>
      exfalso
      apply c
      rw [← sS_eta z, hz]
      rfl
    | cons d l => exact ⟨d, l, rfl⟩
  walk_at "sx"
  refine l_ixS (c := d) (by omega) (show atI _ ((0 : Nat) : Int) = _ from atI_nat (by rw [hz]; rfl)) ?_
  walk_at "sx"
  refine l_neS ?_
  walk_at "sx"
  refine hb _ ?_
  rw [decide_eq_false c4, hz]
  show (!decide (some d = some 48)) = !decide ((⟨#[d]⟩ : Str) = "0")
  by_cases c5 : d = 48
  · subst c5; rfl
  · rw [decide_eq_false (fun h => c5 (Option.some.inj h)), decide_eq_false (fun h => ?_)]
    have := congrArg (fun s : Str => s.cps.toList) h
    have e : (⟨#[d]⟩ : Str).cps.toList = [d] := rfl
    have e0 : ("0" : Str).cps.toList = [48] := by decide +kernel
    dsimp only at this
    rw [e0] at this
    exact c5 (List.cons.inj this).1
end
section
variable {P : Program} {w : World} {K : PySem.W.Frag} {mg : Str → Option Value} {base : Heap}
theorem lookup_mem {w s : Str} : ∀ {l : List (Str × Str)}, l.lookup w = some s → (w, s) ∈ l
  | [], h => by cases h
  | (k, v) :: l, h => by
    rw [List.lookup_cons] at h
    by_cases c : w = k
    · subst c
      rw [show (w == w) = true from beq_self_eq_true w] at h
      cases h
      exact List.mem_cons_self
    · rw [show (w == k) = false from beq_false_of_ne c] at h
      exact List.mem_cons_of_mem _ (lookup_mem h)
theorem tab_small {w s : Str} (h : tab_ROWS.lookup w = some s) : s.length ≤ 4 := by
  have h2 : ∀ p ∈ tab_ROWS, p.2.length ≤ 4 := by decide +kernel
  exact h2 _ (lookup_mem h)
theorem row_split {ps : List Str} (hne : ps ≠ []) (hp : ∀ p ∈ ps, 32 ∉ p.cps.toList) : Txt.split (Txt.join " " ps) " " = ps :=
  TL.split_join (s := 32) (S := []) (by decide +kernel) (by decide +kernel) hne hp
theorem sgn_N (c : Nat) : decide ((⟨#[c]⟩ : Str) = "N") = decide (c = 78) := by
  by_cases h : c = 78
  · subst h; decide +kernel
  · rw [decide_eq_false h, decide_eq_false fun z => ?_]
    have := congrArg (fun s : Str => s.cps.toList) z
    have e0 : ("N" : Str).cps.toList = [78] := by decide +kernel
    dsimp only at this
    rw [e0] at this
    exact h (List.cons.inj this).1
theorem ok_parts_of (T : Txt K mg w) (o_is_figures : FnOk P w K mg base CX0 1 T.a_is_figures T.fd_is_figures ["part"] (sp_is_figures K)) : FnOk P w K mg base CX0 2 T.a_parts_of T.fd_parts_of ["row"] (sp_parts_of K) := by
  refine T.F_parts_of.ok sc_parts_of (fun vs H Q E h => match vs, h with | [_], _ => rfl) (fun cdv A outer s H vs Q E hr h => ?_)
  refine ⟨_, ((pss_cons (ps_if (pt_not (pt_val (pe_callB (call_isiK' (K := K) rfl) (by rfl) T.z_isinstance (by decide +kernel) (pa_cons (pv 0) (pa_cons (pe_bltn (v := .ty "str") (by rfl) T.z_str (by decide +kernel) rfl) pa_nil))))) (pss_one ps_never) pss_nil)
    (pss_cons (ps_set (i := 1) sc_parts_of.nd rfl (by first | exact Or.inl rfl | exact Or.inr rfl) (pe_splitK (pv 0) pe_str))
    (pss_cons (ps_if (PW.pt (pw_or (pt_cmpR (op_notInKT T.d_ROWS) (pe_ix (ix_K (K := K) rfl) (pv 1) pe_int (fun _ _ => rfl)) (pe_glob (v := .ref T.t_ROWS) rfl T.c_ROWS rfl) (by rfl)) (pw_or1 (pt_cmpR (op_neK (K := K) hr.units rfl) (pe_callB (call_lenK (K := K) rfl) (by rfl) T.z_len (by decide +kernel) (pa_cons (pv 1) pa_nil)) (pe_op (op_addK (K := K) rfl) pe_int (pe_callB (call_lenK (K := K) rfl) (by rfl) T.z_len (by decide +kernel) (pa_cons (pe_ix (ix_KT T.d_ROWS) (pe_glob (v := .ref T.t_ROWS) rfl T.c_ROWS rfl) (pe_ix (ix_K (K := K) rfl) (pv 1) pe_int (fun _ _ => rfl)) (fun _ _ => rfl)) pa_nil))) (nomark _))))) (pss_one ps_never) pss_nil)
    (pss_cons (ps_for PassesOwn.never rfl (pi_zipS (K := K) rfl (by rfl) T.z_zip (pa_cons (pe_ix (ix_KT T.d_ROWS) (pe_glob (v := .ref T.t_ROWS) rfl T.c_ROWS rfl) (pe_ix (ix_K (K := K) rfl) (pv 1) pe_int (fun _ _ => rfl)) (fun _ _ => rfl)) (pa_cons (pe_slice (sl_K (K := K) rfl) (pv 1) (po_some pe_int) po_none) pa_nil))) (pg_tupK (K := K) rfl rfl (pgs_cons (pg_name (i := 2) sc_parts_of.nd rfl (by first | exact Or.inl rfl | exact Or.inr rfl)) (pgs_cons (pg_name (i := 3) sc_parts_of.nd rfl (by first | exact Or.inl rfl | exact Or.inr rfl)) pgs_nil))) (pss_one (ps_if (PW.pt (pw_or (pt_cmpR (op_eqK (K := K) hr.units rfl) (pv 3) pe_str (nomark _)) (pw_or1 (PW.pt (pw_and (pt_cmpR (op_eqK (K := K) hr.units rfl) (pv 2) pe_str (nomark _)) (pw_and1 (pt_not (pt_val (pe_call o_is_figures hr rfl T.g_is_figures T.F_is_figures.kp T.b_is_figures .nil pass0 (pa_cons (pv 3) pa_nil)))))))))) (pss_one ps_never) pss_nil)))
    (pss_one (ps_ret (pv 1)))))))), ?_⟩
  match vs, h with
  | [x0], h =>
  replace h : s_parts_of K x0 H Q E := h
  try dsimp only [cxOf, Cx.nox, Cx.wish]
  show (_ : TS) { nx := fun _ H' => Q .non H', rt := Q } [some x0, none, none, none] H
  obtain ⟨ps, rfl, ⟨w, args, sorts, rfl, hlk, hlen, hsp, harg⟩, hl, k⟩ := h
  have h4 := tab_small hlk
  rw [len_cps] at hlen
  walk_at "sx"
  refine l_isi (.str _) (b := true) (by decide +kernel) ?_
  walk_at "sx"
  refine l_split (row_split (by simp) hsp) (by decide +kernel) hl fun p H1 hn1 e1 h1 => ?_
  walk_at "sx"
  have hz : atI ((w :: args).map V.str) ((0 : Nat) : Int) = some (.str w) := atI_nat rfl
  refine l_ixL (SqL.of h1) hz ?_
  walk_at "sx"
  rw [hlk]
  refine iteF ?_
  walk_at "sx"
  refine l_ixL (SqL.of h1) hz ?_
  walk_at "sx"
  refine l_ixKT hlk ?_
  walk_at "sx"
  refine l_lenS (by omega) ?_
  walk_at "sx"
  rw [List.length_map, List.length_cons, decide_eq_true (p := (((args.length + 1 : Nat)) : Int) = 1 + (sorts.length : Nat)) (by omega)]
  walk_at "sx"
  refine l_ixL (SqL.of h1) hz ?_
  walk_at "sx"
  refine l_ixKT hlk ?_
  walk_at "sx"
  refine l_slL (SqL.of h1) fun l H2 hn2 e2 h2 => ?_
  have e0 : cutV ((w :: args).map V.str) (some 1) none = args.map V.str := by
    rw [show (1 : Int) = ((1 : Nat) : Int) by rfl, cut_from (by simp)]
    rfl
  rw [e0] at h2
  walk_at "sx"
  refine l_zipS (SqL.of h2) ?_
  refine l_for (walk_zipS (n := args.length) (by rw [List.length_map, hlen]; show sorts.length = min sorts.length sorts.length; omega)) (fun i σ Hx => Ex H2 Hx ∧ ∃ v2 v3, σ = [some (.str (Txt.join " " (w :: args))), some (.ref p), v2, v3]) ⟨Evl.Ex.refl _, _, _, rfl⟩ (fun i σ Hx _ q => SqL.of (q.1 _ _ h2)) (fun i x σ Hx Hy hi q y => ?_) (fun σ Hx q => ?_)
  · obtain ⟨ex, v2, v3, rfl⟩ := q
    obtain ⟨t, a, b, rfl, hT, rfl, ha, hb⟩ := y
    obtain ⟨c, hc, rfl⟩ := Option.map_eq_some_iff.mp ha
    replace hb : (args.map V.str)[i]? = some b := hb
    rw [List.getElem?_map] at hb
    obtain ⟨z, hz1, rfl⟩ := Option.map_eq_some_iff.mp hb
    have hc' : sorts.cps.toList[i]? = some c := by simpa using hc
    obtain ⟨g1, g2, g3⟩ := harg i z c hz1 hc'
    have hT2 : SqT K (upd Hx t (.tup [.str ⟨#[c]⟩, .str z])) t [.str ⟨#[c]⟩, .str z] := SqT.of upd_same
    walk_at "sx"
    refine l_eqS ?_
    walk_at "sx"
    refine ifd (fun c0 => absurd c0 g1) (fun _ => ?_)
    walk_at "sx"
    refine l_eqS ?_
    rw [sgn_N]
    walk_at "sx"
    refine ifd (fun c1 => ?_) (fun c1 => ?_)
    · walk_at "sx"
      refine ⟨z, rfl, g3, fun H4 e4 => ?_⟩
      rw [g2 c1]
      walk_at "sx"
      exact ⟨ex.trans ((Evl.Ex.new hT).trans e4), _, _, rfl⟩
    · walk_at "sx"
      exact ⟨ex.trans (Evl.Ex.new hT), _, _, rfl⟩
  · obtain ⟨ex, v2, v3, rfl⟩ := q
    walk_at "sx"
    exact k p _ hn1 (e1.trans (e2.trans ex)) (ex _ _ (e2 _ _ h1))
end
section
variable {P : Program} {w : World} {K : PySem.W.Frag} {mg : Str → Option Value} {base : Heap}
theorem ok_shown (T : Txt K mg w) (o_show_word : FnOk P w K mg base CX0 4 T.a_show_word T.fd_show_word ["q", "word"] (sp_show_word K)) : FnOk P w K mg base CX0 5 T.a_shown T.fd_shown ["q", "word"] (sp_shown K) := by
  refine T.F_shown.ok sc_shown (fun vs H Q E h => match vs, h with | [_, _], _ => rfl) (fun cdv A outer s H vs Q E hr h => ?_)
  refine ⟨_, ((pss_cons (ps_if (pt_cmpR (op_eqK (K := K) hr.units rfl) (pv 1) (pe_tup pa_nil) (nomark _)) (pss_one (ps_ret (pe_glob (v := .str (PySem.Str.ofString "-")) rfl T.c_EMPTY ⟨_, rfl⟩))) pss_nil)
    (pss_one (ps_ret (pe_call o_show_word hr rfl T.g_show_word T.F_show_word.kp T.b_show_word .nil pass0 (pa_cons (pv 0) (pa_cons (pv 1) pa_nil))))))), ?_⟩
  match vs, h with
  | [x0, x1], h =>
  replace h : s_shown K x0 x1 H Q E := h
  try dsimp only [cxOf, Cx.nox, Cx.wish]
  show (_ : TS) { nx := fun _ H' => Q .non H', rt := Q } [some x0, some x1] H
  obtain ⟨q, ns, rfl, hq, hw, k⟩ := h
  have hw0 := hw
  obtain ⟨a, rfl, hs, hl, hg⟩ := hw0
  walk_at "sx"
  refine w_newT (by simp) fun p1 H1 _ e1 h1 => ?_
  refine l_eqNil (Evl.ex_t e1 hs) h1 ?_
  walk_at "sx"
  refine ifd (fun c => ?_) (fun c => ?_)
  · walk_at "sx"
    have := k _ e1
    unfold wtxD at this
    rw [if_pos c] at this
    exact this
  walk_at "sx"
  refine ⟨q, ns, rfl, by omega, hw.mono e1, fun H2 e2 => ?_⟩
  have := k _ (e1.trans e2)
  unfold wtxD at this
  rw [if_neg c] at this
  exact this
end
section
variable {P : Program} {w : World} {K : PySem.W.Frag} {mg : Str → Option Value} {base : Heap}
theorem ok_word_read (T : Txt K mg w) (o_read_word : FnOk P w K mg base CX0 3 T.a_read_word T.fd_read_word ["q", "text"] (sp_read_word K)) : FnOk P w K mg base CX0 4 T.a_word_read T.fd_word_read ["q", "part"] (sp_word_read K) := by
  refine T.F_word_read.ok sc_word_read (fun vs H Q E h => match vs, h with | [_, _], _ => rfl) (fun cdv A outer s H vs Q E hr h => ?_)
  refine ⟨_, ((pss_cons (ps_if (pt_cmpR (op_eqK (K := K) hr.units rfl) (pv 1) (pe_glob (v := .str (PySem.Str.ofString "-")) rfl T.c_EMPTY ⟨_, rfl⟩) (nomark _)) (pss_one (ps_ret (pe_tupN pa_nil))) pss_nil)
    (pss_one (ps_ret (pe_call o_read_word hr rfl T.g_read_word T.F_read_word.kp T.b_read_word .nil pass0 (pa_cons (pv 0) (pa_cons (pv 1) pa_nil))))))), ?_⟩
  match vs, h with
  | [x0, x1], h =>
  replace h : s_word_read K x0 x1 H Q E := h
  try dsimp only [cxOf, Cx.nox, Cx.wish]
  show (_ : TS) { nx := fun _ H' => Q .non H', rt := Q } [some x0, some x1] H
  obtain ⟨q, z, rfl, hq, rfl, hz, k⟩ := h
  walk_at "sx"
  refine l_eqS ?_
  walk_at "sx"
  refine ifd (fun c => ?_) (fun c => ?_)
  · walk_at "sx"
    refine w_newN (by simp) fun p1 H1 _ e1 h1 => ?_
    refine k p1 _ e1 ?_
    unfold rdW
    rw [if_pos c]
    exact h1
  walk_at "sx"
  rcases hz with hz | ⟨h1, h2⟩
  · exact absurd hz c
  refine ⟨q, z, rfl, by omega, rfl, h1, fun c hc => by rw [Int.toNat_natCast]; exact h2 c hc, fun a H1 e1 h => k a _ e1 ?_⟩
  unfold rdW
  rw [if_neg c]
  exact h
end
section
variable {P : Program} {w : World} {K : PySem.W.Frag} {mg : Str → Option Value} {base : Heap}
theorem ok_Desk_init (T : Txt K mg w) (o_PlainList_init : FnOk P w K mg base CX0 3 T.a_PlainList_init T.fd_PlainList_init ["self", "n", "a"] (sp_PlainList_init K)) : FnOk P w K mg base CX0 5 T.a_Desk_init T.fd_Desk_init ["self"] (sp_Desk_init K) := by
  refine T.F_Desk_init.ok sc_Desk_init (fun vs H Q E h => match vs, h with | [_], _ => rfl) (fun cdv A outer s H vs Q E hr h => ?_)
  refine ⟨_, ((pss_one (ps_fld (pv 0) (pe_make T.mk_PlainList o_PlainList_init hr rfl T.gx_PlainList T.b_PlainList_init .nil pass0 (pa_cons pe_int (pa_cons pe_int pa_nil))) rfl))), ?_⟩
  match vs, h with
  | [x0], h =>
  replace h : s_Desk_init K x0 H Q E := h
  try dsimp only [cxOf, Cx.nox, Cx.wish]
  show (_ : TS) { nx := fun _ H' => Q .non H', rt := Q } [some x0] H
  obtain ⟨p, C, dx, rfl, hC, hp, k⟩ := h
  have eC := hC.symm.trans T.nx_Desk
  cases eC
  walk_at "sx"
  refine l_make fun o dx1 H1 hn1 e1 h1 => ?_
  refine ⟨o, _, dx1, 0, 0, rfl, T.nx_PlainList, h1, rfl, by omega, rfl, by omega, fun H2 e2 h2 => ⟨rfl, ?_⟩⟩
  walk_at "sx"
  have hp2 : H2 p = some (.ins _ dx []) := e2 _ _ (fun z => by subst z; rw [hn1] at hp; cases hp) (e1 _ _ hp)
  refine l_fldS hp2 T.cl_Desk T.na_Desk_kept (by simp) fun H3 e3 h3 => ?_
  walk_at "sx"
  have hop : o ≠ p := fun z => by subst z; rw [hn1] at hp; cases hp
  refine k _ ?_ ⟨.ref o, ⟨p, _, dx, rfl, T.nx_Desk, h3⟩, ⟨o, _, dx1, rfl, T.nx_PlainList, e3 _ _ hop h2⟩, by show 0 ≤ 60 ∧ _; omega⟩
  exact fun a v n h => e3 _ _ n (e2 _ _ (fun z => by subst z; rw [hn1] at h; cases h) (e1 _ _ h))
end
section
variable {P : Program} {w : World} {K : PySem.W.Frag} {mg : Str → Option Value} {base : Heap}
theorem ok_Desk_signs (T : Txt K mg w) (o_ManyList_signs : FnOk P w K mg base CX0 1 T.a_ManyList_signs T.fd_ManyList_signs ["self"] (sp_ManyList_signs K)) : FnOk P w K mg base CX0 2 T.a_Desk_signs T.fd_Desk_signs ["self"] (sp_Desk_signs K) := by
  refine T.F_Desk_signs.ok sc_Desk_signs (fun vs H Q E h => match vs, h with | [_], _ => rfl) (fun cdv A outer s H vs Q E hr h => ?_)
  refine ⟨_, ((pss_cons (ps_if (pt_val (pe_callB (call_isiK' (K := K) rfl) (by rfl) T.z_isinstance (by decide +kernel) (pa_cons (pe_fldK (K := K) rfl (pv 0) rfl) (pa_cons (pe_glob (v := .ref T.ac_ManyList) rfl T.gx_ManyList rfl) pa_nil)))) (pss_one (ps_ret (pe_meth0 (pe_fldK (K := K) rfl (pv 0) rfl) T.cl_ManyList T.m_ManyList_signs o_ManyList_signs hr T.b_ManyList_signs .nil pass0))) pss_nil)
    (pss_one (ps_ret pe_int)))), ?_⟩
  match vs, h with
  | [x0], h =>
  replace h : s_Desk_signs K x0 H Q E := h
  try dsimp only [cxOf, Cx.nox, Cx.wish]
  show (_ : TS) { nx := fun _ H' => Q .non H', rt := Q } [some x0] H
  obtain ⟨kd, ⟨pv, hi, hk, ok⟩, k⟩ := h
  obtain ⟨p, dx, rfl, h1⟩ := hi.at_ T.nx_Desk
  cases kd with
  | plain n a =>
    obtain ⟨pk, dk, rfl, h2⟩ := Ins.at_ hk T.nx_PlainList
    walk_at "sx"
    refine l_fld h1 T.cl_Desk T.na_Desk_kept rfl ?_
    walk_at "sx"
    refine l_isC h2 T.is_PlainList T.ow_PlainList_ManyList ?_
    walk_at "sx"
    exact k
  | strong n a =>
    obtain ⟨pk, dk, rfl, h2⟩ := Ins.at_ hk T.nx_StrongList
    walk_at "sx"
    refine l_fld h1 T.cl_Desk T.na_Desk_kept rfl ?_
    walk_at "sx"
    refine l_isC h2 T.is_StrongList T.ow_StrongList_ManyList ?_
    walk_at "sx"
    exact k
  | many q n a b =>
    have hk0 := hk
    obtain ⟨t, hk1, ht⟩ := hk0
    obtain ⟨pk, dk, rfl, h2⟩ := hk1.at_ T.nx_ManyList
    walk_at "sx"
    refine l_fld h1 T.cl_Desk T.na_Desk_kept rfl ?_
    walk_at "sx"
    refine l_isC h2 T.is_ManyList T.ow_ManyList_ManyList ?_
    walk_at "sx"
    refine l_fld h1 T.cl_Desk T.na_Desk_kept rfl ?_
    walk_at "sx"
    refine l_meth h2 rfl ?_
    walk_at "sx"
    exact ⟨q, n, a, b, hk, k⟩
end
section
variable {P : Program} {w : World} {K : PySem.W.Frag} {mg : Str → Option Value} {base : Heap}
theorem ok_Desk_keep (T : Txt K mg w) (o_PlainList_init : FnOk P w K mg base CX0 3 T.a_PlainList_init T.fd_PlainList_init ["self", "n", "a"] (sp_PlainList_init K)) (o_StrongList_init : FnOk P w K mg base CX0 2 T.a_StrongList_init T.fd_StrongList_init ["self", "n", "a"] (sp_StrongList_init K)) (o_ManyList_init : FnOk P w K mg base CX0 3 T.a_ManyList_init T.fd_ManyList_init ["self", "q", "n", "a", "b"] (sp_ManyList_init K)) : FnOk P w K mg base CX0 5 T.a_Desk_keep T.fd_Desk_keep ["self", "word", "numbers"] (sp_Desk_keep K) := by
  refine T.F_Desk_keep.ok sc_Desk_keep (fun vs H Q E h => match vs, h with | [_, _, _], _ => rfl) (fun cdv A outer s H vs Q E hr h => ?_)
  refine ⟨_, ((pss_cons (ps_if (pt_cmpR (op_eqK (K := K) hr.units rfl) (pv 1) pe_str (nomark _)) (pss_one (ps_fld (pv 0) (pe_make T.mk_PlainList o_PlainList_init hr rfl T.gx_PlainList T.b_PlainList_init .nil pass0 (pa_cons (pe_ix (ix_K (K := K) rfl) (pv 2) pe_int (fun _ _ => rfl)) (pa_cons (pe_ix (ix_K (K := K) rfl) (pv 2) pe_int (fun _ _ => rfl)) pa_nil))) rfl)) (pss_one (ps_if (pt_cmpR (op_eqK (K := K) hr.units rfl) (pv 1) pe_str (nomark _)) (pss_one (ps_fld (pv 0) (pe_make T.mk_StrongList o_StrongList_init (hr.mono (by decide)) rfl T.gx_StrongList T.b_StrongList_init .nil pass0 (pa_cons (pe_ix (ix_K (K := K) rfl) (pv 2) pe_int (fun _ _ => rfl)) (pa_cons (pe_ix (ix_K (K := K) rfl) (pv 2) pe_int (fun _ _ => rfl)) pa_nil))) rfl)) (pss_one (ps_fld (pv 0) (pe_make T.mk_ManyList o_ManyList_init hr rfl T.gx_ManyList T.b_ManyList_init .nil pass0 (pa_cons (pe_ix (ix_K (K := K) rfl) (pv 2) pe_int (fun _ _ => rfl)) (pa_cons (pe_ix (ix_K (K := K) rfl) (pv 2) pe_int (fun _ _ => rfl)) (pa_cons (pe_ix (ix_K (K := K) rfl) (pv 2) pe_int (fun _ _ => rfl)) (pa_cons (pe_ix (ix_K (K := K) rfl) (pv 2) pe_int (fun _ _ => rfl)) pa_nil))))) rfl)))))
    (pss_one (ps_ret pe_str)))), ?_⟩
  match vs, h with
  | [x0, x1, x2], h =>
  replace h : s_Desk_keep K x0 x1 x2 H Q E := h
  try dsimp only [cxOf, Cx.nox, Cx.wish]
  show (_ : TS) { nx := fun _ H' => Q .non H', rt := Q } [some x0, some x1, some x2] H
  obtain ⟨p, l, kd0, kd, rfl, ⟨pv, hi, hk, ok0⟩, rfl, rfl, hl, ok, k⟩ := h
  obtain ⟨p', dx, e, h1⟩ := hi.at_ T.nx_Desk
  cases e
  cases kd with
  | plain n a =>
    replace hl : SqL K H l [.int (n : Nat), .int a] := hl
    walk_at "sx"
    refine l_eqS ?_
    walk_at "sx"
    refine ifd (fun _ => ?_) (fun c => absurd rfl c)
    walk_at "sx"
    refine l_ixL hl (show atI _ ((0 : Nat) : Int) = _ from atI_nat rfl) ?_
    walk_at "sx"
    refine l_ixL hl (show atI _ ((1 : Nat) : Int) = _ from atI_nat rfl) ?_
    walk_at "sx"
    refine l_make fun o dx1 H1 hn1 e1 h2 => ?_
    refine ⟨o, _, dx1, n, a, rfl, T.nx_PlainList, h2, rfl, by have := ok.1; omega, rfl, ok.2, fun H2 e2 h3 => ⟨rfl, ?_⟩⟩
    walk_at "sx"
    have hop : o ≠ p := fun z => by subst z; rw [hn1] at h1; cases h1
    have hp2 := e2 _ _ (Ne.symm hop) (e1 _ _ h1)
    refine l_fldS hp2 T.cl_Desk T.na_Desk_kept (by simp) fun H3 e3 h4 => ?_
    walk_at "sx"
    refine k _ ?_ ⟨.ref o, ⟨p, _, dx, rfl, T.nx_Desk, h4⟩, ⟨o, _, dx1, rfl, T.nx_PlainList, e3 _ _ hop h3⟩, ok⟩
    exact fun b v nb hb => e3 _ _ nb (e2 _ _ (fun z => by subst z; rw [hn1] at hb; cases hb) (e1 _ _ hb))
  | strong n a =>
    replace hl : SqL K H l [.int (n : Nat), .int a] := hl
    walk_at "sx"
    refine l_eqS ?_
    walk_at "sx"
    refine ifd (fun c => absurd (show ("strong" : Str) = "plain" from c) (by decide +kernel)) (fun _ => ?_)
    walk_at "sx"
    refine l_eqS ?_
    walk_at "sx"
    refine ifd (fun _ => ?_) (fun c => absurd rfl c)
    walk_at "sx"
    refine l_ixL hl (show atI _ ((0 : Nat) : Int) = _ from atI_nat rfl) ?_
    walk_at "sx"
    refine l_ixL hl (show atI _ ((1 : Nat) : Int) = _ from atI_nat rfl) ?_
    walk_at "sx"
    refine l_make fun o dx1 H1 hn1 e1 h2 => ?_
    refine ⟨o, _, dx1, n, a, rfl, T.nx_StrongList, h2, rfl, by have := ok.1; omega, rfl, ok.2, fun H2 e2 h3 => ⟨rfl, ?_⟩⟩
    walk_at "sx"
    have hop : o ≠ p := fun z => by subst z; rw [hn1] at h1; cases h1
    have hp2 := e2 _ _ (Ne.symm hop) (e1 _ _ h1)
    refine l_fldS hp2 T.cl_Desk T.na_Desk_kept (by simp) fun H3 e3 h4 => ?_
    walk_at "sx"
    refine k _ ?_ ⟨.ref o, ⟨p, _, dx, rfl, T.nx_Desk, h4⟩, ⟨o, _, dx1, rfl, T.nx_StrongList, e3 _ _ hop h3⟩, ok⟩
    exact fun b v nb hb => e3 _ _ nb (e2 _ _ (fun z => by subst z; rw [hn1] at hb; cases hb) (e1 _ _ hb))
  | many q n a b =>
    replace hl : SqL K H l [.int (q : Nat), .int (n : Nat), .int a, .int b] := hl
    walk_at "sx"
    refine l_eqS ?_
    walk_at "sx"
    refine ifd (fun c => absurd (show ("many" : Str) = "plain" from c) (by decide +kernel)) (fun _ => ?_)
    walk_at "sx"
    refine l_eqS ?_
    walk_at "sx"
    refine ifd (fun c => absurd (show ("many" : Str) = "strong" from c) (by decide +kernel)) (fun _ => ?_)
    walk_at "sx"
    refine l_ixL hl (show atI _ ((0 : Nat) : Int) = _ from atI_nat rfl) ?_
    walk_at "sx"
    refine l_ixL hl (show atI _ ((1 : Nat) : Int) = _ from atI_nat rfl) ?_
    walk_at "sx"
    refine l_ixL hl (show atI _ ((2 : Nat) : Int) = _ from atI_nat rfl) ?_
    walk_at "sx"
    refine l_ixL hl (show atI _ ((3 : Nat) : Int) = _ from atI_nat rfl) ?_
    walk_at "sx"
    refine l_make fun o dx1 H1 hn1 e1 h2 => ?_
    refine ⟨o, _, dx1, q, n, a, b, rfl, T.nx_ManyList, h2, rfl, by have := ok.1; omega, rfl, by have := ok.2.1; omega, rfl, ok.2.2.1, rfl, ok.2.2.2, fun H2 e2 h3 => ⟨rfl, ?_⟩⟩
    walk_at "sx"
    have hop : o ≠ p := fun z => by subst z; rw [hn1] at h1; cases h1
    have hp2 := e2 _ _ (Ne.symm hop) (e1 _ _ h1)
    refine l_fldS hp2 T.cl_Desk T.na_Desk_kept (by simp) fun H3 e3 h4 => ?_
    walk_at "sx"
    refine k _ ?_ ⟨.ref o, ⟨p, _, dx, rfl, T.nx_Desk, h4⟩, ?_, ok⟩
    · exact fun b v nb hb => e3 _ _ nb (e2 _ _ (fun z => by subst z; rw [hn1] at hb; cases hb) (e1 _ _ hb))
    · obtain ⟨t, ⟨o', C', dx', eo, hC', h5⟩, ht⟩ := h3
      cases eo
      refine ⟨t, ⟨o, C', dx', rfl, hC', e3 _ _ hop h5⟩, ?_⟩
      exact exI_t e3 hp2 ht
end
section
variable {P : Program} {w : World} {K : PySem.W.Frag} {mg : Str → Option Value} {base : Heap}
theorem ok_Desk_many_members (T : Txt K mg w) (o_how_many_many : FnOk P w K mg base CX0 6 T.a_how_many_many T.fd_how_many_many ["many"] (sp_how_many_many K)) (o_how_many_strong : FnOk P w K mg base CX0 2 T.a_how_many_strong T.fd_how_many_strong ["strong"] (sp_how_many_strong K)) (o_how_many : FnOk P w K mg base CX0 2 T.a_how_many T.fd_how_many ["plain"] (sp_how_many K)) : FnOk P w K mg base CX0 7 T.a_Desk_many_members T.fd_Desk_many_members ["self"] (sp_Desk_many_members K) := by
  refine T.F_Desk_many_members.ok sc_Desk_many_members (fun vs H Q E h => match vs, h with | [_], _ => rfl) (fun cdv A outer s H vs Q E hr h => ?_)
  refine ⟨_, ((pss_cons (ps_if (pt_val (pe_callB (call_isiK' (K := K) rfl) (by rfl) T.z_isinstance (by decide +kernel) (pa_cons (pe_fldK (K := K) rfl (pv 0) rfl) (pa_cons (pe_glob (v := .ref T.ac_PlainList) rfl T.gx_PlainList rfl) pa_nil)))) (pss_one (ps_ret (pe_call o_how_many (hr.mono (by decide)) rfl T.g_how_many T.F_how_many.kp T.b_how_many .nil pass0 (pa_cons (pe_fldK (K := K) rfl (pv 0) rfl) pa_nil)))) pss_nil)
    (pss_cons (ps_if (pt_val (pe_callB (call_isiK' (K := K) rfl) (by rfl) T.z_isinstance (by decide +kernel) (pa_cons (pe_fldK (K := K) rfl (pv 0) rfl) (pa_cons (pe_glob (v := .ref T.ac_StrongList) rfl T.gx_StrongList rfl) pa_nil)))) (pss_one (ps_ret (pe_call o_how_many_strong (hr.mono (by decide)) rfl T.g_how_many_strong T.F_how_many_strong.kp T.b_how_many_strong .nil pass0 (pa_cons (pe_fldK (K := K) rfl (pv 0) rfl) pa_nil)))) pss_nil)
    (pss_one (ps_ret (pe_call o_how_many_many hr rfl T.g_how_many_many T.F_how_many_many.kp T.b_how_many_many .nil pass0 (pa_cons (pe_fldK (K := K) rfl (pv 0) rfl) pa_nil))))))), ?_⟩
  match vs, h with
  | [x0], h =>
  replace h : s_Desk_many_members K x0 H Q E := h
  try dsimp only [cxOf, Cx.nox, Cx.wish]
  show (_ : TS) { nx := fun _ H' => Q .non H', rt := Q } [some x0] H
  obtain ⟨kd, ⟨pv, hi, hk, ok⟩, k⟩ := h
  obtain ⟨p, dx, rfl, h1⟩ := hi.at_ T.nx_Desk
  cases kd with
  | plain n a =>
    obtain ⟨pk, dk, rfl, h2⟩ := Ins.at_ hk T.nx_PlainList
    walk_at "sx"
    refine l_fld h1 T.cl_Desk T.na_Desk_kept rfl ?_
    walk_at "sx"
    refine l_isC h2 T.is_PlainList T.ow_PlainList_PlainList ?_
    walk_at "sx"
    refine l_fld h1 T.cl_Desk T.na_Desk_kept rfl ?_
    walk_at "sx"
    exact ⟨n, a, hk, ok.1, ok.2, fun H1 e1 => k _ e1⟩
  | strong n a =>
    obtain ⟨pk, dk, rfl, h2⟩ := Ins.at_ hk T.nx_StrongList
    walk_at "sx"
    refine l_fld h1 T.cl_Desk T.na_Desk_kept rfl ?_
    walk_at "sx"
    refine l_isC h2 T.is_StrongList T.ow_StrongList_PlainList ?_
    walk_at "sx"
    refine l_fld h1 T.cl_Desk T.na_Desk_kept rfl ?_
    walk_at "sx"
    refine l_isC h2 T.is_StrongList T.ow_StrongList_StrongList ?_
    walk_at "sx"
    refine l_fld h1 T.cl_Desk T.na_Desk_kept rfl ?_
    walk_at "sx"
    exact ⟨n, a, hk, ok.1, ok.2, fun H1 e1 => k _ e1⟩
  | many q n a b =>
    have hk0 := hk
    obtain ⟨t, hk1, ht⟩ := hk0
    obtain ⟨pk, dk, rfl, h2⟩ := hk1.at_ T.nx_ManyList
    walk_at "sx"
    refine l_fld h1 T.cl_Desk T.na_Desk_kept rfl ?_
    walk_at "sx"
    refine l_isC h2 T.is_ManyList T.ow_ManyList_PlainList ?_
    walk_at "sx"
    refine l_fld h1 T.cl_Desk T.na_Desk_kept rfl ?_
    walk_at "sx"
    refine l_isC h2 T.is_ManyList T.ow_ManyList_StrongList ?_
    walk_at "sx"
    refine l_fld h1 T.cl_Desk T.na_Desk_kept rfl ?_
    walk_at "sx"
    exact ⟨q, n, a, b, hk, ok.1, ok.2.1, fun H1 e1 => k _ e1⟩
end
section
variable {P : Program} {w : World} {K : PySem.W.Frag} {mg : Str → Option Value} {base : Heap}
theorem ok_Desk_member_at (T : Txt K mg w) (o_many_member : FnOk P w K mg base CX0 6 T.a_many_member T.fd_many_member ["many", "k"] (sp_many_member K)) (o_strong_member : FnOk P w K mg base CX0 2 T.a_strong_member T.fd_strong_member ["strong", "k"] (sp_strong_member K)) (o_member : FnOk P w K mg base CX0 2 T.a_member T.fd_member ["plain", "k"] (sp_member K)) : FnOk P w K mg base CX0 7 T.a_Desk_member_at T.fd_Desk_member_at ["self", "k"] (sp_Desk_member_at K) := by
  refine T.F_Desk_member_at.ok sc_Desk_member_at (fun vs H Q E h => match vs, h with | [_, _], _ => rfl) (fun cdv A outer s H vs Q E hr h => ?_)
  refine ⟨_, ((pss_cons (ps_if (pt_val (pe_callB (call_isiK' (K := K) rfl) (by rfl) T.z_isinstance (by decide +kernel) (pa_cons (pe_fldK (K := K) rfl (pv 0) rfl) (pa_cons (pe_glob (v := .ref T.ac_PlainList) rfl T.gx_PlainList rfl) pa_nil)))) (pss_one (ps_ret (pe_call o_member (hr.mono (by decide)) rfl T.g_member T.F_member.kp T.b_member .nil pass0 (pa_cons (pe_fldK (K := K) rfl (pv 0) rfl) (pa_cons (pv 1) pa_nil))))) pss_nil)
    (pss_cons (ps_if (pt_val (pe_callB (call_isiK' (K := K) rfl) (by rfl) T.z_isinstance (by decide +kernel) (pa_cons (pe_fldK (K := K) rfl (pv 0) rfl) (pa_cons (pe_glob (v := .ref T.ac_StrongList) rfl T.gx_StrongList rfl) pa_nil)))) (pss_one (ps_ret (pe_call o_strong_member (hr.mono (by decide)) rfl T.g_strong_member T.F_strong_member.kp T.b_strong_member .nil pass0 (pa_cons (pe_fldK (K := K) rfl (pv 0) rfl) (pa_cons (pv 1) pa_nil))))) pss_nil)
    (pss_one (ps_ret (pe_call o_many_member hr rfl T.g_many_member T.F_many_member.kp T.b_many_member .nil pass0 (pa_cons (pe_fldK (K := K) rfl (pv 0) rfl) (pa_cons (pv 1) pa_nil)))))))), ?_⟩
  match vs, h with
  | [x0, x1], h =>
  replace h : s_Desk_member_at K x0 x1 H Q E := h
  try dsimp only [cxOf, Cx.nox, Cx.wish]
  show (_ : TS) { nx := fun _ H' => Q .non H', rt := Q } [some x0, some x1] H
  obtain ⟨kd, j, ⟨pv, hi, hk, ok⟩, rfl, hj, k⟩ := h
  obtain ⟨p, dx, rfl, h1⟩ := hi.at_ T.nx_Desk
  cases kd with
  | plain n a =>
    obtain ⟨pk, dk, rfl, h2⟩ := Ins.at_ hk T.nx_PlainList
    walk_at "sx"
    refine l_fld h1 T.cl_Desk T.na_Desk_kept rfl ?_
    walk_at "sx"
    refine l_isC h2 T.is_PlainList T.ow_PlainList_PlainList ?_
    walk_at "sx"
    refine l_fld h1 T.cl_Desk T.na_Desk_kept rfl ?_
    walk_at "sx"
    exact ⟨n, a, j, hk, ok.1, ok.2, rfl, hj, fun b H1 e1 h => k b _ _ e1 h rfl⟩
  | strong n a =>
    obtain ⟨pk, dk, rfl, h2⟩ := Ins.at_ hk T.nx_StrongList
    walk_at "sx"
    refine l_fld h1 T.cl_Desk T.na_Desk_kept rfl ?_
    walk_at "sx"
    refine l_isC h2 T.is_StrongList T.ow_StrongList_PlainList ?_
    walk_at "sx"
    refine l_fld h1 T.cl_Desk T.na_Desk_kept rfl ?_
    walk_at "sx"
    refine l_isC h2 T.is_StrongList T.ow_StrongList_StrongList ?_
    walk_at "sx"
    refine l_fld h1 T.cl_Desk T.na_Desk_kept rfl ?_
    walk_at "sx"
    exact ⟨n, a, j, hk, ok.1, ok.2, rfl, hj, fun b H1 e1 h => k b _ _ e1 h rfl⟩
  | many q n a b =>
    have hk0 := hk
    obtain ⟨t, hk1, ht⟩ := hk0
    obtain ⟨pk, dk, rfl, h2⟩ := hk1.at_ T.nx_ManyList
    walk_at "sx"
    refine l_fld h1 T.cl_Desk T.na_Desk_kept rfl ?_
    walk_at "sx"
    refine l_isC h2 T.is_ManyList T.ow_ManyList_PlainList ?_
    walk_at "sx"
    refine l_fld h1 T.cl_Desk T.na_Desk_kept rfl ?_
    walk_at "sx"
    refine l_isC h2 T.is_ManyList T.ow_ManyList_StrongList ?_
    walk_at "sx"
    refine l_fld h1 T.cl_Desk T.na_Desk_kept rfl ?_
    walk_at "sx"
    obtain ⟨j, rfl⟩ : ∃ m : Nat, j = m := ⟨j.toNat, by omega⟩
    have hj2 : (j : Int) < ((EW q n n 0 a b).length : Nat) := hj.2
    exact ⟨q, n, j, a, b, hk, ok.1, ok.2.1, rfl, by omega, fun d w H1 e1 h hw => k d w _ e1 h (by show (EW q n n 0 a b)[(j : Int).toNat]? = _; rw [Int.toNat_natCast]; exact hw)⟩
end
section
variable {P : Program} {w : World} {K : PySem.W.Frag} {mg : Str → Option Value} {base : Heap}
theorem ok_Desk_number_at (T : Txt K mg w) (o_many_number : FnOk P w K mg base CX0 6 T.a_many_number T.fd_many_number ["many", "word"] (sp_many_number K)) (o_strong_number : FnOk P w K mg base CX0 6 T.a_strong_number T.fd_strong_number ["strong", "word"] (sp_strong_number K)) (o_number_of : FnOk P w K mg base CX0 6 T.a_number_of T.fd_number_of ["plain", "word"] (sp_number_of K)) : FnOk P w K mg base CX0 7 T.a_Desk_number_at T.fd_Desk_number_at ["self", "word"] (sp_Desk_number_at K) := by
  refine T.F_Desk_number_at.ok sc_Desk_number_at (fun vs H Q E h => match vs, h with | [_, _], _ => rfl) (fun cdv A outer s H vs Q E hr h => ?_)
  refine ⟨_, ((pss_cons (ps_if (pt_val (pe_callB (call_isiK' (K := K) rfl) (by rfl) T.z_isinstance (by decide +kernel) (pa_cons (pe_fldK (K := K) rfl (pv 0) rfl) (pa_cons (pe_glob (v := .ref T.ac_PlainList) rfl T.gx_PlainList rfl) pa_nil)))) (pss_one (ps_ret (pe_call o_number_of hr rfl T.g_number_of T.F_number_of.kp T.b_number_of .nil pass0 (pa_cons (pe_fldK (K := K) rfl (pv 0) rfl) (pa_cons (pv 1) pa_nil))))) pss_nil)
    (pss_cons (ps_if (pt_val (pe_callB (call_isiK' (K := K) rfl) (by rfl) T.z_isinstance (by decide +kernel) (pa_cons (pe_fldK (K := K) rfl (pv 0) rfl) (pa_cons (pe_glob (v := .ref T.ac_StrongList) rfl T.gx_StrongList rfl) pa_nil)))) (pss_one (ps_ret (pe_call o_strong_number hr rfl T.g_strong_number T.F_strong_number.kp T.b_strong_number .nil pass0 (pa_cons (pe_fldK (K := K) rfl (pv 0) rfl) (pa_cons (pv 1) pa_nil))))) pss_nil)
    (pss_one (ps_ret (pe_call o_many_number hr rfl T.g_many_number T.F_many_number.kp T.b_many_number .nil pass0 (pa_cons (pe_fldK (K := K) rfl (pv 0) rfl) (pa_cons (pv 1) pa_nil)))))))), ?_⟩
  match vs, h with
  | [x0, x1], h =>
  replace h : s_Desk_number_at K x0 x1 H Q E := h
  try dsimp only [cxOf, Cx.nox, Cx.wish]
  show (_ : TS) { nx := fun _ H' => Q .non H', rt := Q } [some x0, some x1] H
  obtain ⟨kd, w, ⟨pv, hi, hk, ok⟩, hw, hhas, k⟩ := h
  obtain ⟨p, dx, rfl, h1⟩ := hi.at_ T.nx_Desk
  cases kd with
  | plain n a =>
    obtain ⟨pk, dk, rfl, h2⟩ := Ins.at_ hk T.nx_PlainList
    walk_at "sx"
    refine l_fld h1 T.cl_Desk T.na_Desk_kept rfl ?_
    walk_at "sx"
    refine l_isC h2 T.is_PlainList T.ow_PlainList_PlainList ?_
    walk_at "sx"
    refine l_fld h1 T.cl_Desk T.na_Desk_kept rfl ?_
    walk_at "sx"
    have hw0 := hw
    obtain ⟨aw, rfl, hs, hl, hg⟩ := hw0
    have hh : inPL n a w = true := hhas
    unfold inPL at hh
    rw [Bool.and_eq_true, decide_eq_true_eq, decide_eq_true_eq] at hh
    have hlen : w.length = n := by omega
    obtain ⟨g1, g2, g3⟩ := numN_all n w a ok.2.1 ok.2.2 hlen hg hh.2
    exact ⟨n, a, w, hk, ok.1, ok.2, hw, hlen, hh.2, fun H1 e1 => k _ _ e1 ⟨g1, g2⟩ g3.symm⟩
  | strong n a =>
    obtain ⟨pk, dk, rfl, h2⟩ := Ins.at_ hk T.nx_StrongList
    walk_at "sx"
    refine l_fld h1 T.cl_Desk T.na_Desk_kept rfl ?_
    walk_at "sx"
    refine l_isC h2 T.is_StrongList T.ow_StrongList_PlainList ?_
    walk_at "sx"
    refine l_fld h1 T.cl_Desk T.na_Desk_kept rfl ?_
    walk_at "sx"
    refine l_isC h2 T.is_StrongList T.ow_StrongList_StrongList ?_
    walk_at "sx"
    refine l_fld h1 T.cl_Desk T.na_Desk_kept rfl ?_
    walk_at "sx"
    have hw0 := hw
    obtain ⟨aw, rfl, hs, hl, hg⟩ := hw0
    have hh : inSL n a w = true := hhas
    unfold inSL at hh
    rw [Bool.and_eq_true, decide_eq_true_eq, decide_eq_true_eq] at hh
    have hlen : w.length = n := by omega
    obtain ⟨g1, g2, g3⟩ := numS_all n ok.1.1 w a ok.2.1 ok.2.2 hlen hg hh.2
    exact ⟨n, a, w, hk, ok.1, ok.2, hw, hlen, hh.2, fun H1 e1 => k _ _ e1 ⟨g1, g2⟩ g3.symm⟩
  | many q n a b =>
    have hk0 := hk
    obtain ⟨t, hk1, ht⟩ := hk0
    obtain ⟨pk, dk, rfl, h2⟩ := hk1.at_ T.nx_ManyList
    walk_at "sx"
    refine l_fld h1 T.cl_Desk T.na_Desk_kept rfl ?_
    walk_at "sx"
    refine l_isC h2 T.is_ManyList T.ow_ManyList_PlainList ?_
    walk_at "sx"
    refine l_fld h1 T.cl_Desk T.na_Desk_kept rfl ?_
    walk_at "sx"
    refine l_isC h2 T.is_ManyList T.ow_ManyList_StrongList ?_
    walk_at "sx"
    refine l_fld h1 T.cl_Desk T.na_Desk_kept rfl ?_
    walk_at "sx"
    refine ⟨q, n, a, b, w, hk, ok.1, ok.2.1, ok.2.2.1, ok.2.2.2, hw, hhas, fun j H1 e1 hj => k (j : Nat) _ e1 ⟨by omega, ?_⟩ (by show (EW q n n 0 a b)[((j : Nat) : Int).toNat]? = _; rw [Int.toNat_natCast]; exact hj)⟩
    obtain ⟨z, _⟩ := List.getElem?_eq_some_iff.mp hj
    show ((j : Nat) : Int) < ((EW q n n 0 a b).length : Nat)
    omega
end
section
variable {P : Program} {w : World} {K : PySem.W.Frag} {mg : Str → Option Value} {base : Heap}
theorem ok_Desk_sent (T : Txt K mg w) (o_many_mended : FnOk P w K mg base CX0 6 T.a_many_mended T.fd_many_mended ["many", "came"] (sp_many_mended K)) (o_strong_mended : FnOk P w K mg base CX0 6 T.a_strong_mended T.fd_strong_mended ["strong", "came"] (sp_strong_mended K)) (o_mended : FnOk P w K mg base CX0 6 T.a_mended T.fd_mended ["plain", "came"] (sp_mended K)) : FnOk P w K mg base CX0 7 T.a_Desk_sent T.fd_Desk_sent ["self", "came"] (sp_Desk_sent K) := by
  refine T.F_Desk_sent.ok sc_Desk_sent (fun vs H Q E h => match vs, h with | [_, _], _ => rfl) (fun cdv A outer s H vs Q E hr h => ?_)
  refine ⟨_, ((pss_cons (ps_if (pt_val (pe_callB (call_isiK' (K := K) rfl) (by rfl) T.z_isinstance (by decide +kernel) (pa_cons (pe_fldK (K := K) rfl (pv 0) rfl) (pa_cons (pe_glob (v := .ref T.ac_PlainList) rfl T.gx_PlainList rfl) pa_nil)))) (pss_one (ps_ret (pe_call o_mended hr rfl T.g_mended T.F_mended.kp T.b_mended .nil pass0 (pa_cons (pe_fldK (K := K) rfl (pv 0) rfl) (pa_cons (pv 1) pa_nil))))) pss_nil)
    (pss_cons (ps_if (pt_val (pe_callB (call_isiK' (K := K) rfl) (by rfl) T.z_isinstance (by decide +kernel) (pa_cons (pe_fldK (K := K) rfl (pv 0) rfl) (pa_cons (pe_glob (v := .ref T.ac_StrongList) rfl T.gx_StrongList rfl) pa_nil)))) (pss_one (ps_ret (pe_call o_strong_mended hr rfl T.g_strong_mended T.F_strong_mended.kp T.b_strong_mended .nil pass0 (pa_cons (pe_fldK (K := K) rfl (pv 0) rfl) (pa_cons (pv 1) pa_nil))))) pss_nil)
    (pss_one (ps_ret (pe_call o_many_mended hr rfl T.g_many_mended T.F_many_mended.kp T.b_many_mended .nil pass0 (pa_cons (pe_fldK (K := K) rfl (pv 0) rfl) (pa_cons (pv 1) pa_nil)))))))), ?_⟩
  match vs, h with
  | [x0, x1], h =>
  replace h : s_Desk_sent K x0 x1 H Q E := h
  try dsimp only [cxOf, Cx.nox, Cx.wish]
  show (_ : TS) { nx := fun _ H' => Q .non H', rt := Q } [some x0, some x1] H
  obtain ⟨kd, c, ⟨pv, hi, hk, ok⟩, hw, hc, k⟩ := h
  obtain ⟨p, dx, rfl, h1⟩ := hi.at_ T.nx_Desk
  cases kd with
  | plain n a =>
    obtain ⟨pk, dk, rfl, h2⟩ := Ins.at_ hk T.nx_PlainList
    walk_at "sx"
    refine l_fld h1 T.cl_Desk T.na_Desk_kept rfl ?_
    walk_at "sx"
    refine l_isC h2 T.is_PlainList T.ow_PlainList_PlainList ?_
    walk_at "sx"
    refine l_fld h1 T.cl_Desk T.na_Desk_kept rfl ?_
    walk_at "sx"
    exact ⟨n, a, c, hk, ok.1, hw, hc, fun v H1 e1 h => k v _ e1 h⟩
  | strong n a =>
    obtain ⟨pk, dk, rfl, h2⟩ := Ins.at_ hk T.nx_StrongList
    walk_at "sx"
    refine l_fld h1 T.cl_Desk T.na_Desk_kept rfl ?_
    walk_at "sx"
    refine l_isC h2 T.is_StrongList T.ow_StrongList_PlainList ?_
    walk_at "sx"
    refine l_fld h1 T.cl_Desk T.na_Desk_kept rfl ?_
    walk_at "sx"
    refine l_isC h2 T.is_StrongList T.ow_StrongList_StrongList ?_
    walk_at "sx"
    refine l_fld h1 T.cl_Desk T.na_Desk_kept rfl ?_
    walk_at "sx"
    exact ⟨n, a, c, hk, ok.1, hw, hc, fun v H1 e1 h => k v _ e1 h⟩
  | many q n a b =>
    have hk0 := hk
    obtain ⟨t, hk1, ht⟩ := hk0
    obtain ⟨pk, dk, rfl, h2⟩ := hk1.at_ T.nx_ManyList
    walk_at "sx"
    refine l_fld h1 T.cl_Desk T.na_Desk_kept rfl ?_
    walk_at "sx"
    refine l_isC h2 T.is_ManyList T.ow_ManyList_PlainList ?_
    walk_at "sx"
    refine l_fld h1 T.cl_Desk T.na_Desk_kept rfl ?_
    walk_at "sx"
    refine l_isC h2 T.is_ManyList T.ow_ManyList_StrongList ?_
    walk_at "sx"
    refine l_fld h1 T.cl_Desk T.na_Desk_kept rfl ?_
    walk_at "sx"
    exact ⟨q, n, a, b, c, hk, by have := ok.1; omega, ok.2.1, hw, hc, fun v H1 e1 h => k v _ e1 h⟩
end
section
variable {P : Program} {w : World} {K : PySem.W.Frag} {mg : Str → Option Value} {base : Heap}
theorem ok_Desk_mend (T : Txt K mg w) (o_shown : FnOk P w K mg base CX0 5 T.a_shown T.fd_shown ["q", "word"] (sp_shown K)) (o_Desk_sent : FnOk P w K mg base CX0 7 T.a_Desk_sent T.fd_Desk_sent ["self", "came"] (sp_Desk_sent K)) (o_word_read : FnOk P w K mg base CX0 4 T.a_word_read T.fd_word_read ["q", "part"] (sp_word_read K)) (o_Desk_signs : FnOk P w K mg base CX0 2 T.a_Desk_signs T.fd_Desk_signs ["self"] (sp_Desk_signs K)) : FnOk P w K mg base CX0 8 T.a_Desk_mend T.fd_Desk_mend ["self", "part"] (sp_Desk_mend K) := by
  refine T.F_Desk_mend.ok sc_Desk_mend (fun vs H Q E h => match vs, h with | [_, _], _ => rfl) (fun cdv A outer s H vs Q E hr h => ?_)
  refine ⟨_, ((pss_cons (ps_set (i := 2) sc_Desk_mend.nd rfl (by first | exact Or.inl rfl | exact Or.inr rfl) (pe_meth0 (pv 0) T.cl_Desk T.m_Desk_signs o_Desk_signs (hr.mono (by decide)) T.b_Desk_signs .nil pass0))
    (pss_cons (ps_set (i := 3) sc_Desk_mend.nd rfl (by first | exact Or.inl rfl | exact Or.inr rfl) (pe_meth (pv 0) T.cl_Desk T.m_Desk_sent o_Desk_sent hr T.b_Desk_sent .nil pass0 (pa_cons (pe_call o_word_read (hr.mono (by decide)) rfl T.g_word_read T.F_word_read.kp T.b_word_read .nil pass0 (pa_cons (pv 2) (pa_cons (pv 1) pa_nil))) pa_nil)))
    (pss_cons (ps_if (pt_cmpR op_isN (pv 3) pe_non (nomark _)) (pss_one (ps_ret pe_str)) pss_nil)
    (pss_one (ps_ret (pe_call o_shown (hr.mono (by decide)) rfl T.g_shown T.F_shown.kp T.b_shown .nil pass0 (pa_cons (pv 2) (pa_cons (pv 3) pa_nil))))))))), ?_⟩
  match vs, h with
  | [x0, x1], h =>
  replace h : s_Desk_mend K x0 x1 H Q E := h
  try dsimp only [cxOf, Cx.nox, Cx.wish]
  show (_ : TS) { nx := fun _ H' => Q .non H', rt := Q } [some x0, some x1, none, none] H
  obtain ⟨kd, z, hd, rfl, hz, hc, k⟩ := h
  have hd0 := hd
  obtain ⟨pv, hi, hk, ok⟩ := hd0
  obtain ⟨p, dx, rfl, h1⟩ := hi.at_ T.nx_Desk
  have hq := kd.q2 ok
  have hw := rd_word (by omega) hz
  walk_at "sx"
  refine l_meth h1 rfl ?_
  walk_at "sx"
  refine ⟨kd, hd, ?_⟩
  walk_at "sx"
  refine l_meth h1 rfl ?_
  walk_at "sx"
  refine ⟨kd.q, z, rfl, by omega, rfl, hz, fun a H1 e1 h => ?_⟩
  walk_at "sx"
  refine ⟨kd, rdW z, hd.mono e1, ⟨a, rfl, h.sq, hw.1, hw.2⟩, hc, fun v H2 e2 hs => ?_⟩
  walk_at "sx"
  rcases hs with ⟨u, ⟨b, rfl, hb⟩, hu, hh⟩ | ⟨rfl, hn⟩
  · refine ⟨rfl, ?_⟩
    walk_at "sx"
    refine ifd (fun c => by cases c) (fun _ => ?_)
    walk_at "sx"
    refine ⟨kd.q, u, rfl, by omega, ⟨b, rfl, hb, by rw [has_len hh]; exact Knd.n60 ok, cands_sg hw.2 hu⟩, fun H3 e3 => k _ _ (e1.trans (e2.trans e3)) (.inl ⟨u, hu, hh, rfl⟩)⟩
  · refine ⟨rfl, ?_⟩
    walk_at "sx"
    refine ifd (fun _ => ?_) (fun c => absurd rfl c)
    walk_at "sx"
    exact k _ _ (e1.trans e2) (.inr ⟨rfl, hn⟩)
end
section
variable {P : Program} {w : World} {K : PySem.W.Frag} {mg : Str → Option Value} {base : Heap}
theorem wtxD_len (ns : List Int) : (wtxD ns).length ≤ ns.length + 1 := by
  unfold wtxD
  split
  · have e0 : ("-" : Str).length = 1 := by decide +kernel
    rw [e0]
    omega
  · rw [wtx_len]
    omega
theorem nx_len {n k : Nat} (hk : 0 < k) (h : n < 10 ^ k) : (nx n).length ≤ k := by
  unfold nx
  rw [TL.len_tl, TL.tl_num]
  exact TL.numL_len hk h
theorem small_text {i : Int} (h0 : 0 ≤ i) (h : i < 1000) : i.natAbs.log2 < 1920 ∧ (Str.ofString (toString i)).length ≤ 3 := by
  obtain ⟨n, rfl⟩ : ∃ n : Nat, i = n := ⟨i.toNat, by omega⟩
  exact ⟨log2_lt (k := 10) (by omega) (by decide), nx_len (n := n) (by decide) (by omega)⟩
theorem emp_app (x : Str) : Str.empty ++ x = x := by
  rw [← sS_eta (Str.empty ++ x), cps_toList_append]
  exact sS_eta x
theorem ok_Desk_near (T : Txt K mg w) (o_shown : FnOk P w K mg base CX0 5 T.a_shown T.fd_shown ["q", "word"] (sp_shown K)) (o_common_row : FnOk P w K mg base CX0 4 T.a_common_row T.fd_common_row ["one", "other"] (sp_common_row K)) (o_nearness : FnOk P w K mg base CX0 5 T.a_nearness T.fd_nearness ["one", "other"] (sp_nearness K)) (o_word_read : FnOk P w K mg base CX0 4 T.a_word_read T.fd_word_read ["q", "part"] (sp_word_read K)) : FnOk P w K mg base CX0 6 T.a_Desk_near T.fd_Desk_near ["self", "one", "other"] (sp_Desk_near K) := by
  refine T.F_Desk_near.ok sc_Desk_near (fun vs H Q E h => match vs, h with | [_, _, _], _ => rfl) (fun cdv A outer s H vs Q E hr h => ?_)
  refine ⟨_, ((pss_cons (ps_set (i := 3) sc_Desk_near.nd rfl (by first | exact Or.inl rfl | exact Or.inr rfl) (pe_call o_word_read (hr.mono (by decide)) rfl T.g_word_read T.F_word_read.kp T.b_word_read .nil pass0 (pa_cons (pe_glob (v := .int 36) rfl T.c_MOST_SIGNS ⟨_, rfl⟩) (pa_cons (pv 1) pa_nil))))
    (pss_cons (ps_set (i := 4) sc_Desk_near.nd rfl (by first | exact Or.inl rfl | exact Or.inr rfl) (pe_call o_word_read (hr.mono (by decide)) rfl T.g_word_read T.F_word_read.kp T.b_word_read .nil pass0 (pa_cons (pe_glob (v := .int 36) rfl T.c_MOST_SIGNS ⟨_, rfl⟩) (pa_cons (pv 2) pa_nil))))
    (pss_one (ps_ret (pe_joinedN (.cons (pe_fmt (pe_call o_nearness hr rfl T.g_nearness T.F_nearness.kp T.b_nearness .nil pass0 (pa_cons (pv 3) (pa_cons (pv 4) pa_nil)))) (.cons pe_str (.cons (pe_fmt (pe_call o_shown hr rfl T.g_shown T.F_shown.kp T.b_shown .nil pass0 (pa_cons (pe_glob (v := .int 36) rfl T.c_MOST_SIGNS ⟨_, rfl⟩) (pa_cons (pe_call o_common_row (hr.mono (by decide)) rfl T.g_common_row T.F_common_row.kp T.b_common_row .nil pass0 (pa_cons (pv 3) (pa_cons (pv 4) pa_nil))) pa_nil)))) .nil))))))))), ?_⟩
  match vs, h with
  | [x0, x1, x2], h =>
  replace h : s_Desk_near K x0 x1 x2 H Q E := h
  try dsimp only [cxOf, Cx.nox, Cx.wish]
  show (_ : TS) { nx := fun _ H' => Q .non H', rt := Q } [some x0, some x1, some x2, none, none] H
  obtain ⟨y, z, rfl, rfl, hy, hz, k⟩ := h
  have wy_ := rd_word (by omega) hy
  have wz := rd_word (by omega) hz
  walk_at "sx"
  refine ⟨36, y, rfl, by omega, rfl, hy, fun a H1 e1 ha => ?_⟩
  walk_at "sx"
  refine ⟨36, z, rfl, by omega, rfl, hz, fun b H2 e2 hb => ?_⟩
  walk_at "sx"
  refine ⟨a, b, rdW y, rdW z, rfl, ha.mono e2, rfl, hb, wy_.1, wz.1, wy_.2, wz.2, fun H3 e3 => ?_⟩
  obtain ⟨r0, z1, z2, z3⟩ := lcs_ex (rdW y) (rdW z)
  have l1 := z1.length_le
  have sm := small_text (i := ((rdW y).length : Int) + (rdW z).length - 2 * (lcsN (rdW y) (rdW z) : Nat)) (by have := z2.length_le; omega) (by omega)
  refine l_fmtI sm.1 ?_
  walk_at "sx"
  refine l_js (by rw [app_len]; have e0 : Str.empty.length = 0 := rfl; omega) ?_
  walk_at "sx"
  refine l_js (by rw [app_len, app_len]; have e0 : Str.empty.length = 0 := rfl; have e1 : (Str.ofString "; ").length = 2 := by decide +kernel
                  omega) ?_
  walk_at "sx"
  refine ⟨a, b, rdW y, rdW z, rfl, ha.mono (e2.trans e3), rfl, hb.mono e3, wy_.1, wz.1, wy_.2, wz.2, fun t r H4 e4 ht hB => ?_⟩
  walk_at "sx"
  have rl : r.length ≤ (rdW y).length := hB.1.1.length_le
  refine ⟨36, r, rfl, by omega, ⟨t, rfl, ht, by omega, fun i hi => wy_.2 i (hB.1.1.subset hi)⟩, fun H5 e5 => ?_⟩
  have wl := wtxD_len r
  refine l_fmtS (by omega) ?_
  refine l_js (by rw [app_len, app_len, app_len]; have e0 : Str.empty.length = 0 := rfl; have e1 : (Str.ofString "; ").length = 2 := by decide +kernel
                  omega) ?_
  walk_at "sx"
  have := k r _ (e1.trans (e2.trans (e3.trans (e4.trans e5)))) hB
  unfold nearTx at this
  rw [emp_app]
  exact this
end
section
variable {P : Program} {w : World} {K : PySem.W.Frag} {mg : Str → Option Value} {base : Heap}
theorem eqv_wds : ∀ us : List (List Int), PyData.eqv (.list (us.map wD)) (.list []) = decide (us = [])
  | [] => rfl
  | u :: us => rfl
theorem l_eqNilL {K : PySem.W.Frag} {H : Hp} {Q : VK} {a b : Addr} {ys : List V} {us : List (List Int)} (h1 : H a = some (.lst ys)) (hW : Wts K H ys us) (h2 : H b = some (.lst [])) (k : Q (.bl (decide (us = []))) H) : rEqP K (.ref a) (.ref b) H Q :=
  l_eqD (.lst (SqL.of h1) (dp_words hW)) (.lst (SqL.of h2) .nil) (shaped_words us) (by decide) (by rw [eqv_wds]; exact k)
theorem wtxD_len2 (ns : List Int) : (wtxD ns).length ≤ ns.length + 1 := by
  unfold wtxD
  split
  · have e0 : ("-" : Str).length = 1 := by decide +kernel
    rw [e0]
    omega
  · rw [wtx_len]
    omega
theorem sum_bound {ys : List Str} {c : Nat} (h : ∀ y ∈ ys, y.length ≤ c) : (ys.map (·.length)).sum ≤ ys.length * c := by
  induction ys with
  | nil => simp
  | cons y ys ih =>
    have h1 := h y (by simp)
    have h2 := ih fun z hz => h z (by simp [hz])
    rw [List.map_cons, List.sum_cons, List.length_cons, Nat.succ_mul]
    omega
theorem ok_Desk_ring (T : Txt K mg w) (o_shown : FnOk P w K mg base CX0 5 T.a_shown T.fd_shown ["q", "word"] (sp_shown K)) (o_lost_ring : FnOk P w K mg base CX0 4 T.a_lost_ring T.fd_lost_ring ["q", "word"] (sp_lost_ring K)) (o_word_read : FnOk P w K mg base CX0 4 T.a_word_read T.fd_word_read ["q", "part"] (sp_word_read K)) (o_Desk_signs : FnOk P w K mg base CX0 2 T.a_Desk_signs T.fd_Desk_signs ["self"] (sp_Desk_signs K)) : FnOk P w K mg base CX0 6 T.a_Desk_ring T.fd_Desk_ring ["self", "part"] (sp_Desk_ring K) := by
  refine T.F_Desk_ring.ok sc_Desk_ring (fun vs H Q E h => match vs, h with | [_, _], _ => rfl) (fun cdv A outer s H vs Q E hr h => ?_)
  refine ⟨_, ((pss_cons (ps_set (i := 2) sc_Desk_ring.nd rfl (by first | exact Or.inl rfl | exact Or.inr rfl) (pe_meth0 (pv 0) T.cl_Desk T.m_Desk_signs o_Desk_signs (hr.mono (by decide)) T.b_Desk_signs .nil pass0))
    (pss_cons (ps_set (i := 3) sc_Desk_ring.nd rfl (by first | exact Or.inl rfl | exact Or.inr rfl) (pe_call o_lost_ring (hr.mono (by decide)) rfl T.g_lost_ring T.F_lost_ring.kp T.b_lost_ring .nil pass0 (pa_cons (pv 2) (pa_cons (pe_call o_word_read (hr.mono (by decide)) rfl T.g_word_read T.F_word_read.kp T.b_word_read .nil pass0 (pa_cons (pv 2) (pa_cons (pv 1) pa_nil))) pa_nil))))
    (pss_cons (ps_if (pt_cmpR (op_eqK (K := K) hr.units rfl) (pv 3) (pe_lst pa_nil) (nomark _)) (pss_one (ps_ret pe_str)) pss_nil)
    (pss_one (ps_ret (pe_joinK (K := K) rfl pe_str (pe_lc (own := [("word", 4)]) (g := (gName 4)) (tt := tYes) rfl sc_Desk_ring.nd (pi_seqK (K := K) rfl (pv 3)) (blkOk_by (own := [("word", 4)]) (N := ["self", "part", "q", "found", "word"]) (sc := defScope S_Desk_ring) (by decide +kernel)) (fun _ _ _ _ _ => (pg_name (i := 4) sc_Desk_ring.nd rfl (by first | exact Or.inl rfl | exact Or.inr rfl))) (fun _ _ _ _ _ => pts_nil) (fun _ _ _ _ _ => (pe_call o_shown hr rfl T.g_shown T.F_shown.kp T.b_shown .nil pass0 (pa_cons (pv 2) (pa_cons (pv 4) pa_nil)))))))))))), ?_⟩
  match vs, h with
  | [x0, x1], h =>
  replace h : s_Desk_ring K x0 x1 H Q E := h
  try dsimp only [cxOf, Cx.nox, Cx.wish]
  show (_ : TS) { nx := fun _ H' => Q .non H', rt := Q } [some x0, some x1, none, none, none] H
  obtain ⟨kd, z, hd, rfl, hz, k⟩ := h
  have hd0 := hd
  obtain ⟨pv, hi, hk, ok⟩ := hd0
  obtain ⟨p, dx, rfl, h1⟩ := hi.at_ T.nx_Desk
  have hq := kd.q2 ok
  have hw := rd_word (by omega) hz
  walk_at "sx"
  refine l_meth h1 rfl ?_
  walk_at "sx"
  refine ⟨kd, hd, ?_⟩
  walk_at "sx"
  refine ⟨kd.q, z, rfl, by omega, rfl, hz, fun a H1 e1 h => ?_⟩
  walk_at "sx"
  refine ⟨kd.q, rdW z, rfl, by omega, ⟨a, rfl, h.sq, hw.1, hw.2⟩, fun p2 ys us H2 hn2 e2 h2 hW hR => ?_⟩
  walk_at "sx"
  refine w_newL (by simp) fun p3 H3 _ e3 h3 => ?_
  refine l_eqNilL (e3 _ _ h2) (Wts.mono e3 hW) h3 ?_
  walk_at "sx"
  refine ifd (fun c => ?_) (fun c => ?_)
  · walk_at "sx"
    have := k us _ (e1.trans (e2.trans e3)) hR
    unfold ringTx at this
    rw [if_pos c] at this
    exact this
  walk_at "sx"
  have hus : ∀ u ∈ us, u.length ≤ 60 ∧ Sg (kd.q : Nat) u := fun u hu => by
    have := losts_wb hw.2 u (hR.1 u |>.mp hu)
    exact ⟨by omega, this.2⟩
  have hlen : us.length ≤ 60 := by
    have h5 := nodup_len_le (rise_nodup hR.2) fun x hx => (hR.1 x).mp hx
    unfold losts at h5
    rw [List.length_map, List.length_range] at h5
    exact Nat.le_trans h5 hw.1
  have hyl := Paired.length hW
  refine l_lc walk_list (fun _ i acc H1 => Ex H3 H1 ∧ acc = ((us.take i).map wtxD).map V.str) (fun D H4 n e h4 => ⟨e, rfl⟩) (fun D i acc H4 _ _ p => Evl.ex_l p.1 (SqL.of (e3 _ _ h2))) (fun D i acc x H4 H5 hn hi h4 q y => ?_) (fun D acc H4 hn h4 q => ?_)
  · obtain ⟨rfl, hx⟩ := y
    obtain ⟨e, rfl⟩ := q
    obtain ⟨w, hw2, hwt⟩ := pd_at hW hx
    walk_at "sx"
    refine ⟨rfl, ?_⟩
    walk_at "sx"
    obtain ⟨b, rfl, hb⟩ := hwt
    have hw3 := hus w (List.mem_of_getElem? hw2)
    refine ⟨kd.q, w, rfl, by omega, ⟨b, rfl, Evl.ex_t (e3.trans e) hb, hw3.1, hw3.2⟩, fun H6 e6 => ?_⟩
    refine lc_end (Pv := fun _ i acc H1 => Ex H3 H1 ∧ acc = ((us.take i).map wtxD).map V.str) (e6 _ _ h4) (by simp; omega) fun H7 e7 h7 => ⟨ExB.new (e.trans e6) e7 hn, ?_⟩
    rw [take_at hw2]
    simp
  · obtain ⟨e, rfl⟩ := q
    rw [hyl, List.take_length] at h4
    have hsum := sum_bound (ys := us.map wtxD) (c := 61) fun y hy => by
      obtain ⟨u, hu, rfl⟩ := List.mem_map.mp hy
      have := wtxD_len2 u
      have := (hus u hu).1
      omega
    rw [List.length_map] at hsum
    have e1' : (Str.ofString " ").length = 1 := by decide +kernel
    refine l_joinL (SqL.of h4) (by rw [List.length_map, e1']; omega) ?_
    have := k us _ (e1.trans (e2.trans (e3.trans e))) hR
    unfold ringTx at this
    rw [if_neg c] at this
    exact this
end
section
variable {P : Program} {w : World} {K : PySem.W.Frag} {mg : Str → Option Value} {base : Heap}
theorem ok_Desk_say (T : Txt K mg w) (o_Desk_ring : FnOk P w K mg base CX0 6 T.a_Desk_ring T.fd_Desk_ring ["self", "part"] (sp_Desk_ring K)) (o_Desk_near : FnOk P w K mg base CX0 6 T.a_Desk_near T.fd_Desk_near ["self", "one", "other"] (sp_Desk_near K)) (o_Desk_mend : FnOk P w K mg base CX0 8 T.a_Desk_mend T.fd_Desk_mend ["self", "part"] (sp_Desk_mend K)) (o_Desk_number_at : FnOk P w K mg base CX0 7 T.a_Desk_number_at T.fd_Desk_number_at ["self", "word"] (sp_Desk_number_at K)) (o_word_read : FnOk P w K mg base CX0 4 T.a_word_read T.fd_word_read ["q", "part"] (sp_word_read K)) (o_Desk_signs : FnOk P w K mg base CX0 2 T.a_Desk_signs T.fd_Desk_signs ["self"] (sp_Desk_signs K)) (o_shown : FnOk P w K mg base CX0 5 T.a_shown T.fd_shown ["q", "word"] (sp_shown K)) (o_Desk_member_at : FnOk P w K mg base CX0 7 T.a_Desk_member_at T.fd_Desk_member_at ["self", "k"] (sp_Desk_member_at K)) (o_Desk_many_members : FnOk P w K mg base CX0 7 T.a_Desk_many_members T.fd_Desk_many_members ["self"] (sp_Desk_many_members K)) (o_Desk_keep : FnOk P w K mg base CX0 5 T.a_Desk_keep T.fd_Desk_keep ["self", "word", "numbers"] (sp_Desk_keep K)) (o_parts_of : FnOk P w K mg base CX0 2 T.a_parts_of T.fd_parts_of ["row"] (sp_parts_of K)) : FnOk P w K mg base CX0 9 T.a_Desk_say T.fd_Desk_say ["self", "row"] (sp_Desk_say K) := by
  refine T.F_Desk_say.ok sc_Desk_say (fun vs H Q E h => match vs, h with | [_, _], _ => rfl) (fun cdv A outer s H vs Q E hr h => ?_)
  refine ⟨_, ((pss_cons (ps_set (i := 2) sc_Desk_say.nd rfl (by first | exact Or.inl rfl | exact Or.inr rfl) (pe_call o_parts_of (hr.mono (by decide)) rfl T.g_parts_of T.F_parts_of.kp T.b_parts_of .nil pass0 (pa_cons (pv 1) pa_nil)))
    (pss_cons (ps_set (i := 3) sc_Desk_say.nd rfl (by first | exact Or.inl rfl | exact Or.inr rfl) (pe_ix (ix_K (K := K) rfl) (pv 2) pe_int (fun _ _ => rfl)))
    (pss_cons (ps_if (pt_cmpR (op_inK (K := K) rfl) (pv 3) (pe_tup (pa_cons pe_str (pa_cons pe_str (pa_cons pe_str pa_nil)))) (by rfl)) (pss_one (ps_ret (pe_meth (pv 0) T.cl_Desk T.m_Desk_keep o_Desk_keep (hr.mono (by decide)) T.b_Desk_keep .nil pass0 (pa_cons (pv 3) (pa_cons (pe_lc (own := [("part", 4)]) (g := (gName 4)) (tt := tYes) rfl sc_Desk_say.nd (pi_seqK (K := K) rfl (pe_slice (sl_K (K := K) rfl) (pv 2) (po_some pe_int) po_none)) (blkOk_by (own := [("part", 4)]) (N := ["self", "row", "parts", "word", "part"]) (sc := defScope S_Desk_say) (by decide +kernel)) (fun _ _ _ _ _ => (pg_name (i := 4) sc_Desk_say.nd rfl (by first | exact Or.inl rfl | exact Or.inr rfl))) (fun _ _ _ _ _ => pts_nil) (fun _ _ _ _ _ => (pe_callTy call_intT (by rfl) T.z_int (by decide +kernel) (pa_cons (pv 4) pa_nil)))) pa_nil))))) pss_nil)
    (pss_cons (ps_if (pt_cmpR (op_eqK (K := K) hr.units rfl) (pv 3) pe_str (nomark _)) (pss_one (ps_ret (pe_callTy call_strI (by rfl) T.z_str (by decide +kernel) (pa_cons (pe_meth0 (pv 0) T.cl_Desk T.m_Desk_many_members o_Desk_many_members (hr.mono (by decide)) T.b_Desk_many_members .nil pass0) pa_nil)))) pss_nil)
    (pss_cons (ps_if (pt_cmpR (op_eqK (K := K) hr.units rfl) (pv 3) pe_str (nomark _)) (pss_one (ps_ret (pe_call o_shown (hr.mono (by decide)) rfl T.g_shown T.F_shown.kp T.b_shown .nil pass0 (pa_cons (pe_meth0 (pv 0) T.cl_Desk T.m_Desk_signs o_Desk_signs (hr.mono (by decide)) T.b_Desk_signs .nil pass0) (pa_cons (pe_meth (pv 0) T.cl_Desk T.m_Desk_member_at o_Desk_member_at (hr.mono (by decide)) T.b_Desk_member_at .nil pass0 (pa_cons (pe_callTy call_intT (by rfl) T.z_int (by decide +kernel) (pa_cons (pe_ix (ix_K (K := K) rfl) (pv 2) pe_int (fun _ _ => rfl)) pa_nil)) pa_nil)) pa_nil))))) pss_nil)
    (pss_cons (ps_if (pt_cmpR (op_eqK (K := K) hr.units rfl) (pv 3) pe_str (nomark _)) (pss_one (ps_ret (pe_callTy call_strI (by rfl) T.z_str (by decide +kernel) (pa_cons (pe_meth (pv 0) T.cl_Desk T.m_Desk_number_at o_Desk_number_at (hr.mono (by decide)) T.b_Desk_number_at .nil pass0 (pa_cons (pe_call o_word_read (hr.mono (by decide)) rfl T.g_word_read T.F_word_read.kp T.b_word_read .nil pass0 (pa_cons (pe_meth0 (pv 0) T.cl_Desk T.m_Desk_signs o_Desk_signs (hr.mono (by decide)) T.b_Desk_signs .nil pass0) (pa_cons (pe_ix (ix_K (K := K) rfl) (pv 2) pe_int (fun _ _ => rfl)) pa_nil))) pa_nil)) pa_nil)))) pss_nil)
    (pss_cons (ps_if (pt_cmpR (op_eqK (K := K) hr.units rfl) (pv 3) pe_str (nomark _)) (pss_one (ps_ret (pe_meth (pv 0) T.cl_Desk T.m_Desk_mend o_Desk_mend hr T.b_Desk_mend .nil pass0 (pa_cons (pe_ix (ix_K (K := K) rfl) (pv 2) pe_int (fun _ _ => rfl)) pa_nil)))) pss_nil)
    (pss_cons (ps_if (pt_cmpR (op_eqK (K := K) hr.units rfl) (pv 3) pe_str (nomark _)) (pss_one (ps_ret (pe_meth (pv 0) T.cl_Desk T.m_Desk_near o_Desk_near (hr.mono (by decide)) T.b_Desk_near .nil pass0 (pa_cons (pe_ix (ix_K (K := K) rfl) (pv 2) pe_int (fun _ _ => rfl)) (pa_cons (pe_ix (ix_K (K := K) rfl) (pv 2) pe_int (fun _ _ => rfl)) pa_nil))))) pss_nil)
    (pss_one (ps_ret (pe_meth (pv 0) T.cl_Desk T.m_Desk_ring o_Desk_ring (hr.mono (by decide)) T.b_Desk_ring .nil pass0 (pa_cons (pe_ix (ix_K (K := K) rfl) (pv 2) pe_int (fun _ _ => rfl)) pa_nil))))))))))))), ?_⟩
  match vs, h with
  | [x0, x1], h =>
  replace h : s_Desk_say K x0 x1 H Q E := h
  try dsimp only [cxOf, Cx.nox, Cx.wish]
  show (_ : TS) { nx := fun _ H' => Q .non H', rt := Q } [some x0, some x1, none, none, none] H
  obtain ⟨p, kd, ps, rfl, hd, rfl, hh⟩ := h
  have hd0 := hd
  obtain ⟨pv, hi, hk, ok⟩ := hd0
  obtain ⟨p', dx, e, h1⟩ := hi.at_ T.nx_Desk
  cases e
  have hq := kd.q2 ok
  have hr : RowOk ps ∧ (Txt.join " " ps).length ≤ 90000 := by
    rcases hh with hh | ⟨kd', ok', rfl, _⟩
    · exact row_of ok hh
    · exact keep_row ok'
  walk_at "sx"
  refine ⟨ps, rfl, hr.1, hr.2, fun l H1 hn1 e1 hl1 => ?_⟩
  walk_at "sx"
  obtain ⟨w0, args, sorts, eps, -⟩ := hr.1
  have hz : atI (ps.map V.str) ((0 : Nat) : Int) = some (.str w0) := atI_nat (by rw [eps]; rfl)
  refine l_ixL (SqL.of hl1) hz ?_
  walk_at "sx"
  refine w_newT (by simp) fun p2 H2 _ e2 h2 => ?_
  refine ⟨p2, _, rfl, .inr (SqT.of h2), rfl, rfl, ?_⟩
  walk_at "sx"
  have e12 := e1.trans e2
  have hp2 := e12 _ _ h1
  have hd2 := hd.mono e12
  have hl2 := e2 _ _ hl1
  rcases hh with (⟨e, k⟩ | ⟨j, e, hj, k⟩ | ⟨w, e, hwl, hs, hh, k⟩ | ⟨w, e, hwl, hs, hb, k⟩ | ⟨u, v, e, hl0, hs, ht, k⟩ | ⟨w, e, hwl, hs, k⟩) | ⟨kd', ok', e, k⟩
  · rw [eps] at e
    cases e
    subst eps
    refine ifb (fun c => absurd (show inV (V.str "count") [V.str "plain", V.str "strong", V.str "many"] = true from c) (by decide +kernel)) (fun _ => ?_)
    walk_at "sx"
    refine l_eqS ?_
    walk_at "sx"
    refine ifd (fun _ => ?_) (fun c => absurd rfl c)
    walk_at "sx"
    refine l_meth hp2 rfl ?_
    walk_at "sx"
    refine ⟨kd, hd2, fun H3 e3 => ?_⟩
    walk_at "sx"
    have hc := cnt_small ok
    refine l_strI (cnt_log hc.1 hc.2) ?_
    exact k _ (e12.trans e3)
  · rw [eps] at e
    cases e
    subst eps
    refine ifb (fun c => absurd (show inV (V.str "word") [V.str "plain", V.str "strong", V.str "many"] = true from c) (by decide +kernel)) (fun _ => ?_)
    walk_at "sx"
    refine l_eqS ?_
    walk_at "sx"
    refine ifd (fun c => absurd (show ("word" : Str) = "count" from c) (by decide +kernel)) (fun _ => ?_)
    walk_at "sx"
    refine l_eqS ?_
    walk_at "sx"
    refine ifd (fun _ => ?_) (fun c => absurd rfl c)
    walk_at "sx"
    refine l_meth hp2 rfl ?_
    walk_at "sx"
    refine ⟨kd, hd2, ?_⟩
    walk_at "sx"
    refine l_meth hp2 rfl ?_
    walk_at "sx"
    refine l_ixL (SqL.of hl2) (show atI _ ((1 : Nat) : Int) = _ from atI_nat rfl) ?_
    walk_at "sx"
    have hc := cnt_small ok
    have h3 : ((10 ^ 60 : Nat) : Int) = 10 ^ 60 := by decide +kernel
    have hj60 : j < 10 ^ 60 := by omega
    refine l_intT (nx_int hj60) (Nat.le_trans (nx_len2 (k := 60) (by decide) hj60) (by decide)) ?_
    walk_at "sx"
    refine ⟨kd, j, hd2, rfl, ⟨by omega, hj⟩, fun b w H3 e3 hb hm => ?_⟩
    walk_at "sx"
    obtain ⟨f1, f2, f3⟩ := mem_facts ok ⟨by omega, hj⟩ hm
    have n60 := Knd.n60 ok
    refine ⟨kd.q, w, rfl, by omega, ⟨b, rfl, hb, by omega, f3⟩, fun H4 e4 => ?_⟩
    exact k w _ (e12.trans (e3.trans e4)) (by omega) hm
  · rw [eps] at e
    cases e
    subst eps
    refine ifb (fun c => absurd (show inV (V.str "number") [V.str "plain", V.str "strong", V.str "many"] = true from c) (by decide +kernel)) (fun _ => ?_)
    walk_at "sx"
    refine l_eqS ?_
    walk_at "sx"
    refine ifd (fun c => absurd (show ("number" : Str) = "count" from c) (by decide +kernel)) (fun _ => ?_)
    walk_at "sx"
    refine l_eqS ?_
    walk_at "sx"
    refine ifd (fun c => absurd (show ("number" : Str) = "word" from c) (by decide +kernel)) (fun _ => ?_)
    walk_at "sx"
    refine l_eqS ?_
    walk_at "sx"
    refine ifd (fun _ => ?_) (fun c => absurd rfl c)
    walk_at "sx"
    refine l_meth hp2 rfl ?_
    walk_at "sx"
    refine l_meth hp2 rfl ?_
    walk_at "sx"
    refine ⟨kd, hd2, ?_⟩
    walk_at "sx"
    refine l_ixL (SqL.of hl2) (show atI _ ((1 : Nat) : Int) = _ from atI_nat rfl) ?_
    walk_at "sx"
    have rw0 := rd_wtxD hs hwl (by omega)
    refine ⟨kd.q, wtxD w, rfl, by omega, rfl, rw0.1, fun a H3 e3 ha => ?_⟩
    rw [rw0.2] at ha
    walk_at "sx"
    refine ⟨kd, w, hd2.mono e3, ⟨a, rfl, ha.sq, hwl, hs⟩, hh, fun j H4 e4 hj hm => ?_⟩
    walk_at "sx"
    have hc := cnt_small ok
    refine l_strI (cnt_log hj.1 (Int.lt_trans hj.2 hc.2)) ?_
    exact k j _ (e12.trans (e3.trans e4)) hj hm
  · rw [eps] at e
    cases e
    subst eps
    refine ifb (fun c => absurd (show inV (V.str "mend") [V.str "plain", V.str "strong", V.str "many"] = true from c) (by decide +kernel)) (fun _ => ?_)
    walk_at "sx"
    refine l_eqS ?_
    walk_at "sx"
    refine ifd (fun c => absurd (show ("mend" : Str) = "count" from c) (by decide +kernel)) (fun _ => ?_)
    walk_at "sx"
    refine l_eqS ?_
    walk_at "sx"
    refine ifd (fun c => absurd (show ("mend" : Str) = "word" from c) (by decide +kernel)) (fun _ => ?_)
    walk_at "sx"
    refine l_eqS ?_
    walk_at "sx"
    refine ifd (fun c => absurd (show ("mend" : Str) = "number" from c) (by decide +kernel)) (fun _ => ?_)
    walk_at "sx"
    refine l_eqS ?_
    walk_at "sx"
    refine ifd (fun _ => ?_) (fun c => absurd rfl c)
    walk_at "sx"
    refine l_meth hp2 rfl ?_
    walk_at "sx"
    refine l_ixL (SqL.of hl2) (show atI _ ((1 : Nat) : Int) = _ from atI_nat rfl) ?_
    walk_at "sx"
    have rw0 := rd_wtxD hs hwl (by omega)
    refine ⟨kd, wtxD w, hd2, rfl, rw0.1, by rw [rw0.2]; exact hb, fun t H3 e3 ht => ?_⟩
    rw [rw0.2] at ht
    exact k t _ (e12.trans e3) ht
  · rw [eps] at e
    cases e
    subst eps
    refine ifb (fun c => absurd (show inV (V.str "near") [V.str "plain", V.str "strong", V.str "many"] = true from c) (by decide +kernel)) (fun _ => ?_)
    walk_at "sx"
    refine l_eqS ?_
    walk_at "sx"
    refine ifd (fun c => absurd (show ("near" : Str) = "count" from c) (by decide +kernel)) (fun _ => ?_)
    walk_at "sx"
    refine l_eqS ?_
    walk_at "sx"
    refine ifd (fun c => absurd (show ("near" : Str) = "word" from c) (by decide +kernel)) (fun _ => ?_)
    walk_at "sx"
    refine l_eqS ?_
    walk_at "sx"
    refine ifd (fun c => absurd (show ("near" : Str) = "number" from c) (by decide +kernel)) (fun _ => ?_)
    walk_at "sx"
    refine l_eqS ?_
    walk_at "sx"
    refine ifd (fun c => absurd (show ("near" : Str) = "mend" from c) (by decide +kernel)) (fun _ => ?_)
    walk_at "sx"
    refine l_eqS ?_
    walk_at "sx"
    refine ifd (fun _ => ?_) (fun c => absurd rfl c)
    walk_at "sx"
    refine l_meth hp2 rfl ?_
    walk_at "sx"
    refine l_ixL (SqL.of hl2) (show atI _ ((1 : Nat) : Int) = _ from atI_nat rfl) ?_
    walk_at "sx"
    refine l_ixL (SqL.of hl2) (show atI _ ((2 : Nat) : Int) = _ from atI_nat rfl) ?_
    walk_at "sx"
    have rw0 := rd_wtxD (q := 36) hs hl0.1 (by omega)
    have rw1 := rd_wtxD (q := 36) ht hl0.2 (by omega)
    refine ⟨wtxD u, wtxD v, rfl, rfl, rw0.1, rw1.1, fun r H3 e3 hB => ?_⟩
    rw [rw0.2, rw1.2] at hB ⊢
    exact k r _ (e12.trans e3) hB
  · rw [eps] at e
    cases e
    subst eps
    refine ifb (fun c => absurd (show inV (V.str "ring") [V.str "plain", V.str "strong", V.str "many"] = true from c) (by decide +kernel)) (fun _ => ?_)
    walk_at "sx"
    refine l_eqS ?_
    walk_at "sx"
    refine ifd (fun c => absurd (show ("ring" : Str) = "count" from c) (by decide +kernel)) (fun _ => ?_)
    walk_at "sx"
    refine l_eqS ?_
    walk_at "sx"
    refine ifd (fun c => absurd (show ("ring" : Str) = "word" from c) (by decide +kernel)) (fun _ => ?_)
    walk_at "sx"
    refine l_eqS ?_
    walk_at "sx"
    refine ifd (fun c => absurd (show ("ring" : Str) = "number" from c) (by decide +kernel)) (fun _ => ?_)
    walk_at "sx"
    refine l_eqS ?_
    walk_at "sx"
    refine ifd (fun c => absurd (show ("ring" : Str) = "mend" from c) (by decide +kernel)) (fun _ => ?_)
    walk_at "sx"
    refine l_eqS ?_
    walk_at "sx"
    refine ifd (fun c => absurd (show ("ring" : Str) = "near" from c) (by decide +kernel)) (fun _ => ?_)
    walk_at "sx"
    refine l_meth hp2 rfl ?_
    walk_at "sx"
    refine l_ixL (SqL.of hl2) (show atI _ ((1 : Nat) : Int) = _ from atI_nat rfl) ?_
    walk_at "sx"
    have rw0 := rd_wtxD hs hwl (by omega)
    refine ⟨kd, wtxD w, hd2, rfl, rw0.1, fun us H3 e3 hR => ?_⟩
    rw [rw0.2] at hR
    exact k us _ (e12.trans e3) hR
  · rw [eps] at e
    obtain ⟨rfl, rfl⟩ := List.cons.inj e
    subst eps
    refine ifb (fun _ => ?_) (fun c => Bool.noConfusion ((inv_word kd').symm.trans c))
    walk_at "sx"
    refine l_meth hp2 rfl ?_
    walk_at "sx"
    refine l_slL (SqL.of hl2) fun l3 H3 hn3 e3 h3 => ?_
    have e0 : cutV ((kd'.word :: kd'.args).map V.str) (some 1) none = kd'.args.map V.str := by
      rw [show (1 : Int) = ((1 : Nat) : Int) by rfl, cut_from (by simp)]
      rfl
    rw [e0] at h3
    walk_at "sx"
    refine l_lcL (fun x => match x with | .str z => .int ((intText? z).getD 0) | v => v) (SqL.of h3) (by have := nums_len kd'; unfold Knd.args; rw [List.length_map, List.length_map]; omega) (fun _ => rfl) (fun x H4 hx e4 Q' k' => ?_) (fun D H4 hn4 e4 h4 => ?_)
    · obtain ⟨z, hz2, rfl⟩ := List.mem_map.mp hx
      obtain ⟨i, hi2, rfl⟩ := List.mem_map.mp hz2
      have hb := nums_ok ok' i hi2
      have h6 : (1000 : Nat) < 10 ^ 60 := by decide +kernel
      have hi60 : i.toNat < 10 ^ 60 := by omega
      walk_at "sx"
      refine l_intT (nx_int hi60) (Nat.le_trans (nx_len2 (k := 60) (by decide) hi60) (by decide)) ?_
      have := k' H4 (Evl.Ex.refl _)
      dsimp only at this
      rw [nx_int hi60] at this
      exact this
    walk_at "sx"
    have en : (kd'.args.map V.str).map (fun x => match x with | .str z => V.int ((intText? z).getD 0) | v => v) = kd'.nums.map V.int := by
      unfold Knd.args
      rw [List.map_map, List.map_map]
      refine List.map_congr_left fun i hi2 => ?_
      have hb := nums_ok ok' i hi2
      have h6 : (1000 : Nat) < 10 ^ 60 := by decide +kernel
      show V.int ((intText? (nx i.toNat)).getD 0) = V.int i
      rw [nx_int (n := i.toNat) (by omega)]
      show V.int (i.toNat : Int) = V.int i
      rw [Int.toNat_of_nonneg hb.1]
    rw [en] at h4
    refine ⟨p, D, kd, kd', rfl, hd2.mono (e3.trans e4), rfl, rfl, SqL.of h4, ok', fun H5 e5 h5 => k _ ?_ h5⟩
    exact exExB (e12.trans (e3.trans e4)) e5
end
section
variable {P : Program} {w : World} {K : PySem.W.Frag} {mg : Str → Option Value} {base : Heap}
theorem ok_L_at (T : Txt K mg w) : FnOk P w K mg base CX0 1 T.a_L_at T.fd_L_at ["_law_script", "_law_k"] (sp_L_at K) := by
  refine T.F_L_at.ok sc_L_at (fun vs H Q E h => match vs, h with | [_, _], _ => rfl) (fun cdv A outer s H vs Q E hr h => ?_)
  refine ⟨_, ((pss_cons (ps_if (pt_cmpR op_ltP (pv 1) (pe_callB (call_lenK (K := K) rfl) (by rfl) T.z_len (by decide +kernel) (pa_cons (pv 0) pa_nil)) (nomark _)) (pss_one (ps_ret (pe_ix (ix_K (K := K) rfl) (pv 0) (pv 1) (fun _ _ => rfl)))) pss_nil)
    (pss_one (ps_ret pe_int)))), ?_⟩
  match vs, h with
  | [x0, x1], h =>
  replace h : s_L_at K x0 x1 H Q E := h
  try dsimp only [cxOf, Cx.nox, Cx.wish]
  show (_ : TS) { nx := fun _ H' => Q .non H', rt := Q } [some x0, some x1] H
  obtain ⟨a, ns, k, rfl, hs, rfl, kk⟩ := h
  walk_at "sx"
  refine ifd (fun c => ?_) (fun c => ?_)
  · have c' : k < ns.length := by simpa using c
    walk_at "sx"
    refine l_ixL hs (v := .int (ns.getD k 0)) (atI_nat (by simp [List.getD, c'])) ?_
    exact kk
  · have c' : ns.length ≤ k := by simpa using c
    walk_at "sx"
    have e : ns.getD k 0 = 0 := by simp [List.getD, c']
    rw [e] at kk
    exact kk
end
section
variable {P : Program} {w : World} {K : PySem.W.Frag} {mg : Str → Option Value} {base : Heap}
theorem ok_L_pot (T : Txt K mg w) (o_L_at : FnOk P w K mg base CX0 1 T.a_L_at T.fd_L_at ["_law_script", "_law_k"] (sp_L_at K)) : FnOk P w K mg base CX0 2 T.a_L_pot T.fd_L_pot ["_law_script", "_law_k"] (sp_L_pot K) := by
  refine T.F_L_pot.ok sc_L_pot (fun vs H Q E h => match vs, h with | [_, _], _ => rfl) (fun cdv A outer s H vs Q E hr h => ?_)
  refine ⟨_, ((pss_cons (ps_set (i := 2) sc_L_pot.nd rfl (by first | exact Or.inl rfl | exact Or.inr rfl) (pe_op (op_addK (K := K) rfl) pe_int (pe_op (op_mulK (K := K) rfl) pe_int (pv 1))))
    (pss_cons (ps_for PassesOwn.never rfl (pi_seqK (K := K) rfl (pe_slice (sl_K (K := K) rfl) (pv 0) po_none (po_some pe_int))) (pg_name (i := 3) sc_L_pot.nd rfl (by first | exact Or.inl rfl | exact Or.inr rfl)) (pss_one (ps_set (i := 2) sc_L_pot.nd rfl (by first | exact Or.inl rfl | exact Or.inr rfl) (pe_op op_modP (pe_op (op_addK (K := K) rfl) (pe_op (op_mulK (K := K) rfl) (pv 2) pe_int) (pv 3)) pe_int))))
    (pss_cons (ps_set (i := 4) sc_L_pot.nd rfl (by first | exact Or.inl rfl | exact Or.inr rfl) (pe_call o_L_at hr rfl T.g_L_at T.F_L_at.kp T.b_L_at .nil pass0 (pa_cons (pv 0) (pa_cons (pv 1) pa_nil))))
    (pss_cons (ps_if (pt_cmpR op_ltP (pv 4) (pe_op op_powP pe_int pe_int) (nomark _)) (pss_one (ps_set (i := 4) sc_L_pot.nd rfl (by first | exact Or.inl rfl | exact Or.inr rfl) pe_int)) pss_nil)
    (pss_one (ps_ret (pe_lst (pa_cons (pv 4) (pa_cons (pv 2) pa_nil)))))))))), ?_⟩
  match vs, h with
  | [x0, x1], h =>
  replace h : s_L_pot K x0 x1 H Q E := h
  try dsimp only [cxOf, Cx.nox, Cx.wish]
  show (_ : TS) { nx := fun _ H' => Q .non H', rt := Q } [some x0, some x1, none, none, none] H
  obtain ⟨a, ns, k, rfl, hs, rfl, hk, kk⟩ := h
  walk_at "sx"
  refine l_slL hs fun p H1 hp e1 h1 => ?_
  walk_at "sx"
  refine l_forL (fun i σ H2 => ∃ (s : Int) (c : Option V), σ = [some (.ref a), some (.int k), some (.int s), c, none] ∧ Ex H1 H2 ∧ 0 ≤ s ∧ s < 2147483647) ⟨_, _, rfl, Evl.Ex.refl _, by omega, by omega⟩ (fun i σ H2 _ ⟨_, _, _, e, _⟩ => Evl.ex_l e (SqL.of h1)) ?_ ?_
  · rintro i x σ H2 hi hx ⟨s, c, rfl, e2, b1, b2⟩
    obtain ⟨z, rfl⟩ : ∃ z, x = .int z := by
      have hm : x ∈ cutV (ns.map V.int) none (some 40) := List.mem_of_getElem? hx
      obtain ⟨z, _, rfl⟩ := List.mem_map.mp (List.mem_of_mem_drop (List.mem_of_mem_take hm))
      exact ⟨z, rfl⟩
    walk_at "sx"
    exact ⟨_, _, rfl, e2, Int.emod_nonneg _ (by decide), Int.emod_lt_of_pos _ (by decide)⟩
  · rintro σ H2 ⟨s, c, rfl, e2, b1, b2⟩
    walk_at "sx"
    refine ⟨a, ns, k, rfl, by walk_at "sq", rfl, ?_⟩
    walk_at "sx"
    refine ifd (fun c => ?_) (fun c => ?_)
    · walk_at "sx"
      refine w_newL (by simp) fun p3 H3 hn3 e3 h3 => ?_
      exact kk _ _ (Evl.fresh_back (e1.trans e2) hn3) (e1.trans (e2.trans e3)) ⟨_, _, h3, Int.le_refl _, b1, b2⟩
    · walk_at "sx"
      refine w_newL (by simp) fun p3 H3 hn3 e3 h3 => ?_
      refine kk _ _ (Evl.fresh_back (e1.trans e2) hn3) (e1.trans (e2.trans e3)) ⟨_, _, h3, ?_, b1, b2⟩
      have : (0 : Int) ≤ 10 ^ (18 : Int).toNat := by decide
      omega
end
section
variable {P : Program} {w : World} {K : PySem.W.Frag} {mg : Str → Option Value} {base : Heap}
theorem ok_L_digit (T : Txt K mg w) : FnOk P w K mg base CX0 1 T.a_L_digit T.fd_L_digit ["_law_pot_here", "_law_base"] (sp_L_digit K) := by
  refine T.F_L_digit.ok sc_L_digit (fun vs H Q E h => match vs, h with | [_, _], _ => rfl) (fun cdv A outer s H vs Q E hr h => ?_)
  refine ⟨_, ((pss_cons (ps_if (pt_cmpR (op_eqK (K := K) hr.units rfl) (pe_ix (ix_K (K := K) rfl) (pv 0) pe_int (fun _ _ => rfl)) pe_int (nomark _)) (pss_cons (ps_asg (pe_op op_modP (pe_op (op_addK (K := K) rfl) (pe_op (op_mulK (K := K) rfl) (pe_ix (ix_K (K := K) rfl) (pv 0) pe_int (fun _ _ => rfl)) pe_int) pe_int) pe_int) (pg_sub (pv 0) pe_int set_list))
    (pss_one (ps_asg (pe_op op_modP (pe_op (op_mulK (K := K) rfl) (pe_ix (ix_K (K := K) rfl) (pv 0) pe_int (fun _ _ => rfl)) (pe_ix (ix_K (K := K) rfl) (pv 0) pe_int (fun _ _ => rfl))) pe_int) (pg_sub (pv 0) pe_int set_list)))) pss_nil)
    (pss_cons (ps_set (i := 2) sc_L_digit.nd rfl (by first | exact Or.inl rfl | exact Or.inr rfl) (pe_op op_modP (pe_ix (ix_K (K := K) rfl) (pv 0) pe_int (fun _ _ => rfl)) (pv 1)))
    (pss_cons (ps_asg (pe_op op_divP (pe_ix (ix_K (K := K) rfl) (pv 0) pe_int (fun _ _ => rfl)) (pv 1)) (pg_sub (pv 0) pe_int set_list))
    (pss_one (ps_ret (pv 2))))))), ?_⟩
  match vs, h with
  | [x0, x1], h =>
  replace h : s_L_digit K x0 x1 H Q E := h
  try dsimp only [cxOf, Cx.nox, Cx.wish]
  show (_ : TS) { nx := fun _ H' => Q .non H', rt := Q } [some x0, some x1, none] H
  obtain ⟨p, b, rfl, ⟨n, s, hp, hn, hs, hs2⟩, rfl, hb, k⟩ := h
  walk_at "sx"
  refine l_ixL (SqL.of hp) (v := .int n) rfl ?_
  walk_at "sx"
  refine ifd (fun c => ?_) (fun c => ?_)
  · walk_at "sx"
    refine l_ixL (SqL.of hp) (v := .int s) rfl ?_
    walk_at "sx"
    refine l_setL hp (j := 1) rfl fun H2 e2 h2 => ?_
    walk_at "sx"
    refine l_ixL (SqL.of h2) rfl ?_
    walk_at "sx"
    refine l_ixL (SqL.of h2) rfl ?_
    have q0 := Int.emod_nonneg (s * 16807 + 11) (show (2147483647 : Int) ≠ 0 by decide)
    have q1 := Int.emod_lt_of_pos (s * 16807 + 11) (show (0 : Int) < 2147483647 by decide)
    generalize (s * 16807 + 11) % 2147483647 = s2 at *
    have q2 := Int.emod_nonneg (s2 * s2) (show (2147483629 : Int) ≠ 0 by decide)
    walk_at "sx"
    refine l_setL h2 (j := 0) rfl fun H3 e3 h3 => ?_
    walk_at "sx"
    refine l_ixL (SqL.of h3) rfl ?_
    walk_at "sx"
    refine l_ixL (SqL.of h3) rfl ?_
    walk_at "sx"
    refine l_setL h3 (j := 0) rfl fun H4 e4 h4 => ?_
    walk_at "sx"
    exact k _ _ ((e2.trans e3).trans e4) ⟨_, s2, h4, Int.ediv_nonneg q2 (by omega), q0, q1⟩ (Int.emod_nonneg _ (by omega)) (Int.emod_lt_of_pos _ hb.1)
  · walk_at "sx"
    refine l_ixL (SqL.of hp) (v := .int n) rfl ?_
    walk_at "sx"
    refine l_ixL (SqL.of hp) (v := .int n) rfl ?_
    walk_at "sx"
    refine l_setL hp (j := 0) rfl fun H2 e2 h2 => ?_
    walk_at "sx"
    exact k _ _ e2 ⟨_, s, h2, Int.ediv_nonneg hn (by omega), hs, hs2⟩ (Int.emod_nonneg _ (by omega)) (Int.emod_lt_of_pos _ hb.1)
end
section
variable {P : Program} {w : World} {K : PySem.W.Frag} {mg : Str → Option Value} {base : Heap}
theorem ok_L_kept (T : Txt K mg w) (o_Desk_say : FnOk P w K mg base CX0 9 T.a_Desk_say T.fd_Desk_say ["self", "row"] (sp_Desk_say K)) (o_L_digit : FnOk P w K mg base CX0 1 T.a_L_digit T.fd_L_digit ["_law_pot_here", "_law_base"] (sp_L_digit K)) : FnOk P w K mg base CX0 10 T.a_L_kept T.fd_L_kept ["_law_pot_here", "_law_desk"] (sp_L_kept K) := by
  refine T.F_L_kept.ok sc_L_kept (fun vs H Q E h => match vs, h with | [_, _], _ => rfl) (fun cdv A outer s H vs Q E hr h => ?_)
  refine ⟨_, ((pss_cons (ps_set (i := 2) sc_L_kept.nd rfl (by first | exact Or.inl rfl | exact Or.inr rfl) (pe_call o_L_digit (hr.mono (by decide)) rfl T.g_L_digit T.F_L_digit.kp T.b_L_digit .nil pass0 (pa_cons (pv 0) (pa_cons pe_int pa_nil))))
    (pss_cons (ps_set (i := 3) sc_L_kept.nd rfl (by first | exact Or.inl rfl | exact Or.inr rfl) (pe_op (op_addK (K := K) rfl) pe_int (pe_call o_L_digit (hr.mono (by decide)) rfl T.g_L_digit T.F_L_digit.kp T.b_L_digit .nil pass0 (pa_cons (pv 0) (pa_cons pe_int pa_nil)))))
    (pss_cons (ps_if (pt_cmpR (op_eqK (K := K) hr.units rfl) (pv 2) pe_int (nomark _)) (pss_cons (ps_expr (pe_meth (pv 1) T.cl_Desk T.m_Desk_say o_Desk_say hr T.b_Desk_say .nil pass0 (pa_cons (pe_joinedN (.cons pe_str (.cons (pe_fmt (pv 3)) (.cons pe_str (.cons (pe_fmt (pe_call o_L_digit (hr.mono (by decide)) rfl T.g_L_digit T.F_L_digit.kp T.b_L_digit .nil pass0 (pa_cons (pv 0) (pa_cons (pe_op (op_addK (K := K) rfl) (pv 3) pe_int) pa_nil)))) .nil))))) pa_nil)))
    (pss_one (ps_ret (pe_tup (pa_cons (pv 2) (pa_cons pe_int (pa_cons (pv 3) pa_nil))))))) pss_nil)
    (pss_cons (ps_if (pt_cmpR (op_eqK (K := K) hr.units rfl) (pv 2) pe_int (nomark _)) (pss_cons (ps_expr (pe_meth (pv 1) T.cl_Desk T.m_Desk_say o_Desk_say hr T.b_Desk_say .nil pass0 (pa_cons (pe_joinedN (.cons pe_str (.cons (pe_fmt (pv 3)) (.cons pe_str (.cons (pe_fmt (pe_call o_L_digit (hr.mono (by decide)) rfl T.g_L_digit T.F_L_digit.kp T.b_L_digit .nil pass0 (pa_cons (pv 0) (pa_cons (pe_op (op_mulK (K := K) rfl) pe_int (pv 3)) pa_nil)))) .nil))))) pa_nil)))
    (pss_one (ps_ret (pe_tup (pa_cons (pv 2) (pa_cons pe_int (pa_cons (pv 3) pa_nil))))))) pss_nil)
    (pss_cons (ps_set (i := 4) sc_L_kept.nd rfl (by first | exact Or.inl rfl | exact Or.inr rfl) (pe_op (op_addK (K := K) rfl) pe_int (pe_call o_L_digit (hr.mono (by decide)) rfl T.g_L_digit T.F_L_digit.kp T.b_L_digit .nil pass0 (pa_cons (pv 0) (pa_cons pe_int pa_nil)))))
    (pss_cons (ps_set (i := 3) sc_L_kept.nd rfl (by first | exact Or.inl rfl | exact Or.inr rfl) (pe_op (op_addK (K := K) rfl) pe_int (pe_call o_L_digit (hr.mono (by decide)) rfl T.g_L_digit T.F_L_digit.kp T.b_L_digit .nil pass0 (pa_cons (pv 0) (pa_cons pe_int pa_nil)))))
    (pss_cons (ps_expr (pe_meth (pv 1) T.cl_Desk T.m_Desk_say o_Desk_say hr T.b_Desk_say .nil pass0 (pa_cons (pe_joinedN (.cons pe_str (.cons (pe_fmt (pv 4)) (.cons pe_str (.cons (pe_fmt (pv 3)) (.cons pe_str (.cons (pe_fmt (pe_call o_L_digit (hr.mono (by decide)) rfl T.g_L_digit T.F_L_digit.kp T.b_L_digit .nil pass0 (pa_cons (pv 0) (pa_cons (pv 3) pa_nil)))) (.cons pe_str (.cons (pe_fmt (pe_call o_L_digit (hr.mono (by decide)) rfl T.g_L_digit T.F_L_digit.kp T.b_L_digit .nil pass0 (pa_cons (pv 0) (pa_cons (pv 4) pa_nil)))) .nil))))))))) pa_nil)))
    (pss_one (ps_ret (pe_tup (pa_cons (pv 2) (pa_cons (pv 4) (pa_cons (pv 3) pa_nil)))))))))))))), ?_⟩
  match vs, h with
  | [x0, x1], h =>
  replace h : s_L_kept K x0 x1 H Q E := h
  try dsimp only [cxOf, Cx.nox, Cx.wish]
  show (_ : TS) { nx := fun _ H' => Q .non H', rt := Q } [some x0, some x1, none, none, none] H
  obtain ⟨p, d, kd0, rfl, hp, rfl, hd, k⟩ := h
  obtain ⟨py, hpy⟩ := hp.lst
  have ee : Str.empty.length = 0 := rfl
  have eb : (Str.ofString " ").length = 1 := by decide +kernel
  walk_at "sx"
  refine ⟨p, 3, rfl, hp, rfl, by omega, fun s H1 e1 hp1 s0 s1 => ?_⟩
  obtain ⟨py1, hpy1⟩ := hp1.lst
  walk_at "sx"
  refine ⟨p, 40, rfl, hp1, rfl, by omega, fun m H2 e2 hp2 m0 m1 => ?_⟩
  obtain ⟨py2, hpy2⟩ := hp2.lst
  have hd2 := (hd.exB e1 hpy).exB e2 hpy1
  have e02 := e1.trans e2
  have hdp : d ≠ p := fun z => by
    subst z
    obtain ⟨pv, hi, _, _⟩ := hd2
    obtain ⟨d', dx, e, h1⟩ := hi.at_ T.nx_Desk
    cases e
    rw [hpy2] at h1
    cases h1
  obtain ⟨n, hn⟩ : ∃ n : Nat, 1 + m = n := ⟨(1 + m).toNat, by omega⟩
  have ln := nx_ln (n := n) (k := 3) (by decide) (by omega)
  walk_at "sx"
  rw [hn]
  walk_at "sx"
  refine ifd (fun c => ?_) (fun c => ?_)
  · subst c
    have ew : (Str.ofString "plain ").length = 6 := by decide +kernel
    walk_at "sx"
    obtain ⟨pv, hi, _, _⟩ := id hd2
    obtain ⟨d', dx, e, h1⟩ := hi.at_ T.nx_Desk
    cases e
    refine l_meth h1 rfl ?_
    walk_at "sx"
    refine l_js (by simp only [app_len]; omega) ?_
    walk_at "sx"
    refine l_fmtI (log2_lt (k := 10) (by omega) (by decide)) ?_
    walk_at "sx"
    refine l_js (by simp only [app_len]; omega) ?_
    walk_at "sx"
    refine l_js (by simp only [app_len]; omega) ?_
    walk_at "sx"
    refine ⟨p, (n : Int) + 1, rfl, hp2, rfl, by omega, fun g H3 e3 hp3 g0 g1 => ?_⟩
    obtain ⟨a, rfl⟩ : ∃ a : Nat, g = a := ⟨g.toNat, by omega⟩
    have la := nx_ln (n := a) (k := 3) (by decide) (by omega)
    refine l_fmtI (log2_lt (k := 10) (by omega) (by decide)) ?_
    walk_at "sx"
    refine l_js (by simp only [app_len]; omega) ?_
    walk_at "sx"
    have e03 := e02.trans e3
    have hd3 := hd2.exB e3 hpy2
    refine ⟨d, kd0, _, rfl, hd3, congrArg V.str (row_three (w := "plain") (by decide +kernel)), .inr ⟨.plain n (a : Nat), (by show n ≤ 60 ∧ (0 ≤ (a : Int) ∧ (a : Int) ≤ n); omega), rfl, fun H4 e4 h4 => ?_⟩⟩
    walk_at "sx"
    refine w_newT (by simp) fun t H5 _ e5 h5 => ?_
    refine k (.plain n (a : Nat)) t _ (by show n ≤ 60 ∧ (0 ≤ (a : Int) ∧ (a : Int) ≤ n); omega) ⟨by show 1 ≤ n; omega, by show n ≤ 40; omega⟩ (by show 2 ≤ 4; omega) ?_ (h4.mono e5) (SqT.of h5)
    exact fun b o n1 n2 h => e5 _ _ (e4 _ _ n2 (e03 _ _ n1 h))
  · walk_at "sx"
    refine ifd (fun c2 => ?_) (fun c2 => ?_)
    · subst c2
      have ew : (Str.ofString "strong ").length = 7 := by decide +kernel
      walk_at "sx"
      obtain ⟨pv, hi, _, _⟩ := id hd2
      obtain ⟨d', dx, e, h1⟩ := hi.at_ T.nx_Desk
      cases e
      refine l_meth h1 rfl ?_
      walk_at "sx"
      refine l_js (by simp only [app_len]; omega) ?_
      walk_at "sx"
      refine l_fmtI (log2_lt (k := 10) (by omega) (by decide)) ?_
      walk_at "sx"
      refine l_js (by simp only [app_len]; omega) ?_
      walk_at "sx"
      refine l_js (by simp only [app_len]; omega) ?_
      walk_at "sx"
      refine ⟨p, 2 * (n : Int), rfl, hp2, rfl, by omega, fun g H3 e3 hp3 g0 g1 => ?_⟩
      obtain ⟨a, rfl⟩ : ∃ a : Nat, g = a := ⟨g.toNat, by omega⟩
      have la := nx_ln (n := a) (k := 3) (by decide) (by omega)
      refine l_fmtI (log2_lt (k := 10) (by omega) (by decide)) ?_
      walk_at "sx"
      refine l_js (by simp only [app_len]; omega) ?_
      walk_at "sx"
      have e03 := e02.trans e3
      have hd3 := hd2.exB e3 hpy2
      refine ⟨d, kd0, _, rfl, hd3, congrArg V.str (row_three (w := "strong") (by decide +kernel)), .inr ⟨.strong n (a : Nat), (by show (1 ≤ n ∧ n ≤ 59) ∧ (0 ≤ (a : Int) ∧ (a : Int) < 2 * (n : Int)); omega), rfl, fun H4 e4 h4 => ?_⟩⟩
      walk_at "sx"
      refine w_newT (by simp) fun t H5 _ e5 h5 => ?_
      refine k (.strong n (a : Nat)) t _ (by show (1 ≤ n ∧ n ≤ 59) ∧ (0 ≤ (a : Int) ∧ (a : Int) < 2 * (n : Int)); omega) ⟨by show 1 ≤ n; omega, by show n ≤ 40; omega⟩ (by show 2 ≤ 4; omega) ?_ (h4.mono e5) (SqT.of h5)
      exact fun b o n1 n2 h => e5 _ _ (e4 _ _ n2 (e03 _ _ n1 h))
    · have s2 : s = 2 := by omega
      subst s2
      have ew : (Str.ofString "many ").length = 5 := by decide +kernel
      walk_at "sx"
      refine ⟨p, 3, rfl, hp2, rfl, by omega, fun g1 H3 e3 hp3 g10 g11 => ?_⟩
      obtain ⟨py3, hpy3⟩ := hp3.lst
      obtain ⟨q, hq⟩ : ∃ q : Nat, 2 + g1 = q := ⟨(2 + g1).toNat, by omega⟩
      walk_at "sx"
      rw [hq]
      walk_at "sx"
      refine ⟨p, 8, rfl, hp3, rfl, by omega, fun g2 H4 e4 hp4 g20 g21 => ?_⟩
      obtain ⟨py4, hpy4⟩ := hp4.lst
      obtain ⟨n2, hn2⟩ : ∃ q : Nat, 2 + g2 = q := ⟨(2 + g2).toNat, by omega⟩
      walk_at "sx"
      rw [hn2]
      walk_at "sx"
      have hd4 := (hd2.exB e3 hpy2).exB e4 hpy3
      have lq := nx_ln (n := q) (k := 3) (by decide) (by omega)
      have ln2 := nx_ln (n := n2) (k := 3) (by decide) (by omega)
      obtain ⟨pv, hi, _, _⟩ := id hd4
      obtain ⟨d', dx, e, h1⟩ := hi.at_ T.nx_Desk
      cases e
      refine l_meth h1 rfl ?_
      walk_at "sx"
      refine l_js (by simp only [app_len]; omega) ?_
      walk_at "sx"
      refine l_fmtI (log2_lt (k := 10) (by omega) (by decide)) ?_
      walk_at "sx"
      refine l_js (by simp only [app_len]; omega) ?_
      walk_at "sx"
      refine l_js (by simp only [app_len]; omega) ?_
      walk_at "sx"
      refine l_fmtI (log2_lt (k := 10) (by omega) (by decide)) ?_
      walk_at "sx"
      refine l_js (by simp only [app_len]; omega) ?_
      walk_at "sx"
      refine l_js (by simp only [app_len]; omega) ?_
      walk_at "sx"
      refine ⟨p, (n2 : Int), rfl, hp4, rfl, by omega, fun g H5 e5 hp5 g0 g1 => ?_⟩
      obtain ⟨py5, hpy5⟩ := hp5.lst
      obtain ⟨a, rfl⟩ : ∃ a : Nat, g = a := ⟨g.toNat, by omega⟩
      have la := nx_ln (n := a) (k := 3) (by decide) (by omega)
      refine l_fmtI (log2_lt (k := 10) (by omega) (by decide)) ?_
      walk_at "sx"
      refine l_js (by simp only [app_len]; omega) ?_
      walk_at "sx"
      refine l_js (by simp only [app_len]; omega) ?_
      walk_at "sx"
      refine ⟨p, (q : Int), rfl, hp5, rfl, by omega, fun g' H6 e6 hp6 g'0 g'1 => ?_⟩
      obtain ⟨b, rfl⟩ : ∃ a : Nat, g' = a := ⟨g'.toNat, by omega⟩
      have lb := nx_ln (n := b) (k := 3) (by decide) (by omega)
      refine l_fmtI (log2_lt (k := 10) (by omega) (by decide)) ?_
      walk_at "sx"
      refine l_js (by simp only [app_len]; omega) ?_
      walk_at "sx"
      have hd6 := (hd4.exB e5 hpy4).exB e6 hpy5
      have ok6 : (Knd.many q n2 (a : Nat) (b : Nat)).ok := by
        show (2 ≤ q ∧ q ≤ 10) ∧ (2 ≤ n2 ∧ n2 ≤ 24) ∧ (0 ≤ (a : Int) ∧ (a : Int) < n2) ∧ (0 ≤ (b : Int) ∧ (b : Int) < q)
        omega
      refine ⟨d, kd0, _, rfl, hd6, congrArg V.str (row_five (w := "many") (by decide +kernel)), .inr ⟨.many q n2 (a : Nat) (b : Nat), ok6, rfl, fun H7 e7 h7 => ?_⟩⟩
      walk_at "sx"
      refine w_newT (by simp) fun t H8 _ e8 h8 => ?_
      refine k _ t _ ok6 ⟨by show 1 ≤ n2; omega, by show n2 ≤ 40; omega⟩ (by show q ≤ 4; omega) ?_ (h7.mono e8) (SqT.of h8)
      exact fun b o n1 n2 h => e8 _ _ (e7 _ _ n2 (e6 _ _ n1 (e5 _ _ n1 (e4 _ _ n1 (e3 _ _ n1 (e02 _ _ n1 h))))))
end
section
variable {P : Program} {w : World} {K : PySem.W.Frag} {mg : Str → Option Value} {base : Heap}
theorem ok_L_dashed (T : Txt K mg w) : FnOk P w K mg base CX0 1 T.a_L_dashed T.fd_L_dashed ["_law_text"] (sp_L_dashed K) := by
  refine T.F_L_dashed.ok sc_L_dashed (fun vs H Q E h => match vs, h with | [_], _ => rfl) (fun cdv A outer s H vs Q E hr h => ?_)
  refine ⟨_, ((pss_cons (ps_if (pt_cmpR (op_eqK (K := K) hr.units rfl) (pv 0) pe_str (nomark _)) (pss_one (ps_ret pe_str)) pss_nil)
    (pss_one (ps_ret (pv 0))))), ?_⟩
  match vs, h with
  | [x0], h =>
  replace h : s_L_dashed K x0 H Q E := h
  try dsimp only [cxOf, Cx.nox, Cx.wish]
  show (_ : TS) { nx := fun _ H' => Q .non H', rt := Q } [some x0] H
  obtain ⟨ns, rfl, k⟩ := h
  walk_at "sx"
  refine l_eqS ?_
  walk_at "sx"
  have hn : wtx ns = "" ↔ ns = [] := ⟨fun h => List.length_eq_zero_iff.mp (by have := congrArg Str.length h; rw [wtx_len] at this; exact this), fun h => by subst h; rfl⟩
  unfold wtxD at k
  refine ifd (fun c => ?_) (fun c => ?_)
  · walk_at "sx"
    rw [if_pos (hn.mp c)] at k
    exact k
  · walk_at "sx"
    rw [if_neg fun z => c (hn.mpr z)] at k
    exact k
end
section
variable {P : Program} {w : World} {K : PySem.W.Frag} {mg : Str → Option Value} {base : Heap}
theorem wtx_D {w : List Int} (h : w ≠ []) : wtx w = wtxD w := by unfold wtxD; rw [if_neg h]
theorem wtxD_l (ns : List Int) : (wtxD ns).length ≤ ns.length + 1 := by
  unfold wtxD
  split
  · have e0 : ("-" : Str).length = 1 := by decide +kernel
    rw [e0]
    omega
  · rw [wtx_len]
    omega
theorem emp_ap (x : Str) : Str.empty ++ x = x := by
  rw [← sS_eta (Str.empty ++ x), cps_toList_append]
  exact sS_eta x
theorem ok_L_mends (T : Txt K mg w) (o_Desk_say : FnOk P w K mg base CX0 9 T.a_Desk_say T.fd_Desk_say ["self", "row"] (sp_Desk_say K)) (o_L_dashed : FnOk P w K mg base CX0 1 T.a_L_dashed T.fd_L_dashed ["_law_text"] (sp_L_dashed K)) : FnOk P w K mg base CX0 10 T.a_L_mends T.fd_L_mends ["_law_desk", "_law_text", "_law_came", "_law_far", "_law_row"] (sp_L_mends K) := by
  refine T.F_L_mends.ok sc_L_mends (fun vs H Q E h => match vs, h with | [_, _, _, _, _], _ => rfl) (fun cdv A outer s H vs Q E hr h => ?_)
  refine ⟨_, ((pss_cons (ps_if (pt_cmpR (op_neK (K := K) hr.units rfl) (pe_meth (pv 0) T.cl_Desk T.m_Desk_say o_Desk_say hr T.b_Desk_say .nil pass0 (pa_cons (pe_op (op_addK (K := K) rfl) pe_str (pe_call o_L_dashed (hr.mono (by decide)) rfl T.g_L_dashed T.F_L_dashed.kp T.b_L_dashed .nil pass0 (pa_cons (pv 2) pa_nil))) pa_nil)) (pv 1) (nomark _)) (pss_one (ps_ret pe_bl)) pss_nil)
    (pss_cons (ps_set (i := 5) sc_L_mends.nd rfl (by first | exact Or.inl rfl | exact Or.inr rfl) (pe_joinedN (.cons (pe_fmt (pv 3)) (.cons pe_str (.cons (pe_fmt (pe_call o_L_dashed (hr.mono (by decide)) rfl T.g_L_dashed T.F_L_dashed.kp T.b_L_dashed .nil pass0 (pa_cons (pv 4) pa_nil))) .nil)))))
    (pss_one (ps_ret (pe_cmpR (op_eqK (K := K) hr.units rfl) (pe_meth (pv 0) T.cl_Desk T.m_Desk_say o_Desk_say hr T.b_Desk_say .nil pass0 (pa_cons (pe_joinedN (.cons pe_str (.cons (pe_fmt (pv 1)) (.cons pe_str (.cons (pe_fmt (pe_call o_L_dashed (hr.mono (by decide)) rfl T.g_L_dashed T.F_L_dashed.kp T.b_L_dashed .nil pass0 (pa_cons (pv 2) pa_nil))) .nil))))) pa_nil)) (pv 5) (nomark _))))))), ?_⟩
  match vs, h with
  | [x0, x1, x2, x3, x4], h =>
  replace h : s_L_mends K x0 x1 x2 x3 x4 H Q E := h
  try dsimp only [cxOf, Cx.nox, Cx.wish]
  show (_ : TS) { nx := fun _ H' => Q .non H', rt := Q } [some x0, some x1, some x2, some x3, some x4, none] H
  obtain ⟨d, kd, w, c, r, rfl, hd, rfl, rfl, rfl, rfl, hne, hl, sw, sc, hb, hc, hB, k⟩ := h
  have hd0 := hd
  obtain ⟨pv, hi, hk, ok⟩ := hd0
  obtain ⟨d', dx, e, h1⟩ := hi.at_ T.nx_Desk
  cases e
  have hq := kd.q2 ok
  have lw := wtxD_l w
  have lc := wtxD_l c
  have lr := wtxD_l r
  have ee : Str.empty.length = 0 := rfl
  have eb : (Str.ofString " ").length = 1 := by decide +kernel
  have e5 : (Str.ofString "mend ").length = 5 := by decide +kernel
  have e55 : (Str.ofString "near ").length = 5 := by decide +kernel
  have e2 : (Str.ofString "; ").length = 2 := by decide +kernel
  walk_at "sx"
  refine l_meth h1 rfl ?_
  walk_at "sx"
  refine ⟨c, rfl, ?_⟩
  walk_at "sx"
  refine l_addS (by omega) ?_
  walk_at "sx"
  refine ⟨d, kd, _, rfl, hd, congrArg V.str (row_two (w := "mend") (by decide +kernel)), .inl (.inr (.inr (.inr (.inl ⟨c, rfl, hl.2.1, sc, hb, fun t H1 e1 ht => ?_⟩))))⟩
  walk_at "sx"
  have ht2 : t = wtx w := by
    rcases ht with ⟨u, hu, hh, rfl⟩ | ⟨_, hn⟩
    · rw [hc.2.2 u hu hh, wtx_D hne]
    · have := hn w hc.1
      rw [hc.2.1] at this
      cases this
  subst ht2
  refine l_neS ?_
  walk_at "sx"
  rw [decide_eq_true rfl]
  walk_at "sx"
  obtain ⟨r0, z1, z2, z3⟩ := lcs_ex w c
  have l1 := z1.length_le
  have l2 := z2.length_le
  obtain ⟨g, hg⟩ : ∃ g : Nat, ((w.length : Int) + c.length - 2 * (lcsN w c : Nat)) = g := ⟨((w.length : Int) + c.length - 2 * (lcsN w c : Nat)).toNat, by omega⟩
  have lg := nx_ln (n := g) (k := 3) (by decide) (by omega)
  rw [hg]
  refine l_fmtI (log2_lt (k := 10) (by omega) (by decide)) ?_
  refine l_js (by simp only [app_len]; omega) ?_
  walk_at "sx"
  refine l_js (by simp only [app_len]; omega) ?_
  walk_at "sx"
  refine ⟨r, rfl, ?_⟩
  refine l_fmtS (by omega) ?_
  refine l_js (by simp only [app_len]; omega) ?_
  walk_at "sx"
  have h1' := e1 _ _ h1
  refine l_meth h1' rfl ?_
  walk_at "sx"
  refine l_js (by simp only [app_len]; omega) ?_
  walk_at "sx"
  have lww := wtx_len w
  refine l_fmtS (by omega) ?_
  refine l_js (by simp only [app_len]; omega) ?_
  walk_at "sx"
  refine l_js (by simp only [app_len]; omega) ?_
  walk_at "sx"
  refine ⟨c, rfl, ?_⟩
  refine l_fmtS (by omega) ?_
  refine l_js (by simp only [app_len]; omega) ?_
  walk_at "sx"
  rw [wtx_D hne]
  refine ⟨d, kd, _, rfl, hd.mono e1, congrArg V.str (row_three (w := "near") (by decide +kernel)), .inl (.inr (.inr (.inr (.inr (.inl ⟨w, c, rfl, ⟨hl.1, hl.2.1⟩, sg_36 (by omega) sw, sg_36 (by omega) sc, fun r' H2 e3 hr => ?_⟩)))))⟩
  rw [hB r' hr]
  walk_at "sx"
  refine l_eqS ?_
  unfold nearTx
  rw [hg, emp_ap, decide_eq_true rfl]
  exact k _ (e1.trans e3)
end
section
variable {P : Program} {w : World} {K : PySem.W.Frag} {mg : Str → Option Value} {base : Heap}
theorem cands_uniq {kd : Knd} {c u v : List Int} (ok : kd.ok) (hl : c.length ≤ kd.n + 1 ∧ kd.n ≤ c.length + 1) (sc : Sg (kd.q : Nat) c) (hu : u ∈ kd.cands c) (hv : v ∈ kd.cands c) (mu : kd.has u = true) (mv : kd.has v = true) : u = v := by
  cases kd with
  | plain n a => exact cands_one hl sc hu hv mu mv
  | strong n a => exact candsS_one ok.1.1 hl sc hu hv mu mv
  | many q n a b => exact candsM_one ok.2.1.1 hl sc hu hv mu mv
theorem cands_self {kd : Knd} {w : List Int} (hw : w.length = kd.n) : w ∈ kd.cands w := by
  cases kd with
  | plain n a =>
    have hw : w.length = n := hw
    show w ∈ LW.cands n w
    unfold LW.cands
    rw [if_neg (by omega), if_pos hw]
    simp
  | strong n a =>
    have hw : w.length = n := hw
    show w ∈ candsS n w
    unfold candsS
    rw [if_pos hw]
    simp
  | many q n a b =>
    have hw : w.length = n := hw
    show w ∈ candsM q n w
    unfold candsM
    rw [if_neg (by omega), if_pos hw]
    simp
theorem cands_lost {kd : Knd} {w : List Int} {k : Nat} (hw : w.length = kd.n) (sw : Sg (kd.q : Nat) w) (hk : k < w.length) : w ∈ kd.cands (lostAt w k) := by
  have hl := lostAt_len hk
  have hp : ∀ q : Nat, q = kd.q → w ∈ puts q (lostAt w k) := fun q hq => mem_puts.mpr ⟨k, w.getD k 0, by omega, hq ▸ sg_at sw hk, put_lost hk⟩
  cases kd with
  | plain n a =>
    have hw : w.length = n := hw
    show w ∈ LW.cands n (lostAt w k)
    unfold LW.cands
    rw [if_pos (by omega)]
    exact hp 2 rfl
  | strong n a =>
    have hw : w.length = n := hw
    show w ∈ candsS n (lostAt w k)
    unfold candsS
    rw [if_neg (by omega), if_pos (by omega)]
    exact hp 2 rfl
  | many q n a b =>
    have hw : w.length = n := hw
    show w ∈ candsM q n (lostAt w k)
    unfold candsM
    rw [if_pos (by omega)]
    exact hp q rfl
theorem cands_put {kd : Knd} {w : List Int} {k : Nat} {s : Int} (hw : w.length = kd.n) (hk : k ≤ w.length) : w ∈ kd.cands (putAt w k s) := by
  have hl := putAt_len (s := s) hk
  have hp : w ∈ losts (putAt w k s) := mem_losts.mpr ⟨k, by omega, (lost_put hk).symm⟩
  cases kd with
  | plain n a =>
    have hw : w.length = n := hw
    show w ∈ LW.cands n (putAt w k s)
    unfold LW.cands
    rw [if_neg (by omega), if_neg (by omega)]
    exact hp
  | strong n a =>
    have hw : w.length = n := hw
    show w ∈ candsS n (putAt w k s)
    unfold candsS
    rw [if_neg (by omega), if_neg (by omega)]
    exact hp
  | many q n a b =>
    have hw : w.length = n := hw
    show w ∈ candsM q n (putAt w k s)
    unfold candsM
    rw [if_neg (by omega), if_neg (by omega)]
    exact hp
theorem cands_chg {n : Nat} {a : Int} {w : List Int} {k : Nat} {s : Int} (hw : w.length = n) (sw : Sg 2 w) (hk : k < w.length) : w ∈ (Knd.strong n a).cands (chgAt w k s) := by
  have lk := chgAt_len (s := s) hk
  show w ∈ candsS n (chgAt w k s)
  unfold candsS
  rw [if_pos (by omega)]
  exact List.mem_append_right _ (mem_chgs.mpr ⟨k, w.getD k 0, by omega, sg_at sw hk, (chg_back hk).symm⟩)
theorem lost_subl {w : List Int} {k : Nat} (hk : k < w.length) : (lostAt w k).Sublist w := by
  have e := split_at hk
  have : (w.take k ++ w.drop (k + 1)).Sublist (w.take k ++ [w.getD k 0] ++ w.drop (k + 1)) := List.Sublist.append (List.sublist_append_left _ _) (List.Sublist.refl _)
  rw [← e] at this
  exact this
theorem bst_sub {w c r : List Int} (h : c.Sublist w) (hB : Bst w c r) : r = c ∧ lcsN w c = c.length := by
  have h1 := lcs_le w c c h (List.Sublist.refl _)
  have h2 := hB.len
  have h3 := hB.1.2.length_le
  exact ⟨hB.1.2.eq_of_length (by omega), by omega⟩
theorem bst_sup {w c r : List Int} (h : w.Sublist c) (hB : Bst w c r) : r = w ∧ lcsN w c = w.length := by
  have h1 := lcs_le w c w (List.Sublist.refl _) h
  have h2 := hB.len
  have h3 := hB.1.1.length_le
  exact ⟨hB.1.1.eq_of_length (by omega), by omega⟩
theorem lcs_sub {w c : List Int} (h : c.Sublist w) : lcsN w c = c.length := by
  have h1 := lcs_le w c c h (List.Sublist.refl _)
  obtain ⟨r, _, b, e⟩ := lcs_ex w c
  have := b.length_le
  omega
theorem lcs_sup {w c : List Int} (h : w.Sublist c) : lcsN w c = w.length := by
  have h1 := lcs_le w c w (List.Sublist.refl _) h
  obtain ⟨r, b, _, e⟩ := lcs_ex w c
  have := b.length_le
  omega
theorem mem_inj {kd : Knd} {i j : Int} {w : List Int} (ok : kd.ok) (hi : 0 ≤ i ∧ i < kd.cnt) (hj : 0 ≤ j ∧ j < kd.cnt) (h1 : kd.mem i w) (h2 : kd.mem j w) : i = j := by
  cases kd with
  | plain n a =>
    obtain ⟨_, _, _, g4⟩ := memN_all n a i ok.2.1 ok.2.2 hi.1 hi.2
    obtain ⟨_, _, _, k4⟩ := memN_all n a j ok.2.1 ok.2.2 hj.1 hj.2
    have h1 : w = _ := h1
    have h2 : w = _ := h2
    rw [← h1] at g4
    rw [← h2] at k4
    omega
  | strong n a =>
    obtain ⟨_, _, _, g4⟩ := memS_all n ok.1.1 a i ok.2.1 ok.2.2 hi.1 hi.2
    obtain ⟨_, _, _, k4⟩ := memS_all n ok.1.1 a j ok.2.1 ok.2.2 hj.1 hj.2
    have h1 : w = _ := h1
    have h2 : w = _ := h2
    rw [← h1] at g4
    rw [← h2] at k4
    omega
  | many q n a b =>
    have h1 : (EW q n n 0 a b)[i.toNat]? = some w := h1
    have h2 : (EW q n n 0 a b)[j.toNat]? = some w := h2
    have nd : (EW q n n 0 a b).Nodup := by
      rw [EW_all ok.2.2.1 ok.2.2.2]
      exact (allW_nodup q n).filter _
    obtain ⟨b1, c1⟩ := List.getElem?_eq_some_iff.mp h1
    obtain ⟨b2, c2⟩ := List.getElem?_eq_some_iff.mp h2
    have := (List.getElem_inj nd).mp (c1.trans c2.symm)
    omega
theorem mem_fun {kd : Knd} {i : Int} {w v : List Int} (h1 : kd.mem i w) (h2 : kd.mem i v) : v = w := by
  cases kd with
  | plain n a => exact (show v = _ from h2).trans (show w = _ from h1).symm
  | strong n a => exact (show v = _ from h2).trans (show w = _ from h1).symm
  | many q n a b =>
    have h1 : (EW q n n 0 a b)[i.toNat]? = some w := h1
    have h2 : (EW q n n 0 a b)[i.toNat]? = some v := h2
    rw [h1] at h2
    exact (Option.some.inj h2).symm
theorem wtx_at {w : List Int} {i : Nat} (h : i < w.length) : atI (wtx w).cps.toList ((i : Nat) : Int) = some (ltr (w.getD i 0)) := by
  unfold wtx
  rw [sS_cps]
  refine atI_nat ?_
  rw [List.getElem?_map, List.getD_eq_getElem?_getD, List.getElem?_eq_getElem h]
  rfl
theorem in_texts {z : Str} {ys : List Str} (h : z ∈ ys) : inV (.str z) (ys.map V.str) = true := by
  unfold inV
  refine List.any_eq_true.mpr ⟨.str z, List.mem_map_of_mem h, ?_⟩
  simp [eqV]
theorem flat_texts (ys : List Str) : (ys.map V.str).all flatV = true := by
  rw [List.all_map]
  exact List.all_eq_true.mpr fun _ _ => rfl
theorem cut_wl (w : List Int) (k : Nat) : cutS (wtx w) none (some (k : Int)) = wtx (w.take k) := by
  rw [cutS_to]
  unfold wtx
  rw [sS_cps, List.map_take]
theorem cut_wr (w : List Int) (k : Nat) : cutS (wtx w) (some (k : Int)) none = wtx (w.drop k) := by
  rw [cutS_from]
  unfold wtx
  rw [sS_cps, List.map_drop]
theorem wtx_app (u v : List Int) : wtx u ++ wtx v = wtx (u ++ v) := by
  unfold wtx
  rw [sS_app, List.map_append]
theorem wtx_one (i : Int) : (⟨#[ltr i]⟩ : Str) = wtx [i] := rfl
theorem cnt_fit {kd : Knd} (ok : kd.ok) (hn : kd.n ≤ 40) (hq : kd.q ≤ 4) : kd.cnt < 4611686018427387904 := by
  cases kd with
  | plain n a =>
    have h1 := Dn_le (n + 1) n n a
    have h2 : (2 : Int) ^ n ≤ 2 ^ 40 := by
      have h3 : (2 : Nat) ^ n ≤ 2 ^ 40 := Nat.pow_le_pow_right (by decide) hn
      have h4 : (((2 : Nat) ^ n : Nat) : Int) ≤ ((2 ^ 40 : Nat) : Int) := by omega
      rw [Int.natCast_pow] at h4
      exact h4
    show Dn (n + 1) n n a < _
    omega
  | strong n a =>
    have h1 := Dn_le (2 * n) n n a
    have h2 : (2 : Int) ^ n ≤ 2 ^ 40 := by
      have h3 : (2 : Nat) ^ n ≤ 2 ^ 40 := Nat.pow_le_pow_right (by decide) hn
      have h4 : (((2 : Nat) ^ n : Nat) : Int) ≤ ((2 ^ 40 : Nat) : Int) := by omega
      rw [Int.natCast_pow] at h4
      exact h4
    show Dn (2 * n) n n a < _
    omega
  | many q n a b =>
    have h1 : (EW q n n 0 a b).length ≤ q ^ n := by
      rw [EW_all ok.2.2.1 ok.2.2.2, ← allW_len q n]
      exact List.length_filter_le _ _
    have h2 : q ^ n ≤ 4 ^ 24 := Nat.le_trans (Nat.pow_le_pow_left hq n) (Nat.pow_le_pow_right (by decide) ok.2.1.2)
    have h3 : (4 : Nat) ^ 24 = 281474976710656 := by decide +kernel
    show ((EW q n n 0 a b).length : Int) < _
    omega
theorem ok_law (T : Txt K mg w) (o_Desk_say : FnOk P w K mg base CX0 9 T.a_Desk_say T.fd_Desk_say ["self", "row"] (sp_Desk_say K)) (o_L_dashed : FnOk P w K mg base CX0 1 T.a_L_dashed T.fd_L_dashed ["_law_text"] (sp_L_dashed K)) (o_L_mends : FnOk P w K mg base CX0 10 T.a_L_mends T.fd_L_mends ["_law_desk", "_law_text", "_law_came", "_law_far", "_law_row"] (sp_L_mends K)) (o_L_digit : FnOk P w K mg base CX0 1 T.a_L_digit T.fd_L_digit ["_law_pot_here", "_law_base"] (sp_L_digit K)) (o_show_word : FnOk P w K mg base CX0 4 T.a_show_word T.fd_show_word ["q", "word"] (sp_show_word K)) (o_read_word : FnOk P w K mg base CX0 3 T.a_read_word T.fd_read_word ["q", "text"] (sp_read_word K)) (o_L_pot : FnOk P w K mg base CX0 2 T.a_L_pot T.fd_L_pot ["_law_script", "_law_k"] (sp_L_pot K)) (o_L_kept : FnOk P w K mg base CX0 10 T.a_L_kept T.fd_L_kept ["_law_pot_here", "_law_desk"] (sp_L_kept K)) (o_Desk_init : FnOk P w K mg base CX0 5 T.a_Desk_init T.fd_Desk_init ["self"] (sp_Desk_init K)) : FnOk P w K mg base CX0 11 T.a_law T.fd_law ["_law_script"] (sp_law K) := by
  refine T.F_law.ok sc_law (fun vs H Q E h => match vs, h with | [_], _ => rfl) (fun cdv A outer s H vs Q E hr h => ?_)
  refine ⟨_, ((pss_cons (ps_set (i := 1) sc_law.nd rfl (by first | exact Or.inl rfl | exact Or.inr rfl) (pe_make0 T.mk_Desk o_Desk_init (hr.mono (by decide)) rfl T.gx_Desk T.b_Desk_init .nil pass0))
    (pss_cons (ps_set (i := 2) sc_law.nd rfl (by first | exact Or.inl rfl | exact Or.inr rfl) (pe_call o_L_pot (hr.mono (by decide)) rfl T.g_L_pot T.F_L_pot.kp T.b_L_pot .nil pass0 (pa_cons (pv 0) (pa_cons pe_int pa_nil))))
    (pss_cons (ps_asg (pe_call o_L_kept hr rfl T.g_L_kept T.F_L_kept.kp T.b_L_kept .nil pass0 (pa_cons (pv 2) (pa_cons (pv 1) pa_nil))) (pg_tupK (K := K) rfl rfl (pgs_cons (pg_name (i := 3) sc_law.nd rfl (by first | exact Or.inl rfl | exact Or.inr rfl)) (pgs_cons (pg_name (i := 4) sc_law.nd rfl (by first | exact Or.inl rfl | exact Or.inr rfl)) (pgs_cons (pg_name (i := 5) sc_law.nd rfl (by first | exact Or.inl rfl | exact Or.inr rfl)) pgs_nil)))))
    (pss_cons (ps_set (i := 6) sc_law.nd rfl (by first | exact Or.inl rfl | exact Or.inr rfl) (pe_callTy call_intT (by rfl) T.z_int (by decide +kernel) (pa_cons (pe_meth (pv 1) T.cl_Desk T.m_Desk_say o_Desk_say (hr.mono (by decide)) T.b_Desk_say .nil pass0 (pa_cons pe_str pa_nil)) pa_nil)))
    (pss_cons (ps_if (pt_cmpR (op_eqK (K := K) hr.units rfl) (pv 6) pe_int (nomark _)) (pss_one (ps_ret pe_bl)) pss_nil)
    (pss_cons (ps_set (i := 2) sc_law.nd rfl (by first | exact Or.inl rfl | exact Or.inr rfl) (pe_call o_L_pot (hr.mono (by decide)) rfl T.g_L_pot T.F_L_pot.kp T.b_L_pot .nil pass0 (pa_cons (pv 0) (pa_cons pe_int pa_nil))))
    (pss_cons (ps_set (i := 7) sc_law.nd rfl (by first | exact Or.inl rfl | exact Or.inr rfl) (pe_call o_L_digit (hr.mono (by decide)) rfl T.g_L_digit T.F_L_digit.kp T.b_L_digit .nil pass0 (pa_cons (pv 2) (pa_cons (pv 6) pa_nil))))
    (pss_cons (ps_set (i := 8) sc_law.nd rfl (by first | exact Or.inl rfl | exact Or.inr rfl) (pe_meth (pv 1) T.cl_Desk T.m_Desk_say o_Desk_say (hr.mono (by decide)) T.b_Desk_say .nil pass0 (pa_cons (pe_joinedN (.cons pe_str (.cons (pe_fmt (pv 7)) .nil))) pa_nil)))
    (pss_cons (ps_if (PW.pt (pw_or (pt_cmpR (op_neK (K := K) hr.units rfl) (pe_callB (call_lenK (K := K) rfl) (by rfl) T.z_len (by decide +kernel) (pa_cons (pv 8) pa_nil)) (pv 5) (nomark _)) (pw_or (pt_cmpR (op_neK (K := K) hr.units rfl) (pe_call o_show_word (hr.mono (by decide)) rfl T.g_show_word T.F_show_word.kp T.b_show_word .nil pass0 (pa_cons (pv 4) (pa_cons (pe_call o_read_word (hr.mono (by decide)) rfl T.g_read_word T.F_read_word.kp T.b_read_word .nil pass0 (pa_cons (pv 4) (pa_cons (pv 8) pa_nil))) pa_nil))) (pv 8) (nomark _)) (pw_or1 (pt_cmpR (op_neK (K := K) hr.units rfl) (pe_meth (pv 1) T.cl_Desk T.m_Desk_say o_Desk_say (hr.mono (by decide)) T.b_Desk_say .nil pass0 (pa_cons (pe_op (op_addK (K := K) rfl) pe_str (pv 8)) pa_nil)) (pe_callTy call_strI (by rfl) T.z_str (by decide +kernel) (pa_cons (pv 7) pa_nil)) (nomark _)))))) (pss_one (ps_ret pe_bl)) pss_nil)
    (pss_cons (ps_set (i := 9) sc_law.nd rfl (by first | exact Or.inl rfl | exact Or.inr rfl) (pe_call o_L_digit (hr.mono (by decide)) rfl T.g_L_digit T.F_L_digit.kp T.b_L_digit .nil pass0 (pa_cons (pv 2) (pa_cons (pv 5) pa_nil))))
    (pss_cons (ps_set (i := 10) sc_law.nd rfl (by first | exact Or.inl rfl | exact Or.inr rfl) (pe_op (op_addK (K := K) rfl) (pe_slice (sl_X (K := K) rfl) (pv 8) po_none (po_some (pv 9))) (pe_slice (sl_X (K := K) rfl) (pv 8) (po_some (pe_op (op_addK (K := K) rfl) (pv 9) pe_int)) po_none)))
    (pss_cons (ps_set (i := 11) sc_law.nd rfl (by first | exact Or.inl rfl | exact Or.inr rfl) (pe_ix (ix_K (K := K) rfl) pe_str (pe_call o_L_digit (hr.mono (by decide)) rfl T.g_L_digit T.F_L_digit.kp T.b_L_digit .nil pass0 (pa_cons (pv 2) (pa_cons (pv 4) pa_nil))) (fun _ _ => rfl)))
    (pss_cons (ps_set (i := 12) sc_law.nd rfl (by first | exact Or.inl rfl | exact Or.inr rfl) (pe_call o_L_digit (hr.mono (by decide)) rfl T.g_L_digit T.F_L_digit.kp T.b_L_digit .nil pass0 (pa_cons (pv 2) (pa_cons (pe_op (op_addK (K := K) rfl) (pv 5) pe_int) pa_nil))))
    (pss_cons (ps_if (PW.pt (pw_or (pt_not (pt_val (pe_call o_L_mends hr rfl T.g_L_mends T.F_L_mends.kp T.b_L_mends .nil pass0 (pa_cons (pv 1) (pa_cons (pv 8) (pa_cons (pv 10) (pa_cons pe_int (pa_cons (pv 10) pa_nil)))))))) (pw_or1 (pt_not (pt_val (pe_call o_L_mends hr rfl T.g_L_mends T.F_L_mends.kp T.b_L_mends .nil pass0 (pa_cons (pv 1) (pa_cons (pv 8) (pa_cons (pv 8) (pa_cons pe_int (pa_cons (pv 8) pa_nil))))))))))) (pss_one (ps_ret pe_bl)) pss_nil)
    (pss_cons (ps_if (pt_not (pt_val (pe_call o_L_mends hr rfl T.g_L_mends T.F_L_mends.kp T.b_L_mends .nil pass0 (pa_cons (pv 1) (pa_cons (pv 8) (pa_cons (pe_op (op_addK (K := K) rfl) (pe_op (op_addK (K := K) rfl) (pe_slice (sl_X (K := K) rfl) (pv 8) po_none (po_some (pv 12))) (pv 11)) (pe_slice (sl_X (K := K) rfl) (pv 8) (po_some (pv 12)) po_none)) (pa_cons pe_int (pa_cons (pv 8) pa_nil)))))))) (pss_one (ps_ret pe_bl)) pss_nil)
    (Evl.pss_cut (ps_if (pt_cmpR (op_eqK (K := K) hr.units rfl) (pv 3) pe_int (nomark _)) (pss_cons (ps_set (i := 13) sc_law.nd rfl (by first | exact Or.inl rfl | exact Or.inr rfl) (pe_op (op_addK (K := K) rfl) (pe_op (op_addK (K := K) rfl) (pe_slice (sl_X (K := K) rfl) (pv 8) po_none (po_some (pv 9))) (pe_ix (ix_K (K := K) rfl) pe_str (pe_callTy call_intT (by rfl) T.z_int (by decide +kernel) (pa_cons (pe_ix (ix_K (K := K) rfl) (pv 8) (pv 9) (fun _ _ => rfl)) pa_nil)) (fun _ _ => rfl))) (pe_slice (sl_X (K := K) rfl) (pv 8) (po_some (pe_op (op_addK (K := K) rfl) (pv 9) pe_int)) po_none)))
    (pss_one (ps_if (pt_cmpR (op_neK (K := K) hr.units rfl) (pe_meth (pv 1) T.cl_Desk T.m_Desk_say o_Desk_say (hr.mono (by decide)) T.b_Desk_say .nil pass0 (pa_cons (pe_op (op_addK (K := K) rfl) pe_str (pv 13)) pa_nil)) (pv 8) (nomark _)) (pss_one (ps_ret pe_bl)) pss_nil))) pss_nil)
    (pss_one (ps_ret (pe_and (pe_cmpR (op_inX (K := K) rfl) (pe_call o_L_dashed (hr.mono (by decide)) rfl T.g_L_dashed T.F_L_dashed.kp T.b_L_dashed .nil pass0 (pa_cons (pv 10) pa_nil)) (pe_splitK (pe_meth (pv 1) T.cl_Desk T.m_Desk_say o_Desk_say (hr.mono (by decide)) T.b_Desk_say .nil pass0 (pa_cons (pe_op (op_addK (K := K) rfl) pe_str (pv 8)) pa_nil)) pe_str) (by rfl)) (pe_one (pe_cmpR (op_eqK (K := K) hr.units rfl) (pe_meth (pv 1) T.cl_Desk T.m_Desk_say o_Desk_say (hr.mono (by decide)) T.b_Desk_say .nil pass0 (pa_cons (pe_op (op_addK (K := K) rfl) pe_str (pe_callTy call_strI (by rfl) T.z_str (by decide +kernel) (pa_cons (pv 7) pa_nil))) pa_nil)) (pv 8) (nomark _))))))))))))))))))))))), ?_⟩
  match vs, h with
  | [x0], h =>
  replace h : s_law K x0 H Q E := h
  try dsimp only [cxOf, Cx.nox, Cx.wish]
  show (_ : TS) { nx := fun _ H' => Q .non H', rt := Q } [some x0, none, none, none, none, none, none, none, none, none, none, none, none, none] H
  obtain ⟨sa, sn, rfl, hs, hl, kk⟩ := h
  walk_at "sx"
  refine l_make fun d dx H1 hn1 e1 h1 => ?_
  refine ⟨d, _, dx, rfl, T.nx_Desk, h1, fun H2 e2 hd2 => ⟨rfl, ?_⟩⟩
  have e02 : Ex H H2 := ExB.new e1 e2 hn1
  walk_at "sx"
  refine ⟨sa, sn, 1, rfl, Evl.ex_l e02 hs, rfl, by omega, fun p H3 hn3 e3 hp3 => ?_⟩
  walk_at "sx"
  refine ⟨p, d, .plain 0 0, rfl, hp3, rfl, hd2.mono e3, fun kd t H4 ok hn hq4 e4 hd4 ht => ?_⟩
  have e04 : Ex H H4 := fun a o h => e4 a o (fun z => by subst z; rw [e02 _ _ h] at hn3; cases hn3) (fun z => by subst z; rw [hn1] at h; cases h) (e3 _ _ (e02 _ _ h))
  have hq := kd.q2 ok
  clear e1 e2 e3 e4 hd2 hp3 hn3 h1 e02
  walk_at "sx"
  obtain ⟨pv, hi4, _, _⟩ := id hd4
  obtain ⟨d', dx', e, hD4⟩ := hi4.at_ T.nx_Desk
  cases e
  refine l_meth hD4 rfl ?_
  walk_at "sx"
  refine ⟨d, kd, [("count" : Str)], rfl, hd4, congrArg V.str (by decide +kernel), .inl (.inl ⟨rfl, fun H5 e5 => ?_⟩)⟩
  walk_at "sx"
  have hc := cnt_small ok
  have hcf := cnt_fit ok hn.2 hq4
  have h1060 : ((10 ^ 60 : Nat) : Int) = 10 ^ 60 := by decide +kernel
  obtain ⟨N, hN⟩ : ∃ N : Nat, kd.cnt = N := ⟨kd.cnt.toNat, by omega⟩
  have hN60 : N < 10 ^ 60 := by omega
  rw [hN]
  refine l_intT (nx_int hN60) (Nat.le_trans (nx_len2 (k := 60) (by decide) hN60) (by decide)) ?_
  walk_at "sx"
  refine ifd (fun c => ?_) (fun c => ?_)
  · walk_at "sx"
    exact kk _
  walk_at "sx"
  have hd5 := hd4.mono e5
  have hs5 := Evl.ex_l (e04.trans e5) hs
  clear e04 e5 hd4 ht hi4 hD4
  refine ⟨sa, sn, 2, rfl, hs5, rfl, by omega, fun p2 H6 hn6 e6 hp6 => ?_⟩
  obtain ⟨py6, hpy6⟩ := hp6.lst
  have hd6 := hd5.mono e6
  walk_at "sx"
  refine ⟨p2, (N : Int), rfl, hp6, rfl, by omega, fun kn H7 e7 hp7 k0 k1 => ?_⟩
  obtain ⟨py7, hpy7⟩ := hp7.lst
  have hd7 := hd6.exB e7 hpy6
  obtain ⟨k, rfl⟩ : ∃ k : Nat, kn = k := ⟨kn.toNat, by omega⟩
  clear hs5 e6 e7 hd5 hd6 hp6 hn6 hpy6 py6
  walk_at "sx"
  obtain ⟨pv7, hi7, _, _⟩ := id hd7
  obtain ⟨d7, dx7, e, hD7⟩ := hi7.at_ T.nx_Desk
  cases e
  refine l_meth hD7 rfl ?_
  have ee : Str.empty.length = 0 := rfl
  have ew : (Str.ofString "word ").length = 5 := by decide +kernel
  have hk60 : k < 10 ^ 60 := by omega
  have lk := nx_ln (n := k) (k := 60) (by decide) hk60
  walk_at "sx"
  refine l_js (by simp only [app_len]; omega) ?_
  walk_at "sx"
  refine l_fmtI (cnt_log (by omega) (by omega)) ?_
  refine l_js (by simp only [app_len]; omega) ?_
  walk_at "sx"
  refine ⟨d, kd, _, rfl, hd7, congrArg V.str (row_twoF (w := "word") (by decide +kernel)), .inl (.inr (.inl ⟨k, rfl, by omega, fun w H8 e8 hw60 hm => ?_⟩))⟩
  obtain ⟨f1, f2, f3⟩ := mem_facts ok ⟨by omega, by omega⟩ hm
  have hwne : w ≠ [] := fun z => by subst z; simp at f2; omega
  have hwD : wtxD w = wtx w := by unfold wtxD; rw [if_neg hwne]
  rw [hwD]
  have hd8 := hd7.mono e8
  have hp8 := hp7.mono e8
  obtain ⟨py8, hpy8⟩ := hp8.lst
  clear e8 hd7 hp7 hi7 hD7 hpy7 py7
  walk_at "sx"
  refine l_lenS (by rw [wtx_len]; omega) ?_
  walk_at "sx"
  rw [wtx_len, f2, decide_eq_true rfl]
  walk_at "sx"
  refine ⟨kd.q, wtx w, rfl, by omega, rfl, by rw [wtx_len]; omega, fun c hc => by rw [Int.toNat_natCast]; exact wtx_sgn f3 (by omega) c hc, fun a H9 e9 ha => ?_⟩
  rw [idxs_wtx (fun i hi => by have := f3 i hi; omega)] at ha
  walk_at "sx"
  refine ⟨kd.q, w, rfl, by omega, ⟨a, rfl, ha.sq, by omega, f3⟩, fun H10 e10 => ?_⟩
  walk_at "sx"
  refine l_neS ?_
  rw [decide_eq_true rfl]
  walk_at "sx"
  have hd10 := hd8.mono (e9.trans e10)
  have hp10 := hp8.mono (e9.trans e10)
  obtain ⟨pv10, hi10, _, _⟩ := id hd10
  obtain ⟨d10', dx10', e, hD10⟩ := hi10.at_ T.nx_Desk
  cases e
  refine l_meth hD10 rfl ?_
  have en : (Str.ofString "number ").length = 7 := by decide +kernel
  walk_at "sx"
  refine l_addS (by rw [wtx_len]; omega) ?_
  walk_at "sx"
  refine ⟨d, kd, _, rfl, hd10, congrArg V.str (show (Str.ofString "number ") ++ wtx w = Txt.join " " [("number" : Str), wtxD w] by rw [hwD]; exact row_two (by decide +kernel)), .inl (.inr (.inr (.inl ⟨w, rfl, by omega, f3, f1, fun j H11 e11 hj hmj => ?_⟩)))⟩
  have hjk := mem_inj ok hj ⟨by omega, by omega⟩ hmj hm
  subst hjk
  have hd11 := hd10.mono e11
  have hp11 := hp10.mono e11
  obtain ⟨py11, hpy11⟩ := hp11.lst
  clear e9 e10 e11 ha hd8 hd10 hp8 hp10 hi10 hD10 hpy8 py8
  walk_at "sx"
  refine l_strI (cnt_log (by omega) (by omega)) ?_
  walk_at "sx"
  refine l_neS ?_
  rw [decide_eq_true rfl]
  walk_at "sx"
  refine ⟨p2, (kd.n : Nat), rfl, hp11, rfl, by omega, fun ai H12 e12 hp12 a0 a1 => ?_⟩
  obtain ⟨py12, hpy12⟩ := hp12.lst
  have hd12 := hd11.exB e12 hpy11
  obtain ⟨i, rfl⟩ : ∃ i : Nat, ai = i := ⟨ai.toNat, by omega⟩
  walk_at "sx"
  refine l_slS (by rw [wtx_len]; omega) ?_
  walk_at "sx"
  refine l_slS (by rw [wtx_len]; omega) ?_
  rw [show ((i : Nat) : Int) + 1 = ((i + 1 : Nat) : Int) by omega, cut_wl, cut_wr]
  refine l_addS (by rw [wtx_len, wtx_len, List.length_take, List.length_drop]; omega) ?_
  rw [wtx_app]
  have hL : w.take i ++ w.drop (i + 1) = lostAt w i := rfl
  rw [hL]
  walk_at "sx"
  refine ⟨p2, (kd.q : Nat), rfl, hp12, rfl, by omega, fun sg H13 e13 hp13 s0 s1 => ?_⟩
  obtain ⟨py13, hpy13⟩ := hp13.lst
  have hd13 := hd12.exB e13 hpy12
  walk_at "sx"
  have hsg : atI (PySem.Str.ofString "0123").cps.toList sg = some (ltr sg) := by
    rcases (by omega : sg = 0 ∨ sg = 1 ∨ sg = 2 ∨ sg = 3) with rfl | rfl | rfl | rfl <;> decide +kernel
  refine l_ixS (by decide +kernel) hsg ?_
  rw [wtx_one]
  walk_at "sx"
  refine ⟨p2, (kd.n : Nat) + 1, rfl, hp13, rfl, by omega, fun pi H14 e14 hp14 p0 p1 => ?_⟩
  have hd14 := hd13.exB e14 hpy13
  obtain ⟨j, rfl⟩ : ∃ i : Nat, pi = i := ⟨pi.toNat, by omega⟩
  clear e12 e13 e14 hd11 hd12 hd13 hp11 hp12 hp13 hp14 hpy11 hpy12 hpy13 py11 py12 py13
  have li := lostAt_len (w := w) (k := i) (by omega)
  have n60 := Knd.n60 ok
  have subL := lost_subl (w := w) (k := i) (by omega)
  walk_at "sx"
  refine ⟨d, kd, w, lostAt w i, lostAt w i, rfl, hd14, rfl, rfl, congrArg V.int (by rw [lcs_sub subL]; omega), rfl, hwne, by omega, f3, lostAt_sg f3, by omega, ⟨cands_lost f2 f3 (by omega), f1, fun u hu mu => cands_uniq ok (by omega) (lostAt_sg f3) hu (cands_lost f2 f3 (by omega)) mu f1⟩, fun r hr => (bst_sub subL hr).1, fun H15 e15 => ?_⟩
  have hd15 := hd14.mono e15
  walk_at "sx"
  refine ⟨d, kd, w, w, w, rfl, hd15, rfl, rfl, congrArg V.int (by rw [lcs_sub (List.Sublist.refl w)]; omega), rfl, hwne, by omega, f3, f3, by omega, ⟨cands_self f2, f1, fun u hu mu => cands_uniq ok (by omega) f3 hu (cands_self f2) mu f1⟩, fun r hr => (bst_sub (List.Sublist.refl w) hr).1, fun H16 e16 => ?_⟩
  have hd16 := hd15.mono e16
  walk_at "sx"
  refine l_slS (by rw [wtx_len]; omega) ?_
  walk_at "sx"
  rw [cut_wl]
  refine l_addS (by rw [wtx_len, wtx_len, List.length_take]; simp; omega) ?_
  walk_at "sx"
  refine l_slS (by rw [wtx_len]; omega) ?_
  rw [cut_wr, wtx_app]
  refine l_addS (by rw [wtx_len, wtx_len, List.length_drop, List.length_append, List.length_take]; simp; omega) ?_
  rw [wtx_app]
  have hP : w.take j ++ [sg] ++ w.drop j = putAt w j sg := rfl
  rw [hP]
  have lp := putAt_len (w := w) (k := j) (s := sg) (by omega)
  have subP : w.Sublist (putAt w j sg) := by
    have := lost_subl (w := putAt w j sg) (k := j) (by omega)
    rw [lost_put (by omega)] at this
    exact this
  walk_at "sx"
  refine ⟨d, kd, w, putAt w j sg, w, rfl, hd16, rfl, rfl, congrArg V.int (by rw [lcs_sup subP]; omega), rfl, hwne, by omega, f3, putAt_sg f3 ⟨s0, s1⟩, by omega, ⟨cands_put f2 (by omega), f1, fun u hu mu => cands_uniq ok (by omega) (putAt_sg f3 ⟨s0, s1⟩) hu (cands_put f2 (by omega)) mu f1⟩, fun r hr => (bst_sup subP hr).1, fun H17 e17 => ?_⟩
  have hd17 := hd16.mono e17
  clear hd14 hd15 hd16 e15 e16 e17
  walk_at "sx"
  refine q_cut (fun σ Hx => ∃ v13, σ = [some (.ref sa), some (.ref d), some (.ref p2), some (.int kd.sort), some (.int (kd.q : Nat)), some (.int (kd.n : Nat)), some (.int (N : Nat)), some (.int (k : Nat)), some (.str (wtx w)), some (.int (i : Nat)), some (.str (wtx (lostAt w i))), some (.str (wtx [sg])), some (.int (j : Nat)), v13] ∧ DeskV K Hx (.ref d) kd) ?_ ?_
  · walk_at "sx"
    refine ifd (fun c => ?_) (fun c => ?_)
    · obtain ⟨n', a', rfl⟩ : ∃ n a, kd = .strong n a := by
        cases kd with
        | plain n a => exact absurd (show (0 : Int) = 1 from c) (by decide)
        | strong n a => exact ⟨n, a, rfl⟩
        | many q n a b => exact absurd (show (2 : Int) = 1 from c) (by decide)
      have hb := sg_at f3 (k := i) (by omega)
      have hb2 : w.getD i 0 = 0 ∨ w.getD i 0 = 1 := by
        have : w.getD i 0 < ((2 : Nat) : Int) := hb.2
        omega
      have f2' : w.length = n' := f2
      have hiT : intText? (⟨#[ltr (w.getD i 0)]⟩ : Str) = some (w.getD i 0) := by
        rcases hb2 with z | z <;> rw [z] <;> decide +kernel
      have hoT : atI (PySem.Str.ofString "10").cps.toList (w.getD i 0) = some (ltr (1 - w.getD i 0)) := by
        rcases hb2 with z | z <;> rw [z] <;> decide +kernel
      have e5 : (Str.ofString "mend ").length = 5 := by decide +kernel
      walk_at "sx"
      refine l_slS (by rw [wtx_len]; omega) ?_
      walk_at "sx"
      refine l_ixS (by rw [wtx_len]; omega) (wtx_at (by omega)) ?_
      walk_at "sx"
      refine l_intT hiT (by show 1 ≤ 640; decide) ?_
      walk_at "sx"
      refine l_ixS (by decide +kernel) hoT ?_
      rw [cut_wl, wtx_one]
      refine l_addS (by rw [wtx_len, wtx_len, List.length_take]; simp; omega) ?_
      walk_at "sx"
      refine l_slS (by rw [wtx_len]; omega) ?_
      rw [show ((i : Nat) : Int) + 1 = ((i + 1 : Nat) : Int) by omega, cut_wr, wtx_app]
      refine l_addS (by rw [wtx_len, wtx_len, List.length_drop, List.length_append, List.length_take]; simp; omega) ?_
      rw [wtx_app]
      have hC : w.take i ++ [1 - w.getD i 0] ++ w.drop (i + 1) = chgAt w i (1 - w.getD i 0) := rfl
      rw [hC]
      have lch := chgAt_len (w := w) (k := i) (s := 1 - w.getD i 0) (by omega)
      have sch : Sg (2 : Nat) (chgAt w i (1 - w.getD i 0)) := chgAt_sg f3 (by omega)
      have hcne : chgAt w i (1 - w.getD i 0) ≠ [] := fun z => by rw [z] at lch; simp at lch; omega
      have hcD : wtxD (chgAt w i (1 - w.getD i 0)) = wtx (chgAt w i (1 - w.getD i 0)) := by unfold wtxD; rw [if_neg hcne]
      have hcb : (chgAt w i (1 - w.getD i 0)).length ≤ (Knd.strong n' a').n + 1 ∧ (Knd.strong n' a').n ≤ (chgAt w i (1 - w.getD i 0)).length + 1 := by
        show _ ≤ n' + 1 ∧ n' ≤ _ + 1
        omega
      have hcm : w ∈ (Knd.strong n' a').cands (chgAt w i (1 - w.getD i 0)) := cands_chg f2' f3 (by omega)
      walk_at "sx"
      obtain ⟨pv17, hi17, _, _⟩ := id hd17
      obtain ⟨d17', dx17', e, hD17⟩ := hi17.at_ T.nx_Desk
      cases e
      refine l_meth hD17 rfl ?_
      walk_at "sx"
      refine l_addS (by rw [wtx_len]; omega) ?_
      walk_at "sx"
      refine ⟨d, .strong n' a', _, rfl, hd17, congrArg V.str (show (Str.ofString "mend ") ++ wtx (chgAt w i (1 - w.getD i 0)) = Txt.join " " [("mend" : Str), wtxD (chgAt w i (1 - w.getD i 0))] by rw [hcD]; exact row_two (by decide +kernel)), .inl (.inr (.inr (.inr (.inl ⟨_, rfl, by omega, sch, hcb, fun t H18 e18 ht => ?_⟩))))⟩
      walk_at "sx"
      have ht2 : t = wtx w := by
        rcases ht with ⟨u, hu, hh, rfl⟩ | ⟨_, hn0⟩
        · rw [cands_uniq ok hcb sch hu hcm hh f1, hwD]
        · have := hn0 w hcm
          rw [f1] at this
          cases this
      subst ht2
      refine l_neS ?_
      rw [decide_eq_true rfl]
      walk_at "sx"
      exact ⟨_, rfl, hd17.mono e18⟩
    · walk_at "sx"
      exact ⟨_, rfl, hd17⟩
  rintro σ H18 ⟨v13, rfl, hd18⟩
  walk_at "sx"
  refine ⟨lostAt w i, rfl, ?_⟩
  walk_at "sx"
  obtain ⟨pv18, hi18, _, _⟩ := id hd18
  obtain ⟨d18', dx18', e, hD18⟩ := hi18.at_ T.nx_Desk
  cases e
  refine l_meth hD18 rfl ?_
  have er : (Str.ofString "ring ").length = 5 := by decide +kernel
  walk_at "sx"
  refine l_addS (by rw [wtx_len]; omega) ?_
  walk_at "sx"
  refine ⟨d, kd, _, rfl, hd18, congrArg V.str (show (Str.ofString "ring ") ++ wtx w = Txt.join " " [("ring" : Str), wtxD w] by rw [hwD]; exact row_two (by decide +kernel)), .inl (.inr (.inr (.inr (.inr (.inr ⟨w, rfl, by omega, f3, fun us H19 e19 hR => ?_⟩)))))⟩
  have hmem : lostAt w i ∈ us := (hR.1 _).mpr (mem_losts.mpr ⟨i, by omega, rfl⟩)
  have hne : us ≠ [] := fun z => by rw [z] at hmem; cases hmem
  have hrt : ringTx us = Txt.join " " (us.map wtxD) := by unfold ringTx; rw [if_neg hne]
  rw [hrt]
  have hus : ∀ u ∈ us, u.length ≤ 60 ∧ Sg (kd.q : Nat) u := fun u hu => by
    have := losts_wb f3 u (hR.1 u |>.mp hu)
    exact ⟨by omega, this.2⟩
  have hlen : us.length ≤ 60 := by
    have h5 := nodup_len_le (rise_nodup hR.2) fun x hx => (hR.1 x).mp hx
    unfold losts at h5
    rw [List.length_map, List.length_range] at h5
    omega
  have hsp : Txt.split (Txt.join " " (us.map wtxD)) " " = us.map wtxD := TL.split_join (s := 32) (S := []) (by decide +kernel) (by decide +kernel) (fun z => hne (List.map_eq_nil_iff.mp z)) fun y hy => by
    obtain ⟨u, hu, rfl⟩ := List.mem_map.mp hy
    exact wtxD_free (hus u hu).2 (by omega)
  have hz : (Txt.join " " (us.map wtxD)).length ≤ 90000 := by
    have h1 := join_len " " (us.map wtxD)
    have h2 := sum_b (ys := us.map wtxD) (c := 61) fun y hy => by
      obtain ⟨u, hu, rfl⟩ := List.mem_map.mp hy
      have := wtxD_len3 u
      have := (hus u hu).1
      omega
    have e1 : (Str.ofString " ").length = 1 := by decide +kernel
    rw [e1, List.length_map] at h1
    rw [List.length_map] at h2
    omega
  walk_at "sx"
  refine l_split hsp (by decide +kernel) hz fun l H20 hn20 e20 h20 => ?_
  walk_at "sx"
  refine .inr ⟨l, _, rfl, .inl (SqL.of h20), rfl, flat_texts _, ?_⟩
  refine ⟨_, rfl, ?_⟩
  have hin : inV (.str (wtxD (lostAt w i))) ((us.map wtxD).map V.str) = true := in_texts (List.mem_map_of_mem hmem)
  refine ifb (fun _ => ?_) (fun c => Bool.noConfusion ((show inV (.str (wtxD (lostAt w i))) ((us.map wtxD).map V.str) = false from c).symm.trans hin))
  walk_at "sx"
  have hd20 := hd18.mono (e19.trans e20)
  obtain ⟨pv20, hi20, _, _⟩ := id hd20
  obtain ⟨d20', dx20', e, hD20⟩ := hi20.at_ T.nx_Desk
  cases e
  refine l_meth hD20 rfl ?_
  walk_at "sx"
  refine l_strI (cnt_log (by omega) (by omega)) ?_
  walk_at "sx"
  refine l_addS (by omega) ?_
  walk_at "sx"
  refine ⟨d, kd, _, rfl, hd20, congrArg V.str (row_two (w := "word") (by decide +kernel)), .inl (.inr (.inl ⟨k, rfl, by omega, fun w' H21 e21 _ hm' => ?_⟩))⟩
  rw [mem_fun hm hm', hwD]
  walk_at "sx"
  refine l_eqS ?_
  rw [decide_eq_true rfl]
  exact kk _
end
section
variable {P : Program} {w : World} {K : PySem.W.Frag} {mg : Str → Option Value} {base : Heap}
theorem all_ok (T : Txt K mg w) : FnOk P w K mg base CX0 11 T.a_law T.fd_law ["_law_script"] (sp_law K) := by
  have o_is_number := ok_is_number (P := P) (w := w) (base := base) T
  have o_is_sign := ok_is_sign (P := P) (w := w) (base := base) T o_is_number
  have o_want_count := ok_want_count (P := P) (w := w) (base := base) T o_is_number
  have o_want_word := ok_want_word (P := P) (w := w) (base := base) T o_is_sign o_want_count
  have o_show_word := ok_show_word (P := P) (w := w) (base := base) T o_want_word
  have o_shown := ok_shown (P := P) (w := w) (base := base) T o_show_word
  have o_lost_ring := ok_lost_ring (P := P) (w := w) (base := base) T o_want_word
  have o_read_word := ok_read_word (P := P) (w := w) (base := base) T o_want_count
  have o_word_read := ok_word_read (P := P) (w := w) (base := base) T o_read_word
  have o_ManyList_signs := ok_ManyList_signs (P := P) (w := w) (base := base) T
  have o_Desk_signs := ok_Desk_signs (P := P) (w := w) (base := base) T o_ManyList_signs
  have o_Desk_ring := ok_Desk_ring (P := P) (w := w) (base := base) T o_shown o_lost_ring o_word_read o_Desk_signs
  have o_first_sign := ok_first_sign (P := P) (w := w) (base := base) T
  have o_lengths_from := ok_lengths_from (P := P) (w := w) (base := base) T
  have o_common_row := ok_common_row (P := P) (w := w) (base := base) T o_first_sign o_lengths_from o_want_word
  have o_nearness := ok_nearness (P := P) (w := w) (base := base) T o_common_row
  have o_Desk_near := ok_Desk_near (P := P) (w := w) (base := base) T o_shown o_common_row o_nearness o_word_read
  have o_ManyList_length := ok_ManyList_length (P := P) (w := w) (base := base) T
  have o_put_ring := ok_put_ring (P := P) (w := w) (base := base) T o_want_word
  have o_words_ahead_of := ok_words_ahead_of (P := P) (w := w) (base := base) T o_lost_ring o_ManyList_signs o_ManyList_length o_put_ring
  have o_weighted := ok_weighted (P := P) (w := w) (base := base) T o_want_word
  have o_shape := ok_shape (P := P) (w := w) (base := base) T o_want_word
  have o_ManyList_has := ok_ManyList_has (P := P) (w := w) (base := base) T o_weighted o_shape o_want_word
  have o_many_mended := ok_many_mended (P := P) (w := w) (base := base) T o_words_ahead_of o_ManyList_has o_ManyList_length o_want_word o_ManyList_signs
  have o_changed_ring := ok_changed_ring (P := P) (w := w) (base := base) T o_want_word
  have o_ring_before := ok_ring_before (P := P) (w := w) (base := base) T o_lost_ring o_put_ring o_changed_ring
  have o_StrongList_length := ok_StrongList_length (P := P) (w := w) (base := base) T
  have o_StrongList_has := ok_StrongList_has (P := P) (w := w) (base := base) T o_weighted o_want_word
  have o_strong_mended := ok_strong_mended (P := P) (w := w) (base := base) T o_ring_before o_StrongList_length o_StrongList_has o_want_word
  have o_words_ahead := ok_words_ahead (P := P) (w := w) (base := base) T o_lost_ring o_put_ring
  have o_PlainList_length := ok_PlainList_length (P := P) (w := w) (base := base) T
  have o_PlainList_has := ok_PlainList_has (P := P) (w := w) (base := base) T o_weighted o_want_word
  have o_mended := ok_mended (P := P) (w := w) (base := base) T o_words_ahead o_PlainList_length o_PlainList_has o_want_word
  have o_Desk_sent := ok_Desk_sent (P := P) (w := w) (base := base) T o_many_mended o_strong_mended o_mended
  have o_Desk_mend := ok_Desk_mend (P := P) (w := w) (base := base) T o_shown o_Desk_sent o_word_read o_Desk_signs
  have o_Walk_left_by := ok_Walk_left_by (P := P) (w := w) (base := base) T
  have o_Walk_go := ok_Walk_go (P := P) (w := w) (base := base) T o_Walk_left_by
  have o_code_of := ok_code_of (P := P) (w := w) (base := base) T
  have o_Walk_ways := ok_Walk_ways (P := P) (w := w) (base := base) T o_code_of o_Walk_left_by
  have o_Walk_ways_below := ok_Walk_ways_below (P := P) (w := w) (base := base) T o_Walk_ways
  have o_ways_behind := ok_ways_behind (P := P) (w := w) (base := base) T o_code_of
  have o_tables_of := ok_tables_of (P := P) (w := w) (base := base) T o_ways_behind
  have o_ManyList_rests := ok_ManyList_rests (P := P) (w := w) (base := base) T
  have o_Walk_init := ok_Walk_init (P := P) (w := w) (base := base) T o_tables_of o_ManyList_rests o_ManyList_length o_ManyList_signs
  have o_many_number := ok_many_number (P := P) (w := w) (base := base) T o_Walk_go o_Walk_ways_below o_Walk_init o_ManyList_has
  have o_StrongList_rest := ok_StrongList_rest (P := P) (w := w) (base := base) T
  have o_tails := ok_tails (P := P) (w := w) (base := base) T
  have o_strong_number := ok_strong_number (P := P) (w := w) (base := base) T o_StrongList_rest o_tails o_StrongList_length o_StrongList_has
  have o_PlainList_rest := ok_PlainList_rest (P := P) (w := w) (base := base) T
  have o_rows_behind := ok_rows_behind (P := P) (w := w) (base := base) T
  have o_number_of := ok_number_of (P := P) (w := w) (base := base) T o_PlainList_rest o_rows_behind o_PlainList_length o_PlainList_has
  have o_Desk_number_at := ok_Desk_number_at (P := P) (w := w) (base := base) T o_many_number o_strong_number o_number_of
  have o_many_member := ok_many_member (P := P) (w := w) (base := base) T o_ManyList_length o_Walk_go o_Walk_ways_below o_ManyList_signs o_is_number o_Walk_init
  have o_strong_member := ok_strong_member (P := P) (w := w) (base := base) T o_StrongList_length o_is_number o_StrongList_rest o_tails
  have o_member := ok_member (P := P) (w := w) (base := base) T o_PlainList_length o_is_number o_PlainList_rest o_rows_behind
  have o_Desk_member_at := ok_Desk_member_at (P := P) (w := w) (base := base) T o_many_member o_strong_member o_member
  have o_how_many_many := ok_how_many_many (P := P) (w := w) (base := base) T o_Walk_ways_below o_Walk_init o_ManyList_signs
  have o_how_many_strong := ok_how_many_strong (P := P) (w := w) (base := base) T o_tails o_StrongList_length o_StrongList_rest
  have o_how_many := ok_how_many (P := P) (w := w) (base := base) T o_rows_behind o_PlainList_length o_PlainList_rest
  have o_Desk_many_members := ok_Desk_many_members (P := P) (w := w) (base := base) T o_how_many_many o_how_many_strong o_how_many
  have o_want_length := ok_want_length (P := P) (w := w) (base := base) T o_is_number
  have o_PlainList_init := ok_PlainList_init (P := P) (w := w) (base := base) T o_is_number o_want_length
  have o_StrongList_init := ok_StrongList_init (P := P) (w := w) (base := base) T o_is_number
  have o_want_rest := ok_want_rest (P := P) (w := w) (base := base) T o_is_number
  have o_ManyList_init := ok_ManyList_init (P := P) (w := w) (base := base) T o_want_rest o_is_number
  have o_Desk_keep := ok_Desk_keep (P := P) (w := w) (base := base) T o_PlainList_init o_StrongList_init o_ManyList_init
  have o_is_figures := ok_is_figures (P := P) (w := w) (base := base) T
  have o_parts_of := ok_parts_of (P := P) (w := w) (base := base) T o_is_figures
  have o_Desk_say := ok_Desk_say (P := P) (w := w) (base := base) T o_Desk_ring o_Desk_near o_Desk_mend o_Desk_number_at o_word_read o_Desk_signs o_shown o_Desk_member_at o_Desk_many_members o_Desk_keep o_parts_of
  have o_L_dashed := ok_L_dashed (P := P) (w := w) (base := base) T
  have o_L_mends := ok_L_mends (P := P) (w := w) (base := base) T o_Desk_say o_L_dashed
  have o_L_digit := ok_L_digit (P := P) (w := w) (base := base) T
  have o_L_at := ok_L_at (P := P) (w := w) (base := base) T
  have o_L_pot := ok_L_pot (P := P) (w := w) (base := base) T o_L_at
  have o_L_kept := ok_L_kept (P := P) (w := w) (base := base) T o_Desk_say o_L_digit
  have o_Desk_init := ok_Desk_init (P := P) (w := w) (base := base) T o_PlainList_init
  exact ok_law T o_Desk_say o_L_dashed o_L_mends o_L_digit o_show_word o_read_word o_L_pot o_L_kept o_Desk_init
end
theorem all_mk {l : PySem.W.OpenLaw} {w : World} {K : PySem.W.Frag} {h : Heap} {mg : Str → Option Value} {fa : Addr} (X : K.In h) (G : h.Ns mainGlobals mg) (hfa : mg "law" = some (.ref fa))
    {C_Desk : Addr} {C_StrongList : Addr} {C_PlainList : Addr} {C_Walk : Addr} {C_ManyList : Addr} {f0 : Addr} {od0 an0 : Option Addr} {sl0 : Array (Option Value)} {oc0 kV0 dc0 pm0 cd0 ct0 : Value} {f1 : Addr} {od1 an1 : Option Addr} {sl1 : Array (Option Value)} {oc1 kV1 dc1 pm1 cd1 ct1 : Value} {f2 : Addr} {od2 an2 : Option Addr} {sl2 : Array (Option Value)} {oc2 kV2 dc2 pm2 cd2 ct2 : Value} {f3 : Addr} {od3 an3 : Option Addr} {sl3 : Array (Option Value)} {oc3 kV3 dc3 pm3 cd3 ct3 : Value} {f4 : Addr} {od4 an4 : Option Addr} {sl4 : Array (Option Value)} {oc4 kV4 dc4 pm4 cd4 ct4 : Value} {f5 : Addr} {od5 an5 : Option Addr} {sl5 : Array (Option Value)} {oc5 kV5 dc5 pm5 cd5 ct5 : Value} {f6 : Addr} {od6 an6 : Option Addr} {sl6 : Array (Option Value)} {oc6 kV6 dc6 pm6 cd6 ct6 : Value} {f7 : Addr} {od7 an7 : Option Addr} {sl7 : Array (Option Value)} {oc7 kV7 dc7 pm7 cd7 ct7 : Value} {f8 : Addr} {od8 an8 : Option Addr} {sl8 : Array (Option Value)} {oc8 kV8 dc8 pm8 cd8 ct8 : Value} {f9 : Addr} {od9 an9 : Option Addr} {sl9 : Array (Option Value)} {oc9 kV9 dc9 pm9 cd9 ct9 : Value} {f10 : Addr} {od10 an10 : Option Addr} {sl10 : Array (Option Value)} {oc10 kV10 dc10 pm10 cd10 ct10 : Value} {f11 : Addr} {od11 an11 : Option Addr} {sl11 : Array (Option Value)} {oc11 kV11 dc11 pm11 cd11 ct11 : Value} {f12 : Addr} {od12 an12 : Option Addr} {sl12 : Array (Option Value)} {oc12 kV12 dc12 pm12 cd12 ct12 : Value} {f13 : Addr} {od13 an13 : Option Addr} {sl13 : Array (Option Value)} {oc13 kV13 dc13 pm13 cd13 ct13 : Value} {f14 : Addr} {od14 an14 : Option Addr} {sl14 : Array (Option Value)} {oc14 kV14 dc14 pm14 cd14 ct14 : Value} {f15 : Addr} {od15 an15 : Option Addr} {sl15 : Array (Option Value)} {oc15 kV15 dc15 pm15 cd15 ct15 : Value} {f16 : Addr} {od16 an16 : Option Addr} {sl16 : Array (Option Value)} {oc16 kV16 dc16 pm16 cd16 ct16 : Value} {f17 : Addr} {od17 an17 : Option Addr} {sl17 : Array (Option Value)} {oc17 kV17 dc17 pm17 cd17 ct17 : Value} {f18 : Addr} {od18 an18 : Option Addr} {sl18 : Array (Option Value)} {oc18 kV18 dc18 pm18 cd18 ct18 : Value} {f19 : Addr} {od19 an19 : Option Addr} {sl19 : Array (Option Value)} {oc19 kV19 dc19 pm19 cd19 ct19 : Value} {f20 : Addr} {od20 an20 : Option Addr} {sl20 : Array (Option Value)} {oc20 kV20 dc20 pm20 cd20 ct20 : Value} {f21 : Addr} {od21 an21 : Option Addr} {sl21 : Array (Option Value)} {oc21 kV21 dc21 pm21 cd21 ct21 : Value} {f22 : Addr} {od22 an22 : Option Addr} {sl22 : Array (Option Value)} {oc22 kV22 dc22 pm22 cd22 ct22 : Value} {f23 : Addr} {od23 an23 : Option Addr} {sl23 : Array (Option Value)} {oc23 kV23 dc23 pm23 cd23 ct23 : Value} {f24 : Addr} {od24 an24 : Option Addr} {sl24 : Array (Option Value)} {oc24 kV24 dc24 pm24 cd24 ct24 : Value} {f25 : Addr} {od25 an25 : Option Addr} {sl25 : Array (Option Value)} {oc25 kV25 dc25 pm25 cd25 ct25 : Value} {f26 : Addr} {od26 an26 : Option Addr} {sl26 : Array (Option Value)} {oc26 kV26 dc26 pm26 cd26 ct26 : Value} {f27 : Addr} {od27 an27 : Option Addr} {sl27 : Array (Option Value)} {oc27 kV27 dc27 pm27 cd27 ct27 : Value} {f28 : Addr} {od28 an28 : Option Addr} {sl28 : Array (Option Value)} {oc28 kV28 dc28 pm28 cd28 ct28 : Value} {f29 : Addr} {od29 an29 : Option Addr} {sl29 : Array (Option Value)} {oc29 kV29 dc29 pm29 cd29 ct29 : Value} {f30 : Addr} {od30 an30 : Option Addr} {sl30 : Array (Option Value)} {oc30 kV30 dc30 pm30 cd30 ct30 : Value} {f31 : Addr} {od31 an31 : Option Addr} {sl31 : Array (Option Value)} {oc31 kV31 dc31 pm31 cd31 ct31 : Value} {f32 : Addr} {od32 an32 : Option Addr} {sl32 : Array (Option Value)} {oc32 kV32 dc32 pm32 cd32 ct32 : Value} {f33 : Addr} {od33 an33 : Option Addr} {sl33 : Array (Option Value)} {oc33 kV33 dc33 pm33 cd33 ct33 : Value} {f34 : Addr} {od34 an34 : Option Addr} {sl34 : Array (Option Value)} {oc34 kV34 dc34 pm34 cd34 ct34 : Value} {f35 : Addr} {od35 an35 : Option Addr} {sl35 : Array (Option Value)} {oc35 kV35 dc35 pm35 cd35 ct35 : Value} {f36 : Addr} {od36 an36 : Option Addr} {sl36 : Array (Option Value)} {oc36 kV36 dc36 pm36 cd36 ct36 : Value} {f37 : Addr} {od37 an37 : Option Addr} {sl37 : Array (Option Value)} {oc37 kV37 dc37 pm37 cd37 ct37 : Value} {f38 : Addr} {od38 an38 : Option Addr} {sl38 : Array (Option Value)} {oc38 kV38 dc38 pm38 cd38 ct38 : Value} {f39 : Addr} {od39 an39 : Option Addr} {sl39 : Array (Option Value)} {oc39 kV39 dc39 pm39 cd39 ct39 : Value} {f40 : Addr} {od40 an40 : Option Addr} {sl40 : Array (Option Value)} {oc40 kV40 dc40 pm40 cd40 ct40 : Value} {f41 : Addr} {od41 an41 : Option Addr} {sl41 : Array (Option Value)} {oc41 kV41 dc41 pm41 cd41 ct41 : Value} {f42 : Addr} {od42 an42 : Option Addr} {sl42 : Array (Option Value)} {oc42 kV42 dc42 pm42 cd42 ct42 : Value} {f43 : Addr} {od43 an43 : Option Addr} {sl43 : Array (Option Value)} {oc43 kV43 dc43 pm43 cd43 ct43 : Value} {f44 : Addr} {od44 an44 : Option Addr} {sl44 : Array (Option Value)} {oc44 kV44 dc44 pm44 cd44 ct44 : Value} {f45 : Addr} {od45 an45 : Option Addr} {sl45 : Array (Option Value)} {oc45 kV45 dc45 pm45 cd45 ct45 : Value} {f46 : Addr} {od46 an46 : Option Addr} {sl46 : Array (Option Value)} {oc46 kV46 dc46 pm46 cd46 ct46 : Value} {f47 : Addr} {od47 an47 : Option Addr} {sl47 : Array (Option Value)} {oc47 kV47 dc47 pm47 cd47 ct47 : Value} {f48 : Addr} {od48 an48 : Option Addr} {sl48 : Array (Option Value)} {oc48 kV48 dc48 pm48 cd48 ct48 : Value} {f49 : Addr} {od49 an49 : Option Addr} {sl49 : Array (Option Value)} {oc49 kV49 dc49 pm49 cd49 ct49 : Value} {f50 : Addr} {od50 an50 : Option Addr} {sl50 : Array (Option Value)} {oc50 kV50 dc50 pm50 cd50 ct50 : Value} {f51 : Addr} {od51 an51 : Option Addr} {sl51 : Array (Option Value)} {oc51 kV51 dc51 pm51 cd51 ct51 : Value} {f52 : Addr} {od52 an52 : Option Addr} {sl52 : Array (Option Value)} {oc52 kV52 dc52 pm52 cd52 ct52 : Value} {f53 : Addr} {od53 an53 : Option Addr} {sl53 : Array (Option Value)} {oc53 kV53 dc53 pm53 cd53 ct53 : Value} {f54 : Addr} {od54 an54 : Option Addr} {sl54 : Array (Option Value)} {oc54 kV54 dc54 pm54 cd54 ct54 : Value} {f55 : Addr} {od55 an55 : Option Addr} {sl55 : Array (Option Value)} {oc55 kV55 dc55 pm55 cd55 ct55 : Value} {f56 : Addr} {od56 an56 : Option Addr} {sl56 : Array (Option Value)} {oc56 kV56 dc56 pm56 cd56 ct56 : Value} {f57 : Addr} {od57 an57 : Option Addr} {sl57 : Array (Option Value)} {oc57 kV57 dc57 pm57 cd57 ct57 : Value} {f58 : Addr} {od58 an58 : Option Addr} {sl58 : Array (Option Value)} {oc58 kV58 dc58 pm58 cd58 ct58 : Value} {f59 : Addr} {od59 an59 : Option Addr} {sl59 : Array (Option Value)} {oc59 kV59 dc59 pm59 cd59 ct59 : Value} {f60 : Addr} {od60 an60 : Option Addr} {sl60 : Array (Option Value)} {oc60 kV60 dc60 pm60 cd60 ct60 : Value} {f61 : Addr} {od61 an61 : Option Addr} {sl61 : Array (Option Value)} {oc61 kV61 dc61 pm61 cd61 ct61 : Value} {f62 : Addr} {od62 an62 : Option Addr} {sl62 : Array (Option Value)} {oc62 kV62 dc62 pm62 cd62 ct62 : Value} {f63 : Addr} {od63 an63 : Option Addr} {sl63 : Array (Option Value)} {oc63 kV63 dc63 pm63 cd63 ct63 : Value} {f64 : Addr} {od64 an64 : Option Addr} {sl64 : Array (Option Value)} {oc64 kV64 dc64 pm64 cd64 ct64 : Value} {f65 : Addr} {od65 an65 : Option Addr} {sl65 : Array (Option Value)} {oc65 kV65 dc65 pm65 cd65 ct65 : Value} {f66 : Addr} {od66 an66 : Option Addr} {sl66 : Array (Option Value)} {oc66 kV66 dc66 pm66 cd66 ct66 : Value} {f67 : Addr} {od67 an67 : Option Addr} {sl67 : Array (Option Value)} {oc67 kV67 dc67 pm67 cd67 ct67 : Value} {f68 : Addr} {od68 an68 : Option Addr} {sl68 : Array (Option Value)} {oc68 kV68 dc68 pm68 cd68 ct68 : Value} {f69 : Addr} {od69 an69 : Option Addr} {sl69 : Array (Option Value)} {oc69 kV69 dc69 pm69 cd69 ct69 : Value} {f70 : Addr} {od70 an70 : Option Addr} {sl70 : Array (Option Value)} {oc70 kV70 dc70 pm70 cd70 ct70 : Value} {f71 : Addr} {od71 an71 : Option Addr} {sl71 : Array (Option Value)} {oc71 kV71 dc71 pm71 cd71 ct71 : Value} {f72 : Addr} {od72 an72 : Option Addr} {sl72 : Array (Option Value)} {oc72 kV72 dc72 pm72 cd72 ct72 : Value} {f73 : Addr} {od73 an73 : Option Addr} {sl73 : Array (Option Value)} {oc73 kV73 dc73 pm73 cd73 ct73 : Value} {f74 : Addr} {od74 an74 : Option Addr} {sl74 : Array (Option Value)} {oc74 kV74 dc74 pm74 cd74 ct74 : Value} {f75 : Addr} {od75 an75 : Option Addr} {sl75 : Array (Option Value)} {oc75 kV75 dc75 pm75 cd75 ct75 : Value} {f76 : Addr} {od76 an76 : Option Addr} {sl76 : Array (Option Value)} {oc76 kV76 dc76 pm76 cd76 ct76 : Value} {t_EMPTY : Tok} {t_FIGURES : Tok} {t_LEAST_MANY : Tok} {t_LEAST_SIGNS : Tok} {t_MOST_FIGURES : Tok} {t_MOST_LENGTH : Tok} {t_MOST_MANY : Tok} {t_MOST_MANY_SIGNS : Tok} {t_MOST_SIGNS : Tok} {t_MOST_STRONG : Tok} {t_ROWS : Addr} {e_ROWS : Array DictEntry} {n_ROWS : Nat} {t_SIGNS : Tok}
    (gx_ManyList : PySem.W.nsIn K mainGlobals "ManyList" = some (some (.ref C_ManyList))) (pg_ManyList : PySem.W.plainGet K C_ManyList Str.empty = true) (hd_ManyList : PySem.W.hasDictIn K C_ManyList = true) (po_ManyList : PySem.W.plainOver K C_ManyList = true) (sa_ManyList : PySem.W.findIn K (.ref C_ManyList) "__setattr__" = some (some (.builtin "object.__setattr__"))) (mk_ManyList : PySem.W.makesIn K C_ManyList = true) (kc_ManyList : PySem.W.keepIn K (.ref C_ManyList) = true) (na_ManyList_many_signs : PySem.W.findIn K (.ref C_ManyList) "many_signs" = some none) (na_ManyList_many : PySem.W.findIn K (.ref C_ManyList) "many" = some none) (na_ManyList_both_left : PySem.W.findIn K (.ref C_ManyList) "both_left" = some none)
    (gx_Walk : PySem.W.nsIn K mainGlobals "Walk" = some (some (.ref C_Walk))) (pg_Walk : PySem.W.plainGet K C_Walk Str.empty = true) (hd_Walk : PySem.W.hasDictIn K C_Walk = true) (po_Walk : PySem.W.plainOver K C_Walk = true) (sa_Walk : PySem.W.findIn K (.ref C_Walk) "__setattr__" = some (some (.builtin "object.__setattr__"))) (mk_Walk : PySem.W.makesIn K C_Walk = true) (kc_Walk : PySem.W.keepIn K (.ref C_Walk) = true) (na_Walk_q : PySem.W.findIn K (.ref C_Walk) "q" = some none) (na_Walk_n : PySem.W.findIn K (.ref C_Walk) "n" = some none) (na_Walk_tables : PySem.W.findIn K (.ref C_Walk) "tables" = some none) (na_Walk_place : PySem.W.findIn K (.ref C_Walk) "place" = some none) (na_Walk_ahead : PySem.W.findIn K (.ref C_Walk) "ahead" = some none) (na_Walk_shape_left : PySem.W.findIn K (.ref C_Walk) "shape_left" = some none) (na_Walk_sum_left : PySem.W.findIn K (.ref C_Walk) "sum_left" = some none)
    (gx_PlainList : PySem.W.nsIn K mainGlobals "PlainList" = some (some (.ref C_PlainList))) (pg_PlainList : PySem.W.plainGet K C_PlainList Str.empty = true) (hd_PlainList : PySem.W.hasDictIn K C_PlainList = true) (po_PlainList : PySem.W.plainOver K C_PlainList = true) (sa_PlainList : PySem.W.findIn K (.ref C_PlainList) "__setattr__" = some (some (.builtin "object.__setattr__"))) (mk_PlainList : PySem.W.makesIn K C_PlainList = true) (kc_PlainList : PySem.W.keepIn K (.ref C_PlainList) = true) (na_PlainList_many : PySem.W.findIn K (.ref C_PlainList) "many" = some none) (na_PlainList_left : PySem.W.findIn K (.ref C_PlainList) "left" = some none)
    (gx_StrongList : PySem.W.nsIn K mainGlobals "StrongList" = some (some (.ref C_StrongList))) (pg_StrongList : PySem.W.plainGet K C_StrongList Str.empty = true) (hd_StrongList : PySem.W.hasDictIn K C_StrongList = true) (po_StrongList : PySem.W.plainOver K C_StrongList = true) (sa_StrongList : PySem.W.findIn K (.ref C_StrongList) "__setattr__" = some (some (.builtin "object.__setattr__"))) (mk_StrongList : PySem.W.makesIn K C_StrongList = true) (kc_StrongList : PySem.W.keepIn K (.ref C_StrongList) = true) (na_StrongList_many : PySem.W.findIn K (.ref C_StrongList) "many" = some none) (na_StrongList_left : PySem.W.findIn K (.ref C_StrongList) "left" = some none)
    (gx_Desk : PySem.W.nsIn K mainGlobals "Desk" = some (some (.ref C_Desk))) (pg_Desk : PySem.W.plainGet K C_Desk Str.empty = true) (hd_Desk : PySem.W.hasDictIn K C_Desk = true) (po_Desk : PySem.W.plainOver K C_Desk = true) (sa_Desk : PySem.W.findIn K (.ref C_Desk) "__setattr__" = some (some (.builtin "object.__setattr__"))) (mk_Desk : PySem.W.makesIn K C_Desk = true) (kc_Desk : PySem.W.keepIn K (.ref C_Desk) = true) (na_Desk_kept : PySem.W.findIn K (.ref C_Desk) "kept" = some none)
    (xn0 : PySem.W.specialIn K (.builtin "object.__class__") "__get__" = some (some (.builtin "getset_descriptor.__get__"))) (xt0 : PySem.W.takesIn K (.builtin "object.__class__") = some true)
    (ia_ManyList : PySem.W.findIn K (.ref C_ManyList) "__class__" = some (some (.builtin "object.__class__"))) (im_ManyList : PySem.W.mroIn K C_ManyList (.type "object") = some true) (it_ManyList : PySem.W.typeIn K (.ref C_ManyList) = some (.type "type")) (ii_ManyList : PySem.W.isClsIn K C_ManyList = true) (io_ManyList_ManyList : PySem.W.subIn K (.ref C_ManyList) (.ref C_ManyList) = some true) (io_ManyList_PlainList : PySem.W.subIn K (.ref C_ManyList) (.ref C_PlainList) = some false) (io_ManyList_StrongList : PySem.W.subIn K (.ref C_ManyList) (.ref C_StrongList) = some false)
    (ia_PlainList : PySem.W.findIn K (.ref C_PlainList) "__class__" = some (some (.builtin "object.__class__"))) (im_PlainList : PySem.W.mroIn K C_PlainList (.type "object") = some true) (it_PlainList : PySem.W.typeIn K (.ref C_PlainList) = some (.type "type")) (ii_PlainList : PySem.W.isClsIn K C_PlainList = true) (io_PlainList_ManyList : PySem.W.subIn K (.ref C_PlainList) (.ref C_ManyList) = some false) (io_PlainList_PlainList : PySem.W.subIn K (.ref C_PlainList) (.ref C_PlainList) = some true) (io_PlainList_StrongList : PySem.W.subIn K (.ref C_PlainList) (.ref C_StrongList) = some false)
    (ia_StrongList : PySem.W.findIn K (.ref C_StrongList) "__class__" = some (some (.builtin "object.__class__"))) (im_StrongList : PySem.W.mroIn K C_StrongList (.type "object") = some true) (it_StrongList : PySem.W.typeIn K (.ref C_StrongList) = some (.type "type")) (ii_StrongList : PySem.W.isClsIn K C_StrongList = true) (io_StrongList_ManyList : PySem.W.subIn K (.ref C_StrongList) (.ref C_ManyList) = some false) (io_StrongList_PlainList : PySem.W.subIn K (.ref C_StrongList) (.ref C_PlainList) = some false) (io_StrongList_StrongList : PySem.W.subIn K (.ref C_StrongList) (.ref C_StrongList) = some true)
    (a0 : PySem.W.nsIn K mainGlobals "is_number" = some (some (.ref f0))) (l0 : K.lookup f0 = some ⟨oc0, od0, .func (PySem.W.fnOf "is_number" "is_number" (defArgs S_is_number) (defBody S_is_number) (defScope S_is_number) .none kV0 dc0 pm0 an0 cd0 ct0), sl0⟩) (c0 : PySem.W.codeIn K cd0 "is_number" = true) (k0 : PySem.W.keepIn K (.ref f0) = true)
    (a1 : PySem.W.nsIn K mainGlobals "want_count" = some (some (.ref f1))) (l1 : K.lookup f1 = some ⟨oc1, od1, .func (PySem.W.fnOf "want_count" "want_count" (defArgs S_want_count) (defBody S_want_count) (defScope S_want_count) .none kV1 dc1 pm1 an1 cd1 ct1), sl1⟩) (c1 : PySem.W.codeIn K cd1 "want_count" = true) (k1 : PySem.W.keepIn K (.ref f1) = true)
    (a2 : PySem.W.nsIn K mainGlobals "is_sign" = some (some (.ref f2))) (l2 : K.lookup f2 = some ⟨oc2, od2, .func (PySem.W.fnOf "is_sign" "is_sign" (defArgs S_is_sign) (defBody S_is_sign) (defScope S_is_sign) .none kV2 dc2 pm2 an2 cd2 ct2), sl2⟩) (c2 : PySem.W.codeIn K cd2 "is_sign" = true) (k2 : PySem.W.keepIn K (.ref f2) = true)
    (a3 : PySem.W.nsIn K mainGlobals "want_word" = some (some (.ref f3))) (l3 : K.lookup f3 = some ⟨oc3, od3, .func (PySem.W.fnOf "want_word" "want_word" (defArgs S_want_word) (defBody S_want_word) (defScope S_want_word) .none kV3 dc3 pm3 an3 cd3 ct3), sl3⟩) (c3 : PySem.W.codeIn K cd3 "want_word" = true) (k3 : PySem.W.keepIn K (.ref f3) = true)
    (a4 : PySem.W.nsIn K mainGlobals "lengths_from" = some (some (.ref f4))) (l4 : K.lookup f4 = some ⟨oc4, od4, .func (PySem.W.fnOf "lengths_from" "lengths_from" (defArgs S_lengths_from) (defBody S_lengths_from) (defScope S_lengths_from) .none kV4 dc4 pm4 an4 cd4 ct4), sl4⟩) (c4 : PySem.W.codeIn K cd4 "lengths_from" = true) (k4 : PySem.W.keepIn K (.ref f4) = true)
    (a5 : PySem.W.nsIn K mainGlobals "first_sign" = some (some (.ref f5))) (l5 : K.lookup f5 = some ⟨oc5, od5, .func (PySem.W.fnOf "first_sign" "first_sign" (defArgs S_first_sign) (defBody S_first_sign) (defScope S_first_sign) .none kV5 dc5 pm5 an5 cd5 ct5), sl5⟩) (c5 : PySem.W.codeIn K cd5 "first_sign" = true) (k5 : PySem.W.keepIn K (.ref f5) = true)
    (a6 : PySem.W.nsIn K mainGlobals "common_row" = some (some (.ref f6))) (l6 : K.lookup f6 = some ⟨oc6, od6, .func (PySem.W.fnOf "common_row" "common_row" (defArgs S_common_row) (defBody S_common_row) (defScope S_common_row) .none kV6 dc6 pm6 an6 cd6 ct6), sl6⟩) (c6 : PySem.W.codeIn K cd6 "common_row" = true) (k6 : PySem.W.keepIn K (.ref f6) = true)
    (a7 : PySem.W.nsIn K mainGlobals "nearness" = some (some (.ref f7))) (l7 : K.lookup f7 = some ⟨oc7, od7, .func (PySem.W.fnOf "nearness" "nearness" (defArgs S_nearness) (defBody S_nearness) (defScope S_nearness) .none kV7 dc7 pm7 an7 cd7 ct7), sl7⟩) (c7 : PySem.W.codeIn K cd7 "nearness" = true) (k7 : PySem.W.keepIn K (.ref f7) = true)
    (a8 : PySem.W.nsIn K mainGlobals "lost_ring" = some (some (.ref f8))) (l8 : K.lookup f8 = some ⟨oc8, od8, .func (PySem.W.fnOf "lost_ring" "lost_ring" (defArgs S_lost_ring) (defBody S_lost_ring) (defScope S_lost_ring) .none kV8 dc8 pm8 an8 cd8 ct8), sl8⟩) (c8 : PySem.W.codeIn K cd8 "lost_ring" = true) (k8 : PySem.W.keepIn K (.ref f8) = true)
    (a9 : PySem.W.nsIn K mainGlobals "put_ring" = some (some (.ref f9))) (l9 : K.lookup f9 = some ⟨oc9, od9, .func (PySem.W.fnOf "put_ring" "put_ring" (defArgs S_put_ring) (defBody S_put_ring) (defScope S_put_ring) .none kV9 dc9 pm9 an9 cd9 ct9), sl9⟩) (c9 : PySem.W.codeIn K cd9 "put_ring" = true) (k9 : PySem.W.keepIn K (.ref f9) = true)
    (a10 : PySem.W.nsIn K mainGlobals "changed_ring" = some (some (.ref f10))) (l10 : K.lookup f10 = some ⟨oc10, od10, .func (PySem.W.fnOf "changed_ring" "changed_ring" (defArgs S_changed_ring) (defBody S_changed_ring) (defScope S_changed_ring) .none kV10 dc10 pm10 an10 cd10 ct10), sl10⟩) (c10 : PySem.W.codeIn K cd10 "changed_ring" = true) (k10 : PySem.W.keepIn K (.ref f10) = true)
    (a11 : PySem.W.nsIn K mainGlobals "shape" = some (some (.ref f11))) (l11 : K.lookup f11 = some ⟨oc11, od11, .func (PySem.W.fnOf "shape" "shape" (defArgs S_shape) (defBody S_shape) (defScope S_shape) .none kV11 dc11 pm11 an11 cd11 ct11), sl11⟩) (c11 : PySem.W.codeIn K cd11 "shape" = true) (k11 : PySem.W.keepIn K (.ref f11) = true)
    (a12 : PySem.W.nsIn K mainGlobals "weighted" = some (some (.ref f12))) (l12 : K.lookup f12 = some ⟨oc12, od12, .func (PySem.W.fnOf "weighted" "weighted" (defArgs S_weighted) (defBody S_weighted) (defScope S_weighted) .none kV12 dc12 pm12 an12 cd12 ct12), sl12⟩) (c12 : PySem.W.codeIn K cd12 "weighted" = true) (k12 : PySem.W.keepIn K (.ref f12) = true)
    (a13 : PySem.W.nsIn K mainGlobals "want_rest" = some (some (.ref f13))) (l13 : K.lookup f13 = some ⟨oc13, od13, .func (PySem.W.fnOf "want_rest" "want_rest" (defArgs S_want_rest) (defBody S_want_rest) (defScope S_want_rest) .none kV13 dc13 pm13 an13 cd13 ct13), sl13⟩) (c13 : PySem.W.codeIn K cd13 "want_rest" = true) (k13 : PySem.W.keepIn K (.ref f13) = true)
    (a14 : PySem.W.findIn K (.ref C_ManyList) "__init__" = some (some (.ref f14))) (i14 : PySem.W.isFn K (.ref f14) = true) (l14 : K.lookup f14 = some ⟨oc14, od14, .func (PySem.W.fnOf "__init__" "ManyList.__init__" (defArgs S_ManyList_init) (defBody S_ManyList_init) (defScope S_ManyList_init) .none kV14 dc14 pm14 an14 cd14 ct14), sl14⟩) (c14 : PySem.W.codeIn K cd14 "ManyList.__init__" = true) (k14 : PySem.W.keepIn K (.ref f14) = true)
    (a15 : PySem.W.findIn K (.ref C_ManyList) "signs" = some (some (.ref f15))) (i15 : PySem.W.isFn K (.ref f15) = true) (l15 : K.lookup f15 = some ⟨oc15, od15, .func (PySem.W.fnOf "signs" "ManyList.signs" (defArgs S_ManyList_signs) (defBody S_ManyList_signs) (defScope S_ManyList_signs) .none kV15 dc15 pm15 an15 cd15 ct15), sl15⟩) (c15 : PySem.W.codeIn K cd15 "ManyList.signs" = true) (k15 : PySem.W.keepIn K (.ref f15) = true)
    (a16 : PySem.W.findIn K (.ref C_ManyList) "length" = some (some (.ref f16))) (i16 : PySem.W.isFn K (.ref f16) = true) (l16 : K.lookup f16 = some ⟨oc16, od16, .func (PySem.W.fnOf "length" "ManyList.length" (defArgs S_ManyList_length) (defBody S_ManyList_length) (defScope S_ManyList_length) .none kV16 dc16 pm16 an16 cd16 ct16), sl16⟩) (c16 : PySem.W.codeIn K cd16 "ManyList.length" = true) (k16 : PySem.W.keepIn K (.ref f16) = true)
    (a17 : PySem.W.findIn K (.ref C_ManyList) "rests" = some (some (.ref f17))) (i17 : PySem.W.isFn K (.ref f17) = true) (l17 : K.lookup f17 = some ⟨oc17, od17, .func (PySem.W.fnOf "rests" "ManyList.rests" (defArgs S_ManyList_rests) (defBody S_ManyList_rests) (defScope S_ManyList_rests) .none kV17 dc17 pm17 an17 cd17 ct17), sl17⟩) (c17 : PySem.W.codeIn K cd17 "ManyList.rests" = true) (k17 : PySem.W.keepIn K (.ref f17) = true)
    (a18 : PySem.W.findIn K (.ref C_ManyList) "has" = some (some (.ref f18))) (i18 : PySem.W.isFn K (.ref f18) = true) (l18 : K.lookup f18 = some ⟨oc18, od18, .func (PySem.W.fnOf "has" "ManyList.has" (defArgs S_ManyList_has) (defBody S_ManyList_has) (defScope S_ManyList_has) .none kV18 dc18 pm18 an18 cd18 ct18), sl18⟩) (c18 : PySem.W.codeIn K cd18 "ManyList.has" = true) (k18 : PySem.W.keepIn K (.ref f18) = true)
    (a19 : PySem.W.nsIn K mainGlobals "words_ahead_of" = some (some (.ref f19))) (l19 : K.lookup f19 = some ⟨oc19, od19, .func (PySem.W.fnOf "words_ahead_of" "words_ahead_of" (defArgs S_words_ahead_of) (defBody S_words_ahead_of) (defScope S_words_ahead_of) .none kV19 dc19 pm19 an19 cd19 ct19), sl19⟩) (c19 : PySem.W.codeIn K cd19 "words_ahead_of" = true) (k19 : PySem.W.keepIn K (.ref f19) = true)
    (a20 : PySem.W.nsIn K mainGlobals "many_mended" = some (some (.ref f20))) (l20 : K.lookup f20 = some ⟨oc20, od20, .func (PySem.W.fnOf "many_mended" "many_mended" (defArgs S_many_mended) (defBody S_many_mended) (defScope S_many_mended) .none kV20 dc20 pm20 an20 cd20 ct20), sl20⟩) (c20 : PySem.W.codeIn K cd20 "many_mended" = true) (k20 : PySem.W.keepIn K (.ref f20) = true)
    (a21 : PySem.W.nsIn K mainGlobals "code_of" = some (some (.ref f21))) (l21 : K.lookup f21 = some ⟨oc21, od21, .func (PySem.W.fnOf "code_of" "code_of" (defArgs S_code_of) (defBody S_code_of) (defScope S_code_of) .none kV21 dc21 pm21 an21 cd21 ct21), sl21⟩) (c21 : PySem.W.codeIn K cd21 "code_of" = true) (k21 : PySem.W.keepIn K (.ref f21) = true)
    (a22 : PySem.W.nsIn K mainGlobals "ways_behind" = some (some (.ref f22))) (l22 : K.lookup f22 = some ⟨oc22, od22, .func (PySem.W.fnOf "ways_behind" "ways_behind" (defArgs S_ways_behind) (defBody S_ways_behind) (defScope S_ways_behind) .none kV22 dc22 pm22 an22 cd22 ct22), sl22⟩) (c22 : PySem.W.codeIn K cd22 "ways_behind" = true) (k22 : PySem.W.keepIn K (.ref f22) = true)
    (a23 : PySem.W.nsIn K mainGlobals "tables_of" = some (some (.ref f23))) (l23 : K.lookup f23 = some ⟨oc23, od23, .func (PySem.W.fnOf "tables_of" "tables_of" (defArgs S_tables_of) (defBody S_tables_of) (defScope S_tables_of) .none kV23 dc23 pm23 an23 cd23 ct23), sl23⟩) (c23 : PySem.W.codeIn K cd23 "tables_of" = true) (k23 : PySem.W.keepIn K (.ref f23) = true)
    (a24 : PySem.W.findIn K (.ref C_Walk) "__init__" = some (some (.ref f24))) (i24 : PySem.W.isFn K (.ref f24) = true) (l24 : K.lookup f24 = some ⟨oc24, od24, .func (PySem.W.fnOf "__init__" "Walk.__init__" (defArgs S_Walk_init) (defBody S_Walk_init) (defScope S_Walk_init) .none kV24 dc24 pm24 an24 cd24 ct24), sl24⟩) (c24 : PySem.W.codeIn K cd24 "Walk.__init__" = true) (k24 : PySem.W.keepIn K (.ref f24) = true)
    (a25 : PySem.W.findIn K (.ref C_Walk) "left_by" = some (some (.ref f25))) (i25 : PySem.W.isFn K (.ref f25) = true) (l25 : K.lookup f25 = some ⟨oc25, od25, .func (PySem.W.fnOf "left_by" "Walk.left_by" (defArgs S_Walk_left_by) (defBody S_Walk_left_by) (defScope S_Walk_left_by) .none kV25 dc25 pm25 an25 cd25 ct25), sl25⟩) (c25 : PySem.W.codeIn K cd25 "Walk.left_by" = true) (k25 : PySem.W.keepIn K (.ref f25) = true)
    (a26 : PySem.W.findIn K (.ref C_Walk) "ways" = some (some (.ref f26))) (i26 : PySem.W.isFn K (.ref f26) = true) (l26 : K.lookup f26 = some ⟨oc26, od26, .func (PySem.W.fnOf "ways" "Walk.ways" (defArgs S_Walk_ways) (defBody S_Walk_ways) (defScope S_Walk_ways) .none kV26 dc26 pm26 an26 cd26 ct26), sl26⟩) (c26 : PySem.W.codeIn K cd26 "Walk.ways" = true) (k26 : PySem.W.keepIn K (.ref f26) = true)
    (a27 : PySem.W.findIn K (.ref C_Walk) "ways_below" = some (some (.ref f27))) (i27 : PySem.W.isFn K (.ref f27) = true) (l27 : K.lookup f27 = some ⟨oc27, od27, .func (PySem.W.fnOf "ways_below" "Walk.ways_below" (defArgs S_Walk_ways_below) (defBody S_Walk_ways_below) (defScope S_Walk_ways_below) .none kV27 dc27 pm27 an27 cd27 ct27), sl27⟩) (c27 : PySem.W.codeIn K cd27 "Walk.ways_below" = true) (k27 : PySem.W.keepIn K (.ref f27) = true)
    (a28 : PySem.W.findIn K (.ref C_Walk) "go" = some (some (.ref f28))) (i28 : PySem.W.isFn K (.ref f28) = true) (l28 : K.lookup f28 = some ⟨oc28, od28, .func (PySem.W.fnOf "go" "Walk.go" (defArgs S_Walk_go) (defBody S_Walk_go) (defScope S_Walk_go) .none kV28 dc28 pm28 an28 cd28 ct28), sl28⟩) (c28 : PySem.W.codeIn K cd28 "Walk.go" = true) (k28 : PySem.W.keepIn K (.ref f28) = true)
    (a29 : PySem.W.nsIn K mainGlobals "how_many_many" = some (some (.ref f29))) (l29 : K.lookup f29 = some ⟨oc29, od29, .func (PySem.W.fnOf "how_many_many" "how_many_many" (defArgs S_how_many_many) (defBody S_how_many_many) (defScope S_how_many_many) .none kV29 dc29 pm29 an29 cd29 ct29), sl29⟩) (c29 : PySem.W.codeIn K cd29 "how_many_many" = true) (k29 : PySem.W.keepIn K (.ref f29) = true)
    (a30 : PySem.W.nsIn K mainGlobals "many_member" = some (some (.ref f30))) (l30 : K.lookup f30 = some ⟨oc30, od30, .func (PySem.W.fnOf "many_member" "many_member" (defArgs S_many_member) (defBody S_many_member) (defScope S_many_member) .none kV30 dc30 pm30 an30 cd30 ct30), sl30⟩) (c30 : PySem.W.codeIn K cd30 "many_member" = true) (k30 : PySem.W.keepIn K (.ref f30) = true)
    (a31 : PySem.W.nsIn K mainGlobals "many_number" = some (some (.ref f31))) (l31 : K.lookup f31 = some ⟨oc31, od31, .func (PySem.W.fnOf "many_number" "many_number" (defArgs S_many_number) (defBody S_many_number) (defScope S_many_number) .none kV31 dc31 pm31 an31 cd31 ct31), sl31⟩) (c31 : PySem.W.codeIn K cd31 "many_number" = true) (k31 : PySem.W.keepIn K (.ref f31) = true)
    (a32 : PySem.W.nsIn K mainGlobals "want_length" = some (some (.ref f32))) (l32 : K.lookup f32 = some ⟨oc32, od32, .func (PySem.W.fnOf "want_length" "want_length" (defArgs S_want_length) (defBody S_want_length) (defScope S_want_length) .none kV32 dc32 pm32 an32 cd32 ct32), sl32⟩) (c32 : PySem.W.codeIn K cd32 "want_length" = true) (k32 : PySem.W.keepIn K (.ref f32) = true)
    (a33 : PySem.W.findIn K (.ref C_PlainList) "__init__" = some (some (.ref f33))) (i33 : PySem.W.isFn K (.ref f33) = true) (l33 : K.lookup f33 = some ⟨oc33, od33, .func (PySem.W.fnOf "__init__" "PlainList.__init__" (defArgs S_PlainList_init) (defBody S_PlainList_init) (defScope S_PlainList_init) .none kV33 dc33 pm33 an33 cd33 ct33), sl33⟩) (c33 : PySem.W.codeIn K cd33 "PlainList.__init__" = true) (k33 : PySem.W.keepIn K (.ref f33) = true)
    (a34 : PySem.W.findIn K (.ref C_PlainList) "length" = some (some (.ref f34))) (i34 : PySem.W.isFn K (.ref f34) = true) (l34 : K.lookup f34 = some ⟨oc34, od34, .func (PySem.W.fnOf "length" "PlainList.length" (defArgs S_PlainList_length) (defBody S_PlainList_length) (defScope S_PlainList_length) .none kV34 dc34 pm34 an34 cd34 ct34), sl34⟩) (c34 : PySem.W.codeIn K cd34 "PlainList.length" = true) (k34 : PySem.W.keepIn K (.ref f34) = true)
    (a35 : PySem.W.findIn K (.ref C_PlainList) "rest" = some (some (.ref f35))) (i35 : PySem.W.isFn K (.ref f35) = true) (l35 : K.lookup f35 = some ⟨oc35, od35, .func (PySem.W.fnOf "rest" "PlainList.rest" (defArgs S_PlainList_rest) (defBody S_PlainList_rest) (defScope S_PlainList_rest) .none kV35 dc35 pm35 an35 cd35 ct35), sl35⟩) (c35 : PySem.W.codeIn K cd35 "PlainList.rest" = true) (k35 : PySem.W.keepIn K (.ref f35) = true)
    (a36 : PySem.W.findIn K (.ref C_PlainList) "has" = some (some (.ref f36))) (i36 : PySem.W.isFn K (.ref f36) = true) (l36 : K.lookup f36 = some ⟨oc36, od36, .func (PySem.W.fnOf "has" "PlainList.has" (defArgs S_PlainList_has) (defBody S_PlainList_has) (defScope S_PlainList_has) .none kV36 dc36 pm36 an36 cd36 ct36), sl36⟩) (c36 : PySem.W.codeIn K cd36 "PlainList.has" = true) (k36 : PySem.W.keepIn K (.ref f36) = true)
    (a37 : PySem.W.nsIn K mainGlobals "rows_behind" = some (some (.ref f37))) (l37 : K.lookup f37 = some ⟨oc37, od37, .func (PySem.W.fnOf "rows_behind" "rows_behind" (defArgs S_rows_behind) (defBody S_rows_behind) (defScope S_rows_behind) .none kV37 dc37 pm37 an37 cd37 ct37), sl37⟩) (c37 : PySem.W.codeIn K cd37 "rows_behind" = true) (k37 : PySem.W.keepIn K (.ref f37) = true)
    (a38 : PySem.W.nsIn K mainGlobals "how_many" = some (some (.ref f38))) (l38 : K.lookup f38 = some ⟨oc38, od38, .func (PySem.W.fnOf "how_many" "how_many" (defArgs S_how_many) (defBody S_how_many) (defScope S_how_many) .none kV38 dc38 pm38 an38 cd38 ct38), sl38⟩) (c38 : PySem.W.codeIn K cd38 "how_many" = true) (k38 : PySem.W.keepIn K (.ref f38) = true)
    (a39 : PySem.W.nsIn K mainGlobals "member" = some (some (.ref f39))) (l39 : K.lookup f39 = some ⟨oc39, od39, .func (PySem.W.fnOf "member" "member" (defArgs S_member) (defBody S_member) (defScope S_member) .none kV39 dc39 pm39 an39 cd39 ct39), sl39⟩) (c39 : PySem.W.codeIn K cd39 "member" = true) (k39 : PySem.W.keepIn K (.ref f39) = true)
    (a40 : PySem.W.nsIn K mainGlobals "number_of" = some (some (.ref f40))) (l40 : K.lookup f40 = some ⟨oc40, od40, .func (PySem.W.fnOf "number_of" "number_of" (defArgs S_number_of) (defBody S_number_of) (defScope S_number_of) .none kV40 dc40 pm40 an40 cd40 ct40), sl40⟩) (c40 : PySem.W.codeIn K cd40 "number_of" = true) (k40 : PySem.W.keepIn K (.ref f40) = true)
    (a41 : PySem.W.nsIn K mainGlobals "words_ahead" = some (some (.ref f41))) (l41 : K.lookup f41 = some ⟨oc41, od41, .func (PySem.W.fnOf "words_ahead" "words_ahead" (defArgs S_words_ahead) (defBody S_words_ahead) (defScope S_words_ahead) .none kV41 dc41 pm41 an41 cd41 ct41), sl41⟩) (c41 : PySem.W.codeIn K cd41 "words_ahead" = true) (k41 : PySem.W.keepIn K (.ref f41) = true)
    (a42 : PySem.W.nsIn K mainGlobals "mended" = some (some (.ref f42))) (l42 : K.lookup f42 = some ⟨oc42, od42, .func (PySem.W.fnOf "mended" "mended" (defArgs S_mended) (defBody S_mended) (defScope S_mended) .none kV42 dc42 pm42 an42 cd42 ct42), sl42⟩) (c42 : PySem.W.codeIn K cd42 "mended" = true) (k42 : PySem.W.keepIn K (.ref f42) = true)
    (a43 : PySem.W.findIn K (.ref C_StrongList) "__init__" = some (some (.ref f43))) (i43 : PySem.W.isFn K (.ref f43) = true) (l43 : K.lookup f43 = some ⟨oc43, od43, .func (PySem.W.fnOf "__init__" "StrongList.__init__" (defArgs S_StrongList_init) (defBody S_StrongList_init) (defScope S_StrongList_init) .none kV43 dc43 pm43 an43 cd43 ct43), sl43⟩) (c43 : PySem.W.codeIn K cd43 "StrongList.__init__" = true) (k43 : PySem.W.keepIn K (.ref f43) = true)
    (a44 : PySem.W.findIn K (.ref C_StrongList) "length" = some (some (.ref f44))) (i44 : PySem.W.isFn K (.ref f44) = true) (l44 : K.lookup f44 = some ⟨oc44, od44, .func (PySem.W.fnOf "length" "StrongList.length" (defArgs S_StrongList_length) (defBody S_StrongList_length) (defScope S_StrongList_length) .none kV44 dc44 pm44 an44 cd44 ct44), sl44⟩) (c44 : PySem.W.codeIn K cd44 "StrongList.length" = true) (k44 : PySem.W.keepIn K (.ref f44) = true)
    (a45 : PySem.W.findIn K (.ref C_StrongList) "rest" = some (some (.ref f45))) (i45 : PySem.W.isFn K (.ref f45) = true) (l45 : K.lookup f45 = some ⟨oc45, od45, .func (PySem.W.fnOf "rest" "StrongList.rest" (defArgs S_StrongList_rest) (defBody S_StrongList_rest) (defScope S_StrongList_rest) .none kV45 dc45 pm45 an45 cd45 ct45), sl45⟩) (c45 : PySem.W.codeIn K cd45 "StrongList.rest" = true) (k45 : PySem.W.keepIn K (.ref f45) = true)
    (a46 : PySem.W.findIn K (.ref C_StrongList) "has" = some (some (.ref f46))) (i46 : PySem.W.isFn K (.ref f46) = true) (l46 : K.lookup f46 = some ⟨oc46, od46, .func (PySem.W.fnOf "has" "StrongList.has" (defArgs S_StrongList_has) (defBody S_StrongList_has) (defScope S_StrongList_has) .none kV46 dc46 pm46 an46 cd46 ct46), sl46⟩) (c46 : PySem.W.codeIn K cd46 "StrongList.has" = true) (k46 : PySem.W.keepIn K (.ref f46) = true)
    (a47 : PySem.W.nsIn K mainGlobals "ring_before" = some (some (.ref f47))) (l47 : K.lookup f47 = some ⟨oc47, od47, .func (PySem.W.fnOf "ring_before" "ring_before" (defArgs S_ring_before) (defBody S_ring_before) (defScope S_ring_before) .none kV47 dc47 pm47 an47 cd47 ct47), sl47⟩) (c47 : PySem.W.codeIn K cd47 "ring_before" = true) (k47 : PySem.W.keepIn K (.ref f47) = true)
    (a48 : PySem.W.nsIn K mainGlobals "strong_mended" = some (some (.ref f48))) (l48 : K.lookup f48 = some ⟨oc48, od48, .func (PySem.W.fnOf "strong_mended" "strong_mended" (defArgs S_strong_mended) (defBody S_strong_mended) (defScope S_strong_mended) .none kV48 dc48 pm48 an48 cd48 ct48), sl48⟩) (c48 : PySem.W.codeIn K cd48 "strong_mended" = true) (k48 : PySem.W.keepIn K (.ref f48) = true)
    (a49 : PySem.W.nsIn K mainGlobals "tails" = some (some (.ref f49))) (l49 : K.lookup f49 = some ⟨oc49, od49, .func (PySem.W.fnOf "tails" "tails" (defArgs S_tails) (defBody S_tails) (defScope S_tails) .none kV49 dc49 pm49 an49 cd49 ct49), sl49⟩) (c49 : PySem.W.codeIn K cd49 "tails" = true) (k49 : PySem.W.keepIn K (.ref f49) = true)
    (a50 : PySem.W.nsIn K mainGlobals "how_many_strong" = some (some (.ref f50))) (l50 : K.lookup f50 = some ⟨oc50, od50, .func (PySem.W.fnOf "how_many_strong" "how_many_strong" (defArgs S_how_many_strong) (defBody S_how_many_strong) (defScope S_how_many_strong) .none kV50 dc50 pm50 an50 cd50 ct50), sl50⟩) (c50 : PySem.W.codeIn K cd50 "how_many_strong" = true) (k50 : PySem.W.keepIn K (.ref f50) = true)
    (a51 : PySem.W.nsIn K mainGlobals "strong_member" = some (some (.ref f51))) (l51 : K.lookup f51 = some ⟨oc51, od51, .func (PySem.W.fnOf "strong_member" "strong_member" (defArgs S_strong_member) (defBody S_strong_member) (defScope S_strong_member) .none kV51 dc51 pm51 an51 cd51 ct51), sl51⟩) (c51 : PySem.W.codeIn K cd51 "strong_member" = true) (k51 : PySem.W.keepIn K (.ref f51) = true)
    (a52 : PySem.W.nsIn K mainGlobals "strong_number" = some (some (.ref f52))) (l52 : K.lookup f52 = some ⟨oc52, od52, .func (PySem.W.fnOf "strong_number" "strong_number" (defArgs S_strong_number) (defBody S_strong_number) (defScope S_strong_number) .none kV52 dc52 pm52 an52 cd52 ct52), sl52⟩) (c52 : PySem.W.codeIn K cd52 "strong_number" = true) (k52 : PySem.W.keepIn K (.ref f52) = true)
    (a53 : PySem.W.nsIn K mainGlobals "show_word" = some (some (.ref f53))) (l53 : K.lookup f53 = some ⟨oc53, od53, .func (PySem.W.fnOf "show_word" "show_word" (defArgs S_show_word) (defBody S_show_word) (defScope S_show_word) .none kV53 dc53 pm53 an53 cd53 ct53), sl53⟩) (c53 : PySem.W.codeIn K cd53 "show_word" = true) (k53 : PySem.W.keepIn K (.ref f53) = true)
    (a54 : PySem.W.nsIn K mainGlobals "read_word" = some (some (.ref f54))) (l54 : K.lookup f54 = some ⟨oc54, od54, .func (PySem.W.fnOf "read_word" "read_word" (defArgs S_read_word) (defBody S_read_word) (defScope S_read_word) .none kV54 dc54 pm54 an54 cd54 ct54), sl54⟩) (c54 : PySem.W.codeIn K cd54 "read_word" = true) (k54 : PySem.W.keepIn K (.ref f54) = true)
    (a55 : PySem.W.nsIn K mainGlobals "is_figures" = some (some (.ref f55))) (l55 : K.lookup f55 = some ⟨oc55, od55, .func (PySem.W.fnOf "is_figures" "is_figures" (defArgs S_is_figures) (defBody S_is_figures) (defScope S_is_figures) .none kV55 dc55 pm55 an55 cd55 ct55), sl55⟩) (c55 : PySem.W.codeIn K cd55 "is_figures" = true) (k55 : PySem.W.keepIn K (.ref f55) = true)
    (a56 : PySem.W.nsIn K mainGlobals "parts_of" = some (some (.ref f56))) (l56 : K.lookup f56 = some ⟨oc56, od56, .func (PySem.W.fnOf "parts_of" "parts_of" (defArgs S_parts_of) (defBody S_parts_of) (defScope S_parts_of) .none kV56 dc56 pm56 an56 cd56 ct56), sl56⟩) (c56 : PySem.W.codeIn K cd56 "parts_of" = true) (k56 : PySem.W.keepIn K (.ref f56) = true)
    (a57 : PySem.W.nsIn K mainGlobals "shown" = some (some (.ref f57))) (l57 : K.lookup f57 = some ⟨oc57, od57, .func (PySem.W.fnOf "shown" "shown" (defArgs S_shown) (defBody S_shown) (defScope S_shown) .none kV57 dc57 pm57 an57 cd57 ct57), sl57⟩) (c57 : PySem.W.codeIn K cd57 "shown" = true) (k57 : PySem.W.keepIn K (.ref f57) = true)
    (a58 : PySem.W.nsIn K mainGlobals "word_read" = some (some (.ref f58))) (l58 : K.lookup f58 = some ⟨oc58, od58, .func (PySem.W.fnOf "word_read" "word_read" (defArgs S_word_read) (defBody S_word_read) (defScope S_word_read) .none kV58 dc58 pm58 an58 cd58 ct58), sl58⟩) (c58 : PySem.W.codeIn K cd58 "word_read" = true) (k58 : PySem.W.keepIn K (.ref f58) = true)
    (a59 : PySem.W.findIn K (.ref C_Desk) "__init__" = some (some (.ref f59))) (i59 : PySem.W.isFn K (.ref f59) = true) (l59 : K.lookup f59 = some ⟨oc59, od59, .func (PySem.W.fnOf "__init__" "Desk.__init__" (defArgs S_Desk_init) (defBody S_Desk_init) (defScope S_Desk_init) .none kV59 dc59 pm59 an59 cd59 ct59), sl59⟩) (c59 : PySem.W.codeIn K cd59 "Desk.__init__" = true) (k59 : PySem.W.keepIn K (.ref f59) = true)
    (a60 : PySem.W.findIn K (.ref C_Desk) "signs" = some (some (.ref f60))) (i60 : PySem.W.isFn K (.ref f60) = true) (l60 : K.lookup f60 = some ⟨oc60, od60, .func (PySem.W.fnOf "signs" "Desk.signs" (defArgs S_Desk_signs) (defBody S_Desk_signs) (defScope S_Desk_signs) .none kV60 dc60 pm60 an60 cd60 ct60), sl60⟩) (c60 : PySem.W.codeIn K cd60 "Desk.signs" = true) (k60 : PySem.W.keepIn K (.ref f60) = true)
    (a61 : PySem.W.findIn K (.ref C_Desk) "keep" = some (some (.ref f61))) (i61 : PySem.W.isFn K (.ref f61) = true) (l61 : K.lookup f61 = some ⟨oc61, od61, .func (PySem.W.fnOf "keep" "Desk.keep" (defArgs S_Desk_keep) (defBody S_Desk_keep) (defScope S_Desk_keep) .none kV61 dc61 pm61 an61 cd61 ct61), sl61⟩) (c61 : PySem.W.codeIn K cd61 "Desk.keep" = true) (k61 : PySem.W.keepIn K (.ref f61) = true)
    (a62 : PySem.W.findIn K (.ref C_Desk) "many_members" = some (some (.ref f62))) (i62 : PySem.W.isFn K (.ref f62) = true) (l62 : K.lookup f62 = some ⟨oc62, od62, .func (PySem.W.fnOf "many_members" "Desk.many_members" (defArgs S_Desk_many_members) (defBody S_Desk_many_members) (defScope S_Desk_many_members) .none kV62 dc62 pm62 an62 cd62 ct62), sl62⟩) (c62 : PySem.W.codeIn K cd62 "Desk.many_members" = true) (k62 : PySem.W.keepIn K (.ref f62) = true)
    (a63 : PySem.W.findIn K (.ref C_Desk) "member_at" = some (some (.ref f63))) (i63 : PySem.W.isFn K (.ref f63) = true) (l63 : K.lookup f63 = some ⟨oc63, od63, .func (PySem.W.fnOf "member_at" "Desk.member_at" (defArgs S_Desk_member_at) (defBody S_Desk_member_at) (defScope S_Desk_member_at) .none kV63 dc63 pm63 an63 cd63 ct63), sl63⟩) (c63 : PySem.W.codeIn K cd63 "Desk.member_at" = true) (k63 : PySem.W.keepIn K (.ref f63) = true)
    (a64 : PySem.W.findIn K (.ref C_Desk) "number_at" = some (some (.ref f64))) (i64 : PySem.W.isFn K (.ref f64) = true) (l64 : K.lookup f64 = some ⟨oc64, od64, .func (PySem.W.fnOf "number_at" "Desk.number_at" (defArgs S_Desk_number_at) (defBody S_Desk_number_at) (defScope S_Desk_number_at) .none kV64 dc64 pm64 an64 cd64 ct64), sl64⟩) (c64 : PySem.W.codeIn K cd64 "Desk.number_at" = true) (k64 : PySem.W.keepIn K (.ref f64) = true)
    (a65 : PySem.W.findIn K (.ref C_Desk) "sent" = some (some (.ref f65))) (i65 : PySem.W.isFn K (.ref f65) = true) (l65 : K.lookup f65 = some ⟨oc65, od65, .func (PySem.W.fnOf "sent" "Desk.sent" (defArgs S_Desk_sent) (defBody S_Desk_sent) (defScope S_Desk_sent) .none kV65 dc65 pm65 an65 cd65 ct65), sl65⟩) (c65 : PySem.W.codeIn K cd65 "Desk.sent" = true) (k65 : PySem.W.keepIn K (.ref f65) = true)
    (a66 : PySem.W.findIn K (.ref C_Desk) "mend" = some (some (.ref f66))) (i66 : PySem.W.isFn K (.ref f66) = true) (l66 : K.lookup f66 = some ⟨oc66, od66, .func (PySem.W.fnOf "mend" "Desk.mend" (defArgs S_Desk_mend) (defBody S_Desk_mend) (defScope S_Desk_mend) .none kV66 dc66 pm66 an66 cd66 ct66), sl66⟩) (c66 : PySem.W.codeIn K cd66 "Desk.mend" = true) (k66 : PySem.W.keepIn K (.ref f66) = true)
    (a67 : PySem.W.findIn K (.ref C_Desk) "near" = some (some (.ref f67))) (i67 : PySem.W.isFn K (.ref f67) = true) (l67 : K.lookup f67 = some ⟨oc67, od67, .func (PySem.W.fnOf "near" "Desk.near" (defArgs S_Desk_near) (defBody S_Desk_near) (defScope S_Desk_near) .none kV67 dc67 pm67 an67 cd67 ct67), sl67⟩) (c67 : PySem.W.codeIn K cd67 "Desk.near" = true) (k67 : PySem.W.keepIn K (.ref f67) = true)
    (a68 : PySem.W.findIn K (.ref C_Desk) "ring" = some (some (.ref f68))) (i68 : PySem.W.isFn K (.ref f68) = true) (l68 : K.lookup f68 = some ⟨oc68, od68, .func (PySem.W.fnOf "ring" "Desk.ring" (defArgs S_Desk_ring) (defBody S_Desk_ring) (defScope S_Desk_ring) .none kV68 dc68 pm68 an68 cd68 ct68), sl68⟩) (c68 : PySem.W.codeIn K cd68 "Desk.ring" = true) (k68 : PySem.W.keepIn K (.ref f68) = true)
    (a69 : PySem.W.findIn K (.ref C_Desk) "say" = some (some (.ref f69))) (i69 : PySem.W.isFn K (.ref f69) = true) (l69 : K.lookup f69 = some ⟨oc69, od69, .func (PySem.W.fnOf "say" "Desk.say" (defArgs S_Desk_say) (defBody S_Desk_say) (defScope S_Desk_say) .none kV69 dc69 pm69 an69 cd69 ct69), sl69⟩) (c69 : PySem.W.codeIn K cd69 "Desk.say" = true) (k69 : PySem.W.keepIn K (.ref f69) = true)
    (a70 : PySem.W.nsIn K mainGlobals "_law_at" = some (some (.ref f70))) (l70 : K.lookup f70 = some ⟨oc70, od70, .func (PySem.W.fnOf "_law_at" "_law_at" (defArgs S_L_at) (defBody S_L_at) (defScope S_L_at) .none kV70 dc70 pm70 an70 cd70 ct70), sl70⟩) (c70 : PySem.W.codeIn K cd70 "_law_at" = true) (k70 : PySem.W.keepIn K (.ref f70) = true)
    (a71 : PySem.W.nsIn K mainGlobals "_law_pot" = some (some (.ref f71))) (l71 : K.lookup f71 = some ⟨oc71, od71, .func (PySem.W.fnOf "_law_pot" "_law_pot" (defArgs S_L_pot) (defBody S_L_pot) (defScope S_L_pot) .none kV71 dc71 pm71 an71 cd71 ct71), sl71⟩) (c71 : PySem.W.codeIn K cd71 "_law_pot" = true) (k71 : PySem.W.keepIn K (.ref f71) = true)
    (a72 : PySem.W.nsIn K mainGlobals "_law_digit" = some (some (.ref f72))) (l72 : K.lookup f72 = some ⟨oc72, od72, .func (PySem.W.fnOf "_law_digit" "_law_digit" (defArgs S_L_digit) (defBody S_L_digit) (defScope S_L_digit) .none kV72 dc72 pm72 an72 cd72 ct72), sl72⟩) (c72 : PySem.W.codeIn K cd72 "_law_digit" = true) (k72 : PySem.W.keepIn K (.ref f72) = true)
    (a73 : PySem.W.nsIn K mainGlobals "_law_kept" = some (some (.ref f73))) (l73 : K.lookup f73 = some ⟨oc73, od73, .func (PySem.W.fnOf "_law_kept" "_law_kept" (defArgs S_L_kept) (defBody S_L_kept) (defScope S_L_kept) .none kV73 dc73 pm73 an73 cd73 ct73), sl73⟩) (c73 : PySem.W.codeIn K cd73 "_law_kept" = true) (k73 : PySem.W.keepIn K (.ref f73) = true)
    (a74 : PySem.W.nsIn K mainGlobals "_law_dashed" = some (some (.ref f74))) (l74 : K.lookup f74 = some ⟨oc74, od74, .func (PySem.W.fnOf "_law_dashed" "_law_dashed" (defArgs S_L_dashed) (defBody S_L_dashed) (defScope S_L_dashed) .none kV74 dc74 pm74 an74 cd74 ct74), sl74⟩) (c74 : PySem.W.codeIn K cd74 "_law_dashed" = true) (k74 : PySem.W.keepIn K (.ref f74) = true)
    (a75 : PySem.W.nsIn K mainGlobals "_law_mends" = some (some (.ref f75))) (l75 : K.lookup f75 = some ⟨oc75, od75, .func (PySem.W.fnOf "_law_mends" "_law_mends" (defArgs S_L_mends) (defBody S_L_mends) (defScope S_L_mends) .none kV75 dc75 pm75 an75 cd75 ct75), sl75⟩) (c75 : PySem.W.codeIn K cd75 "_law_mends" = true) (k75 : PySem.W.keepIn K (.ref f75) = true)
    (a76 : PySem.W.nsIn K mainGlobals "law" = some (some (.ref f76))) (l76 : K.lookup f76 = some ⟨oc76, od76, .func (PySem.W.fnOf "law" "law" (defArgs S_law) (defBody S_law) (defScope S_law) .none kV76 dc76 pm76 an76 cd76 ct76), sl76⟩) (c76 : PySem.W.codeIn K cd76 "law" = true) (k76 : PySem.W.keepIn K (.ref f76) = true)
    (z_abs : PySem.W.nsIn K mainGlobals "abs" = some none)
    (z_all : PySem.W.nsIn K mainGlobals "all" = some none)
    (z_bool : PySem.W.nsIn K mainGlobals "bool" = some none)
    (z_enumerate : PySem.W.nsIn K mainGlobals "enumerate" = some none)
    (z_int : PySem.W.nsIn K mainGlobals "int" = some none)
    (z_isinstance : PySem.W.nsIn K mainGlobals "isinstance" = some none)
    (z_len : PySem.W.nsIn K mainGlobals "len" = some none)
    (z_max : PySem.W.nsIn K mainGlobals "max" = some none)
    (z_range : PySem.W.nsIn K mainGlobals "range" = some none)
    (z_reversed : PySem.W.nsIn K mainGlobals "reversed" = some none)
    (z_set : PySem.W.nsIn K mainGlobals "set" = some none)
    (z_sorted : PySem.W.nsIn K mainGlobals "sorted" = some none)
    (z_str : PySem.W.nsIn K mainGlobals "str" = some none)
    (z_sum : PySem.W.nsIn K mainGlobals "sum" = some none)
    (z_tuple : PySem.W.nsIn K mainGlobals "tuple" = some none)
    (z_zip : PySem.W.nsIn K mainGlobals "zip" = some none)
    (c_EMPTY : PySem.W.nsIn K mainGlobals "EMPTY" = some (some (.str (PySem.Str.ofString "-") t_EMPTY)))
    (c_FIGURES : PySem.W.nsIn K mainGlobals "FIGURES" = some (some (.str (PySem.Str.ofString "0123456789") t_FIGURES)))
    (c_LEAST_MANY : PySem.W.nsIn K mainGlobals "LEAST_MANY" = some (some (.int 2 t_LEAST_MANY)))
    (c_LEAST_SIGNS : PySem.W.nsIn K mainGlobals "LEAST_SIGNS" = some (some (.int 2 t_LEAST_SIGNS)))
    (c_MOST_FIGURES : PySem.W.nsIn K mainGlobals "MOST_FIGURES" = some (some (.int 60 t_MOST_FIGURES)))
    (c_MOST_LENGTH : PySem.W.nsIn K mainGlobals "MOST_LENGTH" = some (some (.int 60 t_MOST_LENGTH)))
    (c_MOST_MANY : PySem.W.nsIn K mainGlobals "MOST_MANY" = some (some (.int 24 t_MOST_MANY)))
    (c_MOST_MANY_SIGNS : PySem.W.nsIn K mainGlobals "MOST_MANY_SIGNS" = some (some (.int 10 t_MOST_MANY_SIGNS)))
    (c_MOST_SIGNS : PySem.W.nsIn K mainGlobals "MOST_SIGNS" = some (some (.int 36 t_MOST_SIGNS)))
    (c_MOST_STRONG : PySem.W.nsIn K mainGlobals "MOST_STRONG" = some (some (.int 59 t_MOST_STRONG)))
    (c_ROWS : PySem.W.nsIn K mainGlobals "ROWS" = some (some (.ref t_ROWS))) (kr_ROWS : K.lookup t_ROWS = some ⟨.type "dict", none, .dict e_ROWS n_ROWS, #[]⟩) (kl_ROWS : PySem.W.KeysLit w.params e_ROWS.toList) (ks_ROWS : (t_ROWS == sysModules) = false) (kt_ROWS : e_ROWS.toList.map entS = tab_ROWS.map some)
    (c_SIGNS : PySem.W.nsIn K mainGlobals "SIGNS" = some (some (.str (PySem.Str.ofString "0123456789abcdefghijklmnopqrstuvwxyz") t_SIGNS))) :
    ∃ fd : FuncData, (∀ (s : Shared) (v : Value), BindsTo s fd ⟨[v], []⟩ [("_law_script", v)]) ∧ ∀ base : Heap, K.In base → base.Ns mainGlobals mg → FnOk l.prog w K mg base CX0 11 fa fd ["_law_script"] (sp_law K) := by
  have e := hfa.symm.trans (PySem.W.mg_of X G a76)
  cases e
  have F0 := fun_mk (st := S_is_number) l0 c0 k0
  have b0 := F0.binds (ps := ["thing"]) fun _ _ _ _ _ _ us hl => match us, hl with | [_], _ => rfl
  have F1 := fun_mk (st := S_want_count) l1 c1 k1
  have b1 := F1.binds (ps := ["q"]) fun _ _ _ _ _ _ us hl => match us, hl with | [_], _ => rfl
  have F2 := fun_mk (st := S_is_sign) l2 c2 k2
  have b2 := F2.binds (ps := ["q", "thing"]) fun _ _ _ _ _ _ us hl => match us, hl with | [_, _], _ => rfl
  have F3 := fun_mk (st := S_want_word) l3 c3 k3
  have b3 := F3.binds (ps := ["q", "word"]) fun _ _ _ _ _ _ us hl => match us, hl with | [_, _], _ => rfl
  have F4 := fun_mk (st := S_lengths_from) l4 c4 k4
  have b4 := F4.binds (ps := ["one", "other"]) fun _ _ _ _ _ _ us hl => match us, hl with | [_, _], _ => rfl
  have F5 := fun_mk (st := S_first_sign) l5 c5 k5
  have b5 := F5.binds (ps := ["one", "other", "lengths", "i", "j"]) fun _ _ _ _ _ _ us hl => match us, hl with | [_, _, _, _, _], _ => rfl
  have F6 := fun_mk (st := S_common_row) l6 c6 k6
  have b6 := F6.binds (ps := ["one", "other"]) fun _ _ _ _ _ _ us hl => match us, hl with | [_, _], _ => rfl
  have F7 := fun_mk (st := S_nearness) l7 c7 k7
  have b7 := F7.binds (ps := ["one", "other"]) fun _ _ _ _ _ _ us hl => match us, hl with | [_, _], _ => rfl
  have F8 := fun_mk (st := S_lost_ring) l8 c8 k8
  have b8 := F8.binds (ps := ["q", "word"]) fun _ _ _ _ _ _ us hl => match us, hl with | [_, _], _ => rfl
  have F9 := fun_mk (st := S_put_ring) l9 c9 k9
  have b9 := F9.binds (ps := ["q", "word"]) fun _ _ _ _ _ _ us hl => match us, hl with | [_, _], _ => rfl
  have F10 := fun_mk (st := S_changed_ring) l10 c10 k10
  have b10 := F10.binds (ps := ["q", "word"]) fun _ _ _ _ _ _ us hl => match us, hl with | [_, _], _ => rfl
  have F11 := fun_mk (st := S_shape) l11 c11 k11
  have b11 := F11.binds (ps := ["q", "word"]) fun _ _ _ _ _ _ us hl => match us, hl with | [_, _], _ => rfl
  have F12 := fun_mk (st := S_weighted) l12 c12 k12
  have b12 := F12.binds (ps := ["q", "word"]) fun _ _ _ _ _ _ us hl => match us, hl with | [_, _], _ => rfl
  have F13 := fun_mk (st := S_want_rest) l13 c13 k13
  have b13 := F13.binds (ps := ["thing", "by"]) fun _ _ _ _ _ _ us hl => match us, hl with | [_, _], _ => rfl
  have F14 := fun_mk (st := S_ManyList_init) l14 c14 k14
  have b14 := F14.binds (ps := ["self", "q", "n", "a", "b"]) fun _ _ _ _ _ _ us hl => match us, hl with | [_, _, _, _, _], _ => rfl
  have F15 := fun_mk (st := S_ManyList_signs) l15 c15 k15
  have b15 := F15.binds (ps := ["self"]) fun _ _ _ _ _ _ us hl => match us, hl with | [_], _ => rfl
  have F16 := fun_mk (st := S_ManyList_length) l16 c16 k16
  have b16 := F16.binds (ps := ["self"]) fun _ _ _ _ _ _ us hl => match us, hl with | [_], _ => rfl
  have F17 := fun_mk (st := S_ManyList_rests) l17 c17 k17
  have b17 := F17.binds (ps := ["self"]) fun _ _ _ _ _ _ us hl => match us, hl with | [_], _ => rfl
  have F18 := fun_mk (st := S_ManyList_has) l18 c18 k18
  have b18 := F18.binds (ps := ["self", "word"]) fun _ _ _ _ _ _ us hl => match us, hl with | [_, _], _ => rfl
  have F19 := fun_mk (st := S_words_ahead_of) l19 c19 k19
  have b19 := F19.binds (ps := ["many", "came"]) fun _ _ _ _ _ _ us hl => match us, hl with | [_, _], _ => rfl
  have F20 := fun_mk (st := S_many_mended) l20 c20 k20
  have b20 := F20.binds (ps := ["many", "came"]) fun _ _ _ _ _ _ us hl => match us, hl with | [_, _], _ => rfl
  have F21 := fun_mk (st := S_code_of) l21 c21 k21
  have b21 := F21.binds (ps := ["q", "n", "sign", "shape_left", "sum_left"]) fun _ _ _ _ _ _ us hl => match us, hl with | [_, _, _, _, _], _ => rfl
  have F22 := fun_mk (st := S_ways_behind) l22 c22 k22
  have b22 := F22.binds (ps := ["q", "n", "place", "later", "code"]) fun _ _ _ _ _ _ us hl => match us, hl with | [_, _, _, _, _], _ => rfl
  have F23 := fun_mk (st := S_tables_of) l23 c23 k23
  have b23 := F23.binds (ps := ["q", "n"]) fun _ _ _ _ _ _ us hl => match us, hl with | [_, _], _ => rfl
  have F24 := fun_mk (st := S_Walk_init) l24 c24 k24
  have b24 := F24.binds (ps := ["self", "many"]) fun _ _ _ _ _ _ us hl => match us, hl with | [_, _], _ => rfl
  have F25 := fun_mk (st := S_Walk_left_by) l25 c25 k25
  have b25 := F25.binds (ps := ["self", "sign"]) fun _ _ _ _ _ _ us hl => match us, hl with | [_, _], _ => rfl
  have F26 := fun_mk (st := S_Walk_ways) l26 c26 k26
  have b26 := F26.binds (ps := ["self", "sign"]) fun _ _ _ _ _ _ us hl => match us, hl with | [_, _], _ => rfl
  have F27 := fun_mk (st := S_Walk_ways_below) l27 c27 k27
  have b27 := F27.binds (ps := ["self", "sign"]) fun _ _ _ _ _ _ us hl => match us, hl with | [_, _], _ => rfl
  have F28 := fun_mk (st := S_Walk_go) l28 c28 k28
  have b28 := F28.binds (ps := ["self", "sign"]) fun _ _ _ _ _ _ us hl => match us, hl with | [_, _], _ => rfl
  have F29 := fun_mk (st := S_how_many_many) l29 c29 k29
  have b29 := F29.binds (ps := ["many"]) fun _ _ _ _ _ _ us hl => match us, hl with | [_], _ => rfl
  have F30 := fun_mk (st := S_many_member) l30 c30 k30
  have b30 := F30.binds (ps := ["many", "k"]) fun _ _ _ _ _ _ us hl => match us, hl with | [_, _], _ => rfl
  have F31 := fun_mk (st := S_many_number) l31 c31 k31
  have b31 := F31.binds (ps := ["many", "word"]) fun _ _ _ _ _ _ us hl => match us, hl with | [_, _], _ => rfl
  have F32 := fun_mk (st := S_want_length) l32 c32 k32
  have b32 := F32.binds (ps := ["n"]) fun _ _ _ _ _ _ us hl => match us, hl with | [_], _ => rfl
  have F33 := fun_mk (st := S_PlainList_init) l33 c33 k33
  have b33 := F33.binds (ps := ["self", "n", "a"]) fun _ _ _ _ _ _ us hl => match us, hl with | [_, _, _], _ => rfl
  have F34 := fun_mk (st := S_PlainList_length) l34 c34 k34
  have b34 := F34.binds (ps := ["self"]) fun _ _ _ _ _ _ us hl => match us, hl with | [_], _ => rfl
  have F35 := fun_mk (st := S_PlainList_rest) l35 c35 k35
  have b35 := F35.binds (ps := ["self"]) fun _ _ _ _ _ _ us hl => match us, hl with | [_], _ => rfl
  have F36 := fun_mk (st := S_PlainList_has) l36 c36 k36
  have b36 := F36.binds (ps := ["self", "word"]) fun _ _ _ _ _ _ us hl => match us, hl with | [_, _], _ => rfl
  have F37 := fun_mk (st := S_rows_behind) l37 c37 k37
  have b37 := F37.binds (ps := ["n"]) fun _ _ _ _ _ _ us hl => match us, hl with | [_], _ => rfl
  have F38 := fun_mk (st := S_how_many) l38 c38 k38
  have b38 := F38.binds (ps := ["plain"]) fun _ _ _ _ _ _ us hl => match us, hl with | [_], _ => rfl
  have F39 := fun_mk (st := S_member) l39 c39 k39
  have b39 := F39.binds (ps := ["plain", "k"]) fun _ _ _ _ _ _ us hl => match us, hl with | [_, _], _ => rfl
  have F40 := fun_mk (st := S_number_of) l40 c40 k40
  have b40 := F40.binds (ps := ["plain", "word"]) fun _ _ _ _ _ _ us hl => match us, hl with | [_, _], _ => rfl
  have F41 := fun_mk (st := S_words_ahead) l41 c41 k41
  have b41 := F41.binds (ps := ["n", "came"]) fun _ _ _ _ _ _ us hl => match us, hl with | [_, _], _ => rfl
  have F42 := fun_mk (st := S_mended) l42 c42 k42
  have b42 := F42.binds (ps := ["plain", "came"]) fun _ _ _ _ _ _ us hl => match us, hl with | [_, _], _ => rfl
  have F43 := fun_mk (st := S_StrongList_init) l43 c43 k43
  have b43 := F43.binds (ps := ["self", "n", "a"]) fun _ _ _ _ _ _ us hl => match us, hl with | [_, _, _], _ => rfl
  have F44 := fun_mk (st := S_StrongList_length) l44 c44 k44
  have b44 := F44.binds (ps := ["self"]) fun _ _ _ _ _ _ us hl => match us, hl with | [_], _ => rfl
  have F45 := fun_mk (st := S_StrongList_rest) l45 c45 k45
  have b45 := F45.binds (ps := ["self"]) fun _ _ _ _ _ _ us hl => match us, hl with | [_], _ => rfl
  have F46 := fun_mk (st := S_StrongList_has) l46 c46 k46
  have b46 := F46.binds (ps := ["self", "word"]) fun _ _ _ _ _ _ us hl => match us, hl with | [_, _], _ => rfl
  have F47 := fun_mk (st := S_ring_before) l47 c47 k47
  have b47 := F47.binds (ps := ["n", "came"]) fun _ _ _ _ _ _ us hl => match us, hl with | [_, _], _ => rfl
  have F48 := fun_mk (st := S_strong_mended) l48 c48 k48
  have b48 := F48.binds (ps := ["strong", "came"]) fun _ _ _ _ _ _ us hl => match us, hl with | [_, _], _ => rfl
  have F49 := fun_mk (st := S_tails) l49 c49 k49
  have b49 := F49.binds (ps := ["n"]) fun _ _ _ _ _ _ us hl => match us, hl with | [_], _ => rfl
  have F50 := fun_mk (st := S_how_many_strong) l50 c50 k50
  have b50 := F50.binds (ps := ["strong"]) fun _ _ _ _ _ _ us hl => match us, hl with | [_], _ => rfl
  have F51 := fun_mk (st := S_strong_member) l51 c51 k51
  have b51 := F51.binds (ps := ["strong", "k"]) fun _ _ _ _ _ _ us hl => match us, hl with | [_, _], _ => rfl
  have F52 := fun_mk (st := S_strong_number) l52 c52 k52
  have b52 := F52.binds (ps := ["strong", "word"]) fun _ _ _ _ _ _ us hl => match us, hl with | [_, _], _ => rfl
  have F53 := fun_mk (st := S_show_word) l53 c53 k53
  have b53 := F53.binds (ps := ["q", "word"]) fun _ _ _ _ _ _ us hl => match us, hl with | [_, _], _ => rfl
  have F54 := fun_mk (st := S_read_word) l54 c54 k54
  have b54 := F54.binds (ps := ["q", "text"]) fun _ _ _ _ _ _ us hl => match us, hl with | [_, _], _ => rfl
  have F55 := fun_mk (st := S_is_figures) l55 c55 k55
  have b55 := F55.binds (ps := ["part"]) fun _ _ _ _ _ _ us hl => match us, hl with | [_], _ => rfl
  have F56 := fun_mk (st := S_parts_of) l56 c56 k56
  have b56 := F56.binds (ps := ["row"]) fun _ _ _ _ _ _ us hl => match us, hl with | [_], _ => rfl
  have F57 := fun_mk (st := S_shown) l57 c57 k57
  have b57 := F57.binds (ps := ["q", "word"]) fun _ _ _ _ _ _ us hl => match us, hl with | [_, _], _ => rfl
  have F58 := fun_mk (st := S_word_read) l58 c58 k58
  have b58 := F58.binds (ps := ["q", "part"]) fun _ _ _ _ _ _ us hl => match us, hl with | [_, _], _ => rfl
  have F59 := fun_mk (st := S_Desk_init) l59 c59 k59
  have b59 := F59.binds (ps := ["self"]) fun _ _ _ _ _ _ us hl => match us, hl with | [_], _ => rfl
  have F60 := fun_mk (st := S_Desk_signs) l60 c60 k60
  have b60 := F60.binds (ps := ["self"]) fun _ _ _ _ _ _ us hl => match us, hl with | [_], _ => rfl
  have F61 := fun_mk (st := S_Desk_keep) l61 c61 k61
  have b61 := F61.binds (ps := ["self", "word", "numbers"]) fun _ _ _ _ _ _ us hl => match us, hl with | [_, _, _], _ => rfl
  have F62 := fun_mk (st := S_Desk_many_members) l62 c62 k62
  have b62 := F62.binds (ps := ["self"]) fun _ _ _ _ _ _ us hl => match us, hl with | [_], _ => rfl
  have F63 := fun_mk (st := S_Desk_member_at) l63 c63 k63
  have b63 := F63.binds (ps := ["self", "k"]) fun _ _ _ _ _ _ us hl => match us, hl with | [_, _], _ => rfl
  have F64 := fun_mk (st := S_Desk_number_at) l64 c64 k64
  have b64 := F64.binds (ps := ["self", "word"]) fun _ _ _ _ _ _ us hl => match us, hl with | [_, _], _ => rfl
  have F65 := fun_mk (st := S_Desk_sent) l65 c65 k65
  have b65 := F65.binds (ps := ["self", "came"]) fun _ _ _ _ _ _ us hl => match us, hl with | [_, _], _ => rfl
  have F66 := fun_mk (st := S_Desk_mend) l66 c66 k66
  have b66 := F66.binds (ps := ["self", "part"]) fun _ _ _ _ _ _ us hl => match us, hl with | [_, _], _ => rfl
  have F67 := fun_mk (st := S_Desk_near) l67 c67 k67
  have b67 := F67.binds (ps := ["self", "one", "other"]) fun _ _ _ _ _ _ us hl => match us, hl with | [_, _, _], _ => rfl
  have F68 := fun_mk (st := S_Desk_ring) l68 c68 k68
  have b68 := F68.binds (ps := ["self", "part"]) fun _ _ _ _ _ _ us hl => match us, hl with | [_, _], _ => rfl
  have F69 := fun_mk (st := S_Desk_say) l69 c69 k69
  have b69 := F69.binds (ps := ["self", "row"]) fun _ _ _ _ _ _ us hl => match us, hl with | [_, _], _ => rfl
  have F70 := fun_mk (st := S_L_at) l70 c70 k70
  have b70 := F70.binds (ps := ["_law_script", "_law_k"]) fun _ _ _ _ _ _ us hl => match us, hl with | [_, _], _ => rfl
  have F71 := fun_mk (st := S_L_pot) l71 c71 k71
  have b71 := F71.binds (ps := ["_law_script", "_law_k"]) fun _ _ _ _ _ _ us hl => match us, hl with | [_, _], _ => rfl
  have F72 := fun_mk (st := S_L_digit) l72 c72 k72
  have b72 := F72.binds (ps := ["_law_pot_here", "_law_base"]) fun _ _ _ _ _ _ us hl => match us, hl with | [_, _], _ => rfl
  have F73 := fun_mk (st := S_L_kept) l73 c73 k73
  have b73 := F73.binds (ps := ["_law_pot_here", "_law_desk"]) fun _ _ _ _ _ _ us hl => match us, hl with | [_, _], _ => rfl
  have F74 := fun_mk (st := S_L_dashed) l74 c74 k74
  have b74 := F74.binds (ps := ["_law_text"]) fun _ _ _ _ _ _ us hl => match us, hl with | [_], _ => rfl
  have F75 := fun_mk (st := S_L_mends) l75 c75 k75
  have b75 := F75.binds (ps := ["_law_desk", "_law_text", "_law_came", "_law_far", "_law_row"]) fun _ _ _ _ _ _ us hl => match us, hl with | [_, _, _, _, _], _ => rfl
  have F76 := fun_mk (st := S_law) l76 c76 k76
  have b76 := F76.binds (ps := ["_law_script"]) fun _ _ _ _ _ _ us hl => match us, hl with | [_], _ => rfl
  exact ⟨PySem.W.fnOf "law" "law" (defArgs S_law) (defBody S_law) (defScope S_law) .none kV76 dc76 pm76 an76 cd76 ct76, fun s v => .of_eq rfl, fun base _ _ =>
    all_ok (P := l.prog) (w := w) (base := base) (T := {
      a_is_number := f0, fd_is_number := _, g_is_number := PySem.W.mg_of X G a0, F_is_number := F0, b_is_number := b0,
      a_want_count := f1, fd_want_count := _, g_want_count := PySem.W.mg_of X G a1, F_want_count := F1, b_want_count := b1,
      a_is_sign := f2, fd_is_sign := _, g_is_sign := PySem.W.mg_of X G a2, F_is_sign := F2, b_is_sign := b2,
      a_want_word := f3, fd_want_word := _, g_want_word := PySem.W.mg_of X G a3, F_want_word := F3, b_want_word := b3,
      a_lengths_from := f4, fd_lengths_from := _, g_lengths_from := PySem.W.mg_of X G a4, F_lengths_from := F4, b_lengths_from := b4,
      a_first_sign := f5, fd_first_sign := _, g_first_sign := PySem.W.mg_of X G a5, F_first_sign := F5, b_first_sign := b5,
      a_common_row := f6, fd_common_row := _, g_common_row := PySem.W.mg_of X G a6, F_common_row := F6, b_common_row := b6,
      a_nearness := f7, fd_nearness := _, g_nearness := PySem.W.mg_of X G a7, F_nearness := F7, b_nearness := b7,
      a_lost_ring := f8, fd_lost_ring := _, g_lost_ring := PySem.W.mg_of X G a8, F_lost_ring := F8, b_lost_ring := b8,
      a_put_ring := f9, fd_put_ring := _, g_put_ring := PySem.W.mg_of X G a9, F_put_ring := F9, b_put_ring := b9,
      a_changed_ring := f10, fd_changed_ring := _, g_changed_ring := PySem.W.mg_of X G a10, F_changed_ring := F10, b_changed_ring := b10,
      a_shape := f11, fd_shape := _, g_shape := PySem.W.mg_of X G a11, F_shape := F11, b_shape := b11,
      a_weighted := f12, fd_weighted := _, g_weighted := PySem.W.mg_of X G a12, F_weighted := F12, b_weighted := b12,
      a_want_rest := f13, fd_want_rest := _, g_want_rest := PySem.W.mg_of X G a13, F_want_rest := F13, b_want_rest := b13,
      a_ManyList_init := f14, fd_ManyList_init := _, F_ManyList_init := F14, b_ManyList_init := b14,
      mk_ManyList := ⟨mk_ManyList, a14, i14, kc_ManyList⟩,
      a_ManyList_signs := f15, fd_ManyList_signs := _, F_ManyList_signs := F15, b_ManyList_signs := b15,
      m_ManyList_signs := ⟨a15, i15, k15⟩,
      a_ManyList_length := f16, fd_ManyList_length := _, F_ManyList_length := F16, b_ManyList_length := b16,
      m_ManyList_length := ⟨a16, i16, k16⟩,
      a_ManyList_rests := f17, fd_ManyList_rests := _, F_ManyList_rests := F17, b_ManyList_rests := b17,
      m_ManyList_rests := ⟨a17, i17, k17⟩,
      a_ManyList_has := f18, fd_ManyList_has := _, F_ManyList_has := F18, b_ManyList_has := b18,
      m_ManyList_has := ⟨a18, i18, k18⟩,
      a_words_ahead_of := f19, fd_words_ahead_of := _, g_words_ahead_of := PySem.W.mg_of X G a19, F_words_ahead_of := F19, b_words_ahead_of := b19,
      a_many_mended := f20, fd_many_mended := _, g_many_mended := PySem.W.mg_of X G a20, F_many_mended := F20, b_many_mended := b20,
      a_code_of := f21, fd_code_of := _, g_code_of := PySem.W.mg_of X G a21, F_code_of := F21, b_code_of := b21,
      a_ways_behind := f22, fd_ways_behind := _, g_ways_behind := PySem.W.mg_of X G a22, F_ways_behind := F22, b_ways_behind := b22,
      a_tables_of := f23, fd_tables_of := _, g_tables_of := PySem.W.mg_of X G a23, F_tables_of := F23, b_tables_of := b23,
      a_Walk_init := f24, fd_Walk_init := _, F_Walk_init := F24, b_Walk_init := b24,
      mk_Walk := ⟨mk_Walk, a24, i24, kc_Walk⟩,
      a_Walk_left_by := f25, fd_Walk_left_by := _, F_Walk_left_by := F25, b_Walk_left_by := b25,
      m_Walk_left_by := ⟨a25, i25, k25⟩,
      a_Walk_ways := f26, fd_Walk_ways := _, F_Walk_ways := F26, b_Walk_ways := b26,
      m_Walk_ways := ⟨a26, i26, k26⟩,
      a_Walk_ways_below := f27, fd_Walk_ways_below := _, F_Walk_ways_below := F27, b_Walk_ways_below := b27,
      m_Walk_ways_below := ⟨a27, i27, k27⟩,
      a_Walk_go := f28, fd_Walk_go := _, F_Walk_go := F28, b_Walk_go := b28,
      m_Walk_go := ⟨a28, i28, k28⟩,
      a_how_many_many := f29, fd_how_many_many := _, g_how_many_many := PySem.W.mg_of X G a29, F_how_many_many := F29, b_how_many_many := b29,
      a_many_member := f30, fd_many_member := _, g_many_member := PySem.W.mg_of X G a30, F_many_member := F30, b_many_member := b30,
      a_many_number := f31, fd_many_number := _, g_many_number := PySem.W.mg_of X G a31, F_many_number := F31, b_many_number := b31,
      a_want_length := f32, fd_want_length := _, g_want_length := PySem.W.mg_of X G a32, F_want_length := F32, b_want_length := b32,
      a_PlainList_init := f33, fd_PlainList_init := _, F_PlainList_init := F33, b_PlainList_init := b33,
      mk_PlainList := ⟨mk_PlainList, a33, i33, kc_PlainList⟩,
      a_PlainList_length := f34, fd_PlainList_length := _, F_PlainList_length := F34, b_PlainList_length := b34,
      m_PlainList_length := ⟨a34, i34, k34⟩,
      a_PlainList_rest := f35, fd_PlainList_rest := _, F_PlainList_rest := F35, b_PlainList_rest := b35,
      m_PlainList_rest := ⟨a35, i35, k35⟩,
      a_PlainList_has := f36, fd_PlainList_has := _, F_PlainList_has := F36, b_PlainList_has := b36,
      m_PlainList_has := ⟨a36, i36, k36⟩,
      a_rows_behind := f37, fd_rows_behind := _, g_rows_behind := PySem.W.mg_of X G a37, F_rows_behind := F37, b_rows_behind := b37,
      a_how_many := f38, fd_how_many := _, g_how_many := PySem.W.mg_of X G a38, F_how_many := F38, b_how_many := b38,
      a_member := f39, fd_member := _, g_member := PySem.W.mg_of X G a39, F_member := F39, b_member := b39,
      a_number_of := f40, fd_number_of := _, g_number_of := PySem.W.mg_of X G a40, F_number_of := F40, b_number_of := b40,
      a_words_ahead := f41, fd_words_ahead := _, g_words_ahead := PySem.W.mg_of X G a41, F_words_ahead := F41, b_words_ahead := b41,
      a_mended := f42, fd_mended := _, g_mended := PySem.W.mg_of X G a42, F_mended := F42, b_mended := b42,
      a_StrongList_init := f43, fd_StrongList_init := _, F_StrongList_init := F43, b_StrongList_init := b43,
      mk_StrongList := ⟨mk_StrongList, a43, i43, kc_StrongList⟩,
      a_StrongList_length := f44, fd_StrongList_length := _, F_StrongList_length := F44, b_StrongList_length := b44,
      m_StrongList_length := ⟨a44, i44, k44⟩,
      a_StrongList_rest := f45, fd_StrongList_rest := _, F_StrongList_rest := F45, b_StrongList_rest := b45,
      m_StrongList_rest := ⟨a45, i45, k45⟩,
      a_StrongList_has := f46, fd_StrongList_has := _, F_StrongList_has := F46, b_StrongList_has := b46,
      m_StrongList_has := ⟨a46, i46, k46⟩,
      a_ring_before := f47, fd_ring_before := _, g_ring_before := PySem.W.mg_of X G a47, F_ring_before := F47, b_ring_before := b47,
      a_strong_mended := f48, fd_strong_mended := _, g_strong_mended := PySem.W.mg_of X G a48, F_strong_mended := F48, b_strong_mended := b48,
      a_tails := f49, fd_tails := _, g_tails := PySem.W.mg_of X G a49, F_tails := F49, b_tails := b49,
      a_how_many_strong := f50, fd_how_many_strong := _, g_how_many_strong := PySem.W.mg_of X G a50, F_how_many_strong := F50, b_how_many_strong := b50,
      a_strong_member := f51, fd_strong_member := _, g_strong_member := PySem.W.mg_of X G a51, F_strong_member := F51, b_strong_member := b51,
      a_strong_number := f52, fd_strong_number := _, g_strong_number := PySem.W.mg_of X G a52, F_strong_number := F52, b_strong_number := b52,
      a_show_word := f53, fd_show_word := _, g_show_word := PySem.W.mg_of X G a53, F_show_word := F53, b_show_word := b53,
      a_read_word := f54, fd_read_word := _, g_read_word := PySem.W.mg_of X G a54, F_read_word := F54, b_read_word := b54,
      a_is_figures := f55, fd_is_figures := _, g_is_figures := PySem.W.mg_of X G a55, F_is_figures := F55, b_is_figures := b55,
      a_parts_of := f56, fd_parts_of := _, g_parts_of := PySem.W.mg_of X G a56, F_parts_of := F56, b_parts_of := b56,
      a_shown := f57, fd_shown := _, g_shown := PySem.W.mg_of X G a57, F_shown := F57, b_shown := b57,
      a_word_read := f58, fd_word_read := _, g_word_read := PySem.W.mg_of X G a58, F_word_read := F58, b_word_read := b58,
      a_Desk_init := f59, fd_Desk_init := _, F_Desk_init := F59, b_Desk_init := b59,
      mk_Desk := ⟨mk_Desk, a59, i59, kc_Desk⟩,
      a_Desk_signs := f60, fd_Desk_signs := _, F_Desk_signs := F60, b_Desk_signs := b60,
      m_Desk_signs := ⟨a60, i60, k60⟩,
      a_Desk_keep := f61, fd_Desk_keep := _, F_Desk_keep := F61, b_Desk_keep := b61,
      m_Desk_keep := ⟨a61, i61, k61⟩,
      a_Desk_many_members := f62, fd_Desk_many_members := _, F_Desk_many_members := F62, b_Desk_many_members := b62,
      m_Desk_many_members := ⟨a62, i62, k62⟩,
      a_Desk_member_at := f63, fd_Desk_member_at := _, F_Desk_member_at := F63, b_Desk_member_at := b63,
      m_Desk_member_at := ⟨a63, i63, k63⟩,
      a_Desk_number_at := f64, fd_Desk_number_at := _, F_Desk_number_at := F64, b_Desk_number_at := b64,
      m_Desk_number_at := ⟨a64, i64, k64⟩,
      a_Desk_sent := f65, fd_Desk_sent := _, F_Desk_sent := F65, b_Desk_sent := b65,
      m_Desk_sent := ⟨a65, i65, k65⟩,
      a_Desk_mend := f66, fd_Desk_mend := _, F_Desk_mend := F66, b_Desk_mend := b66,
      m_Desk_mend := ⟨a66, i66, k66⟩,
      a_Desk_near := f67, fd_Desk_near := _, F_Desk_near := F67, b_Desk_near := b67,
      m_Desk_near := ⟨a67, i67, k67⟩,
      a_Desk_ring := f68, fd_Desk_ring := _, F_Desk_ring := F68, b_Desk_ring := b68,
      m_Desk_ring := ⟨a68, i68, k68⟩,
      a_Desk_say := f69, fd_Desk_say := _, F_Desk_say := F69, b_Desk_say := b69,
      m_Desk_say := ⟨a69, i69, k69⟩,
      a_L_at := f70, fd_L_at := _, g_L_at := PySem.W.mg_of X G a70, F_L_at := F70, b_L_at := b70,
      a_L_pot := f71, fd_L_pot := _, g_L_pot := PySem.W.mg_of X G a71, F_L_pot := F71, b_L_pot := b71,
      a_L_digit := f72, fd_L_digit := _, g_L_digit := PySem.W.mg_of X G a72, F_L_digit := F72, b_L_digit := b72,
      a_L_kept := f73, fd_L_kept := _, g_L_kept := PySem.W.mg_of X G a73, F_L_kept := F73, b_L_kept := b73,
      a_L_dashed := f74, fd_L_dashed := _, g_L_dashed := PySem.W.mg_of X G a74, F_L_dashed := F74, b_L_dashed := b74,
      a_L_mends := f75, fd_L_mends := _, g_L_mends := PySem.W.mg_of X G a75, F_L_mends := F75, b_L_mends := b75,
      a_law := fa, fd_law := _, g_law := PySem.W.mg_of X G a76, F_law := F76, b_law := b76,
      ac_ManyList := C_ManyList, gx_ManyList := PySem.W.mg_of X G gx_ManyList, nx_ManyList := gx_ManyList, cl_ManyList := ⟨pg_ManyList, hd_ManyList, po_ManyList, sa_ManyList⟩,
      na_ManyList_many_signs := na_ManyList_many_signs,
      na_ManyList_many := na_ManyList_many,
      na_ManyList_both_left := na_ManyList_both_left,
      ac_Walk := C_Walk, gx_Walk := PySem.W.mg_of X G gx_Walk, nx_Walk := gx_Walk, cl_Walk := ⟨pg_Walk, hd_Walk, po_Walk, sa_Walk⟩,
      na_Walk_q := na_Walk_q,
      na_Walk_n := na_Walk_n,
      na_Walk_tables := na_Walk_tables,
      na_Walk_place := na_Walk_place,
      na_Walk_ahead := na_Walk_ahead,
      na_Walk_shape_left := na_Walk_shape_left,
      na_Walk_sum_left := na_Walk_sum_left,
      ac_PlainList := C_PlainList, gx_PlainList := PySem.W.mg_of X G gx_PlainList, nx_PlainList := gx_PlainList, cl_PlainList := ⟨pg_PlainList, hd_PlainList, po_PlainList, sa_PlainList⟩,
      na_PlainList_many := na_PlainList_many,
      na_PlainList_left := na_PlainList_left,
      ac_StrongList := C_StrongList, gx_StrongList := PySem.W.mg_of X G gx_StrongList, nx_StrongList := gx_StrongList, cl_StrongList := ⟨pg_StrongList, hd_StrongList, po_StrongList, sa_StrongList⟩,
      na_StrongList_many := na_StrongList_many,
      na_StrongList_left := na_StrongList_left,
      ac_Desk := C_Desk, gx_Desk := PySem.W.mg_of X G gx_Desk, nx_Desk := gx_Desk, cl_Desk := ⟨pg_Desk, hd_Desk, po_Desk, sa_Desk⟩,
      na_Desk_kept := na_Desk_kept,
      is_ManyList := ⟨⟨pg_ManyList, hd_ManyList, po_ManyList, sa_ManyList⟩, ia_ManyList, xn0, xt0, im_ManyList⟩,
      is_PlainList := ⟨⟨pg_PlainList, hd_PlainList, po_PlainList, sa_PlainList⟩, ia_PlainList, xn0, xt0, im_PlainList⟩,
      is_StrongList := ⟨⟨pg_StrongList, hd_StrongList, po_StrongList, sa_StrongList⟩, ia_StrongList, xn0, xt0, im_StrongList⟩,
      ow_ManyList_ManyList := kit_own it_ManyList ii_ManyList io_ManyList_ManyList io_ManyList_ManyList,
      ow_ManyList_PlainList := kit_own it_PlainList ii_PlainList io_PlainList_PlainList io_ManyList_PlainList,
      ow_ManyList_StrongList := kit_own it_StrongList ii_StrongList io_StrongList_StrongList io_ManyList_StrongList,
      ow_PlainList_ManyList := kit_own it_ManyList ii_ManyList io_ManyList_ManyList io_PlainList_ManyList,
      ow_PlainList_PlainList := kit_own it_PlainList ii_PlainList io_PlainList_PlainList io_PlainList_PlainList,
      ow_PlainList_StrongList := kit_own it_StrongList ii_StrongList io_StrongList_StrongList io_PlainList_StrongList,
      ow_StrongList_ManyList := kit_own it_ManyList ii_ManyList io_ManyList_ManyList io_StrongList_ManyList,
      ow_StrongList_PlainList := kit_own it_PlainList ii_PlainList io_PlainList_PlainList io_StrongList_PlainList,
      ow_StrongList_StrongList := kit_own it_StrongList ii_StrongList io_StrongList_StrongList io_StrongList_StrongList,
      z_abs := PySem.W.mg_none_of X G z_abs,
      z_all := PySem.W.mg_none_of X G z_all,
      z_bool := PySem.W.mg_none_of X G z_bool,
      z_enumerate := PySem.W.mg_none_of X G z_enumerate,
      z_int := PySem.W.mg_none_of X G z_int,
      z_isinstance := PySem.W.mg_none_of X G z_isinstance,
      z_len := PySem.W.mg_none_of X G z_len,
      z_max := PySem.W.mg_none_of X G z_max,
      z_range := PySem.W.mg_none_of X G z_range,
      z_reversed := PySem.W.mg_none_of X G z_reversed,
      z_set := PySem.W.mg_none_of X G z_set,
      z_sorted := PySem.W.mg_none_of X G z_sorted,
      z_str := PySem.W.mg_none_of X G z_str,
      z_sum := PySem.W.mg_none_of X G z_sum,
      z_tuple := PySem.W.mg_none_of X G z_tuple,
      z_zip := PySem.W.mg_none_of X G z_zip,
      t_EMPTY := t_EMPTY, c_EMPTY := PySem.W.mg_of X G c_EMPTY,
      t_FIGURES := t_FIGURES, c_FIGURES := PySem.W.mg_of X G c_FIGURES,
      t_LEAST_MANY := t_LEAST_MANY, c_LEAST_MANY := PySem.W.mg_of X G c_LEAST_MANY,
      t_LEAST_SIGNS := t_LEAST_SIGNS, c_LEAST_SIGNS := PySem.W.mg_of X G c_LEAST_SIGNS,
      t_MOST_FIGURES := t_MOST_FIGURES, c_MOST_FIGURES := PySem.W.mg_of X G c_MOST_FIGURES,
      t_MOST_LENGTH := t_MOST_LENGTH, c_MOST_LENGTH := PySem.W.mg_of X G c_MOST_LENGTH,
      t_MOST_MANY := t_MOST_MANY, c_MOST_MANY := PySem.W.mg_of X G c_MOST_MANY,
      t_MOST_MANY_SIGNS := t_MOST_MANY_SIGNS, c_MOST_MANY_SIGNS := PySem.W.mg_of X G c_MOST_MANY_SIGNS,
      t_MOST_SIGNS := t_MOST_SIGNS, c_MOST_SIGNS := PySem.W.mg_of X G c_MOST_SIGNS,
      t_MOST_STRONG := t_MOST_STRONG, c_MOST_STRONG := PySem.W.mg_of X G c_MOST_STRONG,
      t_ROWS := t_ROWS, c_ROWS := PySem.W.mg_of X G c_ROWS, d_ROWS := ⟨⟨e_ROWS, n_ROWS, ⟨kr_ROWS, kl_ROWS, ks_ROWS⟩, kt_ROWS⟩⟩,
      t_SIGNS := t_SIGNS, c_SIGNS := PySem.W.mg_of X G c_SIGNS })⟩
end LW
open PySem PySem.W PyProof.Rows in
set_option maxRecDepth 100000 in
set_option maxHeartbeats 0 in
theorem PySem.Challenge.cw_lostmark_k95_whole_through_texts_holds : PySem.Challenge.rw_lostmark_k95_whole_through_texts.Holds := by
  w_on; o_law; k_head; (case hw => w_witness2)
  k_fill
  refine L2.walk_ofK (n := 63) (k := 11) (x := "_law_script") (CX := L2.CX0) (sp := LW.sp_law) rfl (by decide) rfl ⟨rfl, by decide, by decide⟩ (fun w h Y => PySem.W.kIn_of Y) ?F (fun K H a ns hl _ hS => ⟨a, ns, rfl, hS, hl, fun _ => rfl⟩) (fun _ _ _ _ z => z)
  case F =>
    intro w mg fa h KX G hmg
    refine' LW.all_mk KX G hmg ?gx_ManyList ?pg_ManyList ?hd_ManyList ?po_ManyList ?sa_ManyList ?mk_ManyList ?kc_ManyList ?na_ManyList_many_signs ?na_ManyList_many ?na_ManyList_both_left ?gx_Walk ?pg_Walk ?hd_Walk ?po_Walk ?sa_Walk ?mk_Walk ?kc_Walk ?na_Walk_q ?na_Walk_n ?na_Walk_tables ?na_Walk_place ?na_Walk_ahead ?na_Walk_shape_left ?na_Walk_sum_left ?gx_PlainList ?pg_PlainList ?hd_PlainList ?po_PlainList ?sa_PlainList ?mk_PlainList ?kc_PlainList ?na_PlainList_many ?na_PlainList_left ?gx_StrongList ?pg_StrongList ?hd_StrongList ?po_StrongList ?sa_StrongList ?mk_StrongList ?kc_StrongList ?na_StrongList_many ?na_StrongList_left ?gx_Desk ?pg_Desk ?hd_Desk ?po_Desk ?sa_Desk ?mk_Desk ?kc_Desk ?na_Desk_kept ?xn0 ?xt0 ?ia_ManyList ?im_ManyList ?it_ManyList ?ii_ManyList ?io_ManyList_ManyList ?io_ManyList_PlainList ?io_ManyList_StrongList ?ia_PlainList ?im_PlainList ?it_PlainList ?ii_PlainList ?io_PlainList_ManyList ?io_PlainList_PlainList ?io_PlainList_StrongList ?ia_StrongList ?im_StrongList ?it_StrongList ?ii_StrongList ?io_StrongList_ManyList ?io_StrongList_PlainList ?io_StrongList_StrongList ?a0 ?l0 ?c0 ?k0 ?a1 ?l1 ?c1 ?k1 ?a2 ?l2 ?c2 ?k2 ?a3 ?l3 ?c3 ?k3 ?a4 ?l4 ?c4 ?k4 ?a5 ?l5 ?c5 ?k5 ?a6 ?l6 ?c6 ?k6 ?a7 ?l7 ?c7 ?k7 ?a8 ?l8 ?c8 ?k8 ?a9 ?l9 ?c9 ?k9 ?a10 ?l10 ?c10 ?k10 ?a11 ?l11 ?c11 ?k11 ?a12 ?l12 ?c12 ?k12 ?a13 ?l13 ?c13 ?k13 ?i14 ?a14 ?l14 ?c14 ?k14 ?i15 ?a15 ?l15 ?c15 ?k15 ?i16 ?a16 ?l16 ?c16 ?k16 ?i17 ?a17 ?l17 ?c17 ?k17 ?i18 ?a18 ?l18 ?c18 ?k18 ?a19 ?l19 ?c19 ?k19 ?a20 ?l20 ?c20 ?k20 ?a21 ?l21 ?c21 ?k21 ?a22 ?l22 ?c22 ?k22 ?a23 ?l23 ?c23 ?k23 ?i24 ?a24 ?l24 ?c24 ?k24 ?i25 ?a25 ?l25 ?c25 ?k25 ?i26 ?a26 ?l26 ?c26 ?k26 ?i27 ?a27 ?l27 ?c27 ?k27 ?i28 ?a28 ?l28 ?c28 ?k28 ?a29 ?l29 ?c29 ?k29 ?a30 ?l30 ?c30 ?k30 ?a31 ?l31 ?c31 ?k31 ?a32 ?l32 ?c32 ?k32 ?i33 ?a33 ?l33 ?c33 ?k33 ?i34 ?a34 ?l34 ?c34 ?k34 ?i35 ?a35 ?l35 ?c35 ?k35 ?i36 ?a36 ?l36 ?c36 ?k36 ?a37 ?l37 ?c37 ?k37 ?a38 ?l38 ?c38 ?k38 ?a39 ?l39 ?c39 ?k39 ?a40 ?l40 ?c40 ?k40 ?a41 ?l41 ?c41 ?k41 ?a42 ?l42 ?c42 ?k42 ?i43 ?a43 ?l43 ?c43 ?k43 ?i44 ?a44 ?l44 ?c44 ?k44 ?i45 ?a45 ?l45 ?c45 ?k45 ?i46 ?a46 ?l46 ?c46 ?k46 ?a47 ?l47 ?c47 ?k47 ?a48 ?l48 ?c48 ?k48 ?a49 ?l49 ?c49 ?k49 ?a50 ?l50 ?c50 ?k50 ?a51 ?l51 ?c51 ?k51 ?a52 ?l52 ?c52 ?k52 ?a53 ?l53 ?c53 ?k53 ?a54 ?l54 ?c54 ?k54 ?a55 ?l55 ?c55 ?k55 ?a56 ?l56 ?c56 ?k56 ?a57 ?l57 ?c57 ?k57 ?a58 ?l58 ?c58 ?k58 ?i59 ?a59 ?l59 ?c59 ?k59 ?i60 ?a60 ?l60 ?c60 ?k60 ?i61 ?a61 ?l61 ?c61 ?k61 ?i62 ?a62 ?l62 ?c62 ?k62 ?i63 ?a63 ?l63 ?c63 ?k63 ?i64 ?a64 ?l64 ?c64 ?k64 ?i65 ?a65 ?l65 ?c65 ?k65 ?i66 ?a66 ?l66 ?c66 ?k66 ?i67 ?a67 ?l67 ?c67 ?k67 ?i68 ?a68 ?l68 ?c68 ?k68 ?i69 ?a69 ?l69 ?c69 ?k69 ?a70 ?l70 ?c70 ?k70 ?a71 ?l71 ?c71 ?k71 ?a72 ?l72 ?c72 ?k72 ?a73 ?l73 ?c73 ?k73 ?a74 ?l74 ?c74 ?k74 ?a75 ?l75 ?c75 ?k75 ?a76 ?l76 ?c76 ?k76 ?z_abs ?z_all ?z_bool ?z_enumerate ?z_int ?z_isinstance ?z_len ?z_max ?z_range ?z_reversed ?z_set ?z_sorted ?z_str ?z_sum ?z_tuple ?z_zip ?c_EMPTY ?c_FIGURES ?c_LEAST_MANY ?c_LEAST_SIGNS ?c_MOST_FIGURES ?c_MOST_LENGTH ?c_MOST_MANY ?c_MOST_MANY_SIGNS ?c_MOST_SIGNS ?c_MOST_STRONG ?c_ROWS ?kr_ROWS ?kl_ROWS ?ks_ROWS ?kt_ROWS ?c_SIGNS
    (case gx_ManyList => k_is)
    (case pg_ManyList => k_is)
    (case hd_ManyList => k_is)
    (case po_ManyList => k_is)
    (case sa_ManyList => k_is)
    (case mk_ManyList => k_is)
    (case kc_ManyList => k_is)
    (case na_ManyList_many_signs => k_is)
    (case na_ManyList_many => k_is)
    (case na_ManyList_both_left => k_is)
    (case gx_Walk => k_is)
    (case pg_Walk => k_is)
    (case hd_Walk => k_is)
    (case po_Walk => k_is)
    (case sa_Walk => k_is)
    (case mk_Walk => k_is)
    (case kc_Walk => k_is)
    (case na_Walk_q => k_is)
    (case na_Walk_n => k_is)
    (case na_Walk_tables => k_is)
    (case na_Walk_place => k_is)
    (case na_Walk_ahead => k_is)
    (case na_Walk_shape_left => k_is)
    (case na_Walk_sum_left => k_is)
    (case gx_PlainList => k_is)
    (case pg_PlainList => k_is)
    (case hd_PlainList => k_is)
    (case po_PlainList => k_is)
    (case sa_PlainList => k_is)
    (case mk_PlainList => k_is)
    (case kc_PlainList => k_is)
    (case na_PlainList_many => k_is)
    (case na_PlainList_left => k_is)
    (case gx_StrongList => k_is)
    (case pg_StrongList => k_is)
    (case hd_StrongList => k_is)
    (case po_StrongList => k_is)
    (case sa_StrongList => k_is)
    (case mk_StrongList => k_is)
    (case kc_StrongList => k_is)
    (case na_StrongList_many => k_is)
    (case na_StrongList_left => k_is)
    (case gx_Desk => k_is)
    (case pg_Desk => k_is)
    (case hd_Desk => k_is)
    (case po_Desk => k_is)
    (case sa_Desk => k_is)
    (case mk_Desk => k_is)
    (case kc_Desk => k_is)
    (case na_Desk_kept => k_is)
    (case xn0 => k_is)
    (case xt0 => k_is)
    (case ia_ManyList => k_is)
    (case im_ManyList => k_is)
    (case it_ManyList => k_is)
    (case ii_ManyList => k_is)
    (case io_ManyList_ManyList => k_is)
    (case io_ManyList_PlainList => k_is)
    (case io_ManyList_StrongList => k_is)
    (case ia_PlainList => k_is)
    (case im_PlainList => k_is)
    (case it_PlainList => k_is)
    (case ii_PlainList => k_is)
    (case io_PlainList_ManyList => k_is)
    (case io_PlainList_PlainList => k_is)
    (case io_PlainList_StrongList => k_is)
    (case ia_StrongList => k_is)
    (case im_StrongList => k_is)
    (case it_StrongList => k_is)
    (case ii_StrongList => k_is)
    (case io_StrongList_ManyList => k_is)
    (case io_StrongList_PlainList => k_is)
    (case io_StrongList_StrongList => k_is)
    (case a0 => k_is)
    (case l0 => k_is)
    (case c0 => k_is)
    (case k0 => k_is)
    (case a1 => k_is)
    (case l1 => k_is)
    (case c1 => k_is)
    (case k1 => k_is)
    (case a2 => k_is)
    (case l2 => k_is)
    (case c2 => k_is)
    (case k2 => k_is)
    (case a3 => k_is)
    (case l3 => k_is)
    (case c3 => k_is)
    (case k3 => k_is)
    (case a4 => k_is)
    (case l4 => k_is)
    (case c4 => k_is)
    (case k4 => k_is)
    (case a5 => k_is)
    (case l5 => k_is)
    (case c5 => k_is)
    (case k5 => k_is)
    (case a6 => k_is)
    (case l6 => k_is)
    (case c6 => k_is)
    (case k6 => k_is)
    (case a7 => k_is)
    (case l7 => k_is)
    (case c7 => k_is)
    (case k7 => k_is)
    (case a8 => k_is)
    (case l8 => k_is)
    (case c8 => k_is)
    (case k8 => k_is)
    (case a9 => k_is)
    (case l9 => k_is)
    (case c9 => k_is)
    (case k9 => k_is)
    (case a10 => k_is)
    (case l10 => k_is)
    (case c10 => k_is)
    (case k10 => k_is)
    (case a11 => k_is)
    (case l11 => k_is)
    (case c11 => k_is)
    (case k11 => k_is)
    (case a12 => k_is)
    (case l12 => k_is)
    (case c12 => k_is)
    (case k12 => k_is)
    (case a13 => k_is)
    (case l13 => k_is)
    (case c13 => k_is)
    (case k13 => k_is)
    (case i14 => k_is)
    (case a14 => k_is)
    (case l14 => k_is)
    (case c14 => k_is)
    (case k14 => k_is)
    (case i15 => k_is)
    (case a15 => k_is)
    (case l15 => k_is)
    (case c15 => k_is)
    (case k15 => k_is)
    (case i16 => k_is)
    (case a16 => k_is)
    (case l16 => k_is)
    (case c16 => k_is)
    (case k16 => k_is)
    (case i17 => k_is)
    (case a17 => k_is)
    (case l17 => k_is)
    (case c17 => k_is)
    (case k17 => k_is)
    (case i18 => k_is)
    (case a18 => k_is)
    (case l18 => k_is)
    (case c18 => k_is)
    (case k18 => k_is)
    (case a19 => k_is)
    (case l19 => k_is)
    (case c19 => k_is)
    (case k19 => k_is)
    (case a20 => k_is)
    (case l20 => k_is)
    (case c20 => k_is)
    (case k20 => k_is)
    (case a21 => k_is)
    (case l21 => k_is)
    (case c21 => k_is)
    (case k21 => k_is)
    (case a22 => k_is)
    (case l22 => k_is)
    (case c22 => k_is)
    (case k22 => k_is)
    (case a23 => k_is)
    (case l23 => k_is)
    (case c23 => k_is)
    (case k23 => k_is)
    (case i24 => k_is)
    (case a24 => k_is)
    (case l24 => k_is)
    (case c24 => k_is)
    (case k24 => k_is)
    (case i25 => k_is)
    (case a25 => k_is)
    (case l25 => k_is)
    (case c25 => k_is)
    (case k25 => k_is)
    (case i26 => k_is)
    (case a26 => k_is)
    (case l26 => k_is)
    (case c26 => k_is)
    (case k26 => k_is)
    (case i27 => k_is)
    (case a27 => k_is)
    (case l27 => k_is)
    (case c27 => k_is)
    (case k27 => k_is)
    (case i28 => k_is)
    (case a28 => k_is)
    (case l28 => k_is)
    (case c28 => k_is)
    (case k28 => k_is)
    (case a29 => k_is)
    (case l29 => k_is)
    (case c29 => k_is)
    (case k29 => k_is)
    (case a30 => k_is)
    (case l30 => k_is)
    (case c30 => k_is)
    (case k30 => k_is)
    (case a31 => k_is)
    (case l31 => k_is)
    (case c31 => k_is)
    (case k31 => k_is)
    (case a32 => k_is)
    (case l32 => k_is)
    (case c32 => k_is)
    (case k32 => k_is)
    (case i33 => k_is)
    (case a33 => k_is)
    (case l33 => k_is)
    (case c33 => k_is)
    (case k33 => k_is)
    (case i34 => k_is)
    (case a34 => k_is)
    (case l34 => k_is)
    (case c34 => k_is)
    (case k34 => k_is)
    (case i35 => k_is)
    (case a35 => k_is)
    (case l35 => k_is)
    (case c35 => k_is)
    (case k35 => k_is)
    (case i36 => k_is)
    (case a36 => k_is)
    (case l36 => k_is)
    (case c36 => k_is)
    (case k36 => k_is)
    (case a37 => k_is)
    (case l37 => k_is)
    (case c37 => k_is)
    (case k37 => k_is)
    (case a38 => k_is)
    (case l38 => k_is)
    (case c38 => k_is)
    (case k38 => k_is)
    (case a39 => k_is)
    (case l39 => k_is)
    (case c39 => k_is)
    (case k39 => k_is)
    (case a40 => k_is)
    (case l40 => k_is)
    (case c40 => k_is)
    (case k40 => k_is)
    (case a41 => k_is)
    (case l41 => k_is)
    (case c41 => k_is)
    (case k41 => k_is)
    (case a42 => k_is)
    (case l42 => k_is)
    (case c42 => k_is)
    (case k42 => k_is)
    (case i43 => k_is)
    (case a43 => k_is)
    (case l43 => k_is)
    (case c43 => k_is)
    (case k43 => k_is)
    (case i44 => k_is)
    (case a44 => k_is)
    (case l44 => k_is)
    (case c44 => k_is)
    (case k44 => k_is)
    (case i45 => k_is)
    (case a45 => k_is)
    (case l45 => k_is)
    (case c45 => k_is)
    (case k45 => k_is)
    (case i46 => k_is)
    (case a46 => k_is)
    (case l46 => k_is)
    (case c46 => k_is)
    (case k46 => k_is)
    (case a47 => k_is)
    (case l47 => k_is)
    (case c47 => k_is)
    (case k47 => k_is)
    (case a48 => k_is)
    (case l48 => k_is)
    (case c48 => k_is)
    (case k48 => k_is)
    (case a49 => k_is)
    (case l49 => k_is)
    (case c49 => k_is)
    (case k49 => k_is)
    (case a50 => k_is)
    (case l50 => k_is)
    (case c50 => k_is)
    (case k50 => k_is)
    (case a51 => k_is)
    (case l51 => k_is)
    (case c51 => k_is)
    (case k51 => k_is)
    (case a52 => k_is)
    (case l52 => k_is)
    (case c52 => k_is)
    (case k52 => k_is)
    (case a53 => k_is)
    (case l53 => k_is)
    (case c53 => k_is)
    (case k53 => k_is)
    (case a54 => k_is)
    (case l54 => k_is)
    (case c54 => k_is)
    (case k54 => k_is)
    (case a55 => k_is)
    (case l55 => k_is)
    (case c55 => k_is)
    (case k55 => k_is)
    (case a56 => k_is)
    (case l56 => k_is)
    (case c56 => k_is)
    (case k56 => k_is)
    (case a57 => k_is)
    (case l57 => k_is)
    (case c57 => k_is)
    (case k57 => k_is)
    (case a58 => k_is)
    (case l58 => k_is)
    (case c58 => k_is)
    (case k58 => k_is)
    (case i59 => k_is)
    (case a59 => k_is)
    (case l59 => k_is)
    (case c59 => k_is)
    (case k59 => k_is)
    (case i60 => k_is)
    (case a60 => k_is)
    (case l60 => k_is)
    (case c60 => k_is)
    (case k60 => k_is)
    (case i61 => k_is)
    (case a61 => k_is)
    (case l61 => k_is)
    (case c61 => k_is)
    (case k61 => k_is)
    (case i62 => k_is)
    (case a62 => k_is)
    (case l62 => k_is)
    (case c62 => k_is)
    (case k62 => k_is)
    (case i63 => k_is)
    (case a63 => k_is)
    (case l63 => k_is)
    (case c63 => k_is)
    (case k63 => k_is)
    (case i64 => k_is)
    (case a64 => k_is)
    (case l64 => k_is)
    (case c64 => k_is)
    (case k64 => k_is)
    (case i65 => k_is)
    (case a65 => k_is)
    (case l65 => k_is)
    (case c65 => k_is)
    (case k65 => k_is)
    (case i66 => k_is)
    (case a66 => k_is)
    (case l66 => k_is)
    (case c66 => k_is)
    (case k66 => k_is)
    (case i67 => k_is)
    (case a67 => k_is)
    (case l67 => k_is)
    (case c67 => k_is)
    (case k67 => k_is)
    (case i68 => k_is)
    (case a68 => k_is)
    (case l68 => k_is)
    (case c68 => k_is)
    (case k68 => k_is)
    (case i69 => k_is)
    (case a69 => k_is)
    (case l69 => k_is)
    (case c69 => k_is)
    (case k69 => k_is)
    (case a70 => k_is)
    (case l70 => k_is)
    (case c70 => k_is)
    (case k70 => k_is)
    (case a71 => k_is)
    (case l71 => k_is)
    (case c71 => k_is)
    (case k71 => k_is)
    (case a72 => k_is)
    (case l72 => k_is)
    (case c72 => k_is)
    (case k72 => k_is)
    (case a73 => k_is)
    (case l73 => k_is)
    (case c73 => k_is)
    (case k73 => k_is)
    (case a74 => k_is)
    (case l74 => k_is)
    (case c74 => k_is)
    (case k74 => k_is)
    (case a75 => k_is)
    (case l75 => k_is)
    (case c75 => k_is)
    (case k75 => k_is)
    (case a76 => k_is)
    (case l76 => k_is)
    (case c76 => k_is)
    (case k76 => k_is)
    (case z_abs => k_is)
    (case z_all => k_is)
    (case z_bool => k_is)
    (case z_enumerate => k_is)
    (case z_int => k_is)
    (case z_isinstance => k_is)
    (case z_len => k_is)
    (case z_max => k_is)
    (case z_range => k_is)
    (case z_reversed => k_is)
    (case z_set => k_is)
    (case z_sorted => k_is)
    (case z_str => k_is)
    (case z_sum => k_is)
    (case z_tuple => k_is)
    (case z_zip => k_is)
    (case c_EMPTY => k_is)
    (case c_FIGURES => k_is)
    (case c_LEAST_MANY => k_is)
    (case c_LEAST_SIGNS => k_is)
    (case c_MOST_FIGURES => k_is)
    (case c_MOST_LENGTH => k_is)
    (case c_MOST_MANY => k_is)
    (case c_MOST_MANY_SIGNS => k_is)
    (case c_MOST_SIGNS => k_is)
    (case c_MOST_STRONG => k_is)
    (case c_ROWS => k_is)
    (case kr_ROWS => k_is)
    (case kl_ROWS => repeat (first | exact trivial | refine ⟨⟨_, _, rfl, rfl⟩, ?_⟩))
    (case ks_ROWS => rfl)
    (case kt_ROWS => rfl)
    (case c_SIGNS => k_is)
#print axioms PySem.Challenge.cw_lostmark_k95_whole_through_texts_holds
