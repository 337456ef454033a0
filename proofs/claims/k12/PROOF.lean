import PyProof.Rows.All
import Wide.All
import OpenK.AllK
import Wide.FinOn
import HandS.ForMost
import HandS.Evl
import HandS.IsInst
import HandS.TupAny
import HandS.TupMul
import HandS.Walk
import HandS.Zip
import HandS.Rev
import HandS.Conv
import HandS.More
import KE.KTupSum
import HandS.Wide
import HandS.Style
import HandS.Set
import HandS.SetFor
import HandS.TupLe
import HandS.Deep
import HandS.TupSets
import HandS.SortOrd
import HandS.TupLen
import PyProof.Draws
import PyProof.EnumMake
import KE.KDictDisplayH
import HandS.ExcCtx
import HandS.HotCalls
import HandS.ExcIs
import HandS.TryOnly
import HandS.WordsExc
import PyProof.Rows.ReprOcc
import HandS.Replace
import PySem.Challenge.RW_lostmark_k12_texts_there_and_back
set_option Elab.async false
set_option linter.all false
set_option maxRecDepth 100000
set_option maxHeartbeats 2000000
/-! general layer: rules of many kinds at once, steps of readings -/
namespace LM
open PySem PySem.Spec PyProof.Rows L2

/-! ### heaps -/
abbrev Ex := Evl.Ex
/-- all but p stands -/
def ExB (p : Addr) (H H' : Hp) : Prop := ∀ a o, a ≠ p → H a = some o → H' a = some o
theorem ExB.of {p : Addr} {H H' : Hp} (e : Ex H H') : ExB p H H' := fun a o _ h => e a o h
theorem ExB.trans {p : Addr} {H H1 H2 : Hp} (e : ExB p H H1) (e2 : ExB p H1 H2) : ExB p H H2 := fun a o n h => e2 a o n (e a o n h)
theorem ExB.refl {p : Addr} {H : Hp} : ExB p H H := fun _ _ _ h => h
theorem ExB.upd {p : Addr} {H : Hp} {o : HO} : ExB p H (upd H p o) := fun a u n h => by rw [upd_ne n]; exact h
theorem ExB.ex {p : Addr} {H H1 H2 : Hp} (e : ExB p H H1) (e2 : Ex H1 H2) : ExB p H H2 := fun a o n h => e2 a o (e a o n h)
theorem exExB {p : Addr} {H H1 H2 : Hp} (e : Ex H H1) (e2 : ExB p H1 H2) : ExB p H H2 := fun a o n h => e2 a o n (e a o h)
/-- a p that the first heap does not know -/
theorem ExB.new {p : Addr} {H H1 H2 : Hp} (e : Ex H H1) (e2 : ExB p H1 H2) (n : H p = none) : Ex H H2 := fun a o h => e2 a o (ne_of_none h n) (e a o h)
theorem exB_rd {p a : Addr} {H H' : Hp} {u : HO} {ys : List V} (e : ExB p H H') (hp : H p = some (.lst ys)) (hu : ∀ zs, u ≠ .lst zs) (h : Rd H a u) : Rd H' a u := by
  rcases h with h | ⟨o, h⟩
  · exact .inl (e _ _ (fun z => by subst z; rw [hp] at h; exact hu ys (Option.some.inj h).symm) h)
  · exact .inr ⟨o, e _ _ (fun z => by subst z; rw [hp] at h; cases h) h⟩
theorem exB_t {K : PySem.W.Frag} {p a : Addr} {H H' : Hp} {xs ys : List V} (e : ExB p H H') (hp : H p = some (.lst ys)) (h : SqT K H a xs) : SqT K H' a xs := by
  rcases h with h | h
  · exact .inl (exB_rd e hp (fun _ z => by cases z) h)
  · exact .inr h
theorem exB_l {K : PySem.W.Frag} {p a : Addr} {H H' : Hp} {xs : List V} (e : ExB p H H') (hn : a ≠ p) (h : SqL K H a xs) : SqL K H' a xs := by
  rcases h with (h | ⟨o, h⟩) | h
  · exact .inl (.inl (e _ _ hn h))
  · exact .inl (.inr ⟨o, e _ _ hn h⟩)
  · exact .inr h
theorem ne_l {p a : Addr} {H : Hp} {o : HO} (h : H a = some o) (n : H p = none) : a ≠ p := ne_of_none h n
theorem exH {H H' : Hp} {a : Addr} {o : HO} (e : Ex H H') (h : H a = some o) : H' a = some o := e a o h
theorem exBH {p : Addr} {H H' : Hp} {a : Addr} {o : HO} (e : ExB p H H') (n : a ≠ p) (h : H a = some o) : H' a = some o := e a o n h

/-! ### new objects -/
def newT (Q : VK) (xs : List V) (H : Hp) : Prop := xs.length ≤ sizeLine ∧ ∀ p, H p = none → Q (.ref p) (upd H p (.tup xs))
def newL (Q : VK) (xs : List V) (H : Hp) : Prop := xs.length ≤ sizeLine ∧ ∀ p, H p = none → Q (.ref p) (upd H p (.lst xs))
theorem sz {n : Nat} (h : n ≤ 100000) : n ≤ sizeLine := Nat.le_trans h (by decide)
theorem szl {n : Nat} (h : n < 100000) : n < sizeLine := Nat.lt_of_lt_of_le h (by decide)

/-! ### operators of many kinds -/
def rAddP (K : PySem.W.Frag) : R2 := fun x y H Q => rI0 (fun i j => .int (i + j)) x y H Q ∨ rCatA K x y H Q ∨ rCat x y H Q ∨ ∃ i j, x = .str i ∧ y = .str j ∧ i.length + j.length ≤ sizeLine ∧ Q (.str (i ++ j)) H
def rSubP : R2 := rI0 fun i j => .int (i - j)
def rModP : R2 := rI (fun _ j => 0 < j) fun i j => .int (i % j)
def rDivP : R2 := rI CDivW fun i j => .int (i / j)
def rPowP : R2 := rI CPow fun i j => .int (i ^ j.toNat)
def rLtP : R2 := rI0 fun i j => .bl (decide (i < j))
def rLeP : R2 := rI0 fun i j => .bl (decide (i ≤ j))
def rGtP : R2 := rI0 fun i j => .bl (decide (j < i))
def rGeP : R2 := rI0 fun i j => .bl (decide (j ≤ i))
def rEqP (K : PySem.W.Frag) : R2 := fun x y H Q => rEq x y H Q ∨ rEqD K x y H Q
def rNeP (K : PySem.W.Frag) : R2 := fun x y H Q => rNe x y H Q ∨ rNeD K x y H Q
def rRep1 (K : PySem.W.Frag) : R2 := fun x y H Q => ∃ l k xs, x = .ref l ∧ y = .int k ∧ SqT K H l xs ∧ k = 1 ∧ Q (.ref l) H
def rMulP (K : PySem.W.Frag) : R2 := fun x y H Q => rI CMul (fun i j => .int (i * j)) x y H Q ∨ rRep1 K x y H Q ∨ rRepT K x y H Q ∨ rRep x y H Q
def rLenP (K : PySem.W.Frag) : List V → Hp → VK → Prop := fun xs H Q => ∃ x n, xs = [x] ∧ LenV K x H n ∧ Q (.int (n : Nat)) H
def rAbsP : List V → Hp → VK → Prop := fun xs H Q => ∃ i, xs = [.int i] ∧ Q (.int (if i < 0 then -i else i)) H
def rMax2P : List V → Hp → VK → Prop := fun xs H Q => ∃ i j, xs = [.int i, .int j] ∧ Q (.int (if j > i then j else i)) H
def rMin2P : List V → Hp → VK → Prop := fun xs H Q => ∃ i j, xs = [.int i, .int j] ∧ Q (.int (if j < i then j else i)) H
def rTupOf (K : PySem.W.Frag) : List V → Hp → VK → Prop := fun xs H Q => ∃ p ys, xs = [.ref p] ∧ ((SqL K H p ys ∧ ∀ l, H l = none → Q (.ref l) (upd H l (.tup ys))) ∨ (SqT K H p ys ∧ Q (.ref p) H))
def rListOf (K : PySem.W.Frag) : List V → Hp → VK → Prop := fun xs H Q => ∃ p ys, xs = [.ref p] ∧ (SqL K H p ys ∨ SqT K H p ys) ∧ ∀ l, H l = none → Q (.ref l) (upd H l (.lst ys))
def rSlP (K : PySem.W.Frag) : V → Option Int → Option Int → Hp → VK → Prop := fun x lo hi H Q => rSlL K x lo hi H Q ∨ rSlA K x lo hi H Q
section
variable {X : Cx}
theorem tuple_mul1 (l : Addr) (items : Array Value) (n : Nat) (dd : Option Addr) (sl : Array (Option Value)) (u : Tok) :
    Meets (Builtin.«tuple.__mul__» ⟨[.ref l, .int 1 u], []⟩) (fun _ R s => s.heap.get? l = some { cls := .type "tuple", dict := dd, data := .seq items n, slots := sl } ∧
      R (.ok (.ret (Value.ref l))) s) :=
  .of_wp fun prog w A R s h => by
    obtain ⟨hp, g, d, tk, os⟩ := s
    obtain ⟨hl, h⟩ := h
    have f1 := AutoSeq1.idx_int
    have c0 : (decide ((1 : Int) < -(2 ^ 63)) || decide ((1 : Int) ≥ 2 ^ 63)) = false := by decide
    have c1 : (items.isEmpty || (1 : Int) == 1) = true := by simp
    wp_walk using wpAny_loadPart' hl
    repeat (first
      | (refine wpAny_ite_false (decide_eq_false (by rw [c0]; exact Bool.false_ne_true)) ?_; wp_walk using wpAny_loadPart' hl)
      | (refine wpAny_ite_true (decide_eq_true (by rw [c1])) ?_; wp_walk using wpAny_loadPart' hl))
    exact ⟨_, rfl, h⟩
theorem op_rep1 : OpR X (binaryOp .Mult) (rRep1 X.K) := by
  intro pins s σ H x y v u Q I rx ry h
  obtain ⟨l, k, xs, rfl, rfl, hT, rfl, q⟩ := h
  cases rx
  obtain ⟨t, rfl⟩ := ry
  obtain ⟨its, r, ⟨⟨cls, dd, data, sl⟩, ho, hc, n, hd⟩, hs⟩ := I.tuple hT
  simp only at hc hd
  subst hc hd
  refine wpAny_binaryOp_repeat_ref (T := "tuple") (U := "int") (by decide) ⟨_, ho, rfl⟩ (fun s' => typeIs_int s' 1 t) noFill_tuple_mul F.fills_int_mul F.slot_int_rmul repeat_tuple F.slot_int_index.lookup
    (call_meets F.slot_int_rmul (typeIs_int s 1 t) F.entry_int_rmul (F.args_int_rmul_2 _ _) (int_rmul_tuple 1 t l its.toArray n dd sl)
      ⟨ho, rfl, ⟨_, ho, rfl⟩, call_meets F.slot_tuple_mul ⟨_, ho, rfl⟩ F.entry_tuple_mul (F.args_tuple_mul_2 _ _) (tuple_mul1 l its.toArray n dd sl t) ⟨ho, ?_⟩⟩)
  exact ⟨.ref l, H, I, rfl, q⟩
theorem op_addP : OpR X (binaryOp .Add) (rAddP X.K) := op_add.or (op_catA.or (op_cat.or op_add_str))
theorem op_subP : OpR X (binaryOp .Sub) rSubP := op_sub
theorem op_modP : OpR X (binaryOp .Mod) rModP := op_mod
theorem op_divP : OpR X (binaryOp .FloorDiv) rDivP := op_fdivW
theorem op_powP : OpR X (binaryOp .Pow) rPowP := op_pow
theorem op_mulP : OpR X (binaryOp .Mult) (rMulP X.K) := op_mul.or (op_rep1.or (op_repT.or op_rep))
theorem op_ltP : OpR X (compareOp .Lt) rLtP := op_lt
theorem op_leP : OpR X (compareOp .LtE) rLeP := op_le
theorem op_gtP : OpR X (compareOp .Gt) rGtP := op_gt
theorem op_geP : OpR X (compareOp .GtE) rGeP := op_ge
theorem op_eqP (hu : X.A.units + 64 < cLine) : OpR X (compareOp .Eq) (rEqP X.K) := op_eq.or (op_eqD hu)
theorem op_neP (hu : X.A.units + 64 < cLine) : OpR X (compareOp .NotEq) (rNeP X.K) := op_ne.or (op_neD hu)
theorem call_lenP : CallR X (.builtin "len") (rLenP X.K) := call_len
theorem call_absP : CallR X (.builtin "abs") rAbsP := call_abs
theorem call_max2P (hc : X.calm = true) : CallR X (.builtin "max") rMax2P := call_max2 hc
theorem call_min2P (hc : X.calm = true) : CallR X (.builtin "min") rMin2P := call_min2 hc
theorem call_tupOf : CallR X (.type "tuple") (rTupOf X.K) := call_tuple_of
theorem call_listOf : CallR X (.type "list") (rListOf X.K) := call_list_of
theorem sl_P : SlR X (rSlP X.K) := sl_list.or sl_tupA
/-- a walk over a list or a tuple -/
def iSeq (K : PySem.W.Frag) (tl : TE) : TI := fun σ H R => tl σ H fun x H1 => ∃ a, x = .ref a ∧ ((∃ xs, SqL K H1 a xs ∧ R (Itl K a) H1) ∨ (∃ xs, SqT K H1 a xs ∧ R (Itt K a) H1))
theorem pi_seq {tg l : Expr} {tl : TE} (hl : PE X l tl) : PI X tg l (iSeq X.K tl) := by
  refine ⟨fun pins s σ H R I h => ?_⟩
  refine thn (hl.run pins s σ H _ I h) fun v s1 ⟨x, H1, I1, r1, q1⟩ => ?_
  obtain ⟨a, e, q⟩ := q1
  subst e
  cases r1
  rcases q with ⟨xs, hq, q⟩ | ⟨xs, hq, q⟩
  · obtain ⟨its, rv, p, hz⟩ := I1.list hq
    refine wpAny_pyIter_list p.isList ?_
    refine ⟨s1.heap.objs.size, [s1.heap.objs.size], _, _, H1, rfl, I1.kept (t' := s1.toks) fun b o e => Heap.get?_push_of_some _ e, turn_list a _, ⟨_, Heap.get?_push_size _ rfl, rfl, rfl⟩, fun b hb => ?_, q⟩
    have e : b = s1.heap.objs.size := by simpa using hb
    subst e
    exact I1.fpOk (Nat.le_refl _) (I1.hok.fresh (Nat.le_refl _))
  · obtain ⟨its, rv, p, hz⟩ := I1.tuple hq
    refine wpAny_pyIter_tuple (show s1.heap.IsTuple a its.toArray from p) ?_
    refine ⟨s1.heap.objs.size, [s1.heap.objs.size], _, _, H1, rfl, I1.kept (t' := s1.toks) fun b o e => Heap.get?_push_of_some _ e, turn_tuple a _, ⟨_, Heap.get?_push_size _ rfl, rfl, rfl⟩, fun b hb => ?_, q⟩
    have e : b = s1.heap.objs.size := by simpa using hb
    subst e
    exact I1.fpOk (Nat.le_refl _) (I1.hok.fresh (Nat.le_refl _))
end

/-! ### steps of readings -/
section
variable {K : PySem.W.Frag} {σ : L2.St} {H : Hp} {Q : VK} {ta tb tc te : TE} {D : Ends} {t u : TS} {ct : TT}
theorem w_var {i : Nat} {v : V} (h : σ[i]? = some (some v)) (k : Q v H) : tVar i σ H Q := ⟨v, h, k⟩
theorem w_c {v : V} (k : Q v H) : tC v σ H Q := k
theorem w_op {r : R2} (k : ta σ H fun x H1 => tb σ H1 fun y H2 => r x y H2 Q) : tOp r ta tb σ H Q := k
theorem w_un {r : V → Hp → VK → Prop} (k : ta σ H fun x H1 => r x H1 Q) : tUn r ta σ H Q := k
theorem w_chain {r r' : R2} (k : ta σ H fun x H1 => tb σ H1 fun y H2 => r x y H2 fun z H3 => ∃ k, z = .bl k ∧ (if k = true then tc σ H3 fun w' H4 => r' y w' H4 Q else Q (.bl false) H3)) : tChain r r' ta tb tc σ H Q := k
theorem w_cons {tr : TA} {Q : List V → Hp → Prop} (k : ta σ H fun x H1 => tr σ H1 fun xs H2 => Q (x :: xs) H2) : tCons ta tr σ H Q := k
theorem w_nil {Q : List V → Hp → Prop} (k : Q [] H) : tNil σ H Q := k
theorem w_cb {r : List V → Hp → VK → Prop} {t : TA} (k : t σ H fun vs H1 => r vs H1 Q) : tCB r t σ H Q := k
theorem w_call {sp : Sp} {E : XK} {t : TA} (k : t σ H fun vs H1 => sp (vs ++ []) H1 Q E) : tCall sp [] E t σ H Q := k
theorem w_tup {t : TA} (k : t σ H fun xs H1 => newT Q xs H1) : tTup t σ H Q := k
theorem w_lst {t : TA} (k : t σ H fun xs H1 => newL Q xs H1) : tLst t σ H Q := k
theorem w_newT {xs : List V} (hz : xs.length ≤ 100000) (k : ∀ p H2, H p = none → Ex H H2 → H2 p = some (.tup xs) → Q (.ref p) H2) : newT Q xs H := ⟨sz hz, fun p hp => k p _ hp (Evl.Ex.new hp) upd_same⟩
theorem w_newL {xs : List V} (hz : xs.length ≤ 100000) (k : ∀ p H2, H p = none → Ex H H2 → H2 p = some (.lst xs) → Q (.ref p) H2) : newL Q xs H := ⟨sz hz, fun p hp => k p _ hp (Evl.Ex.new hp) upd_same⟩
theorem w_test {Q : Bool → Hp → Prop} (k : te σ H fun x H1 => ∃ c, x = .bl c ∧ Q c H1) : tTest te σ H Q := k
theorem w_tB {Q : Bool → Hp → Prop} (k : te σ H fun x H1 => ∃ c, x = .bl c ∧ Q c H1) : tB te σ H Q := k
theorem w_bl {c : Bool} {P : Bool → Prop} (k : P c) : ∃ c', V.bl c = .bl c' ∧ P c' := ⟨c, rfl, k⟩
theorem w_and {t u : TT} {Q : Bool → Hp → Prop} (k : t σ H fun c H1 => if c = true then u σ H1 Q else Q false H1) : tAnd t u σ H Q := k
theorem w_or {t u : TT} {Q : Bool → Hp → Prop} (k : t σ H fun c H1 => if c = true then Q true H1 else u σ H1 Q) : tOr t u σ H Q := k
theorem w_not {t : TT} {Q : Bool → Hp → Prop} (k : t σ H fun c H1 => Q (!c) H1) : tNot t σ H Q := k
theorem w_andV (k : ta σ H fun x H1 => ∃ c, x = .bl c ∧ if c = true then tb σ H1 Q else Q (.bl false) H1) : tAndV ta tb σ H Q := k
theorem w_orV (k : ta σ H fun x H1 => ∃ c, x = .bl c ∧ if c = true then Q (.bl true) H1 else tb σ H1 Q) : tOrV ta tb σ H Q := k
theorem w_notV (k : ta σ H fun x H1 => ∃ c, x = .bl c ∧ Q (.bl (!c)) H1) : tNotV ta σ H Q := k
theorem w_if {c : TT} (k : c σ H fun b H1 => if b = true then ta σ H1 Q else tb σ H1 Q) : tIf c ta tb σ H Q := k
theorem w_no {Q : Option Int → Hp → Prop} (k : Q none H) : tNoPart σ H Q := k
theorem w_part {Q : Option Int → Hp → Prop} (k : te σ H fun x H1 => ∃ i, x = .int i ∧ Q (some i) H1) : tPart te σ H Q := k
theorem w_int {i : Int} {P : Int → Prop} (k : P i) : ∃ j, V.int i = .int j ∧ P j := ⟨i, rfl, k⟩
theorem w_sl {r : V → Option Int → Option Int → Hp → VK → Prop} {tl th : TO} (k : te σ H fun x H1 => tl σ H1 fun l H2 => th σ H2 fun u H3 => r x l u H3 Q) : tSl r te tl th σ H Q := k
theorem w_yes {Q : Bool → Hp → Prop} (k : Q true H) : tYes σ H Q := k
/-! leaves -/
theorem l_add {i j : Int} (k : Q (.int (i + j)) H) : rAddP K (.int i) (.int j) H Q := .inl ⟨i, j, rfl, rfl, k⟩
theorem l_addT {a b : Addr} {xs ys : List V} (h1 : SqT K H a xs) (h2 : SqT K H b ys) (hz : xs.length + ys.length ≤ 100000) (k : ∀ p H', Ex H H' → SqT K H' p (xs ++ ys) → Q (.ref p) H') : rAddP K (.ref a) (.ref b) H Q := by
  refine .inr (.inl ⟨a, b, xs, ys, rfl, rfl, h1, h2, sz hz, fun e => ?_, fun _ e => ?_, fun _ _ p hp => ?_⟩)
  · subst e; exact k _ _ (Evl.Ex.refl _) h2
  · subst e; exact k _ _ (Evl.Ex.refl _) (by rw [List.append_nil]; exact h1)
  · exact k _ _ (Evl.Ex.new hp) (SqT.of upd_same)
theorem l_addL {a b : Addr} {xs ys : List V} (h1 : H a = some (.lst xs)) (h2 : H b = some (.lst ys)) (hz : xs.length + ys.length ≤ 100000) (k : ∀ p H', H p = none → Ex H H' → H' p = some (.lst (xs ++ ys)) → Q (.ref p) H') : rAddP K (.ref a) (.ref b) H Q :=
  .inr (.inr (.inl ⟨a, b, xs, ys, rfl, rfl, h1, h2, sz hz, fun p hp => k _ _ hp (Evl.Ex.new hp) upd_same⟩))
theorem l_addS {x y : Str} (hz : x.length + y.length ≤ 100000) (k : Q (.str (x ++ y)) H) : rAddP K (.str x) (.str y) H Q := .inr (.inr (.inr ⟨x, y, rfl, rfl, sz hz, k⟩))
theorem l_sub {i j : Int} (k : Q (.int (i - j)) H) : rSubP (.int i) (.int j) H Q := ⟨i, j, rfl, rfl, k⟩
theorem l_mod {i j : Int} (h : 0 < j) (k : Q (.int (i % j)) H) : rModP (.int i) (.int j) H Q := ⟨i, j, rfl, rfl, h, k⟩
theorem l_div {i j : Int} (h : 0 < j ∧ j < 4611686018427387904) (k : Q (.int (i / j)) H) : rDivP (.int i) (.int j) H Q := ⟨i, j, rfl, rfl, wide_div (b := 62) h.1 (by omega) (by decide) (by decide), k⟩
theorem l_pow {i j : Int} (h : 0 ≤ j ∧ j ≤ 1000000 ∧ i.natAbs < 2 ^ 64) (k : Q (.int (i ^ j.toNat)) H) : rPowP (.int i) (.int j) H Q := ⟨i, j, rfl, rfl, h, k⟩
theorem l_mul {i j : Int} (h : (-(2 ^ 64) < i ∧ i < 2 ^ 64) ∨ (-(2 ^ 64) < j ∧ j < 2 ^ 64)) (k : Q (.int (i * j)) H) : rMulP K (.int i) (.int j) H Q := .inl ⟨i, j, rfl, rfl, h, k⟩
theorem l_mulT {a : Addr} {xs : List V} {m : Int} (h1 : SqT K H a xs) (hn : xs ≠ []) (hx : xs.length ≤ 1000) (hk : 1 ≤ m ∧ m ≤ 1000) (k : ∀ p H', Ex H H' → SqT K H' p (List.replicate m.toNat xs).flatten → Q (.ref p) H') : rMulP K (.ref a) (.int m) H Q := by
  by_cases e : m = 1
  · subst e
    exact .inr (.inl ⟨a, 1, xs, rfl, rfl, h1, rfl, k _ _ (Evl.Ex.refl _) (by simpa using h1)⟩)
  · exact .inr (.inr (.inl ⟨a, m, xs, rfl, rfl, h1, hn, by omega, hk.2, hx, fun p hp => k _ _ (Evl.Ex.new hp) (SqT.of upd_same)⟩))
theorem l_mulL {a : Addr} {xs : List V} {m : Int} (h1 : H a = some (.lst xs)) (hk : -(2 ^ 63) ≤ m ∧ m < 2 ^ 63) (hz : xs.length * m.toNat ≤ 100000) (k : ∀ p H', H p = none → Ex H H' → H' p = some (.lst (List.replicate m.toNat xs).flatten) → Q (.ref p) H') : rMulP K (.ref a) (.int m) H Q :=
  .inr (.inr (.inr ⟨a, m, xs, rfl, rfl, h1, hk.1, hk.2, sz hz, fun p hp => k _ _ hp (Evl.Ex.new hp) upd_same⟩))
theorem l_lt {i j : Int} (k : Q (.bl (decide (i < j))) H) : rLtP (.int i) (.int j) H Q := ⟨i, j, rfl, rfl, k⟩
theorem l_le {i j : Int} (k : Q (.bl (decide (i ≤ j))) H) : rLeP (.int i) (.int j) H Q := ⟨i, j, rfl, rfl, k⟩
theorem l_gt {i j : Int} (k : Q (.bl (decide (j < i))) H) : rGtP (.int i) (.int j) H Q := ⟨i, j, rfl, rfl, k⟩
theorem l_ge {i j : Int} (k : Q (.bl (decide (j ≤ i))) H) : rGeP (.int i) (.int j) H Q := ⟨i, j, rfl, rfl, k⟩
theorem decI {i j : Int} : decide (V.int i = V.int j) = decide (i = j) := by simp
theorem l_eqI {i j : Int} (k : Q (.bl (decide (i = j))) H) : rEqP K (.int i) (.int j) H Q := .inl ⟨rfl, by rw [decI]; exact k⟩
theorem l_neI {i j : Int} (k : Q (.bl (!decide (i = j))) H) : rNeP K (.int i) (.int j) H Q := .inl ⟨rfl, by rw [decI]; exact k⟩
theorem l_eqD {x y : V} {d e : PyData} (h1 : Dp K H x d) (h2 : Dp K H y e) (s1 : SeqAt.shaped d = true) (s2 : SeqAt.shaped e = true) (k : Q (.bl (PyData.eqv d e)) H) : rEqP K x y H Q := .inr ⟨d, e, h1, h2, s1, s2, k⟩
theorem l_neD {x y : V} {d e : PyData} (h1 : Dp K H x d) (h2 : Dp K H y e) (s1 : SeqAt.shaped d = true) (s2 : SeqAt.shaped e = true) (k : Q (.bl (!PyData.eqv d e)) H) : rNeP K x y H Q := .inr ⟨d, e, h1, h2, s1, s2, k⟩
theorem l_lenT {a : Addr} {xs : List V} (h : SqT K H a xs) (k : Q (.int (xs.length : Nat)) H) : rLenP K [.ref a] H Q := ⟨_, _, rfl, .inr ⟨xs, h, rfl⟩, k⟩
theorem l_lenL {a : Addr} {xs : List V} (h : SqL K H a xs) (k : Q (.int (xs.length : Nat)) H) : rLenP K [.ref a] H Q := ⟨_, _, rfl, .inl ⟨xs, h, rfl⟩, k⟩
theorem l_lenS {z : Str} (h : z.length ≤ 100000) (k : Q (.int (z.length : Nat)) H) : rLenP K [.str z] H Q := ⟨_, _, rfl, ⟨sz h, rfl⟩, k⟩
theorem l_abs {i : Int} (k : Q (.int (if i < 0 then -i else i)) H) : rAbsP [.int i] H Q := ⟨i, rfl, k⟩
theorem l_max2 {i j : Int} (k : Q (.int (if j > i then j else i)) H) : rMax2P [.int i, .int j] H Q := ⟨i, j, rfl, k⟩
theorem l_min2 {i j : Int} (k : Q (.int (if j < i then j else i)) H) : rMin2P [.int i, .int j] H Q := ⟨i, j, rfl, k⟩
theorem l_tupL {a : Addr} {xs : List V} (h : SqL K H a xs) (k : ∀ p H', Ex H H' → SqT K H' p xs → Q (.ref p) H') : rTupOf K [.ref a] H Q := ⟨a, xs, rfl, .inl ⟨h, fun l hl => k _ _ (Evl.Ex.new hl) (SqT.of upd_same)⟩⟩
theorem l_listOf {a : Addr} {xs : List V} (h : SqL K H a xs ∨ SqT K H a xs) (k : ∀ p H', H p = none → Ex H H' → H' p = some (.lst xs) → Q (.ref p) H') : rListOf K [.ref a] H Q := ⟨a, xs, rfl, h, fun l hl => k _ _ hl (Evl.Ex.new hl) upd_same⟩
theorem l_ixL {a : Addr} {xs : List V} {i : Int} {v : V} (h : SqL K H a xs) (ha : atI xs i = some v) (k : Q v H) : rIx K (.ref a) (.int i) H Q := .inl ⟨a, xs, i, v, rfl, rfl, h, ha, k⟩
theorem l_ixT {a : Addr} {xs : List V} {i : Int} {v : V} (h : SqT K H a xs) (ha : atI xs i = some v) (k : Q v H) : rIx K (.ref a) (.int i) H Q := .inr (.inl ⟨a, xs, i, v, rfl, rfl, h, ha, k⟩)
theorem l_ixS {z : Str} {i : Int} {c : Nat} (h : z.length ≤ 100000) (ha : atI z.cps.toList i = some c) (k : Q (.str ⟨#[c]⟩) H) : rIx K (.str z) (.int i) H Q := .inr (.inr ⟨z, i, c, rfl, rfl, sz h, ha, k⟩)
theorem l_slT {a : Addr} {xs : List V} {lo hi : Option Int} (h : SqT K H a xs) (k : ∀ p H', Ex H H' → SqT K H' p (cutV xs lo hi) → Q (.ref p) H') : rSlP K (.ref a) lo hi H Q := by
  refine .inr ⟨a, xs, rfl, h, fun e => ?_, fun _ p hp => k _ _ (Evl.Ex.new hp) (SqT.of upd_same)⟩
  refine k _ _ (Evl.Ex.refl _) ?_
  have : cutV xs lo hi = xs := by unfold cutV; rw [e.1, e.2]; simp
  rw [this]; exact h
theorem l_slL {a : Addr} {xs : List V} {lo hi : Option Int} (h : SqL K H a xs) (k : ∀ p H', H p = none → Ex H H' → H' p = some (.lst (cutV xs lo hi)) → Q (.ref p) H') : rSlP K (.ref a) lo hi H Q :=
  .inl ⟨a, xs, rfl, h, fun p hp => k _ _ hp (Evl.Ex.new hp) upd_same⟩
theorem l_all {a : Addr} {bs : List Bool} (h : SqL K H a (bs.map V.bl)) (k : Q (.bl (bs.all id)) H) : rAll K [.ref a] H Q := ⟨a, bs, rfl, h, k⟩
theorem l_sum {a : Addr} {ns : List Int} (h : SqL K H a (ns.map V.int)) (k : Q (.int ns.sum) H) : rSum K [.ref a] H Q := ⟨a, ns, rfl, h, k⟩
theorem l_setL {a : Addr} {xs : List V} {i : Int} {j : Nat} {v : V} {Q : Hp → Prop} (h : H a = some (.lst xs)) (hj : ixN xs.length i = some j) (k : ∀ H', ExB a H H' → H' a = some (.lst (xs.set j v)) → Q H') : rSetL (.ref a) (.int i) v H Q :=
  ⟨a, xs, i, j, rfl, rfl, h, hj, k _ ExB.upd upd_same⟩
theorem l_app {a : Addr} {xs : List V} {v : V} (h : H a = some (.lst xs)) (hz : xs.length < 100000) (k : ∀ H', ExB a H H' → H' a = some (.lst (xs ++ [v])) → Q .non H') : rAppend (.ref a) [v] H Q :=
  ⟨a, xs, v, rfl, rfl, h, szl hz, k _ ExB.upd upd_same⟩
theorem l_ext {a b : Addr} {xs ys : List V} (h : H a = some (.lst xs)) (h2 : H b = some (.lst ys)) (hz : xs.length + ys.length ≤ 100000) (k : ∀ H', ExB a H H' → H' a = some (.lst (xs ++ ys)) → Q .non H') : rExtend (.ref a) [.ref b] H Q :=
  ⟨a, b, xs, ys, rfl, rfl, h, h2, sz hz, k _ ExB.upd upd_same⟩
theorem l_rev {a : Addr} {xs : List V} (h : H a = some (.lst xs)) (k : ∀ H', ExB a H H' → H' a = some (.lst xs.reverse) → Q .non H') : rReverse (.ref a) [] H Q := ⟨a, xs, rfl, rfl, h, k _ ExB.upd upd_same⟩
theorem l_clear {a : Addr} {xs : List V} (h : H a = some (.lst xs)) (k : ∀ H', ExB a H H' → H' a = some (.lst []) → Q .non H') : rClear (.ref a) [] H Q := ⟨a, xs, rfl, rfl, h, k _ ExB.upd upd_same⟩
theorem l_pop {a : Addr} {xs : List V} {y : V} (h : H a = some (.lst xs)) (hy : xs[xs.length - 1]? = some y) (k : ∀ H', ExB a H H' → H' a = some (.lst xs.dropLast) → Q y H') : rPop (.ref a) [] H Q := ⟨a, xs, y, rfl, rfl, h, hy, k _ ExB.upd upd_same⟩
theorem l_popAt {a : Addr} {xs : List V} {i : Int} {j : Nat} {y : V} (h : H a = some (.lst xs)) (hi : -(2 ^ 63) ≤ i ∧ i < 2 ^ 63) (hj : seqIndex? i xs.length = some j) (hy : xs[j]? = some y) (k : ∀ H', ExB a H H' → H' a = some (.lst (xs.eraseIdx j)) → Q y H') : rPopAt (.ref a) [.int i] H Q := ⟨a, xs, i, j, y, rfl, rfl, h, hi.1, hi.2, hj, hy, k _ ExB.upd upd_same⟩
def rInsP : V → List V → Hp → VK → Prop := fun x vs H Q => ∃ (l : Addr) (xs : List V) (i : Int) (y : V), x = .ref l ∧ vs = [.int i, y] ∧ H l = some (.lst xs) ∧ xs.length < sizeLine ∧ 0 ≤ i ∧ i < 2 ^ 63 ∧ Q .non (upd H l (.lst (xs.take i.toNat ++ [y] ++ xs.drop i.toNat)))
theorem l_ins0 {a : Addr} {xs : List V} {y : V} (h : H a = some (.lst xs)) (hz : xs.length < 100000) (k : ∀ H', ExB a H H' → H' a = some (.lst (y :: xs)) → Q .non H') : rInsP (.ref a) [.int 0, y] H Q :=
  ⟨a, xs, 0, y, rfl, rfl, h, szl hz, Int.le_refl _, by decide, k _ ExB.upd upd_same⟩
/-! statements, in a row and at its end -/
theorem q_asg {i : Nat} (k : te σ H fun x H1 => u D (σ.set i (some x)) H1) : tSeq (tAsg te (gName i)) u D σ H := k
theorem z_asg {i : Nat} (k : te σ H fun x H1 => D.nx (σ.set i (some x)) H1) : tAsg te (gName i) D σ H := k
theorem q_asgT {n : Nat} {g : TGs} (k : te σ H fun x H1 => gTup K n g x σ H1 fun σ' H' => u D σ' H') : tSeq (tAsg te (gTup K n g)) u D σ H := k
theorem z_asgT {n : Nat} {g : TGs} (k : te σ H fun x H1 => gTup K n g x σ H1 fun σ' H' => D.nx σ' H') : tAsg te (gTup K n g) D σ H := k
theorem l_un {g : Int → V} {i : Int} (k : Q (g i) H) : rU g (.int i) H Q := ⟨i, rfl, k⟩
theorem q_drop (k : te σ H fun _ H1 => u D σ H1) : tSeq (tDrop te) u D σ H := k
theorem z_drop (k : te σ H fun _ H1 => D.nx σ H1) : tDrop te D σ H := k
theorem q_if {e : TS} (k : ct σ H fun b H1 => if b = true then t { D with nx := u D } σ H1 else e { D with nx := u D } σ H1) : tSeq (tIfS ct t e) u D σ H := k
theorem z_if {e : TS} (k : ct σ H fun b H1 => if b = true then t D σ H1 else e D σ H1) : tIfS ct t e D σ H := k
theorem z_ret (k : te σ H D.rt) : tRet te D σ H := k
theorem z_retN (k : D.rt .non H) : tRetN D σ H := k
theorem z_next (k : D.nx σ H) : tNext D σ H := k
theorem q_seq (k : t { D with nx := u D } σ H) : tSeq t u D σ H := k
theorem q_set {to ti : TE} {s : TSet} (k : te σ H fun v H1 => to σ H1 fun o H2 => ti σ H2 fun i H3 => s o i v H3 fun H4 => u D σ H4) : tSeq (tAsg te (gSub to ti s)) u D σ H := k
theorem z_set {to ti : TE} {s : TSet} (k : te σ H fun v H1 => to σ H1 fun o H2 => ti σ H2 fun i H3 => s o i v H3 fun H4 => D.nx σ H4) : tAsg te (gSub to ti s) D σ H := k
theorem ifd {c A B : Prop} [Decidable c] (h1 : c → A) (h2 : ¬ c → B) : if decide c = true then A else B := by
  by_cases h : c
  · rw [if_pos (decide_eq_true h)]; exact h1 h
  · rw [if_neg (by simpa using h)]; exact h2 h
theorem ifdn {c A B : Prop} [Decidable c] (h1 : ¬ c → A) (h2 : c → B) : if (!decide c) = true then A else B := by
  by_cases h : c
  · rw [if_neg (by simp [h])]; exact h2 h
  · rw [if_pos (by simp [h])]; exact h1 h
theorem ifb {b : Bool} {A B : Prop} (h1 : b = true → A) (h2 : b = false → B) : if b = true then A else B := by
  cases b with
  | true => exact iteT (h1 rfl)
  | false => exact iteF (h2 rfl)
theorem iteNT {A B : Prop} (h : B) : if (!true) = true then A else B := iteF h
theorem iteNF {A B : Prop} (h : A) : if (!false) = true then A else B := iteT h
/-! loops -/
def ForK (g : TG) (tb : TS) (D : Ends) (J : It) (σ : L2.St) (H : Hp) : Prop := ∃ W : Nat → Nat → L2.St → Hp → Prop, (∃ m, W 0 m σ H) ∧ ∀ i m σ H, W i m σ H →
  ((J.stop i H ∧ D.nx σ H) ∨ (J.go i H ∧ ∃ N : L2.St → Hp → Prop, (∀ σ' H', N σ' H' → ∃ m', m' < m ∧ W (i + 1) m' σ' H') ∧ ∀ x H', J.yld i H x H' → g x σ H' fun σ2 H2 => tb { D with nx := N, ct := N, bk := D.nx } σ2 H2))
def seqK (K : PySem.W.Frag) (R : It → Hp → Prop) (x : V) (H1 : Hp) : Prop := ∃ a, x = .ref a ∧ ((∃ xs, SqL K H1 a xs ∧ R (Itl K a) H1) ∨ (∃ xs, SqT K H1 a xs ∧ R (Itt K a) H1))
def rngK1 (R : It → Hp → Prop) (vs : List V) (H1 : Hp) : Prop := ∃ j : Int, vs = [.int j] ∧ -(2 ^ 62) ≤ j ∧ j < 2 ^ 62 ∧ R (Itr 0 j.toNat) H1
def rngK2 (R : It → Hp → Prop) (vs : List V) (H1 : Hp) : Prop := ∃ i j : Int, vs = [.int i, .int j] ∧ (-(2 ^ 62) ≤ i ∧ i < 2 ^ 62 ∧ -(2 ^ 62) ≤ j ∧ j < 2 ^ 62) ∧ R (Itr i (j - i).toNat) H1
def enumK (K : PySem.W.Frag) (R : It → Hp → Prop) (vs : List V) (H1 : Hp) : Prop := ∃ a xs, vs = [.ref a] ∧ SqL K H1 a xs ∧ R (Ite K a) H1
theorem q_for {wi : TI} {g : TG} {tb : TS} (k : wi σ H fun J H1 => ForK g tb { D with nx := u D } J σ H1) : tSeq (tFor wi g tb) u D σ H := k
theorem z_for {wi : TI} {g : TG} {tb : TS} (k : wi σ H fun J H1 => ForK g tb D J σ H1) : tFor wi g tb D σ H := k
theorem i_seq {tl : TE} {R : It → Hp → Prop} (k : tl σ H fun x H1 => seqK K R x H1) : iSeq K tl σ H R := k
theorem i_rng1 {ta : TA} {R : It → Hp → Prop} (k : ta σ H fun vs H1 => rngK1 R vs H1) : iRng1 ta σ H R := k
theorem i_rng2 {ta : TA} {R : It → Hp → Prop} (k : ta σ H fun vs H1 => rngK2 R vs H1) : iRng2 ta σ H R := k
theorem i_enum {ta : TA} {R : It → Hp → Prop} (k : ta σ H fun vs H1 => enumK K R vs H1) : iEnum K ta σ H R := k
theorem l_seqT {a : Addr} {xs : List V} {R : It → Hp → Prop} (h : SqT K H a xs) (k : R (Itt K a) H) : seqK K R (.ref a) H := ⟨a, rfl, .inr ⟨xs, h, k⟩⟩
theorem l_seqL {a : Addr} {xs : List V} {R : It → Hp → Prop} (h : SqL K H a xs) (k : R (Itl K a) H) : seqK K R (.ref a) H := ⟨a, rfl, .inl ⟨xs, h, k⟩⟩
theorem l_rng1 {j : Int} {R : It → Hp → Prop} (h : -(2 ^ 62) ≤ j ∧ j < 2 ^ 62) (k : R (Itr 0 j.toNat) H) : rngK1 R [.int j] H := ⟨j, rfl, h.1, h.2, k⟩
theorem l_rng2 {i j : Int} {R : It → Hp → Prop} (h : -(2 ^ 62) ≤ i ∧ i < 2 ^ 62 ∧ -(2 ^ 62) ≤ j ∧ j < 2 ^ 62) (k : R (Itr i (j - i).toNat) H) : rngK2 R [.int i, .int j] H := ⟨i, j, rfl, h, k⟩
theorem l_enum {a : Addr} {xs : List V} {R : It → Hp → Prop} (h : SqL K H a xs) (k : R (Ite K a) H) : enumK K R [.ref a] H := ⟨a, xs, rfl, h, k⟩
/-- a for, by a word Pv of the turn, the slots and the heap -/
theorem l_for {J : It} {n : Nat} {G : Hp → Prop} {Y : Nat → Hp → V → Hp → Prop} {g : TG} {tb : TS} (w : Walk J n G Y) (Pv : Nat → L2.St → Hp → Prop) (h0 : Pv 0 σ H) (hG : ∀ i σ H, i ≤ n → Pv i σ H → G H)
    (hs : ∀ i x σ H H', i < n → Pv i σ H → Y i H x H' → g x σ H' fun σ2 H2 => tb { D with nx := Pv (i + 1), ct := Pv (i + 1), bk := D.nx } σ2 H2) (hd : ∀ σ H, Pv n σ H → D.nx σ H) : ForK g tb D J σ H := for_it w Pv h0 hG hs hd
theorem l_forT {a : Addr} {xs : List V} {g : TG} {tb : TS} (Pv : Nat → L2.St → Hp → Prop) (h0 : Pv 0 σ H) (hG : ∀ i σ H, i ≤ xs.length → Pv i σ H → SqT K H a xs)
    (hs : ∀ i x σ H, i < xs.length → xs[i]? = some x → Pv i σ H → g x σ H fun σ2 H2 => tb { D with nx := Pv (i + 1), ct := Pv (i + 1), bk := D.nx } σ2 H2) (hd : ∀ σ H, Pv xs.length σ H → D.nx σ H) : ForK g tb D (Itt K a) σ H :=
  for_it walk_tup Pv h0 hG (fun i x σ H H' hi hp ⟨e, hx⟩ => by subst e; exact hs i x σ _ hi hx hp) hd
theorem l_forL {a : Addr} {xs : List V} {g : TG} {tb : TS} (Pv : Nat → L2.St → Hp → Prop) (h0 : Pv 0 σ H) (hG : ∀ i σ H, i ≤ xs.length → Pv i σ H → SqL K H a xs)
    (hs : ∀ i x σ H, i < xs.length → xs[i]? = some x → Pv i σ H → g x σ H fun σ2 H2 => tb { D with nx := Pv (i + 1), ct := Pv (i + 1), bk := D.nx } σ2 H2) (hd : ∀ σ H, Pv xs.length σ H → D.nx σ H) : ForK g tb D (Itl K a) σ H :=
  for_it walk_list Pv h0 hG (fun i x σ H H' hi hp ⟨e, hx⟩ => by subst e; exact hs i x σ _ hi hx hp) hd
theorem l_forR {lo : Int} {n : Nat} {g : TG} {tb : TS} (Pv : Nat → L2.St → Hp → Prop) (h0 : Pv 0 σ H)
    (hs : ∀ i σ H, i < n → Pv i σ H → g (.int (lo + i)) σ H fun σ2 H2 => tb { D with nx := Pv (i + 1), ct := Pv (i + 1), bk := D.nx } σ2 H2) (hd : ∀ σ H, Pv n σ H → D.nx σ H) : ForK g tb D (Itr lo n) σ H :=
  for_range Pv h0 hs hd
theorem g_name {i : Nat} {x : V} {R : L2.St → Hp → Prop} (k : R (σ.set i (some x)) H) : gName i x σ H R := k
theorem g_tup {n : Nat} {a : Addr} {xs : List V} {t : TGs} {R : L2.St → Hp → Prop} (h : SqT K H a xs) (hn : xs.length = n) (k : t xs σ H R) : gTup K n t (.ref a) σ H R := ⟨a, xs, rfl, h, hn, k⟩
theorem g_cons {t : TG} {u : TGs} {v : V} {r : List V} {R : L2.St → Hp → Prop} (k : t v σ H fun σ' H' => u r σ' H' R) : gCons t u (v :: r) σ H R := ⟨v, r, rfl, k⟩
theorem g_nil {R : L2.St → Hp → Prop} (k : R σ H) : gNil [] σ H R := ⟨rfl, k⟩
/-! comprehensions -/
def LcK (g : TG) (tt : TT) (te : TE) (vs : List Nat) (J : It) (σ : L2.St) (H1 : Hp) (Q : VK) : Prop := ∀ D, H1 D = none → ∃ W : Nat → Nat → Hp → Prop, (∃ m, W 0 m (upd H1 D (.lst []))) ∧ ∀ i m H, W i m H →
  (J.stop i H ∧ Q (.ref D) H) ∨ (J.go i H ∧ ∃ Nx : Hp → Prop, (∀ H', Nx H' → ∃ m', m' < m ∧ W (i + 1) m' H') ∧ ∀ x H', J.yld i H x H' → g x (wipe σ vs) H' fun σ2 H2 => wipe σ2 vs = wipe σ vs ∧ tt σ2 H2 fun b H3 =>
    if b = true then te σ2 H3 fun y H4 => ∃ acc, H4 D = some (.lst acc) ∧ acc.length < sizeLine ∧ Nx (upd H4 D (.lst (acc ++ [y]))) else Nx H3)
theorem w_lc {wi : TI} {g : TG} {tt : TT} {vs : List Nat} (k : wi σ H fun J H1 => LcK g tt te vs J σ H1 Q) : tLc wi g tt te vs σ H Q := k
/-- behind an element y: it is put behind what D holds -/
def lcEnd (Pv : Addr → Nat → List V → Hp → Prop) (D : Addr) (i : Nat) (y : V) (H4 : Hp) : Prop := ∃ acc, H4 D = some (.lst acc) ∧ acc.length < sizeLine ∧ ∃ acc', upd H4 D (.lst (acc ++ [y])) D = some (.lst acc') ∧ Pv D i acc' (upd H4 D (.lst (acc ++ [y])))
/-- an item left out -/
def lcNot (Pv : Addr → Nat → List V → Hp → Prop) (D : Addr) (i : Nat) (H4 : Hp) : Prop := ∃ acc, H4 D = some (.lst acc) ∧ Pv D i acc H4
theorem lc_end {Pv : Addr → Nat → List V → Hp → Prop} {E : Addr} {i : Nat} {y : V} {acc : List V} (h : H E = some (.lst acc)) (hz : acc.length < 100000) (k : ∀ H6, ExB E H H6 → H6 E = some (.lst (acc ++ [y])) → Pv E i (acc ++ [y]) H6) : lcEnd Pv E i y H :=
  ⟨acc, h, szl hz, _, upd_same, k _ ExB.upd upd_same⟩
theorem lc_not {Pv : Addr → Nat → List V → Hp → Prop} {E : Addr} {i : Nat} {acc : List V} (h : H E = some (.lst acc)) (k : Pv E i acc H) : lcNot Pv E i H := ⟨acc, h, k⟩
/-- any comprehension: Pv by the new list's address, the turn, what it holds, the heap -/
theorem l_lc {J : It} {n : Nat} {G : Hp → Prop} {Y : Nat → Hp → V → Hp → Prop} {g : TG} {tt : TT} {vs : List Nat} (w : Walk J n G Y) (Pv : Addr → Nat → List V → Hp → Prop)
    (h0 : ∀ D H', H D = none → Ex H H' → H' D = some (.lst []) → Pv D 0 [] H') (hG : ∀ D i acc H1, i ≤ n → H1 D = some (.lst acc) → Pv D i acc H1 → G H1)
    (hs : ∀ D i acc x H1 H2, H D = none → i < n → H1 D = some (.lst acc) → Pv D i acc H1 → Y i H1 x H2 → g x (wipe σ vs) H2 fun σ2 H3 => wipe σ2 vs = wipe σ vs ∧ tt σ2 H3 fun b H4 => if b = true then te σ2 H4 (lcEnd Pv D (i + 1)) else lcNot Pv D (i + 1) H4)
    (hd : ∀ D acc H1, H D = none → H1 D = some (.lst acc) → Pv D n acc H1 → Q (.ref D) H1) : LcK g tt te vs J σ H Q := fun D hD =>
  lc_it w (fun i H1 => ∃ acc, H1 D = some (.lst acc) ∧ Pv D i acc H1) ⟨[], upd_same, h0 D _ hD (Evl.Ex.new hD) upd_same⟩ (fun i H1 hi ⟨acc, h1, h2⟩ => hG D i acc H1 hi h1 h2)
    (fun i x H1 H2 hi ⟨acc, h1, h2⟩ y => hs D i acc x H1 H2 hD hi h1 h2 y) (fun H1 ⟨acc, h1, h2⟩ => hd D acc H1 hD h1 h2)
theorem q_cut {e : TS} (M : L2.St → Hp → Prop) (h : t { D with nx := M } σ H) (k : ∀ σ' H', M σ' H' → e D σ' H') : Evl.tCut t e D σ H := ⟨M, h, k⟩
/-! a while -/
def whK (W : Nat → L2.St → Hp → Prop) (m : Nat) (tb : TS) (D : Ends) (σ : L2.St) (H1 : Hp) : Prop := ∃ N : L2.St → Hp → Prop, (∀ σ' H', N σ' H' → ∃ m', m' < m ∧ W m' σ' H') ∧ tb { D with nx := N, ct := N, bk := D.nx } σ H1
theorem l_wh {W : Nat → L2.St → Hp → Prop} {m : Nat} {tb : TS} (k : tb { D with nx := fun σ' H' => ∃ m', m' < m ∧ W m' σ' H', ct := fun σ' H' => ∃ m', m' < m ∧ W m' σ' H', bk := D.nx } σ H) : whK W m tb D σ H := ⟨_, fun _ _ p => p, k⟩
theorem q_while {c : TT} {tb : TS} (W : Nat → L2.St → Hp → Prop) (m0 : Nat) (h0 : W m0 σ H) (hs : ∀ m σ H, W m σ H → c σ H fun b H1 => if b = true then whK W m tb { D with nx := u D } σ H1 else u D σ H1) : tSeq (tWhile c tb) u D σ H :=
  ⟨W, ⟨m0, h0⟩, fun m σ H h => hs m σ H h⟩
theorem q_aug {i : Nat} {x : V} {te : TE} {ti : TIp} (hx : σ[i]? = some (some x)) (k : te σ H fun y H1 => ti x y H1 fun z H2 => u D (σ.set i (some z)) H2) : tSeq (tAug i te ti) u D σ H := ⟨x, hx, k⟩
theorem z_aug {i : Nat} {x : V} {te : TE} {ti : TIp} (hx : σ[i]? = some (some x)) (k : te σ H fun y H1 => ti x y H1 fun z H2 => D.nx (σ.set i (some z)) H2) : tAug i te ti D σ H := ⟨x, hx, k⟩
theorem l_ip {f : Int → Int → Int} {i j : Int} (k : Q (.int (f i j)) H) : ipI f (.int i) (.int j) H Q := ⟨i, j, rfl, rfl, k⟩
theorem w_bm {T : String} {r : V → List V → Hp → VK → Prop} {to : TE} {t : TA} (k : to σ H fun x H1 => tyV K T x H1 ∧ t σ H1 fun xs H2 => r x xs H2 Q) : tBM K T r to t σ H Q := k
theorem w_bm0 {T : String} {r : V → List V → Hp → VK → Prop} {to : TE} (k : to σ H fun x H1 => tyV K T x H1 ∧ r x [] H1 Q) : tBM0 K T r to σ H Q := k
theorem l_tyL {a : Addr} {xs : List V} {P : Prop} (h : SqL K H a xs) (k : P) : tyV K "list" (.ref a) H ∧ P := ⟨.inl ⟨rfl, xs, h⟩, k⟩
/-! kinds of values -/
inductive Kd (K : PySem.W.Frag) (H : Hp) : V → String → Prop where
  | non : Kd K H .non "NoneType"
  | bl (b : Bool) : Kd K H (.bl b) "bool"
  | int (i : Int) : Kd K H (.int i) "int"
  | str (x : Str) : Kd K H (.str x) "str"
  | tup {a : Addr} {xs : List V} (h : SqT K H a xs) : Kd K H (.ref a) "tuple"
  | lst {a : Addr} {xs : List V} (h : SqL K H a xs) : Kd K H (.ref a) "list"
  | dct {a : Addr} {kvs : List (Key × V)} (h : H a = some (.dK kvs)) : Kd K H (.ref a) "dict"
theorem tyx_T {a : Addr} {xs : List V} (h : SqT K H a xs) : TyX K H (.ref a) (.type "tuple") := by
  rcases h with (h | ⟨o, h⟩) | h
  · exact .base (.tup h)
  · exact .fTuple h
  · obtain ⟨o, its, n, h1, h2, _⟩ := h
    exact .kTuple h1 h2
theorem tyx_L {a : Addr} {xs : List V} (h : SqL K H a xs) : TyX K H (.ref a) (.type "list") := by
  rcases h with (h | ⟨o, h⟩) | h
  · exact .base (.lst h)
  · exact .base (.frz h)
  · obtain ⟨o, its, n, h1, h2, _⟩ := h
    exact .kList h1 h2
theorem Kd.tyx {v : V} {T : String} (h : Kd K H v T) : TyX K H v (.type T) := by
  cases h with
  | non => exact .base .non
  | bl b => exact .base (.bl b)
  | int i => exact .base (.int i)
  | str x => exact .base (.str x)
  | tup h => exact tyx_T h
  | lst h => exact tyx_L h
  | dct h => exact .base (.dK h)
theorem l_isi {v : V} {T' T : String} {b : Bool} (h : Kd K H v T') (hb : kitB T' T = some b) (k : Q (.bl b) H) : rIsi K [v, .ty T] H Q := ⟨v, _, _, _, b, rfl, .ty T, h.tyx, kit_ty hb, k⟩
theorem Kd.mono {v : V} {T : String} {H' : Hp} (e : Ex H H') (h : Kd K H v T) : Kd K H' v T := by
  cases h with
  | non => exact .non
  | bl b => exact .bl b
  | int i => exact .int i
  | str x => exact .str x
  | tup h => exact .tup (Evl.ex_t e h)
  | lst h => exact .lst (Evl.ex_l e h)
  | dct h => exact .dct (e _ _ h)
def PvT (H : Hp) (f : V → V) (xs : List V) : Addr → Nat → List V → Hp → Prop := fun _ i acc H1 => Ex H H1 ∧ acc = (xs.take i).map f
/-- a comprehension over a tuple, each element a value f x by itself -/
theorem l_lcT {a : Addr} {xs : List V} {j : Nat} {vs : List Nat} (f : V → V) (h : SqT K H a xs) (hz : xs.length < 100000) (hw : ∀ x, wipe ((wipe σ vs).set j (some x)) vs = wipe σ vs)
    (hs : ∀ x H1, x ∈ xs → Ex H H1 → ∀ Q' : VK, (∀ H2, Ex H1 H2 → Q' (f x) H2) → te ((wipe σ vs).set j (some x)) H1 Q')
    (hd : ∀ D H1, H D = none → Ex H H1 → H1 D = some (.lst (xs.map f)) → Q (.ref D) H1) : LcK (gName j) tYes te vs (Itt K a) σ H Q := by
  refine l_lc walk_tup (PvT H f xs) (fun D H1 n e h1 => ⟨e, rfl⟩) (fun D i acc H1 _ _ p => Evl.ex_t p.1 h) (fun D i acc x H1 H2 hn hi h1 p y => ?_) (fun D acc H1 hn h1 p => ?_)
  · obtain ⟨rfl, hx⟩ := y
    obtain ⟨e, rfl⟩ := p
    refine ⟨hw x, w_yes ?_⟩
    refine iteT ?_
    refine hs x _ (List.mem_of_getElem? hx) e _ fun H3 e3 => ?_
    refine lc_end (Pv := PvT H f xs) (e3 _ _ h1) (by simp; omega) fun H6 e6 h6 => ⟨?_, ?_⟩
    · exact ExB.new (e.trans e3) e6 hn
    · have : (xs.take (i + 1)) = xs.take i ++ [x] := by rw [List.take_succ, hx]; rfl
      rw [this, List.map_append]; rfl
  · obtain ⟨e, rfl⟩ := p
    exact hd D H1 hn e (by rw [h1, List.take_length])
theorem l_lcL {a : Addr} {xs : List V} {j : Nat} {vs : List Nat} (f : V → V) (h : SqL K H a xs) (hz : xs.length < 100000) (hw : ∀ x, wipe ((wipe σ vs).set j (some x)) vs = wipe σ vs)
    (hs : ∀ x H1, x ∈ xs → Ex H H1 → ∀ Q' : VK, (∀ H2, Ex H1 H2 → Q' (f x) H2) → te ((wipe σ vs).set j (some x)) H1 Q')
    (hd : ∀ D H1, H D = none → Ex H H1 → H1 D = some (.lst (xs.map f)) → Q (.ref D) H1) : LcK (gName j) tYes te vs (Itl K a) σ H Q := by
  refine l_lc walk_list (PvT H f xs) (fun D H1 n e h1 => ⟨e, rfl⟩) (fun D i acc H1 _ _ p => Evl.ex_l p.1 h) (fun D i acc x H1 H2 hn hi h1 p y => ?_) (fun D acc H1 hn h1 p => ?_)
  · obtain ⟨rfl, hx⟩ := y
    obtain ⟨e, rfl⟩ := p
    refine ⟨hw x, w_yes ?_⟩
    refine iteT ?_
    refine hs x _ (List.mem_of_getElem? hx) e _ fun H3 e3 => ?_
    refine lc_end (Pv := PvT H f xs) (e3 _ _ h1) (by simp; omega) fun H6 e6 h6 => ⟨?_, ?_⟩
    · exact ExB.new (e.trans e3) e6 hn
    · have : (xs.take (i + 1)) = xs.take i ++ [x] := by rw [List.take_succ, hx]; rfl
      rw [this, List.map_append]; rfl
  · obtain ⟨e, rfl⟩ := p
    exact hd D H1 hn e (by rw [h1, List.take_length])
/-! objects of own classes -/
def fldK (K : PySem.W.Frag) (f : Str) (x : V) (H1 : Hp) (Q : VK) : Prop := ∃ a C dx fs v, x = .ref a ∧ H1 a = some (.ins C dx fs) ∧ Cls K C ∧ NoAttr K C f ∧ fs.lookup f = some v ∧ Q v H1
def setK (K : PySem.W.Frag) (f : Str) (y x : V) (H2 : Hp) (R : Hp → Prop) : Prop := ∃ a C dx fs, x = .ref a ∧ H2 a = some (.ins C dx fs) ∧ Cls K C ∧ NoAttr K C f ∧ fs.length < 1000 ∧ R (upd H2 a (.ins C dx (putF f y fs)))
def methK (C : Addr) (m : Str) (sp : Sp) (E : XK) (t : TA) (σ : L2.St) (Q : VK) (x : V) (H1 : Hp) : Prop := ∃ a dx fs, x = .ref a ∧ H1 a = some (.ins C dx fs) ∧ fs.lookup m = none ∧ t σ H1 fun vs H2 => sp (x :: (vs ++ [])) H2 Q E
def makeK (C : Addr) (sp : Sp) (E : XK) (Q : VK) (vs : List V) (H1 : Hp) : Prop := ∀ x dx, H1 x = none → H1 dx = none → dx ≠ x → sp (.ref x :: (vs ++ [])) (upd (upd H1 dx (.own x)) x (.ins C dx [])) (fun v H2 => v = .non ∧ Q (.ref x) H2) E
theorem w_fld {f : Str} (k : te σ H fun x H1 => fldK K f x H1 Q) : tFld K te f σ H Q := k
theorem l_fld {f : Str} {a C dx : Addr} {fs : List (Str × V)} {v : V} (h : H a = some (.ins C dx fs)) (c : Cls K C) (n : NoAttr K C f) (e : fs.lookup f = some v) (k : Q v H) : fldK K f (.ref a) H Q := ⟨a, C, dx, fs, v, rfl, h, c, n, e, k⟩
theorem q_fld {f : Str} {tv : TE} (k : tv σ H fun y H1 => te σ H1 fun x H2 => setK K f y x H2 fun H3 => u D σ H3) : tSeq (sFld K te tv f) u D σ H := k
theorem z_fld {f : Str} {tv : TE} (k : tv σ H fun y H1 => te σ H1 fun x H2 => setK K f y x H2 fun H3 => D.nx σ H3) : sFld K te tv f D σ H := k
theorem l_fldS {f : Str} {a C dx : Addr} {fs : List (Str × V)} {y : V} {R : Hp → Prop} (h : H a = some (.ins C dx fs)) (c : Cls K C) (n : NoAttr K C f) (hl : fs.length < 1000) (k : ∀ H', ExB a H H' → H' a = some (.ins C dx (putF f y fs)) → R H') : setK K f y (.ref a) H R :=
  ⟨a, C, dx, fs, rfl, h, c, n, hl, k _ ExB.upd upd_same⟩
theorem w_meth {C : Addr} {m : Str} {sp : Sp} {E : XK} {t : TA} (k : te σ H fun x H1 => methK C m sp E t σ Q x H1) : tMeth C m sp [] E te t σ H Q := k
theorem l_meth {C : Addr} {m : Str} {sp : Sp} {E : XK} {t : TA} {a dx : Addr} {fs : List (Str × V)} (h : H a = some (.ins C dx fs)) (e : fs.lookup m = none) (k : t σ H fun vs H2 => sp (.ref a :: (vs ++ [])) H2 Q E) : methK C m sp E t σ Q (.ref a) H := ⟨a, dx, fs, rfl, h, e, k⟩
theorem w_make {C : Addr} {sp : Sp} {E : XK} {t : TA} (k : t σ H fun vs H1 => makeK C sp E Q vs H1) : tMake C sp [] E t σ H Q := k
theorem l_make {C : Addr} {sp : Sp} {E : XK} {vs : List V} (k : ∀ x dx H1, H x = none → Ex H H1 → H1 x = some (.ins C dx []) → sp (.ref x :: (vs ++ [])) H1 (fun v H2 => v = .non ∧ Q (.ref x) H2) E) : makeK C sp E Q vs H := fun x dx hx hd hn =>
  k x dx _ hx (fun b o e => by rw [upd_ne (ne_of_none e hx), upd_ne (ne_of_none e hd)]; exact e) upd_same
theorem putF_le (f : Str) (y : V) : ∀ fs : List (Str × V), (putF f y fs).length ≤ fs.length + 1
  | [] => Nat.le_refl _
  | (g, x) :: r => by
    show (if g = f then (g, y) :: r else (g, x) :: putF f y r).length ≤ _
    have := putF_le f y r
    split <;> simp <;> omega
theorem putF_lt {f : Str} {y : V} {fs : List (Str × V)} (h : fs.length < 900) : (putF f y fs).length < 1000 := Nat.lt_of_le_of_lt (putF_le f y fs) (by omega)
theorem putF_lt2 {f g : Str} {y z : V} {fs : List (Str × V)} (h : fs.length < 900) : (putF g z (putF f y fs)).length < 1000 := Nat.lt_of_le_of_lt (putF_le g z _) (by have := putF_le f y fs; omega)
/-- an instance of the class of that name, with these attributes -/
def Ins (K : PySem.W.Frag) (H : Hp) (v : V) (c : Str) (fs : List (Str × V)) : Prop := ∃ p C dx, v = .ref p ∧ PySem.W.nsIn K mainGlobals c = some (some (.ref C)) ∧ H p = some (.ins C dx fs)
theorem Ins.mono {H' : Hp} {v : V} {c : Str} {fs : List (Str × V)} (e : Ex H H') (h : Ins K H v c fs) : Ins K H' v c fs := by
  obtain ⟨p, C, dx, h1, h2, h3⟩ := h
  exact ⟨p, C, dx, h1, h2, e _ _ h3⟩
theorem Ins.exB {H' : Hp} {v : V} {c : Str} {fs : List (Str × V)} {p : Addr} {ys : List V} (e : ExB p H H') (hp : H p = some (.lst ys)) (h : Ins K H v c fs) : Ins K H' v c fs := by
  obtain ⟨q, C, dx, h1, h2, h3⟩ := h
  exact ⟨q, C, dx, h1, h2, e _ _ (fun z => by subst z; rw [hp] at h3; cases h3) h3⟩
theorem Ins.at_ {v : V} {c : Str} {fs : List (Str × V)} {C' : Addr} (h : Ins K H v c fs) (n : PySem.W.nsIn K mainGlobals c = some (some (.ref C'))) : ∃ p dx, v = .ref p ∧ H p = some (.ins C' dx fs) := by
  obtain ⟨p, C, dx, h1, h2, h3⟩ := h
  rw [h2] at n
  cases n
  exact ⟨p, dx, h1, h3⟩
end
section
/-! enumerate of a tuple -/
theorem meets_enumT (l : Addr) (items : Array Value) (n : Nat) (dct : Option Addr) (sl : Array (Option Value)) :
    Meets (Builtin.«enumerate.__new__» ⟨[.type "enumerate", .ref l], []⟩) (fun _ R s => s.heap.get? l = some { cls := .type "tuple", dict := dct, data := .seq items n, slots := sl } ∧
      R (.ok (.ret (.ref (s.heap.push { cls := .type "tuple_iterator", data := .fields #[.ref l, .int 0 0] }).objs.size)))
        { s with heap := (s.heap.push { cls := .type "tuple_iterator", data := .fields #[.ref l, .int 0 0] }).push { cls := .type "enumerate", data := .fields #[.none, .bool false, .ref s.heap.objs.size, rawInt 0, .none, .none] } }) :=
  .of_wp fun prog w A R s h => by
    obtain ⟨hp, g, d, tk, os⟩ := s; obtain ⟨hl, h⟩ := h
    have hsub := sub_enumerate
    have hL : Heap.IsTuple (Shared.heap ⟨hp, g, d, tk, os⟩) l items := ⟨_, hl, rfl, n, rfl⟩
    wp_walk using AutoSeq1.wpAny_loadPart' hl
    refine wpAny_stack_any fun st => wpAny_pure ?_
    split
    · rename_i c _ _ _ _ _
      cases (c == Value.type "enumerate")
      · wp_walk using AutoSeq1.wpAny_loadPart' hl, wpAny_pyIter_tuple hL
        exact ⟨_, rfl, h⟩
      · wp_walk using AutoSeq1.wpAny_loadPart' hl, wpAny_pyIter_tuple hL
        exact ⟨_, rfl, h⟩
    · wp_walk using AutoSeq1.wpAny_loadPart' hl, wpAny_pyIter_tuple hL
      exact ⟨_, rfl, h⟩
theorem call_enumT {prog : Program} {w : World} {A : Around} {E : Value → Shared → Prop} {s : Shared} {l : Addr} {items : Array Value} {Q : Value → Shared → Prop} (hL : s.heap.IsTuple l items)
    (h : ∀ h', IsEnum h' (s.heap.objs.size + 1) s.heap.objs.size 0 .none → h'.IsTupleIter s.heap.objs.size l 0 → h'.objs.size = s.heap.objs.size + 2 →
      (∀ b o, s.heap.get? b = some o → h'.get? b = some o) → Q (.ref (s.heap.objs.size + 1)) { s with heap := h' }) :
    wpAny (model prog w) A (call (.type "enumerate") [.ref l]) Q E s := by
  obtain ⟨⟨c, dct, dt, sl⟩, hl, hc, n, hd⟩ := hL
  simp only at hc hd
  subst hc hd
  refine callType_new F.called_enumerate (by decide) (F.typeCall_enumerate_1 _) (F.newCall_enumerate_1 _) (fun obj => F.args_object_init_2 obj _) F.entry_enumerate_new
    (meets_enumT l items n dct sl) ⟨hl, ?_⟩
  have hz : (s.heap.push { cls := .type "tuple_iterator", data := .fields #[.ref l, .int 0 0] }).objs.size = s.heap.objs.size + 1 := Heap.size_push ..
  show _ ∧ _
  rw [hz]
  have he : IsEnum ((s.heap.push { cls := .type "tuple_iterator", data := .fields #[.ref l, .int 0 0] }).push
      { cls := .type "enumerate", data := .fields #[.none, .bool false, .ref s.heap.objs.size, rawInt 0, .none, .none] }) (s.heap.objs.size + 1) s.heap.objs.size 0 .none := by
    have z := Heap.get?_push_size (s.heap.push { cls := .type "tuple_iterator", data := .fields #[.ref l, .int 0 0] })
      (o := { cls := .type "enumerate", data := .fields #[.none, .bool false, .ref s.heap.objs.size, rawInt 0, .none, .none] }) rfl
    rw [hz] at z; exact z
  refine ⟨⟨_, he, rfl⟩, h _ he ⟨_, Heap.get?_push_of_some _ (Heap.get?_push_size _ rfl), rfl, rfl⟩ (by rw [Heap.size_push, hz]) fun b o x => Heap.get?_push_of_some _ (Heap.get?_push_of_some _ x)⟩
theorem drawsT {prog : Program} {w : World} {A : Around} (hh : A.handled = none) (it l : Addr) (hne : l ≠ it) (items : Array Value) :
    Draws prog w A it [it, l] items.size (fun i v => items[i]? = some v) (fun i h => h.IsTupleIter it l i ∧ h.IsTuple l items) where
  live := fun _ _ st => let ⟨o, ho, _⟩ := st.1; ⟨o, ho⟩
  frame := fun _ _ _ st hk => ⟨st.1.at fun o e => hk it (by simp) o e, st.2.at fun o e => hk l (by simp) o e⟩
  item := fun i s Q E hi st hQ => by
    refine RZ.nextOf_tuple_item st.1 st.2 (x := items[i]) (by simp [hi]) fun h' hit' hs' => ?_
    exact hQ _ h' s.toks (by simp [hi]) ⟨hit', st.2.at fun o e => (hs'.2 l hne).trans e⟩ hs'
  done := fun s Q E st hE => RZ.nextOf_tuple_end hh st.1 st.2 (by simp) hE
def IteT (K : PySem.W.Frag) (a : Addr) : It :=
  ⟨fun i H => ∃ (xs : List V) (x : V), SqT K H a xs ∧ xs[i]? = some x, fun i H v H' => ∃ T x, v = .ref T ∧ H T = none ∧ H' = upd H T (.tup [.int (i : Nat), x]) ∧ ∀ xs, SqT K H a xs → xs[i]? = some x, fun i H => ∃ xs : List V, SqT K H a xs ∧ xs.length ≤ i⟩
theorem turn_enumT {P : Program} {w : World} {K : PySem.W.Frag} {elts : List Expr} {kk : Nat} {tpos : Pos} (a e it : Addr) :
    Turn P w K (.Tuple elts kk tpos) (IteT K a) [e, it] e (fun i h => (∃ old, IsEnum h e it ((i : Nat) : Int) old) ∧ h.IsTupleIter it a i ∧ e ≠ it) where
  mem := by simp
  obj := fun i h st b hb => by
    obtain ⟨⟨old, he⟩, ⟨o, ho, hc, hd⟩, _⟩ := st
    have e' : b = e ∨ b = it := by simpa using hb
    rcases e' with z | z
    · rw [z]; exact ⟨_, he, fun v q => nomatch q⟩
    · rw [z]; exact ⟨o, ho, fun v q => by rw [hd] at q; cases q⟩
  keep := fun i h h' st k => let ⟨⟨old, he⟩, hi, hne⟩ := st; ⟨⟨old, k e (by simp) _ he⟩, hi.at fun o q => k it (by simp) o q, hne⟩
  item := by
    intro X hP hw hK hc i pins s σ H E I hf st hg
    subst hP hw hK
    obtain ⟨⟨old, he⟩, hit, hne⟩ := st
    obtain ⟨xs, x, hq, hx⟩ := hg
    obtain ⟨its, rv, p, hz⟩ := I.tuple hq
    obtain ⟨u, hu, ru⟩ := rv.get hx
    have hT0 : s.heap.IsTuple a its.toArray := p
    have hel : e < s.heap.objs.size := Heap.lt_size he
    have hil : it < s.heap.objs.size := by obtain ⟨_, q, _⟩ := hit; exact Heap.lt_size q
    have hai : a ≠ it := fun z => by
      obtain ⟨o1, q1, c1, _⟩ := hit
      obtain ⟨o2, q2, c2, _⟩ := hT0
      rw [z, q1] at q2; cases q2; rw [c1] at c2; exact absurd (Value.type.inj c2) (by decide)
    have hae : e ≠ a := fun z => by
      obtain ⟨o2, q2, c2, _⟩ := hT0
      have he2 : s.heap.get? e = _ := he
      rw [z, q2] at he2; cases he2; exact absurd (Value.type.inj c2) (by decide)
    refine wpAny_pyNext_enum_itemD (drawsT (by exact I.ok.hd hc) it a hai its.toArray) he ⟨hit, hT0⟩ (by have := (List.getElem?_eq_some_iff.mp hu).1; simpa using this) hne (by simp [hne, hae]) fun x' h' tk hx' ho hst' hT hsz hk => ?_
    have exu : x' = u := by
      have q : its.toArray[i]? = some x' := hx'
      have q' : its[i]? = some x' := by simpa using q
      rw [hu] at q'; exact (Option.some.inj q').symm
    subst exu
    refine ⟨_, rfl, wpAny_letOwnedTupleGo_enum (s := { s with heap := h', toks := tk + 1 }) ho fun h'' he' sb => ?_⟩
    have hT2 : h''.get? s.heap.objs.size = some { cls := .type "tuple", data := .seq #[.int i tk, x'] } := (sb.2 _ (Nat.ne_of_gt hel)).trans hT
    have new : ObjOk X.prog X.w (upd H s.heap.objs.size (.tup [.int (i : Nat), x])) h'' s.heap.objs.size (.tup [.int (i : Nat), x]) :=
      ⟨by show 2 ≤ sizeLine; decide, [.int i tk, x'], .cons ⟨_, rfl⟩ (.cons ru .nil), ⟨_, hT2, rfl, _, rfl⟩⟩
    have I1 : Inv X pins σ (upd H s.heap.objs.size (.tup [.int (i : Nat), x])) { s with heap := h'', toks := tk + 1 } :=
      I.turnedNew (ch := [e, it]) (fun b ob hb q => (sb.2 b (fun z => hb (by simp [z]))).trans (hk b ob (fun z => hb (by simp [z])) (fun z => hb (by simp [z])) q)) hf (Nat.le_refl _) new
    refine ⟨.ref s.heap.objs.size, _, I1, rfl, ⟨_, x, rfl, I.hok.fresh (Nat.le_refl _), rfl, fun ys hy => by rw [I.tuple_inj hy hq]; exact hx⟩, ⟨⟨x', ?_⟩, hst'.1.at fun o q => (sb.2 it (Ne.symm hne)).trans q, hne⟩, fun b hb => ?_⟩
    · have e1 : ((i + 1 : Nat) : Int) = (i : Int) + 1 := by omega
      rw [e1]; exact he'
    · have hb' : b < s.heap.objs.size := by
        have e' : b = e ∨ b = it := by simpa using hb
        rcases e' with z | z
        · rw [z]; exact hel
        · rw [z]; exact hil
      rw [upd_ne (Nat.ne_of_lt hb')]
      exact (hf b hb).1
  done := by
    intro X hP hw hK hc i pins s σ H E I hf st hg
    subst hP hw hK
    obtain ⟨⟨old, he⟩, hit, hne⟩ := st
    obtain ⟨xs, hq, hx⟩ := hg
    obtain ⟨its, rv, p, hz⟩ := I.tuple hq
    have hT0 : s.heap.IsTuple a its.toArray := p
    have hai : a ≠ it := fun z => by
      obtain ⟨o1, q1, c1, _⟩ := hit
      obtain ⟨o2, q2, c2, _⟩ := hT0
      rw [z, q1] at q2; cases q2; rw [c1] at c2; exact absurd (Value.type.inj c2) (by decide)
    obtain ⟨f0, f1, f2, f3, f4, f5⟩ := hf it (by simp)
    have hl := rv.length
    have hle : its.toArray.size ≤ i := by simp; omega
    have D : Draws X.prog X.w X.A.in1 it [it, a] i (fun _ _ => False) (fun j h => j = i ∧ h.IsTupleIter it a i ∧ h.IsTuple a its.toArray) :=
      { live := fun _ _ st => let ⟨o, ho, _⟩ := st.2.1; ⟨o, ho⟩
        frame := fun _ _ _ st hk => ⟨st.1, st.2.1.at fun o e => hk it (by simp) o e, st.2.2.at fun o e => hk a (by simp) o e⟩
        item := fun j s Q E hi st hQ => absurd st.1 (by omega)
        done := fun s Q E st hE => RZ.nextOf_tuple_end (by exact I.ok.hd hc) st.2.1 st.2.2 (by simpa using hle) hE }
    exact wpAny_pyNext_enum_endD D he ⟨rfl, hit, hT0⟩ fun h' eb => ⟨rfl, I.turned (t' := s.toks) (fun b o hb q => eb b o hb q) f0 f1 f3 f4 f5⟩
  self := fun A i s Q E st h => let ⟨⟨_, he⟩, _⟩ := st; wpAny_pyIter_enum he h
def enumKP (K : PySem.W.Frag) (R : It → Hp → Prop) (vs : List V) (H1 : Hp) : Prop := ∃ a, vs = [.ref a] ∧ ((∃ xs, SqL K H1 a xs ∧ R (Ite K a) H1) ∨ (∃ xs, SqT K H1 a xs ∧ R (IteT K a) H1))
def iEnumP (K : PySem.W.Frag) (ta : TA) : TI := fun σ H R => ta σ H fun vs H1 => enumKP K R vs H1
theorem pi_enumP {X : Cx} {e : Expr} {ta : TA} {p pos tpos : Pos} {elts : List Expr} {kk : Nat} (hg : Gl X "enumerate") (hm : X.mg "enumerate" = none) (ha : PA X [e] ta) (hs : starEach [e] X.env = [(false, eval e X.env)] := by rfl) :
    PI X (.Tuple elts kk tpos) (.Call (.Name "enumerate" p) [e] [] pos) (iEnumP X.K ta) := by
  refine ⟨fun pins s σ H R I h => ?_⟩
  refine Call_ (ld_blt I hg hm boot_enumerate (PyProof.Rows.callWith_type1 (thn (ha.run pos pins s σ H _ I h) fun us s1 ⟨vs, H1, I1, r1, q1⟩ => ?_) hs rfl))
  obtain ⟨a, ex, hq⟩ := q1
  subst ex
  cases r1 with
  | cons r rr =>
    cases rr
    cases r
    have two : ∀ b, (b = s1.heap.objs.size + 1 ∨ b = s1.heap.objs.size) → s1.heap.objs.size ≤ b := fun b e' => by
      rcases e' with z | z
      · rw [z]; exact Nat.le_add_right _ _
      · rw [z]; exact Nat.le_refl _
    rcases hq with ⟨xs, hq, q⟩ | ⟨xs, hq, q⟩
    · obtain ⟨its, rv, p', hz⟩ := I1.list hq
      refine call_enumerate_list p'.isList fun h' he hit hsz hk => wpAny_pyIter_enum he ?_
      have I2 : Inv X pins σ H1 { s1 with heap := h' } := I1.kept (t' := s1.toks) hk
      refine ⟨s1.heap.objs.size + 1, [s1.heap.objs.size + 1, s1.heap.objs.size], _, _, H1, rfl, I2, turn_enum a (s1.heap.objs.size + 1) s1.heap.objs.size, ⟨⟨.none, he⟩, hit, Nat.succ_ne_self _⟩, fun b hb => ?_, q⟩
      have hle := two b (by simpa using hb)
      exact I1.fpOk hle (I1.hok.fresh hle)
    · obtain ⟨its, rv, p', hz⟩ := I1.tuple hq
      refine call_enumT (show s1.heap.IsTuple a its.toArray from p') fun h' he hit hsz hk => wpAny_pyIter_enum he ?_
      have I2 : Inv X pins σ H1 { s1 with heap := h' } := I1.kept (t' := s1.toks) hk
      refine ⟨s1.heap.objs.size + 1, [s1.heap.objs.size + 1, s1.heap.objs.size], _, _, H1, rfl, I2, turn_enumT a (s1.heap.objs.size + 1) s1.heap.objs.size, ⟨⟨.none, he⟩, hit, Nat.succ_ne_self _⟩, fun b hb => ?_, q⟩
      have hle := two b (by simpa using hb)
      exact I1.fpOk hle (I1.hok.fresh hle)
theorem i_enumP {K : PySem.W.Frag} {σ : L2.St} {H : Hp} {ta : TA} {R : It → Hp → Prop} (k : ta σ H fun vs H1 => enumKP K R vs H1) : iEnumP K ta σ H R := k
theorem l_enumL {K : PySem.W.Frag} {H : Hp} {a : Addr} {xs : List V} {R : It → Hp → Prop} (h : SqL K H a xs) (k : R (Ite K a) H) : enumKP K R [.ref a] H := ⟨a, rfl, .inl ⟨xs, h, k⟩⟩
theorem l_enumT {K : PySem.W.Frag} {H : Hp} {a : Addr} {xs : List V} {R : It → Hp → Prop} (h : SqT K H a xs) (k : R (IteT K a) H) : enumKP K R [.ref a] H := ⟨a, rfl, .inr ⟨xs, h, k⟩⟩
theorem walk_enumT {K : PySem.W.Frag} {a : Addr} {xs : List V} : Walk (IteT K a) xs.length (fun H => SqT K H a xs) (YPair (fun i => some (.int (i : Nat))) (fun i => xs[i]?)) := by
  refine ⟨fun i _ hi q => ⟨xs, xs[i], q, by simp [hi]⟩, fun _ q => ⟨xs, q, Nat.le_refl _⟩, fun i H v H' _ q y => ?_⟩
  obtain ⟨T, x, h1, h2, h3, h4⟩ := y
  exact ⟨T, .int (i : Nat), x, h1, h2, h3, rfl, h4 xs q⟩
theorem mt_insP {X : Cx} : MtR X "list.insert" rInsP := mt_insert
def zipK (K : PySem.W.Frag) (R : It → Hp → Prop) (vs : List V) (H1 : Hp) : Prop := ∃ a b xs ys, vs = [.ref a, .ref b] ∧ ((SqL K H1 a xs ∧ SqL K H1 b ys ∧ R (Itz K a b) H1) ∨ (SqT K H1 a xs ∧ SqT K H1 b ys ∧ R (RZ.ItzT K a b) H1))
theorem i_zip {K : PySem.W.Frag} {σ : L2.St} {H : Hp} {ta : TA} {R : It → Hp → Prop} (k : ta σ H fun vs H1 => zipK K R vs H1) : RZ.iZipA K ta σ H R := k
theorem l_zipL {K : PySem.W.Frag} {H : Hp} {a b : Addr} {xs ys : List V} {R : It → Hp → Prop} (h : SqL K H a xs) (h2 : SqL K H b ys) (k : R (Itz K a b) H) : zipK K R [.ref a, .ref b] H := ⟨a, b, xs, ys, rfl, .inl ⟨h, h2, k⟩⟩
theorem l_zipT {K : PySem.W.Frag} {H : Hp} {a b : Addr} {xs ys : List V} {R : It → Hp → Prop} (h : SqT K H a xs) (h2 : SqT K H b ys) (k : R (RZ.ItzT K a b) H) : zipK K R [.ref a, .ref b] H := ⟨a, b, xs, ys, rfl, .inr ⟨h, h2, k⟩⟩
/-- the heap without p: what stands whatever becomes of p -/
def hide (p : Addr) (H : Hp) : Hp := fun a => if a = p then none else H a
theorem hide_none {p : Addr} {H : Hp} : hide p H p = none := if_pos rfl
theorem hide_at {p a : Addr} {H : Hp} {o : HO} (n : a ≠ p) (h : H a = some o) : hide p H a = some o := by unfold hide; rw [if_neg n]; exact h
theorem hide_ex {p : Addr} {H : Hp} : Ex (hide p H) H := fun a o h => by
  unfold hide at h
  split at h
  · cases h
  · exact h
theorem hide_t {K : PySem.W.Frag} {p a : Addr} {H : Hp} {xs ys : List V} (hp : H p = some (.lst ys)) (h : SqT K H a xs) : SqT K (hide p H) a xs := exB_t (fun _ _ n h => hide_at n h) hp h
theorem ExB.hidden {p : Addr} {H H' : Hp} (e : ExB p H H') : Ex (hide p H) H' := ExB.new hide_ex e hide_none
theorem walk_zipT {K : PySem.W.Frag} {a b : Addr} {xs ys : List V} {n : Nat} (hn : n = min xs.length ys.length) : Walk (RZ.ItzT K a b) n (fun H => SqT K H a xs ∧ SqT K H b ys) (YPair (fun i => xs[i]?) (fun i => ys[i]?)) := by
  subst hn
  refine ⟨fun i _ hi q => ?_, fun _ q => ⟨xs, ys, q.1, q.2, by omega⟩, fun i H v H' _ q y => ?_⟩
  · have h1 : i < xs.length := by omega
    have h2 : i < ys.length := by omega
    exact ⟨xs, ys, xs[i], ys[i], q.1, q.2, by simp [h1], by simp [h2]⟩
  · obtain ⟨T, x, z, h1, h2, h3, h4, h5⟩ := y
    exact ⟨T, x, z, h1, h2, h3, h4 xs q.1, h5 ys q.2⟩
/-- sum of a tuple of whole numbers -/
def rSumT (K : PySem.W.Frag) : List V → Hp → VK → Prop := fun vs H Q => ∃ (a : Addr) (ns : List Int), vs = [V.ref a] ∧ SqT K H a (ns.map V.int) ∧ Q (.int ns.sum) H
theorem cr_sumT {X : Cx} (hc : X.calm = true) : CallR X (.builtin "sum") (rSumT X.K) := by
  intro pins s σ H vs us Q I r h
  obtain ⟨a, ns, rfl, hs, q⟩ := h
  obtain ⟨its, rv, hl, _⟩ := I.tuple hs
  rw [Vals.ref1 r]
  have hl' : s.heap.IsTuple a its.toArray := hl
  have hi := rv.ints
  obtain ⟨xs, hx⟩ := hi.allInts.items
  have hn : numsOf its.toArray.toList = ns := by rw [show its.toArray.toList = its from rfl, hi.numsOf]
  rw [hx] at hl' hn
  rw [nums_intItems] at hn
  refine PySem.W.ktm_sumG (I.ok.hd hc) hl' fun h' tk t' hk => ?_
  rw [preSum_eq, List.take_of_length_le (by simp), hn]
  exact ⟨.int _, H, I.kept hk, ⟨_, rfl⟩, q⟩
def rSumP (K : PySem.W.Frag) : List V → Hp → VK → Prop := fun vs H Q => rSum K vs H Q ∨ rSumT K vs H Q
theorem l_sumL {K : PySem.W.Frag} {H : Hp} {Q : VK} {a : Addr} {ns : List Int} (h : SqL K H a (ns.map V.int)) (k : Q (.int ns.sum) H) : rSumP K [.ref a] H Q := .inl ⟨a, ns, rfl, h, k⟩
theorem l_sumTp {K : PySem.W.Frag} {H : Hp} {Q : VK} {a : Addr} {ns : List Int} (h : SqT K H a (ns.map V.int)) (k : Q (.int ns.sum) H) : rSumP K [.ref a] H Q := .inr ⟨a, ns, rfl, h, k⟩
def rIntP : List V → Hp → VK → Prop := fun xs H Q => (∃ i, xs = [.int i] ∧ Q (.int i) H) ∨ ∃ k, xs = [.bl k] ∧ Q (.int (if k then 1 else 0)) H
theorem call_intP {X : Cx} : CallR X (.type "int") rIntP := call_int1
theorem l_intB {H : Hp} {Q : VK} {b : Bool} (k : Q (.int (if b then 1 else 0)) H) : rIntP [.bl b] H Q := .inr ⟨b, rfl, k⟩
/-! a range with a step; an item changed in place; the greatest -/
def rngK3 (R : It → Hp → Prop) (vs : List V) (H1 : Hp) : Prop := ∃ (i j c : Int) (n : Nat), vs = [.int i, .int j, .int c] ∧ RgC i j c n ∧ R (Itc i c n) H1
theorem i_rng3 {σ : L2.St} {H : Hp} {ta : TA} {R : It → Hp → Prop} (k : ta σ H fun vs H1 => rngK3 R vs H1) : iRng3 ta σ H R := k
theorem l_rngD {i j : Int} {H : Hp} {R : It → Hp → Prop} (h : -(2 ^ 62) ≤ i ∧ i < 2 ^ 62 ∧ -(2 ^ 62) ≤ j ∧ j < 2 ^ 62) (k : R (Itc i (-1) (i - j).toNat) H) : rngK3 R [.int i, .int j, .int (-1)] H := ⟨i, j, -1, _, rfl, RgC.neg h.1 h.2.1 h.2.2.1 h.2.2.2, k⟩
theorem l_forC {lo c : Int} {n : Nat} {g : TG} {tb : TS} {D : Ends} {σ : L2.St} {H : Hp} (Pv : Nat → L2.St → Hp → Prop) (h0 : Pv 0 σ H)
    (hs : ∀ i σ H, i < n → Pv i σ H → g (.int (lo + (i : Nat) * c)) σ H fun σ2 H2 => tb { D with nx := Pv (i + 1), ct := Pv (i + 1), bk := D.nx } σ2 H2) (hd : ∀ σ H, Pv n σ H → D.nx σ H) : ForK g tb D (Itc lo c n) σ H :=
  for_it walk_rangeC Pv h0 (fun _ _ _ _ _ => True.intro) (fun i x σ H H' hi hp ⟨e, hx⟩ => by subst e; rw [hx]; exact hs i σ _ hi hp) hd
/-- xs[i] op= e on a list of whole numbers -/
def rGetL : V → V → Hp → VK → Prop := fun o i H Q => ∃ p xs j v, o = .ref p ∧ i = .int ((j : Nat) : Int) ∧ H p = some (.lst xs) ∧ j < 100000 ∧ xs[j]? = some v ∧ Q v H
theorem get_list {X : Cx} : PGet X rGetL := by
  intro pins s σ H o i ov iv Q I ro ri h
  obtain ⟨p, xs, j, v, rfl, rfl, hp, hj, hx, q⟩ := h
  cases ro
  obtain ⟨t, rfl⟩ := ri
  obtain ⟨its, r, pl, hz⟩ := I.list (SqL.of (K := X.K) hp)
  obtain ⟨u, hu, ru⟩ := r.get hx
  exact wpAny_getItem_list pl.isList (by omega) (by omega) (by simpa using hu) ⟨v, H, I, ru, q⟩
theorem l_get {H : Hp} {Q : VK} {p : Addr} {xs : List V} {j : Nat} {v : V} (h : H p = some (.lst xs)) (hj : j < 100000) (hx : xs[j]? = some v) (k : Q v H) : rGetL (.ref p) (.int (j : Nat)) H Q := ⟨p, xs, j, v, rfl, rfl, h, hj, hx, k⟩
theorem q_augS {to ti te : TE} {tget : V → V → Hp → VK → Prop} {tip : TIp} {tset : TSet} {D : Ends} {σ : L2.St} {H : Hp} {u : TS} (k : to σ H fun o H1 => ti σ H1 fun i H2 => tget o i H2 fun x H3 => te σ H3 fun y H4 => tip x y H4 fun z H5 => tset o i z H5 fun H6 => u D σ H6) : tSeq (tAugS to ti te tget tip tset) u D σ H := k
theorem z_augS {to ti te : TE} {tget : V → V → Hp → VK → Prop} {tip : TIp} {tset : TSet} {D : Ends} {σ : L2.St} {H : Hp} (k : to σ H fun o H1 => ti σ H1 fun i H2 => tget o i H2 fun x H3 => te σ H3 fun y H4 => tip x y H4 fun z H5 => tset o i z H5 fun H6 => D.nx σ H6) : tAugS to ti te tget tip tset D σ H := k
def rMaxP (K : PySem.W.Frag) : List V → Hp → VK → Prop := rMax K
theorem l_maxL {K : PySem.W.Frag} {H : Hp} {Q : VK} {a : Addr} {ns : List Int} (h : SqL K H a (ns.map V.int)) (hn : 0 < ns.length) (k : ∀ m, m ∈ ns → (∀ y, y ∈ ns → y ≤ m) → Q (.int m) H) : rMaxP K [.ref a] H Q := ⟨a, ns, rfl, h, hn, k⟩
/-! the rules that lean on K, with K told -/
section
variable {X : Cx} {K : PySem.W.Frag}
theorem op_addK (h : X.K = K) : OpR X (binaryOp .Add) (rAddP K) := h ▸ op_addP
theorem op_mulK (h : X.K = K) : OpR X (binaryOp .Mult) (rMulP K) := h ▸ op_mulP
theorem op_eqK (hu : X.A.units + 64 < cLine) (h : X.K = K) : OpR X (compareOp .Eq) (rEqP K) := h ▸ op_eqP hu
theorem op_neK (hu : X.A.units + 64 < cLine) (h : X.K = K) : OpR X (compareOp .NotEq) (rNeP K) := h ▸ op_neP hu
theorem op_inK (h : X.K = K) : OpR X (compareOp .In) (rIn K false) := h ▸ op_in_seq
theorem op_notInK (h : X.K = K) : OpR X (compareOp .NotIn) (rIn K true) := h ▸ op_notIn_seq
theorem call_lenK (h : X.K = K) : CallR X (.builtin "len") (rLenP K) := h ▸ call_lenP
theorem call_tupK (h : X.K = K) : CallR X (.type "tuple") (rTupOf K) := h ▸ call_tupOf
theorem call_listK (h : X.K = K) : CallR X (.type "list") (rListOf K) := h ▸ call_listOf
theorem call_isiK' (h : X.K = K) : CallR X (.builtin "isinstance") (rIsi K) := h ▸ call_isi
theorem cr_allK (hc : X.calm = true) (h : X.K = K) : CallR X (.builtin "all") (rAll K) := h ▸ cr_all hc
theorem cr_anyK (hc : X.calm = true) (h : X.K = K) : CallR X (.builtin "any") (rAny K) := h ▸ cr_any hc
theorem cr_sumK (hc : X.calm = true) (h : X.K = K) : CallR X (.builtin "sum") (rSumP K) := h ▸ (cr_sum hc).or (cr_sumT hc)
theorem cr_maxK (hc : X.calm = true) (h : X.K = K) : CallR X (.builtin "max") (rMaxP K) := h ▸ cr_max hc
theorem sl_K (h : X.K = K) : SlR X (rSlP K) := h ▸ sl_P
theorem ix_K (h : X.K = K) : IxR X (rIx K) := h ▸ ix_seq
theorem mt_indexK (h : X.K = K) : MtR X "list.index" (rIndex K) := h ▸ mt_index
theorem pi_seqK {tg l : Expr} {tl : TE} (h : X.K = K) (hl : PE X l tl) : PI X tg l (iSeq K tl) := h ▸ pi_seq hl
theorem pi_enumK {e : Expr} {ta : TA} {p pos tpos : Pos} {elts : List Expr} {kk : Nat} (h : X.K = K) (hg : Gl X "enumerate") (hm : X.mg "enumerate" = none) (ha : PA X [e] ta) (hs : starEach [e] X.env = [(false, eval e X.env)] := by rfl) :
    PI X (.Tuple elts kk tpos) (.Call (.Name "enumerate" p) [e] [] pos) (iEnumP K ta) := h ▸ pi_enumP hg hm ha hs
theorem pi_zipK {a b : Expr} {ta : TA} {p pos tpos : Pos} {elts : List Expr} {kk : Nat} (h : X.K = K) (hg : Gl X "zip") (hm : X.mg "zip" = none) (ha : PA X [a, b] ta) (hs : starEach [a, b] X.env = (false, eval a X.env) :: starEach [b] X.env := by rfl) (hs2 : (backTo pos (starEach [b] X.env)).any (·.1) = false := by rfl) :
    PI X (.Tuple elts kk tpos) (.Call (.Name "zip" p) [a, b] [] pos) (RZ.iZipA K ta) := h ▸ RZ.pi_zipA hg hm ha hs hs2
theorem pg_tupK {es : List Expr} {k : Nat} {t : TGs} {n : Nat} {pos : Pos} (h : X.K = K) (hc : X.calm = true) (hp : PGs X es t)
    (hn : (assignEach es X.env).length = n := by rfl) (hst : (assignEach es X.env).findIdx? (·.1) = none := by rfl) : PG X (.Tuple es k pos) (gTup K n t) := h ▸ pg_tup hc hp hn hst
theorem pe_fldK {e : Expr} {ta : TE} {f : Str} {pos : Pos} (h : X.K = K) (he : PE X e ta) (hb : attributeBase e f X.env (eval e X.env) = eval e X.env) : PE X (.Attribute e f pos) (tFld K ta f) := h ▸ pe_fld he hb
theorem pe_bmK {T : String} {r : V → List V → Hp → VK → Prop} {o : Expr} {to : TE} {t : TA} (h : X.K = K) (hp : PE X o (tBM X.K T r to t)) : PE X o (tBM K T r to t) := h ▸ hp
theorem pe_bm0K {T : String} {r : V → List V → Hp → VK → Prop} {o : Expr} {to : TE} (h : X.K = K) (hp : PE X o (tBM0 X.K T r to)) : PE X o (tBM0 K T r to) := h ▸ hp
end
end
/-! tuple(reversed(a tuple)) -/
theorem nolen_rt : typeLookup (.type "reversed") "__len__" = pure none := by rw [typeLookup_type, builtinLookup_eq_fast]; kernel_rfl
theorem slot_rt_hint : Slot "reversed" "__length_hint__" "reversed.__length_hint__" :=
  .of (owner := "reversed") (n := "__length_hint__") (by rw [typeLookup_type, builtinLookup_eq_fast]; kernel_rfl) (by decide +kernel) (by decide +kernel) (by decide +kernel)
    (by first | exact .inl (by decide +kernel) | exact .inr (by decide +kernel)) (by rw [isSubtype_type]; kernel_rfl)
theorem entry_rt_hint : entryFor table "reversed.__length_hint__" = some Builtin.«reversed.__length_hint__» := entryFor_of_tree (by kernel_rfl)
theorem args_rt_hint (a : Value) : argsOk "reversed.__length_hint__" ⟨[a], []⟩ := by
  unfold argsOk; rw [signature?_of (id := "reversed.__length_hint__") (n := ['_', '_', 't', 'n', 'i', 'h', '_', 'h', 't', 'g', 'n', 'e', 'l', '_', '_']) (o := ['d', 'e', 's', 'r', 'e', 'v', 'e', 'r']) (by kernel_rfl) RT.owner_rt]; kernel_rfl
theorem walks_rt {prog : Program} {w : World} {A : Around} (hh : A.handled = none) (I l : Addr) (hne : l ≠ I) (items : Array Value) (hn : items.size ≤ sizeLine) :
    Walks prog w A I [I, l] [I] items.size (fun i v => items[items.size - 1 - i]? = some v) (fun i h => i ≤ items.size ∧ RT.IsRt h I l ((items.size : Int) - 1 - (i : Int)) ∧ IsTup h l items) where
  sub := fun b hb => by simp at hb; simp [hb]
  frame := fun _ _ _ x hk => ⟨x.1, x.2.1.at fun o e => hk I (by simp) o e, by
    obtain ⟨o, ho, r⟩ := x.2.2
    exact ⟨o, hk l (by simp) o ho, r⟩⟩
  item := fun i s Q E hi x hQ => by
    have e : (items.size : Int) - 1 - (i : Int) = ((items.size - 1 - i : Nat) : Int) := by omega
    have hit := x.2.1
    rw [e] at hit
    have hx : items[items.size - 1 - i]? = some (items[items.size - 1 - i]'(by omega)) := Array.getElem?_eq_getElem (by omega)
    refine RT.next_rt_item hit x.2.2 hx hn fun h' hit' hs' => ?_
    have e2 : ((items.size - 1 - i : Nat) : Int) - 1 = (items.size : Int) - 1 - ((i + 1 : Nat) : Int) := by omega
    rw [e2] at hit'
    refine hQ _ h' _ hx ⟨hi, hit', ?_⟩ fun b o hb eo => (hs'.2 b (fun h => hb (by simp [h]))).trans eo
    obtain ⟨o, ho, r⟩ := x.2.2
    exact ⟨o, (hs'.2 l hne).trans ho, r⟩
  done := fun s Q E x hQ => by
    have e : (items.size : Int) - 1 - (items.size : Int) = -1 := by omega
    have hit := x.2.1
    rw [e] at hit
    exact RT.next_rt_end hh hit fun h' he' => hQ h' s.toks fun b o hb eo => he' b o (fun h => hb (by simp [h])) eo
  self := fun _ _ _ _ x hQ => RT.iter_rt x.2.1 hQ
section
variable {prog : Program} {w : World} {A : Around} {E : Value → Shared → Prop} {s : Shared}
theorem call_rt_hint {it t : Addr} {items : Array Value} {Q : Value → Shared → Prop} (hit : RT.IsRt s.heap it t ((items.size : Int) - 1)) (ht : IsTup s.heap t items) (hn : items.size ≤ sizeLine)
    (hQ : ∀ tk tk', Q (.int (items.size : Nat) tk) { s with toks := tk' }) : wpAny (model prog w) A (call (.builtin "reversed.__length_hint__") [.ref it]) Q E s := by
  obtain ⟨o, ho, hc, hd⟩ := id hit
  rw [sizeLine_eq] at hn
  refine wpAny_call_entry slot_rt_hint hit.typeIs entry_rt_hint ?_ (args_rt_hint _)
  unfold Builtin.«reversed.__length_hint__»
  refine wpAny_bind (wpAny_of_eq (a := Value.ref it) rfl ?_)
  try dsimp only
  refine wpAny_bind (wpAny_field ho hd (x := .ref t) rfl ?_)
  try dsimp only
  rw [if_neg (by simp)]
  try dsimp only
  refine wpAny_bind ?_
  refine PyProof.Rows.len_tuple ht (by omega) ?_
  refine wpAny_bind (wpAny_of_eq (a := some ((items.size : Nat) : Int)) rfl ?_)
  try dsimp only
  refine wpAny_bind (wpAny_field (s := { s with toks := s.toks + 1 + 1 }) ho hd (x := rawInt ((items.size : Int) - 1)) rfl ?_)
  try dsimp only [rawInt]
  rw [if_neg (by omega)]
  unfold retInt
  refine wpAny_bind (wpAny_mkInt ?_)
  have e : (items.size : Int) - 1 + 1 = (items.size : Nat) := by omega
  refine wpAny_pure ⟨_, rfl, ?_⟩
  rw [e]
  exact hQ _ _
theorem hint_rt {it t : Addr} {items : Array Value} {Q : Bool → Shared → Prop} (hit : RT.IsRt s.heap it t ((items.size : Int) - 1)) (ht : IsTup s.heap t items) (hn : items.size ≤ sizeLine)
    (hQ : ∀ tk', Q (items.size != 0) { s with toks := tk' }) : wpAny (model prog w) A (Builtin.List.listLengthHint (.ref it)) Q E s := by
  have hT := hit.typeIs
  unfold Builtin.List.listLengthHint
  refine wpAny_bind (wpAny_specialOf hT nolen_rt ?_)
  show wpAny _ A (specialOf (Value.ref it) (Str.ofString "__length_hint__") >>= _) _ _ _
  refine wpAny_bind (wpAny_specialOf hT slot_rt_hint.lookup ?_)
  generalize hid : ("reversed.__length_hint__" : String) = id0
  wp_delta
  rw [show splitId id0 = some ("reversed", "__length_hint__") from by subst hid; decide +kernel]
  subst hid
  refine wpAny_bind (wpAny_isInstance (b := true) hT (by rw [isSubtype_type]; kernel_rfl) ?_)
  rw [if_neg (by decide)]
  try dsimp only
  rw [if_neg (by decide +kernel)]
  refine wpAny_bind (wpAny_rule ?_)
  refine wpAny_bind (wpAny_of_eq (slot_rt_hint.bind _) ?_)
  try dsimp only
  refine wpAny_bind (wpAny_attempt (call_rt_hint hit ht hn fun tk tk' => ?_))
  try dsimp only
  have ea : asInt? (Value.int ((items.size : Nat) : Int) tk) = pure (some ((items.size : Nat) : Int)) := rfl
  rw [sizeLine_eq] at hn
  generalize hz : ((items.size : Nat) : Int) = z at *
  refine wpAny_bind ?_
  rw [ea]
  refine wpAny_pure ?_
  try dsimp only
  have f1 : Builtin.List.listFitsIndex z = true := by
    unfold Builtin.List.listFitsIndex
    rw [decide_eq_true (by omega), decide_eq_true (by omega)]; rfl
  have f2 : Builtin.List.listTooLong z.toNat = false := by
    unfold Builtin.List.listTooLong
    rw [sizeLine_eq]
    exact decide_eq_false (by omega)
  rw [if_neg (by rw [f1]; decide), if_neg (by omega), if_neg (by rw [f2]; decide)]
  refine wpAny_pure ?_
  have e : (z != 0) = (items.size != 0) := by
    rw [← hz]
    cases items.size with
    | zero => rfl
    | succ n => rfl
  rw [e]
  exact hQ _
theorem collect_rt {it l : Addr} {items : Array Value} {Q : List Value → Shared → Prop} (hh : A.handled = none) (hit : RT.IsRt s.heap it l ((items.size : Int) - 1)) (hl : IsTup s.heap l items) (hne : l ≠ it) (hn : items.size ≤ sizeLine)
    (hQ : ∀ (h' : Heap) (tk : Nat) (acc : Array Value), (∀ b o, b ≠ it → s.heap.get? b = some o → h'.get? b = some o) → ItemsOf (fun i v => items[items.size - 1 - i]? = some v) acc items.size → Q acc.toList { s with heap := h', toks := tk }) :
    wpAny (model prog w) A (collect (.ref it)) Q E s := by
  have W := (walks_rt (prog := prog) (w := w) (A := A.in1) hh it l hne items hn).toS
  obtain ⟨oi, hoi, _⟩ := id hit
  obtain ⟨ol, hol, _⟩ := id hl
  have hSi : s.heap.objs.size ≠ it := Nat.ne_of_gt (Heap.lt_size hoi)
  have hSl : s.heap.objs.size ≠ l := Nat.ne_of_gt (Heap.lt_size hol)
  have hSf : s.heap.objs.size ∉ [it, l] := by simp only [List.mem_cons, List.not_mem_nil, or_false, not_or]; exact ⟨hSi, hSl⟩
  unfold collect
  refine wpAny_bind (wpAny_runValue (codeAny_builtin F.entry_proto_collect ?_))
  rw [Around.under_plainId F.plain_proto_collect _]
  show wpAny _ A.in1 (newList [] >>= fun l' => again (.builtin "list.__iadd__" ⟨[l', .ref it], []⟩)) _ _ s
  refine wpAny_bind (wpAny_newObj_type ?_)
  refine wpAny_pure ⟨plainId_quiet F.plain_list_iadd _, codeAny_builtin F.entry_list_iadd ?_⟩
  rw [Around.under_plainId F.plain_list_iadd _]
  have k0 : ∀ b o, s.heap.get? b = some o → (s.heap.push { cls := .type "list", data := .seq ([] : List Value).toArray }).get? b = some o := fun b o e => Heap.get?_push_of_some _ e
  have hS₁ : (s.heap.push { cls := .type "list", data := .seq ([] : List Value).toArray }).get? s.heap.objs.size = some { cls := .type "list", data := .seq ([] : List Value).toArray } := Heap.get?_push_size _ rfl
  have hit1 : RT.IsRt (s.heap.push { cls := .type "list", data := .seq ([] : List Value).toArray }) it l ((items.size : Int) - 1) := hit.at fun o e => k0 _ _ e
  have tupK : ∀ {h h' : Heap}, (∀ b o, h.get? b = some o → b ≠ s.heap.objs.size → h'.get? b = some o) → IsTup h l items → IsTup h' l items := fun k ⟨o, ho, r⟩ => ⟨o, k _ _ ho (Ne.symm hSl), r⟩
  have hl1 : IsTup (s.heap.push { cls := .type "list", data := .seq ([] : List Value).toArray }) l items := tupK (fun b o e _ => k0 b o e) hl
  have hT : ({ s with heap := s.heap.push { cls := .type "list", data := .seq ([] : List Value).toArray } } : Shared).TypeIs (.ref it) "reversed" := RT.IsRt.typeIs (s := { s with heap := s.heap.push { cls := .type "list", data := .seq ([] : List Value).toArray } }) hit1
  have h1 : Builtin.List.listSameRef (.ref s.heap.objs.size) (.ref it) = false := by simp [Builtin.List.listSameRef, hSi]
  show wpAny _ A.in1 (Builtin.List.listExtendWith (.ref s.heap.objs.size) (.ref it) (.ref s.heap.objs.size)) _ _ _
  unfold Builtin.List.listExtendWith
  refine wpAny_bind (wpAny_typeOf hT ?_)
  rw [if_neg (by rw [h1]; decide)]
  refine wpAny_bind (RT.iter_rt (s := { s with heap := s.heap.push { cls := .type "list", data := .seq ([] : List Value).toArray } }) hit1 ?_)
  refine wpAny_bind (wpAny_holding ?_)
  refine hint_rt (s := { s with heap := s.heap.push { cls := .type "list", data := .seq ([] : List Value).toArray } }) hit1 hl1 hn fun tk' => ?_
  have e0 : ((items.size : Nat) : Int) - 1 - ((0 : Nat) : Int) = (items.size : Int) - 1 := by omega
  by_cases hz : items.size = 0
  · rw [if_neg (by rw [hz]; decide +kernel)]
    have hS₃ := hS₁
    have oth : ∀ b o, b ≠ s.heap.objs.size → s.heap.get? b = some o → (s.heap.push { cls := .type "list", data := .seq ([] : List Value).toArray }).get? b = some o := fun b o _ e => k0 b o e
    generalize s.heap.push { cls := .type "list", data := .seq ([] : List Value).toArray } = h3 at hS₃ oth ⊢
    have hit3 : RT.IsRt h3 it l ((items.size : Int) - 1) := hit.at fun o e => oth _ _ (Ne.symm hSi) e
    have hl3 : IsTup h3 l items := by
      obtain ⟨o, ho, r⟩ := hl
      exact ⟨o, oth _ _ (Ne.symm hSl) ho, r⟩
    refine wpAny_pure ⟨plainId_quiet F.plain_extend_loop _, codeAny_extend_loopS W hn _ hSf _ items.size 0 _ _ _ rfl (Nat.zero_le _) ⟨Nat.zero_le _, by rw [e0]; exact hit3, hl3⟩ hS₃ (ItemsOf.nil _) fun s' acc' c' hm hS' hacc => ?_⟩
    show wpAny _ A (load s.heap.objs.size >>= _) _ _ s'
    refine wpAny_bind (wpAny_load hS' ?_)
    refine wpAny_pure ?_
    rw [Moved.eq_with hm]
    refine hQ s'.heap s'.toks acc' (fun b o hb e => hm.heap b o (fun hmem => ?_) (oth _ _ (fun z => absurd (Heap.lt_size e) (by rw [z]; exact Nat.lt_irrefl _)) e)) hacc
    rcases List.mem_cons.mp hmem with e' | hmem
    · exact absurd (Heap.lt_size e) (by rw [e']; exact Nat.lt_irrefl _)
    · exact hb (List.mem_singleton.mp hmem)
  · rw [if_pos (by rw [show (items.size != 0) = true by simp [hz]]; rfl)]
    refine wpAny_bind (wpAny_rule ?_)
    refine wpAny_bind ?_
    show wpAny _ A.in1 (updateSeq s.heap.objs.size (·.push .none) >>= fun _ => updateSeq s.heap.objs.size (·.pop)) _ _ _
    refine wpAny_bind (wpAny_updateSeq hS₁ rfl ?_)
    have hS₂ := Heap.get?_update_self (Obj.mapSeq (·.push Value.none)) hS₁ rfl
    refine wpAny_updateSeq hS₂ rfl ?_
    have hS₃ := Heap.get?_update_self (Obj.mapSeq (·.pop)) hS₂ rfl
    have oth : ∀ b o, b ≠ s.heap.objs.size → s.heap.get? b = some o →
      (((s.heap.push { cls := .type "list", data := .seq ([] : List Value).toArray }).update s.heap.objs.size (Obj.mapSeq (·.push Value.none))).update s.heap.objs.size (Obj.mapSeq (·.pop))).get? b = some o :=
      fun b o hb e => (Heap.get?_update_other _ _ (Ne.symm hb)).trans ((Heap.get?_update_other _ _ (Ne.symm hb)).trans (k0 b o e))
    generalize ((s.heap.push { cls := .type "list", data := .seq ([] : List Value).toArray }).update s.heap.objs.size (Obj.mapSeq (·.push Value.none))).update s.heap.objs.size (Obj.mapSeq (·.pop)) = h3 at hS₃ oth ⊢
    have hit3 : RT.IsRt h3 it l ((items.size : Int) - 1) := hit.at fun o e => oth _ _ (Ne.symm hSi) e
    have hl3 : IsTup h3 l items := by
      obtain ⟨o, ho, r⟩ := hl
      exact ⟨o, oth _ _ (Ne.symm hSl) ho, r⟩
    refine wpAny_pure ⟨plainId_quiet F.plain_extend_loop _, codeAny_extend_loopS W hn _ hSf _ items.size 0 _ _ _ rfl (Nat.zero_le _) ⟨Nat.zero_le _, by rw [e0]; exact hit3, hl3⟩ hS₃ (ItemsOf.nil _) fun s' acc' c' hm hS' hacc => ?_⟩
    show wpAny _ A (load s.heap.objs.size >>= _) _ _ s'
    refine wpAny_bind (wpAny_load hS' ?_)
    refine wpAny_pure ?_
    rw [Moved.eq_with hm]
    refine hQ s'.heap s'.toks acc' (fun b o hb e => hm.heap b o (fun hmem => ?_) (oth _ _ (fun z => absurd (Heap.lt_size e) (by rw [z]; exact Nat.lt_irrefl _)) e)) hacc
    rcases List.mem_cons.mp hmem with e' | hmem
    · exact absurd (Heap.lt_size e) (by rw [e']; exact Nat.lt_irrefl _)
    · exact hb (List.mem_singleton.mp hmem)
theorem code_tuple_new_rt {it l : Addr} {items : Array Value} {Q₁ : Value → Shared → Prop} (hh : A.handled = none) (hit : RT.IsRt s.heap it l ((items.size : Int) - 1)) (hl : IsTup s.heap l items) (hne : l ≠ it) (hn : items.size ≤ sizeLine)
    (h : ∀ (h' : Heap) (tk : Nat) (acc : Array Value), (∀ b o, b ≠ it → s.heap.get? b = some o → h'.get? b = some o) → ItemsOf (fun i v => items[items.size - 1 - i]? = some v) acc items.size →
      Q₁ (.ref h'.objs.size) { s with heap := h'.push { cls := .type "tuple", data := .seq acc }, toks := tk }) :
    codeAny (model prog w) A (.call (.builtin "tuple.__new__") ⟨[.type "tuple", .ref it], []⟩) (wants Q₁ E) s := by
  refine codeAny_of_tree ?_
  show wpAny _ A.in1 (do checkBuiltinCall "tuple.__new__" ⟨[.type "tuple", .ref it], []⟩; again (.builtin "tuple.__new__" ⟨[.type "tuple", .ref it], []⟩)) _ _ s
  refine wpAny_bind (wpAny_of_eq (F.newCall_tuple_1 _) (wpAny_pure ⟨plainId_quiet F.plain_tuple_new _, codeAny_builtin F.entry_tuple_new ?_⟩))
  rw [Around.under_plainId F.plain_tuple_new _]
  have hsub := sub_tuple_self
  have hinit := init_tuple_lookup
  have hmh := madeHere_tuple
  have hTI : s.TypeIs (.ref it) "reversed" := hit.typeIs
  have hh1 : A.in1.handled = none := hh
  wp_walk using wpAny_typeOf hTI, collect_rt (A := A.in1) hh1 hit hl hne hn
  intro h' tk acc hk hacc
  show wpAny _ _ (Builtin.Tuple.tupleExact acc.toList.toArray >>= fun v => ret v) _ _ _
  unfold Builtin.Tuple.tupleExact
  refine wpAny_bind (wpAny_newObj_type ?_ (by show acc.toList.toArray.size ≤ sizeLine; simp only [Array.toArray_toList]; rw [hacc.1]; exact hn))
  refine wpAny_pure ?_
  have e : acc.toList.toArray = acc := by simp
  rw [e]
  exact h h' tk acc hk hacc
theorem call_tuple_rt {it l : Addr} {items : Array Value} {Q : Value → Shared → Prop} (hh : A.handled = none) (hit : RT.IsRt s.heap it l ((items.size : Int) - 1)) (hl : IsTup s.heap l items) (hne : l ≠ it) (hn : items.size ≤ sizeLine)
    (hQ : ∀ (h' : Heap) (tk : Nat) (acc : Array Value), (∀ b o, b ≠ it → s.heap.get? b = some o → h'.get? b = some o) → ItemsOf (fun i v => items[items.size - 1 - i]? = some v) acc items.size →
      Q (.ref h'.objs.size) { s with heap := h'.push { cls := .type "tuple", data := .seq acc }, toks := tk }) :
    wpAny (model prog w) A (call (.type "tuple") [.ref it]) Q E s := by
  refine callType_codes (Q₁ := fun obj s₁ => s₁.TypeIs obj "tuple" ∧ Q obj s₁) F.called_tuple (F.typeCall_tuple_1 _) F.entry_object_init
    (code_tuple_new_rt (A := A.in1) hh hit hl hne hn fun h' tk acc hk hacc => ⟨⟨_, Heap.get?_push_size _ rfl, rfl⟩, hQ h' tk acc hk hacc⟩) fun obj s₁ h₁ => ?_
  exact ⟨h₁.1, F.args_object_init_2 obj _, object_init_meets F.called_tuple.init.lookup F.called_tuple.made (by decide) prog w A.in1 _ s₁ ⟨h₁.1, rfl, h₁.2⟩⟩
end
section
variable {X : Cx}
def tTupRevT (K : PySem.W.Frag) (te : TE) : TE := fun σ H Q => te σ H fun v H1 => ∃ (a : Addr) (xs : List V), v = .ref a ∧ SqT K H1 a xs ∧ ∀ q, H1 q = none → Q (.ref q) (upd H1 q (.tup xs.reverse))
theorem pe_tupRevT {e : Expr} {te : TE} {p p2 pos pos2 : Pos} (hc : X.calm = true) (hg : Gl X "tuple") (hm : X.mg "tuple" = none) (hg2 : Gl X "reversed") (hm2 : X.mg "reversed" = none) (he : PE X e te)
    (hs : starEach [e] X.env = (false, eval e X.env) :: starEach [] X.env := by rfl)
    (hs2 : starEach [.Call (.Name "reversed" p2) [e] [] pos2] X.env = (false, eval (.Call (.Name "reversed" p2) [e] [] pos2) X.env) :: starEach [] X.env := by rfl) :
    PE X (.Call (.Name "tuple" p) [.Call (.Name "reversed" p2) [e] [] pos2] [] pos) (tTupRevT X.K te) := by
  refine ⟨fun pins s σ H Q I h => ?_⟩
  refine Call_ (ld_blt I hg hm boot_tuple (PyProof.Rows.callWith_type1 (args_cons (Call_ (ld_blt I hg2 hm2 PyProof.Rows.boot_reversed (PyProof.Rows.callWith_type1 (args_cons (thn (he.run pins s σ H _ I h) fun u s1 ⟨v, H1, I1, r1, q1⟩ => args_nil ?_) hs) hs rfl))) hs2) hs2 rfl))
  obtain ⟨a, xs, ev, hq, q⟩ := q1
  subst ev
  obtain rfl : u = Value.ref a := r1
  obtain ⟨its, rv, p', hz⟩ := I1.tuple hq
  have p2' : IsTup s1.heap a its.toArray := p'
  have hn63 := line63
  have hn : its.toArray.size ≤ sizeLine := by rw [List.size_toArray, ← rv.length]; exact hz
  have hlen := rv.length
  refine RT.call_reversed_tup p2' (fun A E Q k => PyProof.Rows.len_tuple p2' (by simp only [List.size_toArray] <;> omega) k) (args_nil ?_)
  obtain ⟨ol, hol, _⟩ := id p2'
  have hne : a ≠ s1.heap.objs.size := Nat.ne_of_lt (Heap.lt_size hol)
  have k0 : ∀ b o, s1.heap.get? b = some o → (s1.heap.push (RT.rtObj a ((its.toArray.size : Int) - 1))).get? b = some o := fun b o e => Heap.get?_push_of_some _ e
  have I2 : Inv X pins σ H1 { s1 with heap := s1.heap.push (RT.rtObj a ((its.toArray.size : Int) - 1)), toks := s1.toks + 1 + 1 } := I1.kept (t' := s1.toks + 1 + 1) k0
  obtain ⟨f0, f1, f2, f3, f4, f5⟩ := I1.fpOk (H' := H1) (b := s1.heap.objs.size) (Nat.le_refl _) (I1.hok.fresh (Nat.le_refl _))
  have hl2 : IsTup (s1.heap.push (RT.rtObj a ((its.toArray.size : Int) - 1))) a its.toArray := by
    obtain ⟨o, ho, r⟩ := p2'
    exact ⟨o, k0 _ _ ho, r⟩
  refine call_tuple_rt (s := { s1 with heap := s1.heap.push (RT.rtObj a ((its.toArray.size : Int) - 1)), toks := s1.toks + 1 + 1 }) (I1.ok.hd hc) ⟨_, Heap.get?_push_size _ rfl, rfl, rfl⟩ hl2 hne hn fun h' tk acc hk hi => ?_
  have I3 : Inv X pins σ H1 { s1 with heap := h', toks := tk } := I2.turned (t' := tk) (fun b o hb e => hk b o hb e) f0 f1 f3 f4 f5
  refine ⟨.ref h'.objs.size, upd H1 h'.objs.size (.tup xs.reverse), I3.laid (t' := tk) (fun c o e => Heap.get?_push_of_some _ e) (Nat.le_refl _) (show ObjOk X.prog X.w _ _ _ (.tup xs.reverse) from ⟨by rw [List.length_reverse]; exact hz, acc.toList, RT.vals_rev rv hi, ?_⟩), rfl, q _ (I3.hok.fresh (Nat.le_refl _))⟩
  rw [Array.toArray_toList]
  exact IsTup.new _ _
end
theorem pe_tupRevTK {X : Cx} {K : PySem.W.Frag} (h : X.K = K) {e : Expr} {te : TE} (hp : PE X e (tTupRevT X.K te)) : PE X e (tTupRevT K te) := h ▸ hp
def tupRevK (K : PySem.W.Frag) (Q : VK) (v : V) (H : Hp) : Prop := ∃ (a : Addr) (xs : List V), v = .ref a ∧ SqT K H a xs ∧ ∀ q, H q = none → Q (.ref q) (upd H q (.tup xs.reverse))
theorem w_tupRev {K : PySem.W.Frag} {te : TE} {σ : L2.St} {H : Hp} {Q : VK} (k : te σ H (tupRevK K Q)) : tTupRevT K te σ H Q := k
theorem l_tupRev {K : PySem.W.Frag} {H : Hp} {Q : VK} {a : Addr} {xs : List V} (h : SqT K H a xs) (k : ∀ q H', H q = none → Ex H H' → H' q = some (.tup xs.reverse) → Q (.ref q) H') : tupRevK K Q (.ref a) H := ⟨a, xs, rfl, h, fun q hq => k q _ hq (Evl.Ex.new hq) upd_same⟩
/-! a, b = x, y; is not True -/
theorem q_par {i j : Nat} {ta : TA} {D : Ends} {σ : L2.St} {H : Hp} {u : TS} (k : ta σ H fun vs H1 => ∃ v w, vs = [v, w] ∧ u D ((σ.set i (some v)).set j (some w)) H1) : tSeq (tPar i j ta) u D σ H := k
theorem w_two {a b : V} {P : V → V → Prop} (k : P a b) : ∃ v w, [a, b] = [v, w] ∧ P v w := ⟨a, b, rfl, k⟩
theorem l_notB {a b : Bool} {H : Hp} {Q : VK} (k : Q (.bl (!decide (a = b))) H) : rNotB (.bl a) (.bl b) H Q := ⟨a, b, rfl, rfl, k⟩
theorem l_isB {a b : Bool} {H : Hp} {Q : VK} (k : Q (.bl (decide (a = b))) H) : rIsB (.bl a) (.bl b) H Q := ⟨a, b, rfl, rfl, k⟩
/-! sorted(set(xs)) of whole numbers, xs a list or a tuple, fewer than 64 -/
section
variable {P : Program} {w : World} {A : Around} {E : Value → Shared → Prop} {s : Shared}
theorem call_set_lstI {l : Addr} {items : Array Value} (ns : List Int) {Q : Value → Shared → Prop} (hh : A.handled = none) (hl : s.heap.IsList l items) (hit : IntsAre items.toList ns) (hb : ns.length + 1 < scanBound)
    (h : ∀ (h' : Heap) (tk c : Nat), SetR w h' s.heap.objs.size (fun j => decide (j ∈ ns)) c → c ≤ ns.length → (∀ b o, s.heap.get? b = some o → h'.get? b = some o) → Q (.ref s.heap.objs.size) { s with heap := h', toks := tk }) :
    wpAny (model P w) A (call (.type "set") [.ref l]) Q E s := by
  have hisz : items.size = ns.length := by
    have q := IntsAre.length hit
    rw [Array.length_toList] at q
    exact q
  obtain ⟨c, tl, hmro⟩ := F.called_set.mro
  have hmade := F.called_set.made
  have hsub := F.called_set.sub
  refine wpAny_call (codeAny_of_tree ?_)
  show wpAny _ _ (callAny (.type "set") _) _ _ _
  refine wpAny_pure ⟨Code.quiet_builtin _ (by decide +kernel), codeAny_builtin F.entry_type_call ?_⟩
  rw [Around.under_plain (weight_type_call_type "set" [.ref l] []) rfl]
  have h1 := F.called_set.notType
  have h2 := F.called_set.canCreate
  have hct := F.typeCall_set_1 (.ref l)
  repeat (any_goals (first | assumption | wp_step))

  refine codeAny_mono (code_set_led1 (.ref l) (E := E) (Q₁ := fun obj s₁ => obj = .ref s.heap.objs.size ∧ s₁ = { s with heap := s.heap.push { cls := .type "set", dict := none, data := .set #[] 0 (.fresh 0 0 (!w.params.followText "set-order")) } }) ⟨rfl, rfl⟩) fun r s₁ hr => ?_
  cases r with
  | error e => exact hr
  | ok fl =>
    cases fl with
    | ret obj =>
      obtain ⟨rfl, rfl⟩ := hr
      have hS : (s.heap.push { cls := .type "set", dict := none, data := .set #[] 0 (.fresh 0 0 (!w.params.followText "set-order")) }).get? s.heap.objs.size = some { cls := .type "set", dict := none, data := .set #[] 0 (.fresh 0 0 (!w.params.followText "set-order")) } := Heap.get?_push_size _ rfl
      have hT : Shared.TypeIs { s with heap := s.heap.push { cls := .type "set", dict := none, data := .set #[] 0 (.fresh 0 0 (!w.params.followText "set-order")) } } (.ref s.heap.objs.size) "set" := ⟨_, hS, rfl⟩
      have hli := F.called_set.init.lookup
      have hbi := F.called_set.init.bind (.ref s.heap.objs.size)
      repeat (any_goals (first | assumption | wp_step))

      refine codeAny_mono (codeAny_call_builtin (R := wants (fun r s₂ => r = .none ∧ ∃ h' tk c, s₂ = { s with heap := h', toks := tk } ∧ SetR w h' s.heap.objs.size (fun j => decide (j ∈ ns)) c ∧ c ≤ ns.length ∧
          (∀ b o, s.heap.get? b = some o → h'.get? b = some o)) E) F.called_set.init.plain F.entry_set_init (check_set_init_1 hT ?_)) fun r₂ s₂ hr₂ => ?_
      · obtain ⟨ol, hol, hcl, nl, hdl⟩ := hl
        obtain ⟨ocls, odict, odata, oslots⟩ := ol
        simp only at hcl hdl
        subst hcl; subst hdl
        have hol' : (s.heap.push { cls := .type "set", dict := none, data := .set #[] 0 (.fresh 0 0 (!w.params.followText "set-order")) }).get? l = some { cls := .type "list", dict := odict, data := .seq items nl, slots := oslots } := Heap.get?_push_of_some _ hol
        have hsls := F.sub_list_set
        have hslf := F.sub_list_frozenset
        have hne : (Value.type "list" == Value.type "dict") = false := by decide
        have hl1 : (s.heap.push { cls := .type "set", dict := none, data := .set #[] 0 (.fresh 0 0 (!w.params.followText "set-order")) }).IsList l items := ⟨_, hol', rfl, nl, rfl⟩
        unfold Builtin.«set.__init__» noKeywords Builtin.Frozenset.updateFrom
        generalize hPI : pyIter = PI
        wp_walk
        subst hPI

        refine wpAny_pyIter_list hl1 ?_
        refine wpAny_bind (wpAny_runValue ?_)
        have hlS : l < s.heap.objs.size := Heap.lt_size hol
        have hh3 : A.in1.in1.in1.handled = none := by simp [hh]
        have hz1 : (s.heap.push { cls := .type "set", dict := none, data := .set #[] 0 (.fresh 0 0 (!w.params.followText "set-order")) }).objs.size = s.heap.objs.size + 1 := Heap.size_push ..
        have hneI : l ≠ (s.heap.push { cls := .type "set", dict := none, data := .set #[] 0 (.fresh 0 0 (!w.params.followText "set-order")) }).objs.size := by
          rw [Heap.size_push]; exact Nat.ne_of_lt (Nat.lt_succ_of_lt hlS)
        have hSf : s.heap.objs.size ∉ [(s.heap.push { cls := .type "set", dict := none, data := .set #[] 0 (.fresh 0 0 (!w.params.followText "set-order")) }).objs.size, l] := by
          rw [Heap.size_push]; simp only [List.mem_cons, List.mem_singleton, List.not_mem_nil, or_false, not_or]
          exact ⟨Nat.ne_of_lt (Nat.lt_succ_self _), Nat.ne_of_gt hlS⟩
        have hval : ∀ (i : Nat) (v : Value), items[i]? = some v → ∃ k t, ns[i]? = some k ∧ v = .int k t := fun i v hv => by
          have hi : i < ns.length := by rw [← hisz]; exact (Array.getElem?_eq_some_iff.mp hv).1
          obtain ⟨t, e⟩ := PyProof.Rows.IntsAre.int_at hit i v (by rw [Array.getElem?_toList]; exact hv)
          refine ⟨ns[i], t, List.getElem?_eq_getElem hi, ?_⟩
          rw [e, List.getD_eq_getElem?_getD, List.getElem?_eq_getElem hi] <;> rfl
        refine set_update_ints ((Walks.list hh3 _ l hneI items).toS) s.heap.objs.size
          hSf ns hisz hb hval (items.size - 0) 0 _ (by omega) (Nat.zero_le _)
          ⟨⟨_, Heap.get?_push_size _ rfl, rfl, rfl⟩, (hl1.push _)⟩ ?hS0 ?hR
        case hS0 =>
          have hget : ((s.heap.push { cls := .type "set", dict := none, data := .set #[] 0 (.fresh 0 0 (!w.params.followText "set-order")) }).push { cls := .type "list_iterator", data := .fields #[.ref l, .int 0 0] }).get? s.heap.objs.size
              = some { cls := .type "set", dict := none, data := .set #[] 0 (.fresh 0 0 (!w.params.followText "set-order")) } := Heap.get?_push_of_some _ hS
          exact ⟨0, Nat.le_refl 0, setR_new_at hget⟩
        case hR =>
          intro s' c' hm hc' hS'
          obtain ⟨h', g2, d', tk', os'⟩ := s'
          have eg : g2 = s.gens := hm.gens
          have ed : d' = s.drawn := hm.drawn
          have eo : os' = s.os := hm.os
          subst eg; subst ed; subst eo
          show wpAny _ _ _ _ _ _
          refine wpAny_pure ?_
          show wpAny _ _ (ret Value.none) _ _ _
          rw [hisz] at hc'
          refine wpAny_pure ⟨rfl, h', tk', c', rfl, hS', hc', fun b o e => ?_⟩
          have hb0 : b < s.heap.objs.size := Heap.lt_size e
          have hb1 : b ≠ s.heap.objs.size := Nat.ne_of_lt hb0
          have hb2 : b ≠ (s.heap.push { cls := .type "set", dict := none, data := .set #[] 0 (.fresh 0 0 (!w.params.followText "set-order")) }).objs.size := by
            rw [Heap.size_push]; exact Nat.ne_of_lt (Nat.lt_succ_of_lt hb0)
          exact hm.heap b o (by simp only [List.mem_cons, List.mem_singleton, List.not_mem_nil, or_false, not_or]; exact ⟨hb1, hb2⟩) (Heap.get?_push_of_some _ (Heap.get?_push_of_some _ e))

      · cases r₂ with
        | error e => exact hr₂
        | ok fl₂ =>
          cases fl₂ with
          | ret r =>
            obtain ⟨rfl, h', tk, c', rfl, hS', hc', hk'⟩ := hr₂
            repeat (any_goals (first | assumption | wp_step))
            exact h _ _ _ hS' hc' hk'
          | _ => exact hr₂.elim
    | _ => exact hr.elim

end
def sortSetK (K : PySem.W.Frag) (Q : VK) (v : V) (H : Hp) : Prop := ∃ (a : Addr) (ns : List Int), v = .ref a ∧ (SqT K H a (ns.map V.int) ∨ SqL K H a (ns.map V.int)) ∧ ns.length < 64 ∧
  ∀ (out : List Int) (p : Addr), out.Pairwise (· < ·) → (∀ k, k ∈ out ↔ k ∈ ns) → out.length ≤ ns.length → H p = none → Q (.ref p) (upd H p (.lst (out.map V.int)))
/-! ### sorting tuples of whole numbers, any number of them -/
section
open Srt
variable {prog : Program} {w : World} {A : Around} {E : Value → Shared → Prop} {s : Shared}
def byCode (g : Heap) (B : Int) (v u : Value) : Bool := decide (TS.code B (TS.intsOf g v) < TS.code B (TS.intsOf g u))
theorem byCode_swo (g : Heap) (B : Int) : SrtO.Swo (byCode g B) := by
  refine ⟨fun x y h => ?_, fun x y z h1 h2 => ?_⟩
  · have a := of_decide_eq_true h
    exact decide_eq_false (by omega)
  · have a := of_decide_eq_false h1
    have b := of_decide_eq_false h2
    exact decide_eq_false (by omega)
theorem tups_cmp {d : Nat} {B : Int} {vs : List Value} (x : TS.TupsOk s.heap d B vs) (g : Heap) (hg : ∀ v ∈ vs, TS.intsOf g v = TS.intsOf s.heap v) : SrtO.Cmp prog w A s (tuples' true) (fun p => p.1 ∈ vs) (SrtO.lt2 (byCode g B)) := by
  intro p q hm hm'
  obtain ⟨ns, tp, lp, bp⟩ := x _ hm
  obtain ⟨ms, tq, lq, bq⟩ := x _ hm'
  show wpAny (model prog w) A (keyLt' (tuples' true) p.1 q.1) (fun r s' => s' = s ∧ r = byCode g B p.1 q.1) (fun _ _ => False) s
  have e : byCode g B p.1 q.1 = decide (TS.code B ns < TS.code B ms) := by
    unfold byCode
    rw [hg _ hm, hg _ hm', tp.ints, tq.ints]
  rw [e]
  obtain ⟨a, xs, e1, ⟨o, ho, hc, n, hdt⟩, i⟩ := tp
  obtain ⟨a', ys, e2, ⟨o', ho', hc', n', hdt'⟩, i'⟩ := tq
  rw [e1, e2]
  refine PySem.W.kat_lt ho hdt ho' hdt' ?_
  have sz : decide (xs.size < ys.size) = false := by
    have l1 := i.length
    have l2 := i'.length
    rw [Array.length_toList] at l1 l2
    exact decide_eq_false (by omega)
  rw [sz]
  exact TS.lex_ints 0 i i' (by omega) bp bq ⟨rfl, rfl⟩
theorem tups_sortable {a : Addr} {d : Nat} {B : Int} {vs : List Value} (hd : 1 ≤ d) (h0 : 0 < vs.length) (x : TS.TupsOk s.heap d B vs) (ha : ∀ o, s.heap.get? a = some o → o.cls ≠ .type "tuple") (g : Heap) (hg : ∀ v ∈ vs, TS.intsOf g v = TS.intsOf s.heap v) :
    SrtO.SortableO prog w A s a vs (byCode g B) := by
  intro h' keep
  have kk : ∀ b o, s.heap.get? b = some o → o.cls = .type "tuple" → h'.get? b = some o := fun b o e c => keep b o (fun z => by subst z; exact ha o e c) e
  have x' := x.keeps kk
  obtain ⟨fs, h1, h2, h3⟩ := TS.firsts_of hd vs x'
  refine ⟨tuples' true, fun Q E hq => ?_, tups_cmp (s := { s with heap := h' }) x' g fun v hv => ?_⟩
  · refine PySem.W.kat_kind (T := .type "int") h1 (by omega) (fun f hf => ?_) (by rfl) ?_
    · obtain ⟨n, t, rfl⟩ := h3 f hf
      exact PySem.W.Looks.now
    · have e : (Value.type "int" != Value.type "tuple") = true := by first | decide +kernel | rfl | decide
      rw [e]
      exact hq
  · obtain ⟨ns, tv, _⟩ := x v hv
    rw [hg v hv, tv.ints, (tv.keeps kk).ints]
theorem tups_same {g h : Heap} {d : Nat} {B : Int} {vs : List Value} (x : TS.TupsOk g d B vs) (k : ∀ b o, g.get? b = some o → h.get? b = some o) : ∀ v ∈ vs, TS.intsOf g v = TS.intsOf h v := fun v hv => by
  obtain ⟨ns, tv, _⟩ := x v hv
  rw [tv.ints, (tv.keeps fun b o e _ => k b o e).ints]
/-- sorted(l) of tuples of d whole numbers each -/
theorem sorted_tups {l : Addr} {vs : List Value} {d : Nat} {B : Int} {Q : Value → Shared → Prop} (hl : s.heap.IsList l vs.toArray) (hz : vs.length ≤ sizeLine) (hd : 2 ≤ vs.length → 1 ≤ d) (x : TS.TupsOk s.heap d B vs)
    (h : ∀ (h' : Heap) (p : Addr) (out : List Value) (n : Nat), SrtO.Srtd (byCode s.heap B) out → out.Perm vs → (∀ b o, s.heap.get? b = some o → h'.get? b = some o) → s.heap.objs.size ≤ p → h'.get? p = some (seqObj "list" out.toArray n) → Q (.ref p) { s with heap := h' }) :
    wpAny (model prog w) A (call (.builtin "sorted") [.ref l]) Q E s := by
  refine SrtO.sorted_ord (byCode_swo s.heap B) hl hz (fun h2 h₁ a ha kk => ?_) fun out hs hb => ?_
  · refine tups_sortable (s := { s with heap := h₁ }) (hd h2) (by omega) (x.keeps fun b o e _ => (kk b o e).2) (fun o e => ?_) s.heap (tups_same x fun b o e => (kk b o e).2)
    have e' : some o = some (seqObj "list" vs.toArray 0) := e.symm.trans ha
    cases e'
    intro c
    exact absurd (Value.type.inj c) (by decide)
  · obtain ⟨n, hn⟩ := PyProof.Rows.sortedAll_at s.heap vs out.toArray
    exact h _ _ out n hs hb.perm (fun b o e => PyProof.Rows.sortedAll_old e) (Nat.le_succ _) hn
/-- what of «sorted» stands behind the collecting: a new list, sorted in place -/
theorem sort_new {vs : List Value} {d : Nat} {B : Int} {R : PySem.Fin → Shared → Prop} (hd : 2 ≤ vs.length → 1 ≤ d) (hz : vs.length ≤ sizeLine) (x : TS.TupsOk s.heap d B vs)
    (ho : (s.heap.push (seqObj "list" vs.toArray 0)).get? s.heap.objs.size = some (seqObj "list" vs.toArray 0))
    (h : ∀ out : List Value, SrtO.Srtd (byCode s.heap B) out → out.Perm vs → R (.done (.ret .none)) { s with heap := sortedHeap (s.heap.push (seqObj "list" vs.toArray 0)) s.heap.objs.size vs out.toArray }) :
    wpAny (model prog w) A (Builtin.«list.sort» ⟨[.ref s.heap.objs.size], []⟩) R E { s with heap := s.heap.push (seqObj "list" vs.toArray 0) } := by
  have k0 : ∀ b o, s.heap.get? b = some o → (s.heap.push (seqObj "list" vs.toArray 0)).get? b = some o := fun b o e => Heap.get?_push_of_some _ e
  refine SrtO.list_sort_ord (s := { s with heap := s.heap.push (seqObj "list" vs.toArray 0) }) (byCode_swo s.heap B) ho hz (fun h2 => ?_) fun out hs hb => h out hs hb.perm
  refine tups_sortable (s := { s with heap := s.heap.push (seqObj "list" vs.toArray 0) }) (hd h2) (by omega) (x.keeps fun b o e _ => k0 b o e) (fun o e => ?_) s.heap (tups_same x k0)
  have e' : some o = some (seqObj "list" vs.toArray 0) := e.symm.trans ho
  cases e'
  intro c
  exact absurd (Value.type.inj c) (by decide)
end
/-! as rules -/
abbrev KS := List (Addr × List Int)
/-- ks are tuples of these whole numbers -/
def KsOk (K : PySem.W.Frag) (H : Hp) (d : Nat) (B : Int) (ks : KS) : Prop := ∀ p ∈ ks, SqT K H p.1 (p.2.map V.int) ∧ p.2.length = d ∧ TS.Bd B p.2
abbrev refsV (ks : KS) : List V := ks.map fun p => V.ref p.1
abbrev refsU (ks : KS) : List Value := ks.map fun p => Value.ref p.1
abbrev Rises (B : Int) (ks : KS) : Prop := ks.Pairwise fun q r => TS.code B q.2 ≤ TS.code B r.2
section
variable {X : Cx}
theorem ksTups {pins : List (Addr × Obj)} {σ : L2.St} {H : Hp} {s : Shared} {d : Nat} {B : Int} {ks : KS} (I : Inv X pins σ H s) (hk : KsOk X.K H d B ks) : TS.TupsOk s.heap d B (refsU ks) := fun v hv => by
  obtain ⟨p, hp, rfl⟩ := List.mem_map.mp hv
  obtain ⟨h1, h2, h3⟩ := hk p hp
  exact ⟨p.2, tupInts_of (I.isT h1), h2, h3⟩
theorem ksRise {g : Heap} {d : Nat} {B : Int} {ks ks' : KS} {out : List Value} (x : ∀ p ∈ ks, TS.TupInts g (.ref p.1) p.2) (hs : SrtO.Srtd (byCode g B) out) (pm : ks'.Perm ks) (e : refsU ks' = out) : Rises B ks' := by
  subst e
  refine List.Pairwise.imp_of_mem (fun {p q} hp hq h => ?_) (List.pairwise_map.mp hs)
  have := of_decide_eq_false h
  rw [(x p (pm.mem_iff.mp hp)).ints, (x q (pm.mem_iff.mp hq)).ints] at this
  omega
/-- sorted(xs), a list of tuples of d whole numbers each -/
def rSortL (K : PySem.W.Frag) : List V → Hp → VK → Prop := fun vs H Q => ∃ (a : Addr) (ks : KS) (d : Nat) (B : Int), vs = [.ref a] ∧ SqL K H a (refsV ks) ∧ KsOk K H d B ks ∧ (2 ≤ ks.length → 1 ≤ d) ∧
  ∀ (ks' : KS) p, ks'.Perm ks → Rises B ks' → H p = none → Q (.ref p) (upd H p (.lst (refsV ks')))
theorem cr_sortL : CallR X (.builtin "sorted") (rSortL X.K) := by
  intro pins s σ H vs us Q I r h
  obtain ⟨a, ks, d, B, rfl, hl, hk, hd, q⟩ := h
  rw [Vals.ref1 r]
  obtain ⟨its, rv, pl, hz⟩ := I.list hl
  have ei : its = refsU ks := refs_of_vals rv
  subst ei
  have hz' : (refsU ks).length ≤ sizeLine := by rw [List.length_map]; simpa using hz
  refine sorted_tups pl.isList hz' (by rw [List.length_map]; exact hd) (ksTups I hk) fun h' p out n hs pm k hp hn => ?_
  obtain ⟨ks', pm', e'⟩ := L2.perm_lift (fun p : Addr × List Int => Value.ref p.1) pm ks rfl
  have hr := ksRise (d := d) (fun p hp => tupInts_of (I.isT (hk p hp).1)) hs pm' e'
  have hlen : (refsV ks').length ≤ sizeLine := by rw [List.length_map, pm'.length_eq]; simpa using hz
  refine ⟨.ref p, _, I.laid (t' := s.toks) (o := .lst (refsV ks')) k hp ⟨hlen, out, n, by rw [← e']; exact vals_of_refs ks', hn⟩, rfl, q ks' p pm' hr (I.hok.fresh hp)⟩
/-- sorted(d), a dict whose keys are tuples of d whole numbers each -/
def rSortDT : List V → Hp → VK → Prop := fun vs H Q => ∃ (a : Addr) (kvs : List (List Key × V)) (ws : List (List Int)) (d : Nat) (B : Int), vs = [.ref a] ∧ Rd H a (.dT kvs) ∧ kvs.map (·.1) = ws.map (·.map Sum.inl) ∧ (∀ w ∈ ws, w.length = d ∧ TS.Bd B w) ∧ (2 ≤ ws.length → 1 ≤ d) ∧
  ∀ (ks' : KS) p, (ks'.map (·.2)).Perm ws → (∀ q ∈ ks', H q.1 = some (.tup (q.2.map V.int))) → Rises B ks' → H p = none → Q (.ref p) (upd H p (.lst (refsV ks')))
theorem map_inl : ∀ (a b : List Int), a.map (Sum.inl (β := Str)) = b.map Sum.inl → a = b
  | [], [], _ => rfl
  | x :: a, y :: b, h => by
    simp only [List.map_cons, List.cons.injEq, Sum.inl.injEq] at h
    rw [h.1, map_inl a b h.2]
  | [], _ :: _, h => by simp at h
  | _ :: _, [], h => by simp at h
theorem keysKs {H : Hp} : ∀ {kvs : List (List Key × V)} {xs : List (List Key × Addr × Value)} {ws : List (List Int)}, KT H kvs xs → kvs.map (·.1) = ws.map (·.map Sum.inl) → ∃ ks : KS, xs.map (fun x => x.2.1) = ks.map (·.1) ∧ ks.map (·.2) = ws ∧ ∀ q ∈ ks, H q.1 = some (.tup (q.2.map V.int))
  | _, _, [], .nil, _ => ⟨[], rfl, rfl, fun _ h => by cases h⟩
  | _, _, w :: ws, .nil, h => by simp at h
  | _, _, [], .cons _ _, h => by simp at h
  | (k, v) :: kvs, x :: xs, w :: ws, .cons r t, h => by
    simp only [List.map_cons, List.cons.injEq] at h
    obtain ⟨ks, e1, e2, e3⟩ := keysKs t h.2
    refine ⟨(x.2.1, w) :: ks, by rw [List.map_cons, e1]; rfl, by rw [List.map_cons, e2], fun q hq => ?_⟩
    rcases List.mem_cons.mp hq with rfl | hq
    · have := r.2.1
      rw [h.1, List.map_map] at this
      exact this
    · exact e3 q hq
theorem cr_sortDT (hc : X.calm = true) : CallR X (.builtin "sorted") rSortDT := by
  intro pins s σ H vs us Q I r h
  obtain ⟨a, kvs, ws, d, B, rfl, hd, hw, hB, h1, q⟩ := h
  rw [Vals.ref1 r]
  obtain ⟨z, hs, xs, pr, o, es, ep, ho, hx, hdt, he, hn⟩ := (show ObjOk X.prog X.w H s.heap a (.dT kvs) from hd.ok I.hok)
  have l1 : es.size = xs.length := size_of_entries he
  have l2 : kvs.length = xs.length := Paired.length pr
  obtain ⟨ks, k1, k2, k3⟩ := keysKs pr hw
  have lk : ks.length = xs.length := by
    have := congrArg List.length k1
    rw [List.length_map, List.length_map] at this
    exact this.symm
  refine Calls.call_function_entry PyProof.Rows.kind_sorted PyProof.Rows.plain_sorted PyProof.Rows.entry_sorted (PyProof.Rows.args_sorted1 _) ?_
  unfold Builtin.«sorted»
  refine wpAny_bind (m := checkCount "sorted" 1 1 _) (wpAny_pure ?_)
  refine wpAny_bind (PySem.W.kdu_collect (A := X.A.in1) (kdl_raw hs hx hdt) (I.ok.hd hc) ho (by omega) fun h' tk acc hk it => ?_)
  have ea : acc.toList = refsU ks := by
    have e0 : acc.toList = xs.map fun x => Value.ref x.2.1 := by
      have hl : acc.toList.length = xs.length := by rw [Array.length_toList, it.1]; exact l1
      apply List.ext_getElem?
      intro j
      rw [List.getElem?_map]
      cases hj : acc.toList[j]? with
      | none =>
        have h1 := List.getElem?_eq_none_iff.mp hj
        rw [List.getElem?_eq_none (by omega)]
        all_goals rfl
      | some v =>
        obtain ⟨en, hen, hv⟩ := it.2 j v (by rw [← Array.getElem?_toList]; exact hj)
        have qe := entry_at he j
        rw [hen] at qe
        cases hb : xs[j]? with
        | none =>
          rw [hb] at qe
          exact nomatch (show some en = none from qe)
        | some b =>
          rw [hb] at qe
          have e2 : en = entryOfKey (tupleKind (mixKind X.prog X.w)) b := Option.some.inj qe
          rw [hv, e2]
          all_goals rfl
    have e1 := congrArg (List.map Value.ref) k1
    rw [List.map_map, List.map_map] at e1
    exact e0.trans e1
  have I1 : Inv X pins σ H { s with heap := h', toks := tk } := I.kept hk
  have hk1 : KsOk X.K H d B ks := fun p hp => ⟨SqT.of (k3 p hp), hB p.2 (by rw [← k2]; exact List.mem_map.mpr ⟨p, hp, rfl⟩)⟩
  have hz : (refsU ks).length ≤ sizeLine := by rw [List.length_map]; omega
  rw [ea]
  refine wpAny_bind (wpAny_newList ?_ hz)
  have hoL : (h'.push (seqObj "list" (refsU ks).toArray 0)).get? h'.objs.size = some (seqObj "list" (refsU ks).toArray 0) := Heap.get?_push_size _ rfl
  show wpAny _ _ _ _ _ { s with heap := h'.push (seqObj "list" (refsU ks).toArray 0), toks := tk }
  refine wpAny_bind (wpAny_holding (wpAny_call_entry PyProof.Rows.slot_list_sort ⟨_, hoL, rfl⟩ PyProof.Rows.entry_list_sort
    (sort_new (s := { s with heap := h', toks := tk }) (d := d) (B := B) (fun h2 => h1 (by rw [List.length_map] at h2; rw [← k2, List.length_map]; exact h2)) hz (ksTups I1 hk1) hoL fun out g1 g2 => ⟨_, rfl, ?_⟩) (PyProof.Rows.args_list_sort _)))
  obtain ⟨ks', pm', e'⟩ := L2.perm_lift (fun p : Addr × List Int => Value.ref p.1) g2 ks rfl
  have hr := ksRise (d := d) (fun p hp => tupInts_of (I1.isT (hk1 p hp).1)) g1 pm' e'
  obtain ⟨c, hcn⟩ := PyProof.Rows.sortedHeap_at (vs := refsU ks) (out := out.toArray) hoL
  have hlen : (refsV ks').length ≤ sizeLine := by rw [List.length_map, pm'.length_eq]; omega
  refine wpAny_pure ⟨_, rfl, .ref h'.objs.size, upd H h'.objs.size (.lst (refsV ks')), I1.laid (t' := tk) (fun b u e => ?_) (Nat.le_refl _) ⟨hlen, out, c, by rw [← e']; exact vals_of_refs ks', hcn⟩, rfl,
    q ks' _ (by rw [← k2]; exact pm'.map _) (fun p hp => k3 p (pm'.mem_iff.mp hp)) hr (I1.hok.fresh (Nat.le_refl _))⟩
  have hb : b < h'.objs.size := Heap.lt_size e
  rw [PyProof.Rows.sortedHeap_old (Nat.ne_of_lt hb) (by rw [size_push']; exact Nat.lt_succ_of_lt hb)]
  exact Heap.get?_push_of_some _ e
end
/-! sorted(set(xs)), xs a list of tuples of whole numbers -/
section
variable {P : Program} {w : World} {A : Around} {E : Value → Shared → Prop} {s : Shared}
theorem sorted_setK {a : Addr} {L : KS} {es : Array (Int × Value)} {ep : Nat} {t : SetTable} {Q : Value → Shared → Prop} (R : SetTR P w s.heap a L es ep t) (hh : A.handled = none)
    {d : Nat} {B : Int} (hd1 : 2 ≤ L.length → 1 ≤ d) (hB : ∀ p ∈ L, p.2.length = d ∧ TS.Bd B p.2)
    (hQ : ∀ s' p (out : List Value) (c : Nat) (L' : KS), (∀ b o, s.heap.get? b = some o → s'.heap.get? b = some o) → s'.gens = s.gens → s'.os = s.os → s.heap.objs.size ≤ p →
      s'.heap.get? p = some (seqObj "list" out.toArray c) → out = refsU L' → L'.Perm L → Rises B L' → Q (.ref p) s') :
    wpAny (model P w) A (call (.builtin "sorted") [.ref a]) Q E s := by
  obtain ⟨o, ho, hex, hd⟩ := R.ob
  have hsz := R.size
  have hfew := R.few
  refine Calls.call_function_entry PyProof.Rows.kind_sorted PyProof.Rows.plain_sorted PyProof.Rows.entry_sorted (PyProof.Rows.args_sorted1 _) ?_
  unfold Builtin.«sorted»
  refine wpAny_bind (m := checkCount "sorted" 1 1 _) (wpAny_pure ?_)
  refine wpAny_bind (collect_set (A := A.in1) hh ⟨o, ho, hex.1, hd⟩ R.fits (by unfold scanBound; omega) R.tab.ris R.led fun s1 vs k1 hz g1 o1 pm => ?_)
  have hes : es.toList.map (·.2) = refsU L := by
    rw [R.rows]
    unfold rowsOf
    rw [List.map_map] <;> rfl
  rw [hes] at pm
  obtain ⟨L1, p1, e1⟩ := L2.perm_lift (fun p : Addr × List Int => Value.ref p.1) pm L rfl
  subst e1
  have hl1 : L1.length < 64 := by rw [p1.length_eq]; exact hfew
  have hz1 : (refsU L1).length ≤ sizeLine := by rw [List.length_map, sizeLine_eq]; omega
  have tk : ∀ q ∈ L1, TS.TupInts s1.heap (.ref q.1) q.2 := fun q hq => tupInts_of (P := P) (w := w) (isT_keep (R.tup q (p1.mem_iff.mp hq)) k1)
  have x : TS.TupsOk s1.heap d B (refsU L1) := fun v hv => by
    obtain ⟨q, hq, rfl⟩ := List.mem_map.mp hv
    exact ⟨q.2, tk q hq, hB q (p1.mem_iff.mp hq)⟩
  refine wpAny_bind (wpAny_newList ?_ hz1)
  have hoL : (s1.heap.push (seqObj "list" (refsU L1).toArray 0)).get? s1.heap.objs.size = some (seqObj "list" (refsU L1).toArray 0) := Heap.get?_push_size _ rfl
  refine wpAny_bind (wpAny_holding (wpAny_call_entry PyProof.Rows.slot_list_sort ⟨_, hoL, rfl⟩ PyProof.Rows.entry_list_sort
    (sort_new (s := s1) (d := d) (B := B) (fun h2 => hd1 (by rw [List.length_map, p1.length_eq] at h2; exact h2)) hz1 x hoL fun out a1 a2 => ⟨_, rfl, ?_⟩) (PyProof.Rows.args_list_sort _)))
  obtain ⟨L', p2, e2⟩ := L2.perm_lift (fun p : Addr × List Int => Value.ref p.1) a2 L1 rfl
  obtain ⟨c, hc⟩ := PyProof.Rows.sortedHeap_at (vs := refsU L1) (out := out.toArray) hoL
  refine wpAny_pure ⟨_, rfl, hQ _ s1.heap.objs.size out c L' (fun b u e => ?_) g1 o1 hz hc e2.symm (p2.trans p1) (ksRise (d := d) tk a1 p2 e2)⟩
  have q := k1 b u e
  have hlt := Heap.lt_size q
  show (sortedHeap (s1.heap.push (seqObj "list" (refsU L1).toArray 0)) s1.heap.objs.size (refsU L1) out.toArray).get? b = some u
  rw [PyProof.Rows.sortedHeap_old (Nat.ne_of_lt hlt) (by rw [size_push']; exact Nat.lt_succ_of_lt hlt)]
  exact Heap.get?_push_of_some _ q
end
def sortSetT (K : PySem.W.Frag) (Q : VK) (v : V) (H : Hp) : Prop := ∃ (a : Addr) (ks : KS) (d : Nat) (B : Int), v = .ref a ∧ SqL K H a (refsV ks) ∧ KsOk K H d B ks ∧ ks.length < 64 ∧
  ∀ (ks' : KS) p, (∀ q ∈ ks', q ∈ ks) → (∀ q ∈ ks, q.2 ∈ ks'.map (·.2)) → (ks'.map (·.2)).Nodup → Rises B ks' → H p = none → Q (.ref p) (upd H p (.lst (refsV ks')))
def sortSetA (K : PySem.W.Frag) (Q : VK) (v : V) (H : Hp) : Prop := sortSetK K Q v H ∨ sortSetT K Q v H
def tSortSetA (K : PySem.W.Frag) (te : TE) : TE := fun σ H Q => te σ H (sortSetA K Q)
theorem nil_words {L : KS} (h : ∀ p ∈ L, p.2.length = 0) (n : (L.map (·.2)).Nodup) : L.length ≤ 1 := by
  match L, h, n with
  | [], _, _ => exact Nat.zero_le _
  | [_], _, _ => exact Nat.le_refl _
  | p :: q :: L, h, n =>
    exfalso
    have h1 := List.eq_nil_of_length_eq_zero (h p (by simp))
    have h2 := List.eq_nil_of_length_eq_zero (h q (by simp))
    rw [List.map_cons, List.map_cons, List.nodup_cons] at n
    exact n.1 (by rw [h1, h2]; simp)
section
variable {X : Cx}
theorem pe_sortSetA {e : Expr} {te : TE} {p p2 pos pos2 : Pos} (hc : X.calm = true) (hu : X.A.units + 64 < cLine) (hg : Gl X "sorted") (hm : X.mg "sorted" = none) (hg2 : Gl X "set") (hm2 : X.mg "set" = none) (he : PE X e te)
    (na : starEach [e] X.env = (false, eval e X.env) :: starEach [] X.env := by rfl) :
    PE X (.Call (.Name "sorted" p) [.Call (.Name "set" p2) [e] [] pos2] [] pos) (tSortSetA X.K te) := by
  refine ⟨fun pins s σ H Q I h => ?_⟩
  have hQ : ∀ H1, (∀ v, sortSetA X.K Q v H1 → sortSetK X.K Q v H1) → True := fun _ _ => trivial
  refine Call_ (ld_blt I hg hm boot_sorted ?_)
  refine PyProof.Rows.callWith_builtin1 (PyProof.Rows.args_cons ?_ rfl) rfl rfl
  refine Call_ (ld_blt I hg2 hm2 boot_set ?_)
  refine PyProof.Rows.callWith_type1 (PyProof.Rows.args_cons (thn (he.run pins s σ H _ I h) fun v s1 ⟨x, H1, I1, r1, q1⟩ => PyProof.Rows.args_nil ?_) na) na rfl
  have hd := I1.ok.hd hc
  rcases q1 with ⟨a, ns, rfl, hq, hl, q1⟩ | ⟨a, ks, d, B, rfl, hq, hk, hl, q1⟩
  · cases r1
    have fin : ∀ (h' : Heap) (tk c : Nat), SetR X.w h' s1.heap.objs.size (fun j => decide (j ∈ ns)) c → c ≤ ns.length → (∀ b o, s1.heap.get? b = some o → h'.get? b = some o) →
        wpAny (model X.prog X.w) X.A (call (Value.builtin "sorted") [Value.ref s1.heap.objs.size]) (EP X pins σ Q) X.xe { s1 with heap := h', toks := tk } := fun h' tk c R1 hcn k => by
      have I2 : Inv X pins σ H1 { s1 with heap := h', toks := tk } := I1.kept (t' := tk) k
      refine sorted_set (s := { s1 with heap := h', toks := tk }) R1 (I2.ok.hd hc) (by omega) fun s' p out c2 ks k2 g o hp hg hi hs hm hl2 => ?_
      have hlen : (ks.map V.int).length ≤ sizeLine := by rw [List.length_map, hl2, sizeLine_eq]; omega
      have hn : H1 p = none := I2.hok.fresh hp
      have J : Inv X pins σ (upd H1 p (.lst (ks.map V.int))) { { s1 with heap := h', toks := tk } with heap := s'.heap, gens := s'.gens, drawn := s'.drawn, toks := s'.toks } :=
        I2.call (ch := []) (Un.laid k2 hp hn) (I2.hok.laid k2 hp ⟨hlen, out.toList, c2, vals_of_ints hi, hg⟩) (by rw [g]; exact I2.bare) (fun _ z => nomatch z)
      have e : s' = { { s1 with heap := h', toks := tk } with heap := s'.heap, gens := s'.gens, drawn := s'.drawn, toks := s'.toks } := by
        cases s'
        cases s1
        cases o
        rfl
      rw [e]
      exact ⟨.ref p, _, J, rfl, q1 ks p hs (fun j => by rw [hm j, decide_eq_true_eq]) (by rw [hl2]; exact hcn) hn⟩
    rcases hq with hq | hq
    · obtain ⟨its, rv, pt, hz⟩ := I1.tuple hq
      have hi : IntsAre its.toArray.toList ns := ints_of_vals rv
      refine call_set_tupI ns hd (show s1.heap.IsTuple a its.toArray from pt) hi (by unfold scanBound; omega) fun h' tk c R1 hcn k => ?_
      exact PyProof.Rows.args_nil (fin h' tk c R1 hcn k)
    · obtain ⟨its, rv, pt, hz⟩ := I1.list hq
      have hi : IntsAre its.toArray.toList ns := ints_of_vals rv
      refine call_set_lstI ns hd pt.isList hi (by unfold scanBound; omega) fun h' tk c R1 hcn k => ?_
      exact PyProof.Rows.args_nil (fin h' tk c R1 hcn k)
  · cases r1
    obtain ⟨its, rv, pl, hz⟩ := I1.list hq
    refine call_set_tups (P := X.prog) (w := X.w) ks hd pl.isList (by simpa using refs_of_vals rv) (fun p hp => I1.isT (hk p hp).1) hl (by have := hu; first | omega | (show _; simp; omega)) fun h' tk L es ep t R g k => ?_
    refine PyProof.Rows.args_nil ?_
    have I2 : Inv X pins σ H1 { s1 with heap := h', toks := tk } := I1.kept (t' := tk) k
    have sub : ∀ p ∈ L, p ∈ ks := fun p hp => List.mem_of_mem_take (g.sub p hp)
    have all : ∀ p ∈ ks, p.2 ∈ L.map (·.2) := fun p hp => g.all p (by rw [List.take_length]; exact hp)
    refine sorted_setK (s := { s1 with heap := h', toks := tk }) R (I2.ok.hd hc) (d := d) (B := B) (fun h2 => ?_) (fun p hp => (hk p (sub p hp)).2) fun s' p out c L' k2 gg o hp hg ho pm hr => ?_
    · rcases Nat.eq_zero_or_pos d with z | z
      · have := nil_words (fun p hp => by rw [(hk p (sub p hp)).2.1, z]) R.nd
        omega
      · exact z
    have hlen : (refsV L').length ≤ sizeLine := by
      have := R.few
      rw [List.length_map, pm.length_eq, sizeLine_eq]; omega
    have hn : H1 p = none := I2.hok.fresh hp
    have J : Inv X pins σ (upd H1 p (.lst (refsV L'))) { { s1 with heap := h', toks := tk } with heap := s'.heap, gens := s'.gens, drawn := s'.drawn, toks := s'.toks } :=
      I2.call (ch := []) (Un.laid k2 hp hn) (I2.hok.laid k2 hp ⟨hlen, out, c, by rw [ho]; exact vals_of_refs L', hg⟩) (by rw [gg]; exact I2.bare) (fun _ z => nomatch z)
    have e : s' = { { s1 with heap := h', toks := tk } with heap := s'.heap, gens := s'.gens, drawn := s'.drawn, toks := s'.toks } := by
      cases s'
      cases s1
      cases o
      rfl
    rw [e]
    exact ⟨.ref p, _, J, rfl, q1 L' p (fun q hq => sub q (pm.mem_iff.mp hq)) (fun q hq => (pm.map (·.2)).mem_iff.mpr (all q hq)) ((pm.map (·.2)).nodup_iff.mpr R.nd) hr hn⟩
end
theorem pe_sortSetAK {X : Cx} {K : PySem.W.Frag} (h : X.K = K) {e : Expr} {te : TE} (hp : PE X e (tSortSetA X.K te)) : PE X e (tSortSetA K te) := h ▸ hp
theorem w_sortSet {K : PySem.W.Frag} {te : TE} {σ : L2.St} {H : Hp} {Q : VK} (k : te σ H (sortSetA K Q)) : tSortSetA K te σ H Q := k
theorem l_sortSetL {K : PySem.W.Frag} {H : Hp} {Q : VK} {a : Addr} {ns : List Int} (h : SqL K H a (ns.map V.int)) (hl : ns.length < 64) (k : ∀ (out : List Int) p H', out.Pairwise (· < ·) → (∀ k, k ∈ out ↔ k ∈ ns) → out.length ≤ ns.length → H p = none → Ex H H' → H' p = some (.lst (out.map V.int)) → Q (.ref p) H') : sortSetA K Q (.ref a) H :=
  .inl ⟨a, ns, rfl, .inr h, hl, fun out p h1 h2 h3 h4 => k out p _ h1 h2 h3 h4 (Evl.Ex.new h4) upd_same⟩
theorem l_sortSetT {K : PySem.W.Frag} {H : Hp} {Q : VK} {a : Addr} {ns : List Int} (h : SqT K H a (ns.map V.int)) (hl : ns.length < 64) (k : ∀ (out : List Int) p H', out.Pairwise (· < ·) → (∀ k, k ∈ out ↔ k ∈ ns) → out.length ≤ ns.length → H p = none → Ex H H' → H' p = some (.lst (out.map V.int)) → Q (.ref p) H') : sortSetA K Q (.ref a) H :=
  .inl ⟨a, ns, rfl, .inl h, hl, fun out p h1 h2 h3 h4 => k out p _ h1 h2 h3 h4 (Evl.Ex.new h4) upd_same⟩
def rSortA (K : PySem.W.Frag) : List V → Hp → VK → Prop := fun vs H Q => rSortL K vs H Q ∨ rSortDT vs H Q
theorem cr_sortAK {X : Cx} {K : PySem.W.Frag} (hc : X.calm = true) (h : X.K = K) : CallR X (.builtin "sorted") (rSortA K) := h ▸ cr_sortL.or (cr_sortDT hc)
/-- whole numbers and tuples of them, <= -/
def rLeQ (K : PySem.W.Frag) : R2 := fun x y H Q => rLeP x y H Q ∨ rLeT K x y H Q
theorem op_leQ {X : Cx} {K : PySem.W.Frag} (hu : X.A.units + 64 < cLine) (h : X.K = K) : OpR X (compareOp .LtE) (rLeQ K) := h ▸ op_leP.or (op_leT (Nat.lt_of_le_of_lt (Nat.le_add_right _ 64) hu))
theorem l_leQ {K : PySem.W.Frag} {i j : Int} {H : Hp} {Q : VK} (k : Q (.bl (decide (i ≤ j))) H) : rLeQ K (.int i) (.int j) H Q := .inl ⟨i, j, rfl, rfl, k⟩
theorem l_leT {K : PySem.W.Frag} {a b : Addr} {ns ms : List Int} {H : Hp} {Q : VK} (h1 : SqT K H a (ns.map V.int)) (h2 : SqT K H b (ms.map V.int))
    (k : Q (.bl (Ob.lexAt (fun j => decide (ns.getD j 0 = ms.getD j 0)) (fun j => decide (ns.getD j 0 ≤ ms.getD j 0)) (decide (ns.length ≤ ms.length)) 0 (min ns.length ms.length))) H) : rLeQ K (.ref a) (.ref b) H Q := .inr ⟨a, b, ns, ms, rfl, rfl, h1, h2, k⟩
/-! x in xs, x not in xs: flat, data of any depth, a dict's keys -/
theorem room65 {k : Nat} {A : Around} (r : Room k A) : A.units + 65 < cLine := by have := r.un; omega
def rInDct (neg : Bool) : R2 := fun x y H Q => ∃ a o, y = .ref a ∧ DGet H a x o ∧ Q (.bl (if neg then !o.isSome else o.isSome)) H
def rInA (K : PySem.W.Frag) : R2 := fun x y H Q => rIn K false x y H Q ∨ rInD K x y H Q ∨ rInDct false x y H Q
def rNotInA (K : PySem.W.Frag) : R2 := fun x y H Q => rIn K true x y H Q ∨ rNotInD K x y H Q ∨ rInDct true x y H Q
def rIxD : R2 := fun x y H Q => ∃ a v, x = .ref a ∧ DGet H a y (some v) ∧ Q v H
def rIxA (K : PySem.W.Frag) : R2 := fun x y H Q => rIx K x y H Q ∨ rIxD x y H Q
def rSetD : TSet := fun o i v H Q => ∃ a H', o = .ref a ∧ DPut H a i v H' ∧ Q H'
def rSetA : TSet := fun o i v H Q => rSetL o i v H Q ∨ rSetD o i v H Q
section
variable {X : Cx} {K : PySem.W.Frag}
theorem op_inDct (hu : X.A.units + 65 < cLine) : OpR X (compareOp .In) (rInDct false) := by
  intro pins s σ H x y v u Q I rx ry h
  obtain ⟨a, o, rfl, g, q⟩ := h
  cases ry
  exact d_in (by omega) I g rx fun s' J => ⟨.bl o.isSome, H, J, rfl, q⟩
theorem op_notInDct (hu : X.A.units + 65 < cLine) : OpR X (compareOp .NotIn) (rInDct true) := by
  intro pins s σ H x y v u Q I rx ry h
  obtain ⟨a, o, rfl, g, q⟩ := h
  cases ry
  exact d_notIn (by omega) I g rx fun s' J => ⟨.bl (!o.isSome), H, J, rfl, q⟩
theorem op_inA (hu : X.A.units + 65 < cLine) (h : X.K = K) : OpR X (compareOp .In) (rInA K) := h ▸ op_in_seq.or ((op_inD hu).or (op_inDct hu))
theorem op_notInA (hu : X.A.units + 65 < cLine) (h : X.K = K) : OpR X (compareOp .NotIn) (rNotInA K) := h ▸ op_notIn_seq.or ((op_notInD hu).or (op_notInDct hu))
theorem ix_dct (hu : X.A.units + 65 < cLine) : IxR X rIxD := by
  intro value slice pins s σ H x y v u Q I rx ry h hs
  obtain ⟨a, z, rfl, g, q⟩ := h
  cases rx
  have ht := dict_typeIs I g
  rcases g with ⟨kvs, k, e, rfl, l⟩ | ⟨kvs, k, b, e, rfl, eb, l⟩
  · obtain ⟨_, _, vs, rel, dd⟩ := dk_rd I.hok e
    obtain ⟨w', hw, rw'⟩ := RelO.some_of (v := z) (o := valueAt vs k) (by rw [l]; exact rel.val k)
    exact subscriptTail_builtinR (x := w') ht PySem.F.slot_dict_getitem.lookup (wpAny_getItem_of (kV_is ry) dd.mapOf hw ⟨rfl, z, H, I.tok _, rw', q⟩) hs
  · cases (show u = Value.ref b from ry)
    obtain ⟨_, _, xs, rel, dd⟩ := dt_rd I.hok e
    obtain ⟨w', hw, rw'⟩ := RelO.some_of (v := z) (o := (atKey xs k).map (·.2)) (by rw [l]; exact rel.val k)
    obtain ⟨p, hp, hp2⟩ := Option.map_eq_some_iff.mp hw
    exact subscriptTail_builtinR (x := p.2) ht PySem.F.slot_dict_getitem.lookup (wpAny_getItem_heap (tupleKind_room_in1 (by omega)) (key_of I.hok eb) dd hp ⟨rfl, z, H, I.tok _, by rw [hp2]; exact rw', q⟩) hs
theorem ix_A (hu : X.A.units + 65 < cLine) (h : X.K = K) : IxR X (rIxA K) := (ix_K h).or (ix_dct hu)
theorem set_dct (hu : X.A.units + 65 < cLine) : PSet X rSetD := by
  intro pins s σ H o i v ov iv u Q I ro ri rv h
  obtain ⟨a, H', rfl, g, q⟩ := h
  cases ro
  exact d_setItem (by omega) I g ri rv fun s' J => ⟨H', J, q⟩
theorem set_A (hu : X.A.units + 65 < cLine) : PSet X rSetA := by
  intro pins s σ H o i v ov iv u Q I ro ri rv h
  rcases h with h | h
  · exact set_list pins s σ H o i v ov iv u Q I ro ri rv h
  · exact set_dct hu pins s σ H o i v ov iv u Q I ro ri rv h
end
def rLenQ (K : PySem.W.Frag) : List V → Hp → VK → Prop := fun xs H Q => rLenP K xs H Q ∨ rLenT xs H Q
theorem call_lenQ {X : Cx} {K : PySem.W.Frag} (h : X.K = K) : CallR X (.builtin "len") (rLenQ K) := h ▸ call_lenP.or call_len_dT
section
variable {K : PySem.W.Frag} {H : Hp} {Q : VK}
theorem l_inF {x : V} {p : Addr} {xs : List V} (h : SqL K H p xs ∨ SqT K H p xs) (fx : flatV x = true) (fs : xs.all flatV = true) (k : Q (.bl (inV x xs)) H) : rInA K x (.ref p) H Q := .inl ⟨p, xs, rfl, h, fx, fs, k⟩
theorem l_inD {x y : V} {d : PyData} {ds : List PyData} (h1 : Dp K H x d) (h2 : Dp K H y (.list ds)) (s1 : SeqAt.shaped d = true) (s2 : SeqAt.shaped (.list ds) = true) (k : Q (.bl (ds.any fun z => PyData.eqv z d)) H) : rInA K x y H Q := .inr (.inl ⟨d, ds, h1, h2, s1, s2, k⟩)
theorem l_notInD {x y : V} {d : PyData} {ds : List PyData} (h1 : Dp K H x d) (h2 : Dp K H y (.list ds)) (s1 : SeqAt.shaped d = true) (s2 : SeqAt.shaped (.list ds) = true) (k : Q (.bl (!ds.any fun z => PyData.eqv z d)) H) : rNotInA K x y H Q := .inr (.inl ⟨d, ds, h1, h2, s1, s2, k⟩)
theorem l_ixA {x y : V} (k : rIx K x y H Q) : rIxA K x y H Q := .inl k
theorem l_setA {o i v : V} {R : Hp → Prop} (k : rSetL o i v H R) : rSetA o i v H R := .inl k
theorem l_lenQ {xs : List V} (k : rLenP K xs H Q) : rLenQ K xs H Q := .inl k
end
/-! o.f as a target among others -/
def gFld (K : PySem.W.Frag) (ta : TE) (f : Str) : TG := fun v σ H R => ta σ H fun x H1 => setK K f v x H1 fun H2 => R σ H2
theorem g_fld {K : PySem.W.Frag} {ta : TE} {f : Str} {v : V} {σ : L2.St} {H : Hp} {R : L2.St → Hp → Prop} (k : ta σ H fun x H1 => setK K f v x H1 fun H2 => R σ H2) : gFld K ta f v σ H R := k
theorem pg_fld {X : Cx} {K : PySem.W.Frag} (h : X.K = K) {o : Expr} {ta : TE} {f : Str} {pos : Pos} (ha : PE X o ta) : PG X (.Attribute o f pos) (gFld K ta f) := by
  subst h
  refine ⟨fun pins s σ H v u Q I r q => PySem.W.kas_attr (thn (ha.run pins s σ H _ I q) fun ov s1 ⟨x, H1, J, rx, a, C, dx, fs, ex, ea, c, n, l, q1⟩ => ?_)⟩
  subst ex
  obtain rfl : ov = Value.ref a := rx
  exact setattr_ok J ea c n l r fun s2 J2 => ⟨σ, _, J2, q1⟩
/-- one of two readings of the same words -/
def tEither (t u : TE) : TE := fun σ H Q => t σ H Q ∨ u σ H Q
theorem pe_orE {X : Cx} {e : Expr} {t u : TE} (h1 : PE X e t) (h2 : PE X e u) : PE X e (tEither t u) := ⟨fun pins s σ H Q I hw => hw.elim (h1.run pins s σ H Q I) (h2.run pins s σ H Q I)⟩
end LM
namespace LM
open PySem PySem.Spec PyProof.Rows L2
section
variable {P : Program} {w : World} {K : PySem.W.Frag} {mg : Str → Option Value} {base : Heap} {k : Nat} {f : Addr} {fd : FuncData} {ps : List Str} {sp sp1 sp2 : Sp}
/-- what lets nothing out is right in each kind of context -/
theorem fn_any {CX : CXT} (F : FnOk P w K mg base CX0 k f fd ps sp) : FnOk P w K mg base CX k f fd ps sp :=
  ⟨F.len, fun A outer s H args us vs Q E hr he hb hv hs => codeAny_mono (F.run A outer s H args us vs Q E hr he hb hv hs) fun r s' h => by
    cases r with
    | error e => exact (show False from h).elim
    | ok fl => cases fl <;> exact h⟩
theorem fn_or {CX : CXT} (F : FnOk P w K mg base CX k f fd ps sp1) (G : FnOk P w K mg base CX k f fd ps sp2) : FnOk P w K mg base CX k f fd ps (fun vs H Q E => sp1 vs H Q E ∨ sp2 vs H Q E) :=
  ⟨fun vs H Q E h => h.elim (F.len _ _ _ _) (G.len _ _ _ _), fun A outer s H args us vs Q E hr he hb hv hs => hs.elim (fun h => F.run A outer s H args us vs Q E hr he hb hv h) fun h => G.run A outer s H args us vs Q E hr he hb hv h⟩
/-- what asks nothing of what it lets out lets nothing out -/
theorem fn_to0 (F : FnOk P w K mg base (L2N.CX P w) k f fd ps sp) (h0 : ∀ vs H Q E, sp vs H Q E → sp vs H Q E0) : FnOk P w K mg base CX0 k f fd ps sp :=
  ⟨F.len, fun A outer s H args us vs Q E hr he hb hv hs => codeAny_mono (F.run A outer s H args us vs Q E0 hr he hb hv (h0 _ _ _ _ hs)) fun r s' h => by
    cases r with
    | error e =>
      obtain ⟨a, B, H', cls, d, _, _, _, _, _, _, _, z⟩ := (show L2N.CX P w outer H s E0 e s' from h)
      exact (show False from z).elim
    | ok fl => cases fl <;> exact h⟩
end
/-! defs called while an exception is handled that is told of what is handled -/
open HotX L2H in
structure FnE (P : Program) (w : World) (K : PySem.W.Frag) (mg : Str → Option Value) (base : Heap) (CX : CXT) (k : Nat) (f : Addr) (fd : FuncData) (ps : List Str) (sp : Addr → Value → Sp) : Prop where
  len : ∀ a c vs H Q E, sp a c vs H Q E → vs.length = ps.length
  run : ∀ (A : Around) (outer : List Env) (s : Shared) (H : Hp) (args : Args) (us : List Value) (vs : List V) (Q : VK) (E : XK) (p : Addr × Obj), RoomH k A → Hot1 A p → p.2.dict = none → PinOk outer H s p → Env0 P w K mg base A outer s H → BindsTo s fd args (ps.zip us) → Vals vs us → sp p.1 p.2.cls vs H Q E →
    codeAny (model P w) A (.call (.ref f) args) (CR CX outer P w H s Q E) s
section
open HotX L2H
theorem fn_ofE {CX : CXT} {P : Program} {w : World} {K : PySem.W.Frag} {mg : Str → Option Value} {base : Heap} {k : Nat} {f : Addr} {name qual : Str} {params : Arguments} {body : List Stmt} {scope : Scope} {dV kV doc pm cdv ct oc : Value} {an od : Option Addr}
    {osl : Array (Option Value)} {N ps : List Str} {sp : Addr → Value → Sp} (lk : K.lookup f = some ⟨oc, od, .func (PySem.W.fnOf name qual params body scope dV kV doc pm an cdv ct), osl⟩) (hcd : PySem.W.codeIn K cdv qual = true) (S : FnScope N ps scope)
    (len : ∀ a c vs H Q E, sp a c vs H Q E → vs.length = ps.length)
    (hbody : ∀ (A : Around) (outer : List Env) (s : Shared) (H : Hp) (vs : List V) (Q : VK) (E : XK) (p : Addr × Obj), Hot1 A p → p.2.dict = none → RoomH k (A.deeper (envOfC qual scope s.heap.objs.size f cdv)) → sp p.1 p.2.cls vs H Q E →
      ∃ t, PSs (cxH CX P w K mg base N qual scope f cdv A outer s H E p) body t ∧ t { nx := fun _ H' => Q .non H', rt := Q } (L2.start N vs) H) :
    FnE P w K mg base CX (k + 1) f (PySem.W.fnOf name qual params body scope dV kV doc pm an cdv ct) ps sp := by
  refine ⟨len, fun A outer s H args us vs Q E p hr hot hdn hpin e0 hb r hsp => ?_⟩
  have hl := len _ _ _ _ _ _ hsp
  have KX : K.In s.heap := e0.mod.kin.keeps fun b o e => (e0.bs b o e).1
  have lim : s.heap.NoLimit := e0.mod.nolimit.keeps fun b o e => (e0.bs b o e).1
  have hkind : ∀ y ∈ ps.zip us, scope.names.lookup y.1 = some .local ∨ (scope.names.lookup y.1 = some .cell ∧ ((cellsFrom (s.heap.objs.size + 1) scope.names []).lookup y.1).isSome = true) := fun ⟨n, v⟩ hy => by
    rcases S.par n (List.of_mem_zip hy).1 with q | q
    · exact .inl q
    · exact .inr ⟨q, PySem.W.cellsFrom_some _ _ _ (.inl q)⟩
  refine codeAny_call_function hr.depth (KX _ _ lk) rfl S.co S.gen rfl (PySem.W.codeRec_of KX hcd) (hb _ _ _ _ ?_)
  refine wpAny_newFunctionEnv_cells S.kind hkind fun env he s1 x => ?_
  subst he
  refine ⟨lim.keeps x.toInCall.keep, codeAny_func ?_⟩
  obtain ⟨t, ht, hq⟩ := hbody A outer s H vs Q E p hot hdn (hr.deeper _) hsp
  have I : Inv (cxH CX P w K mg base N qual scope f cdv A outer s H E p) [] (L2.start N vs) H s1 := inv_startH S hpin e0 hl r x
  refine wpAny_mono (ht.run [] s1 (L2.start N vs) H _ I hq) (fun fl s' hs => ?_) fun e s' hs => hs
  have fin : ∀ {σ' : L2.St} {H' : Hp} {v : V} {u : Value}, Inv (cxH CX P w K mg base N qual scope f cdv A outer s H E p) [] σ' H' s' → RelV v u → Q v H' → CE outer P w H s Q u s' :=
    fun {σ' H' v u} J rv q => ⟨v, H', J.os, J.bare, J.base, J.hok, rv, q⟩
  cases fl with
  | ret u =>
    obtain ⟨v, σ', H', J, rv, q⟩ := hs
    exact fin J rv q
  | next =>
    obtain ⟨σ', H', J, q⟩ := hs
    exact fin (v := V.non) (u := Value.none) J rfl q
  | brk =>
    obtain ⟨_, _, _, q⟩ := hs
    exact False.elim q
  | cont =>
    obtain ⟨_, _, _, q⟩ := hs
    exact False.elim q

end
/-- isinstance(e, C), e an object that is pinned -/
theorem call_isP {X : Cx} {a D : Addr} {oe : Obj} (hp : (a, oe) ∈ X.pn) (C : ExcC X.K D) (hz : oe.cls = .ref D ∧ oe.dict = none) (hf : ∃ vs, oe.data = .fields vs) : CallR X (.builtin "isinstance") (rIsE X.K D a) := by
  intro pins s σ H xs us Q I r h
  obtain ⟨c, cv, b, rfl, hcv, e, q⟩ := h
  cases r with
  | cons rx rr =>
    cases rr with
    | cons rt rr =>
      cases rr
      cases rx
      have ec := hcv _ rt
      subst ec
      obtain ⟨hget, _⟩ := I.pin (a, oe) (List.mem_append_left _ hp)
      obtain ⟨vs, hv⟩ := hf
      have J : PySem.W.InstAt s.heap a oe D none := by
        obtain ⟨oc, od, oda, osl⟩ := oe
        obtain ⟨h1, h2⟩ := hz
        dsimp only at h1 h2 hv
        subst h1 h2 hv
        exact ⟨hget, rfl, rfl, trivial⟩
      exact PySem.W.kia_one (PySem.W.handS_kitx_exc C.hg C.hk C.hs C.hd C.ha C.hn C.ht C.hm) I.kIn J e (fun z => nomatch z) fun tk => ⟨.bl b, H, I.kept (t' := tk) fun _ _ z => z, rfl, q⟩
/-- isinstance(e, (C, ..)), e an object that is pinned -/
def rIsET (K : PySem.W.Frag) (D a : Addr) : List V → Hp → VK → Prop := fun xs H Q => ∃ (tp : Addr) (cs : List Addr) (b : Bool), xs = [.ref a, .ref tp] ∧ H tp = some (.tup (cs.map V.ref)) ∧ PySem.W.kitAny K (.ref D) (cs.map Value.ref) = some b ∧ Q (.bl b) H
theorem vals_refsE : ∀ {cs : List Addr} {us : List Value}, Vals (cs.map V.ref) us → us = cs.map Value.ref
  | [], _, .nil => rfl
  | c :: cs, _, .cons r t => by
    rw [vals_refsE t, show _ = Value.ref c from r]; rfl
theorem call_isPT {X : Cx} {a D : Addr} {oe : Obj} (hp : (a, oe) ∈ X.pn) (C : ExcC X.K D) (hz : oe.cls = .ref D ∧ oe.dict = none) (hf : ∃ vs, oe.data = .fields vs) : CallR X (.builtin "isinstance") (rIsET X.K D a) := by
  intro pins s σ H xs us Q I r h
  obtain ⟨tp, cs, b, rfl, ht, e, q⟩ := h
  cases r with
  | cons rx rr =>
    cases rr with
    | cons rt rr =>
      cases rr
      cases rx
      cases rt
      obtain ⟨_, its, r2, o, ho, hc, n, hd⟩ := I.hok _ _ ht
      have ei := vals_refsE r2
      subst ei
      obtain ⟨hget, _⟩ := I.pin (a, oe) (List.mem_append_left _ hp)
      obtain ⟨vs, hv⟩ := hf
      have J : PySem.W.InstAt s.heap a oe D none := by
        obtain ⟨oc, od, oda, osl⟩ := oe
        obtain ⟨h1, h2⟩ := hz
        dsimp only at h1 h2 hv
        subst h1 h2 hv
        exact ⟨hget, rfl, rfl, trivial⟩
      obtain ⟨oc, od, oda, osl⟩ := o
      dsimp only at hc hd
      subst hc hd
      exact PySem.W.kia_tup (PySem.W.handS_kitx_exc C.hg C.hk C.hs C.hd C.ha C.hn C.ht C.hm) I.kIn J ho e (fun z => nomatch z) fun tk => ⟨.bl b, H, I.kept (t' := tk) fun _ _ z => z, rfl, q⟩
/-! own exception classes over ValueError, the raising of them, calls that may let one out -/
abbrev excVE : List Value := [.type "ValueError", .type "Exception", .type "BaseException", .type "object"]
structure XC (K : PySem.W.Frag) (mg : Str → Option Value) (x : Str) (C : Addr) : Prop where
  n : PySem.W.nsIn K mainGlobals x = some (some (.ref C))
  g : mg x = some (.ref C)
  q : PySem.W.excIn K C excVE "ValueError.__new__" = true
  kp : PySem.W.keepIn K (.ref C) = true
  b : PySem.W.subIn K (.ref C) (.type "BaseException") = some true
  t : PySem.W.typeIn K (.ref C) = some (.type "type")
  i : PySem.W.isClsIn K C = true
  s : PySem.W.subIn K (.ref C) (.ref C) = some true
  v : PySem.W.subIn K (.ref C) (.type "ValueError") = some true
theorem XC.exm {K : PySem.W.Frag} {mg : Str → Option Value} {x : Str} {C D : Addr} {v : Bool} (c : XC K mg x C) (h : PySem.W.subIn K (.ref D) (.ref C) = some v) : PySem.W.exmOne K (.ref D) (.ref C) = some v := by
  have i := c.i
  unfold PySem.W.isClsIn at i
  unfold PySem.W.exmOne
  rw [c.b, if_pos (by decide)]
  unfold PySem.W.kitCls
  dsimp only
  rw [c.t, if_pos (by rw [show (PySem.W.clsIn K C).isSome = true from i]; decide), h]
def tRaise (W : WX) (C : Addr) : TS := fun _ σ H => W (.ref C) none σ H
theorem z_raise {W : WX} {C : Addr} {D : Ends} {σ : L2.St} {H : Hp} (k : W (.ref C) none σ H) : tRaise W C D σ H := k
theorem q_raise {W : WX} {C : Addr} {D : Ends} {σ : L2.St} {H : Hp} {u : TS} (k : W (.ref C) none σ H) : tSeq (tRaise W C) u D σ H := k
section
variable {X : Cx} {W : WX} {x m : Str} {C : Addr} {j : Nat} {p p2 pos pos' : Pos}
theorem ps_raiseX (hc : X.calm = true) (tk : L2.Takes X W) (c : XC X.K X.mg x C) (hg : Gl X x) (hdb : (x == ("__debug__" : Str)) = false := by decide) : PS X (.Raise (some (.Call (.Name x p) [.Constant (.str m) j p2] [] pos)) none pos') (tRaise W C) :=
  L2.ps_raise hc tk (L2.pmk_own PySem.F.excBase_ValueError c.q c.g c.kp (raises_own c.b c.t) hg hdb)
theorem ps_raiseN (hc : X.calm = true) (tk : L2N.Takes X W) (c : XC X.K X.mg x C) (hg : Gl X x) (hdb : (x == ("__debug__" : Str)) = false := by decide) : PS X (.Raise (some (.Call (.Name x p) [.Constant (.str m) j p2] [] pos)) none pos') (tRaise W C) :=
  L2N.ps_raise hc tk (L2N.pmk_own PySem.F.excBase_ValueError c.q c.g c.kp (raises_own c.b c.t) hg hdb)
/-- raise X(e) -/
def tRaiseV (te : TE) (W : WX) (C : Addr) : TS := fun _ σ H => te σ H fun _ H1 => W (.ref C) none σ H1
theorem z_raiseV {te : TE} {W : WX} {C : Addr} {D : Ends} {σ : L2.St} {H : Hp} (k : te σ H fun _ H1 => W (.ref C) none σ H1) : tRaiseV te W C D σ H := k
theorem q_raiseV {te : TE} {W : WX} {C : Addr} {D : Ends} {σ : L2.St} {H : Hp} {u : TS} (k : te σ H fun _ H1 => W (.ref C) none σ H1) : tSeq (tRaiseV te W C) u D σ H := k
theorem pmk_ownV {C : Addr} {bmB : List Value} {B newId initId : String} {x : Str} {e : Expr} {ta : TE} {p pos : Pos} (F : ExcBaseFacts B newId initId bmB) (q : PySem.W.excIn X.K C bmB newId = true) (gC : X.mg x = some (.ref C)) (kC : PySem.W.keepIn X.K (.ref C) = true) (r : Raises X (.ref C)) (hg : Gl X x)
    (he : PE X e ta) (hs : starEach [e] X.env = (false, eval e X.env) :: starEach [] X.env := by rfl) (hdb : (x == ("__debug__" : Str)) = false := by decide) :
    L2N.PMk X (.Call (.Name x p) [e] [] pos) (fun σ H Q => ta σ H fun _ H1 => Q (.ref C) none H1) := by
  intro pins s σ H Q I h
  refine wpAny_Call_Name_kw (ld_glob I hg gC ?_ hdb)
  refine PySem.W.callWith_K (h₀ := X.base) I.ok.mod.kin kC ?_ hs (by rfl)
  rw [hs]
  show wpAny _ _ (spliced ((false, eval e X.env) :: backTo pos (starEach [] X.env))) _ _ s
  refine Calls.spliced_cons (thn (he.run pins s σ H _ I h) fun u s1 ⟨v, H1, I1, r1, q1⟩ => ?_)
  refine Calls.spliced_nil ⟨I1.kIn, ?_⟩
  show wpAny _ _ (call (.ref C) [u]) _ _ _
  obtain ⟨bm, N, nm, qn, bs, hdct, sn, sub, ab, col, dd, k0, k1, k2, k3, k5, mN, hC, hN, hni, T⟩ := exc_obj I1.kIn q
  refine wpAny_call_exc_subT F T hC hN hni (fun h' e hm => ?_) (by show 1 ≤ sizeLine; rw [sizeLine_eq]; omega)
  exact L2N.mk_of I1 hm r q1 (I1.hok.gone hm.new)
theorem ps_raiseNV {e : Expr} {te : TE} (hc : X.calm = true) (tk : L2N.Takes X W) (c : XC X.K X.mg x C) (hg : Gl X x) (he : PE X e te) (hs : starEach [e] X.env = (false, eval e X.env) :: starEach [] X.env := by rfl) (hdb : (x == ("__debug__" : Str)) = false := by decide) : PS X (.Raise (some (.Call (.Name x p) [e] [] pos)) none pos') (tRaiseV te W C) :=
  L2N.ps_raise hc tk (pmk_ownV PySem.F.excBase_ValueError c.q c.g c.kp (raises_own c.b c.t) hg he hs hdb)
theorem takes0N : L2N.Takes X (fun _ _ _ _ => False) := fun _ _ x => by
  obtain ⟨_, _, _, _, _, _, _, _, _, _, _, _, _, _, _, _, z⟩ := x
  exact z.elim
end
section
variable {P : Program} {w : World} {K : PySem.W.Frag} {mg : Str → Option Value} {base : Heap}
theorem fn_to0X {k : Nat} {f : Addr} {fd : FuncData} {ps : List Str} {sp : Sp} (F : FnOk P w K mg base (L2.CX P w) k f fd ps sp) (h0 : ∀ vs H Q E, sp vs H Q E → sp vs H Q E0) : FnOk P w K mg base CX0 k f fd ps sp :=
  ⟨F.len, fun A outer s H args us vs Q E hr he hb hv hs => codeAny_mono (F.run A outer s H args us vs Q E0 hr he hb hv (h0 _ _ _ _ hs)) fun r s' h => by
    cases r with
    | error e =>
      obtain ⟨a, B, H', cls, d, _, _, _, _, _, _, _, z⟩ := (show L2.CX P w outer H s E0 e s' from h)
      exact (show False from z).elim
    | ok fl => cases fl <;> exact h⟩
theorem Fun_okN {x qual : Str} {st : Stmt} {f : Addr} {fd : FuncData} {N ps : List Str} {k : Nat} {sp : Sp} (F : Fun K x qual st f fd) (S : FnScope N ps (defScope st)) (len : ∀ vs H Q E, sp vs H Q E → vs.length = ps.length)
    (hbody : ∀ (cdv : Value) (A : Around) (outer : List Env) (s : Shared) (H : Hp) (vs : List V) (Q : VK) (E : XK), Room k (A.deeper (envOfC qual (defScope st) s.heap.objs.size f cdv)) → sp vs H Q E →
      ∃ t, PSs (cxOf (L2N.CX P w) P w K mg base N qual (defScope st) f cdv A outer s H E) (defBody st) t ∧ t { nx := fun _ H' => Q .non H', rt := Q } (start N vs) H) : FnOk P w K mg base (L2N.CX P w) (k + 1) f fd ps sp := by
  obtain ⟨_, _, _, _, _, _, _, _, _, rfl, lk, hcd⟩ := F.ex
  exact fn_of lk hcd S len fun A outer s H vs Q E hr hsp => hbody _ A outer s H vs Q E hr hsp
end
theorem w_callS {sp : Sp} {E : L2.St → XK} {t : TA} {σ : L2.St} {H : Hp} {Q : VK} (k : t σ H fun vs H1 => sp vs H1 Q (E σ)) : tCallS sp E t σ H Q := k
theorem l_only {K : PySem.W.Frag} {c : Value} {ts : Addr → Value → Option Addr → TS} {Wout : WX} {D : Ends} {cls : Value} {d : Option Addr} {σ : L2.St} {H : Hp} (h : PySem.W.exmOne K cls c = some true) (k : ∀ a, H a = none → ts a cls d D σ H) : wOnly K c ts Wout D cls d σ H :=
  ⟨true, h, fun _ a ha => k a ha, fun z => nomatch z⟩
theorem XC.kit {K : PySem.W.Frag} {mg : Str → Option Value} {x : Str} {C D : Addr} {v : Bool} (c : XC K mg x C) (h : PySem.W.subIn K (.ref D) (.ref C) = some v) : PySem.W.kitOne K (.ref D) (.ref C) = some v := by
  unfold PySem.W.kitOne
  by_cases e : D = C
  · subst e
    rw [c.s] at h
    rw [if_pos (by simp), h]
  · rw [if_neg (by simpa using e)]
    have i := c.i
    unfold PySem.W.isClsIn at i
    unfold PySem.W.kitCls
    dsimp only
    rw [c.t, if_pos (by rw [show (PySem.W.clsIn K C).isSome = true from i]; decide), h]
theorem XC.kitV {K : PySem.W.Frag} {mg : Str → Option Value} {x : Str} {D : Addr} (c : XC K mg x D) : PySem.W.kitOne K (.ref D) (.type "ValueError") = some true := by
  unfold PySem.W.kitOne
  rw [if_neg (by simp)]
  show (if PySem.W.kitMeta "ValueError" = true then PySem.W.subIn K (.ref D) (.type "ValueError") else none) = some true
  rw [if_pos (by decide +kernel), c.v]
/-- isinstance(e, C), isinstance(e, (C, ..)), e the exception that is handled, of a class to be told later -/
def rIsX (K : PySem.W.Frag) (cls : Value) (d : Option Addr) (a : Addr) : List V → Hp → VK → Prop := fun xs H Q => ∃ D, cls = .ref D ∧ d = none ∧ ExcC K D ∧ (rIsE K D a xs H Q ∨ rIsET K D a xs H Q)
def rIsY (K : PySem.W.Frag) (cls : Value) (d : Option Addr) (a : Addr) : List V → Hp → VK → Prop := fun xs H Q => rIsX K cls d a xs H Q ∨ rIsi K xs H Q
theorem call_isY {X : Cx} {K : PySem.W.Frag} {a : Addr} {oe : Obj} {cls : Value} {d : Option Addr} (h : X.K = K) (hp : (a, oe) ∈ X.pn) (h1 : oe.cls = cls) (h2 : oe.dict = d) (hf : ∃ vs, oe.data = .fields vs) : CallR X (.builtin "isinstance") (rIsY K cls d a) := by
  subst h
  refine CallR.or ?_ call_isi
  intro pins s σ H xs us Q I r h
  obtain ⟨D, rfl, rfl, hC, h | h⟩ := h
  · exact call_isP hp hC ⟨h1, h2⟩ hf pins s σ H xs us Q I r h
  · exact call_isPT hp hC ⟨h1, h2⟩ hf pins s σ H xs us Q I r h
def refsOf : List V → Option (List Addr)
  | [] => some []
  | .ref a :: r => (refsOf r).map (a :: ·)
  | _ :: _ => none
theorem refsOf_map : ∀ {xs : List V} {cs : List Addr}, refsOf xs = some cs → xs = cs.map V.ref
  | [], cs, h => by cases h; rfl
  | x :: r, cs, h => by
    cases x with
    | ref a =>
      obtain ⟨cs', h', rfl⟩ := Option.map_eq_some_iff.mp (show (refsOf r).map (a :: ·) = some cs from h)
      rw [refsOf_map h']; rfl
    | _ => cases h
theorem kitAny_n {K : PySem.W.Frag} {t : Value} : PySem.W.kitAny K t [] = some false := rfl
theorem kitAny_f {K : PySem.W.Frag} {t c : Value} {r : List Value} {b : Bool} (h : PySem.W.kitOne K t c = some false) (k : PySem.W.kitAny K t r = some b) : PySem.W.kitAny K t (c :: r) = some b := by
  unfold PySem.W.kitAny
  rw [h]
  exact k
section
variable {K : PySem.W.Frag} {H : Hp} {Q : VK} {a C D : Addr} {b : Bool}
theorem l_isX1 (hC : ExcC K D) (e : PySem.W.kitOne K (.ref D) (.ref C) = some b) (k : Q (.bl b) H) : rIsY K (.ref D) none a [.ref a, .ref C] H Q :=
  .inl ⟨D, rfl, rfl, hC, .inl ⟨.ref C, .ref C, b, rfl, fun _ r => r, e, k⟩⟩
theorem l_isXV (hC : ExcC K D) (e : PySem.W.kitOne K (.ref D) (.type "ValueError") = some b) (k : Q (.bl b) H) : rIsY K (.ref D) none a [.ref a, .ty "ValueError"] H Q :=
  .inl ⟨D, rfl, rfl, hC, .inl ⟨.ty "ValueError", .type "ValueError", b, rfl, fun _ r => r, e, k⟩⟩
theorem l_isXT {tp : Addr} {xs : List V} {cs : List Addr} (hC : ExcC K D) (ht : H tp = some (.tup xs)) (hx : refsOf xs = some cs) (e : PySem.W.kitAny K (.ref D) (cs.map Value.ref) = some b) (k : Q (.bl b) H) : rIsY K (.ref D) none a [.ref a, .ref tp] H Q :=
  .inl ⟨D, rfl, rfl, hC, .inr ⟨tp, cs, b, rfl, by rw [ht, refsOf_map hx], e, k⟩⟩
theorem l_isY {xs : List V} (k : rIsi K xs H Q) : rIsY K (.ref D) none a xs H Q := .inr k
end
/-! calls of such defs -/
section
open HotX L2H
theorem roomS {k : Nat} {A : Around} {x : Option Value} (r : Room k A) : RoomH k (A.mark x) := ⟨r.dp, r.un⟩
theorem unitsH {k : Nat} {A : Around} (r : RoomH k A) : A.units + 64 < cLine := by have := r.un; omega
theorem roomH65 {k : Nat} {A : Around} (r : RoomH k A) : A.units + 65 < cLine := by have := r.un; omega
def tCallE (sp : Addr → Value → Sp) (a : Addr) (c : Value) (d : Option Addr) (t : TA) : TE := fun σ H Q => t σ H fun vs H1 => d = none ∧ sp a c vs H1 Q E0
theorem w_callE {sp : Addr → Value → Sp} {a : Addr} {c : Value} {d : Option Addr} {t : TA} {σ : L2.St} {H : Hp} {Q : VK} (k : t σ H fun vs H1 => d = none ∧ sp a c vs H1 Q E0) : tCallE sp a c d t σ H Q := k
theorem pe_callE {X : Cx} {k : Nat} {f a : Addr} {oe : Obj} {c : Value} {d : Option Addr} {fd : FuncData} {ps : List Str} {sp : Addr → Value → Sp} {x : Str} {q pos : Pos} {e : Expr} {es : List Expr} {t : TA}
    (F : FnE X.prog X.w X.K X.mg X.base CX0 k f fd ps sp) (hr : RoomH k X.A) (hot : Hot1 X.A (a, oe)) (hp : (a, oe) ∈ X.pn) (h1 : oe.cls = c) (h2 : oe.dict = d) (hg : Gl X x) (hm : X.mg x = some (.ref f)) (hk : PySem.W.keepIn X.K (.ref f) = true) (hb : Binds X.K fd ps [])
    (ha : PA X (e :: es) t) (hdb : (x == ("__debug__" : Str)) = false := by decide) (he : starEach (e :: es) X.env = (false, eval e X.env) :: starEach es X.env := by rfl) (hpl : (backTo pos (starEach es X.env)).any (·.1) = false := by rfl) :
    PE X (.Call (.Name x q) (e :: es) [] pos) (tCallE sp a c d t) := by
  refine ⟨fun pins s σ H Q I h => ?_⟩
  refine wpAny_Call_Name_kw (ld_glob I hg hm ?_ hdb)
  refine PySem.W.callWith_K (h₀ := X.base) I.ok.mod.kin hk (thn (ha.run pos pins s σ H _ I h) fun us s1 ⟨vs, H1, I1, r, q⟩ => ⟨I1.kIn, ?_⟩) he hpl
  obtain ⟨hd, q⟩ := q
  subst hd
  subst h1
  have hl : us.length = ps.length := by rw [← r.length]; exact F.len _ _ _ _ _ _ q
  have b := hb s1 us I1.kIn (by rw [List.append_nil]; exact hl)
  rw [List.append_nil] at b
  have P1 := I1.pin (a, oe) (List.mem_append_left _ hp)
  have hpin : PinOk X.stack H1 s1 (a, oe) := ⟨P1.1, P1.2.1, fun hm => (List.mem_cons.mp (I1.stkSub a hm)).elim P1.2.2.1 P1.2.2.2.1, P1.2.2.2.2⟩
  refine wpAny_call (codeAny_mono (F.run X.A X.stack s1 H1 ⟨us, []⟩ us vs Q E0 (a, oe) hr hot h2 hpin I1.env0 b r q) fun r s' hq => ?_)
  cases r with
  | error e => exact (show False from hq).elim
  | ok fl =>
    cases fl with
    | ret u => exact I1.after hq
    | next => exact False.elim hq
    | brk => exact False.elim hq
    | cont => exact False.elim hq
theorem hot_of {A : Around} {a : Addr} {oe : Obj} {cls : Value} {d : Option Addr} (hz : L2N.Zn cls d oe) (hf : ∃ vs, oe.data = .fields vs) : Hot1 (A.mark (some (.ref a))) (a, oe) := by
  obtain ⟨vs, hv⟩ := hf
  exact ⟨rfl, vs, hv, hz.2.2 vs hv⟩
theorem hot_flds {A : Around} {p : Addr × Obj} (h : Hot1 A p) : ∃ vs, p.2.data = .fields vs := by
  obtain ⟨_, vs, hv, _⟩ := h
  exact ⟨vs, hv⟩
end
section
open HotX L2H
theorem Fun_okE {P : Program} {w : World} {K : PySem.W.Frag} {mg : Str → Option Value} {base : Heap} {CX : CXT} {x qual : Str} {st : Stmt} {f : Addr} {fd : FuncData} {N ps : List Str} {k : Nat} {sp : Addr → Value → Sp} (F : Fun K x qual st f fd) (S : FnScope N ps (defScope st)) (len : ∀ a c vs H Q E, sp a c vs H Q E → vs.length = ps.length)
    (hbody : ∀ (cdv : Value) (A : Around) (outer : List Env) (s : Shared) (H : Hp) (vs : List V) (Q : VK) (E : XK) (p : Addr × Obj), Hot1 A p → p.2.dict = none → RoomH k (A.deeper (envOfC qual (defScope st) s.heap.objs.size f cdv)) → sp p.1 p.2.cls vs H Q E →
      ∃ t, PSs (cxH CX P w K mg base N qual (defScope st) f cdv A outer s H E p) (defBody st) t ∧ t { nx := fun _ H' => Q .non H', rt := Q } (L2.start N vs) H) : FnE P w K mg base CX (k + 1) f fd ps sp := by
  obtain ⟨_, _, _, _, _, _, _, _, _, rfl, lk, hcd⟩ := F.ex
  exact fn_ofE lk hcd S len fun A outer s H vs Q E p hot hdn hr hsp => hbody _ A outer s H vs Q E p hot hdn hr hsp
end
theorem l_as {K : PySem.W.Frag} {c : Value} {i : Nat} {ts : Addr → Value → Option Addr → TS} {Wout : WX} {D : Ends} {cls : Value} {d : Option Addr} {σ : L2.St} {H : Hp} (h : PySem.W.exmOne K cls c = some true) (k : ∀ a, H a = none → ts a cls d { nx := fun σ' H' => D.nx (σ'.set i none) H', rt := D.rt, bk := fun σ' H' => D.bk (σ'.set i none) H', ct := fun σ' H' => D.ct (σ'.set i none) H' } (σ.set i (some (.ref a))) H) : wAs K c i ts Wout D cls d σ H :=
  ⟨true, h, fun _ a ha => k a ha, fun z => nomatch z⟩
theorem kitAny_na {K : PySem.W.Frag} {t : Value} : PySem.W.kitAny K t (([] : List Addr).map Value.ref) = some false := rfl
theorem kitAny_fa {K : PySem.W.Frag} {t : Value} {c : Addr} {r : List Addr} {b : Bool} (h : PySem.W.kitOne K t (.ref c) = some false) (k : PySem.W.kitAny K t (r.map Value.ref) = some b) : PySem.W.kitAny K t ((c :: r).map Value.ref) = some b := kitAny_f h k
end LM
namespace LM
open PySem PySem.Spec PyProof.Rows L2
/-! texts: rules, and texts by their signs -/
def rJoin (K : PySem.W.Frag) : V → List V → Hp → VK → Prop := fun x xs H Q => ∃ a p, ∃ ys : List Str, x = .str a ∧ xs = [.ref p] ∧ (SqL K H p (ys.map V.str) ∨ SqT K H p (ys.map V.str)) ∧ (ys.map (·.length)).sum + ys.length * a.length ≤ 16777216 ∧ Q (.str (Txt.join a ys)) H
theorem pe_joinK {X : Cx} {K : PySem.W.Frag} {o e : Expr} {to te : TE} {apos pos : Pos} (h : X.K = K) (ho : PE X o to) (he : PE X e te) (hs : starEach [e] X.env = [(false, eval e X.env)] := by rfl) (hbase : attributeBase o "join" X.env (eval o X.env) = eval o X.env := by rfl) (hline : (apos.endLine == pos.line) = true := by rfl) :
    PE X (.Call (.Attribute o "join" apos) [e] [] pos) (tM1 (rJoin K) to te) := h ▸ pe_join ho he hs hbase hline
section
variable {K : PySem.W.Frag} {σ : L2.St} {H : Hp} {Q : VK} {to te : TE}
theorem w_m1 {r : V → List V → Hp → VK → Prop} (k : to σ H fun x H1 => (∃ a, x = .str a) ∧ te σ H1 fun y H2 => r x [y] H2 Q) : tM1 r to te σ H Q := k
theorem w_m0 {r : V → List V → Hp → VK → Prop} (k : to σ H fun x H1 => (∃ a, x = .str a) ∧ r x [] H1 Q) : tM0 r to σ H Q := k
theorem l_tyS {x : Str} {P : Prop} (k : P) : (∃ a, V.str x = .str a) ∧ P := ⟨⟨_, rfl⟩, k⟩
theorem l_joinL {x : Str} {p : Addr} {ys : List Str} (h : SqL K H p (ys.map V.str)) (hz : (ys.map (·.length)).sum + ys.length * x.length ≤ 100000) (k : Q (.str (Txt.join x ys)) H) : rJoin K (.str x) [.ref p] H Q := ⟨x, p, ys, rfl, rfl, .inl h, Nat.le_trans hz (by decide), k⟩
def rStrI : List V → Hp → VK → Prop := fun xs H Q => ∃ i, xs = [.int i] ∧ i.natAbs.log2 < 1920 ∧ Q (.str (toString i)) H
theorem call_strI {X : Cx} : CallR X (.type "str") rStrI := call_str_int
theorem l_strI {i : Int} (h : i.natAbs.log2 < 1920) (k : Q (.str (toString i)) H) : rStrI [.int i] H Q := ⟨i, rfl, h, k⟩
end
theorem log2_lt {i : Int} {k : Nat} (h : i.natAbs < 2 ^ k) (hk : k < 1920) : i.natAbs.log2 < 1920 := by
  by_cases c : i.natAbs = 0
  · rw [c]; decide
  · exact Nat.lt_trans ((Nat.log2_lt c).mpr h) hk
theorem join_in {x : Str} {ys : List Str} {c : Nat} (h : c ∈ (Txt.join x ys).cps.toList) : (∃ t ∈ ys, c ∈ t.cps.toList) ∨ c ∈ x.cps.toList := by
  rw [show Txt.join x ys = Str.join x ys from StrLaws.glued_eq_join x ys] at h
  exact ((mem_join x c ys).mp h).imp id (·.2)
theorem join_len (x : Str) (ys : List Str) : (Txt.join x ys).length ≤ (ys.map (·.length)).sum + ys.length * x.length := by
  rw [show Txt.join x ys = Str.join x ys from StrLaws.glued_eq_join x ys]
  exact StrLaws.join_length_le x ys
theorem repr_small {z : Str} (h : ∀ c ∈ z.cps.toList, c < 16 ^ 8) (hl : z.length ≤ 10000) : (reprText z).length ≤ sizeLine := by
  have := StrLaws.reprText_len z h
  rw [sizeLine_eq]
  omega
/-! texts by their signs -/
def sS (l : List Nat) : Str := ⟨l.toArray⟩
theorem sS_cps (l : List Nat) : (sS l).cps.toList = l := by simp [sS]
theorem sS_len (l : List Nat) : (sS l).length = l.length := by show l.toArray.size = _; simp
theorem sS_eta (z : Str) : sS z.cps.toList = z := by obtain ⟨a⟩ := z; simp [sS]
theorem len_cps (z : Str) : z.cps.toList.length = z.length := by show _ = z.cps.size; simp
theorem sS_app (a b : List Nat) : sS a ++ sS b = sS (a ++ b) := by
  rw [← sS_eta (sS a ++ sS b), cps_toList_append, sS_cps, sS_cps]
theorem sS_inj {a b : List Nat} (h : sS a = sS b) : a = b := by rw [← sS_cps a, h, sS_cps]
theorem sS_dec (a b : List Nat) : decide (sS a = sS b) = decide (a = b) := by
  by_cases h : a = b
  · rw [h]; simp
  · rw [decide_eq_false h, decide_eq_false fun z => h (sS_inj z)]
theorem cutS_to (z : Str) (k : Nat) : cutS z none (some (k : Int)) = sS (z.cps.toList.take k) := by
  unfold cutS sS
  rw [show HT.sIx z.length z.length (some (k : Int)) = min k z.length from HT.sIx_nat ..]
  show (⟨((z.cps.toList.drop 0).take (min k z.length - 0)).toArray⟩ : Str) = _
  rw [List.drop_zero, Nat.sub_zero, ← len_cps z]
  by_cases h : k ≤ z.cps.toList.length
  · rw [Nat.min_eq_left h]
  · rw [Nat.min_eq_right (by omega), List.take_of_length_le (Nat.le_refl _), List.take_of_length_le (by omega)]
theorem cutS_from (z : Str) (k : Nat) : cutS z (some (k : Int)) none = sS (z.cps.toList.drop k) := by
  unfold cutS sS
  rw [show HT.sIx z.length 0 (some (k : Int)) = min k z.length from HT.sIx_nat ..]
  show (⟨((z.cps.toList.drop (min k z.length)).take (z.length - min k z.length)).toArray⟩ : Str) = _
  rw [← len_cps z]
  by_cases h : k ≤ z.cps.toList.length
  · rw [Nat.min_eq_left h, List.take_of_length_le (by simp)]
  · rw [Nat.min_eq_right (by omega), List.drop_of_length_le (Nat.le_refl _), List.drop_of_length_le (by omega)]
    simp
theorem join_sgl : ∀ l : List Nat, Txt.join "" (l.map fun c => (⟨#[c]⟩ : Str)) = sS l := by
  intro l
  rw [show Txt.join "" (l.map fun c => (⟨#[c]⟩ : Str)) = Str.join "" (l.map fun c => (⟨#[c]⟩ : Str)) from StrLaws.glued_eq_join _ _]
  rw [← sS_eta (Str.join "" (l.map fun c => (⟨#[c]⟩ : Str)))]
  congr 1
  induction l with
  | nil => rfl
  | cons c r ih =>
    cases r with
    | nil => rfl
    | cons d r =>
      rw [List.map_cons, List.map_cons, join_cons_cons, cps_toList_append, cps_toList_append, show (Str.ofString "").cps.toList = [] from rfl]
      rw [List.map_cons] at ih
      rw [ih]
      rfl
theorem sum_sgl : ∀ l : List Nat, ((l.map fun c => (⟨#[c]⟩ : Str)).map (·.length)).sum = l.length
  | [] => rfl
  | c :: r => by
    rw [List.map_cons, List.map_cons, List.sum_cons, sum_sgl r, List.length_cons]
    show 1 + _ = _
    omega
section
variable {K : PySem.W.Frag} {σ : L2.St} {H : Hp} {Q : VK} {to te : TE}
/-- slices of a list, a tuple, a text -/
def rSlX (K : PySem.W.Frag) : V → Option Int → Option Int → Hp → VK → Prop := fun x lo hi H Q => rSlP K x lo hi H Q ∨ rSlS x lo hi H Q
theorem sl_X {X : Cx} {K : PySem.W.Frag} (h : X.K = K) : SlR X (rSlX K) := (sl_K h).or sl_str
theorem l_slS {z : Str} {lo hi : Option Int} (hz : z.length ≤ 100000) (k : Q (.str (cutS z lo hi)) H) : rSlX K (.str z) lo hi H Q := .inr ⟨z, rfl, sz hz, k⟩
theorem l_slQ {x : V} {lo hi : Option Int} (k : rSlP K x lo hi H Q) : rSlX K x lo hi H Q := .inl k
/-- one sign in a text; else as in a list or a tuple -/
def rSign : R2 := fun x y H Q => ∃ (c : Nat) (z : Str), x = .str ⟨#[c]⟩ ∧ y = .str z ∧ Q (.bl (decide (c ∈ z.cps.toList))) H
def rInX (K : PySem.W.Frag) : R2 := fun x y H Q => rSign x y H Q ∨ rIn K false x y H Q
theorem op_inX {X : Cx} {K : PySem.W.Frag} (h : X.K = K) : OpR X (compareOp .In) (rInX K) := OpR.or op_in_sign (op_inK h)
theorem l_inS {c : Nat} {z : Str} (k : Q (.bl (decide (c ∈ z.cps.toList))) H) : rInX K (.str ⟨#[c]⟩) (.str z) H Q := .inl ⟨c, z, rfl, rfl, k⟩
/-- text.index(sign) -/
def rSIdx : V → List V → Hp → VK → Prop := fun x xs H Q => ∃ a b i rest, x = .str a ∧ xs = [.str b] ∧ Builtin.Str.occurrences a b 0 a.length 1 = i :: rest ∧ Q (.int (i : Nat)) H
theorem mt_sidx {X : Cx} : MtR X "str.index" rSIdx := mt_sindex
theorem l_sidx {a b : Str} {i : Nat} {rest : List Nat} (h : Builtin.Str.occurrences a b 0 a.length 1 = i :: rest) (k : Q (.int (i : Nat)) H) : rSIdx (.str a) [.str b] H Q := ⟨a, b, i, rest, rfl, rfl, h, k⟩
/-- a text none or one time -/
def rRepS : R2 := fun x y H Q => ∃ z n, x = .str z ∧ y = .int n ∧ 0 ≤ n ∧ n ≤ 1000 ∧ z.length ≤ 1 ∧ ∀ u : Str, u.length ≤ n.toNat → (n = 1 → u = z) → (n = 0 → u = Str.empty) → Q (.str u) H
end
theorem op_mulS {X : Cx} : OpR X (binaryOp .Mult) rRepS := by
  intro pins s σ H x y v u Q I rx ry h
  obtain ⟨z, n, rfl, rfl, h0, h1, hz, k⟩ := h
  obtain ⟨t, rfl⟩ := rx
  obtain ⟨t', rfl⟩ := ry
  refine _root_.PySem.P.mul_str ?_ (fun hn _ => ?_) (fun _ _ => ?_) ?_
  · rw [decide_eq_false (by omega), decide_eq_false (by omega)]; rfl
  · have h2 : (1 : Int) ≤ (2 ^ 63 - 1) / n := by
      rw [Int.le_ediv_iff_mul_le (by omega)]
      omega
    omega
  · unfold Builtin.Str.tooLong
    have h3 : z.length * n.toNat ≤ 1 * n.toNat := Nat.mul_le_mul_right _ hz
    rw [sizeLine_eq]
    simp
    omega
  · by_cases c : n < 1
    · rw [if_pos c]
      exact ⟨Nat.zero_le _, .str _, H, I.tok _, ⟨_, rfl⟩, k _ (Nat.zero_le _) (fun e => absurd c (by omega)) fun _ => rfl⟩
    · rw [if_neg c]
      by_cases c2 : (n == 1 || z.length == 0) = true
      · rw [if_pos c2]
        exact ⟨.str _, H, I, ⟨_, rfl⟩, k _ (by omega) (fun _ => rfl) fun e => absurd e (by omega)⟩
      · rw [if_neg c2]
        have : ∀ (m : Nat) (a : Array Nat), ((List.replicate m z.cps).foldl (· ++ ·) a).size = a.size + m * z.cps.size := by
          intro m
          induction m with
          | zero => intro a; simp
          | succ m ih =>
            intro a
            rw [List.replicate_succ, List.foldl_cons, ih, Array.size_append, Nat.succ_mul]
            omega
        have hlen : ((List.replicate n.toNat z.cps).foldl (· ++ ·) #[]).size ≤ n.toNat := by
          rw [this]
          have h3 : n.toNat * z.cps.size ≤ n.toNat * 1 := Nat.mul_le_mul_left _ hz
          simpa using h3
        refine ⟨?_, .str _, H, I.tok _, ⟨_, rfl⟩, k _ hlen (fun e => absurd (by rw [e]; rfl) c2) fun e => absurd e (by omega)⟩
        show ((List.replicate n.toNat z.cps).foldl (· ++ ·) #[]).size ≤ sizeLine
        rw [sizeLine_eq]
        omega
def rMulX (K : PySem.W.Frag) : R2 := fun x y H Q => rMulP K x y H Q ∨ rRepS x y H Q
theorem op_mulX {X : Cx} {K : PySem.W.Frag} (h : X.K = K) : OpR X (binaryOp .Mult) (rMulX K) := (op_mulK h).or op_mulS
theorem l_mulQ {K : PySem.W.Frag} {H : Hp} {Q : VK} {x y : V} (k : rMulP K x y H Q) : rMulX K x y H Q := .inl k
theorem l_mulS {K : PySem.W.Frag} {H : Hp} {Q : VK} {z : Str} {n : Int} (h : 0 ≤ n ∧ n ≤ 1000) (hz : z.length ≤ 1) (k : ∀ u : Str, u.length ≤ n.toNat → (n = 1 → u = z) → (n = 0 → u = Str.empty) → Q (.str u) H) : rMulX K (.str z) (.int n) H Q := .inr ⟨z, n, rfl, rfl, h.1, h.2, hz, k⟩
def strK (R : It → Hp → Prop) (v : V) (H1 : Hp) : Prop := ∃ x, v = .str x ∧ R (Its x) H1
theorem i_str {σ : L2.St} {H : Hp} {te : TE} {R : It → Hp → Prop} (k : te σ H fun v H1 => strK R v H1) : iStr te σ H R := k
theorem l_its {H : Hp} {z : Str} {R : It → Hp → Prop} (k : R (Its z) H) : strK R (.str z) H := ⟨z, rfl, k⟩
theorem pickN {α : Type} {xs : List α} {d : Int} (h0 : 0 ≤ d) (h1 : d < xs.length) : ∃ c, atI xs d = some c ∧ c ∈ xs := by
  obtain ⟨n, rfl⟩ : ∃ n : Nat, d = n := ⟨d.toNat, by omega⟩
  have hn : n < xs.length := by omega
  exact ⟨xs[n], atI_nat (List.getElem?_eq_getElem hn), List.getElem_mem hn⟩
theorem app_len (a b : Str) : (a ++ b).length = a.length + b.length := by rw [← len_cps, cps_toList_append, List.length_append, len_cps, len_cps]
theorem l_lcS {σ : L2.St} {H : Hp} {Q : VK} {te : TE} {z : Str} {j : Nat} {vs : List Nat} (f : Nat → V) (hz : z.length < 100000) (hw : ∀ x, wipe ((wipe σ vs).set j (some x)) vs = wipe σ vs)
    (hs : ∀ c H1, c ∈ z.cps.toList → Ex H H1 → ∀ Q' : VK, (∀ H2, Ex H1 H2 → Q' (f c) H2) → te ((wipe σ vs).set j (some (.str ⟨#[c]⟩))) H1 Q')
    (hd : ∀ D H1, H D = none → Ex H H1 → H1 D = some (.lst (z.cps.toList.map f)) → Q (.ref D) H1) : LcK (gName j) tYes te vs (Its z) σ H Q := by
  refine l_lc walk_str (fun _ i acc H1 => Ex H H1 ∧ acc = (z.cps.toList.take i).map f) (fun D H1 n e h1 => ⟨e, rfl⟩) (fun _ _ _ _ _ _ _ => True.intro) (fun D i acc x H1 H2 hn hi h1 p y => ?_) (fun D acc H1 hn h1 p => ?_)
  · obtain ⟨rfl, c, hc, rfl⟩ := y
    obtain ⟨e, rfl⟩ := p
    have hc' : z.cps.toList[i]? = some c := by rw [Array.getElem?_toList]; exact hc
    have hi' : i < z.length := hi
    refine ⟨hw _, w_yes ?_⟩
    refine iteT ?_
    refine hs c _ (List.mem_of_getElem? hc') e _ fun H3 e3 => ?_
    refine lc_end (Pv := fun _ i acc H1 => Ex H H1 ∧ acc = (z.cps.toList.take i).map f) (e3 _ _ h1) (by simp; omega) fun H6 e6 h6 => ⟨?_, ?_⟩
    · exact ExB.new (e.trans e3) e6 hn
    · have : (z.cps.toList.take (i + 1)) = z.cps.toList.take i ++ [c] := by rw [List.take_succ, hc']; rfl
      rw [this, List.map_append]; rfl
  · obtain ⟨e, rfl⟩ := p
    refine hd D H1 hn e ?_
    rw [h1, List.take_of_length_le (by simp)]
end LM
namespace LW
open PySem PySem.Spec PyProof.Rows L2 LM
/-! what things are: numbers of signs, signs, words -/
def isNum : V → Bool
  | .int _ => true
  | _ => false
def signOk (q : Int) : V → Bool
  | .int i => decide (0 ≤ i) && decide (i < q)
  | _ => false
/-- the signs ns are ones over q -/
def Sg (q : Int) (ns : List Int) : Prop := ∀ n ∈ ns, 0 ≤ n ∧ n < q
/-- v is the word ns over q -/
def Wd (K : PySem.W.Frag) (H : Hp) (q : Int) (v : V) (ns : List Int) : Prop := ∃ a, v = .ref a ∧ SqT K H a (ns.map V.int) ∧ ns.length ≤ 60 ∧ Sg q ns
theorem Wd.mono {K : PySem.W.Frag} {H H' : Hp} {q : Int} {v : V} {ns : List Int} (e : Ex H H') (h : Wd K H q v ns) : Wd K H' q v ns := by
  obtain ⟨a, e1, h1, h2⟩ := h
  exact ⟨a, e1, Evl.ex_t e h1, h2⟩
theorem Sg.append {q : Int} {xs ys : List Int} (h : Sg q xs) (h2 : Sg q ys) : Sg q (xs ++ ys) := fun n m => (List.mem_append.mp m).elim (h n) (h2 n)
theorem Sg.take {q : Int} {xs : List Int} (h : Sg q xs) (k : Nat) : Sg q (xs.take k) := fun n m => h n (List.mem_of_mem_take m)
theorem Sg.drop {q : Int} {xs : List Int} (h : Sg q xs) (k : Nat) : Sg q (xs.drop k) := fun n m => h n (List.mem_of_mem_drop m)
theorem cut_to {xs : List V} {k : Nat} (h : k ≤ xs.length) : cutV xs none (some (k : Int)) = xs.take k := by
  have e : HT.sIx xs.length xs.length (some (k : Int)) = k := by
    unfold HT.sIx
    simp only [show ¬ ((k : Int) < 0) by omega, if_false, Int.toNat_natCast]
    omega
  unfold cutV
  rw [e]
  show (xs.drop 0).take (k - 0) = _
  simp
theorem cut_from {xs : List V} {k : Nat} (h : k ≤ xs.length) : cutV xs (some (k : Int)) none = xs.drop k := by
  have e : HT.sIx xs.length 0 (some (k : Int)) = k := by
    unfold HT.sIx
    simp only [show ¬ ((k : Int) < 0) by omega, if_false, Int.toNat_natCast]
    omega
  unfold cutV
  rw [e]
  show (xs.drop k).take (xs.length - k) = _
  rw [List.take_of_length_le (by simp)]
/-- a pot: a list of two whole numbers -/
def Pot (H : Hp) (p : Addr) : Prop := ∃ n s : Int, H p = some (.lst [.int n, .int s]) ∧ 0 ≤ n ∧ 0 ≤ s ∧ s < 2147483647
theorem Pot.mono {H H' : Hp} {p : Addr} (e : Ex H H') (h : Pot H p) : Pot H' p := by
  obtain ⟨n, s, h1, h2⟩ := h
  exact ⟨n, s, e _ _ h1, h2⟩
/-- a comprehension of digits: the pot at p goes on, acc holds signs over q -/
def PvD (p : Addr) (q : Int) (H : Hp) : Addr → Nat → List V → Hp → Prop := fun D i acc H1 => p ≠ D ∧ ExB p H H1 ∧ Pot H1 p ∧ ∃ ns : List Int, acc = ns.map V.int ∧ ns.length = i ∧ Sg q ns
theorem Pot.exB {H1 H2 : Hp} {p a : Addr} (e : ExB a H1 H2) (n : p ≠ a) (h : Pot H1 p) : Pot H2 p := by
  obtain ⟨n3, s3, h3, b3⟩ := h
  exact ⟨n3, s3, e _ _ n h3, b3⟩
theorem Pot.lst {H : Hp} {p : Addr} (h : Pot H p) : ∃ ys, H p = some (.lst ys) := by
  obtain ⟨n3, s3, h3, b3⟩ := h
  exact ⟨_, h3⟩
theorem Pot.t {K : PySem.W.Frag} {H H' : Hp} {p a : Addr} {xs : List V} (h : Pot H p) (e : ExB p H H') (q : SqT K H a xs) : SqT K H' a xs := by
  obtain ⟨ys, hy⟩ := h.lst
  exact exB_t e hy q
theorem Wd.pot {K : PySem.W.Frag} {H H' : Hp} {p : Addr} {q : Int} {v : V} {ns : List Int} (hp : Pot H p) (e : ExB p H H') (h : Wd K H q v ns) : Wd K H' q v ns := by
  obtain ⟨a, e1, h1, h2⟩ := h
  exact ⟨a, e1, hp.t e h1, h2⟩
/-- whole numbers as data -/
theorem dp_ints {K : PySem.W.Frag} {H : Hp} : ∀ ns : List Int, DpAll K H (ns.map V.int) (ns.map PyData.int)
  | [] => .nil
  | n :: ns => .cons (.int n) (dp_ints ns)
theorem lay_ints : ∀ ns : List Int, PyData.canLayAll0 (ns.map PyData.int) = true
  | [] => rfl
  | n :: ns => by
    show (PyData.canLay0 (.int n) && PyData.canLayAll0 (ns.map PyData.int)) = true
    rw [lay_ints ns]; rfl
theorem depth_ints : ∀ ns : List Int, PyData.depthAll (ns.map PyData.int) = 0
  | [] => rfl
  | n :: ns => by
    show max (PyData.depth (.int n)) (PyData.depthAll (ns.map PyData.int)) = 0
    rw [depth_ints ns]; rfl
theorem layT_ints (ns : List Int) : PyData.canLay0 (.tuple (ns.map PyData.int)) = true := by
  show PyData.canLayAll0 (ns.map PyData.int) = true
  exact lay_ints ns
theorem shaped_ints (ns : List Int) : SeqAt.shaped (.tuple (ns.map PyData.int)) = true := by
  show (PyData.canLay0 (.tuple (ns.map PyData.int)) && decide (PyData.depthAll (ns.map PyData.int) + 1 ≤ 64)) = true
  rw [depth_ints, layT_ints]; rfl
theorem eqv_ints : ∀ xs ys : List Int, PyData.eqvAll (xs.map PyData.int) (ys.map PyData.int) = decide (xs = ys)
  | [], [] => by simp [PyData.eqvAll]
  | [], y :: ys => by simp [PyData.eqvAll]
  | x :: xs, [] => by simp [PyData.eqvAll]
  | x :: xs, y :: ys => by
    show (PyData.eqv (.int x) (.int y) && PyData.eqvAll (xs.map PyData.int) (ys.map PyData.int)) = _
    rw [eqv_ints xs ys]
    show ((x == y) && decide (xs = ys)) = decide (x :: xs = y :: ys)
    by_cases h1 : x = y <;> by_cases h2 : xs = ys <;> simp [h1, h2]
theorem eqvT_ints (xs ys : List Int) : PyData.eqv (.tuple (xs.map PyData.int)) (.tuple (ys.map PyData.int)) = decide (xs = ys) := by
  show PyData.eqvAll (xs.map PyData.int) (ys.map PyData.int) = _
  exact eqv_ints xs ys
theorem Sg.nil {q : Int} : Sg q [] := fun n m => by cases m
theorem at_int {ns : List Int} {i : Nat} {z : V} (h : (ns.map V.int)[i]? = some z) : i < ns.length ∧ z = .int (ns.getD i 0) := by
  rw [List.getElem?_map] at h
  cases e : ns[i]? with
  | none => rw [e] at h; cases h
  | some y =>
    rw [e] at h
    have hi := (List.getElem?_eq_some_iff.mp e).1
    exact ⟨hi, by rw [← Option.some.inj h]; simp [List.getD, e]⟩
theorem cut_ints (ns : List Int) (lo hi : Option Int) : ∃ ms : List Int, cutV (ns.map V.int) lo hi = ms.map V.int ∧ ms.length ≤ ns.length ∧ ∀ m ∈ ms, m ∈ ns := by
  refine ⟨(ns.drop (HT.sIx (ns.map V.int).length 0 lo)).take (HT.sIx (ns.map V.int).length (ns.map V.int).length hi - HT.sIx (ns.map V.int).length 0 lo), ?_, ?_, ?_⟩
  · unfold cutV
    rw [List.map_take, List.map_drop]
  · rw [List.length_take, List.length_drop]; omega
  · intro m hm
    exact List.mem_of_mem_drop (List.mem_of_mem_take hm)
/-- all of xs are words over q -/
def Ws (K : PySem.W.Frag) (H : Hp) (q : Int) (xs : List V) : Prop := ∀ x ∈ xs, ∃ ns, Wd K H q x ns
theorem Ws.mono {K : PySem.W.Frag} {H H' : Hp} {q : Int} {xs : List V} (e : Ex H H') (h : Ws K H q xs) : Ws K H' q xs := fun x m => by
  obtain ⟨ns, w⟩ := h x m
  exact ⟨ns, w.mono e⟩
theorem Ws.exB {K : PySem.W.Frag} {H H' : Hp} {q : Int} {xs : List V} {p : Addr} {ys : List V} (e : ExB p H H') (hp : H p = some (.lst ys)) (h : Ws K H q xs) : Ws K H' q xs := fun x m => by
  obtain ⟨ns, a, e1, h1, h2⟩ := h x m
  exact ⟨ns, a, e1, exB_t e hp h1, h2⟩
theorem Ws.nil {K : PySem.W.Frag} {H : Hp} {q : Int} : Ws K H q [] := fun _ m => by cases m
theorem Ws.cons {K : PySem.W.Frag} {H : Hp} {q : Int} {x : V} {xs : List V} {ns : List Int} (w : Wd K H q x ns) (h : Ws K H q xs) : Ws K H q (x :: xs) := fun y m => by
  rcases List.mem_cons.mp m with rfl | m
  · exact ⟨ns, w⟩
  · exact h y m
theorem Ws.append {K : PySem.W.Frag} {H : Hp} {q : Int} {xs ys : List V} (h : Ws K H q xs) (h2 : Ws K H q ys) : Ws K H q (xs ++ ys) := fun x m => (List.mem_append.mp m).elim (h x) (h2 x)
/-- a comprehension of words drawn by the pot at p -/
def PvW (K : PySem.W.Frag) (p : Addr) (q : Int) (H : Hp) : Addr → Nat → List V → Hp → Prop := fun D i acc H1 => p ≠ D ∧ ExB p H H1 ∧ Pot H1 p ∧ Ws K H1 q acc ∧ acc.length = i
/-! weighted sums -/
def wsum (ns : List Int) : Int := ((List.range ns.length).map fun (i : Nat) => ((i : Int) + 1) * ns.getD i 0).sum
theorem wsum_nil : wsum [] = 0 := rfl
theorem wsum_snoc (xs : List Int) (x : Int) : wsum (xs ++ [x]) = wsum xs + ((xs.length : Int) + 1) * x := by
  unfold wsum
  rw [List.length_append, List.length_singleton, List.range_succ, List.map_append, List.sum_append]
  have h1 : (List.range xs.length).map (fun (i : Nat) => ((i : Int) + 1) * (xs ++ [x]).getD i 0) = (List.range xs.length).map (fun (i : Nat) => ((i : Int) + 1) * xs.getD i 0) := by
    refine List.map_congr_left fun i hi => ?_
    have := List.mem_range.mp hi
    simp [List.getD, List.getElem?_append_left this]
  rw [h1]
  simp [List.getD]
theorem snoc_ind {α : Type} {P : List α → Prop} (h0 : P []) (h1 : ∀ xs x, P xs → P (xs ++ [x])) (xs : List α) : P xs := by
  rw [← List.reverse_reverse xs]
  induction xs.reverse with
  | nil => exact h0
  | cons x t ih => rw [List.reverse_cons]; exact h1 _ _ ih
theorem wsum_append (xs ys : List Int) : wsum (xs ++ ys) = wsum xs + wsum ys + (xs.length : Int) * ys.sum := by
  refine snoc_ind (P := fun ys => wsum (xs ++ ys) = wsum xs + wsum ys + (xs.length : Int) * ys.sum) (by simp [wsum_nil]) (fun ys y ih => ?_) ys
  rw [← List.append_assoc, wsum_snoc, ih, wsum_snoc, List.sum_append, List.length_append]
  simp [Int.mul_add, Int.add_mul]
  omega
theorem wsum_zeros : ∀ k : Nat, wsum (List.replicate k 0) = 0
  | 0 => rfl
  | k + 1 => by rw [List.replicate_succ', wsum_snoc, wsum_zeros k]; simp
/-- a comprehension of whole numbers f i, by the turn -/
def PvI (H : Hp) (f : Nat → Int) : Addr → Nat → List V → Hp → Prop := fun _ i acc H1 => Ex H H1 ∧ acc = ((List.range i).map f).map V.int
/-- the shape of a word -/
def shp (ns : List Int) : List Int := (List.range (ns.length - 1)).map fun (i : Nat) => if ns.getD i 0 ≤ ns.getD (i + 1) 0 then 1 else 0
theorem shp_len (ns : List Int) : (shp ns).length = ns.length - 1 := by unfold shp; simp
theorem shp_sg (ns : List Int) : ∀ n ∈ shp ns, 0 ≤ n ∧ n < 2 := fun n h => by
  obtain ⟨i, _, rfl⟩ := List.mem_map.mp h
  split <;> omega
/-- a many list's object -/
def ML (K : PySem.W.Frag) (H : Hp) (v : V) (q n a b : Int) : Prop := ∃ t, Ins K H v "ManyList" [("many_signs", .int q), ("many", .int n), ("both_left", .ref t)] ∧ SqT K H t [.int a, .int b]
theorem ML.mono {K : PySem.W.Frag} {H H' : Hp} {v : V} {q n a b : Int} (e : Ex H H') (h : ML K H v q n a b) : ML K H' v q n a b := by
  obtain ⟨t, h1, h2⟩ := h
  exact ⟨t, h1.mono e, Evl.ex_t e h2⟩
theorem ML.exB {K : PySem.W.Frag} {H H' : Hp} {v : V} {q n a b : Int} {p : Addr} {ys : List V} (e : ExB p H H') (hp : H p = some (.lst ys)) (h : ML K H v q n a b) : ML K H' v q n a b := by
  obtain ⟨t, h1, h2⟩ := h
  exact ⟨t, h1.exB e hp, exB_t e hp h2⟩
/-- a word's belonging to the many list -/
def inML (q n a b : Int) (w : List Int) : Bool := decide ((w.length : Int) = n) && decide ([wsum (shp w) % n, w.sum % q] = [a, b])
/-- a plain list's object -/
def PL (K : PySem.W.Frag) (H : Hp) (v : V) (n a : Int) : Prop := Ins K H v "PlainList" [("many", .int n), ("left", .int a)]
/-! lists of words -/
/-- x is a tuple of these whole numbers -/
def Wt (K : PySem.W.Frag) (H : Hp) (x : V) (w : List Int) : Prop := ∃ b, x = .ref b ∧ SqT K H b (w.map V.int)
theorem Wt.mono {K : PySem.W.Frag} {H H' : Hp} {x : V} {w : List Int} (e : Ex H H') (h : Wt K H x w) : Wt K H' x w := by
  obtain ⟨b, e1, h1⟩ := h
  exact ⟨b, e1, Evl.ex_t e h1⟩
theorem Wt.exB {K : PySem.W.Frag} {H H' : Hp} {x : V} {w : List Int} {p : Addr} {ys : List V} (e : ExB p H H') (hp : H p = some (.lst ys)) (h : Wt K H x w) : Wt K H' x w := by
  obtain ⟨b, e1, h1⟩ := h
  exact ⟨b, e1, exB_t e hp h1⟩
abbrev Wts (K : PySem.W.Frag) (H : Hp) : List V → List (List Int) → Prop := Paired (Wt K H)
theorem Wts.mono {K : PySem.W.Frag} {H H' : Hp} {xs : List V} {ws : List (List Int)} (e : Ex H H') (h : Wts K H xs ws) : Wts K H' xs ws := Paired.mapP h fun _ _ w => Wt.mono e w
theorem Wts.exB {K : PySem.W.Frag} {H H' : Hp} {xs : List V} {ws : List (List Int)} {p : Addr} {ys : List V} (e : ExB p H H') (hp : H p = some (.lst ys)) (h : Wts K H xs ws) : Wts K H' xs ws := Paired.mapP h fun _ _ w => Wt.exB e hp w
theorem pd_app {α β : Type} {F : α → β → Prop} : ∀ {xs xs' : List α} {ys ys' : List β}, Paired F xs ys → Paired F xs' ys' → Paired F (xs ++ xs') (ys ++ ys')
  | _, _, _, _, .nil, s => s
  | _, _, _, _, .cons r t, s => .cons r (pd_app t s)
theorem pd_at {α β : Type} {F : α → β → Prop} : ∀ {xs : List α} {ys : List β} {i : Nat} {x : α}, Paired F xs ys → xs[i]? = some x → ∃ y, ys[i]? = some y ∧ F x y
  | _, _, _, _, .nil, e => by simp at e
  | _, _, 0, _, .cons r _, e => by simp at e; subst e; exact ⟨_, rfl, r⟩
  | _, _, i + 1, x, .cons _ t, e => by
    obtain ⟨u, h1, h2⟩ := pd_at (i := i) (x := x) t (by simpa using e)
    exact ⟨u, by simpa using h1, h2⟩
theorem pd_at2 {α β : Type} {F : α → β → Prop} : ∀ {xs : List α} {ys : List β} {i : Nat} {y : β}, Paired F xs ys → ys[i]? = some y → ∃ x, xs[i]? = some x ∧ F x y
  | _, _, _, _, .nil, e => by simp at e
  | _, _, 0, _, .cons r _, e => by simp at e; subst e; exact ⟨_, rfl, r⟩
  | _, _, i + 1, x, .cons _ t, e => by
    obtain ⟨u, h1, h2⟩ := pd_at2 (i := i) (y := x) t (by simpa using e)
    exact ⟨u, by simpa using h1, h2⟩
theorem take_at {α : Type} {l : List α} {i : Nat} {x : α} (h : l[i]? = some x) : l.take (i + 1) = l.take i ++ [x] := by rw [List.take_succ, h]; rfl
/-- a word as data -/
def wD (w : List Int) : PyData := .tuple (w.map PyData.int)
theorem dp_words {K : PySem.W.Frag} {H : Hp} : ∀ {xs : List V} {ws : List (List Int)}, Wts K H xs ws → DpAll K H xs (ws.map wD)
  | _, _, .nil => .nil
  | _, _, .cons ⟨b, e, h⟩ t => by
    subst e
    exact .cons (.tup h (dp_ints _)) (dp_words t)
theorem lay_words : ∀ ws : List (List Int), PyData.canLayAll0 (ws.map wD) = true
  | [] => rfl
  | w :: ws => by
    show (PyData.canLay0 (wD w) && PyData.canLayAll0 (ws.map wD)) = true
    rw [lay_words ws, show PyData.canLay0 (wD w) = true from layT_ints w]; rfl
theorem depth_words : ∀ ws : List (List Int), PyData.depthAll (ws.map wD) ≤ 1
  | [] => by decide
  | w :: ws => by
    show max (PyData.depthAll (w.map PyData.int) + 1) (PyData.depthAll (ws.map wD)) ≤ 1
    have := depth_words ws
    rw [depth_ints]; omega
theorem shaped_words (ws : List (List Int)) : SeqAt.shaped (.list (ws.map wD)) = true := by
  show (PyData.canLayAll0 (ws.map wD) && decide (PyData.depthAll (ws.map wD) + 1 ≤ 64)) = true
  have := depth_words ws
  rw [lay_words, Bool.true_and]; exact decide_eq_true (by omega)
theorem eqv_words : ∀ xs ys : List (List Int), PyData.eqvAll (xs.map wD) (ys.map wD) = decide (xs = ys)
  | [], [] => by simp [PyData.eqvAll]
  | [], y :: ys => by simp [PyData.eqvAll]
  | x :: xs, [] => by simp [PyData.eqvAll]
  | x :: xs, y :: ys => by
    show (PyData.eqv (wD x) (wD y) && PyData.eqvAll (xs.map wD) (ys.map wD)) = _
    rw [eqv_words xs ys, show PyData.eqv (wD x) (wD y) = decide (x = y) from eqvT_ints x y]
    by_cases h1 : x = y <;> by_cases h2 : xs = ys <;> simp [h1, h2]
theorem eqvL_words (xs ys : List (List Int)) : PyData.eqv (.list (xs.map wD)) (.list (ys.map wD)) = decide (xs = ys) := by
  show PyData.eqvAll (xs.map wD) (ys.map wD) = _
  exact eqv_words xs ys
/-- all words of n signs over q -/
def allW (q : Nat) : Nat → List (List Int)
  | 0 => [[]]
  | n + 1 => (allW q n).flatMap fun w => (List.range q).map fun (s : Nat) => w ++ [((s : Nat) : Int)]
theorem fm_len {α β : Type} {f : α → List β} {m : Nat} : ∀ {l : List α}, (∀ a ∈ l, (f a).length = m) → (l.flatMap f).length = l.length * m
  | [], _ => by simp
  | a :: l, h => by
    rw [List.flatMap_cons, List.length_append, h a (by simp), fm_len fun b hb => h b (by simp [hb]), List.length_cons, Nat.succ_mul, Nat.add_comm]
theorem allW_len (q : Nat) : ∀ n, (allW q n).length = q ^ n
  | 0 => rfl
  | n + 1 => by
    show ((allW q n).flatMap fun w => (List.range q).map fun (s : Nat) => w ++ [((s : Nat) : Int)]).length = _
    rw [fm_len (m := q) fun a _ => by simp, allW_len q n, Nat.pow_succ]
theorem allW_mem {q : Nat} : ∀ {n : Nat} {w : List Int}, w ∈ allW q n ↔ w.length = n ∧ Sg q w
  | 0, w => by
    constructor
    · intro h
      rw [show w = [] from List.mem_singleton.mp h]
      exact ⟨rfl, Sg.nil⟩
    · rintro ⟨h, _⟩
      rw [List.eq_nil_of_length_eq_zero h]
      exact List.mem_singleton.mpr rfl
  | n + 1, w => by
    show w ∈ (allW q n).flatMap _ ↔ _
    rw [List.mem_flatMap]
    constructor
    · rintro ⟨u, hu, hw⟩
      obtain ⟨s, hs, rfl⟩ := List.mem_map.mp hw
      obtain ⟨h1, h2⟩ := allW_mem.mp hu
      have := List.mem_range.mp hs
      exact ⟨by simp [h1], h2.append fun z hz => by rw [List.mem_singleton] at hz; omega⟩
    · rintro ⟨h1, h2⟩
      have hne : w ≠ [] := fun e => by rw [e] at h1; simp at h1
      refine ⟨w.dropLast, allW_mem.mpr ⟨by simp [h1], fun z hz => h2 z ((List.dropLast_sublist w).subset hz)⟩, ?_⟩
      have hl := h2 _ (List.getLast_mem hne)
      refine List.mem_map.mpr ⟨(w.getLast hne).toNat, List.mem_range.mpr (by omega), ?_⟩
      rw [show (((w.getLast hne).toNat : Nat) : Int) = w.getLast hne by omega]
      exact List.dropLast_concat_getLast hne
/-- a word's belonging to the plain list of n, a -/
def inPL (n a : Int) (w : List Int) : Bool := decide ((w.length : Int) = n) && decide (wsum w % (n + 1) = a)
/-- a comprehension over a list of words with a test, each that meets it as it is -/
def PvF (K : PySem.W.Frag) (H : Hp) (p : List Int → Bool) (ws : List (List Int)) : Addr → Nat → List V → Hp → Prop := fun _ i acc H1 => Ex H H1 ∧ Wts K H1 acc ((ws.take i).filter p)
theorem l_lcW {K : PySem.W.Frag} {σ : L2.St} {H : Hp} {Q : VK} {tt : TT} {a : Addr} {xs : List V} {ws : List (List Int)} {j : Nat} {vs : List Nat} (p : List Int → Bool) (h : SqL K H a xs) (hW : Wts K H xs ws) (hz : xs.length < 100000) (hw : ∀ x, wipe ((wipe σ vs).set j (some x)) vs = wipe σ vs)
    (hv : ∀ x, ((wipe σ vs).set j (some x))[j]? = some (some x))
    (ht : ∀ x w H1, w ∈ ws → Wt K H1 x w → Ex H H1 → ∀ Q' : Bool → Hp → Prop, (∀ H2, Ex H1 H2 → Q' (p w) H2) → tt ((wipe σ vs).set j (some x)) H1 Q')
    (hd : ∀ D H1 acc, H D = none → Ex H H1 → H1 D = some (.lst acc) → Wts K H1 acc (ws.filter p) → Q (.ref D) H1) : LcK (gName j) tt (tVar j) vs (Itl K a) σ H Q := by
  refine l_lc walk_list (PvF K H p ws) (fun D H1 n e h1 => ⟨e, .nil⟩) (fun D i acc H1 _ _ p => Evl.ex_l p.1 h) (fun D i acc x H1 H2 hn hi h1 q y => ?_) (fun D acc H1 hn h1 q => ?_)
  · obtain ⟨rfl, hx⟩ := y
    obtain ⟨e, hq⟩ := q
    obtain ⟨w, hw2, hwt⟩ := pd_at hW hx
    refine ⟨hw x, ?_⟩
    refine ht x w _ (List.mem_of_getElem? hw2) (hwt.mono e) e _ fun H3 e3 => ?_
    refine ifb (fun c => ?_) (fun c => ?_)
    · refine w_var (hv x) ?_
      refine lc_end (Pv := PvF K H p ws) (e3 _ _ h1) (by
        have := Paired.length hq
        have h2 : ((ws.take i).filter p).length ≤ (ws.take i).length := List.length_filter_le ..
        rw [List.length_take] at h2
        omega) fun H6 e6 h6 => ⟨ExB.new (e.trans e3) e6 hn, ?_⟩
      rw [take_at hw2, List.filter_append, List.filter_cons, c]
      exact Wts.exB e6 (e3 _ _ h1) (pd_app (Wts.mono e3 hq) (.cons (hwt.mono (e.trans e3)) .nil))
    · refine lc_not (Pv := PvF K H p ws) (e3 _ _ h1) ⟨e.trans e3, ?_⟩
      rw [take_at hw2, List.filter_append, List.filter_cons, c]
      simpa using Wts.mono e3 hq
  · obtain ⟨e, hq⟩ := q
    rw [Paired.length hW, List.take_length] at hq
    exact hd D H1 acc hn e h1 hq
/-! rows of counts: j places (the last ones) to go, each sum's rest by `by` -/
def Dn (m n : Nat) : Nat → Int → Int
  | 0, r => if r = 0 then 1 else 0
  | j + 1, r => Dn m n j r + Dn m n j ((r - ((n - j : Nat) : Int)) % (m : Int))
def drow (m n j : Nat) : List Int := (List.range m).map fun (r : Nat) => Dn m n j (r : Int)
theorem drow_len (m n j : Nat) : (drow m n j).length = m := by unfold drow; simp
theorem drow_at {m n j : Nat} {r : Int} (h0 : 0 ≤ r) (h1 : r < m) : atI ((drow m n j).map V.int) r = some (.int (Dn m n j r)) := by
  rw [show r = ((r.toNat : Nat) : Int) by omega]
  refine atI_nat ?_
  unfold drow
  rw [List.getElem?_map, List.getElem?_map, List.getElem?_range (by omega)]
  rfl
/-- a list of rows at f, k by k: lists that H0 does not know -/
def Rows (H0 H : Hp) (f : Addr) (m n : Nat) (js : List Nat) (xs : List V) : Prop := Paired (fun x j => ∃ b, x = V.ref b ∧ b ≠ f ∧ H0 b = none ∧ H b = some (.lst ((drow m n j).map V.int))) xs js
theorem Rows.mono {H0 H H' : Hp} {f : Addr} {m n : Nat} {js : List Nat} {xs : List V} (e : Ex H H') (h : Rows H0 H f m n js xs) : Rows H0 H' f m n js xs := Paired.mapP h fun _ _ ⟨b, e1, n1, n2, h1⟩ => ⟨b, e1, n1, n2, e _ _ h1⟩
theorem Rows.exB {H0 H H' : Hp} {f : Addr} {m n : Nat} {js : List Nat} {xs : List V} (e : ExB f H H') (h : Rows H0 H f m n js xs) : Rows H0 H' f m n js xs := Paired.mapP h fun _ _ ⟨b, e1, n1, n2, h1⟩ => ⟨b, e1, n1, n2, e _ _ n1 h1⟩
theorem pd_rev {α β : Type} {F : α → β → Prop} : ∀ {xs : List α} {ys : List β}, Paired F xs ys → Paired F xs.reverse ys.reverse
  | _, _, .nil => .nil
  | _, _, .cons r t => by
    rw [List.reverse_cons, List.reverse_cons]
    exact pd_app (pd_rev t) (.cons r .nil)
theorem row0 (m n : Nat) (hm : 1 ≤ m) : [V.int 1] ++ (List.replicate (m - 1) [V.int 0]).flatten = (drow m n 0).map V.int := by
  obtain ⟨k, rfl⟩ : ∃ k, m = k + 1 := ⟨m - 1, by omega⟩
  unfold drow
  rw [List.range_succ_eq_map, List.flatten_replicate_singleton]
  simp only [List.map_cons, List.map_map, List.cons_append, List.nil_append, Nat.add_sub_cancel]
  show V.int 1 :: _ = V.int 1 :: _
  congr 1
  refine (List.eq_replicate_iff.mpr ⟨by simp, fun b hb => ?_⟩).symm
  obtain ⟨i, _, rfl⟩ := List.mem_map.mp hb
  have : ((i + 1 : Nat) : Int) ≠ 0 := by omega
  simp only [Function.comp]
  show V.int (if (((i + 1 : Nat)) : Int) = 0 then 1 else 0) = V.int 0
  rw [if_neg this]
/-! the same counts, the places in another order -/
def Tp (m : Nat) (p : Int) (f : Int → Int) : Int → Int := fun r => f r + f ((r - p) % (m : Int))
def Gp (m : Nat) : List Int → Int → Int
  | [] => fun r => if r = 0 then 1 else 0
  | p :: ps => Tp m p (Gp m ps)
theorem Tp_comm (m : Nat) (p q : Int) (f : Int → Int) : Tp m p (Tp m q f) = Tp m q (Tp m p f) := by
  funext r
  have e : ((r - p) % (m : Int) - q) % (m : Int) = ((r - q) % (m : Int) - p) % (m : Int) := by
    rw [Int.emod_sub_emod, Int.emod_sub_emod]
    congr 1
    omega
  unfold Tp
  show f r + f ((r - q) % m) + (f ((r - p) % m) + f (((r - p) % m - q) % m)) = f r + f ((r - p) % m) + (f ((r - q) % m) + f (((r - q) % m - p) % m))
  rw [e]
  omega
theorem Gp_perm (m : Nat) {l l' : List Int} (h : l.Perm l') : Gp m l = Gp m l' := by
  induction h with
  | nil => rfl
  | cons x _ ih => show Tp m x _ = Tp m x _; rw [ih]
  | swap x y l => exact Tp_comm m y x _
  | trans _ _ h1 h2 => exact h1.trans h2
def Fn (m : Nat) : Nat → Int → Int
  | 0, r => if r = 0 then 1 else 0
  | j + 1, r => Fn m j r + Fn m j ((r - ((j + 1 : Nat) : Int)) % (m : Int))
def frow (m j : Nat) : List Int := (List.range m).map fun (r : Nat) => Fn m j (r : Int)
theorem Fn_G (m : Nat) : ∀ j, Fn m j = Gp m (((List.range j).map fun (i : Nat) => ((i + 1 : Nat) : Int)).reverse)
  | 0 => rfl
  | j + 1 => by
    rw [List.range_succ, List.map_append, List.reverse_append]
    show Tp m ((j + 1 : Nat) : Int) (Fn m j) = Tp m ((j + 1 : Nat) : Int) _
    rw [Fn_G m j]; rfl
theorem Dn_G (m n : Nat) : ∀ j, Dn m n j = Gp m (((List.range j).map fun (i : Nat) => ((n - i : Nat) : Int)).reverse)
  | 0 => rfl
  | j + 1 => by
    rw [List.range_succ, List.map_append, List.reverse_append]
    show Tp m ((n - j : Nat) : Int) (Dn m n j) = Tp m ((n - j : Nat) : Int) _
    rw [Dn_G m n j]; rfl
theorem Dn_Fn (m n : Nat) : Dn m n n = Fn m n := by
  rw [Dn_G, Fn_G]
  refine Gp_perm m ?_
  have e : (List.range n).map (fun (i : Nat) => ((n - i : Nat) : Int)) = ((List.range n).map fun (i : Nat) => ((i + 1 : Nat) : Int)).reverse := by
    refine List.ext_getElem (by simp) fun i h1 h2 => ?_
    simp only [List.getElem_map, List.getElem_range, List.getElem_reverse, List.length_map, List.length_range]
    simp only [List.length_map, List.length_range] at h1
    omega
  rw [e]
  exact (List.reverse_perm _)
theorem drow_frow (n : Nat) : drow (n + 1) n n = frow (n + 1) n := by unfold drow frow; rw [Dn_Fn]
theorem frow_len (m j : Nat) : (frow m j).length = m := by unfold frow; simp
theorem frow_at {m j : Nat} {r : Int} (h0 : 0 ≤ r) (h1 : r < m) : atI ((frow m j).map V.int) r = some (.int (Fn m j r)) := by
  rw [show r = ((r.toNat : Nat) : Int) by omega]
  refine atI_nat ?_
  unfold frow
  rw [List.getElem?_map, List.getElem?_map, List.getElem?_range (by omega)]
  rfl
theorem frow0 (m : Nat) (hm : 1 ≤ m) : [V.int 1] ++ (List.replicate (m - 1) [V.int 0]).flatten = (frow m 0).map V.int := row0 m 0 hm
/-- how many of the words have a sum that leaves r by m -/
def cnt (m : Nat) (r : Int) (ws : List (List Int)) : Nat := ws.countP fun w => decide (wsum w % (m : Int) = r)
theorem countP_two {α β : Type} {p : β → Bool} {f g : α → β} : ∀ l : List α, (l.flatMap fun w => [f w, g w]).countP p = l.countP (fun w => p (f w)) + l.countP fun w => p (g w)
  | [] => rfl
  | a :: l => by
    rw [List.flatMap_cons, List.countP_append, countP_two l, List.countP_cons, List.countP_cons, List.countP_cons, List.countP_cons, List.countP_nil]
    omega
theorem cnt_Fn (m : Nat) (hm : 1 ≤ m) : ∀ (j : Nat) (r : Int), 0 ≤ r → r < m → ((cnt m r (allW 2 j) : Nat) : Int) = Fn m j r
  | 0, r, h0, h1 => by
    show ((([[]] : List (List Int)).countP _ : Nat) : Int) = if r = 0 then 1 else 0
    rw [List.countP_cons, List.countP_nil, wsum_nil, Int.zero_emod]
    by_cases h : r = 0
    · rw [if_pos h, h]; simp
    · rw [if_neg h, decide_eq_false (Ne.symm h)]; simp
  | j + 1, r, h0, h1 => by
    have e : allW 2 (j + 1) = (allW 2 j).flatMap fun w => [w ++ [0], w ++ [1]] := rfl
    unfold cnt
    rw [e, countP_two]
    show (((_ + _ : Nat)) : Int) = Fn m j r + Fn m j ((r - ((j + 1 : Nat) : Int)) % (m : Int))
    have q0 := Int.emod_nonneg (r - ((j + 1 : Nat) : Int)) (show (m : Int) ≠ 0 by omega)
    have q1 := Int.emod_lt_of_pos (r - ((j + 1 : Nat) : Int)) (show (0 : Int) < (m : Int) by omega)
    rw [← cnt_Fn m hm j r h0 h1, ← cnt_Fn m hm j _ q0 q1]
    have a1 : (allW 2 j).countP (fun w => decide (wsum (w ++ [0]) % (m : Int) = r)) = cnt m r (allW 2 j) := by
      unfold cnt
      refine List.countP_congr fun w _ => ?_
      rw [wsum_snoc, Int.mul_zero, Int.add_zero]
    have a2 : (allW 2 j).countP (fun w => decide (wsum (w ++ [1]) % (m : Int) = r)) = cnt m ((r - ((j + 1 : Nat) : Int)) % (m : Int)) (allW 2 j) := by
      unfold cnt
      refine List.countP_congr fun w hw => ?_
      have hl := (allW_mem.mp hw).1
      rw [wsum_snoc, Int.mul_one, hl, decide_eq_true_iff, decide_eq_true_iff]
      constructor
      · intro h
        rw [← h, Int.emod_sub_emod]
        congr 1
        omega
      · intro h
        have h' : wsum w % (m : Int) = (r - ((j + 1 : Nat) : Int)) % (m : Int) := h
        rw [← Int.emod_add_emod, h', Int.emod_add_emod]
        rw [show r - ((j + 1 : Nat) : Int) + ((j : Int) + 1) = r by omega]
        exact Int.emod_eq_of_lt h0 h1
    rw [a1, a2]
    omega
/-! members by their numbers: words from behind -/
def tsum (b : Int) (w : List Int) : Int := wsum w + b * w.sum
theorem tsum_cons (b s : Int) (w : List Int) : tsum b (s :: w) = (b + 1) * s + tsum (b + 1) w := by
  unfold tsum
  have h := wsum_append [s] w
  rw [show [s] ++ w = s :: w by rfl] at h
  have e : wsum [s] = s := by simp [wsum, List.range_succ]
  rw [h, e, List.sum_cons, Int.mul_add, Int.add_mul, Int.add_mul, Int.one_mul, Int.one_mul]
  simp
  omega
theorem tsum_nil (b : Int) : tsum b [] = 0 := by simp [tsum, wsum_nil]
theorem tsum_zero (w : List Int) : tsum 0 w = wsum w := by unfold tsum; omega
theorem modl {m : Nat} {r p t : Int} (h0 : 0 ≤ r) (h1 : r < m) : (p + t) % (m : Int) = r ↔ t % (m : Int) = (r - p) % (m : Int) := by
  constructor
  · intro h
    rw [← h, Int.emod_sub_emod]
    congr 1
    omega
  · intro h
    rw [Int.add_comm, ← Int.emod_add_emod, h, Int.emod_add_emod, show r - p + p = r by omega]
    exact Int.emod_eq_of_lt h0 h1
def memN (m n : Nat) : Nat → Int → Int → List Int
  | 0, _, _ => []
  | j + 1, r, k => if Dn m n j r ≤ k then 1 :: memN m n j ((r - ((n - j : Nat) : Int)) % (m : Int)) (k - Dn m n j r) else 0 :: memN m n j r k
def numN (m n : Nat) : List Int → Int → Int
  | [], _ => 0
  | s :: w, r => if s = 1 then Dn m n w.length r + numN m n w ((r - ((n - w.length : Nat) : Int)) % (m : Int)) else numN m n w r
theorem memN_ok (m n : Nat) (hm : 1 ≤ m) : ∀ j, j ≤ n → ∀ r k : Int, 0 ≤ r → r < m → 0 ≤ k → k < Dn m n j r → (memN m n j r k).length = j ∧ Sg 2 (memN m n j r k) ∧ tsum ((n - j : Nat) : Int) (memN m n j r k) % (m : Int) = r ∧ numN m n (memN m n j r k) r = k
  | 0, _, r, k, h0, h1, k0, k1 => by
    have k1' : k < if r = 0 then 1 else 0 := k1
    by_cases hr : r = 0
    · rw [if_pos hr] at k1'
      have : k = 0 := by omega
      subst this
      refine ⟨rfl, Sg.nil, ?_, rfl⟩
      show tsum _ [] % _ = _
      rw [tsum_nil, hr]; simp
    · rw [if_neg hr] at k1'; omega
  | j + 1, hj, r, k, h0, h1, k0, k1 => by
    have k1' : k < Dn m n j r + Dn m n j ((r - ((n - j : Nat) : Int)) % (m : Int)) := k1
    have q0 := Int.emod_nonneg (r - ((n - j : Nat) : Int)) (show (m : Int) ≠ 0 by omega)
    have q1 := Int.emod_lt_of_pos (r - ((n - j : Nat) : Int)) (show (0 : Int) < (m : Int) by omega)
    have en : (((n - (j + 1) : Nat)) : Int) + 1 = ((n - j : Nat) : Int) := by omega
    by_cases c : Dn m n j r ≤ k
    · obtain ⟨a1, a2, a3, a4⟩ := memN_ok m n hm j (by omega) _ (k - Dn m n j r) q0 q1 (by omega) (by omega)
      have e : memN m n (j + 1) r k = 1 :: memN m n j ((r - ((n - j : Nat) : Int)) % (m : Int)) (k - Dn m n j r) := if_pos c
      rw [e]
      refine ⟨by rw [List.length_cons, a1], fun x hx => ?_, ?_, ?_⟩
      · rcases List.mem_cons.mp hx with rfl | hx
        · omega
        · exact a2 x hx
      · rw [tsum_cons, en, Int.mul_one]
        exact (modl h0 h1).mpr a3
      · show (if (1 : Int) = 1 then _ else _) = _
        rw [if_pos rfl, a1, a4]; omega
    · obtain ⟨a1, a2, a3, a4⟩ := memN_ok m n hm j (by omega) r k h0 h1 k0 (by omega)
      have e : memN m n (j + 1) r k = 0 :: memN m n j r k := if_neg c
      rw [e]
      refine ⟨by rw [List.length_cons, a1], fun x hx => ?_, ?_, ?_⟩
      · rcases List.mem_cons.mp hx with rfl | hx
        · omega
        · exact a2 x hx
      · rw [tsum_cons, en, Int.mul_zero, Int.zero_add]
        exact a3
      · show (if (0 : Int) = 1 then _ else _) = _
        rw [if_neg (by decide), a4]
theorem Dn_nonneg (m n : Nat) : ∀ j r, 0 ≤ Dn m n j r
  | 0, r => by show 0 ≤ (if r = 0 then (1 : Int) else 0); split <;> decide
  | j + 1, r => Int.add_nonneg (Dn_nonneg m n j r) (Dn_nonneg m n j _)
theorem numN_ok (m n : Nat) (hm : 1 ≤ m) : ∀ w : List Int, w.length ≤ n → Sg 2 w → ∀ r : Int, 0 ≤ r → r < m → tsum ((n - w.length : Nat) : Int) w % (m : Int) = r → 0 ≤ numN m n w r ∧ numN m n w r < Dn m n w.length r ∧ memN m n w.length r (numN m n w r) = w
  | [], _, _, r, h0, h1, ht => by
    rw [tsum_nil] at ht
    have hr : r = 0 := by rw [← ht]; simp
    subst hr
    exact ⟨Int.le_refl _, by show (0 : Int) < (if (0 : Int) = 0 then 1 else 0); decide, rfl⟩
  | s :: w, hl, hs, r, h0, h1, ht => by
    rw [List.length_cons] at hl
    have en : (((n - (w.length + 1) : Nat)) : Int) + 1 = ((n - w.length : Nat) : Int) := by omega
    rw [List.length_cons, tsum_cons, en] at ht
    have q0 := Int.emod_nonneg (r - ((n - w.length : Nat) : Int)) (show (m : Int) ≠ 0 by omega)
    have q1 := Int.emod_lt_of_pos (r - ((n - w.length : Nat) : Int)) (show (0 : Int) < (m : Int) by omega)
    have hs0 := hs s (by simp)
    have hs1 : Sg 2 w := fun x hx => hs x (by simp [hx])
    have eD : Dn m n (w.length + 1) r = Dn m n w.length r + Dn m n w.length ((r - ((n - w.length : Nat) : Int)) % (m : Int)) := rfl
    by_cases c : s = 1
    · subst c
      rw [Int.mul_one] at ht
      obtain ⟨a1, a2, a3⟩ := numN_ok m n hm w (by omega) hs1 _ q0 q1 ((modl h0 h1).mp ht)
      have e : numN m n (1 :: w) r = Dn m n w.length r + numN m n w ((r - ((n - w.length : Nat) : Int)) % (m : Int)) := if_pos rfl
      rw [e, List.length_cons, eD]
      have d0 := Dn_nonneg m n w.length r
      refine ⟨by omega, by omega, ?_⟩
      have e2 : memN m n (w.length + 1) r (Dn m n w.length r + numN m n w ((r - ((n - w.length : Nat) : Int)) % (m : Int))) = 1 :: memN m n w.length ((r - ((n - w.length : Nat) : Int)) % (m : Int)) (Dn m n w.length r + numN m n w ((r - ((n - w.length : Nat) : Int)) % (m : Int)) - Dn m n w.length r) := if_pos (by omega)
      rw [e2, show ∀ x y : Int, x + y - x = y from fun x y => by omega, a3]
    · have c0 : s = 0 := by omega
      subst c0
      rw [Int.mul_zero, Int.zero_add] at ht
      obtain ⟨a1, a2, a3⟩ := numN_ok m n hm w (by omega) hs1 r h0 h1 ht
      have e : numN m n (0 :: w) r = numN m n w r := if_neg (by decide)
      rw [e, List.length_cons, eD]
      have d0 := Dn_nonneg m n w.length ((r - ((n - w.length : Nat) : Int)) % (m : Int))
      refine ⟨a1, by omega, ?_⟩
      have e2 : memN m n (w.length + 1) r (numN m n w r) = 0 :: memN m n w.length r (numN m n w r) := if_neg (by omega)
      rw [e2, a3]
/-- the same for whole words -/
theorem memN_all (n : Nat) (r k : Int) (h0 : 0 ≤ r) (h1 : r ≤ n) (k0 : 0 ≤ k) (k1 : k < Dn (n + 1) n n r) : (memN (n + 1) n n r k).length = n ∧ Sg 2 (memN (n + 1) n n r k) ∧ wsum (memN (n + 1) n n r k) % ((n : Int) + 1) = r ∧ numN (n + 1) n (memN (n + 1) n n r k) r = k := by
  obtain ⟨a1, a2, a3, a4⟩ := memN_ok (n + 1) n (by omega) n (Nat.le_refl _) r k h0 (by omega) k0 k1
  rw [Nat.sub_self, show (((0 : Nat)) : Int) = 0 by rfl, tsum_zero] at a3
  exact ⟨a1, a2, a3, a4⟩
theorem numN_all (n : Nat) (w : List Int) (r : Int) (h0 : 0 ≤ r) (h1 : r ≤ n) (hl : w.length = n) (hs : Sg 2 w) (hw : wsum w % ((n : Int) + 1) = r) : 0 ≤ numN (n + 1) n w r ∧ numN (n + 1) n w r < Dn (n + 1) n n r ∧ memN (n + 1) n n r (numN (n + 1) n w r) = w := by
  subst hl
  refine numN_ok (w.length + 1) w.length (by omega) w (Nat.le_refl _) hs r h0 (by omega) ?_
  rw [Nat.sub_self, show (((0 : Nat)) : Int) = 0 by rfl, tsum_zero]
  exact hw
theorem some_word (n : Nat) (a : Int) (h : 0 ≤ a ∧ a ≤ n) : ∃ w : List Int, w.length = n ∧ Sg 2 w ∧ wsum w = a := by
  have z : ∀ k : Nat, Sg 2 (List.replicate k (0 : Int)) := fun k x hx => by rw [(List.mem_replicate.mp hx).2]; omega
  by_cases ha : a = 0
  · exact ⟨List.replicate n 0, by simp, z n, by rw [wsum_zeros, ha]⟩
  · refine ⟨List.replicate (a.toNat - 1) 0 ++ [1] ++ List.replicate (n - a.toNat) 0, by simp; omega, ((z _).append fun x hx => by rw [List.mem_singleton] at hx; omega).append (z _), ?_⟩
    rw [wsum_append, wsum_append, wsum_zeros, wsum_zeros]
    have : wsum [1] = 1 := by decide
    rw [this]
    simp
    omega
theorem Dn_pos (n : Nat) (a : Int) (h : 0 ≤ a ∧ a ≤ n) : 0 < Dn (n + 1) n n a := by
  obtain ⟨w, h1, h2, h3⟩ := some_word n a h
  have := numN_all n w a h.1 h.2 h1 h2 (by rw [h3]; exact Int.emod_eq_of_lt h.1 (by omega))
  omega
/-! the words in their order -/
def twW : Nat → List (List Int)
  | 0 => [[]]
  | j + 1 => (twW j).map (0 :: ·) ++ (twW j).map (1 :: ·)
theorem twW_snoc : ∀ j, ((twW j).flatMap fun w => [w ++ [0], w ++ [1]]) = twW (j + 1)
  | 0 => rfl
  | j + 1 => by
    have h := twW_snoc j
    have e : ∀ s : Int, (((twW j).map (s :: ·)).flatMap fun w => [w ++ [0], w ++ [1]]) = (twW (j + 1)).map (s :: ·) := fun s => by
      rw [← h, List.flatMap_map, List.map_flatMap]
      rfl
    show ((((twW j).map (0 :: ·)) ++ ((twW j).map (1 :: ·))).flatMap _) = (twW (j + 1)).map (0 :: ·) ++ (twW (j + 1)).map (1 :: ·)
    rw [List.flatMap_append, e 0, e 1]
theorem allW_tw : ∀ n, allW 2 n = twW n
  | 0 => rfl
  | n + 1 => by
    rw [← twW_snoc n, ← allW_tw n]
    rfl
def mwW (m n j : Nat) (r : Int) : List (List Int) := (twW j).filter fun w => decide (tsum ((n - j : Nat) : Int) w % (m : Int) = r)
theorem mwW_succ (m n j : Nat) (hj : j < n) (r : Int) (h0 : 0 ≤ r) (h1 : r < m) : mwW m n (j + 1) r = (mwW m n j r).map (0 :: ·) ++ (mwW m n j ((r - ((n - j : Nat) : Int)) % (m : Int))).map (1 :: ·) := by
  have en : (((n - (j + 1) : Nat)) : Int) + 1 = ((n - j : Nat) : Int) := by omega
  unfold mwW
  show (((twW j).map (0 :: ·)) ++ ((twW j).map (1 :: ·))).filter _ = _
  rw [List.filter_append, List.filter_map, List.filter_map]
  congr 2
  · refine List.filter_congr fun w _ => ?_
    show decide (tsum _ (0 :: w) % _ = _) = _
    rw [tsum_cons, en, Int.mul_zero, Int.zero_add]
  · refine List.filter_congr fun w _ => ?_
    show decide (tsum _ (1 :: w) % _ = _) = _
    rw [tsum_cons, en, Int.mul_one, decide_eq_decide]
    exact modl h0 h1
theorem mwW_len (m n : Nat) (hm : 1 ≤ m) : ∀ j, j ≤ n → ∀ r : Int, 0 ≤ r → r < m → ((mwW m n j r).length : Int) = Dn m n j r
  | 0, _, r, h0, h1 => by
    show ((([[]] : List (List Int)).filter _).length : Int) = if r = 0 then 1 else 0
    rw [List.filter_cons, tsum_nil, Int.zero_emod, List.filter_nil]
    by_cases hr : r = 0
    · rw [if_pos hr, hr]; simp
    · rw [if_neg hr, decide_eq_false (Ne.symm hr)]; simp
  | j + 1, hj, r, h0, h1 => by
    have q0 := Int.emod_nonneg (r - ((n - j : Nat) : Int)) (show (m : Int) ≠ 0 by omega)
    have q1 := Int.emod_lt_of_pos (r - ((n - j : Nat) : Int)) (show (0 : Int) < (m : Int) by omega)
    have a := mwW_len m n hm j (by omega) r h0 h1
    have b := mwW_len m n hm j (by omega) _ q0 q1
    rw [mwW_succ m n j (by omega) r h0 h1, List.length_append, List.length_map, List.length_map]
    show _ = Dn m n j r + Dn m n j ((r - ((n - j : Nat) : Int)) % (m : Int))
    omega
theorem mwW_at (m n : Nat) (hm : 1 ≤ m) : ∀ j, j ≤ n → ∀ r : Int, 0 ≤ r → r < m → ∀ k : Nat, (k : Int) < Dn m n j r → (mwW m n j r)[k]? = some (memN m n j r (k : Int))
  | 0, _, r, h0, h1, k, hk => by
    have hl := mwW_len m n hm 0 (Nat.zero_le _) r h0 h1
    have hk' : (k : Int) < if r = 0 then 1 else 0 := hk
    by_cases hr : r = 0
    · rw [if_pos hr] at hk'
      have : k = 0 := by omega
      subst this
      show (([[]] : List (List Int)).filter _)[0]? = some []
      rw [List.filter_cons, tsum_nil, Int.zero_emod, List.filter_nil, hr]
      rfl
    · rw [if_neg hr] at hk'; omega
  | j + 1, hj, r, h0, h1, k, hk => by
    have q0 := Int.emod_nonneg (r - ((n - j : Nat) : Int)) (show (m : Int) ≠ 0 by omega)
    have q1 := Int.emod_lt_of_pos (r - ((n - j : Nat) : Int)) (show (0 : Int) < (m : Int) by omega)
    have hk' : (k : Int) < Dn m n j r + Dn m n j ((r - ((n - j : Nat) : Int)) % (m : Int)) := hk
    have hl := mwW_len m n hm j (by omega) r h0 h1
    rw [mwW_succ m n j (by omega) r h0 h1]
    by_cases c : Dn m n j r ≤ (k : Int)
    · have e : memN m n (j + 1) r (k : Int) = 1 :: memN m n j ((r - ((n - j : Nat) : Int)) % (m : Int)) ((k : Int) - Dn m n j r) := if_pos c
      rw [List.getElem?_append_right (by rw [List.length_map]; omega), List.length_map, List.getElem?_map, e]
      have ek : (((k - (mwW m n j r).length : Nat)) : Int) = (k : Int) - Dn m n j r := by omega
      rw [mwW_at m n hm j (by omega) _ q0 q1 _ (by omega), ek]
      rfl
    · have e : memN m n (j + 1) r (k : Int) = 0 :: memN m n j r (k : Int) := if_neg c
      rw [List.getElem?_append_left (by rw [List.length_map]; omega), List.getElem?_map, e, mwW_at m n hm j (by omega) r h0 h1 k (by omega)]
      rfl
theorem inPL_mw (n : Nat) (a : Int) : (allW 2 n).filter (inPL n a) = mwW (n + 1) n n a := by
  unfold mwW
  rw [← allW_tw]
  refine List.filter_congr fun w hw => ?_
  have hl := (allW_mem.mp hw).1
  unfold inPL
  rw [decide_eq_true (by omega), Bool.true_and, Nat.sub_self, show (((0 : Nat)) : Int) = 0 by rfl, tsum_zero, show (((n + 1 : Nat)) : Int) = (n : Int) + 1 by omega]
theorem due_len (n : Nat) (a : Int) (h : 0 ≤ a ∧ a ≤ n) : (((allW 2 n).filter (inPL n a)).length : Int) = Dn (n + 1) n n a := by
  rw [inPL_mw]
  exact mwW_len (n + 1) n (by omega) n (Nat.le_refl _) a h.1 (by omega)
theorem due_at (n : Nat) (a : Int) (h : 0 ≤ a ∧ a ≤ n) (k : Nat) (hk : (k : Int) < Dn (n + 1) n n a) : ((allW 2 n).filter (inPL n a))[k]? = some (memN (n + 1) n n a (k : Int)) := by
  rw [inPL_mw]
  exact mwW_at (n + 1) n (by omega) n (Nat.le_refl _) a h.1 (by omega) k hk
theorem row_at {H0 H : Hp} {f : Addr} {n i : Nat} {xs : List V} (h : Rows H0 H f (n + 1) n ((List.range (n + 1)).reverse) xs) (hi : i ≤ n) : ∃ b, atI xs ((i : Nat) : Int) = some (.ref b) ∧ H b = some (.lst ((drow (n + 1) n (n - i)).map V.int)) := by
  obtain ⟨x, hx, b, rfl, _, _, hb⟩ := pd_at2 h (i := i) (y := n - i) (by rw [List.getElem?_reverse (by rw [List.length_range]; omega), List.length_range, List.getElem?_range (by omega), show n + 1 - 1 - i = n - i by omega])
  exact ⟨b, atI_nat hx, hb⟩
theorem memN_go {m n i : Nat} {r k : Int} (hi : i < n) : memN m n (n - i) r k = if Dn m n (n - (i + 1)) r ≤ k then 1 :: memN m n (n - (i + 1)) ((r - ((i + 1 : Nat) : Int)) % (m : Int)) (k - Dn m n (n - (i + 1)) r) else 0 :: memN m n (n - (i + 1)) r k := by
  obtain ⟨j, e⟩ : ∃ j, n - i = j + 1 := ⟨n - i - 1, by omega⟩
  rw [e, show n - (i + 1) = j by omega, show i + 1 = n - j by omega]
  rfl
theorem l_insA {H : Hp} {Q : VK} {a : Addr} {xs : List V} {y : V} {i : Int} (h : H a = some (.lst xs)) (hz : xs.length < 100000) (hi : 0 ≤ i ∧ i < 1000000) (k : ∀ H', ExB a H H' → H' a = some (.lst (xs.take i.toNat ++ [y] ++ xs.drop i.toNat)) → Q .non H') : rInsP (.ref a) [.int i, y] H Q :=
  ⟨a, xs, i, y, rfl, rfl, h, szl hz, hi.1, by omega, k _ ExB.upd upd_same⟩
theorem eqvL_ints (xs ys : List Int) : PyData.eqv (.list (xs.map PyData.int)) (.list (ys.map PyData.int)) = decide (xs = ys) := by
  show PyData.eqvAll (xs.map PyData.int) (ys.map PyData.int) = _
  exact eqv_ints xs ys
theorem shapedL_ints (ns : List Int) : SeqAt.shaped (.list (ns.map PyData.int)) = true := by
  show (PyData.canLayAll0 (ns.map PyData.int) && decide (PyData.depthAll (ns.map PyData.int) + 1 ≤ 64)) = true
  rw [depth_ints, lay_ints]; rfl
/-- a strong list's object -/
def StL (K : PySem.W.Frag) (H : Hp) (v : V) (n a : Int) : Prop := Ins K H v "StrongList" [("many", .int n), ("left", .int a)]
/-- a word's belonging to the strong list of n, a -/
def inSL (n a : Int) (w : List Int) : Bool := decide ((w.length : Int) = n) && decide (wsum w % (2 * n) = a)
theorem l_neB {K : PySem.W.Frag} {H : Hp} {Q : VK} {a b : Bool} (k : Q (.bl (!decide (a = b))) H) : rNeP K (.bl a) (.bl b) H Q := .inl ⟨rfl, by rw [show decide (V.bl a = V.bl b) = decide (a = b) by simp]; exact k⟩
/-- a comprehension of signs over q, by the turn -/
def PvS (H : Hp) (q : Int) : Addr → Nat → List V → Hp → Prop := fun _ i acc H1 => Ex H H1 ∧ ∃ ns : List Int, acc = ns.map V.int ∧ ns.length = i ∧ Sg q ns
theorem Sg.one {q x : Int} (h : 0 ≤ x ∧ x < q) : Sg q [x] := fun n m => by rw [List.mem_singleton] at m; rw [m]; exact h
theorem sg_at {q : Int} {ns : List Int} {k : Nat} (h : Sg q ns) (hk : k < ns.length) : 0 ≤ ns.getD k 0 ∧ ns.getD k 0 < q := by
  refine h _ ?_
  rw [show ns.getD k 0 = ns[k] by simp [List.getD, hk]]
  exact List.getElem_mem hk
theorem at_get {ns : List Int} {k : Nat} (hk : k < ns.length) : atI (ns.map V.int) (k : Int) = some (.int (ns.getD k 0)) := atI_nat (by rw [List.getElem?_map]; simp [List.getD, hk])
theorem fresh_pot {H H1 H2 : Hp} {p r : Addr} (hp : Pot H1 p) (e : ExB p H H1) (e2 : Ex H1 H2) (n : H2 r = none) : H r = none := by
  cases h : H r with
  | none => rfl
  | some o =>
    exfalso
    obtain ⟨ys, hy⟩ := hp.lst
    by_cases z : r = p
    · subst z; rw [e2 _ _ hy] at n; cases n
    · rw [e2 _ _ (e _ _ z h)] at n; cases n
theorem Sg.reverse {q : Int} {xs : List Int} (h : Sg q xs) : Sg q xs.reverse := fun n m => h n (List.mem_reverse.mp m)
theorem ex_hide {p : Addr} {H H1 : Hp} (n : H p = none) (e : Ex H H1) : Ex H (hide p H1) := fun a o h => hide_at (ne_of_none h n) (e _ _ h)
theorem sql_hide {K : PySem.W.Frag} {H H1 : Hp} {p a : Addr} {xs : List V} (n : H p = none) (e : Ex H H1) (h : SqL K H a xs) : SqL K (hide p H1) a xs := by
  rcases h with (h | ⟨o, h⟩) | h
  · exact .inl (.inl (hide_at (ne_of_none h n) (e _ _ h)))
  · exact .inl (.inr ⟨o, hide_at (ne_of_none h n) (e _ _ h)⟩)
  · exact .inr h
theorem row_atM {H0 H : Hp} {f : Addr} {m n i : Nat} {xs : List V} (h : Rows H0 H f m n ((List.range (n + 1)).reverse) xs) (hi : i ≤ n) : ∃ b, atI xs ((i : Nat) : Int) = some (.ref b) ∧ H b = some (.lst ((drow m n (n - i)).map V.int)) := by
  obtain ⟨x, hx, b, rfl, _, _, hb⟩ := pd_at2 h (i := i) (y := n - i) (by rw [List.getElem?_reverse (by rw [List.length_range]; omega), List.length_range, List.getElem?_range (by omega), show n + 1 - 1 - i = n - i by omega])
  exact ⟨b, atI_nat hx, hb⟩
/-- the same for the words of strong lists -/
theorem memS_all (n : Nat) (hn : 1 ≤ n) (r k : Int) (h0 : 0 ≤ r) (h1 : r < 2 * (n : Int)) (k0 : 0 ≤ k) (k1 : k < Dn (2 * n) n n r) : (memN (2 * n) n n r k).length = n ∧ Sg 2 (memN (2 * n) n n r k) ∧ wsum (memN (2 * n) n n r k) % (2 * (n : Int)) = r ∧ numN (2 * n) n (memN (2 * n) n n r k) r = k := by
  obtain ⟨a1, a2, a3, a4⟩ := memN_ok (2 * n) n (by omega) n (Nat.le_refl _) r k h0 (by omega) k0 k1
  rw [Nat.sub_self, show (((0 : Nat)) : Int) = 0 by rfl, tsum_zero, show (((2 * n : Nat)) : Int) = 2 * (n : Int) by omega] at a3
  exact ⟨a1, a2, a3, a4⟩
theorem numS_all (n : Nat) (hn : 1 ≤ n) (w : List Int) (r : Int) (h0 : 0 ≤ r) (h1 : r < 2 * (n : Int)) (hl : w.length = n) (hs : Sg 2 w) (hw : wsum w % (2 * (n : Int)) = r) : 0 ≤ numN (2 * n) n w r ∧ numN (2 * n) n w r < Dn (2 * n) n n r ∧ memN (2 * n) n n r (numN (2 * n) n w r) = w := by
  subst hl
  refine numN_ok (2 * w.length) w.length (by omega) w (Nat.le_refl _) hs r h0 (by omega) ?_
  rw [Nat.sub_self, show (((0 : Nat)) : Int) = 0 by rfl, tsum_zero, show (((2 * w.length : Nat)) : Int) = 2 * (w.length : Int) by omega]
  exact hw
theorem inSL_mw (n : Nat) (a : Int) : (allW 2 n).filter (inSL n a) = mwW (2 * n) n n a := by
  unfold mwW
  rw [← allW_tw]
  refine List.filter_congr fun w hw => ?_
  have hl := (allW_mem.mp hw).1
  unfold inSL
  rw [decide_eq_true (by omega), Bool.true_and, Nat.sub_self, show (((0 : Nat)) : Int) = 0 by rfl, tsum_zero, show (((2 * n : Nat)) : Int) = 2 * (n : Int) by omega]
theorem dueS_len (n : Nat) (hn : 1 ≤ n) (a : Int) (h : 0 ≤ a ∧ a < 2 * (n : Int)) : (((allW 2 n).filter (inSL n a)).length : Int) = Dn (2 * n) n n a := by
  rw [inSL_mw]
  exact mwW_len (2 * n) n (by omega) n (Nat.le_refl _) a h.1 (by omega)
theorem dueS_at (n : Nat) (hn : 1 ≤ n) (a : Int) (h : 0 ≤ a ∧ a < 2 * (n : Int)) (k : Nat) (hk : (k : Int) < Dn (2 * n) n n a) : ((allW 2 n).filter (inSL n a))[k]? = some (memN (2 * n) n n a (k : Int)) := by
  rw [inSL_mw]
  exact mwW_at (2 * n) n (by omega) n (Nat.le_refl _) a h.1 (by omega) k hk
/-- from the first sign on that differs -/
def lexLt : List Int → List Int → Prop
  | x :: xs, y :: ys => x < y ∨ x = y ∧ lexLt xs ys
  | _, _ => False
theorem memN_lex (m n : Nat) (hm : 1 ≤ m) : ∀ j, ∀ r k k' : Int, 0 ≤ k → k < k' → k' < Dn m n j r → lexLt (memN m n j r k) (memN m n j r k')
  | 0, r, k, k', h0, h1, h2 => by
    have h2' : k' < if r = 0 then 1 else 0 := h2
    split at h2' <;> omega
  | j + 1, r, k, k', h0, h1, h2 => by
    have h2' : k' < Dn m n j r + Dn m n j ((r - ((n - j : Nat) : Int)) % (m : Int)) := h2
    by_cases c : Dn m n j r ≤ k
    · have e1 : memN m n (j + 1) r k = 1 :: memN m n j ((r - ((n - j : Nat) : Int)) % (m : Int)) (k - Dn m n j r) := if_pos c
      have e2 : memN m n (j + 1) r k' = 1 :: memN m n j ((r - ((n - j : Nat) : Int)) % (m : Int)) (k' - Dn m n j r) := if_pos (by omega)
      rw [e1, e2]
      exact .inr ⟨rfl, memN_lex m n hm j _ _ _ (by omega) (by omega) (by omega)⟩
    · have e1 : memN m n (j + 1) r k = 0 :: memN m n j r k := if_neg c
      by_cases c2 : Dn m n j r ≤ k'
      · have e2 : memN m n (j + 1) r k' = 1 :: memN m n j ((r - ((n - j : Nat) : Int)) % (m : Int)) (k' - Dn m n j r) := if_pos c2
        rw [e1, e2]
        exact .inl (by decide)
      · have e2 : memN m n (j + 1) r k' = 0 :: memN m n j r k' := if_neg c2
        rw [e1, e2]
        exact .inr ⟨rfl, memN_lex m n hm j _ _ _ h0 h1 (by omega)⟩
/-! rows of counts, quickly reckoned -/
def rstep (m p : Nat) (l : List Nat) : List Nat := List.zipWith (· + ·) l (l.drop (m - p) ++ l.take (m - p))
def rit (m : Nat) : Nat → List Nat
  | 0 => 1 :: List.replicate (m - 1) 0
  | j + 1 => rstep m (j + 1) (rit m j)
theorem rit_len (m : Nat) (hm : 1 ≤ m) : ∀ j, j < m → (rit m j).length = m
  | 0, _ => by simp [rit]; omega
  | j + 1, h => by
    show (List.zipWith _ _ _).length = m
    have := rit_len m hm j (by omega)
    rw [List.length_zipWith, List.length_append, List.length_drop, List.length_take, this]
    omega
theorem rit_at (m : Nat) (hm : 1 ≤ m) : ∀ (j : Nat), j < m → ∀ (i : Nat), i < m → (((rit m j).getD i 0 : Nat) : Int) = Fn m j (i : Int)
  | 0, _, i, hi => by
    show ((((1 :: List.replicate (m - 1) 0).getD i 0 : Nat)) : Int) = if (i : Int) = 0 then 1 else 0
    cases i with
    | zero => simp
    | succ i =>
      rw [if_neg (by omega), List.getD_cons_succ]
      by_cases h : i < m - 1
      · simp [List.getD, h]
      · simp [List.getD, h]
  | j + 1, h, i, hi => by
    have hl := rit_len m hm j (by omega)
    have ih := rit_at m hm j (by omega)
    show (((List.zipWith (· + ·) (rit m j) ((rit m j).drop (m - (j + 1)) ++ (rit m j).take (m - (j + 1)))).getD i 0 : Nat) : Int) = Fn m j (i : Int) + Fn m j (((i : Int) - ((j + 1 : Nat) : Int)) % (m : Int))
    have hg : ∀ k : Nat, k < m → (rit m j)[k]? = some ((rit m j).getD k 0) := fun k hk => by simp [List.getD, hl, hk]
    have e : (List.zipWith (· + ·) (rit m j) ((rit m j).drop (m - (j + 1)) ++ (rit m j).take (m - (j + 1)))).getD i 0 = (rit m j).getD i 0 + (rit m j).getD (if i < j + 1 then m - (j + 1) + i else i - (j + 1)) 0 := by
      rw [List.getD, List.getElem?_zipWith, hg i hi]
      by_cases c : i < j + 1
      · rw [List.getElem?_append_left (by rw [List.length_drop, hl]; omega), List.getElem?_drop, hg _ (by omega), if_pos c]
        rfl
      · rw [List.getElem?_append_right (by rw [List.length_drop, hl]; omega), List.length_drop, hl, List.getElem?_take, if_pos (by omega), show i - (m - (m - (j + 1))) = i - (j + 1) by omega, hg _ (by omega), if_neg c]
        rfl
    rw [e]
    show (((_ + _ : Nat)) : Int) = _
    have ex : ((i : Int) - ((j + 1 : Nat) : Int)) % (m : Int) = ((if i < j + 1 then m - (j + 1) + i else i - (j + 1) : Nat) : Int) := by
      split
      · rw [show ((i : Int) - ((j + 1 : Nat) : Int)) = ((m - (j + 1) + i : Nat) : Int) - (m : Int) by omega, Int.sub_emod_right]
        exact Int.emod_eq_of_lt (by omega) (by omega)
      · rw [show ((i : Int) - ((j + 1 : Nat) : Int)) = ((i - (j + 1) : Nat) : Int) by omega]
        exact Int.emod_eq_of_lt (by omega) (by omega)
    rw [ex, ← ih i hi, ← ih _ (by split <;> omega)]
    omega
theorem frow_ritM (m j : Nat) (hm : 1 ≤ m) (hj : j < m) : frow m j = (rit m j).map fun x => ((x : Nat) : Int) := by
  have hl := rit_len m hm j hj
  refine List.ext_getElem? fun i => ?_
  by_cases h1 : i < m
  · have := rit_at m hm j hj i h1
    unfold frow
    rw [List.getElem?_map, List.getElem?_map, List.getElem?_range h1]
    have e : (rit m j)[i]? = some ((rit m j).getD i 0) := by simp [List.getD, hl, h1]
    rw [e]
    show some (Fn m j (i : Int)) = some _
    rw [← this]
  · rw [List.getElem?_eq_none (by rw [frow_len]; omega), List.getElem?_eq_none (by rw [List.length_map, hl]; omega)]
theorem Dn_le (m n : Nat) : ∀ j r, Dn m n j r ≤ 2 ^ j
  | 0, r => by show (if r = 0 then (1 : Int) else 0) ≤ 1; split <;> decide
  | j + 1, r => by
    have a := Dn_le m n j r
    have b := Dn_le m n j ((r - ((n - j : Nat) : Int)) % (m : Int))
    show Dn m n j r + Dn m n j ((r - ((n - j : Nat) : Int)) % (m : Int)) ≤ _
    rw [Int.pow_succ]
    omega
theorem lexLt_le : ∀ (xs ys : List Int) (d : Nat) (us vs : List Int) (z : Bool), xs.length = ys.length → us.length = d → vs.length = d → lexLt xs ys → Ob.lexAt (fun j => decide ((vs ++ ys).getD j 0 = (us ++ xs).getD j 0)) (fun j => decide ((vs ++ ys).getD j 0 ≤ (us ++ xs).getD j 0)) z d ys.length = false
  | [], _, _, _, _, _, _, _, _, h => by cases ‹List Int› <;> exact h.elim
  | x :: xs, [], _, _, _, _, hl, _, _, _ => by simp at hl
  | x :: xs, y :: ys, d, us, vs, z, hl, hu, hv, h => by
    have ex : (us ++ x :: xs).getD d 0 = x := by rw [← hu]; simp [List.getD]
    have ey : (vs ++ y :: ys).getD d 0 = y := by rw [← hv]; simp [List.getD]
    rw [List.length_cons, Ob.lexAt_succ]
    simp only [ex, ey]
    rcases h with h | ⟨rfl, h⟩
    · rw [if_neg (by simp; omega)]
      exact decide_eq_false (by omega)
    · rw [if_pos (by simp)]
      have := lexLt_le xs ys (d + 1) (us ++ [x]) (vs ++ [x]) z (by simpa using hl) (by simp [hu]) (by simp [hv]) h
      rw [List.append_assoc, List.append_assoc] at this
      exact this
/-! words by their codes -/
theorem code_snoc (B : Int) : ∀ (w : List Int) (s : Int), TS.code B (w ++ [s]) = TS.code B w * B + s
  | [], s => by simp [TS.code]
  | d :: r, s => by
    show d * B ^ (r ++ [s]).length + TS.code B (r ++ [s]) = (d * B ^ r.length + TS.code B r) * B + s
    rw [code_snoc B r s, List.length_append, List.length_singleton, Int.pow_succ, Int.add_mul, Int.mul_assoc]
    omega
theorem range_flat (q : Nat) : ∀ a : Nat, ((List.range a).flatMap fun k => (List.range q).map fun s => k * q + s) = List.range (a * q)
  | 0 => by simp
  | a + 1 => by
    rw [List.range_succ, List.flatMap_append, range_flat q a, Nat.succ_mul, List.range_add]
    simp
theorem allW_codes (q : Nat) : ∀ n, (allW q n).map (TS.code (q : Int)) = (List.range (q ^ n)).map fun (k : Nat) => ((k : Nat) : Int)
  | 0 => rfl
  | n + 1 => by
    have ih := allW_codes q n
    have e1 : ∀ w : List Int, ((List.range q).map fun (s : Nat) => w ++ [((s : Nat) : Int)]).map (TS.code (q : Int)) = (fun c : Int => (List.range q).map fun (s : Nat) => c * (q : Int) + ((s : Nat) : Int)) (TS.code (q : Int) w) := fun w => by
      rw [List.map_map]
      exact List.map_congr_left fun s _ => code_snoc _ _ _
    have eL : ((allW q n).flatMap fun w => ((List.range q).map fun (s : Nat) => w ++ [((s : Nat) : Int)]).map (TS.code (q : Int))) = ((allW q n).map (TS.code (q : Int))).flatMap fun c => (List.range q).map fun (s : Nat) => c * (q : Int) + ((s : Nat) : Int) := by
      rw [List.flatMap_map]
      congr 1
      funext w
      exact e1 w
    show ((allW q n).flatMap fun w => (List.range q).map fun (s : Nat) => w ++ [((s : Nat) : Int)]).map (TS.code (q : Int)) = _
    rw [List.map_flatMap, eL, ih, List.flatMap_map, Nat.pow_succ, ← range_flat, List.map_flatMap]
    congr 1
    funext k
    rw [List.map_map]
    exact List.map_congr_left fun s _ => by simp
theorem allW_rise (q n : Nat) : (allW q n).Pairwise fun u v => TS.code (q : Int) u < TS.code (q : Int) v := by
  have h2 : ((allW q n).map (TS.code (q : Int))).Pairwise (· < ·) := by
    rw [allW_codes, List.pairwise_map]
    exact List.Pairwise.imp (fun h => by omega) List.pairwise_lt_range
  exact List.pairwise_map.mp h2
theorem rise_nodup {B : Int} {ws : List (List Int)} (h : ws.Pairwise fun u v => TS.code B u < TS.code B v) : ws.Nodup :=
  List.Pairwise.imp (fun h e => by rw [e] at h; omega) h
theorem allW_nodup (q n : Nat) : (allW q n).Nodup := rise_nodup (allW_rise q n)
theorem rise_eq {B : Int} : ∀ {vs us : List (List Int)}, us.Perm vs → us.Pairwise (fun u v => TS.code B u ≤ TS.code B v) → vs.Pairwise (fun u v => TS.code B u < TS.code B v) → us = vs
  | [], us, h, _, _ => List.Perm.eq_nil h
  | v :: vs, [], h, _, _ => absurd (List.Perm.length_eq h) (by simp)
  | v :: vs, u :: us, h, h1, h2 => by
    have hv := (h.mem_iff (a := v)).mpr (by simp)
    have hu := (h.mem_iff (a := u)).mp (by simp)
    have e : u = v := by
      rcases List.mem_cons.mp hv with e | hv
      · exact e.symm
      · rcases List.mem_cons.mp hu with e | hu
        · exact e
        · have a := (List.pairwise_cons.mp h1).1 v hv
          have b := (List.pairwise_cons.mp h2).1 u hu
          omega
    subst e
    rw [rise_eq h.cons_inv (List.pairwise_cons.mp h1).2 (List.pairwise_cons.mp h2).2]
/-- all lists together have each word just once -/
theorem part_perm {α : Type} [BEq α] [LawfulBEq α] (l : List α) (m : Nat) (f : α → Nat) (h : ∀ x ∈ l, f x < m) : ((List.range m).flatMap fun r => l.filter fun x => decide (f x = r)).Perm l := by
  refine List.perm_iff_count.mpr fun a => ?_
  by_cases ha : a ∈ l
  · have key : ∀ m, List.count a ((List.range m).flatMap fun r => l.filter fun x => decide (f x = r)) = if f a < m then List.count a l else 0 := by
      intro m
      induction m with
      | zero => simp
      | succ m ih =>
        rw [List.range_succ, List.flatMap_append, List.count_append, ih]
        simp only [List.flatMap_cons, List.flatMap_nil, List.append_nil]
        by_cases e : f a = m
        · rw [List.count_filter (by simpa using e), if_neg (by omega), if_pos (by omega), Nat.zero_add]
        · have : List.count a (l.filter fun x => decide (f x = m)) = 0 := List.count_eq_zero.mpr fun hm => e (by simpa using (List.mem_filter.mp hm).2)
          rw [this, Nat.add_zero]
          by_cases c : f a < m
          · rw [if_pos c, if_pos (by omega)]
          · rw [if_neg c, if_neg (by omega)]
    rw [key, if_pos (h a ha)]
  · rw [List.count_eq_zero.mpr ha, List.count_eq_zero.mpr]
    intro hm
    obtain ⟨r, _, hm⟩ := List.mem_flatMap.mp hm
    exact ha (List.mem_filter.mp hm).1
theorem fm_le {α β : Type} {f : α → List β} {m : Nat} : ∀ {l : List α}, (∀ a ∈ l, (f a).length ≤ m) → (l.flatMap f).length ≤ l.length * m
  | [], _ => by simp
  | a :: l, h => by
    have := h a (by simp)
    have := fm_le (l := l) fun b hb => h b (by simp [hb])
    rw [List.flatMap_cons, List.length_append, List.length_cons, Nat.succ_mul]
    omega
/-! sorted, of words -/
theorem ks_of {K : PySem.W.Frag} {H : Hp} : ∀ {xs : List V} {ws : List (List Int)}, Wts K H xs ws → ∃ ks : KS, xs = refsV ks ∧ ws = ks.map (·.2) ∧ ∀ p ∈ ks, SqT K H p.1 (p.2.map V.int)
  | _, _, .nil => ⟨[], rfl, rfl, fun _ h => by cases h⟩
  | _, _, .cons ⟨b, e, h⟩ t => by
    obtain ⟨ks, e1, e2, e3⟩ := ks_of t
    subst e
    refine ⟨(b, _) :: ks, by rw [e1]; rfl, by rw [e2]; rfl, fun p hp => ?_⟩
    rcases List.mem_cons.mp hp with rfl | hp
    · exact h
    · exact e3 p hp
theorem ks_wts {K : PySem.W.Frag} {H : Hp} : ∀ {ks : KS}, (∀ p ∈ ks, SqT K H p.1 (p.2.map V.int)) → Wts K H (refsV ks) (ks.map (·.2))
  | [], _ => .nil
  | p :: ks, h => .cons ⟨p.1, rfl, h p (by simp)⟩ (ks_wts fun q hq => h q (by simp [hq]))
/-- the words ws, each of d signs over B -/
def Wb (d : Nat) (B : Int) (ws : List (List Int)) : Prop := ∀ w ∈ ws, w.length = d ∧ Sg B w
theorem code_inj {B : Int} {d : Nat} {u v : List Int} (hu : u.length = d ∧ Sg B u) (hv : v.length = d ∧ Sg B v) (h : TS.code B u = TS.code B v) : u = v := by
  have key : ∀ (u v : List Int), u.length = v.length → Sg B u → Sg B v → TS.code B u = TS.code B v → u = v := by
    intro u
    induction u with
    | nil => intro v hl _ _ _; exact (List.eq_nil_of_length_eq_zero hl.symm).symm
    | cons x u ih =>
      intro v hl hu hv h
      cases v with
      | nil => simp at hl
      | cons y v =>
        have hl' : u.length = v.length := by simpa using hl
        have hu' : TS.Bd B u := fun m hm => hu m (List.mem_cons_of_mem _ hm)
        have hv' : TS.Bd B v := fun m hm => hv m (List.mem_cons_of_mem _ hm)
        rcases Int.lt_trichotomy x y with c | c | c
        · have := TS.code_lt hl' hu' hv' c; omega
        · subst c
          have h2 : x * B ^ u.length + TS.code B u = x * B ^ v.length + TS.code B v := h
          rw [hl'] at h2
          rw [ih v hl' hu' hv' (by omega)]
        · have := TS.code_lt hl'.symm hv' hu' c; omega
  exact key u v (by omega) hu.2 hv.2 h
theorem l_sortLW {K : PySem.W.Frag} {H : Hp} {Q : VK} {a : Addr} {xs : List V} {ws : List (List Int)} {d : Nat} {B : Int} (h : SqL K H a xs) (hW : Wts K H xs ws) (hb : Wb d B ws) (hd : 2 ≤ ws.length → 1 ≤ d)
    (k : ∀ ys us p H', us.Perm ws → us.Pairwise (fun u v => TS.code B u ≤ TS.code B v) → H p = none → Ex H H' → H' p = some (.lst ys) → Wts K H' ys us → Q (.ref p) H') : rSortA K [.ref a] H Q := by
  obtain ⟨ks, rfl, rfl, hk⟩ := ks_of hW
  refine .inl ⟨a, ks, d, B, rfl, h, fun p hp => ⟨hk p hp, hb p.2 (List.mem_map.mpr ⟨p, hp, rfl⟩)⟩, by rw [List.length_map] at hd; exact hd, fun ks' p pm hr hn => ?_⟩
  exact k (refsV ks') (ks'.map (·.2)) p _ (pm.map _) (List.pairwise_map.mpr hr) hn (Evl.Ex.new hn) upd_same (ks_wts fun q hq => Evl.ex_t (Evl.Ex.new hn) (hk q (pm.mem_iff.mp hq)))
/-- sorted(set(xs)): the words, each once, by their codes -/
theorem l_sortSetW {K : PySem.W.Frag} {H : Hp} {Q : VK} {a : Addr} {xs : List V} {ws : List (List Int)} {d : Nat} {B : Int} (h : SqL K H a xs) (hW : Wts K H xs ws) (hb : Wb d B ws) (hl : ws.length < 64)
    (k : ∀ ys us p H', (∀ w, w ∈ us ↔ w ∈ ws) → us.Pairwise (fun u v => TS.code B u < TS.code B v) → H p = none → Ex H H' → H' p = some (.lst ys) → Wts K H' ys us → Q (.ref p) H') : sortSetA K Q (.ref a) H := by
  obtain ⟨ks, rfl, rfl, hk⟩ := ks_of hW
  have hb' : ∀ p ∈ ks, p.2.length = d ∧ Sg B p.2 := fun p hp => hb p.2 (List.mem_map.mpr ⟨p, hp, rfl⟩)
  refine .inr ⟨a, ks, d, B, rfl, h, fun p hp => ⟨hk p hp, hb' p hp⟩, by rw [List.length_map] at hl; exact hl, fun ks' p sub all nd hr hn => ?_⟩
  refine k (refsV ks') (ks'.map (·.2)) p _ (fun w => ⟨fun m => ?_, fun m => ?_⟩) ?_ hn (Evl.Ex.new hn) upd_same (ks_wts fun q hq => Evl.ex_t (Evl.Ex.new hn) (hk q (sub q hq)))
  · obtain ⟨q, hq, rfl⟩ := List.mem_map.mp m
    exact List.mem_map.mpr ⟨q, sub q hq, rfl⟩
  · obtain ⟨q, hq, rfl⟩ := List.mem_map.mp m
    exact all q hq
  · have h1 : (ks'.map (·.2)).Pairwise fun u v => TS.code B u ≤ TS.code B v := List.pairwise_map.mpr hr
    have h2 : (ks'.map (·.2)).Pairwise fun u v => u ≠ v := nd
    refine List.Pairwise.imp_of_mem (fun {u v} hu hv h => ?_) (h1.and h2)
    obtain ⟨q, hq, rfl⟩ := List.mem_map.mp hu
    obtain ⟨r, hr2, rfl⟩ := List.mem_map.mp hv
    rcases Int.lt_or_eq_of_le h.1 with z | z
    · exact z
    · exact absurd (code_inj (hb' q (sub q hq)) (hb' r (sub r hr2)) z) h.2
/-! rings -/
def lostAt (w : List Int) (k : Nat) : List Int := w.take k ++ w.drop (k + 1)
def putAt (w : List Int) (k : Nat) (s : Int) : List Int := w.take k ++ [s] ++ w.drop k
def chgAt (w : List Int) (k : Nat) (s : Int) : List Int := w.take k ++ [s] ++ w.drop (k + 1)
def losts (w : List Int) : List (List Int) := (List.range w.length).map fun k => lostAt w k
def puts (q : Nat) (w : List Int) : List (List Int) := (List.range (w.length + 1)).flatMap fun k => (List.range q).map fun (s : Nat) => putAt w k ((s : Nat) : Int)
def chgs (q : Nat) (w : List Int) : List (List Int) := (List.range w.length).flatMap fun k => (List.range q).map fun (s : Nat) => chgAt w k ((s : Nat) : Int)
/-- us are the words ws, each once, by their codes -/
def Ring (B : Int) (us ws : List (List Int)) : Prop := (∀ w, w ∈ us ↔ w ∈ ws) ∧ us.Pairwise fun u v => TS.code B u < TS.code B v
theorem lostAt_len {w : List Int} {k : Nat} (h : k < w.length) : (lostAt w k).length = w.length - 1 := by
  unfold lostAt
  rw [List.length_append, List.length_take, List.length_drop]; omega
theorem putAt_len {w : List Int} {k : Nat} {s : Int} (h : k ≤ w.length) : (putAt w k s).length = w.length + 1 := by
  unfold putAt
  rw [List.length_append, List.length_append, List.length_take, List.length_drop, List.length_singleton]; omega
theorem chgAt_len {w : List Int} {k : Nat} {s : Int} (h : k < w.length) : (chgAt w k s).length = w.length := by
  unfold chgAt
  rw [List.length_append, List.length_append, List.length_take, List.length_drop, List.length_singleton]; omega
theorem sg_one {q s : Int} (h : 0 ≤ s ∧ s < q) : Sg q [s] := fun n m => by rw [List.mem_singleton] at m; omega
theorem lostAt_sg {q : Int} {w : List Int} {k : Nat} (h : Sg q w) : Sg q (lostAt w k) := (h.take k).append (h.drop (k + 1))
theorem putAt_sg {q : Int} {w : List Int} {k : Nat} {s : Int} (h : Sg q w) (hs : 0 ≤ s ∧ s < q) : Sg q (putAt w k s) := ((h.take k).append (sg_one hs)).append (h.drop k)
theorem chgAt_sg {q : Int} {w : List Int} {k : Nat} {s : Int} (h : Sg q w) (hs : 0 ≤ s ∧ s < q) : Sg q (chgAt w k s) := ((h.take k).append (sg_one hs)).append (h.drop (k + 1))
theorem mem_losts {w u : List Int} : u ∈ losts w ↔ ∃ k, k < w.length ∧ u = lostAt w k := by
  unfold losts
  rw [List.mem_map]
  exact ⟨fun ⟨k, h, e⟩ => ⟨k, List.mem_range.mp h, e.symm⟩, fun ⟨k, h, e⟩ => ⟨k, List.mem_range.mpr h, e.symm⟩⟩
theorem mem_puts {q : Nat} {w u : List Int} : u ∈ puts q w ↔ ∃ k s, k ≤ w.length ∧ (0 ≤ s ∧ s < (q : Int)) ∧ u = putAt w k s := by
  unfold puts
  rw [List.mem_flatMap]
  constructor
  · rintro ⟨k, h, m⟩
    obtain ⟨s, hs, e⟩ := List.mem_map.mp m
    have := List.mem_range.mp h
    have := List.mem_range.mp hs
    exact ⟨k, s, by omega, by omega, e.symm⟩
  · rintro ⟨k, s, h, hs, e⟩
    exact ⟨k, List.mem_range.mpr (by omega), List.mem_map.mpr ⟨s.toNat, List.mem_range.mpr (by omega), by rw [e]; congr 1; omega⟩⟩
theorem mem_chgs {q : Nat} {w u : List Int} : u ∈ chgs q w ↔ ∃ k s, k < w.length ∧ (0 ≤ s ∧ s < (q : Int)) ∧ u = chgAt w k s := by
  unfold chgs
  rw [List.mem_flatMap]
  constructor
  · rintro ⟨k, h, m⟩
    obtain ⟨s, hs, e⟩ := List.mem_map.mp m
    have := List.mem_range.mp h
    have := List.mem_range.mp hs
    exact ⟨k, s, by omega, by omega, e.symm⟩
  · rintro ⟨k, s, h, hs, e⟩
    exact ⟨k, List.mem_range.mpr (by omega), List.mem_map.mpr ⟨s.toNat, List.mem_range.mpr (by omega), by rw [e]; congr 1; omega⟩⟩
theorem losts_wb {q : Int} {w : List Int} (h : Sg q w) : Wb (w.length - 1) q (losts w) := fun u hu => by
  obtain ⟨k, hk, rfl⟩ := mem_losts.mp hu
  exact ⟨lostAt_len hk, lostAt_sg h⟩
theorem puts_wb {q : Nat} {w : List Int} (h : Sg q w) : Wb (w.length + 1) q (puts q w) := fun u hu => by
  obtain ⟨k, s, hk, hs, rfl⟩ := mem_puts.mp hu
  exact ⟨putAt_len hk, putAt_sg h hs⟩
theorem chgs_wb {q : Nat} {w : List Int} (h : Sg q w) : Wb w.length q (chgs q w) := fun u hu => by
  obtain ⟨k, s, hk, hs, rfl⟩ := mem_chgs.mp hu
  exact ⟨chgAt_len hk, chgAt_sg h hs⟩
theorem losts_len (w : List Int) : (losts w).length = w.length := by unfold losts; simp
theorem puts_len (q : Nat) (w : List Int) : (puts q w).length = (w.length + 1) * q := by
  unfold puts
  rw [fm_len (m := q) (fun k _ => by simp), List.length_range]
theorem chgs_len (q : Nat) (w : List Int) : (chgs q w).length = w.length * q := by
  unfold chgs
  rw [fm_len (m := q) (fun k _ => by simp), List.length_range]
/-- a sign is lost just where it can be put in -/
theorem put_lost {w : List Int} {k : Nat} (h : k < w.length) : w = putAt (lostAt w k) k (w.getD k 0) := by
  unfold putAt lostAt
  have e1 : (w.take k ++ w.drop (k + 1)).take k = w.take k := by rw [List.take_append_of_le_length (by simp; omega), List.take_take, Nat.min_self]
  have e2 : (w.take k ++ w.drop (k + 1)).drop k = w.drop (k + 1) := by
    rw [List.drop_append_of_le_length (by simp; omega), List.drop_of_length_le (by simp; omega), List.nil_append]
  rw [e1, e2]
  have e3 : w.getD k 0 = w[k] := by simp [List.getD, h]
  rw [e3, List.append_assoc, List.singleton_append, ← List.drop_eq_getElem_cons h, List.take_append_drop]
theorem lost_put {w : List Int} {k : Nat} {s : Int} (h : k ≤ w.length) : lostAt (putAt w k s) k = w := by
  unfold putAt lostAt
  rw [List.append_assoc, List.take_append_of_le_length (by simp; omega), List.take_take, Nat.min_self]
  rw [List.drop_append, List.drop_of_length_le (by simp; omega), List.nil_append, List.length_take, Nat.min_eq_left h, show k + 1 - k = 1 by omega]
  show w.take k ++ w.drop k = w
  exact List.take_append_drop k w
/-! one loss or one putting in: the word of a list that it was -/
theorem sum_bd : ∀ {xs : List Int}, Sg 2 xs → 0 ≤ xs.sum ∧ xs.sum ≤ xs.length
  | [], _ => by simp
  | x :: xs, h => by
    have a := h x (by simp)
    have b := sum_bd (xs := xs) fun n m => h n (by simp [m])
    rw [List.sum_cons, List.length_cons]
    omega
theorem sum_0 : ∀ {xs : List Int}, Sg 2 xs → xs.sum = 0 → xs = List.replicate xs.length 0
  | [], _, _ => rfl
  | x :: xs, h, e => by
    have a := h x (by simp)
    have hx : Sg 2 xs := fun n m => h n (by simp [m])
    have b := sum_bd hx
    rw [List.sum_cons] at e
    rw [List.length_cons, List.replicate_succ, ← sum_0 hx (by omega), show x = 0 by omega]
theorem sum_1 : ∀ {xs : List Int}, Sg 2 xs → xs.sum = xs.length → xs = List.replicate xs.length 1
  | [], _, _ => rfl
  | x :: xs, h, e => by
    have a := h x (by simp)
    have hx : Sg 2 xs := fun n m => h n (by simp [m])
    have b := sum_bd hx
    rw [List.sum_cons, List.length_cons] at e
    rw [List.length_cons, List.replicate_succ, ← sum_1 hx (by omega), show x = 1 by omega]
theorem wsum_putAt {x : List Int} {k : Nat} {s : Int} (h : k ≤ x.length) : wsum (putAt x k s) = wsum x + ((k : Int) + 1) * s + (x.drop k).sum := by
  have e1 : wsum x = wsum (x.take k) + wsum (x.drop k) + (k : Int) * (x.drop k).sum := by
    have := wsum_append (x.take k) (x.drop k)
    rw [List.take_append_drop, List.length_take, Nat.min_eq_left h] at this
    exact this
  unfold putAt
  rw [wsum_append, wsum_append, e1, List.length_append, List.length_take, Nat.min_eq_left h, show wsum [s] = s by simp [wsum, List.getD], show [s].sum = s by simp, List.length_singleton, Int.natCast_add, Int.add_mul, Int.add_mul]
  simp
  omega
theorem put_same {x : List Int} {i j : Nat} {s : Int} (hij : i ≤ j) (hj : j ≤ x.length) (h : (x.drop i).take (j - i) = List.replicate (j - i) s) : putAt x i s = putAt x j s := by
  have e1 : x.drop i = List.replicate (j - i) s ++ x.drop j := by
    rw [← h]
    have := (List.take_append_drop (j - i) (x.drop i)).symm
    rw [List.drop_drop, show i + (j - i) = j by omega] at this
    exact this
  have e2 : x.take j = x.take i ++ List.replicate (j - i) s := by
    rw [← h]
    have := List.take_add (l := x) (i := i) (j := j - i)
    rw [show i + (j - i) = j by omega] at this
    exact this
  unfold putAt
  rw [e1, e2, List.append_assoc, List.append_assoc, List.append_assoc, ← List.append_assoc [s], ← List.append_assoc (List.replicate (j - i) s)]
  congr 2
  rw [List.singleton_append, ← List.replicate_succ, ← List.replicate_succ']
theorem emod_sub_0 {a b m : Int} (h : a % m = b % m) (hm : 0 < m) (hl : -m < a - b) (hu : a - b < m) : a = b := by
  have := Int.emod_emod_of_dvd a (Int.dvd_refl m)
  have h2 : (a - b) % m = 0 := by rw [Int.sub_emod, h, Int.sub_self]; simp
  obtain ⟨c, hc⟩ := Int.dvd_of_emod_eq_zero h2
  have : c = 0 := by
    rcases Int.lt_trichotomy c 0 with z | z | z
    · have := Int.mul_le_mul_of_nonneg_left (show c ≤ -1 by omega) (show 0 ≤ m by omega)
      omega
    · exact z
    · have := Int.mul_le_mul_of_nonneg_left (show (1 : Int) ≤ c by omega) (show 0 ≤ m by omega)
      omega
  subst this
  omega
/-- two words of one plain list that come to one word by a loss each are one -/
theorem vt_put {x : List Int} {i j : Nat} {s t : Int} (hx : Sg 2 x) (hi : i ≤ x.length) (hj : j ≤ x.length) (hs : 0 ≤ s ∧ s < 2) (ht : 0 ≤ t ∧ t < 2) (h : wsum (putAt x i s) % ((x.length : Int) + 2) = wsum (putAt x j t) % ((x.length : Int) + 2)) : putAt x i s = putAt x j t := by
  have key : ∀ (i j : Nat) (s t : Int), i ≤ j → j ≤ x.length → (0 ≤ s ∧ s < 2) → (0 ≤ t ∧ t < 2) → wsum (putAt x i s) % ((x.length : Int) + 2) = wsum (putAt x j t) % ((x.length : Int) + 2) → putAt x i s = putAt x j t := by
    intro i j s t hij hj hs ht h
    rw [wsum_putAt (by omega), wsum_putAt hj] at h
    have eM : (x.drop i).sum = ((x.drop i).take (j - i)).sum + (x.drop j).sum := by
      rw [← List.sum_append]
      have := (List.take_append_drop (j - i) (x.drop i)).symm
      rw [List.drop_drop, show i + (j - i) = j by omega] at this
      rw [← this]
    have bM := sum_bd ((hx.drop i).take (j - i))
    have lM : ((x.drop i).take (j - i)).length = j - i := by rw [List.length_take, List.length_drop]; omega
    rw [lM] at bM
    have bJ := sum_bd (hx.drop j)
    rw [List.length_drop] at bJ
    have mz : Sg 2 ((x.drop i).take (j - i)) := (hx.drop i).take (j - i)
    generalize (x.drop j).sum = R at *
    have z0 := fun h => sum_0 mz h
    have z1 := fun h => sum_1 mz h
    rw [lM] at z0 z1
    have ps := fun h => put_same (x := x) (s := s) hij hj h
    generalize (x.drop i).take (j - i) = M at *
    have hs' : s = 0 ∨ s = 1 := by omega
    have ht' : t = 0 ∨ t = 1 := by omega
    rcases hs' with rfl | rfl <;> rcases ht' with rfl | rfl
    · have := emod_sub_0 h (by omega) (by omega) (by omega)
      exact ps (z0 (by omega))
    · have := emod_sub_0 h (by omega) (by omega) (by omega)
      omega
    · have := emod_sub_0 h (by omega) (by omega) (by omega)
      omega
    · have := emod_sub_0 h (by omega) (by omega) (by omega)
      exact ps (z1 (by omega))
  rcases Nat.le_total i j with c | c
  · exact key i j s t c hj hs ht h
  · exact (key j i t s c hi ht hs h.symm).symm
theorem vt_lost {n : Nat} {a : Int} {u v : List Int} {i j : Nat} (hu : inPL n a u = true) (hv : inPL n a v = true) (su : Sg 2 u) (sv : Sg 2 v) (hi : i < u.length) (hj : j < v.length) (h : lostAt u i = lostAt v j) : u = v := by
  unfold inPL at hu hv
  rw [Bool.and_eq_true, decide_eq_true_eq, decide_eq_true_eq] at hu hv
  have gu : 0 ≤ u.getD i 0 ∧ u.getD i 0 < 2 := by
    have : u.getD i 0 = u[i] := by simp [List.getD, hi]
    rw [this]; exact su _ (List.getElem_mem hi)
  have gv : 0 ≤ v.getD j 0 ∧ v.getD j 0 < 2 := by
    have : v.getD j 0 = v[j] := by simp [List.getD, hj]
    rw [this]; exact sv _ (List.getElem_mem hj)
  have lu := lostAt_len hi
  have lv := lostAt_len hj
  have pu := put_lost hi
  have pv := put_lost hj
  have wu := hu.2.trans hv.2.symm
  rw [pu, pv, ← h] at wu
  rw [pu, pv, ← h]
  refine vt_put (lostAt_sg su) (by omega) (by rw [h]; omega) gu gv ?_
  rw [show ((lostAt u i).length : Int) + 2 = (n : Int) + 1 by omega]
  exact wu
theorem lost_lost {y : List Int} {i j : Nat} (h : i < j) (hj : j < y.length) : lostAt (lostAt y i) (j - 1) = lostAt (lostAt y j) i := by
  unfold lostAt
  refine List.ext_getElem? fun k => ?_
  have g : ∀ (z : List Int) (a : Nat), a < z.length → (z.take a ++ z.drop (a + 1))[k]? = if k < a then z[k]? else z[k + 1]? := fun z a ha => by
    by_cases c : k < a
    · rw [if_pos c, List.getElem?_append_left (by simp; omega), List.getElem?_take, if_pos c]
    · rw [if_neg c, List.getElem?_append_right (by simp; omega), List.getElem?_drop, List.length_take, Nat.min_eq_left (by omega), show a + 1 + (k - a) = k + 1 by omega]
  have g' : ∀ (k a : Nat), a < y.length → (y.take a ++ y.drop (a + 1))[k]? = if k < a then y[k]? else y[k + 1]? := fun k a ha => by
    by_cases c : k < a
    · rw [if_pos c, List.getElem?_append_left (by simp; omega), List.getElem?_take, if_pos c]
    · rw [if_neg c, List.getElem?_append_right (by simp; omega), List.getElem?_drop, List.length_take, Nat.min_eq_left (by omega), show a + 1 + (k - a) = k + 1 by omega]
  have l1 : (y.take i ++ y.drop (i + 1)).length = y.length - 1 := lostAt_len (by omega)
  have l2 : (y.take j ++ y.drop (j + 1)).length = y.length - 1 := lostAt_len hj
  rw [g (y.take i ++ y.drop (i + 1)) (j - 1) (by omega), g (y.take j ++ y.drop (j + 1)) i (by omega), g' k i (by omega), g' (k + 1) i (by omega), g' k j hj, g' (k + 1) j hj]
  by_cases c1 : k < i
  · rw [if_pos (by omega), if_pos c1, if_pos c1, if_pos (by omega)]
  · by_cases c2 : k < j - 1
    · rw [if_pos c2, if_neg c1, if_neg c1, if_pos (by omega)]
    · rw [if_neg c2, if_neg (by omega), if_neg c1, if_neg (by omega)]
/-- two words of one plain list of which a word may have come by one putting in each are one -/
theorem vt_came {n : Nat} {a : Int} {y : List Int} {i j : Nat} (hu : inPL n a (lostAt y i) = true) (hv : inPL n a (lostAt y j) = true) (sy : Sg 2 y) (hi : i < y.length) (hj : j < y.length) : lostAt y i = lostAt y j := by
  rcases Nat.lt_trichotomy i j with c | c | c
  · exact vt_lost hu hv (lostAt_sg sy) (lostAt_sg sy) (by rw [lostAt_len hi]; omega) (by rw [lostAt_len hj]; omega) (lost_lost c hj)
  · rw [c]
  · exact (vt_lost hv hu (lostAt_sg sy) (lostAt_sg sy) (by rw [lostAt_len hj]; omega) (by rw [lostAt_len hi]; omega) (lost_lost c hi)).symm
/-- the words of n signs of which ws may have come, by a loss, by nothing, by a putting in -/
def cands (n : Nat) (ws : List Int) : List (List Int) := if (ws.length : Int) = (n : Int) - 1 then puts 2 ws else if ws.length = n then [ws] else losts ws
theorem cands_one {n : Nat} {a : Int} {ws u v : List Int} (hl : ws.length ≤ n + 1 ∧ n ≤ ws.length + 1) (sw : Sg 2 ws) (hu : u ∈ cands n ws) (hv : v ∈ cands n ws) (mu : inPL n a u = true) (mv : inPL n a v = true) : u = v := by
  unfold cands at hu hv
  split at hu
  · rename_i c
    rw [if_pos c] at hv
    obtain ⟨i, s, hi, hs, rfl⟩ := mem_puts.mp hu
    obtain ⟨j, t, hj, ht, rfl⟩ := mem_puts.mp hv
    exact vt_lost mu mv (putAt_sg sw hs) (putAt_sg sw ht) (by rw [putAt_len hi]; omega) (by rw [putAt_len hj]; omega) ((lost_put hi).trans (lost_put hj).symm)
  · rename_i c
    rw [if_neg c] at hv
    split at hu
    · rename_i c2
      rw [if_pos c2] at hv
      rw [List.mem_singleton] at hu hv
      rw [hu, hv]
    · rename_i c2
      rw [if_neg c2] at hv
      obtain ⟨i, hi, rfl⟩ := mem_losts.mp hu
      obtain ⟨j, hj, rfl⟩ := mem_losts.mp hv
      exact vt_came mu mv sw hi hj
/-- what mending tells of ws in the plain list of n, a -/
def Mend (K : PySem.W.Frag) (H : Hp) (n : Nat) (a : Int) (ws : List Int) (v : V) : Prop := (∃ u, Wt K H v u ∧ u ∈ cands n ws ∧ inPL n a u = true) ∨ (v = .non ∧ ∀ u ∈ cands n ws, inPL n a u = false)
theorem anyW (w : List Int) : ∀ us : List (List Int), ((us.map wD).any fun z => PyData.eqv z (.tuple (w.map PyData.int))) = decide (w ∈ us)
  | [] => by simp
  | u :: us => by
    rw [List.map_cons, List.any_cons, anyW w us, show PyData.eqv (wD u) (.tuple (w.map PyData.int)) = decide (u = w) from eqvT_ints u w]
    by_cases h1 : u = w <;> by_cases h2 : w ∈ us <;> simp [h1, h2]
    exact fun e => h1 e.symm
theorem l_inW {K : PySem.W.Frag} {H : Hp} {Q : VK} {x : V} {w : List Int} {p : Addr} {ys : List V} {us : List (List Int)} (hw : Wt K H x w) (hp : H p = some (.lst ys)) (hW : Wts K H ys us) (k : Q (.bl (decide (w ∈ us))) H) : rInA K x (.ref p) H Q := by
  obtain ⟨b, rfl, hb⟩ := hw
  exact l_inD (.tup hb (dp_ints w)) (.lst (SqL.of hp) (dp_words hW)) (shaped_ints w) (shaped_words us) (by rw [anyW]; exact k)
theorem l_notInW {K : PySem.W.Frag} {H : Hp} {Q : VK} {x : V} {w : List Int} {p : Addr} {ys : List V} {us : List (List Int)} (hw : Wt K H x w) (hp : H p = some (.lst ys)) (hW : Wts K H ys us) (k : Q (.bl (!decide (w ∈ us))) H) : rNotInA K x (.ref p) H Q := by
  obtain ⟨b, rfl, hb⟩ := hw
  exact l_notInD (.tup hb (dp_ints w)) (.lst (SqL.of hp) (dp_words hW)) (shaped_ints w) (shaped_words us) (by rw [anyW]; exact k)
theorem decB {i j : Bool} : decide (V.bl i = V.bl j) = decide (i = j) := by simp
theorem l_eqB {K : PySem.W.Frag} {H : Hp} {Q : VK} {i j : Bool} (k : Q (.bl (decide (i = j))) H) : rEqP K (.bl i) (.bl j) H Q := .inl ⟨rfl, by rw [decB]; exact k⟩
/-! exact words (what may be a dict's key), dicts by words -/
def Wx (H : Hp) (x : V) (w : List Int) : Prop := ∃ b, x = .ref b ∧ H b = some (.tup (w.map V.int))
theorem Wx.mono {H H' : Hp} {x : V} {w : List Int} (e : Ex H H') (h : Wx H x w) : Wx H' x w := by
  obtain ⟨b, rfl, h⟩ := h
  exact ⟨b, rfl, e _ _ h⟩
theorem Wx.wt {K : PySem.W.Frag} {H : Hp} {x : V} {w : List Int} (h : Wx H x w) : Wt K H x w := by
  obtain ⟨b, rfl, h⟩ := h
  exact ⟨b, rfl, SqT.of h⟩
theorem Wx.exB {H H' : Hp} {x : V} {w : List Int} {p : Addr} {o : HO} (e : ExB p H H') (hp : H p = some o) (ho : ∀ zs, o ≠ .tup zs) (h : Wx H x w) : Wx H' x w := by
  obtain ⟨b, rfl, h⟩ := h
  exact ⟨b, rfl, e _ _ (fun z => by subst z; rw [hp] at h; exact ho _ (Option.some.inj h)) h⟩
abbrev Wxs (H : Hp) : List V → List (List Int) → Prop := Paired (Wx H)
theorem Wxs.mono {H H' : Hp} {xs : List V} {ws : List (List Int)} (e : Ex H H') (h : Wxs H xs ws) : Wxs H' xs ws := Paired.mapP h fun _ _ w => Wx.mono e w
theorem Wxs.wts {K : PySem.W.Frag} {H : Hp} {xs : List V} {ws : List (List Int)} (h : Wxs H xs ws) : Wts K H xs ws := Paired.mapP h fun _ _ w => Wx.wt w
theorem Wxs.exB {H H' : Hp} {xs : List V} {ws : List (List Int)} {p : Addr} {o : HO} (e : ExB p H H') (hp : H p = some o) (ho : ∀ zs, o ≠ .tup zs) (h : Wxs H xs ws) : Wxs H' xs ws := Paired.mapP h fun _ _ w => Wx.exB e hp ho w
theorem Wxs.lst {H H' : Hp} {xs ys : List V} {ws : List (List Int)} {p : Addr} (e : ExB p H H') (hp : H p = some (.lst ys)) (h : Wxs H xs ws) : Wxs H' xs ws := h.exB e hp fun _ z => by cases z
theorem l_addX {K : PySem.W.Frag} {H : Hp} {Q : VK} {a b : Addr} {xs ys : List V} (h1 : H a = some (.tup xs)) (h2 : H b = some (.tup ys)) (hz : xs.length + ys.length ≤ 100000) (k : ∀ p H', Ex H H' → H' p = some (.tup (xs ++ ys)) → Q (.ref p) H') : rAddP K (.ref a) (.ref b) H Q := by
  refine .inr (.inl ⟨a, b, xs, ys, rfl, rfl, SqT.of h1, SqT.of h2, sz hz, fun e => ?_, fun _ e => ?_, fun _ _ p hp => ?_⟩)
  · subst e; exact k _ _ (Evl.Ex.refl _) h2
  · subst e; exact k _ _ (Evl.Ex.refl _) (by rw [List.append_nil]; exact h1)
  · exact k _ _ (Evl.Ex.new hp) upd_same
theorem l_slX {K : PySem.W.Frag} {H : Hp} {Q : VK} {a : Addr} {xs : List V} {lo hi : Option Int} (h : H a = some (.tup xs)) (k : ∀ p H', Ex H H' → H' p = some (.tup (cutV xs lo hi)) → Q (.ref p) H') : rSlP K (.ref a) lo hi H Q := by
  refine .inr ⟨a, xs, rfl, SqT.of h, fun e => ?_, fun _ p hp => k _ _ (Evl.Ex.new hp) upd_same⟩
  refine k _ _ (Evl.Ex.refl _) ?_
  have : cutV xs lo hi = xs := by unfold cutV; rw [e.1, e.2]; simp
  rw [this]; exact h
theorem l_mulX {K : PySem.W.Frag} {H : Hp} {Q : VK} {a : Addr} {xs : List V} {m : Int} (h1 : H a = some (.tup xs)) (hn : xs ≠ []) (hx : xs.length ≤ 1000) (hk : 1 ≤ m ∧ m ≤ 1000) (k : ∀ p H', Ex H H' → H' p = some (.tup (List.replicate m.toNat xs).flatten) → Q (.ref p) H') : rMulP K (.ref a) (.int m) H Q := by
  by_cases e : m = 1
  · subst e
    exact .inr (.inl ⟨a, 1, xs, rfl, rfl, SqT.of h1, rfl, k _ _ (Evl.Ex.refl _) (by simpa using h1)⟩)
  · exact .inr (.inr (.inl ⟨a, m, xs, rfl, rfl, SqT.of h1, hn, by omega, hk.2, hx, fun p hp => k _ _ (Evl.Ex.new hp) upd_same⟩))
theorem Pot.apart {H : Hp} {p a : Addr} {xs : List V} (hp : Pot H p) (h : H a = some (.tup xs)) : a ≠ p := fun z => by
  obtain ⟨_, hq⟩ := hp.lst
  rw [z, hq] at h
  cases h
abbrev DM := List (List Int × V)
def dmK (m : DM) : List (List Key × V) := m.map fun p => (p.1.map Sum.inl, p.2)
def DW (H : Hp) (d : Addr) (m : DM) : Prop := H d = some (.dT (dmK m))
theorem valV_dmK (w : List Int) : ∀ m : DM, valV (dmK m) (w.map Sum.inl) = valV m w
  | [] => rfl
  | p :: m => by
    by_cases e : p.1 = w
    · rw [valV_pos e, show dmK (p :: m) = (p.1.map Sum.inl, p.2) :: dmK m from rfl, valV_pos (by rw [e])]
    · rw [valV_neg e, show dmK (p :: m) = (p.1.map Sum.inl, p.2) :: dmK m from rfl, valV_neg (fun z => e (map_inl _ _ z))]
      exact valV_dmK w m
theorem putK_dmK (w : List Int) (v : V) (m : DM) : putK (dmK m) (w.map Sum.inl) v = dmK (putK m w v) := by
  have ea : ((dmK m).any fun kv => decide (kv.1 = w.map Sum.inl)) = (m.any fun kv => decide (kv.1 = w)) := by
    rw [valV_any, valV_any, valV_dmK]
  unfold putK
  rw [ea]
  split
  · unfold dmK
    rw [List.map_map, List.map_map]
    refine List.map_congr_left fun p _ => ?_
    show (if p.1.map Sum.inl = w.map Sum.inl then (p.1.map Sum.inl, v) else (p.1.map Sum.inl, p.2)) = _
    by_cases e : p.1 = w
    · rw [if_pos (by rw [e])]; simp [e]
    · rw [if_neg (fun z => e (map_inl _ _ z))]; simp [e]
  · unfold dmK
    rw [List.map_append]
    rfl
theorem keys_put {κ : Type} [DecidableEq κ] (m : List (κ × V)) (k : κ) (v : V) : (putK m k v).map (·.1) = if k ∈ m.map (·.1) then m.map (·.1) else m.map (·.1) ++ [k] := by
  unfold putK
  by_cases h : k ∈ m.map (·.1)
  · have : (m.any fun kv => decide (kv.1 = k)) = true := by
      obtain ⟨p, hp, e⟩ := List.mem_map.mp h
      exact List.any_eq_true.mpr ⟨p, hp, decide_eq_true e⟩
    rw [if_pos this, if_pos h, List.map_map]
    refine List.map_congr_left fun p _ => ?_
    show (if p.1 = k then (p.1, v) else p).1 = p.1
    split <;> rfl
  · have : ¬ (m.any fun kv => decide (kv.1 = k)) = true := fun z => by
      obtain ⟨p, hp, e⟩ := List.any_eq_true.mp z
      exact h (List.mem_map.mpr ⟨p, hp, of_decide_eq_true e⟩)
    rw [if_neg this, if_neg h, List.map_append]
    rfl
/-- the keys of m are ws, each once -/
def Keys (m : DM) (ws : List (List Int)) : Prop := (∀ w, w ∈ m.map (·.1) ↔ w ∈ ws) ∧ (m.map (·.1)).Nodup
theorem Keys.nil : Keys [] [] := ⟨fun _ => Iff.rfl, List.nodup_nil⟩
theorem Keys.put {m : DM} {ws : List (List Int)} (h : Keys m ws) (w : List Int) (v : V) : Keys (putK m w v) (ws ++ [w]) := by
  unfold Keys
  rw [keys_put]
  by_cases e : w ∈ m.map (·.1)
  · rw [if_pos e]
    refine ⟨fun u => ?_, h.2⟩
    rw [h.1 u, List.mem_append, List.mem_singleton]
    exact ⟨.inl, fun z => z.elim id fun z => z ▸ (h.1 w).mp e⟩
  · rw [if_neg e]
    refine ⟨fun u => by rw [List.mem_append, List.mem_append, h.1 u], List.nodup_append.mpr ⟨h.2, by simp, fun a ha b hb z => ?_⟩⟩
    rw [List.mem_singleton] at hb
    subst hb
    subst z
    exact e ha
theorem nodup_len_le {α : Type} [BEq α] [LawfulBEq α] : ∀ {l D : List α}, l.Nodup → (∀ x ∈ l, x ∈ D) → l.length ≤ D.length
  | [], _, _, _ => Nat.zero_le _
  | x :: l, D, nd, sub => by
    rw [List.nodup_cons] at nd
    have hx := sub x (by simp)
    have h := nodup_len_le (l := l) (D := D.erase x) nd.2 fun y hy => (List.mem_erase_of_ne (fun z => by subst z; exact nd.1 hy)).mpr (sub y (by simp [hy]))
    have e := List.length_erase_of_mem hx
    have p := List.length_pos_of_mem hx
    simp only [List.length_cons]
    omega
theorem Keys.len {m : DM} {ws : List (List Int)} (h : Keys m ws) : m.length ≤ ws.length := by
  have := nodup_len_le h.2 fun w hw => (h.1 w).mp hw
  rwa [List.length_map] at this
theorem Keys.val {m : DM} {ws : List (List Int)} (h : Keys m ws) (w : List Int) : (valV m w).isSome = decide (w ∈ ws) := by
  rw [← valV_any]
  have : (m.any fun kv => decide (kv.1 = w)) = decide (w ∈ m.map (·.1)) := by
    rw [Bool.eq_iff_iff, List.any_eq_true, decide_eq_true_eq, List.mem_map]
    exact ⟨fun ⟨p, hp, e⟩ => ⟨p, hp, of_decide_eq_true e⟩, fun ⟨p, hp, e⟩ => ⟨p, hp, decide_eq_true e⟩⟩
  rw [this]
  exact decide_eq_decide.mpr (h.1 w)
theorem mapKV (w : List Int) : w.map V.int = (w.map (Sum.inl (β := Str))).map kV := by rw [List.map_map]; rfl
section
variable {K : PySem.W.Frag} {H : Hp} {Q : VK} {d b : Addr} {m : DM} {w : List Int} {v : V}
theorem w_dnew {σ : L2.St} (k : ∀ p H', H p = none → Ex H H' → DW H' p [] → Q (.ref p) H') : tDNewT σ H Q := fun p hp => k p _ hp (Evl.Ex.new hp) upd_same
theorem l_dput {R : Hp → Prop} (h : DW H d m) (hw : H b = some (.tup (w.map V.int))) (hl : m.length < 100000) (k : ∀ H', ExB d H H' → DW H' d (putK m w v) → R H') : rSetA (.ref d) (.ref b) v H R := by
  refine .inr ⟨d, _, rfl, DPut.t (k := w.map Sum.inl) h (by rw [← mapKV]; exact hw) (by unfold dmK; rw [List.length_map]; exact szl hl), k _ ExB.upd ?_⟩
  show upd H d _ d = _
  rw [upd_same, putK_dmK]
theorem DW.get (h : DW H d m) (hw : H b = some (.tup (w.map V.int))) : DGet H d (.ref b) (valV m w) := by
  have := DGet.t (k := w.map Sum.inl) h (by rw [← mapKV]; exact hw)
  rwa [valV_dmK] at this
theorem l_din (h : DW H d m) (hw : H b = some (.tup (w.map V.int))) (k : Q (.bl (valV m w).isSome) H) : rInA K (.ref b) (.ref d) H Q := .inr (.inr ⟨d, _, rfl, h.get hw, k⟩)
theorem l_dnotin (h : DW H d m) (hw : H b = some (.tup (w.map V.int))) (k : Q (.bl (!(valV m w).isSome)) H) : rNotInA K (.ref b) (.ref d) H Q := .inr (.inr ⟨d, _, rfl, h.get hw, k⟩)
theorem l_dix (h : DW H d m) (hw : H b = some (.tup (w.map V.int))) (hv : valV m w = some v) (k : Q v H) : rIxA K (.ref d) (.ref b) H Q := .inr ⟨d, v, rfl, by rw [← hv]; exact h.get hw, k⟩
theorem l_dlen (h : DW H d m) (k : Q (.int (m.length : Nat)) H) : rLenQ K [.ref d] H Q := .inr ⟨d, _, rfl, h, by unfold dmK; rw [List.length_map]; exact k⟩
theorem DW.mono {H' : Hp} (e : Ex H H') (h : DW H d m) : DW H' d m := e _ _ h
theorem DW.fresh {p : Addr} (h : DW H d m) (n : H p = none) : d ≠ p := ne_of_none h n
end
theorem ks_wxs {H : Hp} : ∀ {ks : KS}, (∀ q ∈ ks, H q.1 = some (.tup (q.2.map V.int))) → Wxs H (refsV ks) (ks.map (·.2))
  | [], _ => .nil
  | p :: ks, h => .cons ⟨p.1, rfl, h p (by simp)⟩ (ks_wxs fun q hq => h q (by simp [hq]))
/-- sorted(d): the keys, by their codes -/
theorem l_sortDW {K : PySem.W.Frag} {H : Hp} {Q : VK} {a : Addr} {m : DM} {ws : List (List Int)} {d : Nat} {B : Int} (h : DW H a m) (hk : Keys m ws) (hb : Wb d B ws) (hd : 2 ≤ ws.length → 1 ≤ d)
    (k : ∀ ys us p H', Ring B us ws → H p = none → Ex H H' → H' p = some (.lst ys) → Wxs H' ys us → Q (.ref p) H') : rSortA K [.ref a] H Q := by
  have hb' : ∀ w ∈ m.map (·.1), w.length = d ∧ Sg B w := fun w hw => hb w ((hk.1 w).mp hw)
  refine .inr ⟨a, dmK m, m.map (·.1), d, B, rfl, .inl h, by unfold dmK; rw [List.map_map, List.map_map]; rfl, hb', fun h2 => hd ?_, fun ks' p pm hw hr hn => ?_⟩
  · have := hk.len
    rw [List.length_map] at h2
    omega
  · refine k (refsV ks') (ks'.map (·.2)) p _ ⟨fun w => ?_, ?_⟩ hn (Evl.Ex.new hn) upd_same (ks_wxs fun q hq => (Evl.Ex.new hn) _ _ (hw q hq))
    · rw [pm.mem_iff, hk.1 w]
    · have h1 : (ks'.map (·.2)).Pairwise fun u v => TS.code B u ≤ TS.code B v := List.pairwise_map.mpr hr
      have h2 : (ks'.map (·.2)).Pairwise fun u v => u ≠ v := pm.nodup_iff.mpr hk.2
      refine List.Pairwise.imp_of_mem (fun {u v} hu hv h => ?_) (h1.and h2)
      rcases Int.lt_or_eq_of_le h.1 with z | z
      · exact z
      · exact absurd (code_inj (hb' u (pm.mem_iff.mp hu)) (hb' v (pm.mem_iff.mp hv)) z) h.2
/-- the same over exact words -/
def PvFx (H : Hp) (p : List Int → Bool) (ws : List (List Int)) : Addr → Nat → List V → Hp → Prop := fun _ i acc H1 => Ex H H1 ∧ Wxs H1 acc ((ws.take i).filter p)
theorem l_lcX {K : PySem.W.Frag} {σ : L2.St} {H : Hp} {Q : VK} {tt : TT} {a : Addr} {xs : List V} {ws : List (List Int)} {j : Nat} {vs : List Nat} (p : List Int → Bool) (h : SqL K H a xs) (hW : Wxs H xs ws) (hz : xs.length < 100000) (hw : ∀ x, wipe ((wipe σ vs).set j (some x)) vs = wipe σ vs)
    (hv : ∀ x, ((wipe σ vs).set j (some x))[j]? = some (some x))
    (ht : ∀ x w H1, w ∈ ws → Wx H1 x w → Ex H H1 → ∀ Q' : Bool → Hp → Prop, (∀ H2, Ex H1 H2 → Q' (p w) H2) → tt ((wipe σ vs).set j (some x)) H1 Q')
    (hd : ∀ D H1 acc, H D = none → Ex H H1 → H1 D = some (.lst acc) → Wxs H1 acc (ws.filter p) → Q (.ref D) H1) : LcK (gName j) tt (tVar j) vs (Itl K a) σ H Q := by
  refine l_lc walk_list (PvFx H p ws) (fun D H1 n e h1 => ⟨e, .nil⟩) (fun D i acc H1 _ _ p => Evl.ex_l p.1 h) (fun D i acc x H1 H2 hn hi h1 q y => ?_) (fun D acc H1 hn h1 q => ?_)
  · obtain ⟨rfl, hx⟩ := y
    obtain ⟨e, hq⟩ := q
    obtain ⟨w, hw2, hwt⟩ := pd_at hW hx
    refine ⟨hw x, ?_⟩
    refine ht x w _ (List.mem_of_getElem? hw2) (hwt.mono e) e _ fun H3 e3 => ?_
    refine ifb (fun c => ?_) (fun c => ?_)
    · refine w_var (hv x) ?_
      refine lc_end (Pv := PvFx H p ws) (e3 _ _ h1) (by
        have := Paired.length hq
        have h2 : ((ws.take i).filter p).length ≤ (ws.take i).length := List.length_filter_le ..
        rw [List.length_take] at h2
        omega) fun H6 e6 h6 => ⟨ExB.new (e.trans e3) e6 hn, ?_⟩
      rw [take_at hw2, List.filter_append, List.filter_cons, c]
      exact Wxs.lst e6 (e3 _ _ h1) (pd_app (Wxs.mono e3 hq) (.cons (hwt.mono (e.trans e3)) .nil))
    · refine lc_not (Pv := PvFx H p ws) (e3 _ _ h1) ⟨e.trans e3, ?_⟩
      rw [take_at hw2, List.filter_append, List.filter_cons, c]
      simpa using Wxs.mono e3 hq
  · obtain ⟨e, hq⟩ := q
    rw [Paired.length hW, List.take_length] at hq
    exact hd D H1 acc hn e h1 hq
theorem notN_non : (!decide (V.non = V.non)) = false := by simp
theorem notN_ref {a : Addr} : (!decide (V.ref a = V.non)) = true := by simp
theorem isN_non : decide (V.non = V.non) = true := by simp
theorem isN_ref {a : Addr} : decide (V.ref a = V.non) = false := by simp
/-! list.count of flat values; {k: v} -/
def rCntF (K : PySem.W.Frag) : V → List V → Hp → VK → Prop := fun x xs H Q => ∃ (a : Addr) (ys : List V) (y : V), x = .ref a ∧ xs = [y] ∧ SqL K H a ys ∧ flatV y = true ∧ ys.all flatV = true ∧ Q (.int ((ys.countP fun z => eqV z y : Nat))) H
theorem count_rel {y : V} {uy : Value} (ry : RelV y uy) : ∀ {ys : List V} {us : List Value}, Vals ys us → ys.all flatV = true → us.countP (eqU y) = ys.countP fun z => eqV z y
  | _, _, .nil, _ => rfl
  | z :: ys, u :: us, .cons r t, f => by
    rw [List.all_cons, Bool.and_eq_true] at f
    rw [List.countP_cons, List.countP_cons, count_rel ry t f.2, eqU_of r f.1]
theorem mt_countK {X : Cx} {K : PySem.W.Frag} (h : X.K = K) : MtR X "list.count" (rCntF K) := by
  subst h
  intro pins s σ H x xs v us Q I rx rxs h
  obtain ⟨a, ys, y, rfl, rfl, hs, fy, fys, q⟩ := h
  cases rx
  cases rxs with
  | cons ry rt =>
    rename_i uy ut
    cases rt
    obtain ⟨its, rv, ⟨⟨cls, dd, data, sl⟩, n, ho, hc, hdn, hd⟩, hlen⟩ := I.list hs
    simp only at hc hd
    subst hc hd
    refine call_meets PySem.F.slot_list_count ⟨_, ho, rfl⟩ PySem.F.entry_list_count (PySem.F.args_list_count_2 _ _)
      (SeqAt.list_countAt a its.toArray n dd sl uy (eqU y)) ⟨ho, fun u' hu' => mem_eqAt ry fy rv fys u' (by simpa using hu'), ?_⟩
    refine ⟨.int ((its.toArray.toList.countP (eqU y) : Nat) : Int), H, I.tok _, ⟨s.toks, rfl⟩, ?_⟩
    rw [show its.toArray.toList = its from rfl, count_rel ry rv fys]
    exact q
theorem l_cntB {K : PySem.W.Frag} {H : Hp} {Q : VK} {a : Addr} {bs : List Bool} {b : Bool} (h : SqL K H a (bs.map V.bl)) (k : Q (.int ((bs.count b : Nat))) H) : rCntF K (.ref a) [.bl b] H Q := by
  refine ⟨a, _, _, rfl, rfl, h, rfl, List.all_eq_true.mpr fun x hx => by obtain ⟨_, _, rfl⟩ := List.mem_map.mp hx; rfl, ?_⟩
  have e : (bs.map V.bl).countP (fun z => eqV z (.bl b)) = bs.count b := by
    rw [List.countP_map]
    rfl
  rw [e]
  exact k
def tDict1 (tk tv : TE) : TE := fun σ H Q => ∀ p, H p = none → tk σ (upd H p (.dT [])) fun x H1 => tv σ H1 fun y H2 => ∃ b k, H2 p = some (.dT []) ∧ x = .ref b ∧ H2 b = some (.tup (k.map kV)) ∧ Q (.ref p) (upd H2 p (.dT [(k, y)]))
theorem pe_dict1 {X : Cx} {k v : Expr} {tk tv : TE} {pos : Pos} (hu : X.A.units + 65 < cLine) (hk : PE X k tk) (hv : PE X v tv) : PE X (.Dict [some k] [v] pos) (tDict1 tk tv) := by
  refine ⟨fun pins s σ H Q I q => ?_⟩
  have hn := I.hok.fresh (Nat.le_refl s.heap.objs.size)
  have I1 := I.laid (a := s.heap.objs.size) (o := .dT []) (h' := s.heap.push { cls := .type "dict", data := .dict #[] }) (t' := s.toks) (fun _ _ q => Heap.get?_push_of_some _ q) (Nat.le_refl _) (dt_empty s.heap I.big)
  have hru : (tupleKind (mixKind X.prog X.w)).room X.A := (show X.A.units < cLine by omega)
  rw [arm_eval_Dict, zip_pairTrees [some k] [v] X.env pos rfl rfl, dictDisplay_pairs (pairTrees [some k] [v] X.env pos) (fun z => by have := congrArg List.length z; rw [pairTrees_length _ _ _ _ rfl rfl] at this; cases this) (by rw [pairTrees_length _ _ _ _ rfl rfl]; simp)]
  refine wpAny_bind (wpAny_standAt (wpAny_bind (wpAny_subDictH (knd := tupleKind (mixKind X.prog X.w)) hru (by rw [pairTrees_length _ _ _ _ rfl rfl]; simp) (pairTrees_cons_walk
    (thn (hk.run pins _ σ _ _ I1 (q _ hn)) fun u s1 ⟨x, H1, I2, rx, q1⟩ => thn (hv.run pins s1 σ H1 _ I2 q1) fun w2 s2 ⟨y, H2, I3, ry, q2⟩ => pairTrees_nil_walk ?_)))))
  obtain ⟨b, kk, hp, rfl, hb, q3⟩ := q2
  cases rx
  obtain ⟨z, hd, xs, rel, dd⟩ := dt_of I3.hok hp
  cases rel
  refine ⟨[(kk, b, w2)], ⟨rfl, rfl, key_of I3.hok hb, trivial⟩, dd, fun h' tk dd' hs => wpAny_pure ?_⟩
  obtain ⟨o, es, ep, hq, h2, h3, h4, _, h5⟩ := dd'
  refine ⟨.ref s.heap.objs.size, upd H2 s.heap.objs.size (.dT [(kk, y)]), d_write I3 (by rw [hp]; exact True.intro) hs ⟨o, hq⟩ ⟨sz (by simp), hd, [(kk, b, w2)], .cons ⟨rfl, ?_, ry⟩ .nil, o, es, ep, hq, h2, h3, h4, h5⟩, rfl, q3⟩
  rw [upd_ne (ne_of hb hp (fun z => nomatch z))]
  exact hb
theorem w_dict1 {tk tv : TE} {σ : L2.St} {H : Hp} {Q : VK} (k : ∀ p H1, H p = none → Ex H H1 → DW H1 p [] → tk σ H1 fun x H2 => tv σ H2 fun y H3 => ∃ b w, DW H3 p [] ∧ x = .ref b ∧ H3 b = some (.tup (w.map V.int)) ∧ ∀ H4, ExB p H3 H4 → DW H4 p [(w, y)] → Q (.ref p) H4) (mk : ∀ {σ H P Q}, (∀ x H1, P x H1 → Q x H1) → tk σ H P → tk σ H Q) (mv : ∀ {σ H P Q}, (∀ x H1, P x H1 → Q x H1) → tv σ H P → tv σ H Q) : tDict1 tk tv σ H Q := fun p hp => by
  refine mk (fun x H1 h => mv (fun y H2 h => ?_) h) (k p _ hp (Evl.Ex.new hp) upd_same)
  obtain ⟨b, w, h1, rfl, h2, h3⟩ := h
  refine ⟨b, w.map Sum.inl, h1, rfl, by rw [← mapKV]; exact h2, h3 _ ExB.upd upd_same⟩
/-! strong lists: no two members come to one word -/
theorem vt_putM {x : List Int} {M : Int} {i j : Nat} {s t : Int} (hM : (x.length : Int) + 2 ≤ M) (hx : Sg 2 x) (hi : i ≤ x.length) (hj : j ≤ x.length) (hs : 0 ≤ s ∧ s < 2) (ht : 0 ≤ t ∧ t < 2) (h : wsum (putAt x i s) % M = wsum (putAt x j t) % M) : putAt x i s = putAt x j t := by
  refine vt_put hx hi hj hs ht ?_
  have bd : ∀ (k : Nat) (s : Int), k ≤ x.length → (0 ≤ s ∧ s < 2) → wsum x ≤ wsum (putAt x k s) ∧ wsum (putAt x k s) ≤ wsum x + ((x.length : Int) + 1) := fun k s hk hs => by
    rw [wsum_putAt hk]
    have b := sum_bd (hx.drop k)
    rw [List.length_drop] at b
    have hs' : s = 0 ∨ s = 1 := by omega
    rcases hs' with rfl | rfl <;> omega
  have b1 := bd i s hi hs
  have b2 := bd j t hj ht
  rw [emod_sub_0 h (by omega) (by omega) (by omega)]
theorem st_lost {n : Nat} (hn : 1 ≤ n) {a : Int} {u v : List Int} {i j : Nat} (hu : inSL n a u = true) (hv : inSL n a v = true) (su : Sg 2 u) (sv : Sg 2 v) (hi : i < u.length) (hj : j < v.length) (h : lostAt u i = lostAt v j) : u = v := by
  unfold inSL at hu hv
  rw [Bool.and_eq_true, decide_eq_true_eq, decide_eq_true_eq] at hu hv
  have lu := lostAt_len hi
  have lv := lostAt_len hj
  have pu := put_lost hi
  have pv := put_lost hj
  have wu := hu.2.trans hv.2.symm
  rw [pu, pv, ← h] at wu
  rw [pu, pv, ← h]
  exact vt_putM (M := 2 * (n : Int)) (by omega) (lostAt_sg su) (by omega) (by rw [h]; omega) (sg_at su hi) (sg_at sv hj) wu
theorem st_came {n : Nat} (hn : 1 ≤ n) {a : Int} {y : List Int} {i j : Nat} (hu : inSL n a (lostAt y i) = true) (hv : inSL n a (lostAt y j) = true) (sy : Sg 2 y) (hi : i < y.length) (hj : j < y.length) : lostAt y i = lostAt y j := by
  rcases Nat.lt_trichotomy i j with c | c | c
  · exact st_lost hn hu hv (lostAt_sg sy) (lostAt_sg sy) (by rw [lostAt_len hi]; omega) (by rw [lostAt_len hj]; omega) (lost_lost c hj)
  · rw [c]
  · exact (st_lost hn hv hu (lostAt_sg sy) (lostAt_sg sy) (by rw [lostAt_len hj]; omega) (by rw [lostAt_len hi]; omega) (lost_lost c hi)).symm
theorem split_at {w : List Int} {k : Nat} (h : k < w.length) : w = w.take k ++ [w.getD k 0] ++ w.drop (k + 1) := by
  rw [List.append_assoc]
  have e : [w.getD k 0] ++ w.drop (k + 1) = w.drop k := by
    rw [List.drop_eq_getElem_cons h]
    simp [List.getD, h]
  rw [e, List.take_append_drop]
theorem chg_self {w : List Int} {k : Nat} (h : k < w.length) : chgAt w k (w.getD k 0) = w := (split_at h).symm
theorem chg_back {w : List Int} {k : Nat} {s : Int} (hk : k < w.length) : chgAt (chgAt w k s) k (w.getD k 0) = w := by
  have lt : (w.take k).length = k := by rw [List.length_take]; omega
  have h1 : (chgAt w k s).take k = w.take k := by
    unfold chgAt
    rw [List.append_assoc, List.take_append_of_le_length (by omega), List.take_of_length_le (by omega)]
  have h2 : (chgAt w k s).drop (k + 1) = w.drop (k + 1) := by
    unfold chgAt
    have l2 : (w.take k ++ [s]).length = k + 1 := by simp; omega
    rw [← l2, List.drop_left]
  have e : chgAt (chgAt w k s) k (w.getD k 0) = (chgAt w k s).take k ++ [w.getD k 0] ++ (chgAt w k s).drop (k + 1) := rfl
  rw [e, h1, h2]
  exact chg_self hk
theorem wsum_chgAt {w : List Int} {k : Nat} {s : Int} (h : k < w.length) : wsum (chgAt w k s) = wsum w + ((k : Int) + 1) * (s - w.getD k 0) := by
  have key : ∀ s : Int, wsum (w.take k ++ [s] ++ w.drop (k + 1)) = wsum (w.take k) + ((k : Int) + 1) * s + wsum (w.drop (k + 1)) + ((k : Int) + 1) * (w.drop (k + 1)).sum := fun s => by
    rw [wsum_append, wsum_snoc, List.length_append, List.length_take, Nat.min_eq_left (by omega), List.length_singleton]
    rw [show ((k + 1 : Nat) : Int) = (k : Int) + 1 by omega]
  have e := key (w.getD k 0)
  rw [← split_at h] at e
  unfold chgAt
  rw [key s, e, Int.mul_sub]
  omega
theorem st_chg {n : Nat} (hn : 1 ≤ n) {a : Int} {y : List Int} {i j : Nat} {s t : Int} (hl : y.length = n) (hu : inSL n a (chgAt y i s) = true) (hv : inSL n a (chgAt y j t) = true) (sy : Sg 2 y) (hi : i < n) (hj : j < n) (hs : 0 ≤ s ∧ s < 2) (ht : 0 ≤ t ∧ t < 2) : chgAt y i s = chgAt y j t := by
  unfold inSL at hu hv
  rw [Bool.and_eq_true, decide_eq_true_eq, decide_eq_true_eq] at hu hv
  have wu := hu.2.trans hv.2.symm
  rw [wsum_chgAt (by omega), wsum_chgAt (by omega)] at wu
  have gi := sg_at sy (k := i) (by omega)
  have gj := sg_at sy (k := j) (by omega)
  have ei : y.getD i 0 = s ∨ y.getD i 0 = 0 ∧ s = 1 ∨ y.getD i 0 = 1 ∧ s = 0 := by omega
  have ej : y.getD j 0 = t ∨ y.getD j 0 = 0 ∧ t = 1 ∨ y.getD j 0 = 1 ∧ t = 0 := by omega
  have same : ∀ {A B : Int}, (wsum y + A) % (2 * (n : Int)) = (wsum y + B) % (2 * (n : Int)) → -(2 * (n : Int)) < A - B → A - B < 2 * (n : Int) → A = B := fun h h1 h2 => by
    have := emod_sub_0 h (by omega) (by omega) (by omega)
    omega
  have zi : y.getD i 0 = s → chgAt y i s = y := fun e => by rw [← e]; exact chg_self (by omega)
  have zj : y.getD j 0 = t → chgAt y j t = y := fun e => by rw [← e]; exact chg_self (by omega)
  rcases ei with e | ⟨e, rfl⟩ | ⟨e, rfl⟩ <;> rcases ej with f | ⟨f, rfl⟩ | ⟨f, rfl⟩
  · rw [zi e, zj f]
  · rw [e, f] at wu
    have := same wu (by omega) (by omega)
    omega
  · rw [e, f] at wu
    have := same wu (by omega) (by omega)
    omega
  · rw [e, f] at wu
    have := same wu (by omega) (by omega)
    omega
  · rw [e, f] at wu
    have := same wu (by omega) (by omega)
    have : i = j := by omega
    rw [this]
  · rw [e, f] at wu
    by_cases c : i = n - 1 ∧ j = n - 1
    · exfalso
      rw [c.1] at e
      rw [c.2] at f
      omega
    · have := same wu (by omega) (by omega)
      omega
  · rw [e, f] at wu
    have := same wu (by omega) (by omega)
    omega
  · rw [e, f] at wu
    by_cases c : i = n - 1 ∧ j = n - 1
    · exfalso
      rw [c.1] at e
      rw [c.2] at f
      omega
    · have := same wu (by omega) (by omega)
      omega
  · rw [e, f] at wu
    have := same wu (by omega) (by omega)
    have : i = j := by omega
    rw [this]
/-! things that are none: numbers out of a range, what is no word -/
def numIn (lo hi : Int) : V → Bool
  | .int i => decide (lo ≤ i) && decide (i ≤ hi)
  | _ => false
theorem numIn_int {lo hi i : Int} : numIn lo hi (.int i) = (decide (lo ≤ i) && decide (i ≤ hi)) := rfl
/-- what is let out: of that class, told of nothing more -/
def Rz (K : PySem.W.Frag) (E : XK) (H : Hp) (nm : Str) : Prop := ∃ C, PySem.W.nsIn K mainGlobals nm = some (some (.ref C)) ∧ ∀ H', Ex H H' → E (.ref C) none H'
theorem Rz.mono {K : PySem.W.Frag} {E : XK} {H H1 : Hp} {nm : Str} (e : Ex H H1) (h : Rz K E H nm) : Rz K E H1 nm := by
  obtain ⟨C, hC, k⟩ := h
  exact ⟨C, hC, fun H' e' => k H' (e.trans e')⟩
theorem Rz.at_ {K : PySem.W.Frag} {E : XK} {H H' : Hp} {nm : Str} {C : Addr} (h : Rz K E H nm) (n : PySem.W.nsIn K mainGlobals nm = some (some (.ref C))) (e : Ex H H') : E (.ref C) none H' := by
  obtain ⟨D, hD, k⟩ := h
  rw [hD] at n
  cases n
  exact k _ e
inductive BadW (K : PySem.W.Frag) (H : Hp) (q : Int) : V → Prop where
  | kind {x : V} {T : String} (h : Kd K H x T) (n : kitB T "tuple" = some false) : BadW K H q x
  | long {a : Addr} {xs : List V} (h : SqT K H a xs) (hl : 60 < xs.length) : BadW K H q (.ref a)
  | sign {a : Addr} {xs : List V} (h : SqT K H a xs) (hl : xs.length ≤ 60) (hk : ∀ y ∈ xs, ∃ T, Kd K H y T) (hb : xs.all (signOk q) = false) : BadW K H q (.ref a)
theorem BadW.mono {K : PySem.W.Frag} {H H' : Hp} {q : Int} {x : V} (e : Ex H H') (h : BadW K H q x) : BadW K H' q x := by
  cases h with
  | kind h n => exact .kind (h.mono e) n
  | long h hl => exact .long (Evl.ex_t e h) hl
  | sign h hl hk hb => exact .sign (Evl.ex_t e h) hl (fun y hy => let ⟨T, hT⟩ := hk y hy; ⟨T, hT.mono e⟩) hb
/-- x is the word r, or none -/
inductive WT (K : PySem.W.Frag) (H : Hp) (q : Int) : V → Option (List Int) → Prop where
  | good {x : V} {ns : List Int} (h : Wd K H q x ns) : WT K H q x (some ns)
  | bad {x : V} (h : BadW K H q x) : WT K H q x none
theorem WT.mono {K : PySem.W.Frag} {H H' : Hp} {q : Int} {x : V} {r : Option (List Int)} (e : Ex H H') (h : WT K H q x r) : WT K H' q x r := by
  cases h with
  | good h => exact .good (h.mono e)
  | bad h => exact .bad (h.mono e)
theorem all_signs {q : Int} : ∀ {xs : List V}, xs.all (signOk q) = true → ∃ ns : List Int, xs = ns.map V.int ∧ Sg q ns
  | [], _ => ⟨[], rfl, Sg.nil⟩
  | x :: xs, h => by
    rw [List.all_cons, Bool.and_eq_true] at h
    obtain ⟨ns, rfl, hs⟩ := all_signs h.2
    cases x with
    | int i =>
      have h1 : (decide (0 ≤ i) && decide (i < q)) = true := h.1
      rw [Bool.and_eq_true, decide_eq_true_eq, decide_eq_true_eq] at h1
      exact ⟨i :: ns, rfl, fun m hm => (List.mem_cons.mp hm).elim (fun z => z ▸ h1) (hs m)⟩
    | _ => exact absurd h.1 (by simp [signOk])
theorem wt_tup {K : PySem.W.Frag} {H : Hp} {a : Addr} {xs : List V} (q : Int) (h : SqT K H a xs) (hk : ∀ y ∈ xs, ∃ T, Kd K H y T) : ∃ r, WT K H q (.ref a) r := by
  by_cases hl : xs.length ≤ 60
  · cases hb : xs.all (signOk q) with
    | false => exact ⟨none, .bad (.sign h hl hk hb)⟩
    | true =>
      obtain ⟨ns, rfl, hs⟩ := all_signs hb
      exact ⟨some ns, .good ⟨a, rfl, h, by rw [List.length_map] at hl; exact hl, hs⟩⟩
  · exact ⟨none, .bad (.long h (by omega))⟩
theorem kd_ints {K : PySem.W.Frag} {H : Hp} {ns : List Int} : ∀ y ∈ ns.map V.int, ∃ T, Kd K H y T := fun y hy => by
  obtain ⟨i, _, rfl⟩ := List.mem_map.mp hy
  exact ⟨"int", .int i⟩
theorem pick {xs : List V} {d : Int} (h0 : 0 ≤ d) (h1 : d < xs.length) : ∃ v, atI xs d = some v ∧ v ∈ xs := by
  obtain ⟨k, rfl⟩ : ∃ k : Nat, d = k := ⟨d.toNat, by omega⟩
  have hk : k < xs.length := by omega
  exact ⟨xs[k], atI_nat (List.getElem?_eq_getElem hk), List.getElem_mem hk⟩
theorem l_idxB {K : PySem.W.Frag} {H : Hp} {Q : VK} {a : Addr} {bs : List Bool} {j : Nat} (h : SqL K H a (bs.map V.bl)) (hj : bs[j]? = some true) (hn : ∀ m, m < j → bs[m]? ≠ some true) (k : Q (.int (j : Nat)) H) : rIndex K (.ref a) [.bl true] H Q := by
  refine ⟨a, _, _, j, .bl true, rfl, rfl, h, rfl, List.all_eq_true.mpr fun x hx => by obtain ⟨_, _, rfl⟩ := List.mem_map.mp hx; rfl, by rw [List.getElem?_map, hj]; rfl, rfl, fun m z hm hz => ?_, k⟩
  rw [List.getElem?_map] at hz
  obtain ⟨b, hb, rfl⟩ := Option.map_eq_some_iff.mp hz
  cases b with
  | true => exact absurd hb (hn m hm)
  | false => rfl
theorem l_neS {K : PySem.W.Frag} {H : Hp} {Q : VK} {a b : Str} (k : Q (.bl (!decide (a = b))) H) : rNeP K (.str a) (.str b) H Q := .inl ⟨rfl, by rw [show decide (V.str a = V.str b) = decide (a = b) by simp]; exact k⟩
theorem l_cntBn {K : PySem.W.Frag} {H : Hp} {Q : VK} {a : Addr} (bs : List Bool) (n : Nat) {b : Bool} (h : H a = some (.lst (bs.map V.bl))) (hn : bs.count b = n) (k : Q (.int (n : Nat)) H) : rCntF K (.ref a) [.bl b] H Q := l_cntB (SqL.of h) (by rw [hn]; exact k)
theorem l_idxBn {K : PySem.W.Frag} {H : Hp} {Q : VK} {a : Addr} (bs : List Bool) (j : Nat) (h : H a = some (.lst (bs.map V.bl))) (hj : bs[j]? = some true) (hn : (bs.take j).all (!·) = true) (k : Q (.int (j : Nat)) H) : rIndex K (.ref a) [.bl true] H Q :=
  l_idxB (SqL.of h) hj (fun m hm e => by
    have h1 : (bs.take j)[m]? = some true := by rw [List.getElem?_take, if_pos hm]; exact e
    have := List.all_eq_true.mp hn true (List.mem_of_getElem? h1)
    simp at this) k
theorem w_dnk {σ : L2.St} {H : Hp} {Q : VK} (k : ∀ p H', H p = none → Ex H H' → H' p = some (.dK []) → Q (.ref p) H') : tDNewK σ H Q := fun p hp => k p _ hp (Evl.Ex.new hp) upd_same
theorem kd_exB {K : PySem.W.Frag} {H H' : Hp} {p : Addr} {ys ys' : List V} {x : V} {T : String} (e : ExB p H H') (hp : H p = some (.lst ys)) (hp' : H' p = some (.lst ys')) (h : Kd K H x T) : Kd K H' x T := by
  cases h with
  | non => exact .non
  | bl b => exact .bl b
  | int i => exact .int i
  | str x => exact .str x
  | tup h => exact .tup (exB_t e hp h)
  | @lst a xs h =>
    by_cases c : a = p
    · subst c; exact .lst (SqL.of hp')
    · exact .lst (exB_l e c h)
  | dct h => exact .dct (e _ _ (fun z => by subst z; rw [hp] at h; cases h) h)
theorem BadW.exB {K : PySem.W.Frag} {H H' : Hp} {p : Addr} {ys ys' : List V} {q : Int} {x : V} (e : ExB p H H') (hp : H p = some (.lst ys)) (hp' : H' p = some (.lst ys')) (h : BadW K H q x) : BadW K H' q x := by
  cases h with
  | kind h n => exact .kind (kd_exB e hp hp' h) n
  | long h hl => exact .long (exB_t e hp h) hl
  | sign h hl hk hb => exact .sign (exB_t e hp h) hl (fun y hy => let ⟨T, hT⟩ := hk y hy; ⟨T, kd_exB e hp hp' hT⟩) hb
theorem WT.exB {K : PySem.W.Frag} {H H' : Hp} {p : Addr} {ys ys' : List V} {q : Int} {x : V} {r : Option (List Int)} (e : ExB p H H') (hp : H p = some (.lst ys)) (hp' : H' p = some (.lst ys')) (h : WT K H q x r) : WT K H' q x r := by
  cases h with
  | good h =>
    obtain ⟨a, rfl, h1, h2⟩ := h
    exact .good ⟨a, rfl, exB_t e hp h1, h2⟩
  | bad h => exact .bad (h.exB e hp hp')
theorem wt_kind {K : PySem.W.Frag} {H : Hp} {q : Int} {x : V} {T : String} (h : Kd K H x T) (n : kitB T "tuple" = some false) : ∃ r, WT K H q x r := ⟨none, .bad (.kind h n)⟩
theorem kd_mem {K : PySem.W.Frag} {H : Hp} {x : V} {xs : List V} (h : ∃ T, Kd K H x T) (t : ∀ y ∈ xs, ∃ T, Kd K H y T) : ∀ y ∈ x :: xs, ∃ T, Kd K H y T := fun y hy => (List.mem_cons.mp hy).elim (fun e => e ▸ h) (t y)
theorem kd_nil {K : PySem.W.Frag} {H : Hp} : ∀ y ∈ ([] : List V), ∃ T, Kd K H y T := fun y hy => by cases hy
theorem wt_mem {K : PySem.W.Frag} {H : Hp} {q : Int} {x : V} {xs : List V} (h : ∃ r, WT K H q x r) (t : ∀ y ∈ xs, ∃ r, WT K H q y r) : ∀ y ∈ x :: xs, ∃ r, WT K H q y r := fun y hy => (List.mem_cons.mp hy).elim (fun e => e ▸ h) (t y)
theorem wt_nil {K : PySem.W.Frag} {H : Hp} {q : Int} : ∀ y ∈ ([] : List V), ∃ r, WT K H q y r := fun y hy => by cases hy
theorem l_tupLX {K : PySem.W.Frag} {H : Hp} {Q : VK} {a : Addr} {xs : List V} (h : SqL K H a xs) (k : ∀ p H', H p = none → Ex H H' → H' p = some (.tup xs) → Q (.ref p) H') : rTupOf K [.ref a] H Q := ⟨a, xs, rfl, .inl ⟨h, fun l hl => k _ _ hl (Evl.Ex.new hl) upd_same⟩⟩
theorem dp_nil {K : PySem.W.Frag} {H : Hp} {a : Addr} (h : H a = some (.tup [])) : Dp K H (.ref a) (.tuple (([] : List Int).map PyData.int)) := .tup (SqT.of h) .nil
/-- word != () -/
theorem l_neNil {K : PySem.W.Frag} {H : Hp} {Q : VK} {a b : Addr} {w : List Int} (h1 : SqT K H a (w.map V.int)) (h2 : H b = some (.tup [])) (k : Q (.bl (!decide (w = []))) H) : rNeP K (.ref a) (.ref b) H Q :=
  l_neD (.tup h1 (dp_ints w)) (dp_nil h2) (shaped_ints w) (shaped_ints []) (by rw [eqvT_ints]; exact k)
theorem l_eqNil {K : PySem.W.Frag} {H : Hp} {Q : VK} {a b : Addr} {w : List Int} (h1 : SqT K H a (w.map V.int)) (h2 : H b = some (.tup [])) (k : Q (.bl (decide (w = []))) H) : rEqP K (.ref a) (.ref b) H Q :=
  l_eqD (.tup h1 (dp_ints w)) (dp_nil h2) (shaped_ints w) (shaped_ints []) (by rw [eqvT_ints]; exact k)
theorem l_neW {K : PySem.W.Frag} {H : Hp} {Q : VK} {x y : V} {u w : List Int} (h1 : Wt K H x u) (h2 : Wt K H y w) (k : Q (.bl (!decide (u = w))) H) : rNeP K x y H Q := by
  obtain ⟨a, rfl, h1⟩ := h1
  obtain ⟨b, rfl, h2⟩ := h2
  exact l_neD (.tup h1 (dp_ints u)) (.tup h2 (dp_ints w)) (shaped_ints u) (shaped_ints w) (by rw [eqvT_ints]; exact k)
/-! strong lists: what came, and the member -/
def candsS (n : Nat) (c : List Int) : List (List Int) := if c.length = n then [c] ++ chgs 2 c else if (c.length : Int) = (n : Int) - 1 then puts 2 c else losts c
theorem in_chgs {n : Nat} {c u : List Int} (hn : 1 ≤ n) (lc : c.length = n) (sc : Sg 2 c) (hu : u ∈ [c] ++ chgs 2 c) : ∃ k s, k < n ∧ (0 ≤ s ∧ s < 2) ∧ u = chgAt c k s := by
  rcases List.mem_append.mp hu with hu | hu
  · rw [List.mem_singleton] at hu
    subst hu
    exact ⟨0, u.getD 0 0, by omega, sg_at sc (by omega), (chg_self (by omega)).symm⟩
  · obtain ⟨k, s, hk, hs, e⟩ := mem_chgs.mp hu
    exact ⟨k, s, by omega, hs, e⟩
theorem candsS_one {n : Nat} (hn : 1 ≤ n) {a : Int} {c u v : List Int} (hl : c.length ≤ n + 1 ∧ n ≤ c.length + 1) (sc : Sg 2 c) (hu : u ∈ candsS n c) (hv : v ∈ candsS n c) (mu : inSL n a u = true) (mv : inSL n a v = true) : u = v := by
  unfold candsS at hu hv
  split at hu
  · rename_i z
    rw [if_pos z] at hv
    obtain ⟨i, s, hi, hs, rfl⟩ := in_chgs hn z sc hu
    obtain ⟨j, t, hj, ht, rfl⟩ := in_chgs hn z sc hv
    exact st_chg hn z mu mv sc hi hj hs ht
  · rename_i z
    rw [if_neg z] at hv
    split at hu
    · rename_i z2
      rw [if_pos z2] at hv
      obtain ⟨i, s, hi, hs, rfl⟩ := mem_puts.mp hu
      obtain ⟨j, t, hj, ht, rfl⟩ := mem_puts.mp hv
      exact st_lost hn mu mv (putAt_sg sc hs) (putAt_sg sc ht) (by rw [putAt_len hi]; omega) (by rw [putAt_len hj]; omega) ((lost_put hi).trans (lost_put hj).symm)
    · rename_i z2
      rw [if_neg z2] at hv
      obtain ⟨i, hi, rfl⟩ := mem_losts.mp hu
      obtain ⟨j, hj, rfl⟩ := mem_losts.mp hv
      exact st_came hn mu mv sc hi hj
theorem candsS_wd {n : Nat} {c u : List Int} (sc : Sg 2 c) (hl : c.length ≤ n + 1 ∧ n ≤ c.length + 1) (hu : u ∈ candsS n c) : u.length = n ∧ Sg 2 u := by
  unfold candsS at hu
  split at hu
  · rename_i z
    rcases List.mem_append.mp hu with hu | hu
    · rw [List.mem_singleton] at hu; subst hu; exact ⟨z, sc⟩
    · have := chgs_wb sc u hu; exact ⟨by omega, this.2⟩
  · split at hu
    · have := puts_wb sc u hu; exact ⟨by omega, this.2⟩
    · have := losts_wb sc u hu; exact ⟨by omega, this.2⟩
def MendS (K : PySem.W.Frag) (H : Hp) (n : Nat) (a : Int) (c : List Int) (v : V) : Prop := (∃ u, Wt K H v u ∧ u ∈ candsS n c ∧ inSL n a u = true) ∨ (v = .non ∧ ∀ u ∈ candsS n c, inSL n a u = false)
/-- what may come of w by one loss, one putting in, one change, nothing -/
def comeS (w : List Int) : List (List Int) := [w] ++ losts w ++ puts 2 w ++ chgs 2 w
theorem comeS_cand {n : Nat} {w c : List Int} (hn : 1 ≤ n) (hl : w.length = n) (sw : Sg 2 w) (h : c ∈ comeS w) : Sg 2 c ∧ (c.length ≤ n + 1 ∧ n ≤ c.length + 1) ∧ w ∈ candsS n c := by
  unfold comeS at h
  rcases List.mem_append.mp h with h | h
  · rcases List.mem_append.mp h with h | h
    · rcases List.mem_append.mp h with h | h
      · rw [List.mem_singleton] at h
        subst h
        refine ⟨sw, by omega, ?_⟩
        unfold candsS
        rw [if_pos hl]
        simp
      · obtain ⟨k, hk, rfl⟩ := mem_losts.mp h
        have := lostAt_len hk
        refine ⟨lostAt_sg sw, by omega, ?_⟩
        unfold candsS
        rw [if_neg (by omega), if_pos (by omega)]
        exact mem_puts.mpr ⟨k, w.getD k 0, by omega, sg_at sw hk, put_lost hk⟩
    · obtain ⟨k, s, hk, hs, rfl⟩ := mem_puts.mp h
      have := putAt_len (s := s) hk
      refine ⟨putAt_sg sw hs, by omega, ?_⟩
      unfold candsS
      rw [if_neg (by omega), if_neg (by omega)]
      exact mem_losts.mpr ⟨k, by omega, (lost_put hk).symm⟩
  · obtain ⟨k, s, hk, hs, rfl⟩ := mem_chgs.mp h
    have lk := chgAt_len (s := s) hk
    refine ⟨chgAt_sg sw hs, by omega, ?_⟩
    unfold candsS
    rw [if_pos (by omega)]
    refine List.mem_append_right _ (mem_chgs.mpr ⟨k, w.getD k 0, by omega, sg_at sw hk, ?_⟩)
    exact (chg_back hk).symm
/-! truths as data -/
theorem dp_bls {K : PySem.W.Frag} {H : Hp} : ∀ bs : List Bool, DpAll K H (bs.map V.bl) (bs.map PyData.bool)
  | [] => .nil
  | b :: bs => .cons (.bl b) (dp_bls bs)
theorem lay_bls : ∀ bs : List Bool, PyData.canLayAll0 (bs.map PyData.bool) = true ∧ PyData.depthAll (bs.map PyData.bool) = 0
  | [] => ⟨rfl, rfl⟩
  | b :: bs => by
    obtain ⟨h1, h2⟩ := lay_bls bs
    refine ⟨?_, ?_⟩
    · show (PyData.canLay0 (.bool b) && PyData.canLayAll0 (bs.map PyData.bool)) = true
      rw [h1]; rfl
    · show max (PyData.depth (.bool b)) (PyData.depthAll (bs.map PyData.bool)) = 0
      rw [h2]; rfl
theorem shaped_bls (bs : List Bool) : SeqAt.shaped (.list (bs.map PyData.bool)) = true := by
  obtain ⟨h1, h2⟩ := lay_bls bs
  show (PyData.canLayAll0 (bs.map PyData.bool) && decide (PyData.depthAll (bs.map PyData.bool) + 1 ≤ 64)) = true
  rw [h1, h2]; rfl
theorem eqv_bls : ∀ xs ys : List Bool, PyData.eqvAll (xs.map PyData.bool) (ys.map PyData.bool) = decide (xs = ys)
  | [], [] => by simp [PyData.eqvAll]
  | [], _ :: _ => by simp [PyData.eqvAll]
  | _ :: _, [] => by simp [PyData.eqvAll]
  | x :: xs, y :: ys => by
    show (PyData.eqv (.bool x) (.bool y) && PyData.eqvAll (xs.map PyData.bool) (ys.map PyData.bool)) = _
    rw [eqv_bls xs ys]
    have e : PyData.eqv (.bool x) (.bool y) = (x == y) := by cases x <;> cases y <;> rfl
    rw [e]
    cases x <;> cases y <;> simp
theorem l_eqBs {K : PySem.W.Frag} {H : Hp} {Q : VK} {a b : Addr} (bs cs : List Bool) (h1 : H a = some (.lst (bs.map V.bl))) (h2 : H b = some (.lst (cs.map V.bl))) (k : Q (.bl (decide (bs = cs))) H) : rEqP K (.ref a) (.ref b) H Q := by
  refine l_eqD (.lst (SqL.of h1) (dp_bls bs)) (.lst (SqL.of h2) (dp_bls cs)) (shaped_bls _) (shaped_bls _) ?_
  rw [show PyData.eqv (.list (bs.map PyData.bool)) (.list (cs.map PyData.bool)) = PyData.eqvAll (bs.map PyData.bool) (cs.map PyData.bool) from rfl, eqv_bls]
  exact k
theorem Pot.ne {H : Hp} {p l : Addr} (hp : Pot H p) (hn : H l = none) : l ≠ p := fun z => by
  obtain ⟨_, hq⟩ := hp.lst
  rw [z, hq] at hn
  cases hn
theorem kd_pot {K : PySem.W.Frag} {H H' : Hp} {p : Addr} {x : V} {T : String} (e : ExB p H H') (hp : Pot H p) (hp' : Pot H' p) (h : Kd K H x T) : Kd K H' x T := by
  obtain ⟨_, a⟩ := hp.lst
  obtain ⟨_, b⟩ := hp'.lst
  exact kd_exB e a b h
theorem wt_pot {K : PySem.W.Frag} {H H' : Hp} {p : Addr} {q : Int} {x : V} {r : Option (List Int)} (e : ExB p H H') (hp : Pot H p) (hp' : Pot H' p) (h : WT K H q x r) : WT K H' q x r := by
  obtain ⟨_, a⟩ := hp.lst
  obtain ⟨_, b⟩ := hp'.lst
  exact h.exB e a b
theorem numIn_true {lo hi : Int} {x : V} (h : numIn lo hi x = true) : ∃ i, x = .int i ∧ lo ≤ i ∧ i ≤ hi := by
  cases x with
  | int i =>
    rw [numIn_int, Bool.and_eq_true, decide_eq_true_eq, decide_eq_true_eq] at h
    exact ⟨i, rfl, h⟩
  | _ => cases h
theorem signOk_true {q : Int} {x : V} (h : signOk q x = true) : ∃ i, x = .int i ∧ 0 ≤ i ∧ i < q := by
  cases x with
  | int i =>
    rw [show signOk q (.int i) = (decide (0 ≤ i) && decide (i < q)) from rfl, Bool.and_eq_true, decide_eq_true_eq, decide_eq_true_eq] at h
    exact ⟨i, rfl, h⟩
  | _ => cases h
theorem cut_toA {xs : List V} (k : Nat) : cutV xs none (some (k : Int)) = xs.take k := by
  by_cases h : k ≤ xs.length
  · exact cut_to h
  · have e : HT.sIx xs.length xs.length (some (k : Int)) = xs.length := by
      unfold HT.sIx
      simp only [show ¬ ((k : Int) < 0) by omega, if_false, Int.toNat_natCast]
      omega
    unfold cutV
    rw [e]
    show (xs.drop 0).take (xs.length - 0) = _
    rw [List.drop_zero, List.take_of_length_le (by omega), List.take_of_length_le (by omega)]
theorem cut_fromA {xs : List V} (k : Nat) : cutV xs (some (k : Int)) none = xs.drop k := by
  by_cases h : k ≤ xs.length
  · exact cut_from h
  · have e : HT.sIx xs.length 0 (some (k : Int)) = xs.length := by
      unfold HT.sIx
      simp only [show ¬ ((k : Int) < 0) by omega, if_false, Int.toNat_natCast]
      omega
    unfold cutV
    rw [e]
    show (xs.drop xs.length).take (xs.length - xs.length) = _
    rw [List.drop_eq_nil_of_le (Nat.le_refl _), List.drop_eq_nil_of_le (by omega)]; simp
/-- the first k of a word -/
theorem cut_few (ns : List Int) (k : Nat) : cutV (ns.map V.int) none (some (k : Int)) = (ns.take k).map V.int := by rw [cut_toA, List.map_take]
/-- any slice from a place on to another one -/
theorem cut_nn {xs : List V} (k j : Nat) : cutV xs (some (k : Int)) (some (j : Int)) = (xs.drop k).take (j - k) := by
  unfold cutV
  rw [show HT.sIx xs.length 0 (some (k : Int)) = min k xs.length from HT.sIx_nat .., show HT.sIx xs.length xs.length (some (j : Int)) = min j xs.length from HT.sIx_nat ..]
  by_cases h : k ≤ xs.length
  · rw [Nat.min_eq_left h]
    by_cases h2 : j ≤ xs.length
    · rw [Nat.min_eq_left h2]
    · rw [Nat.min_eq_right (by omega), List.take_of_length_le (by simp), List.take_of_length_le (by simp; omega)]
  · rw [Nat.min_eq_right (show xs.length ≤ k by omega), List.drop_of_length_le (Nat.le_refl _), List.drop_of_length_le (show xs.length ≤ k by omega)]
    simp
/-- truths of the words of a list -/
theorem l_lcWB {K : PySem.W.Frag} {σ : L2.St} {H : Hp} {Q : VK} {te : TE} {a : Addr} {xs : List V} {ws : List (List Int)} {j : Nat} {vs : List Nat} (f : List Int → Bool) (h : SqL K H a xs) (hW : Wts K H xs ws) (hz : xs.length < 100000) (hw : ∀ x, wipe ((wipe σ vs).set j (some x)) vs = wipe σ vs)
    (hs : ∀ x w H1, w ∈ ws → Wt K H1 x w → Ex H H1 → ∀ Q' : VK, (∀ H2, Ex H1 H2 → Q' (.bl (f w)) H2) → te ((wipe σ vs).set j (some x)) H1 Q')
    (hd : ∀ D H1, H D = none → Ex H H1 → H1 D = some (.lst ((ws.map f).map V.bl)) → Q (.ref D) H1) : LcK (gName j) tYes te vs (Itl K a) σ H Q := by
  refine l_lc walk_list (fun _ i acc H1 => Ex H H1 ∧ acc = ((ws.take i).map f).map V.bl) (fun D H1 n e h1 => ⟨e, rfl⟩) (fun D i acc H1 _ _ p => Evl.ex_l p.1 h) (fun D i acc x H1 H2 hn hi h1 q y => ?_) (fun D acc H1 hn h1 q => ?_)
  · obtain ⟨rfl, hx⟩ := y
    obtain ⟨e, rfl⟩ := q
    obtain ⟨w, hw2, hwt⟩ := pd_at hW hx
    refine ⟨hw x, w_yes ?_⟩
    refine iteT ?_
    refine hs x w _ (List.mem_of_getElem? hw2) (hwt.mono e) e _ fun H3 e3 => ?_
    refine lc_end (Pv := fun _ i acc H1 => Ex H H1 ∧ acc = ((ws.take i).map f).map V.bl) (e3 _ _ h1) (by simp; omega) fun H6 e6 h6 => ⟨ExB.new (e.trans e3) e6 hn, ?_⟩
    rw [take_at hw2]
    simp
  · obtain ⟨e, rfl⟩ := q
    rw [Paired.length hW, List.take_length] at h1
    exact hd D H1 hn e h1
theorem l_eqS {K : PySem.W.Frag} {H : Hp} {Q : VK} {a b : Str} (k : Q (.bl (decide (a = b))) H) : rEqP K (.str a) (.str b) H Q := .inl ⟨rfl, by rw [show decide (V.str a = V.str b) = decide (a = b) by simp]; exact k⟩
def topS (i : Nat) : Stmt := PySem.Challenge.pw_lostmark_k12_texts_there_and_back.main.body.getD i (.Pass ⟨0, 0, 0, 0⟩)
abbrev S_is_number : Stmt := topS 17
theorem sc_is_number : FnScope ["thing"] ["thing"] (defScope S_is_number) := ⟨rfl, rfl, rfl, by decide +kernel, rfl, by decide +kernel, by decide +kernel⟩
abbrev S_want_count : Stmt := topS 18
theorem sc_want_count : FnScope ["q"] ["q"] (defScope S_want_count) := ⟨rfl, rfl, rfl, by decide +kernel, rfl, by decide +kernel, by decide +kernel⟩
abbrev S_is_sign : Stmt := topS 19
theorem sc_is_sign : FnScope ["q", "thing"] ["q", "thing"] (defScope S_is_sign) := ⟨rfl, rfl, rfl, by decide +kernel, rfl, by decide +kernel, by decide +kernel⟩
abbrev S_want_word : Stmt := topS 20
theorem sc_want_word : FnScope ["q", "word", "sign"] ["q", "word"] (defScope S_want_word) := ⟨rfl, rfl, rfl, by decide +kernel, rfl, by decide +kernel, by decide +kernel⟩
abbrev S_show_word : Stmt := topS 23
theorem sc_show_word : FnScope ["q", "word", "sign"] ["q", "word"] (defScope S_show_word) := ⟨rfl, rfl, rfl, by decide +kernel, rfl, by decide +kernel, by decide +kernel⟩
abbrev S_read_word : Stmt := topS 24
theorem sc_read_word : FnScope ["q", "text", "sign"] ["q", "text"] (defScope S_read_word) := ⟨rfl, rfl, rfl, by decide +kernel, rfl, by decide +kernel, by decide +kernel⟩
abbrev S_L_at : Stmt := topS 26
theorem sc_L_at : FnScope ["_law_script", "_law_k"] ["_law_script", "_law_k"] (defScope S_L_at) := ⟨rfl, rfl, rfl, by decide +kernel, rfl, by decide +kernel, by decide +kernel⟩
abbrev S_L_pot : Stmt := topS 27
theorem sc_L_pot : FnScope ["_law_script", "_law_k", "_law_seed", "_law_cell", "_law_number"] ["_law_script", "_law_k"] (defScope S_L_pot) := ⟨rfl, rfl, rfl, by decide +kernel, rfl, by decide +kernel, by decide +kernel⟩
abbrev S_L_digit : Stmt := topS 28
theorem sc_L_digit : FnScope ["_law_pot_here", "_law_base", "_law_digit_here"] ["_law_pot_here", "_law_base"] (defScope S_L_digit) := ⟨rfl, rfl, rfl, by decide +kernel, rfl, by decide +kernel, by decide +kernel⟩
abbrev S_L_long : Stmt := topS 29
theorem sc_L_long : FnScope ["_law_pot_here", "_law_q", "_law_n", "_law_k"] ["_law_pot_here", "_law_q", "_law_n"] (defScope S_L_long) := ⟨rfl, rfl, rfl, by decide +kernel, rfl, by decide +kernel, by decide +kernel⟩
abbrev S_L_word : Stmt := topS 30
theorem sc_L_word : FnScope ["_law_pot_here", "_law_q", "_law_most"] ["_law_pot_here", "_law_q", "_law_most"] (defScope S_L_word) := ⟨rfl, rfl, rfl, by decide +kernel, rfl, by decide +kernel, by decide +kernel⟩
abbrev S_L_runny : Stmt := topS 31
theorem sc_L_runny : FnScope ["_law_pot_here", "_law_q", "_law_most", "_law_many", "_law_word_here"] ["_law_pot_here", "_law_q", "_law_most"] (defScope S_L_runny) := ⟨rfl, rfl, rfl, by decide +kernel, rfl, by decide +kernel, by decide +kernel⟩
abbrev S_L_plain : Stmt := topS 32
theorem sc_L_plain : FnScope ["_law_found"] ["_law_found"] (defScope S_L_plain) := ⟨rfl, rfl, rfl, by decide +kernel, rfl, by decide +kernel, by decide +kernel⟩
abbrev S_L_is_word : Stmt := topS 33
theorem sc_L_is_word : FnScope ["_law_found", "_law_due", "_law_sign"] ["_law_found", "_law_due"] (defScope S_L_is_word) := ⟨rfl, rfl, rfl, by decide +kernel, rfl, by decide +kernel, by decide +kernel⟩
abbrev S_L_kind : Stmt := topS 34
theorem sc_L_kind : FnScope ["_law_e", "_law_kinds", "_law_names"] ["_law_e"] (defScope S_L_kind) := ⟨rfl, rfl, rfl, by decide +kernel, rfl, by decide +kernel, by decide +kernel⟩
abbrev S_L_answer : Stmt := topS 35
theorem sc_L_answer : FnScope ["_law_q", "_law_text", "_law_told", "_law_e"] ["_law_q", "_law_text"] (defScope S_L_answer) := ⟨rfl, rfl, rfl, by decide +kernel, rfl, by decide +kernel, by decide +kernel⟩
abbrev S_L_shown : Stmt := topS 36
theorem sc_L_shown : FnScope ["_law_q", "_law_word_here", "_law_told", "_law_e"] ["_law_q", "_law_word_here"] (defScope S_L_shown) := ⟨rfl, rfl, rfl, by decide +kernel, rfl, by decide +kernel, by decide +kernel⟩
abbrev S_L_signs : Stmt := topS 37
theorem sc_L_signs : FnScope ["_law_pot_here", "_law_text", "_law_signs_here", "_law_way", "_law_at_here", "_law_sign"] ["_law_pot_here", "_law_text"] (defScope S_L_signs) := ⟨rfl, rfl, rfl, by decide +kernel, rfl, by decide +kernel, by decide +kernel⟩
abbrev S_law : Stmt := topS 38
theorem sc_law : FnScope ["_law_script", "_law_letters", "_law_pot_here", "_law_q", "_law_word_here", "_law_text", "_law_k", "_law_due", "_law_found", "_law_odd", "_law_none", "_law_bad", "_law_sign", "_law_thing"] ["_law_script"] (defScope S_law) := ⟨rfl, rfl, rfl, by decide +kernel, rfl, by decide +kernel, by decide +kernel⟩
def s_is_number (K : PySem.W.Frag) (x0 : V) (H : Hp) (Q : VK) (E : XK) : Prop := ∃ T, Kd K H x0 T ∧ Q (.bl (isNum x0)) H
def sp_is_number (K : PySem.W.Frag) : Sp := fun vs H Q E => match vs with
  | [x0] => s_is_number K x0 H Q E
  | _ => False
def sx_is_number (K : PySem.W.Frag) : Sp := sp_is_number K
def s_want_count (K : PySem.W.Frag) (x0 : V) (H : Hp) (Q : VK) (E : XK) : Prop := ∃ q : Int, x0 = .int q ∧ (2 ≤ q ∧ q ≤ 36) ∧ Q .non H
def sp_want_count (K : PySem.W.Frag) : Sp := fun vs H Q E => match vs with
  | [x0] => s_want_count K x0 H Q E
  | _ => False
def sb_want_count (K : PySem.W.Frag) (x0 : V) (H : Hp) (Q : VK) (E : XK) : Prop := ∃ T, Kd K H x0 T ∧ numIn 2 36 x0 = false ∧ Rz K E H "NoCount"
def spb_want_count (K : PySem.W.Frag) : Sp := fun vs H Q E => match vs with
  | [x0] => sb_want_count K x0 H Q E
  | _ => False
def sx_want_count (K : PySem.W.Frag) : Sp := fun vs H Q E => sp_want_count K vs H Q E ∨ spb_want_count K vs H Q E
def s_is_sign (K : PySem.W.Frag) (x0 x1 : V) (H : Hp) (Q : VK) (E : XK) : Prop := ∃ (q : Int) (T : String), x0 = .int q ∧ Kd K H x1 T ∧ Q (.bl (signOk q x1)) H
def sp_is_sign (K : PySem.W.Frag) : Sp := fun vs H Q E => match vs with
  | [x0, x1] => s_is_sign K x0 x1 H Q E
  | _ => False
def sx_is_sign (K : PySem.W.Frag) : Sp := sp_is_sign K
def s_want_word (K : PySem.W.Frag) (x0 x1 : V) (H : Hp) (Q : VK) (E : XK) : Prop := ∃ (q : Int) (ns : List Int), x0 = .int q ∧ (2 ≤ q ∧ q ≤ 36) ∧ Wd K H q x1 ns ∧ ∀ H', Ex H H' → Q .non H'
def sp_want_word (K : PySem.W.Frag) : Sp := fun vs H Q E => match vs with
  | [x0, x1] => s_want_word K x0 x1 H Q E
  | _ => False
def sb_want_word (K : PySem.W.Frag) (x0 x1 : V) (H : Hp) (Q : VK) (E : XK) : Prop := (∃ T, Kd K H x0 T ∧ numIn 2 36 x0 = false ∧ Rz K E H "NoCount") ∨ ∃ q : Int, x0 = .int q ∧ (2 ≤ q ∧ q ≤ 36) ∧ BadW K H q x1 ∧ Rz K E H "NoWord"
def spb_want_word (K : PySem.W.Frag) : Sp := fun vs H Q E => match vs with
  | [x0, x1] => sb_want_word K x0 x1 H Q E
  | _ => False
def sx_want_word (K : PySem.W.Frag) : Sp := fun vs H Q E => sp_want_word K vs H Q E ∨ spb_want_word K vs H Q E
/-- the signs of words in texts -/
def lets : List Nat := [48, 49, 50, 51, 52, 53, 54, 55, 56, 57, 97, 98, 99, 100, 101, 102, 103, 104, 105, 106, 107, 108, 109, 110, 111, 112, 113, 114, 115, 116, 117, 118, 119, 120, 121, 122]
theorem lets_eq : (PySem.Str.ofString "0123456789abcdefghijklmnopqrstuvwxyz") = sS lets := by decide +kernel
theorem lets_len : lets.length = 36 := rfl
def ltr (i : Int) : Nat := lets.getD i.toNat 0
theorem ltr_at {i : Int} (h : 0 ≤ i ∧ i < 36) : atI lets i = some (ltr i) := by
  obtain ⟨n, rfl⟩ : ∃ n : Nat, i = n := ⟨i.toNat, by omega⟩
  have hn : n < lets.length := by rw [lets_len]; omega
  refine atI_nat ?_
  rw [List.getElem?_eq_getElem hn]
  unfold ltr
  rw [Int.toNat_natCast, List.getD_eq_getElem?_getD, List.getElem?_eq_getElem hn]
  rfl
/-- a word's text -/
def wtx (ns : List Int) : Str := sS (ns.map ltr)
theorem wtx_len (ns : List Int) : (wtx ns).length = ns.length := by unfold wtx; rw [sS_len, List.length_map]
theorem ltr_mem {i : Int} {q : Int} (h : 0 ≤ i ∧ i < q) (hq : q ≤ 36) : ltr i ∈ lets.take q.toNat := by
  obtain ⟨n, rfl⟩ : ∃ n : Nat, i = n := ⟨i.toNat, by omega⟩
  have hn : n < lets.length := by rw [lets_len]; omega
  have hm : n < (lets.take q.toNat).length := by rw [List.length_take]; omega
  have e : (lets.take q.toNat)[n] = ltr (n : Int) := by
    rw [List.getElem_take]
    unfold ltr
    rw [Int.toNat_natCast, List.getD_eq_getElem?_getD, List.getElem?_eq_getElem hn]
    rfl
  exact e ▸ List.getElem_mem hm
def idx (c : Nat) : Int := ((lets.idxOf c : Nat) : Int)
theorem idx_ltrF : ∀ i : Fin 36, lets.idxOf (lets.getD i.val 0) = i.val := by decide +kernel
theorem idx_ltr {i : Int} (h : 0 ≤ i ∧ i < 36) : idx (ltr i) = i := by
  obtain ⟨n, rfl⟩ : ∃ n : Nat, i = n := ⟨i.toNat, by omega⟩
  unfold idx ltr
  rw [Int.toNat_natCast, idx_ltrF ⟨n, by omega⟩]
/-- the word of a text -/
def idxs (z : Str) : List Int := z.cps.toList.map idx
theorem idxs_wtx {ns : List Int} (h : ∀ i ∈ ns, 0 ≤ i ∧ i < 36) : idxs (wtx ns) = ns := by
  unfold idxs wtx
  rw [sS_cps, List.map_map]
  conv => rhs; rw [← List.map_id ns]
  exact List.map_congr_left fun i hi => idx_ltr (h i hi)
theorem occ_ltr : ∀ c ∈ lets, Builtin.Str.occurrences (sS lets) ⟨#[c]⟩ 0 (sS lets).length 1 = [lets.idxOf c] := by decide +kernel
def s_show_word (K : PySem.W.Frag) (x0 x1 : V) (H : Hp) (Q : VK) (E : XK) : Prop := ∃ (q : Int) (ns : List Int), x0 = .int q ∧ (2 ≤ q ∧ q ≤ 36) ∧ Wd K H q x1 ns ∧ ∀ H', Ex H H' → Q (.str (wtx ns)) H'
def sp_show_word (K : PySem.W.Frag) : Sp := fun vs H Q E => match vs with
  | [x0, x1] => s_show_word K x0 x1 H Q E
  | _ => False
def sb_show_word (K : PySem.W.Frag) (x0 x1 : V) (H : Hp) (Q : VK) (E : XK) : Prop := (∃ T, Kd K H x0 T ∧ numIn 2 36 x0 = false ∧ Rz K E H "NoCount") ∨ ∃ q : Int, x0 = .int q ∧ (2 ≤ q ∧ q ≤ 36) ∧ BadW K H q x1 ∧ Rz K E H "NoWord"
def spb_show_word (K : PySem.W.Frag) : Sp := fun vs H Q E => match vs with
  | [x0, x1] => sb_show_word K x0 x1 H Q E
  | _ => False
def sx_show_word (K : PySem.W.Frag) : Sp := fun vs H Q E => sp_show_word K vs H Q E ∨ spb_show_word K vs H Q E
def s_read_word (K : PySem.W.Frag) (x0 x1 : V) (H : Hp) (Q : VK) (E : XK) : Prop := ∃ (q : Int) (z : Str), x0 = .int q ∧ (2 ≤ q ∧ q ≤ 36) ∧ x1 = .str z ∧ z.length ≤ 60 ∧ (∀ c ∈ z.cps.toList, c ∈ lets.take q.toNat) ∧ ∀ a H', Ex H H' → SqT K H' a ((idxs z).map V.int) → Q (.ref a) H'
def sp_read_word (K : PySem.W.Frag) : Sp := fun vs H Q E => match vs with
  | [x0, x1] => s_read_word K x0 x1 H Q E
  | _ => False
/-- what is no word's text -/
inductive BadT (K : PySem.W.Frag) (H : Hp) (q : Int) : V → Prop where
  | kind {x : V} {T : String} (h : Kd K H x T) (n : kitB T "str" = some false) : BadT K H q x
  | long {z : Str} (h : 60 < z.length) (hl : z.length ≤ 5000) : BadT K H q (.str z)
  | sign {z : Str} (h : z.length ≤ 60) (hc : ¬ ∀ c ∈ z.cps.toList, c ∈ lets.take q.toNat) : BadT K H q (.str z)
theorem BadT.mono {K : PySem.W.Frag} {H H' : Hp} {q : Int} {x : V} (e : Ex H H') (h : BadT K H q x) : BadT K H' q x := by
  cases h with
  | kind h n => exact .kind (h.mono e) n
  | long h hl => exact .long h hl
  | sign h hc => exact .sign h hc
def sb_read_word (K : PySem.W.Frag) (x0 x1 : V) (H : Hp) (Q : VK) (E : XK) : Prop := (∃ T, Kd K H x0 T ∧ numIn 2 36 x0 = false ∧ Rz K E H "NoCount") ∨ ∃ q : Int, x0 = .int q ∧ (2 ≤ q ∧ q ≤ 36) ∧ BadT K H q x1 ∧ Rz K E H "NoText"
def spb_read_word (K : PySem.W.Frag) : Sp := fun vs H Q E => match vs with
  | [x0, x1] => sb_read_word K x0 x1 H Q E
  | _ => False
def sx_read_word (K : PySem.W.Frag) : Sp := fun vs H Q E => sp_read_word K vs H Q E ∨ spb_read_word K vs H Q E
def s_L_at (K : PySem.W.Frag) (x0 x1 : V) (H : Hp) (Q : VK) (E : XK) : Prop := ∃ (a : Addr) (ns : List Int) (k : Nat), x0 = .ref a ∧ SqL K H a (ns.map V.int) ∧ x1 = .int (k : Nat) ∧ Q (.int (ns.getD k 0)) H
def sp_L_at (K : PySem.W.Frag) : Sp := fun vs H Q E => match vs with
  | [x0, x1] => s_L_at K x0 x1 H Q E
  | _ => False
def sx_L_at (K : PySem.W.Frag) : Sp := sp_L_at K
def s_L_pot (K : PySem.W.Frag) (x0 x1 : V) (H : Hp) (Q : VK) (E : XK) : Prop := ∃ (a : Addr) (ns : List Int) (k : Nat), x0 = .ref a ∧ SqL K H a (ns.map V.int) ∧ x1 = .int (k : Nat) ∧ k ≤ 1000 ∧ ∀ p H', H p = none → Ex H H' → Pot H' p → Q (.ref p) H'
def sp_L_pot (K : PySem.W.Frag) : Sp := fun vs H Q E => match vs with
  | [x0, x1] => s_L_pot K x0 x1 H Q E
  | _ => False
def sx_L_pot (K : PySem.W.Frag) : Sp := sp_L_pot K
def s_L_digit (K : PySem.W.Frag) (x0 x1 : V) (H : Hp) (Q : VK) (E : XK) : Prop := ∃ (p : Addr) (b : Int), x0 = .ref p ∧ Pot H p ∧ x1 = .int b ∧ (0 < b ∧ b < 4611686018427387904) ∧ ∀ d H', ExB p H H' → Pot H' p → 0 ≤ d → d < b → Q (.int d) H'
def sp_L_digit (K : PySem.W.Frag) : Sp := fun vs H Q E => match vs with
  | [x0, x1] => s_L_digit K x0 x1 H Q E
  | _ => False
def sx_L_digit (K : PySem.W.Frag) : Sp := sp_L_digit K
def s_L_long (K : PySem.W.Frag) (x0 x1 x2 : V) (H : Hp) (Q : VK) (E : XK) : Prop := ∃ (p : Addr) (q n : Int), x0 = .ref p ∧ Pot H p ∧ x1 = .int q ∧ (0 < q ∧ q < 4611686018427387904) ∧ x2 = .int n ∧ (0 ≤ n ∧ n ≤ 1000) ∧ ∀ a ns H', ExB p H H' → Pot H' p → SqT K H' a (ns.map V.int) → ns.length = n.toNat → Sg q ns → Q (.ref a) H'
def sp_L_long (K : PySem.W.Frag) : Sp := fun vs H Q E => match vs with
  | [x0, x1, x2] => s_L_long K x0 x1 x2 H Q E
  | _ => False
def sx_L_long (K : PySem.W.Frag) : Sp := sp_L_long K
def s_L_word (K : PySem.W.Frag) (x0 x1 x2 : V) (H : Hp) (Q : VK) (E : XK) : Prop := ∃ (p : Addr) (q m : Int), x0 = .ref p ∧ Pot H p ∧ x1 = .int q ∧ (0 < q ∧ q < 4611686018427387904) ∧ x2 = .int m ∧ (0 ≤ m ∧ m ≤ 1000) ∧ ∀ a ns H', ExB p H H' → Pot H' p → SqT K H' a (ns.map V.int) → ns.length ≤ m.toNat → Sg q ns → Q (.ref a) H'
def sp_L_word (K : PySem.W.Frag) : Sp := fun vs H Q E => match vs with
  | [x0, x1, x2] => s_L_word K x0 x1 x2 H Q E
  | _ => False
def sx_L_word (K : PySem.W.Frag) : Sp := sp_L_word K
def s_L_runny (K : PySem.W.Frag) (x0 x1 x2 : V) (H : Hp) (Q : VK) (E : XK) : Prop := ∃ (p : Addr) (q m : Int), x0 = .ref p ∧ Pot H p ∧ x1 = .int q ∧ (0 < q ∧ q < 4611686018427387904) ∧ x2 = .int m ∧ (0 ≤ m ∧ m ≤ 1000) ∧ ∀ a ns H', ExB p H H' → Pot H' p → SqT K H' a (ns.map V.int) → ns.length ≤ m.toNat → Sg q ns → Q (.ref a) H'
def sp_L_runny (K : PySem.W.Frag) : Sp := fun vs H Q E => match vs with
  | [x0, x1, x2] => s_L_runny K x0 x1 x2 H Q E
  | _ => False
def sx_L_runny (K : PySem.W.Frag) : Sp := sp_L_runny K
def s_L_plain (K : PySem.W.Frag) (x0 : V) (H : Hp) (Q : VK) (E : XK) : Prop := ∃ T, Kd K H x0 T ∧ Q (.bl (isNum x0)) H
def sp_L_plain (K : PySem.W.Frag) : Sp := fun vs H Q E => match vs with
  | [x0] => s_L_plain K x0 H Q E
  | _ => False
def sx_L_plain (K : PySem.W.Frag) : Sp := sp_L_plain K
def s_L_is_word (K : PySem.W.Frag) (x0 x1 : V) (H : Hp) (Q : VK) (E : XK) : Prop := ∃ (a b : Addr) (ns : List Int), x0 = .ref a ∧ SqT K H a (ns.map V.int) ∧ x1 = .ref b ∧ SqT K H b (ns.map V.int) ∧ ns.length ≤ 1000 ∧ ∀ H', Ex H H' → Q (.bl true) H'
def sp_L_is_word (K : PySem.W.Frag) : Sp := fun vs H Q E => match vs with
  | [x0, x1] => s_L_is_word K x0 x1 H Q E
  | _ => False
def sx_L_is_word (K : PySem.W.Frag) : Sp := sp_L_is_word K
def NmK (nm t : Str) : Prop := nm = "NoCount" ∧ t = "count" ∨ nm = "NoWord" ∧ t = "word" ∨ nm = "NoText" ∧ t = "text"
def s_L_kind (K : PySem.W.Frag) (a : Addr) (c : Value) (x0 : V) (H : Hp) (Q : VK) (E : XK) : Prop := x0 = .ref a ∧ ∃ (D : Addr) (nm : Str) (t : Str), c = .ref D ∧ PySem.W.nsIn K mainGlobals nm = some (some (.ref D)) ∧ NmK nm t ∧ ∀ H', Ex H H' → Q (.str t) H'
def sph_L_kind (K : PySem.W.Frag) : Addr → Value → Sp := fun a c vs H Q E => match vs with
  | [x0] => s_L_kind K a c x0 H Q E
  | _ => False
def CaseT (K : PySem.W.Frag) (H : Hp) (x0 x1 : V) (t : Str) : Prop := (∃ T, Kd K H x0 T ∧ numIn 2 36 x0 = false ∧ t = "count") ∨ ∃ q : Int, x0 = .int q ∧ (2 ≤ q ∧ q ≤ 36) ∧ BadT K H q x1 ∧ t = "text"
def s_L_answer (K : PySem.W.Frag) (x0 x1 : V) (H : Hp) (Q : VK) (E : XK) : Prop := (∃ (q : Int) (z : Str), x0 = .int q ∧ (2 ≤ q ∧ q ≤ 36) ∧ x1 = .str z ∧ z.length ≤ 60 ∧ (∀ c ∈ z.cps.toList, c ∈ lets.take q.toNat) ∧ ∀ t a H', Ex H H' → SqT K H' t [.str "read", .ref a] → SqT K H' a ((idxs z).map V.int) → Q (.ref t) H') ∨ ∃ t : Str, CaseT K H x0 x1 t ∧ ∀ H', Ex H H' → Q (.str t) H'
def sp_L_answer (K : PySem.W.Frag) : Sp := fun vs H Q E => match vs with
  | [x0, x1] => s_L_answer K x0 x1 H Q E
  | _ => False
def sx_L_answer (K : PySem.W.Frag) : Sp := sp_L_answer K
def CaseW (K : PySem.W.Frag) (H : Hp) (x0 x1 : V) (t : Str) : Prop := (∃ T, Kd K H x0 T ∧ numIn 2 36 x0 = false ∧ t = "count") ∨ ∃ q : Int, x0 = .int q ∧ (2 ≤ q ∧ q ≤ 36) ∧ BadW K H q x1 ∧ t = "word"
def s_L_shown (K : PySem.W.Frag) (x0 x1 : V) (H : Hp) (Q : VK) (E : XK) : Prop := (∃ (q : Int) (ns : List Int), x0 = .int q ∧ (2 ≤ q ∧ q ≤ 36) ∧ Wd K H q x1 ns ∧ ∀ t H', Ex H H' → SqT K H' t [.str "shown", .str (wtx ns)] → Q (.ref t) H') ∨ ∃ t : Str, CaseW K H x0 x1 t ∧ ∀ H', Ex H H' → Q (.str t) H'
def sp_L_shown (K : PySem.W.Frag) : Sp := fun vs H Q E => match vs with
  | [x0, x1] => s_L_shown K x0 x1 H Q E
  | _ => False
def sx_L_shown (K : PySem.W.Frag) : Sp := sp_L_shown K
def s_L_signs (K : PySem.W.Frag) (x0 x1 : V) (H : Hp) (Q : VK) (E : XK) : Prop := ∃ (p : Addr) (z : Str), x0 = .ref p ∧ Pot H p ∧ x1 = .str z ∧ z.length ≤ 900 ∧ ∀ (u : Str) H', ExB p H H' → Pot H' p → u.length ≤ z.length + 1 → Q (.str u) H'
def sp_L_signs (K : PySem.W.Frag) : Sp := fun vs H Q E => match vs with
  | [x0, x1] => s_L_signs K x0 x1 H Q E
  | _ => False
def sx_L_signs (K : PySem.W.Frag) : Sp := sp_L_signs K
def s_law (K : PySem.W.Frag) (x0 : V) (H : Hp) (Q : VK) (E : XK) : Prop := ∃ (a : Addr) (ns : List Int), x0 = .ref a ∧ SqL K H a (ns.map V.int) ∧ ns.length ≤ 63 ∧ ∀ H', Q (.bl true) H'
def sp_law (K : PySem.W.Frag) : Sp := fun vs H Q E => match vs with
  | [x0] => s_law K x0 H Q E
  | _ => False
def sx_law (K : PySem.W.Frag) : Sp := sp_law K
structure Txt (K : PySem.W.Frag) (mg : Str → Option Value) : Type where
  a_is_number : Addr
  fd_is_number : FuncData
  g_is_number : mg "is_number" = some (.ref a_is_number)
  F_is_number : Fun K "is_number" "is_number" S_is_number a_is_number fd_is_number
  b_is_number : Binds K fd_is_number ["thing"] []
  a_want_count : Addr
  fd_want_count : FuncData
  g_want_count : mg "want_count" = some (.ref a_want_count)
  F_want_count : Fun K "want_count" "want_count" S_want_count a_want_count fd_want_count
  b_want_count : Binds K fd_want_count ["q"] []
  a_is_sign : Addr
  fd_is_sign : FuncData
  g_is_sign : mg "is_sign" = some (.ref a_is_sign)
  F_is_sign : Fun K "is_sign" "is_sign" S_is_sign a_is_sign fd_is_sign
  b_is_sign : Binds K fd_is_sign ["q", "thing"] []
  a_want_word : Addr
  fd_want_word : FuncData
  g_want_word : mg "want_word" = some (.ref a_want_word)
  F_want_word : Fun K "want_word" "want_word" S_want_word a_want_word fd_want_word
  b_want_word : Binds K fd_want_word ["q", "word"] []
  a_show_word : Addr
  fd_show_word : FuncData
  g_show_word : mg "show_word" = some (.ref a_show_word)
  F_show_word : Fun K "show_word" "show_word" S_show_word a_show_word fd_show_word
  b_show_word : Binds K fd_show_word ["q", "word"] []
  a_read_word : Addr
  fd_read_word : FuncData
  g_read_word : mg "read_word" = some (.ref a_read_word)
  F_read_word : Fun K "read_word" "read_word" S_read_word a_read_word fd_read_word
  b_read_word : Binds K fd_read_word ["q", "text"] []
  a_L_at : Addr
  fd_L_at : FuncData
  g_L_at : mg "_law_at" = some (.ref a_L_at)
  F_L_at : Fun K "_law_at" "_law_at" S_L_at a_L_at fd_L_at
  b_L_at : Binds K fd_L_at ["_law_script", "_law_k"] []
  a_L_pot : Addr
  fd_L_pot : FuncData
  g_L_pot : mg "_law_pot" = some (.ref a_L_pot)
  F_L_pot : Fun K "_law_pot" "_law_pot" S_L_pot a_L_pot fd_L_pot
  b_L_pot : Binds K fd_L_pot ["_law_script", "_law_k"] []
  a_L_digit : Addr
  fd_L_digit : FuncData
  g_L_digit : mg "_law_digit" = some (.ref a_L_digit)
  F_L_digit : Fun K "_law_digit" "_law_digit" S_L_digit a_L_digit fd_L_digit
  b_L_digit : Binds K fd_L_digit ["_law_pot_here", "_law_base"] []
  a_L_long : Addr
  fd_L_long : FuncData
  g_L_long : mg "_law_long" = some (.ref a_L_long)
  F_L_long : Fun K "_law_long" "_law_long" S_L_long a_L_long fd_L_long
  b_L_long : Binds K fd_L_long ["_law_pot_here", "_law_q", "_law_n"] []
  a_L_word : Addr
  fd_L_word : FuncData
  g_L_word : mg "_law_word" = some (.ref a_L_word)
  F_L_word : Fun K "_law_word" "_law_word" S_L_word a_L_word fd_L_word
  b_L_word : Binds K fd_L_word ["_law_pot_here", "_law_q", "_law_most"] []
  a_L_runny : Addr
  fd_L_runny : FuncData
  g_L_runny : mg "_law_runny" = some (.ref a_L_runny)
  F_L_runny : Fun K "_law_runny" "_law_runny" S_L_runny a_L_runny fd_L_runny
  b_L_runny : Binds K fd_L_runny ["_law_pot_here", "_law_q", "_law_most"] []
  a_L_plain : Addr
  fd_L_plain : FuncData
  g_L_plain : mg "_law_plain" = some (.ref a_L_plain)
  F_L_plain : Fun K "_law_plain" "_law_plain" S_L_plain a_L_plain fd_L_plain
  b_L_plain : Binds K fd_L_plain ["_law_found"] []
  a_L_is_word : Addr
  fd_L_is_word : FuncData
  g_L_is_word : mg "_law_is_word" = some (.ref a_L_is_word)
  F_L_is_word : Fun K "_law_is_word" "_law_is_word" S_L_is_word a_L_is_word fd_L_is_word
  b_L_is_word : Binds K fd_L_is_word ["_law_found", "_law_due"] []
  a_L_kind : Addr
  fd_L_kind : FuncData
  g_L_kind : mg "_law_kind" = some (.ref a_L_kind)
  F_L_kind : Fun K "_law_kind" "_law_kind" S_L_kind a_L_kind fd_L_kind
  b_L_kind : Binds K fd_L_kind ["_law_e"] []
  a_L_answer : Addr
  fd_L_answer : FuncData
  g_L_answer : mg "_law_answer" = some (.ref a_L_answer)
  F_L_answer : Fun K "_law_answer" "_law_answer" S_L_answer a_L_answer fd_L_answer
  b_L_answer : Binds K fd_L_answer ["_law_q", "_law_text"] []
  a_L_shown : Addr
  fd_L_shown : FuncData
  g_L_shown : mg "_law_shown" = some (.ref a_L_shown)
  F_L_shown : Fun K "_law_shown" "_law_shown" S_L_shown a_L_shown fd_L_shown
  b_L_shown : Binds K fd_L_shown ["_law_q", "_law_word_here"] []
  a_L_signs : Addr
  fd_L_signs : FuncData
  g_L_signs : mg "_law_signs" = some (.ref a_L_signs)
  F_L_signs : Fun K "_law_signs" "_law_signs" S_L_signs a_L_signs fd_L_signs
  b_L_signs : Binds K fd_L_signs ["_law_pot_here", "_law_text"] []
  a_law : Addr
  fd_law : FuncData
  g_law : mg "law" = some (.ref a_law)
  F_law : Fun K "law" "law" S_law a_law fd_law
  b_law : Binds K fd_law ["_law_script"] []
  ac_MarkError : Addr
  xc_MarkError : XC K mg "MarkError" ac_MarkError
  ac_NoCount : Addr
  xc_NoCount : XC K mg "NoCount" ac_NoCount
  ac_NoLength : Addr
  xc_NoLength : XC K mg "NoLength" ac_NoLength
  ac_NoMember : Addr
  xc_NoMember : XC K mg "NoMember" ac_NoMember
  ac_NoNumber : Addr
  xc_NoNumber : XC K mg "NoNumber" ac_NoNumber
  ac_NoPlace : Addr
  xc_NoPlace : XC K mg "NoPlace" ac_NoPlace
  ac_NoRest : Addr
  xc_NoRest : XC K mg "NoRest" ac_NoRest
  ac_NoRow : Addr
  xc_NoRow : XC K mg "NoRow" ac_NoRow
  ac_NoSign : Addr
  xc_NoSign : XC K mg "NoSign" ac_NoSign
  ac_NoText : Addr
  xc_NoText : XC K mg "NoText" ac_NoText
  ac_NoWord : Addr
  xc_NoWord : XC K mg "NoWord" ac_NoWord
  ac_TooMany : Addr
  xc_TooMany : XC K mg "TooMany" ac_TooMany
  ex_NoCount : ExcC K ac_NoCount
  ex_NoText : ExcC K ac_NoText
  ex_NoWord : ExcC K ac_NoWord
  sub_NoCount_MarkError : PySem.W.subIn K (.ref ac_NoCount) (.ref ac_MarkError) = some true
  sub_NoCount_NoCount : PySem.W.subIn K (.ref ac_NoCount) (.ref ac_NoCount) = some true
  sub_NoCount_NoLength : PySem.W.subIn K (.ref ac_NoCount) (.ref ac_NoLength) = some false
  sub_NoCount_NoMember : PySem.W.subIn K (.ref ac_NoCount) (.ref ac_NoMember) = some false
  sub_NoCount_NoNumber : PySem.W.subIn K (.ref ac_NoCount) (.ref ac_NoNumber) = some false
  sub_NoCount_NoPlace : PySem.W.subIn K (.ref ac_NoCount) (.ref ac_NoPlace) = some false
  sub_NoCount_NoRest : PySem.W.subIn K (.ref ac_NoCount) (.ref ac_NoRest) = some false
  sub_NoCount_NoRow : PySem.W.subIn K (.ref ac_NoCount) (.ref ac_NoRow) = some false
  sub_NoCount_NoSign : PySem.W.subIn K (.ref ac_NoCount) (.ref ac_NoSign) = some false
  sub_NoCount_NoText : PySem.W.subIn K (.ref ac_NoCount) (.ref ac_NoText) = some false
  sub_NoCount_NoWord : PySem.W.subIn K (.ref ac_NoCount) (.ref ac_NoWord) = some false
  sub_NoCount_TooMany : PySem.W.subIn K (.ref ac_NoCount) (.ref ac_TooMany) = some false
  sub_NoText_MarkError : PySem.W.subIn K (.ref ac_NoText) (.ref ac_MarkError) = some true
  sub_NoText_NoCount : PySem.W.subIn K (.ref ac_NoText) (.ref ac_NoCount) = some false
  sub_NoText_NoLength : PySem.W.subIn K (.ref ac_NoText) (.ref ac_NoLength) = some false
  sub_NoText_NoMember : PySem.W.subIn K (.ref ac_NoText) (.ref ac_NoMember) = some false
  sub_NoText_NoNumber : PySem.W.subIn K (.ref ac_NoText) (.ref ac_NoNumber) = some false
  sub_NoText_NoPlace : PySem.W.subIn K (.ref ac_NoText) (.ref ac_NoPlace) = some false
  sub_NoText_NoRest : PySem.W.subIn K (.ref ac_NoText) (.ref ac_NoRest) = some false
  sub_NoText_NoRow : PySem.W.subIn K (.ref ac_NoText) (.ref ac_NoRow) = some false
  sub_NoText_NoSign : PySem.W.subIn K (.ref ac_NoText) (.ref ac_NoSign) = some false
  sub_NoText_NoText : PySem.W.subIn K (.ref ac_NoText) (.ref ac_NoText) = some true
  sub_NoText_NoWord : PySem.W.subIn K (.ref ac_NoText) (.ref ac_NoWord) = some false
  sub_NoText_TooMany : PySem.W.subIn K (.ref ac_NoText) (.ref ac_TooMany) = some false
  sub_NoWord_MarkError : PySem.W.subIn K (.ref ac_NoWord) (.ref ac_MarkError) = some true
  sub_NoWord_NoCount : PySem.W.subIn K (.ref ac_NoWord) (.ref ac_NoCount) = some false
  sub_NoWord_NoLength : PySem.W.subIn K (.ref ac_NoWord) (.ref ac_NoLength) = some false
  sub_NoWord_NoMember : PySem.W.subIn K (.ref ac_NoWord) (.ref ac_NoMember) = some false
  sub_NoWord_NoNumber : PySem.W.subIn K (.ref ac_NoWord) (.ref ac_NoNumber) = some false
  sub_NoWord_NoPlace : PySem.W.subIn K (.ref ac_NoWord) (.ref ac_NoPlace) = some false
  sub_NoWord_NoRest : PySem.W.subIn K (.ref ac_NoWord) (.ref ac_NoRest) = some false
  sub_NoWord_NoRow : PySem.W.subIn K (.ref ac_NoWord) (.ref ac_NoRow) = some false
  sub_NoWord_NoSign : PySem.W.subIn K (.ref ac_NoWord) (.ref ac_NoSign) = some false
  sub_NoWord_NoText : PySem.W.subIn K (.ref ac_NoWord) (.ref ac_NoText) = some false
  sub_NoWord_NoWord : PySem.W.subIn K (.ref ac_NoWord) (.ref ac_NoWord) = some true
  sub_NoWord_TooMany : PySem.W.subIn K (.ref ac_NoWord) (.ref ac_TooMany) = some false
  z_ValueError : mg "ValueError" = none
  z_all : mg "all" = none
  z_bool : mg "bool" = none
  z_int : mg "int" = none
  z_isinstance : mg "isinstance" = none
  z_len : mg "len" = none
  z_list : mg "list" = none
  z_range : mg "range" = none
  z_str : mg "str" = none
  z_tuple : mg "tuple" = none
  t_LEAST_SIGNS : Tok
  c_LEAST_SIGNS : mg "LEAST_SIGNS" = some (.int 2 t_LEAST_SIGNS)
  t_MOST_LENGTH : Tok
  c_MOST_LENGTH : mg "MOST_LENGTH" = some (.int 60 t_MOST_LENGTH)
  t_MOST_SIGNS : Tok
  c_MOST_SIGNS : mg "MOST_SIGNS" = some (.int 36 t_MOST_SIGNS)
  t_SIGNS : Tok
  c_SIGNS : mg "SIGNS" = some (.str (PySem.Str.ofString "0123456789abcdefghijklmnopqrstuvwxyz") t_SIGNS)
theorem kits_NoCount {K : PySem.W.Frag} {mg : Str → Option Value} (T : Txt K mg) : PySem.W.kitOne K (.ref T.ac_NoCount) (.ref T.ac_NoCount) = some true ∧ PySem.W.kitOne K (.ref T.ac_NoCount) (.ref T.ac_NoLength) = some false ∧ PySem.W.kitOne K (.ref T.ac_NoCount) (.ref T.ac_NoMember) = some false ∧ PySem.W.kitOne K (.ref T.ac_NoCount) (.ref T.ac_NoNumber) = some false ∧ PySem.W.kitOne K (.ref T.ac_NoCount) (.ref T.ac_NoPlace) = some false ∧ PySem.W.kitOne K (.ref T.ac_NoCount) (.ref T.ac_NoRest) = some false ∧ PySem.W.kitOne K (.ref T.ac_NoCount) (.ref T.ac_NoRow) = some false ∧ PySem.W.kitOne K (.ref T.ac_NoCount) (.ref T.ac_NoSign) = some false ∧ PySem.W.kitOne K (.ref T.ac_NoCount) (.ref T.ac_NoText) = some false ∧ PySem.W.kitOne K (.ref T.ac_NoCount) (.ref T.ac_NoWord) = some false ∧ PySem.W.kitOne K (.ref T.ac_NoCount) (.ref T.ac_TooMany) = some false ∧ PySem.W.kitOne K (.ref T.ac_NoCount) (.type "ValueError") = some true := ⟨T.xc_NoCount.kit T.sub_NoCount_NoCount, T.xc_NoLength.kit T.sub_NoCount_NoLength, T.xc_NoMember.kit T.sub_NoCount_NoMember, T.xc_NoNumber.kit T.sub_NoCount_NoNumber, T.xc_NoPlace.kit T.sub_NoCount_NoPlace, T.xc_NoRest.kit T.sub_NoCount_NoRest, T.xc_NoRow.kit T.sub_NoCount_NoRow, T.xc_NoSign.kit T.sub_NoCount_NoSign, T.xc_NoText.kit T.sub_NoCount_NoText, T.xc_NoWord.kit T.sub_NoCount_NoWord, T.xc_TooMany.kit T.sub_NoCount_TooMany, T.xc_NoCount.kitV⟩
theorem kits_NoText {K : PySem.W.Frag} {mg : Str → Option Value} (T : Txt K mg) : PySem.W.kitOne K (.ref T.ac_NoText) (.ref T.ac_NoCount) = some false ∧ PySem.W.kitOne K (.ref T.ac_NoText) (.ref T.ac_NoLength) = some false ∧ PySem.W.kitOne K (.ref T.ac_NoText) (.ref T.ac_NoMember) = some false ∧ PySem.W.kitOne K (.ref T.ac_NoText) (.ref T.ac_NoNumber) = some false ∧ PySem.W.kitOne K (.ref T.ac_NoText) (.ref T.ac_NoPlace) = some false ∧ PySem.W.kitOne K (.ref T.ac_NoText) (.ref T.ac_NoRest) = some false ∧ PySem.W.kitOne K (.ref T.ac_NoText) (.ref T.ac_NoRow) = some false ∧ PySem.W.kitOne K (.ref T.ac_NoText) (.ref T.ac_NoSign) = some false ∧ PySem.W.kitOne K (.ref T.ac_NoText) (.ref T.ac_NoText) = some true ∧ PySem.W.kitOne K (.ref T.ac_NoText) (.ref T.ac_NoWord) = some false ∧ PySem.W.kitOne K (.ref T.ac_NoText) (.ref T.ac_TooMany) = some false ∧ PySem.W.kitOne K (.ref T.ac_NoText) (.type "ValueError") = some true := ⟨T.xc_NoCount.kit T.sub_NoText_NoCount, T.xc_NoLength.kit T.sub_NoText_NoLength, T.xc_NoMember.kit T.sub_NoText_NoMember, T.xc_NoNumber.kit T.sub_NoText_NoNumber, T.xc_NoPlace.kit T.sub_NoText_NoPlace, T.xc_NoRest.kit T.sub_NoText_NoRest, T.xc_NoRow.kit T.sub_NoText_NoRow, T.xc_NoSign.kit T.sub_NoText_NoSign, T.xc_NoText.kit T.sub_NoText_NoText, T.xc_NoWord.kit T.sub_NoText_NoWord, T.xc_TooMany.kit T.sub_NoText_TooMany, T.xc_NoText.kitV⟩
theorem kits_NoWord {K : PySem.W.Frag} {mg : Str → Option Value} (T : Txt K mg) : PySem.W.kitOne K (.ref T.ac_NoWord) (.ref T.ac_NoCount) = some false ∧ PySem.W.kitOne K (.ref T.ac_NoWord) (.ref T.ac_NoLength) = some false ∧ PySem.W.kitOne K (.ref T.ac_NoWord) (.ref T.ac_NoMember) = some false ∧ PySem.W.kitOne K (.ref T.ac_NoWord) (.ref T.ac_NoNumber) = some false ∧ PySem.W.kitOne K (.ref T.ac_NoWord) (.ref T.ac_NoPlace) = some false ∧ PySem.W.kitOne K (.ref T.ac_NoWord) (.ref T.ac_NoRest) = some false ∧ PySem.W.kitOne K (.ref T.ac_NoWord) (.ref T.ac_NoRow) = some false ∧ PySem.W.kitOne K (.ref T.ac_NoWord) (.ref T.ac_NoSign) = some false ∧ PySem.W.kitOne K (.ref T.ac_NoWord) (.ref T.ac_NoText) = some false ∧ PySem.W.kitOne K (.ref T.ac_NoWord) (.ref T.ac_NoWord) = some true ∧ PySem.W.kitOne K (.ref T.ac_NoWord) (.ref T.ac_TooMany) = some false ∧ PySem.W.kitOne K (.ref T.ac_NoWord) (.type "ValueError") = some true := ⟨T.xc_NoCount.kit T.sub_NoWord_NoCount, T.xc_NoLength.kit T.sub_NoWord_NoLength, T.xc_NoMember.kit T.sub_NoWord_NoMember, T.xc_NoNumber.kit T.sub_NoWord_NoNumber, T.xc_NoPlace.kit T.sub_NoWord_NoPlace, T.xc_NoRest.kit T.sub_NoWord_NoRest, T.xc_NoRow.kit T.sub_NoWord_NoRow, T.xc_NoSign.kit T.sub_NoWord_NoSign, T.xc_NoText.kit T.sub_NoWord_NoText, T.xc_NoWord.kit T.sub_NoWord_NoWord, T.xc_TooMany.kit T.sub_NoWord_TooMany, T.xc_NoWord.kitV⟩
/-! own steps under names of «walk_at»: sq finds what stands in a later heap; sx goes on in a reading as far as it goes by itself -/
local macro_rules | `(tactic| walk_at "ar") => `(tactic| first | omega | decide | (simp only [List.length_cons, List.length_nil, List.length_map, List.length_append, List.length_singleton]; omega))
local macro_rules | `(tactic| walk_at "sq") => `(tactic| first
  | assumption
  | exact SqL.of (by assumption)
  | exact SqT.of (by assumption)
  | ((with_reducible refine' Evl.ex_t (by assumption) ?k); (case k => walk_at "sq"))
  | ((with_reducible refine' Evl.ex_l (by assumption) ?k); (case k => walk_at "sq"))
  | ((with_reducible refine' exH (by assumption) ?k); (case k => walk_at "sq"))
  | ((with_reducible refine' exB_t (by assumption) ?a ?b); (case a => walk_at "sq"); (case b => walk_at "sq"))
  | ((with_reducible refine' exBH (by assumption) ?a ?b); (case a => assumption); (case b => walk_at "sq"))
  | ((with_reducible refine' exB_l (by assumption) ?a ?b); (case a => assumption); (case b => walk_at "sq")))
local macro_rules | `(tactic| walk_at "sx1") => `(tactic| first
  | ((with_reducible refine' w_var ?h ?_); (case h => with_unfolding_all rfl))
  | with_reducible refine' w_c ?_
  | with_reducible refine' w_op ?_
  | with_reducible refine' w_cb ?_
  | with_reducible refine' w_cons ?_
  | with_reducible refine' w_nil ?_
  | with_reducible refine' w_call ?_
  | with_reducible refine' w_test ?_
  | with_reducible refine' w_tB ?_
  | with_reducible refine' w_bl ?_
  | with_reducible refine' w_int ?_
  | with_reducible refine' q_asg ?_
  | with_reducible refine' z_asg ?_
  | with_reducible refine' q_asgT ?_
  | with_reducible refine' z_asgT ?_
  | with_reducible refine' l_un ?_
  | ((with_reducible refine' g_tup ?h ?hn ?_); (case h => walk_at "sq"); (case hn => rfl))
  | with_reducible refine' q_drop ?_
  | with_reducible refine' z_drop ?_
  | with_reducible refine' q_if ?_
  | with_reducible refine' z_if ?_
  | with_reducible refine' z_ret ?_
  | with_reducible refine' z_retN ?_
  | with_reducible refine' z_next ?_
  | with_reducible refine' q_par ?_
  | with_reducible refine' w_two ?_
  | with_reducible refine' w_tupRev ?_
  | with_reducible refine' w_sortSet ?_
  | with_reducible refine' l_notB ?_
  | with_reducible refine' l_isB ?_
  | with_reducible refine' q_set ?_
  | with_reducible refine' z_set ?_
  | with_reducible refine' q_for ?_
  | with_reducible refine' z_for ?_
  | ((with_reducible refine' q_aug ?h ?_); (case h => with_unfolding_all rfl))
  | ((with_reducible refine' z_aug ?h ?_); (case h => with_unfolding_all rfl))
  | with_reducible refine' l_ip ?_
  | with_reducible refine' w_un ?_
  | with_reducible refine' w_chain ?_
  | with_reducible refine' w_tup ?_
  | with_reducible refine' w_lst ?_
  | with_reducible refine' w_and ?_
  | with_reducible refine' w_or ?_
  | with_reducible refine' w_not ?_
  | with_reducible refine' w_andV ?_
  | with_reducible refine' w_orV ?_
  | with_reducible refine' w_notV ?_
  | with_reducible refine' w_if ?_
  | with_reducible refine' w_no ?_
  | with_reducible refine' w_part ?_
  | with_reducible refine' w_sl ?_
  | with_reducible refine' w_yes ?_
  | with_reducible refine' w_lc ?_
  | with_reducible refine' w_bm ?_
  | with_reducible refine' w_bm0 ?_
  | with_reducible refine' i_seq ?_
  | with_reducible refine' i_rng1 ?_
  | with_reducible refine' i_rng2 ?_
  | with_reducible refine' i_enumP ?_
  | with_reducible refine' q_augS ?_
  | with_reducible refine' z_augS ?_
  | with_reducible refine' i_rng3 ?_
  | with_reducible refine' i_zip ?_
  | with_reducible refine' w_fld ?_
  | with_reducible refine' q_fld ?_
  | with_reducible refine' z_fld ?_
  | with_reducible refine' w_meth ?_
  | with_reducible refine' w_make ?_
  | with_reducible refine' g_name ?_
  | with_reducible refine' g_fld ?_
  | with_reducible refine' g_cons ?_
  | with_reducible refine' g_nil ?_
  | with_reducible refine' iteT ?_
  | with_reducible refine' iteF ?_
  | with_reducible refine' iteNT ?_
  | with_reducible refine' iteNF ?_
  | with_reducible refine' l_add ?_
  | with_reducible refine' l_sub ?_
  | ((with_reducible refine' l_mod ?h ?_); (case h => walk_at "ar"))
  | ((with_reducible refine' l_div ?h ?_); (case h => walk_at "ar"))
  | ((with_reducible refine' l_mul ?h ?_); (case h => walk_at "ar"))
  | ((with_reducible refine' l_pow ?h ?_); (case h => decide))
  | with_reducible refine' l_lt ?_
  | with_reducible refine' l_leQ ?_
  | with_reducible refine' l_gt ?_
  | with_reducible refine' l_ge ?_
  | with_reducible refine' l_eqI ?_
  | with_reducible refine' l_neI ?_
  | with_reducible refine' l_abs ?_
  | with_reducible refine' l_intB ?_
  | with_reducible refine' l_max2 ?_
  | with_reducible refine' l_min2 ?_
  | ((with_reducible refine' l_lenT ?h ?_); (case h => walk_at "sq"))
  | ((with_reducible refine' l_lenL ?h ?_); (case h => walk_at "sq"))
  | ((with_reducible refine' l_lenQ (l_lenT ?h ?_)); (case h => walk_at "sq"))
  | ((with_reducible refine' l_lenQ (l_lenL ?h ?_)); (case h => walk_at "sq"))
  | ((with_reducible refine' l_seqT ?h ?_); (case h => walk_at "sq"))
  | ((with_reducible refine' l_seqL ?h ?_); (case h => walk_at "sq"))
  | ((with_reducible refine' l_rng1 ?h ?_); (case h => walk_at "ar"))
  | ((with_reducible refine' l_rng2 ?h ?_); (case h => walk_at "ar"))
  | ((with_reducible refine' l_rngD ?h ?_); (case h => walk_at "ar"))
  | ((with_reducible refine' l_zipL ?h ?h2 ?_); (case h => walk_at "sq"); (case h2 => walk_at "sq"))
  | ((with_reducible refine' l_zipT ?h ?h2 ?_); (case h => walk_at "sq"); (case h2 => walk_at "sq"))
  | ((with_reducible refine' l_enumT ?h ?_); (case h => walk_at "sq"))
  | ((with_reducible refine' l_enumL ?h ?_); (case h => walk_at "sq"))
  | ((with_reducible refine' l_tyL ?h ?_); (case h => walk_at "sq"))
  | dsimp only [List.set_cons_zero, List.set_cons_succ, isNum, Bool.not_true, Bool.not_false])
local macro_rules | `(tactic| walk_at "sx") => `(tactic| repeat (walk_at "sx1"))
local macro_rules | `(tactic| walk_at "sx1") => `(tactic| first
  | with_reducible refine' w_m1 ?_
  | with_reducible refine' w_m0 ?_
  | with_reducible refine' l_tyS ?_
  | with_reducible refine' i_str ?_
  | with_reducible refine' l_its ?_
  | with_reducible refine' l_inS ?_)
local macro_rules | `(tactic| walk_at "sx1") => `(tactic| first
  | with_reducible refine' z_raise ?_
  | with_reducible refine' q_raise ?_
  | with_reducible refine' z_raiseV ?_
  | with_reducible refine' q_raiseV ?_
  | with_reducible refine' w_callS ?_
  | with_reducible refine' w_callE ?_
  | ((with_reducible refine' l_isX1 ?h ?e ?_); (case h => assumption); (case e => assumption))
  | ((with_reducible refine' l_isXV ?h ?e ?_); (case h => assumption); (case e => assumption)))
local macro_rules | `(tactic| walk_at "ka") => `(tactic| repeat (first | exact kitAny_na | refine kitAny_fa (by assumption) ?_))
section
variable {P : Program} {w : World} {K : PySem.W.Frag} {mg : Str → Option Value} {base : Heap}
theorem ok_is_number (T : Txt K mg) : FnOk P w K mg base CX0 1 T.a_is_number T.fd_is_number ["thing"] (sp_is_number K) := by
  refine T.F_is_number.ok sc_is_number (fun vs H Q E h => match vs, h with | [_], _ => rfl) (fun cdv A outer s H vs Q E hr h => ?_)
  refine ⟨_, ((pss_one (ps_ret (pe_and (pe_callB (call_isiK' (K := K) rfl) (by rfl) T.z_isinstance (by decide +kernel) (pa_cons (pv 0) (pa_cons (pe_bltn (v := .ty "int") (by rfl) T.z_int (by decide +kernel) rfl) pa_nil))) (pe_one (pe_not (pe_callB (call_isiK' (K := K) rfl) (by rfl) T.z_isinstance (by decide +kernel) (pa_cons (pv 0) (pa_cons (pe_bltn (v := .ty "bool") (by rfl) T.z_bool (by decide +kernel) rfl) pa_nil))))))))), ?_⟩
  match vs, h with
  | [x0], h =>
  replace h : s_is_number K x0 H Q E := h
  try dsimp only [cxOf, Cx.nox, Cx.wish]
  show (_ : TS) { nx := fun _ H' => Q .non H', rt := Q } [some x0] H
  obtain ⟨T, hk, k⟩ := h
  cases hk with
  | int i => walk_at "sx"; refine l_isi (.int i) (b := true) (by decide +kernel) ?_; walk_at "sx"; refine l_isi (.int i) (b := false) (by decide +kernel) ?_; walk_at "sx"; exact k
  | bl i => walk_at "sx"; refine l_isi (.bl i) (b := true) (by decide +kernel) ?_; walk_at "sx"; refine l_isi (.bl i) (b := true) (by decide +kernel) ?_; walk_at "sx"; exact k
  | non => walk_at "sx"; refine l_isi .non (b := false) (by decide +kernel) ?_; walk_at "sx"; exact k
  | str i => walk_at "sx"; refine l_isi (.str i) (b := false) (by decide +kernel) ?_; walk_at "sx"; exact k
  | tup h => walk_at "sx"; refine l_isi (.tup h) (b := false) (by decide +kernel) ?_; walk_at "sx"; exact k
  | lst h => walk_at "sx"; refine l_isi (.lst h) (b := false) (by decide +kernel) ?_; walk_at "sx"; exact k
  | dct h => walk_at "sx"; refine l_isi (.dct h) (b := false) (by decide +kernel) ?_; walk_at "sx"; exact k
end
section
variable {P : Program} {w : World} {K : PySem.W.Frag} {mg : Str → Option Value} {base : Heap}
theorem ok_want_count (T : Txt K mg) (o_is_number : FnOk P w K mg base CX0 1 T.a_is_number T.fd_is_number ["thing"] (sp_is_number K)) : FnOk P w K mg base CX0 2 T.a_want_count T.fd_want_count ["q"] (sp_want_count K) := by
  refine T.F_want_count.ok sc_want_count (fun vs H Q E h => match vs, h with | [_], _ => rfl) (fun cdv A outer s H vs Q E hr h => ?_)
  refine ⟨_, ((pss_one (ps_if (PW.pt (pw_or (pt_not (pt_val (pe_call o_is_number hr rfl T.g_is_number T.F_is_number.kp T.b_is_number .nil pass0 (pa_cons (pv 0) pa_nil)))) (pw_or1 (pt_not (pt_chain (op_leQ (K := K) hr.units rfl) (op_leQ (K := K) hr.units rfl) (pe_glob (v := .int 2) rfl T.c_LEAST_SIGNS ⟨_, rfl⟩) (pv 0) (pe_glob (v := .int 36) rfl T.c_MOST_SIGNS ⟨_, rfl⟩)))))) (pss_one ps_never) pss_nil))), ?_⟩
  match vs, h with
  | [x0], h =>
  replace h : s_want_count K x0 H Q E := h
  try dsimp only [cxOf, Cx.nox, Cx.wish]
  show (_ : TS) { nx := fun _ H' => Q .non H', rt := Q } [some x0] H
  obtain ⟨q, rfl, hq, k⟩ := h
  walk_at "sx"
  refine ⟨"int", .int q, ?_⟩
  walk_at "sx"
  refine ifd (fun c => ?_) (fun c => absurd hq.1 c)
  walk_at "sx"
  refine ifdn (fun c => absurd hq.2 c) (fun c => ?_)
  walk_at "sx"
  exact k
theorem okb_want_count (T : Txt K mg) (o_is_number : FnOk P w K mg base CX0 1 T.a_is_number T.fd_is_number ["thing"] (sp_is_number K)) : FnOk P w K mg base (L2N.CX P w) 2 T.a_want_count T.fd_want_count ["q"] (spb_want_count K) := by
  refine Fun_okN T.F_want_count sc_want_count (fun vs H Q E h => match vs, h with | [_], _ => rfl) (fun cdv A outer s H vs Q E hr h => ?_)
  refine ⟨_, ((pss_one (ps_if (PW.pt (pw_or (pt_not (pt_val (pe_call o_is_number hr rfl T.g_is_number T.F_is_number.kp T.b_is_number .nil pass0 (pa_cons (pv 0) pa_nil)))) (pw_or1 (pt_not (pt_chain (op_leQ (K := K) hr.units rfl) (op_leQ (K := K) hr.units rfl) (pe_glob (v := .int 2) rfl T.c_LEAST_SIGNS ⟨_, rfl⟩) (pv 0) (pe_glob (v := .int 36) rfl T.c_MOST_SIGNS ⟨_, rfl⟩)))))) (pss_one (ps_raiseN rfl (L2N.takes_of rfl rfl rfl rfl) T.xc_NoCount (by rfl))) pss_nil))), ?_⟩
  match vs, h with
  | [x0], h =>
  replace h : sb_want_count K x0 H Q E := h
  try dsimp only [cxOf, Cx.nox, Cx.wish]
  show (_ : TS) { nx := fun _ H' => Q .non H', rt := Q } [some x0] H
  obtain ⟨T', hk, hb, k⟩ := h
  walk_at "sx"
  refine ⟨T', hk, ?_⟩
  cases x0 with
  | int i =>
    rw [numIn_int, Bool.and_eq_false_iff, decide_eq_false_iff_not, decide_eq_false_iff_not] at hb
    walk_at "sx"
    refine ifd (fun c => ?_) (fun c => ?_)
    · walk_at "sx"
      refine ifdn (fun c2 => ?_) (fun c2 => absurd hb (by omega))
      walk_at "sx"
      exact k.at_ T.xc_NoCount.n (Evl.Ex.refl _)
    · walk_at "sx"
      exact k.at_ T.xc_NoCount.n (Evl.Ex.refl _)
  | _ =>
    walk_at "sx"
    exact k.at_ T.xc_NoCount.n (Evl.Ex.refl _)
end
section
variable {P : Program} {w : World} {K : PySem.W.Frag} {mg : Str → Option Value} {base : Heap}
theorem ok_is_sign (T : Txt K mg) (o_is_number : FnOk P w K mg base CX0 1 T.a_is_number T.fd_is_number ["thing"] (sp_is_number K)) : FnOk P w K mg base CX0 2 T.a_is_sign T.fd_is_sign ["q", "thing"] (sp_is_sign K) := by
  refine T.F_is_sign.ok sc_is_sign (fun vs H Q E h => match vs, h with | [_, _], _ => rfl) (fun cdv A outer s H vs Q E hr h => ?_)
  refine ⟨_, ((pss_one (ps_ret (pe_and (pe_call o_is_number hr rfl T.g_is_number T.F_is_number.kp T.b_is_number .nil pass0 (pa_cons (pv 1) pa_nil)) (pe_one (pe_chain (op_leQ (K := K) hr.units rfl) op_ltP pe_int (pv 1) (pv 0))))))), ?_⟩
  match vs, h with
  | [x0, x1], h =>
  replace h : s_is_sign K x0 x1 H Q E := h
  try dsimp only [cxOf, Cx.nox, Cx.wish]
  show (_ : TS) { nx := fun _ H' => Q .non H', rt := Q } [some x0, some x1] H
  obtain ⟨q, T', rfl, hk, k⟩ := h
  walk_at "sx"
  refine ⟨T', hk, ?_⟩
  cases x1 with
  | int i =>
    walk_at "sx"
    refine ifd (fun c => ?_) (fun c => ?_)
    · walk_at "sx"
      have e : signOk q (.int i) = decide (i < q) := by show (decide (0 ≤ i) && decide (i < q)) = _; rw [decide_eq_true c]; rfl
      rw [e] at k
      exact k
    · have e : signOk q (.int i) = false := by show (decide (0 ≤ i) && decide (i < q)) = _; rw [decide_eq_false c]; rfl
      rw [e] at k
      exact k
  | non => walk_at "sx"; exact k
  | bl b => walk_at "sx"; exact k
  | str b => walk_at "sx"; exact k
  | byt b => walk_at "sx"; exact k
  | flt b => walk_at "sx"; exact k
  | ref b => walk_at "sx"; exact k
  | ty b => walk_at "sx"; exact k
end
section
variable {P : Program} {w : World} {K : PySem.W.Frag} {mg : Str → Option Value} {base : Heap}
theorem ok_want_word (T : Txt K mg) (o_is_sign : FnOk P w K mg base CX0 2 T.a_is_sign T.fd_is_sign ["q", "thing"] (sp_is_sign K)) (o_want_count : FnOk P w K mg base CX0 2 T.a_want_count T.fd_want_count ["q"] (sp_want_count K)) : FnOk P w K mg base CX0 3 T.a_want_word T.fd_want_word ["q", "word"] (sp_want_word K) := by
  refine T.F_want_word.ok sc_want_word (fun vs H Q E h => match vs, h with | [_, _], _ => rfl) (fun cdv A outer s H vs Q E hr h => ?_)
  refine ⟨_, ((pss_cons (ps_expr (pe_call o_want_count hr rfl T.g_want_count T.F_want_count.kp T.b_want_count .nil pass0 (pa_cons (pv 0) pa_nil)))
    (pss_one (ps_if (PW.pt (pw_or (pt_not (pt_val (pe_callB (call_isiK' (K := K) rfl) (by rfl) T.z_isinstance (by decide +kernel) (pa_cons (pv 1) (pa_cons (pe_bltn (v := .ty "tuple") (by rfl) T.z_tuple (by decide +kernel) rfl) pa_nil))))) (pw_or (pt_cmpR op_gtP (pe_callB (call_lenK (K := K) rfl) (by rfl) T.z_len (by decide +kernel) (pa_cons (pv 1) pa_nil)) (pe_glob (v := .int 60) rfl T.c_MOST_LENGTH ⟨_, rfl⟩) (nomark _)) (pw_or1 (pt_not (pt_val (pe_callB (cr_allK (K := K) rfl rfl) (by rfl) T.z_all (by decide +kernel) (pa_cons (pe_lc (own := [("sign", 2)]) (g := (gName 2)) (tt := tYes) rfl sc_want_word.nd (pi_seqK (K := K) rfl (pv 1)) (blkOk_by (own := [("sign", 2)]) (N := ["q", "word", "sign"]) (sc := defScope S_want_word) (by decide +kernel)) (fun _ _ _ _ _ => (pg_name (i := 2) sc_want_word.nd rfl (by first | exact Or.inl rfl | exact Or.inr rfl))) (fun _ _ _ _ _ => pts_nil) (fun _ _ _ _ _ => (pe_call o_is_sign hr rfl T.g_is_sign T.F_is_sign.kp T.b_is_sign .nil pass0 (pa_cons (pv 0) (pa_cons (pv 2) pa_nil))))) pa_nil)))))))) (pss_one ps_never) pss_nil)))), ?_⟩
  match vs, h with
  | [x0, x1], h =>
  replace h : s_want_word K x0 x1 H Q E := h
  try dsimp only [cxOf, Cx.nox, Cx.wish]
  show (_ : TS) { nx := fun _ H' => Q .non H', rt := Q } [some x0, some x1, none] H
  obtain ⟨q, ns, rfl, hq, ⟨a, rfl, hs, hl, hg⟩, k⟩ := h
  walk_at "sx"
  refine ⟨q, rfl, hq, ?_⟩
  walk_at "sx"
  refine l_isi (.tup hs) (b := true) (by decide +kernel) ?_
  walk_at "sx"
  refine ifd (fun c => ?_) (fun c => ?_)
  · rw [List.length_map] at c; omega
  walk_at "sx"
  refine l_lcT (fun x => .bl (signOk q x)) hs (by simp; omega) (fun _ => rfl) (fun x H1 hx e Q' k' => ?_) (fun D H1 hn e h1 => ?_)
  · obtain ⟨i, hi, rfl⟩ := List.mem_map.mp hx
    walk_at "sx"
    exact ⟨q, "int", rfl, .int i, k' _ (Evl.Ex.refl _)⟩
  · walk_at "sx"
    refine l_all (bs := ns.map fun i => signOk q (.int i)) (SqL.of (by rw [h1]; simp [List.map_map, Function.comp_def])) ?_
    walk_at "sx"
    have ea : (ns.map fun i => signOk q (.int i)).all id = true := by
      rw [List.all_eq_true]
      intro b hb
      obtain ⟨i, hi, rfl⟩ := List.mem_map.mp hb
      have := hg i hi
      simp [signOk, this.1, this.2]
    rw [ea]
    walk_at "sx"
    exact k _ e
theorem okb_want_word (T : Txt K mg) (o_is_sign : FnOk P w K mg base CX0 2 T.a_is_sign T.fd_is_sign ["q", "thing"] (sp_is_sign K)) (o_want_count : FnOk P w K mg base (L2N.CX P w) 2 T.a_want_count T.fd_want_count ["q"] (sx_want_count K)) : FnOk P w K mg base (L2N.CX P w) 3 T.a_want_word T.fd_want_word ["q", "word"] (spb_want_word K) := by
  refine Fun_okN T.F_want_word sc_want_word (fun vs H Q E h => match vs, h with | [_, _], _ => rfl) (fun cdv A outer s H vs Q E hr h => ?_)
  refine ⟨_, ((pss_cons (ps_expr (pe_call o_want_count hr rfl T.g_want_count T.F_want_count.kp T.b_want_count .nil (L2N.passes_call (E := E) (W := fun cls d _ H => E cls d H) (L2N.takes_of rfl rfl rfl rfl) (fun _ _ _ _ h => h)) (pa_cons (pv 0) pa_nil)))
    (pss_one (ps_if (PW.pt (pw_or (pt_not (pt_val (pe_callB (call_isiK' (K := K) rfl) (by rfl) T.z_isinstance (by decide +kernel) (pa_cons (pv 1) (pa_cons (pe_bltn (v := .ty "tuple") (by rfl) T.z_tuple (by decide +kernel) rfl) pa_nil))))) (pw_or (pt_cmpR op_gtP (pe_callB (call_lenK (K := K) rfl) (by rfl) T.z_len (by decide +kernel) (pa_cons (pv 1) pa_nil)) (pe_glob (v := .int 60) rfl T.c_MOST_LENGTH ⟨_, rfl⟩) (nomark _)) (pw_or1 (pt_not (pt_val (pe_callB (cr_allK (K := K) rfl rfl) (by rfl) T.z_all (by decide +kernel) (pa_cons (pe_lc (own := [("sign", 2)]) (g := (gName 2)) (tt := tYes) rfl sc_want_word.nd (pi_seqK (K := K) rfl (pv 1)) (blkOk_by (own := [("sign", 2)]) (N := ["q", "word", "sign"]) (sc := defScope S_want_word) (by decide +kernel)) (fun _ _ _ _ _ => (pg_name (i := 2) sc_want_word.nd rfl (by first | exact Or.inl rfl | exact Or.inr rfl))) (fun _ _ _ _ _ => pts_nil) (fun _ _ _ _ _ => (pe_call o_is_sign hr rfl T.g_is_sign T.F_is_sign.kp T.b_is_sign .nil pass0 (pa_cons (pv 0) (pa_cons (pv 2) pa_nil))))) pa_nil)))))))) (pss_one (ps_raiseN rfl (L2N.takes_of rfl rfl rfl rfl) T.xc_NoWord (by rfl))) pss_nil)))), ?_⟩
  match vs, h with
  | [x0, x1], h =>
  replace h : sb_want_word K x0 x1 H Q E := h
  try dsimp only [cxOf, Cx.nox, Cx.wish]
  show (_ : TS) { nx := fun _ H' => Q .non H', rt := Q } [some x0, some x1, none] H
  rcases h with ⟨T', hk, hb, k⟩ | ⟨q, rfl, hq, hw, k⟩
  · walk_at "sx"
    exact .inr ⟨T', hk, hb, k⟩
  walk_at "sx"
  refine .inl ⟨q, rfl, hq, ?_⟩
  cases hw with
  | kind h n =>
    walk_at "sx"
    refine l_isi h n ?_
    walk_at "sx"
    exact k.at_ T.xc_NoWord.n (Evl.Ex.refl _)
  | long h hl =>
    walk_at "sx"
    refine l_isi (.tup h) (b := true) (by decide +kernel) ?_
    walk_at "sx"
    refine ifd (fun c => ?_) (fun c => absurd hl (by omega))
    walk_at "sx"
    exact k.at_ T.xc_NoWord.n (Evl.Ex.refl _)
  | @sign a xs h hl hy hb =>
    walk_at "sx"
    refine l_isi (.tup h) (b := true) (by decide +kernel) ?_
    walk_at "sx"
    refine ifd (fun c => absurd hl (by omega)) (fun c => ?_)
    walk_at "sx"
    refine l_lcT (fun x => .bl (signOk q x)) h (by omega) (fun _ => rfl) (fun x H1 hx e Q' k' => ?_) (fun D H1 hn e h1 => ?_)
    · obtain ⟨T1, hT1⟩ := hy x hx
      walk_at "sx"
      exact ⟨q, T1, rfl, hT1.mono e, k' _ (Evl.Ex.refl _)⟩
    · walk_at "sx"
      refine l_all (bs := xs.map (signOk q)) (SqL.of (by rw [h1, List.map_map]; rfl)) ?_
      rw [List.all_map, show (id ∘ signOk q) = signOk q from rfl, hb]
      walk_at "sx"
      exact k.at_ T.xc_NoWord.n e
end
section
variable {P : Program} {w : World} {K : PySem.W.Frag} {mg : Str → Option Value} {base : Heap}
theorem ok_show_word (T : Txt K mg) (o_want_word : FnOk P w K mg base CX0 3 T.a_want_word T.fd_want_word ["q", "word"] (sp_want_word K)) : FnOk P w K mg base CX0 4 T.a_show_word T.fd_show_word ["q", "word"] (sp_show_word K) := by
  refine T.F_show_word.ok sc_show_word (fun vs H Q E h => match vs, h with | [_, _], _ => rfl) (fun cdv A outer s H vs Q E hr h => ?_)
  refine ⟨_, ((pss_cons (ps_expr (pe_call o_want_word hr rfl T.g_want_word T.F_want_word.kp T.b_want_word .nil pass0 (pa_cons (pv 0) (pa_cons (pv 1) pa_nil))))
    (pss_one (ps_ret (pe_joinK (K := K) rfl pe_str (pe_lc (own := [("sign", 2)]) (g := (gName 2)) (tt := tYes) rfl sc_show_word.nd (pi_seqK (K := K) rfl (pv 1)) (blkOk_by (own := [("sign", 2)]) (N := ["q", "word", "sign"]) (sc := defScope S_show_word) (by decide +kernel)) (fun _ _ _ _ _ => (pg_name (i := 2) sc_show_word.nd rfl (by first | exact Or.inl rfl | exact Or.inr rfl))) (fun _ _ _ _ _ => pts_nil) (fun _ _ _ _ _ => (pe_ix (ix_K (K := K) rfl) (pe_glob (v := .str (PySem.Str.ofString "0123456789abcdefghijklmnopqrstuvwxyz")) rfl T.c_SIGNS ⟨_, rfl⟩) (pv 2) (fun _ _ => rfl))))))))), ?_⟩
  match vs, h with
  | [x0, x1], h =>
  replace h : s_show_word K x0 x1 H Q E := h
  try dsimp only [cxOf, Cx.nox, Cx.wish]
  show (_ : TS) { nx := fun _ H' => Q .non H', rt := Q } [some x0, some x1, none] H
  obtain ⟨q, ns, rfl, hq, hw, k⟩ := h
  have hw0 := hw
  obtain ⟨a, rfl, hs, hl, hg⟩ := hw0
  have g36 : ∀ i ∈ ns, 0 ≤ i ∧ i < 36 := fun i hi => by have := hg i hi; omega
  walk_at "sx"
  refine ⟨q, ns, rfl, hq, hw, fun H1 e1 => ?_⟩
  walk_at "sx"
  refine l_lcT (fun x => match x with | .int i => .str ⟨#[ltr i]⟩ | v => v) (Evl.ex_t e1 hs) (by simp; omega) (fun _ => rfl) (fun x H2 hx e2 Q' k' => ?_) (fun D H2 hn2 e2 h2 => ?_)
  · obtain ⟨i, hi, rfl⟩ := List.mem_map.mp hx
    walk_at "sx"
    rw [lets_eq]
    exact l_ixS (by rw [sS_len]; decide) (by rw [sS_cps]; exact ltr_at (g36 i hi)) (k' _ (Evl.Ex.refl _))
  have hys : (ns.map V.int).map (fun x => match x with | .int i => V.str ⟨#[ltr i]⟩ | v => v) = ((ns.map ltr).map fun c => (⟨#[c]⟩ : Str)).map V.str := by
    rw [List.map_map, List.map_map, List.map_map]; rfl
  rw [hys] at h2
  have hem : (Str.ofString "").length = 0 := rfl
  refine l_joinL (SqL.of h2) (by rw [sum_sgl, hem]; simp; omega) ?_
  rw [join_sgl]
  exact k _ (e1.trans e2)
theorem okb_show_word (T : Txt K mg) (o_want_word : FnOk P w K mg base (L2N.CX P w) 3 T.a_want_word T.fd_want_word ["q", "word"] (sx_want_word K)) : FnOk P w K mg base (L2N.CX P w) 4 T.a_show_word T.fd_show_word ["q", "word"] (spb_show_word K) := by
  refine Fun_okN T.F_show_word sc_show_word (fun vs H Q E h => match vs, h with | [_, _], _ => rfl) (fun cdv A outer s H vs Q E hr h => ?_)
  refine ⟨_, ((pss_cons (ps_expr (pe_call o_want_word hr rfl T.g_want_word T.F_want_word.kp T.b_want_word .nil (L2N.passes_call (E := E) (W := fun cls d _ H => E cls d H) (L2N.takes_of rfl rfl rfl rfl) (fun _ _ _ _ h => h)) (pa_cons (pv 0) (pa_cons (pv 1) pa_nil))))
    (pss_one (ps_ret (pe_joinK (K := K) rfl pe_str (pe_lc (own := [("sign", 2)]) (g := (gName 2)) (tt := tYes) rfl sc_show_word.nd (pi_seqK (K := K) rfl (pv 1)) (blkOk_by (own := [("sign", 2)]) (N := ["q", "word", "sign"]) (sc := defScope S_show_word) (by decide +kernel)) (fun _ _ _ _ _ => (pg_name (i := 2) sc_show_word.nd rfl (by first | exact Or.inl rfl | exact Or.inr rfl))) (fun _ _ _ _ _ => pts_nil) (fun _ _ _ _ _ => (pe_ix (ix_K (K := K) rfl) (pe_glob (v := .str (PySem.Str.ofString "0123456789abcdefghijklmnopqrstuvwxyz")) rfl T.c_SIGNS ⟨_, rfl⟩) (pv 2) (fun _ _ => rfl))))))))), ?_⟩
  match vs, h with
  | [x0, x1], h =>
  replace h : sb_show_word K x0 x1 H Q E := h
  try dsimp only [cxOf, Cx.nox, Cx.wish]
  show (_ : TS) { nx := fun _ H' => Q .non H', rt := Q } [some x0, some x1, none] H
  walk_at "sx"
  exact .inr h
end
section
variable {P : Program} {w : World} {K : PySem.W.Frag} {mg : Str → Option Value} {base : Heap}
theorem ok_read_word (T : Txt K mg) (o_want_count : FnOk P w K mg base CX0 2 T.a_want_count T.fd_want_count ["q"] (sp_want_count K)) : FnOk P w K mg base CX0 3 T.a_read_word T.fd_read_word ["q", "text"] (sp_read_word K) := by
  refine T.F_read_word.ok sc_read_word (fun vs H Q E h => match vs, h with | [_, _], _ => rfl) (fun cdv A outer s H vs Q E hr h => ?_)
  refine ⟨_, ((pss_cons (ps_expr (pe_call o_want_count hr rfl T.g_want_count T.F_want_count.kp T.b_want_count .nil pass0 (pa_cons (pv 0) pa_nil)))
    (pss_cons (ps_if (PW.pt (pw_or (pt_not (pt_val (pe_callB (call_isiK' (K := K) rfl) (by rfl) T.z_isinstance (by decide +kernel) (pa_cons (pv 1) (pa_cons (pe_bltn (v := .ty "str") (by rfl) T.z_str (by decide +kernel) rfl) pa_nil))))) (pw_or1 (pt_cmpR op_gtP (pe_callB (call_lenK (K := K) rfl) (by rfl) T.z_len (by decide +kernel) (pa_cons (pv 1) pa_nil)) (pe_glob (v := .int 60) rfl T.c_MOST_LENGTH ⟨_, rfl⟩) (nomark _))))) (pss_one ps_never) pss_nil)
    (pss_cons (ps_if (pt_not (pt_val (pe_callB (cr_allK (K := K) rfl rfl) (by rfl) T.z_all (by decide +kernel) (pa_cons (pe_lc (own := [("sign", 2)]) (g := (gName 2)) (tt := tYes) rfl sc_read_word.nd (pi_str (pv 1)) (blkOk_by (own := [("sign", 2)]) (N := ["q", "text", "sign"]) (sc := defScope S_read_word) (by decide +kernel)) (fun _ _ _ _ _ => (pg_name (i := 2) sc_read_word.nd rfl (by first | exact Or.inl rfl | exact Or.inr rfl))) (fun _ _ _ _ _ => pts_nil) (fun _ _ _ _ _ => (pe_cmpR (op_inX (K := K) rfl) (pv 2) (pe_slice (sl_X (K := K) rfl) (pe_glob (v := .str (PySem.Str.ofString "0123456789abcdefghijklmnopqrstuvwxyz")) rfl T.c_SIGNS ⟨_, rfl⟩) po_none (po_some (pv 0))) (by rfl)))) pa_nil)))) (pss_one ps_never) pss_nil)
    (pss_one (ps_ret (pe_callTy (call_tupK (K := K) rfl) (by rfl) T.z_tuple (by decide +kernel) (pa_cons (pe_lc (own := [("sign", 2)]) (g := (gName 2)) (tt := tYes) rfl sc_read_word.nd (pi_str (pv 1)) (blkOk_by (own := [("sign", 2)]) (N := ["q", "text", "sign"]) (sc := defScope S_read_word) (by decide +kernel)) (fun _ _ _ _ _ => (pg_name (i := 2) sc_read_word.nd rfl (by first | exact Or.inl rfl | exact Or.inr rfl))) (fun _ _ _ _ _ => pts_nil) (fun _ _ _ _ _ => (pe_m1 F.slot_str_index F.type_str_index mt_sidx (pe_glob (v := .str (PySem.Str.ofString "0123456789abcdefghijklmnopqrstuvwxyz")) rfl T.c_SIGNS ⟨_, rfl⟩) (pv 2)))) pa_nil)))))))), ?_⟩
  match vs, h with
  | [x0, x1], h =>
  replace h : s_read_word K x0 x1 H Q E := h
  try dsimp only [cxOf, Cx.nox, Cx.wish]
  show (_ : TS) { nx := fun _ H' => Q .non H', rt := Q } [some x0, some x1, none] H
  obtain ⟨q, z, rfl, hq, rfl, hl, hc, k⟩ := h
  obtain ⟨q, rfl⟩ : ∃ n : Nat, q = n := ⟨q.toNat, by omega⟩
  walk_at "sx"
  refine ⟨q, rfl, hq, ?_⟩
  walk_at "sx"
  refine l_isi (.str z) (b := true) (by decide +kernel) ?_
  walk_at "sx"
  refine l_lenS (by omega) ?_
  walk_at "sx"
  refine ifd (fun c => absurd c (by omega)) (fun _ => ?_)
  walk_at "sx"
  refine l_lcS (fun c => .bl (decide (c ∈ lets.take q))) (by omega) (fun _ => rfl) (fun c H1 hcm e1 Q' k' => ?_) (fun D H1 hn1 e1 h1 => ?_)
  · walk_at "sx"
    rw [lets_eq]
    refine l_slS (by rw [sS_len]; decide) ?_
    rw [cutS_to, sS_cps]
    refine l_inS ?_
    rw [sS_cps]
    exact k' _ (Evl.Ex.refl _)
  walk_at "sx"
  refine l_all (bs := z.cps.toList.map fun c => decide (c ∈ lets.take q)) (SqL.of (by rw [h1, List.map_map]; rfl)) ?_
  have ea : (z.cps.toList.map fun c => decide (c ∈ lets.take q)).all id = true := by
    rw [List.all_eq_true]
    intro b hb
    obtain ⟨c, h2, rfl⟩ := List.mem_map.mp hb
    have := hc c h2
    rw [Int.toNat_natCast] at this
    simpa using this
  rw [ea]
  walk_at "sx"
  refine l_lcS (fun c => .int (idx c)) (by omega) (fun _ => rfl) (fun c H2 hcm e2 Q' k' => ?_) (fun D H2 hn2 e2 h2 => ?_)
  · walk_at "sx"
    rw [lets_eq]
    exact l_sidx (occ_ltr c (List.mem_of_mem_take (hc c hcm))) (k' _ (Evl.Ex.refl _))
  walk_at "sx"
  refine l_tupL (SqL.of h2) fun a H3 e3 h3 => ?_
  refine k a _ (e1.trans (e2.trans e3)) ?_
  rw [show (idxs z).map V.int = z.cps.toList.map fun c => V.int (idx c) by unfold idxs; rw [List.map_map]; rfl]
  exact h3
theorem okb_read_word (T : Txt K mg) (o_want_count : FnOk P w K mg base (L2N.CX P w) 2 T.a_want_count T.fd_want_count ["q"] (sx_want_count K)) : FnOk P w K mg base (L2N.CX P w) 3 T.a_read_word T.fd_read_word ["q", "text"] (spb_read_word K) := by
  refine Fun_okN T.F_read_word sc_read_word (fun vs H Q E h => match vs, h with | [_, _], _ => rfl) (fun cdv A outer s H vs Q E hr h => ?_)
  refine ⟨_, ((pss_cons (ps_expr (pe_call o_want_count hr rfl T.g_want_count T.F_want_count.kp T.b_want_count .nil (L2N.passes_call (E := E) (W := fun cls d _ H => E cls d H) (L2N.takes_of rfl rfl rfl rfl) (fun _ _ _ _ h => h)) (pa_cons (pv 0) pa_nil)))
    (pss_cons (ps_if (PW.pt (pw_or (pt_not (pt_val (pe_callB (call_isiK' (K := K) rfl) (by rfl) T.z_isinstance (by decide +kernel) (pa_cons (pv 1) (pa_cons (pe_bltn (v := .ty "str") (by rfl) T.z_str (by decide +kernel) rfl) pa_nil))))) (pw_or1 (pt_cmpR op_gtP (pe_callB (call_lenK (K := K) rfl) (by rfl) T.z_len (by decide +kernel) (pa_cons (pv 1) pa_nil)) (pe_glob (v := .int 60) rfl T.c_MOST_LENGTH ⟨_, rfl⟩) (nomark _))))) (pss_one (ps_raiseN rfl (L2N.takes_of rfl rfl rfl rfl) T.xc_NoText (by rfl))) pss_nil)
    (pss_cons (ps_if (pt_not (pt_val (pe_callB (cr_allK (K := K) rfl rfl) (by rfl) T.z_all (by decide +kernel) (pa_cons (pe_lc (own := [("sign", 2)]) (g := (gName 2)) (tt := tYes) rfl sc_read_word.nd (pi_str (pv 1)) (blkOk_by (own := [("sign", 2)]) (N := ["q", "text", "sign"]) (sc := defScope S_read_word) (by decide +kernel)) (fun _ _ _ _ _ => (pg_name (i := 2) sc_read_word.nd rfl (by first | exact Or.inl rfl | exact Or.inr rfl))) (fun _ _ _ _ _ => pts_nil) (fun _ _ _ _ _ => (pe_cmpR (op_inX (K := K) rfl) (pv 2) (pe_slice (sl_X (K := K) rfl) (pe_glob (v := .str (PySem.Str.ofString "0123456789abcdefghijklmnopqrstuvwxyz")) rfl T.c_SIGNS ⟨_, rfl⟩) po_none (po_some (pv 0))) (by rfl)))) pa_nil)))) (pss_one (ps_raiseN rfl (L2N.takes_of rfl rfl rfl rfl) T.xc_NoText (by rfl))) pss_nil)
    (pss_one (ps_ret (pe_callTy (call_tupK (K := K) rfl) (by rfl) T.z_tuple (by decide +kernel) (pa_cons (pe_lc (own := [("sign", 2)]) (g := (gName 2)) (tt := tYes) rfl sc_read_word.nd (pi_str (pv 1)) (blkOk_by (own := [("sign", 2)]) (N := ["q", "text", "sign"]) (sc := defScope S_read_word) (by decide +kernel)) (fun _ _ _ _ _ => (pg_name (i := 2) sc_read_word.nd rfl (by first | exact Or.inl rfl | exact Or.inr rfl))) (fun _ _ _ _ _ => pts_nil) (fun _ _ _ _ _ => (pe_m1 F.slot_str_index F.type_str_index mt_sidx (pe_glob (v := .str (PySem.Str.ofString "0123456789abcdefghijklmnopqrstuvwxyz")) rfl T.c_SIGNS ⟨_, rfl⟩) (pv 2)))) pa_nil)))))))), ?_⟩
  match vs, h with
  | [x0, x1], h =>
  replace h : sb_read_word K x0 x1 H Q E := h
  try dsimp only [cxOf, Cx.nox, Cx.wish]
  show (_ : TS) { nx := fun _ H' => Q .non H', rt := Q } [some x0, some x1, none] H
  rcases h with ⟨T1, hk, hb, k⟩ | ⟨q, rfl, hq, hb, k⟩
  · walk_at "sx"
    exact .inr ⟨T1, hk, hb, k⟩
  obtain ⟨q, rfl⟩ : ∃ n : Nat, q = n := ⟨q.toNat, by omega⟩
  walk_at "sx"
  refine .inl ⟨q, rfl, hq, ?_⟩
  walk_at "sx"
  cases hb with
  | kind h n =>
    refine l_isi h n ?_
    walk_at "sx"
    exact k.at_ T.xc_NoText.n (Evl.Ex.refl _)
  | @long z h hl =>
    refine l_isi (.str z) (b := true) (by decide +kernel) ?_
    walk_at "sx"
    refine l_lenS (by omega) ?_
    walk_at "sx"
    refine ifd (fun _ => ?_) (fun c => absurd h (by omega))
    walk_at "sx"
    exact k.at_ T.xc_NoText.n (Evl.Ex.refl _)
  | @sign z h hc =>
    refine l_isi (.str z) (b := true) (by decide +kernel) ?_
    walk_at "sx"
    refine l_lenS (by omega) ?_
    walk_at "sx"
    refine ifd (fun c => absurd c (by omega)) (fun _ => ?_)
    walk_at "sx"
    refine l_lcS (fun c => .bl (decide (c ∈ lets.take q))) (by omega) (fun _ => rfl) (fun c H1 hcm e1 Q' k' => ?_) (fun D H1 hn1 e1 h1 => ?_)
    · walk_at "sx"
      rw [lets_eq]
      refine l_slS (by rw [sS_len]; decide) ?_
      rw [cutS_to, sS_cps]
      refine l_inS ?_
      rw [sS_cps]
      exact k' _ (Evl.Ex.refl _)
    walk_at "sx"
    refine l_all (bs := z.cps.toList.map fun c => decide (c ∈ lets.take q)) (SqL.of (by rw [h1, List.map_map]; rfl)) ?_
    have ea : (z.cps.toList.map fun c => decide (c ∈ lets.take q)).all id = false := by
      cases hh : (z.cps.toList.map fun c => decide (c ∈ lets.take q)).all id with
      | false => rfl
      | true =>
        exfalso
        refine hc fun c h2 => ?_
        rw [List.all_eq_true] at hh
        have := hh _ (List.mem_map.mpr ⟨c, h2, rfl⟩)
        rw [Int.toNat_natCast]
        simpa using this
    rw [ea]
    walk_at "sx"
    exact k.at_ T.xc_NoText.n e1
end
section
variable {P : Program} {w : World} {K : PySem.W.Frag} {mg : Str → Option Value} {base : Heap}
theorem ok_L_at (T : Txt K mg) : FnOk P w K mg base CX0 1 T.a_L_at T.fd_L_at ["_law_script", "_law_k"] (sp_L_at K) := by
  refine T.F_L_at.ok sc_L_at (fun vs H Q E h => match vs, h with | [_, _], _ => rfl) (fun cdv A outer s H vs Q E hr h => ?_)
  refine ⟨_, ((pss_cons (ps_if (pt_cmpR op_ltP (pv 1) (pe_callB (call_lenK (K := K) rfl) (by rfl) T.z_len (by decide +kernel) (pa_cons (pv 0) pa_nil)) (nomark _)) (pss_one (ps_ret (pe_ix (ix_K (K := K) rfl) (pv 0) (pv 1) (fun _ _ => rfl)))) pss_nil)
    (pss_one (ps_ret pe_int)))), ?_⟩
  match vs, h with
  | [x0, x1], h =>
  replace h : s_L_at K x0 x1 H Q E := h
  try dsimp only [cxOf, Cx.nox, Cx.wish]
  show (_ : TS) { nx := fun _ H' => Q .non H', rt := Q } [some x0, some x1] H
  obtain ⟨a, ns, k, rfl, hs, rfl, kk⟩ := h
  walk_at "sx"
  refine ifd (fun c => ?_) (fun c => ?_)
  · have c' : k < ns.length := by simpa using c
    walk_at "sx"
    refine l_ixL hs (v := .int (ns.getD k 0)) (atI_nat (by simp [List.getD, c'])) ?_
    exact kk
  · have c' : ns.length ≤ k := by simpa using c
    walk_at "sx"
    have e : ns.getD k 0 = 0 := by simp [List.getD, c']
    rw [e] at kk
    exact kk
end
section
variable {P : Program} {w : World} {K : PySem.W.Frag} {mg : Str → Option Value} {base : Heap}
theorem ok_L_pot (T : Txt K mg) (o_L_at : FnOk P w K mg base CX0 1 T.a_L_at T.fd_L_at ["_law_script", "_law_k"] (sp_L_at K)) : FnOk P w K mg base CX0 2 T.a_L_pot T.fd_L_pot ["_law_script", "_law_k"] (sp_L_pot K) := by
  refine T.F_L_pot.ok sc_L_pot (fun vs H Q E h => match vs, h with | [_, _], _ => rfl) (fun cdv A outer s H vs Q E hr h => ?_)
  refine ⟨_, ((pss_cons (ps_set (i := 2) sc_L_pot.nd rfl (by first | exact Or.inl rfl | exact Or.inr rfl) (pe_op (op_addK (K := K) rfl) pe_int (pe_op (op_mulK (K := K) rfl) pe_int (pv 1))))
    (pss_cons (ps_for PassesOwn.never rfl (pi_seqK (K := K) rfl (pe_slice (sl_K (K := K) rfl) (pv 0) po_none (po_some pe_int))) (pg_name (i := 3) sc_L_pot.nd rfl (by first | exact Or.inl rfl | exact Or.inr rfl)) (pss_one (ps_set (i := 2) sc_L_pot.nd rfl (by first | exact Or.inl rfl | exact Or.inr rfl) (pe_op op_modP (pe_op (op_addK (K := K) rfl) (pe_op (op_mulK (K := K) rfl) (pv 2) pe_int) (pv 3)) pe_int))))
    (pss_cons (ps_set (i := 4) sc_L_pot.nd rfl (by first | exact Or.inl rfl | exact Or.inr rfl) (pe_call o_L_at hr rfl T.g_L_at T.F_L_at.kp T.b_L_at .nil pass0 (pa_cons (pv 0) (pa_cons (pv 1) pa_nil))))
    (pss_cons (ps_if (pt_cmpR op_ltP (pv 4) (pe_op op_powP pe_int pe_int) (nomark _)) (pss_one (ps_set (i := 4) sc_L_pot.nd rfl (by first | exact Or.inl rfl | exact Or.inr rfl) pe_int)) pss_nil)
    (pss_one (ps_ret (pe_lst (pa_cons (pv 4) (pa_cons (pv 2) pa_nil)))))))))), ?_⟩
  match vs, h with
  | [x0, x1], h =>
  replace h : s_L_pot K x0 x1 H Q E := h
  try dsimp only [cxOf, Cx.nox, Cx.wish]
  show (_ : TS) { nx := fun _ H' => Q .non H', rt := Q } [some x0, some x1, none, none, none] H
  obtain ⟨a, ns, k, rfl, hs, rfl, hk, kk⟩ := h
  walk_at "sx"
  refine l_slL hs fun p H1 hp e1 h1 => ?_
  walk_at "sx"
  refine l_forL (fun i σ H2 => ∃ (s : Int) (c : Option V), σ = [some (.ref a), some (.int k), some (.int s), c, none] ∧ Ex H1 H2 ∧ 0 ≤ s ∧ s < 2147483647) ⟨_, _, rfl, Evl.Ex.refl _, by omega, by omega⟩ (fun i σ H2 _ ⟨_, _, _, e, _⟩ => Evl.ex_l e (SqL.of h1)) ?_ ?_
  · rintro i x σ H2 hi hx ⟨s, c, rfl, e2, b1, b2⟩
    obtain ⟨z, rfl⟩ : ∃ z, x = .int z := by
      have hm : x ∈ cutV (ns.map V.int) none (some 40) := List.mem_of_getElem? hx
      obtain ⟨z, _, rfl⟩ := List.mem_map.mp (List.mem_of_mem_drop (List.mem_of_mem_take hm))
      exact ⟨z, rfl⟩
    walk_at "sx"
    exact ⟨_, _, rfl, e2, Int.emod_nonneg _ (by decide), Int.emod_lt_of_pos _ (by decide)⟩
  · rintro σ H2 ⟨s, c, rfl, e2, b1, b2⟩
    walk_at "sx"
    refine ⟨a, ns, k, rfl, by walk_at "sq", rfl, ?_⟩
    walk_at "sx"
    refine ifd (fun c => ?_) (fun c => ?_)
    · walk_at "sx"
      refine w_newL (by simp) fun p3 H3 hn3 e3 h3 => ?_
      exact kk _ _ (Evl.fresh_back (e1.trans e2) hn3) (e1.trans (e2.trans e3)) ⟨_, _, h3, Int.le_refl _, b1, b2⟩
    · walk_at "sx"
      refine w_newL (by simp) fun p3 H3 hn3 e3 h3 => ?_
      refine kk _ _ (Evl.fresh_back (e1.trans e2) hn3) (e1.trans (e2.trans e3)) ⟨_, _, h3, ?_, b1, b2⟩
      have : (0 : Int) ≤ 10 ^ (18 : Int).toNat := by decide
      omega
end
section
variable {P : Program} {w : World} {K : PySem.W.Frag} {mg : Str → Option Value} {base : Heap}
theorem ok_L_digit (T : Txt K mg) : FnOk P w K mg base CX0 1 T.a_L_digit T.fd_L_digit ["_law_pot_here", "_law_base"] (sp_L_digit K) := by
  refine T.F_L_digit.ok sc_L_digit (fun vs H Q E h => match vs, h with | [_, _], _ => rfl) (fun cdv A outer s H vs Q E hr h => ?_)
  refine ⟨_, ((pss_cons (ps_if (pt_cmpR (op_eqK (K := K) hr.units rfl) (pe_ix (ix_K (K := K) rfl) (pv 0) pe_int (fun _ _ => rfl)) pe_int (nomark _)) (pss_cons (ps_asg (pe_op op_modP (pe_op (op_addK (K := K) rfl) (pe_op (op_mulK (K := K) rfl) (pe_ix (ix_K (K := K) rfl) (pv 0) pe_int (fun _ _ => rfl)) pe_int) pe_int) pe_int) (pg_sub (pv 0) pe_int set_list))
    (pss_one (ps_asg (pe_op op_modP (pe_op (op_mulK (K := K) rfl) (pe_ix (ix_K (K := K) rfl) (pv 0) pe_int (fun _ _ => rfl)) (pe_ix (ix_K (K := K) rfl) (pv 0) pe_int (fun _ _ => rfl))) pe_int) (pg_sub (pv 0) pe_int set_list)))) pss_nil)
    (pss_cons (ps_set (i := 2) sc_L_digit.nd rfl (by first | exact Or.inl rfl | exact Or.inr rfl) (pe_op op_modP (pe_ix (ix_K (K := K) rfl) (pv 0) pe_int (fun _ _ => rfl)) (pv 1)))
    (pss_cons (ps_asg (pe_op op_divP (pe_ix (ix_K (K := K) rfl) (pv 0) pe_int (fun _ _ => rfl)) (pv 1)) (pg_sub (pv 0) pe_int set_list))
    (pss_one (ps_ret (pv 2))))))), ?_⟩
  match vs, h with
  | [x0, x1], h =>
  replace h : s_L_digit K x0 x1 H Q E := h
  try dsimp only [cxOf, Cx.nox, Cx.wish]
  show (_ : TS) { nx := fun _ H' => Q .non H', rt := Q } [some x0, some x1, none] H
  obtain ⟨p, b, rfl, ⟨n, s, hp, hn, hs, hs2⟩, rfl, hb, k⟩ := h
  walk_at "sx"
  refine l_ixL (SqL.of hp) (v := .int n) rfl ?_
  walk_at "sx"
  refine ifd (fun c => ?_) (fun c => ?_)
  · walk_at "sx"
    refine l_ixL (SqL.of hp) (v := .int s) rfl ?_
    walk_at "sx"
    refine l_setL hp (j := 1) rfl fun H2 e2 h2 => ?_
    walk_at "sx"
    refine l_ixL (SqL.of h2) rfl ?_
    walk_at "sx"
    refine l_ixL (SqL.of h2) rfl ?_
    have q0 := Int.emod_nonneg (s * 16807 + 11) (show (2147483647 : Int) ≠ 0 by decide)
    have q1 := Int.emod_lt_of_pos (s * 16807 + 11) (show (0 : Int) < 2147483647 by decide)
    generalize (s * 16807 + 11) % 2147483647 = s2 at *
    have q2 := Int.emod_nonneg (s2 * s2) (show (2147483629 : Int) ≠ 0 by decide)
    walk_at "sx"
    refine l_setL h2 (j := 0) rfl fun H3 e3 h3 => ?_
    walk_at "sx"
    refine l_ixL (SqL.of h3) rfl ?_
    walk_at "sx"
    refine l_ixL (SqL.of h3) rfl ?_
    walk_at "sx"
    refine l_setL h3 (j := 0) rfl fun H4 e4 h4 => ?_
    walk_at "sx"
    exact k _ _ ((e2.trans e3).trans e4) ⟨_, s2, h4, Int.ediv_nonneg q2 (by omega), q0, q1⟩ (Int.emod_nonneg _ (by omega)) (Int.emod_lt_of_pos _ hb.1)
  · walk_at "sx"
    refine l_ixL (SqL.of hp) (v := .int n) rfl ?_
    walk_at "sx"
    refine l_ixL (SqL.of hp) (v := .int n) rfl ?_
    walk_at "sx"
    refine l_setL hp (j := 0) rfl fun H2 e2 h2 => ?_
    walk_at "sx"
    exact k _ _ e2 ⟨_, s, h2, Int.ediv_nonneg hn (by omega), hs, hs2⟩ (Int.emod_nonneg _ (by omega)) (Int.emod_lt_of_pos _ hb.1)
end
section
variable {P : Program} {w : World} {K : PySem.W.Frag} {mg : Str → Option Value} {base : Heap}
theorem ok_L_long (T : Txt K mg) (o_L_digit : FnOk P w K mg base CX0 1 T.a_L_digit T.fd_L_digit ["_law_pot_here", "_law_base"] (sp_L_digit K)) : FnOk P w K mg base CX0 2 T.a_L_long T.fd_L_long ["_law_pot_here", "_law_q", "_law_n"] (sp_L_long K) := by
  refine T.F_L_long.ok sc_L_long (fun vs H Q E h => match vs, h with | [_, _, _], _ => rfl) (fun cdv A outer s H vs Q E hr h => ?_)
  refine ⟨_, ((pss_one (ps_ret (pe_callTy (call_tupK (K := K) rfl) (by rfl) T.z_tuple (by decide +kernel) (pa_cons (pe_lc (own := [("_law_k", 3)]) (g := (gName 3)) (tt := tYes) rfl sc_L_long.nd (pi_range1 rfl T.z_range (pa_cons (pv 2) pa_nil)) (blkOk_by (own := [("_law_k", 3)]) (N := ["_law_pot_here", "_law_q", "_law_n", "_law_k"]) (sc := defScope S_L_long) (by decide +kernel)) (fun _ _ _ _ _ => (pg_name (i := 3) sc_L_long.nd rfl (by first | exact Or.inl rfl | exact Or.inr rfl))) (fun _ _ _ _ _ => pts_nil) (fun _ _ _ _ _ => (pe_call o_L_digit hr rfl T.g_L_digit T.F_L_digit.kp T.b_L_digit .nil pass0 (pa_cons (pv 0) (pa_cons (pv 1) pa_nil))))) pa_nil))))), ?_⟩
  match vs, h with
  | [x0, x1, x2], h =>
  replace h : s_L_long K x0 x1 x2 H Q E := h
  try dsimp only [cxOf, Cx.nox, Cx.wish]
  show (_ : TS) { nx := fun _ H' => Q .non H', rt := Q } [some x0, some x1, some x2, none] H
  obtain ⟨p, q, n, rfl, hp, rfl, hq, rfl, hn, k⟩ := h
  walk_at "sx"
  obtain ⟨n0, s0, hp0, _⟩ := id hp
  refine l_lc walk_range (PvD p q H) (fun D H1 hD e h1 => ⟨ne_of_none hp0 hD, ExB.of e, hp.mono e, [], rfl, rfl, fun _ m => by cases m⟩) (fun _ _ _ _ _ _ _ => True.intro) ?_ ?_
  · rintro D i acc x H1 H2 hD hi h1 ⟨hne, e, hp1, ns, rfl, hl, hs⟩ ⟨rfl, rfl⟩
    walk_at "sx"
    refine ⟨rfl, ?_⟩
    walk_at "sx"
    refine ⟨p, q, rfl, hp1, rfl, hq, fun d H3 e3 hp3 d0 d1 => ?_⟩
    refine lc_end (Pv := PvD p q H) (e3 _ _ (Ne.symm hne) h1) (by simp; omega) fun H6 e6 h6 => ?_
    refine ⟨hne, fun a o n h => ?_, ?_, ns ++ [d], by simp, by simp [hl], ?_⟩
    · have na : a ≠ D := ne_of_none h hD
      exact e6 _ _ na (e3 _ _ n (e _ _ n h))
    · obtain ⟨n3, s3, h3, b3⟩ := hp3
      exact ⟨n3, s3, e6 _ _ hne h3, b3⟩
    · exact hs.append fun m hm => by
        rw [List.mem_singleton] at hm
        subst hm
        exact ⟨d0, d1⟩
  · rintro D acc H1 hD h1 ⟨hne, e, hp1, ns, rfl, hl, hs⟩
    walk_at "sx"
    refine l_tupL (SqL.of h1) fun a H2 e2 h2 => ?_
    exact k _ ns _ (e.ex e2) (hp1.mono e2) h2 hl hs
end
section
variable {P : Program} {w : World} {K : PySem.W.Frag} {mg : Str → Option Value} {base : Heap}
theorem ok_L_word (T : Txt K mg) (o_L_long : FnOk P w K mg base CX0 2 T.a_L_long T.fd_L_long ["_law_pot_here", "_law_q", "_law_n"] (sp_L_long K)) (o_L_digit : FnOk P w K mg base CX0 1 T.a_L_digit T.fd_L_digit ["_law_pot_here", "_law_base"] (sp_L_digit K)) : FnOk P w K mg base CX0 3 T.a_L_word T.fd_L_word ["_law_pot_here", "_law_q", "_law_most"] (sp_L_word K) := by
  refine T.F_L_word.ok sc_L_word (fun vs H Q E h => match vs, h with | [_, _, _], _ => rfl) (fun cdv A outer s H vs Q E hr h => ?_)
  refine ⟨_, ((pss_one (ps_ret (pe_call o_L_long hr rfl T.g_L_long T.F_L_long.kp T.b_L_long .nil pass0 (pa_cons (pv 0) (pa_cons (pv 1) (pa_cons (pe_call o_L_digit (hr.mono (by decide)) rfl T.g_L_digit T.F_L_digit.kp T.b_L_digit .nil pass0 (pa_cons (pv 0) (pa_cons (pe_op (op_addK (K := K) rfl) (pv 2) pe_int) pa_nil))) pa_nil))))))), ?_⟩
  match vs, h with
  | [x0, x1, x2], h =>
  replace h : s_L_word K x0 x1 x2 H Q E := h
  try dsimp only [cxOf, Cx.nox, Cx.wish]
  show (_ : TS) { nx := fun _ H' => Q .non H', rt := Q } [some x0, some x1, some x2] H
  obtain ⟨p, q, m, rfl, hp, rfl, hq, rfl, hm, k⟩ := h
  walk_at "sx"
  refine ⟨p, m + 1, rfl, hp, rfl, by omega, fun d H1 e1 hp1 d0 d1 => ?_⟩
  walk_at "sx"
  refine ⟨p, q, d, rfl, hp1, rfl, hq, rfl, by omega, fun a ns H2 e2 hp2 h2 hl hs => ?_⟩
  exact k a ns _ (e1.trans e2) hp2 h2 (by omega) hs
end
section
variable {P : Program} {w : World} {K : PySem.W.Frag} {mg : Str → Option Value} {base : Heap}
theorem ok_L_runny (T : Txt K mg) (o_L_digit : FnOk P w K mg base CX0 1 T.a_L_digit T.fd_L_digit ["_law_pot_here", "_law_base"] (sp_L_digit K)) : FnOk P w K mg base CX0 2 T.a_L_runny T.fd_L_runny ["_law_pot_here", "_law_q", "_law_most"] (sp_L_runny K) := by
  refine T.F_L_runny.ok sc_L_runny (fun vs H Q E h => match vs, h with | [_, _, _], _ => rfl) (fun cdv A outer s H vs Q E hr h => ?_)
  refine ⟨_, ((pss_cons (ps_set (i := 3) sc_L_runny.nd rfl (by first | exact Or.inl rfl | exact Or.inr rfl) (pe_call o_L_digit hr rfl T.g_L_digit T.F_L_digit.kp T.b_L_digit .nil pass0 (pa_cons (pv 0) (pa_cons (pe_op (op_addK (K := K) rfl) (pv 2) pe_int) pa_nil))))
    (pss_cons (ps_set (i := 4) sc_L_runny.nd rfl (by first | exact Or.inl rfl | exact Or.inr rfl) (pe_tup pa_nil))
    (pss_cons (ps_while PassesOwn.never (pt_cmpR op_ltP (pe_callB (call_lenK (K := K) rfl) (by rfl) T.z_len (by decide +kernel) (pa_cons (pv 4) pa_nil)) (pv 3) (nomark _)) (pss_one (ps_set (i := 4) sc_L_runny.nd rfl (by first | exact Or.inl rfl | exact Or.inr rfl) (pe_op (op_addK (K := K) rfl) (pv 4) (pe_op (op_mulK (K := K) rfl) (pe_tup (pa_cons (pe_call o_L_digit hr rfl T.g_L_digit T.F_L_digit.kp T.b_L_digit .nil pass0 (pa_cons (pv 0) (pa_cons (pv 1) pa_nil))) pa_nil)) (pe_op (op_addK (K := K) rfl) pe_int (pe_call o_L_digit hr rfl T.g_L_digit T.F_L_digit.kp T.b_L_digit .nil pass0 (pa_cons (pv 0) (pa_cons pe_int pa_nil)))))))))
    (pss_one (ps_ret (pe_slice (sl_K (K := K) rfl) (pv 4) po_none (po_some (pv 3))))))))), ?_⟩
  match vs, h with
  | [x0, x1, x2], h =>
  replace h : s_L_runny K x0 x1 x2 H Q E := h
  try dsimp only [cxOf, Cx.nox, Cx.wish]
  show (_ : TS) { nx := fun _ H' => Q .non H', rt := Q } [some x0, some x1, some x2, none, none] H
  obtain ⟨p, q, m, rfl, hp, rfl, hq, rfl, hm, k⟩ := h
  walk_at "sx"
  refine ⟨p, m + 1, rfl, hp, rfl, by omega, fun d H1 e1 hp1 d0 d1 => ?_⟩
  walk_at "sx"
  refine w_newT (by simp) fun p2 H2 _ e2 h2 => ?_
  walk_at "sx"
  refine q_while (fun j σ H3 => ∃ (a : Addr) (ns : List Int), σ = [some (.ref p), some (.int q), some (.int m), some (.int d), some (.ref a)] ∧ ExB p H H3 ∧ Pot H3 p ∧ SqT K H3 a (ns.map V.int) ∧ Sg q ns ∧ j = d.toNat - ns.length ∧ ns.length ≤ 2000) (d.toNat) ⟨p2, [], rfl, e1.ex e2, hp1.mono e2, SqT.of h2, Sg.nil, rfl, by simp⟩ ?_
  rintro j σ H3 ⟨a, ns, rfl, e3, hp3, h3, hs, rfl, hl⟩
  walk_at "sx"
  refine ifd (fun c => ?_) (fun c => ?_)
  · rw [List.length_map] at c
    refine l_wh ?_
    walk_at "sx"
    refine ⟨p, q, rfl, hp3, rfl, hq, fun d2 H4 e4 hp4 d20 d21 => ?_⟩
    walk_at "sx"
    refine w_newT (by simp) fun p5 H5 _ e5 h5 => ?_
    walk_at "sx"
    refine ⟨p, 6, rfl, hp4.mono e5, rfl, by omega, fun d3 H6 e6 hp6 d30 d31 => ?_⟩
    walk_at "sx"
    refine l_mulT ((hp4.mono e5).t e6 (SqT.of h5)) (by simp) (by simp) (by omega) fun a7 H7 e7 h7 => ?_
    have h3' : SqT K H7 a (ns.map V.int) := Evl.ex_t e7 ((hp4.mono e5).t e6 (Evl.ex_t e5 (hp3.t e4 h3)))
    have er : (List.replicate (1 + d3).toNat [V.int d2]).flatten = (List.replicate (1 + d3).toNat d2).map V.int := by
      rw [List.flatten_replicate_singleton, List.map_replicate]
    rw [er] at h7
    refine l_addT h3' h7 (by simp; omega) fun a8 H8 e8 h8 => ?_
    walk_at "sx"
    refine ⟨_, ?_, a8, ns ++ List.replicate (1 + d3).toNat d2, rfl, ((((e3.trans e4).ex e5).trans e6).ex e7).ex e8, (hp6.mono e7).mono e8, by rw [List.map_append]; exact h8, hs.append ?_, rfl, ?_⟩
    · simp; omega
    · intro z hz
      rw [(List.mem_replicate.mp hz).2]
      exact ⟨d20, d21⟩
    · simp; omega
  · rw [List.length_map] at c
    walk_at "sx"
    refine l_slT h3 fun a4 H4 e4 h4 => ?_
    rw [show d = ((d.toNat : Nat) : Int) by omega, cut_to (by simp; omega), ← List.map_take] at h4
    exact k a4 _ _ (e3.ex e4) (hp3.mono e4) h4 (by simp; omega) (hs.take _)
end
section
variable {P : Program} {w : World} {K : PySem.W.Frag} {mg : Str → Option Value} {base : Heap}
theorem ok_L_plain (T : Txt K mg) : FnOk P w K mg base CX0 1 T.a_L_plain T.fd_L_plain ["_law_found"] (sp_L_plain K) := by
  refine T.F_L_plain.ok sc_L_plain (fun vs H Q E h => match vs, h with | [_], _ => rfl) (fun cdv A outer s H vs Q E hr h => ?_)
  refine ⟨_, ((pss_one (ps_ret (pe_and (pe_callB (call_isiK' (K := K) rfl) (by rfl) T.z_isinstance (by decide +kernel) (pa_cons (pv 0) (pa_cons (pe_bltn (v := .ty "int") (by rfl) T.z_int (by decide +kernel) rfl) pa_nil))) (pe_one (pe_not (pe_callB (call_isiK' (K := K) rfl) (by rfl) T.z_isinstance (by decide +kernel) (pa_cons (pv 0) (pa_cons (pe_bltn (v := .ty "bool") (by rfl) T.z_bool (by decide +kernel) rfl) pa_nil))))))))), ?_⟩
  match vs, h with
  | [x0], h =>
  replace h : s_L_plain K x0 H Q E := h
  try dsimp only [cxOf, Cx.nox, Cx.wish]
  show (_ : TS) { nx := fun _ H' => Q .non H', rt := Q } [some x0] H
  obtain ⟨T, hk, k⟩ := h
  cases hk with
  | int i => walk_at "sx"; refine l_isi (.int i) (b := true) (by decide +kernel) ?_; walk_at "sx"; refine l_isi (.int i) (b := false) (by decide +kernel) ?_; walk_at "sx"; exact k
  | bl i => walk_at "sx"; refine l_isi (.bl i) (b := true) (by decide +kernel) ?_; walk_at "sx"; refine l_isi (.bl i) (b := true) (by decide +kernel) ?_; walk_at "sx"; exact k
  | non => walk_at "sx"; refine l_isi .non (b := false) (by decide +kernel) ?_; walk_at "sx"; exact k
  | str i => walk_at "sx"; refine l_isi (.str i) (b := false) (by decide +kernel) ?_; walk_at "sx"; exact k
  | tup h => walk_at "sx"; refine l_isi (.tup h) (b := false) (by decide +kernel) ?_; walk_at "sx"; exact k
  | lst h => walk_at "sx"; refine l_isi (.lst h) (b := false) (by decide +kernel) ?_; walk_at "sx"; exact k
  | dct h => walk_at "sx"; refine l_isi (.dct h) (b := false) (by decide +kernel) ?_; walk_at "sx"; exact k
end
section
variable {P : Program} {w : World} {K : PySem.W.Frag} {mg : Str → Option Value} {base : Heap}
theorem ok_L_is_word (T : Txt K mg) (o_L_plain : FnOk P w K mg base CX0 1 T.a_L_plain T.fd_L_plain ["_law_found"] (sp_L_plain K)) : FnOk P w K mg base CX0 2 T.a_L_is_word T.fd_L_is_word ["_law_found", "_law_due"] (sp_L_is_word K) := by
  refine T.F_L_is_word.ok sc_L_is_word (fun vs H Q E h => match vs, h with | [_, _], _ => rfl) (fun cdv A outer s H vs Q E hr h => ?_)
  refine ⟨_, ((pss_cons (ps_if (PW.pt (pw_or (pt_not (pt_val (pe_callB (call_isiK' (K := K) rfl) (by rfl) T.z_isinstance (by decide +kernel) (pa_cons (pv 0) (pa_cons (pe_bltn (v := .ty "tuple") (by rfl) T.z_tuple (by decide +kernel) rfl) pa_nil))))) (pw_or1 (pt_cmpR (op_neK (K := K) hr.units rfl) (pv 0) (pv 1) (nomark _))))) (pss_one (ps_ret pe_bl)) pss_nil)
    (pss_one (ps_ret (pe_callB (cr_allK (K := K) rfl rfl) (by rfl) T.z_all (by decide +kernel) (pa_cons (pe_lc (own := [("_law_sign", 2)]) (g := (gName 2)) (tt := tYes) rfl sc_L_is_word.nd (pi_seqK (K := K) rfl (pv 0)) (blkOk_by (own := [("_law_sign", 2)]) (N := ["_law_found", "_law_due", "_law_sign"]) (sc := defScope S_L_is_word) (by decide +kernel)) (fun _ _ _ _ _ => (pg_name (i := 2) sc_L_is_word.nd rfl (by first | exact Or.inl rfl | exact Or.inr rfl))) (fun _ _ _ _ _ => pts_nil) (fun _ _ _ _ _ => (pe_call o_L_plain hr rfl T.g_L_plain T.F_L_plain.kp T.b_L_plain .nil pass0 (pa_cons (pv 2) pa_nil)))) pa_nil)))))), ?_⟩
  match vs, h with
  | [x0, x1], h =>
  replace h : s_L_is_word K x0 x1 H Q E := h
  try dsimp only [cxOf, Cx.nox, Cx.wish]
  show (_ : TS) { nx := fun _ H' => Q .non H', rt := Q } [some x0, some x1, none] H
  obtain ⟨a, b, ns, rfl, ha, rfl, hb, hl, k⟩ := h
  walk_at "sx"
  refine l_isi (.tup ha) (b := true) (by decide +kernel) ?_
  walk_at "sx"
  refine l_neD (.tup ha (dp_ints ns)) (.tup hb (dp_ints ns)) (shaped_ints ns) (shaped_ints ns) ?_
  rw [eqvT_ints, decide_eq_true rfl]
  walk_at "sx"
  refine l_lcT (fun x => .bl (isNum x)) ha (by simp; omega) (fun _ => rfl) (fun x H1 hx e Q' k' => ?_) (fun D H1 hn e h1 => ?_)
  · obtain ⟨i, hi, rfl⟩ := List.mem_map.mp hx
    walk_at "sx"
    exact ⟨"int", .int i, k' _ (Evl.Ex.refl _)⟩
  · walk_at "sx"
    refine l_all (bs := ns.map fun i => true) (SqL.of (by rw [h1]; simp [List.map_map, Function.comp_def, isNum])) ?_
    have ea : (ns.map fun i => true).all id = true := by simp
    rw [ea]
    exact k _ e
end
section
variable {P : Program} {w : World} {K : PySem.W.Frag} {mg : Str → Option Value} {base : Heap}
open HotX L2H in
theorem okh_L_kind (T : Txt K mg) : FnE P w K mg base CX0 1 T.a_L_kind T.fd_L_kind ["_law_e"] (sph_L_kind K) := by
  refine Fun_okE T.F_L_kind sc_L_kind (fun a c vs H Q E h => match vs, h with | [_], _ => rfl) (fun cdv A outer s H vs Q E p hot hdn hr h => ?_)
  refine ⟨_, ((pss_cons (ps_set (i := 1) sc_L_kind.nd rfl (by first | exact Or.inl rfl | exact Or.inr rfl) (pe_lst (pa_cons (pe_callB (call_isY (K := K) (a := p.1) (oe := p.2) rfl List.mem_cons_self rfl hdn (hot_flds hot)) (by rfl) T.z_isinstance (by decide +kernel) (pa_cons (pv 0) (pa_cons (pe_glob (v := .ref T.ac_NoCount) rfl T.xc_NoCount.g rfl) pa_nil))) (pa_cons (pe_callB (call_isY (K := K) (a := p.1) (oe := p.2) rfl List.mem_cons_self rfl hdn (hot_flds hot)) (by rfl) T.z_isinstance (by decide +kernel) (pa_cons (pv 0) (pa_cons (pe_glob (v := .ref T.ac_NoWord) rfl T.xc_NoWord.g rfl) pa_nil))) (pa_cons (pe_callB (call_isY (K := K) (a := p.1) (oe := p.2) rfl List.mem_cons_self rfl hdn (hot_flds hot)) (by rfl) T.z_isinstance (by decide +kernel) (pa_cons (pv 0) (pa_cons (pe_glob (v := .ref T.ac_NoText) rfl T.xc_NoText.g rfl) pa_nil))) (pa_cons (pe_callB (call_isY (K := K) (a := p.1) (oe := p.2) rfl List.mem_cons_self rfl hdn (hot_flds hot)) (by rfl) T.z_isinstance (by decide +kernel) (pa_cons (pv 0) (pa_cons (pe_glob (v := .ref T.ac_TooMany) rfl T.xc_TooMany.g rfl) pa_nil))) pa_nil))))))
    (pss_cons (ps_set (i := 1) sc_L_kind.nd rfl (by first | exact Or.inl rfl | exact Or.inr rfl) (pe_op (op_addK (K := K) rfl) (pv 1) (pe_lst (pa_cons (pe_callB (call_isY (K := K) (a := p.1) (oe := p.2) rfl List.mem_cons_self rfl hdn (hot_flds hot)) (by rfl) T.z_isinstance (by decide +kernel) (pa_cons (pv 0) (pa_cons (pe_glob (v := .ref T.ac_NoPlace) rfl T.xc_NoPlace.g rfl) pa_nil))) (pa_cons (pe_callB (call_isY (K := K) (a := p.1) (oe := p.2) rfl List.mem_cons_self rfl hdn (hot_flds hot)) (by rfl) T.z_isinstance (by decide +kernel) (pa_cons (pv 0) (pa_cons (pe_glob (v := .ref T.ac_NoSign) rfl T.xc_NoSign.g rfl) pa_nil))) (pa_cons (pe_callB (call_isY (K := K) (a := p.1) (oe := p.2) rfl List.mem_cons_self rfl hdn (hot_flds hot)) (by rfl) T.z_isinstance (by decide +kernel) (pa_cons (pv 0) (pa_cons (pe_glob (v := .ref T.ac_NoLength) rfl T.xc_NoLength.g rfl) pa_nil))) (pa_cons (pe_callB (call_isY (K := K) (a := p.1) (oe := p.2) rfl List.mem_cons_self rfl hdn (hot_flds hot)) (by rfl) T.z_isinstance (by decide +kernel) (pa_cons (pv 0) (pa_cons (pe_glob (v := .ref T.ac_NoRest) rfl T.xc_NoRest.g rfl) pa_nil))) pa_nil)))))))
    (pss_cons (ps_set (i := 1) sc_L_kind.nd rfl (by first | exact Or.inl rfl | exact Or.inr rfl) (pe_op (op_addK (K := K) rfl) (pv 1) (pe_lst (pa_cons (pe_callB (call_isY (K := K) (a := p.1) (oe := p.2) rfl List.mem_cons_self rfl hdn (hot_flds hot)) (by rfl) T.z_isinstance (by decide +kernel) (pa_cons (pv 0) (pa_cons (pe_glob (v := .ref T.ac_NoNumber) rfl T.xc_NoNumber.g rfl) pa_nil))) (pa_cons (pe_callB (call_isY (K := K) (a := p.1) (oe := p.2) rfl List.mem_cons_self rfl hdn (hot_flds hot)) (by rfl) T.z_isinstance (by decide +kernel) (pa_cons (pv 0) (pa_cons (pe_glob (v := .ref T.ac_NoMember) rfl T.xc_NoMember.g rfl) pa_nil))) (pa_cons (pe_callB (call_isY (K := K) (a := p.1) (oe := p.2) rfl List.mem_cons_self rfl hdn (hot_flds hot)) (by rfl) T.z_isinstance (by decide +kernel) (pa_cons (pv 0) (pa_cons (pe_glob (v := .ref T.ac_NoRow) rfl T.xc_NoRow.g rfl) pa_nil))) pa_nil))))))
    (pss_cons (ps_if (PW.pt (pw_or (pt_not (pt_val (pe_callB (call_isY (K := K) (a := p.1) (oe := p.2) rfl List.mem_cons_self rfl hdn (hot_flds hot)) (by rfl) T.z_isinstance (by decide +kernel) (pa_cons (pv 0) (pa_cons (pe_bltn (v := .ty "ValueError") (by rfl) T.z_ValueError (by decide +kernel) rfl) pa_nil))))) (pw_or1 (pt_cmpR (op_neK (K := K) (unitsH hr) rfl) (pe_bmK (K := K) rfl (pe_bm PySem.F.plainAttrs_list PySem.F.slot_list_count PySem.F.type_list_count (mt_countK (K := K) rfl) (pv 1) (pa_cons pe_bl pa_nil))) pe_int (nomark _))))) (pss_one (ps_ret pe_str)) pss_nil)
    (pss_cons (ps_set (i := 2) sc_L_kind.nd rfl (by first | exact Or.inl rfl | exact Or.inr rfl) (pe_lst (pa_cons pe_str (pa_cons pe_str (pa_cons pe_str (pa_cons pe_str (pa_cons pe_str (pa_cons pe_str (pa_cons pe_str (pa_cons pe_str (pa_cons pe_str (pa_cons pe_str (pa_cons pe_str pa_nil)))))))))))))
    (pss_one (ps_ret (pe_ix (ix_K (K := K) rfl) (pv 2) (pe_bmK (K := K) rfl (pe_bm PySem.F.plainAttrs_list PySem.F.slot_list_index PySem.F.type_list_index (mt_indexK (K := K) rfl) (pv 1) (pa_cons pe_bl pa_nil))) (fun _ _ => rfl)))))))))), ?_⟩
  match vs, h with
  | [x0], h =>
  replace h : s_L_kind K p.1 p.2.cls x0 H Q E := h
  generalize p.1 = pa at h ⊢
  generalize p.2.cls = pc at h ⊢
  show (_ : TS) { nx := fun _ H' => Q .non H', rt := Q } [some x0, none, none] H
  obtain ⟨rfl, D, nm, t, rfl, hD, hc, kk⟩ := h
  rcases hc with ⟨rfl, rfl⟩ | ⟨rfl, rfl⟩ | ⟨rfl, rfl⟩
  · have eD := hD.symm.trans T.xc_NoCount.n
    cases eD
    have hC := T.ex_NoCount
    obtain ⟨kt0, kt1, kt2, kt3, kt4, kt5, kt6, kt7, kt8, kt9, kt10, kt11⟩ := kits_NoCount T
    walk_at "sx"
    refine w_newL (by simp) fun l1 H1 _ e1 h1 => ?_
    walk_at "sx"
    refine w_newL (by simp) fun l2 H2 _ e2 h2 => ?_
    walk_at "sx"
    refine (l_addL (e2 _ _ h1) h2 (by simp) fun l3 H3 _ e3 h3 => ?_)
    walk_at "sx"
    refine w_newL (by simp) fun l4 H4 _ e4 h4 => ?_
    walk_at "sx"
    refine (l_addL (e4 _ _ h3) h4 (by simp) fun l5 H5 _ e5 h5 => ?_)
    walk_at "sx"
    refine l_cntBn [true, false, false, false, false, false, false, false, false, false, false] 1 h5 rfl ?_
    walk_at "sx"
    refine ifdn (fun c => absurd rfl c) (fun _ => ?_)
    walk_at "sx"
    refine w_newL (by simp) fun l6 H6 _ e6 h6 => ?_
    walk_at "sx"
    refine l_idxBn [true, false, false, false, false, false, false, false, false, false, false] 0 (e6 _ _ h5) rfl rfl ?_
    refine l_ixL (SqL.of h6) rfl ?_
    exact kk _ (e1.trans (e2.trans (e3.trans (e4.trans (e5.trans e6)))))
  · have eD := hD.symm.trans T.xc_NoWord.n
    cases eD
    have hC := T.ex_NoWord
    obtain ⟨kt0, kt1, kt2, kt3, kt4, kt5, kt6, kt7, kt8, kt9, kt10, kt11⟩ := kits_NoWord T
    walk_at "sx"
    refine w_newL (by simp) fun l1 H1 _ e1 h1 => ?_
    walk_at "sx"
    refine w_newL (by simp) fun l2 H2 _ e2 h2 => ?_
    walk_at "sx"
    refine (l_addL (e2 _ _ h1) h2 (by simp) fun l3 H3 _ e3 h3 => ?_)
    walk_at "sx"
    refine w_newL (by simp) fun l4 H4 _ e4 h4 => ?_
    walk_at "sx"
    refine (l_addL (e4 _ _ h3) h4 (by simp) fun l5 H5 _ e5 h5 => ?_)
    walk_at "sx"
    refine l_cntBn [false, true, false, false, false, false, false, false, false, false, false] 1 h5 rfl ?_
    walk_at "sx"
    refine ifdn (fun c => absurd rfl c) (fun _ => ?_)
    walk_at "sx"
    refine w_newL (by simp) fun l6 H6 _ e6 h6 => ?_
    walk_at "sx"
    refine l_idxBn [false, true, false, false, false, false, false, false, false, false, false] 1 (e6 _ _ h5) rfl rfl ?_
    refine l_ixL (SqL.of h6) rfl ?_
    exact kk _ (e1.trans (e2.trans (e3.trans (e4.trans (e5.trans e6)))))
  · have eD := hD.symm.trans T.xc_NoText.n
    cases eD
    have hC := T.ex_NoText
    obtain ⟨kt0, kt1, kt2, kt3, kt4, kt5, kt6, kt7, kt8, kt9, kt10, kt11⟩ := kits_NoText T
    walk_at "sx"
    refine w_newL (by simp) fun l1 H1 _ e1 h1 => ?_
    walk_at "sx"
    refine w_newL (by simp) fun l2 H2 _ e2 h2 => ?_
    walk_at "sx"
    refine (l_addL (e2 _ _ h1) h2 (by simp) fun l3 H3 _ e3 h3 => ?_)
    walk_at "sx"
    refine w_newL (by simp) fun l4 H4 _ e4 h4 => ?_
    walk_at "sx"
    refine (l_addL (e4 _ _ h3) h4 (by simp) fun l5 H5 _ e5 h5 => ?_)
    walk_at "sx"
    refine l_cntBn [false, false, true, false, false, false, false, false, false, false, false] 1 h5 rfl ?_
    walk_at "sx"
    refine ifdn (fun c => absurd rfl c) (fun _ => ?_)
    walk_at "sx"
    refine w_newL (by simp) fun l6 H6 _ e6 h6 => ?_
    walk_at "sx"
    refine l_idxBn [false, false, true, false, false, false, false, false, false, false, false] 2 (e6 _ _ h5) rfl rfl ?_
    refine l_ixL (SqL.of h6) rfl ?_
    exact kk _ (e1.trans (e2.trans (e3.trans (e4.trans (e5.trans e6)))))
end
section
variable {P : Program} {w : World} {K : PySem.W.Frag} {mg : Str → Option Value} {base : Heap}
theorem ok_L_answer (T : Txt K mg) (o_read_word : FnOk P w K mg base (L2N.CX P w) 3 T.a_read_word T.fd_read_word ["q", "text"] (sx_read_word K)) (h_L_kind : FnE P w K mg base CX0 1 T.a_L_kind T.fd_L_kind ["_law_e"] (sph_L_kind K)) : FnOk P w K mg base CX0 4 T.a_L_answer T.fd_L_answer ["_law_q", "_law_text"] (sp_L_answer K) := by
  refine fn_to0 ?_ (fun vs H Q E h => match vs, h with | [_, _], h => h)
  refine Fun_okN T.F_L_answer sc_L_answer (fun vs H Q E h => match vs, h with | [_, _], _ => rfl) (fun cdv A outer s H vs Q E hr h => ?_)
  refine ⟨_, ((pss_cons (ps_set (i := 2) sc_L_answer.nd rfl (by first | exact Or.inl rfl | exact Or.inr rfl) pe_str)
    (pss_cons (L2N.ps_try_as rfl rfl sc_L_answer.nd (i := 3) rfl rfl ⟨by rfl, by decide, .inl T.xc_MarkError.g⟩ takes0N (fun W pn xe tk po => (pss_one (ps_set (i := 2) sc_L_answer.nd rfl (by first | exact Or.inl rfl | exact Or.inr rfl) (pe_tup (pa_cons pe_str (pa_cons (pe_callS o_read_word hr rfl T.g_read_word T.F_read_word.kp T.b_read_word (fun σ => L2N.passAt tk σ) (pa_cons (pv 0) (pa_cons (pv 1) pa_nil))) pa_nil)))))) (fun a oe cls d pn hz hf => (pss_one (ps_set (i := 2) sc_L_answer.nd rfl (by first | exact Or.inl rfl | exact Or.inr rfl) (pe_callE h_L_kind (roomS (hr.mono (by decide))) (hot_of hz hf) List.mem_cons_self hz.1 hz.2.1 rfl T.g_L_kind T.F_L_kind.kp T.b_L_kind (pa_cons (pv 3) pa_nil))))))
    (pss_one (ps_ret (pv 2)))))), ?_⟩
  match vs, h with
  | [x0, x1], h =>
  replace h : s_L_answer K x0 x1 H Q E := h
  try dsimp only [cxOf, Cx.nox, Cx.wish]
  show (_ : TS) { nx := fun _ H' => Q .non H', rt := Q } [some x0, some x1, none, none] H
  walk_at "sx"
  refine q_seq ?_
  walk_at "sx"
  rcases h with ⟨q, z, rfl, hq, rfl, hl, hc, kk⟩ | ⟨t, ⟨T1, hk, hb, rfl⟩ | ⟨q, rfl, hq, hb, rfl⟩, kk⟩
  · refine .inl ⟨q, z, rfl, hq, rfl, hl, hc, fun a H1 e1 h1 => ?_⟩
    walk_at "sx"
    refine w_newT (by simp) fun t2 H2 _ e2 h2 => ?_
    walk_at "sx"
    exact kk t2 a _ (e1.trans e2) (SqT.of h2) (Evl.ex_t e2 h1)
  · refine .inr (.inl ⟨T1, hk, hb, _, T.xc_NoCount.n, fun H2 e2 => ?_⟩)
    refine l_as (T.xc_MarkError.exm T.sub_NoCount_MarkError) fun b hb' => ?_
    walk_at "sx"
    refine ⟨rfl, rfl, T.ac_NoCount, _, _, rfl, T.xc_NoCount.n, .inl ⟨rfl, rfl⟩, fun H6 e6 => ?_⟩
    walk_at "sx"
    exact kk _ (e2.trans e6)
  · refine .inr (.inr ⟨q, rfl, hq, hb, _, T.xc_NoText.n, fun H2 e2 => ?_⟩)
    refine l_as (T.xc_MarkError.exm T.sub_NoText_MarkError) fun b hb' => ?_
    walk_at "sx"
    refine ⟨rfl, rfl, T.ac_NoText, _, _, rfl, T.xc_NoText.n, .inr (.inr ⟨rfl, rfl⟩), fun H6 e6 => ?_⟩
    walk_at "sx"
    exact kk _ (e2.trans e6)
end
section
variable {P : Program} {w : World} {K : PySem.W.Frag} {mg : Str → Option Value} {base : Heap}
theorem ok_L_shown (T : Txt K mg) (o_show_word : FnOk P w K mg base (L2N.CX P w) 4 T.a_show_word T.fd_show_word ["q", "word"] (sx_show_word K)) (h_L_kind : FnE P w K mg base CX0 1 T.a_L_kind T.fd_L_kind ["_law_e"] (sph_L_kind K)) : FnOk P w K mg base CX0 5 T.a_L_shown T.fd_L_shown ["_law_q", "_law_word_here"] (sp_L_shown K) := by
  refine fn_to0 ?_ (fun vs H Q E h => match vs, h with | [_, _], h => h)
  refine Fun_okN T.F_L_shown sc_L_shown (fun vs H Q E h => match vs, h with | [_, _], _ => rfl) (fun cdv A outer s H vs Q E hr h => ?_)
  refine ⟨_, ((pss_cons (ps_set (i := 2) sc_L_shown.nd rfl (by first | exact Or.inl rfl | exact Or.inr rfl) pe_str)
    (pss_cons (L2N.ps_try_as rfl rfl sc_L_shown.nd (i := 3) rfl rfl ⟨by rfl, by decide, .inl T.xc_MarkError.g⟩ takes0N (fun W pn xe tk po => (pss_one (ps_set (i := 2) sc_L_shown.nd rfl (by first | exact Or.inl rfl | exact Or.inr rfl) (pe_tup (pa_cons pe_str (pa_cons (pe_callS o_show_word hr rfl T.g_show_word T.F_show_word.kp T.b_show_word (fun σ => L2N.passAt tk σ) (pa_cons (pv 0) (pa_cons (pv 1) pa_nil))) pa_nil)))))) (fun a oe cls d pn hz hf => (pss_one (ps_set (i := 2) sc_L_shown.nd rfl (by first | exact Or.inl rfl | exact Or.inr rfl) (pe_callE h_L_kind (roomS (hr.mono (by decide))) (hot_of hz hf) List.mem_cons_self hz.1 hz.2.1 rfl T.g_L_kind T.F_L_kind.kp T.b_L_kind (pa_cons (pv 3) pa_nil))))))
    (pss_one (ps_ret (pv 2)))))), ?_⟩
  match vs, h with
  | [x0, x1], h =>
  replace h : s_L_shown K x0 x1 H Q E := h
  try dsimp only [cxOf, Cx.nox, Cx.wish]
  show (_ : TS) { nx := fun _ H' => Q .non H', rt := Q } [some x0, some x1, none, none] H
  walk_at "sx"
  refine q_seq ?_
  walk_at "sx"
  rcases h with ⟨q, w, rfl, hq, hw, kk⟩ | ⟨t, ⟨T1, hk, hb, rfl⟩ | ⟨q, rfl, hq, hw, rfl⟩, kk⟩
  · refine .inl ⟨q, w, rfl, hq, hw, fun H1 e1 => ?_⟩
    walk_at "sx"
    refine w_newT (by simp) fun t2 H2 _ e2 h2 => ?_
    walk_at "sx"
    exact kk t2 _ (e1.trans e2) (SqT.of h2)
  · refine .inr (.inl ⟨T1, hk, hb, _, T.xc_NoCount.n, fun H2 e2 => ?_⟩)
    refine l_as (T.xc_MarkError.exm T.sub_NoCount_MarkError) fun b hb' => ?_
    walk_at "sx"
    refine ⟨rfl, rfl, T.ac_NoCount, _, _, rfl, T.xc_NoCount.n, .inl ⟨rfl, rfl⟩, fun H6 e6 => ?_⟩
    walk_at "sx"
    exact kk _ (e2.trans e6)
  · refine .inr (.inr ⟨q, rfl, hq, hw, _, T.xc_NoWord.n, fun H2 e2 => ?_⟩)
    refine l_as (T.xc_MarkError.exm T.sub_NoWord_MarkError) fun b hb' => ?_
    walk_at "sx"
    refine ⟨rfl, rfl, T.ac_NoWord, _, _, rfl, T.xc_NoWord.n, .inr (.inl ⟨rfl, rfl⟩), fun H6 e6 => ?_⟩
    walk_at "sx"
    exact kk _ (e2.trans e6)
end
section
variable {P : Program} {w : World} {K : PySem.W.Frag} {mg : Str → Option Value} {base : Heap}
theorem ok_L_signs (T : Txt K mg) (o_L_digit : FnOk P w K mg base CX0 1 T.a_L_digit T.fd_L_digit ["_law_pot_here", "_law_base"] (sp_L_digit K)) : FnOk P w K mg base CX0 2 T.a_L_signs T.fd_L_signs ["_law_pot_here", "_law_text"] (sp_L_signs K) := by
  refine T.F_L_signs.ok sc_L_signs (fun vs H Q E h => match vs, h with | [_, _], _ => rfl) (fun cdv A outer s H vs Q E hr h => ?_)
  refine ⟨_, ((pss_cons (ps_set (i := 2) sc_L_signs.nd rfl (by first | exact Or.inl rfl | exact Or.inr rfl) pe_str)
    (pss_cons (ps_set (i := 3) sc_L_signs.nd rfl (by first | exact Or.inl rfl | exact Or.inr rfl) (pe_call o_L_digit hr rfl T.g_L_digit T.F_L_digit.kp T.b_L_digit .nil pass0 (pa_cons (pv 0) (pa_cons pe_int pa_nil))))
    (pss_cons (ps_set (i := 4) sc_L_signs.nd rfl (by first | exact Or.inl rfl | exact Or.inr rfl) (pe_call o_L_digit hr rfl T.g_L_digit T.F_L_digit.kp T.b_L_digit .nil pass0 (pa_cons (pv 0) (pa_cons (pe_op (op_addK (K := K) rfl) (pe_callB (call_lenK (K := K) rfl) (by rfl) T.z_len (by decide +kernel) (pa_cons (pv 1) pa_nil)) pe_int) pa_nil))))
    (pss_cons (ps_set (i := 5) sc_L_signs.nd rfl (by first | exact Or.inl rfl | exact Or.inr rfl) (pe_ix (ix_K (K := K) rfl) (pv 2) (pe_call o_L_digit hr rfl T.g_L_digit T.F_L_digit.kp T.b_L_digit .nil pass0 (pa_cons (pv 0) (pa_cons (pe_callB (call_lenK (K := K) rfl) (by rfl) T.z_len (by decide +kernel) (pa_cons (pv 2) pa_nil)) pa_nil))) (fun _ _ => rfl)))
    (pss_cons (ps_if (pt_cmpR (op_eqK (K := K) hr.units rfl) (pv 3) pe_int (nomark _)) (pss_one (ps_ret (pe_op (op_addK (K := K) rfl) (pe_op (op_addK (K := K) rfl) (pe_slice (sl_X (K := K) rfl) (pv 1) po_none (po_some (pv 4))) (pv 5)) (pe_slice (sl_X (K := K) rfl) (pv 1) (po_some (pv 4)) po_none)))) pss_nil)
    (pss_one (ps_ret (pe_op (op_addK (K := K) rfl) (pe_op (op_addK (K := K) rfl) (pe_slice (sl_X (K := K) rfl) (pv 1) po_none (po_some (pv 4))) (pe_op (op_mulX (K := K) rfl) (pv 5) (pe_op op_subP (pv 3) pe_int))) (pe_slice (sl_X (K := K) rfl) (pv 1) (po_some (pe_op (op_addK (K := K) rfl) (pv 4) pe_int)) po_none)))))))))), ?_⟩
  match vs, h with
  | [x0, x1], h =>
  replace h : s_L_signs K x0 x1 H Q E := h
  try dsimp only [cxOf, Cx.nox, Cx.wish]
  show (_ : TS) { nx := fun _ H' => Q .non H', rt := Q } [some x0, some x1, none, none, none, none] H
  obtain ⟨p, z, rfl, hp, rfl, hz, kk⟩ := h
  walk_at "sx"
  refine ⟨p, 3, rfl, hp, rfl, by omega, fun way H1 e1 hp1 w0 w1 => ?_⟩
  walk_at "sx"
  refine l_lenS (by omega) ?_
  walk_at "sx"
  refine ⟨p, (z.length : Int) + 1, rfl, hp1, rfl, by omega, fun at_ H2 e2 hp2 at0 at1 => ?_⟩
  obtain ⟨at', rfl⟩ : ∃ n : Nat, at_ = n := ⟨at_.toNat, by omega⟩
  walk_at "sx"
  refine l_lenS (by decide) ?_
  walk_at "sx"
  have hL : (PySem.Str.ofString " 0123456789abcdefghijklmnopqrstuvwxyzABZ-+_.,;:/*!?\n\t").length = 53 := by decide +kernel
  rw [hL]
  refine ⟨p, 53, rfl, hp2, rfl, by omega, fun d H3 e3 hp3 d0 d1 => ?_⟩
  obtain ⟨c, hc, _⟩ := pickN (xs := (PySem.Str.ofString " 0123456789abcdefghijklmnopqrstuvwxyzABZ-+_.,;:/*!?\n\t").cps.toList) d0 (by rw [len_cps, hL]; omega)
  refine l_ixS (by rw [hL]; decide) hc ?_
  have eB := e1.trans (e2.trans e3)
  have lt1 : (cutS z none (some (at' : Int))).length ≤ at' := by rw [cutS_to, sS_len, List.length_take]; omega
  have lt2 : ∀ k : Nat, (cutS z (some (k : Int)) none).length = z.length - k := fun k => by rw [cutS_from, sS_len, List.length_drop, len_cps]
  walk_at "sx"
  refine ifd (fun c0 => ?_) (fun c0 => ?_)
  · walk_at "sx"
    refine l_slS (by omega) ?_
    walk_at "sx"
    refine l_addS (by show _ + 1 ≤ _; omega) ?_
    walk_at "sx"
    refine l_slS (by omega) ?_
    have h2 := lt2 at'
    refine l_addS (by rw [app_len]; show _ + 1 + _ ≤ _; omega) ?_
    refine kk _ _ eB hp3 ?_
    rw [app_len, app_len]
    show _ + 1 + _ ≤ _
    omega
  · walk_at "sx"
    refine l_slS (by omega) ?_
    walk_at "sx"
    walk_at "sx"
    refine l_mulS (by omega) (Nat.le_refl 1) fun u hu _ _ => ?_
    refine l_addS (by omega) ?_
    walk_at "sx"
    refine l_slS (by omega) ?_
    rw [show (at' : Int) + 1 = ((at' + 1 : Nat) : Int) from rfl]
    have h2 := lt2 (at' + 1)
    refine l_addS (by rw [app_len]; omega) ?_
    refine kk _ _ eB hp3 ?_
    rw [app_len, app_len]
    omega
end
section
variable {P : Program} {w : World} {K : PySem.W.Frag} {mg : Str → Option Value} {base : Heap}
theorem lets_small : ∀ c ∈ lets, c < 0x110000 := by decide
theorem strOk_wtx {ns : List Int} (h : ∀ i ∈ ns, 0 ≤ i ∧ i < 36) : PyData.strOk (wtx ns) = true := by
  unfold PyData.strOk wtx sS
  rw [List.all_toArray, List.all_eq_true]
  intro c hc
  obtain ⟨i, hi, rfl⟩ := List.mem_map.mp hc
  have := lets_small _ (List.mem_of_mem_take (ltr_mem (q := 36) (h i hi) (by decide)))
  simpa using this
theorem shaped_shown {ns : List Int} (h : ∀ i ∈ ns, 0 ≤ i ∧ i < 36) : SeqAt.shaped (.tuple [.str "shown", .str (wtx ns)]) = true := by
  unfold SeqAt.shaped
  rw [PyData.canLay0, PyData.canLayAll0, PyData.canLayAll0, PyData.canLayAll0, PyData.canLay0, PyData.canLay0, strOk_wtx h, show PyData.strOk "shown" = true by decide +kernel]
  rfl
theorem eqv_shown (z : Str) : PyData.eqv (.tuple [.str "shown", .str z]) (.tuple [.str "shown", .str z]) = true := by
  show (PyData.eqv (.str "shown") (.str "shown") && (PyData.eqv (.str z) (.str z) && true)) = true
  simp [PyData.eqv]
theorem shaped_read (ns : List Int) : SeqAt.shaped (.tuple [.str "read", .tuple (ns.map PyData.int)]) = true := by
  unfold SeqAt.shaped
  rw [PyData.canLay0, PyData.canLayAll0, PyData.canLayAll0, PyData.canLayAll0, PyData.canLay0, layT_ints, show PyData.strOk "read" = true by decide +kernel]
  simp [PyData.depth, PyData.depthAll, depth_ints]
theorem eqv_read (ns : List Int) : PyData.eqv (.tuple [.str "read", .tuple (ns.map PyData.int)]) (.tuple [.str "read", .tuple (ns.map PyData.int)]) = true := by
  show (PyData.eqv (.str "read") (.str "read") && (PyData.eqv (.tuple (ns.map PyData.int)) (.tuple (ns.map PyData.int)) && true)) = true
  rw [eqvT_ints]
  simp [PyData.eqv]
theorem read_dp {K : PySem.W.Frag} {H : Hp} {t a : Addr} {ns : List Int} (h : SqT K H t [.str "read", .ref a]) (h2 : SqT K H a (ns.map V.int)) : Dp K H (.ref t) (.tuple [.str "read", .tuple (ns.map PyData.int)]) := .tup h (.cons (.str _) (.cons (.tup h2 (dp_ints ns)) .nil))
theorem bad_app {K : PySem.W.Frag} {H : Hp} {a : Addr} {ns : List Int} {q : Int} {y : V} (h : SqT K H a (ns.map V.int ++ [y])) (hk : ∃ T, Kd K H y T) (hy : signOk q y = false) : BadW K H q (.ref a) := by
  by_cases hl : (ns.map V.int ++ [y]).length ≤ 60
  · refine .sign h hl (fun z hz => ?_) (by rw [List.all_append]; simp [hy])
    rcases List.mem_append.mp hz with hz | hz
    · exact kd_ints z hz
    · rw [List.mem_singleton] at hz
      exact hz ▸ hk
  · exact .long h (by omega)
theorem bad_pre {K : PySem.W.Frag} {H : Hp} {a : Addr} {ns : List Int} {q : Int} {y : V} (h : SqT K H a ([y] ++ ns.map V.int)) (hk : ∃ T, Kd K H y T) (hy : signOk q y = false) : BadW K H q (.ref a) := by
  by_cases hl : ([y] ++ ns.map V.int).length ≤ 60
  · refine .sign h hl (fun z hz => ?_) (by rw [List.all_append]; simp [hy])
    rcases List.mem_append.mp hz with hz | hz
    · rw [List.mem_singleton] at hz
      exact hz ▸ hk
    · exact kd_ints z hz
  · exact .long h (by omega)
theorem ok_law (T : Txt K mg) (o_L_shown : FnOk P w K mg base CX0 5 T.a_L_shown T.fd_L_shown ["_law_q", "_law_word_here"] (sp_L_shown K)) (o_L_answer : FnOk P w K mg base CX0 4 T.a_L_answer T.fd_L_answer ["_law_q", "_law_text"] (sp_L_answer K)) (o_L_digit : FnOk P w K mg base CX0 1 T.a_L_digit T.fd_L_digit ["_law_pot_here", "_law_base"] (sp_L_digit K)) (o_L_is_word : FnOk P w K mg base CX0 2 T.a_L_is_word T.fd_L_is_word ["_law_found", "_law_due"] (sp_L_is_word K)) (o_L_signs : FnOk P w K mg base CX0 2 T.a_L_signs T.fd_L_signs ["_law_pot_here", "_law_text"] (sp_L_signs K)) (o_L_pot : FnOk P w K mg base CX0 2 T.a_L_pot T.fd_L_pot ["_law_script", "_law_k"] (sp_L_pot K)) (o_L_runny : FnOk P w K mg base CX0 2 T.a_L_runny T.fd_L_runny ["_law_pot_here", "_law_q", "_law_most"] (sp_L_runny K)) (o_L_word : FnOk P w K mg base CX0 3 T.a_L_word T.fd_L_word ["_law_pot_here", "_law_q", "_law_most"] (sp_L_word K)) : FnOk P w K mg base CX0 6 T.a_law T.fd_law ["_law_script"] (sp_law K) := by
  refine T.F_law.ok sc_law (fun vs H Q E h => match vs, h with | [_], _ => rfl) (fun cdv A outer s H vs Q E hr h => ?_)
  refine ⟨_, ((pss_cons (ps_set (i := 1) sc_law.nd rfl (by first | exact Or.inl rfl | exact Or.inr rfl) pe_str)
    (pss_cons (ps_set (i := 2) sc_law.nd rfl (by first | exact Or.inl rfl | exact Or.inr rfl) (pe_call o_L_pot (hr.mono (by decide)) rfl T.g_L_pot T.F_L_pot.kp T.b_L_pot .nil pass0 (pa_cons (pv 0) (pa_cons pe_int pa_nil))))
    (pss_cons (ps_set (i := 3) sc_law.nd rfl (by first | exact Or.inl rfl | exact Or.inr rfl) (pe_op (op_addK (K := K) rfl) pe_int (pe_call o_L_digit (hr.mono (by decide)) rfl T.g_L_digit T.F_L_digit.kp T.b_L_digit .nil pass0 (pa_cons (pv 2) (pa_cons pe_int pa_nil)))))
    (pss_cons (ps_set (i := 4) sc_law.nd rfl (by first | exact Or.inl rfl | exact Or.inr rfl) (pe_ix (ix_K (K := K) rfl) (pe_lst (pa_cons (pe_call o_L_word (hr.mono (by decide)) rfl T.g_L_word T.F_L_word.kp T.b_L_word .nil pass0 (pa_cons (pv 2) (pa_cons (pv 3) (pa_cons pe_int pa_nil)))) (pa_cons (pe_call o_L_runny (hr.mono (by decide)) rfl T.g_L_runny T.F_L_runny.kp T.b_L_runny .nil pass0 (pa_cons (pv 2) (pa_cons (pv 3) (pa_cons pe_int pa_nil)))) pa_nil))) (pe_call o_L_digit (hr.mono (by decide)) rfl T.g_L_digit T.F_L_digit.kp T.b_L_digit .nil pass0 (pa_cons (pv 2) (pa_cons pe_int pa_nil))) (fun _ _ => rfl)))
    (pss_cons (ps_set (i := 5) sc_law.nd rfl (by first | exact Or.inl rfl | exact Or.inr rfl) (pe_joinK (K := K) rfl pe_str (pe_lc (own := [("_law_sign", 12)]) (g := (gName 12)) (tt := tYes) rfl sc_law.nd (pi_seqK (K := K) rfl (pv 4)) (blkOk_by (own := [("_law_sign", 12)]) (N := ["_law_script", "_law_letters", "_law_pot_here", "_law_q", "_law_word_here", "_law_text", "_law_k", "_law_due", "_law_found", "_law_odd", "_law_none", "_law_bad", "_law_sign", "_law_thing"]) (sc := defScope S_law) (by decide +kernel)) (fun _ _ _ _ _ => (pg_name (i := 12) sc_law.nd rfl (by first | exact Or.inl rfl | exact Or.inr rfl))) (fun _ _ _ _ _ => pts_nil) (fun _ _ _ _ _ => (pe_ix (ix_K (K := K) rfl) (pv 1) (pv 12) (fun _ _ => rfl))))))
    (pss_cons (ps_if (PW.pt (pw_or (pt_cmpR (op_neK (K := K) hr.units rfl) (pe_call o_L_shown hr rfl T.g_L_shown T.F_L_shown.kp T.b_L_shown .nil pass0 (pa_cons (pv 3) (pa_cons (pv 4) pa_nil))) (pe_tup (pa_cons pe_str (pa_cons (pv 5) pa_nil))) (nomark _)) (pw_or1 (pt_cmpR (op_neK (K := K) hr.units rfl) (pe_call o_L_answer (hr.mono (by decide)) rfl T.g_L_answer T.F_L_answer.kp T.b_L_answer .nil pass0 (pa_cons (pv 3) (pa_cons (pv 5) pa_nil))) (pe_tup (pa_cons pe_str (pa_cons (pv 4) pa_nil))) (nomark _))))) (pss_one (ps_ret pe_bl)) pss_nil)
    (pss_cons (ps_set (i := 2) sc_law.nd rfl (by first | exact Or.inl rfl | exact Or.inr rfl) (pe_call o_L_pot (hr.mono (by decide)) rfl T.g_L_pot T.F_L_pot.kp T.b_L_pot .nil pass0 (pa_cons (pv 0) (pa_cons pe_int pa_nil))))
    (pss_cons (ps_for PassesOwn.never rfl (pi_range1 rfl T.z_range (pa_cons (pe_call o_L_digit (hr.mono (by decide)) rfl T.g_L_digit T.F_L_digit.kp T.b_L_digit .nil pass0 (pa_cons (pv 2) (pa_cons pe_int pa_nil))) pa_nil)) (pg_name (i := 6) sc_law.nd rfl (by first | exact Or.inl rfl | exact Or.inr rfl)) (pss_one (ps_set (i := 5) sc_law.nd rfl (by first | exact Or.inl rfl | exact Or.inr rfl) (pe_call o_L_signs (hr.mono (by decide)) rfl T.g_L_signs T.F_L_signs.kp T.b_L_signs .nil pass0 (pa_cons (pv 2) (pa_cons (pv 5) pa_nil))))))
    (pss_cons (ps_set (i := 7) sc_law.nd rfl (by first | exact Or.inl rfl | exact Or.inr rfl) pe_str)
    (Evl.pss_cut (ps_if (PW.pt (pw_and (pt_cmpR (op_leQ (K := K) hr.units rfl) (pe_callB (call_lenK (K := K) rfl) (by rfl) T.z_len (by decide +kernel) (pa_cons (pv 5) pa_nil)) pe_int (nomark _)) (pw_and1 (pt_val (pe_callB (cr_allK (K := K) rfl rfl) (by rfl) T.z_all (by decide +kernel) (pa_cons (pe_lc (own := [("_law_sign", 12)]) (g := (gName 12)) (tt := tYes) rfl sc_law.nd (pi_str (pv 5)) (blkOk_by (own := [("_law_sign", 12)]) (N := ["_law_script", "_law_letters", "_law_pot_here", "_law_q", "_law_word_here", "_law_text", "_law_k", "_law_due", "_law_found", "_law_odd", "_law_none", "_law_bad", "_law_sign", "_law_thing"]) (sc := defScope S_law) (by decide +kernel)) (fun _ _ _ _ _ => (pg_name (i := 12) sc_law.nd rfl (by first | exact Or.inl rfl | exact Or.inr rfl))) (fun _ _ _ _ _ => pts_nil) (fun _ _ _ _ _ => (pe_cmpR (op_inX (K := K) rfl) (pv 12) (pe_slice (sl_X (K := K) rfl) (pv 1) po_none (po_some (pv 3))) (by rfl)))) pa_nil)))))) (pss_one (ps_set (i := 7) sc_law.nd rfl (by first | exact Or.inl rfl | exact Or.inr rfl) (pe_tup (pa_cons pe_str (pa_cons (pe_callTy (call_tupK (K := K) rfl) (by rfl) T.z_tuple (by decide +kernel) (pa_cons (pe_lc (own := [("_law_sign", 12)]) (g := (gName 12)) (tt := tYes) rfl sc_law.nd (pi_str (pv 5)) (blkOk_by (own := [("_law_sign", 12)]) (N := ["_law_script", "_law_letters", "_law_pot_here", "_law_q", "_law_word_here", "_law_text", "_law_k", "_law_due", "_law_found", "_law_odd", "_law_none", "_law_bad", "_law_sign", "_law_thing"]) (sc := defScope S_law) (by decide +kernel)) (fun _ _ _ _ _ => (pg_name (i := 12) sc_law.nd rfl (by first | exact Or.inl rfl | exact Or.inr rfl))) (fun _ _ _ _ _ => pts_nil) (fun _ _ _ _ _ => (pe_m1 F.slot_str_index F.type_str_index mt_sidx (pv 1) (pv 12)))) pa_nil)) pa_nil))))) pss_nil)
    (Evl.pss_cut (ps_set (i := 8) sc_law.nd rfl (by first | exact Or.inl rfl | exact Or.inr rfl) (pe_call o_L_answer (hr.mono (by decide)) rfl T.g_L_answer T.F_L_answer.kp T.b_L_answer .nil pass0 (pa_cons (pv 3) (pa_cons (pv 5) pa_nil))))
    (Evl.pss_cut (ps_if (PW.pt (pw_or (pt_cmpR (op_neK (K := K) hr.units rfl) (pv 8) (pv 7) (nomark _)) (pw_or1 (PW.pt (pw_and (pt_cmpR (op_neK (K := K) hr.units rfl) (pv 7) pe_str (nomark _)) (pw_and1 (pt_not (pt_val (pe_call o_L_is_word (hr.mono (by decide)) rfl T.g_L_is_word T.F_L_is_word.kp T.b_L_is_word .nil pass0 (pa_cons (pe_ix (ix_K (K := K) rfl) (pv 8) pe_int (fun _ _ => rfl)) (pa_cons (pe_ix (ix_K (K := K) rfl) (pv 7) pe_int (fun _ _ => rfl)) pa_nil))))))))))) (pss_one (ps_ret pe_bl)) pss_nil)
    (pss_cons (ps_if (pt_cmpR (op_neK (K := K) hr.units rfl) (pe_lc (own := [("_law_thing", 13)]) (g := (gName 13)) (tt := tYes) rfl sc_law.nd (pi_seqK (K := K) rfl (pe_lst (pa_cons pe_non (pa_cons pe_int (pa_cons (pe_lst (pa_cons pe_str pa_nil)) (pa_cons (pe_tup (pa_cons pe_str (pa_cons pe_str pa_nil))) (pa_cons pe_dnewK (pa_cons pe_bl pa_nil)))))))) (blkOk_by (own := [("_law_thing", 13)]) (N := ["_law_script", "_law_letters", "_law_pot_here", "_law_q", "_law_word_here", "_law_text", "_law_k", "_law_due", "_law_found", "_law_odd", "_law_none", "_law_bad", "_law_sign", "_law_thing"]) (sc := defScope S_law) (by decide +kernel)) (fun _ _ _ _ _ => (pg_name (i := 13) sc_law.nd rfl (by first | exact Or.inl rfl | exact Or.inr rfl))) (fun _ _ _ _ _ => pts_nil) (fun _ _ _ _ _ => (pe_call o_L_answer (hr.mono (by decide)) rfl T.g_L_answer T.F_L_answer.kp T.b_L_answer .nil pass0 (pa_cons (pv 3) (pa_cons (pv 13) pa_nil))))) (pe_op (op_mulX (K := K) rfl) (pe_lst (pa_cons pe_str pa_nil)) pe_int) (nomark _)) (pss_one (ps_ret pe_bl)) pss_nil)
    (pss_cons (ps_set (i := 9) sc_law.nd rfl (by first | exact Or.inl rfl | exact Or.inr rfl) (pe_lst (pa_cons (pe_op (op_addK (K := K) rfl) (pv 4) (pe_tup (pa_cons (pv 3) pa_nil))) (pa_cons (pe_op (op_addK (K := K) rfl) (pe_slice (sl_X (K := K) rfl) (pv 4) po_none (po_some pe_int)) (pe_tup (pa_cons pe_int pa_nil))) (pa_cons (pe_op (op_addK (K := K) rfl) (pe_tup (pa_cons pe_bl pa_nil)) (pv 4)) (pa_cons (pe_callTy (call_listK (K := K) rfl) (by rfl) T.z_list (by decide +kernel) (pa_cons (pv 4) pa_nil)) (pa_cons (pe_op (op_addK (K := K) rfl) (pv 4) (pe_op (op_mulX (K := K) rfl) (pe_tup (pa_cons pe_int pa_nil)) pe_int)) (pa_cons pe_non (pa_cons (pe_tup (pa_cons (pe_un un_neg pe_int) pa_nil)) pa_nil)))))))))
    (pss_cons (ps_if (pt_cmpR (op_neK (K := K) hr.units rfl) (pe_call o_L_shown hr rfl T.g_L_shown T.F_L_shown.kp T.b_L_shown .nil pass0 (pa_cons (pv 3) (pa_cons (pe_ix (ix_K (K := K) rfl) (pv 9) (pe_call o_L_digit (hr.mono (by decide)) rfl T.g_L_digit T.F_L_digit.kp T.b_L_digit .nil pass0 (pa_cons (pv 2) (pa_cons pe_int pa_nil))) (fun _ _ => rfl)) pa_nil))) pe_str (nomark _)) (pss_one (ps_ret pe_bl)) pss_nil)
    (pss_cons (ps_set (i := 10) sc_law.nd rfl (by first | exact Or.inl rfl | exact Or.inr rfl) (pe_ix (ix_K (K := K) rfl) (pe_lst (pa_cons pe_int (pa_cons pe_int (pa_cons pe_int (pa_cons pe_non (pa_cons pe_bl (pa_cons pe_str pa_nil))))))) (pe_call o_L_digit (hr.mono (by decide)) rfl T.g_L_digit T.F_L_digit.kp T.b_L_digit .nil pass0 (pa_cons (pv 2) (pa_cons pe_int pa_nil))) (fun _ _ => rfl)))
    (pss_cons (ps_set (i := 11) sc_law.nd rfl (by first | exact Or.inl rfl | exact Or.inr rfl) (pe_ix (ix_K (K := K) rfl) (pe_lst (pa_cons (pv 4) (pa_cons (pe_lst (pa_cons pe_int pa_nil)) (pa_cons pe_non pa_nil)))) (pe_call o_L_digit (hr.mono (by decide)) rfl T.g_L_digit T.F_L_digit.kp T.b_L_digit .nil pass0 (pa_cons (pv 2) (pa_cons pe_int pa_nil))) (fun _ _ => rfl)))
    (pss_one (ps_ret (pe_and (pe_cmpR (op_eqK (K := K) hr.units rfl) (pe_call o_L_answer (hr.mono (by decide)) rfl T.g_L_answer T.F_L_answer.kp T.b_L_answer .nil pass0 (pa_cons (pv 10) (pa_cons (pe_ix (ix_K (K := K) rfl) (pe_lst (pa_cons (pv 5) (pa_cons pe_non pa_nil))) (pe_call o_L_digit (hr.mono (by decide)) rfl T.g_L_digit T.F_L_digit.kp T.b_L_digit .nil pass0 (pa_cons (pv 2) (pa_cons pe_int pa_nil))) (fun _ _ => rfl)) pa_nil))) pe_str (nomark _)) (pe_one (pe_cmpR (op_eqK (K := K) hr.units rfl) (pe_call o_L_shown hr rfl T.g_L_shown T.F_L_shown.kp T.b_L_shown .nil pass0 (pa_cons (pv 10) (pa_cons (pv 11) pa_nil))) pe_str (nomark _)))))))))))))))))))))))), ?_⟩
  match vs, h with
  | [x0], h =>
  replace h : s_law K x0 H Q E := h
  try dsimp only [cxOf, Cx.nox, Cx.wish]
  show (_ : TS) { nx := fun _ H' => Q .non H', rt := Q } [some x0, none, none, none, none, none, none, none, none, none, none, none, none, none] H
  obtain ⟨sa, sn, rfl, hs, hl, kk⟩ := h
  walk_at "sx"
  refine ⟨sa, sn, 1, rfl, hs, rfl, by omega, fun p H1 hn1 e1 hp1 => ?_⟩
  have G1 : Ex (hide p H1) H1 := hide_ex
  have gs : SqL K (hide p H1) sa (sn.map V.int) := sql_hide hn1 e1 hs
  have gp : hide p H1 p = none := hide_none
  generalize hide p H1 = G at *
  walk_at "sx"
  refine ⟨p, 35, rfl, hp1, rfl, by omega, fun d2 H2 e2 hp2 d20 d21 => ?_⟩
  walk_at "sx"
  refine ⟨p, 2 + d2, 60, rfl, hp2, rfl, by omega, rfl, by omega, fun a w H3 e3 hp3 h3 l3 g3 => ?_⟩
  walk_at "sx"
  refine ⟨p, 2 + d2, 60, rfl, hp3, rfl, by omega, rfl, by omega, fun b u H4 e4 hp4 h4 l4 g4 => ?_⟩
  have h3' := hp3.t e4 h3
  walk_at "sx"
  refine w_newL (by simp) fun l5 H5 hn5 e5 h5 => ?_
  have n5 : l5 ≠ p := fun z => by
    obtain ⟨_, hq⟩ := hp4.lst
    rw [z, hq] at hn5
    cases hn5
  have hp5 := hp4.mono e5
  walk_at "sx"
  refine ⟨p, 2, rfl, hp5, rfl, by omega, fun d H6 e6 hp6 d0 d1 => ?_⟩
  obtain ⟨c, W, hc, hW, lW, gW⟩ : ∃ (c : Addr) (W : List Int), atI [V.ref a, V.ref b] d = some (.ref c) ∧ SqT K H6 c (W.map V.int) ∧ W.length ≤ 60 ∧ Sg (2 + d2) W := by
    rcases (show d = 0 ∨ d = 1 by omega) with rfl | rfl
    · exact ⟨a, w, rfl, hp5.t e6 (Evl.ex_t e5 h3'), by omega, g3⟩
    · exact ⟨b, u, rfl, hp5.t e6 (Evl.ex_t e5 h4), by omega, g4⟩
  refine l_ixL (SqL.of (e6 _ _ n5 h5)) hc ?_
  have G6 := ExB.new G1 (e2.trans (e3.trans (e4.trans (exExB e5 e6)))) gp
  have gs6 := Evl.ex_l G6 gs
  have hq : 2 ≤ 2 + d2 ∧ 2 + d2 ≤ 36 := by omega
  generalize 2 + d2 = q at *
  clear gs gp G6 G1 hc h3' h3 h4 g3 g4 l3 l4 e2 e3 e4 e5 e6 hp2 hp3 hp4 hp5 hp1 h5 n5 hn5 d20 d21 d0 d1 e1 hn1 hs hp6 G
  have g36 : ∀ i ∈ W, 0 ≤ i ∧ i < 36 := fun i hi => by have := gW i hi; omega
  walk_at "sx"
  refine l_lcT (fun x => match x with | .int i => .str ⟨#[ltr i]⟩ | v => v) hW (by simp; omega) (fun _ => rfl) (fun x H7 hx e7 Q' k' => ?_) (fun D H7 hn7 e7 h7 => ?_)
  · obtain ⟨i, hi, rfl⟩ := List.mem_map.mp hx
    walk_at "sx"
    rw [lets_eq]
    exact l_ixS (by rw [sS_len]; decide) (by rw [sS_cps]; exact ltr_at (g36 i hi)) (k' _ (Evl.Ex.refl _))
  have hys : (W.map V.int).map (fun x => match x with | .int i => V.str ⟨#[ltr i]⟩ | v => v) = ((W.map ltr).map fun c => (⟨#[c]⟩ : Str)).map V.str := by
    rw [List.map_map, List.map_map, List.map_map]; rfl
  rw [hys] at h7
  have hem : (Str.ofString "").length = 0 := rfl
  refine l_joinL (SqL.of h7) (by rw [sum_sgl, hem]; simp; omega) ?_
  rw [join_sgl, show sS (W.map ltr) = wtx W from rfl]
  have w7 := Evl.ex_t e7 hW
  have gs7 := Evl.ex_l e7 gs6
  clear hys h7 e7 hn7 hW gs6
  walk_at "sx"
  refine .inl ⟨q, W, rfl, hq, ⟨c, rfl, w7, lW, gW⟩, fun t8 H8 e8 h8 => ?_⟩
  walk_at "sx"
  refine w_newT (by simp) fun t9 H9 _ e9 h9 => ?_
  refine l_neD (.tup (Evl.ex_t e9 h8) (.cons (.str _) (.cons (.str _) .nil))) (.tup (SqT.of h9) (.cons (.str _) (.cons (.str _) .nil))) (shaped_shown g36) (shaped_shown g36) ?_
  rw [eqv_shown]
  walk_at "sx"
  refine .inl ⟨q, wtx W, rfl, hq, rfl, by rw [wtx_len]; exact lW, fun x hx => ?_, fun t10 a10 H10 e10 h10 h10a => ?_⟩
  · unfold wtx at hx
    rw [sS_cps] at hx
    obtain ⟨i, hi, rfl⟩ := List.mem_map.mp hx
    exact ltr_mem (gW i hi) hq.2
  rw [idxs_wtx g36] at h10a
  walk_at "sx"
  refine w_newT (by simp) fun t11 H11 _ e11 h11 => ?_
  have e711 := e8.trans (e9.trans (e10.trans e11))
  refine l_neD (read_dp (Evl.ex_t e11 h10) (Evl.ex_t e11 h10a)) (read_dp (SqT.of h11) (Evl.ex_t e711 w7)) (shaped_read _) (shaped_read _) ?_
  rw [eqv_read]
  have w11 := Evl.ex_t e711 w7
  have gs11 := Evl.ex_l e711 gs7
  clear e8 e9 e10 e11 e711 h8 h9 h10 h10a h11 w7 gs7
  walk_at "sx"
  refine ⟨sa, sn, 2, rfl, gs11, rfl, by omega, fun p H12 hn12 e12 hp12 => ?_⟩
  have w12 := Evl.ex_t e12 w11
  clear gs11 w11 e12 hn12
  walk_at "sx"
  refine ⟨p, 3, rfl, hp12, rfl, by omega, fun d H13 e13 hp13 d0 d1 => ?_⟩
  have w13 := hp12.t e13 w12
  clear w12 e13 hp12
  walk_at "sx"
  refine l_forR (fun i σ Hx => ExB p H13 Hx ∧ Pot Hx p ∧ ∃ (u : Str) (v6 : Option V), σ = [some (.ref sa), some (.str "0123456789abcdefghijklmnopqrstuvwxyz"), some (.ref p), some (.int q), some (.ref c), some (.str u), v6, none, none, none, none, none, none, none] ∧ u.length ≤ 60 + i) ⟨ExB.refl, hp13, _, _, rfl, by rw [wtx_len]; omega⟩ ?_ ?_
  · rintro i σ H14 hi ⟨e14, hp14, u, v6, rfl, hu⟩
    walk_at "sx"
    refine ⟨p, u, rfl, hp14, rfl, by omega, fun z H15 e15 hp15 hz => ?_⟩
    walk_at "sx"
    exact ⟨e14.trans e15, hp15, z, _, rfl, by omega⟩
  rintro σ H14 ⟨e14, hp14, u, v6, rfl, hu⟩
  have hu : u.length ≤ 64 := by omega
  have w14 := hp13.t e14 w13
  clear w13 e14 hp13
  obtain ⟨q, rfl⟩ : ∃ n : Nat, q = n := ⟨q.toNat, by omega⟩
  walk_at "sx"
  refine q_cut (fun σ Hx => Ex H14 Hx ∧ ∃ vd, σ = [some (.ref sa), some (.str "0123456789abcdefghijklmnopqrstuvwxyz"), some (.ref p), some (.int q), some (.ref c), some (.str u), v6, some vd, none, none, none, none, none, none] ∧ ((∃ t a, (u.length ≤ 60 ∧ ∀ c ∈ u.cps.toList, c ∈ lets.take q) ∧ vd = .ref t ∧ SqT K Hx t [.str "read", .ref a] ∧ SqT K Hx a ((idxs u).map V.int)) ∨ (BadT K Hx q (.str u) ∧ vd = .str "text"))) ?_ ?_
  · walk_at "sx"
    refine l_lenS (by omega) ?_
    walk_at "sx"
    refine ifd (fun c60 => ?_) (fun c60 => ?_)
    · walk_at "sx"
      refine l_lcS (fun c => .bl (decide (c ∈ lets.take q))) (by omega) (fun _ => rfl) (fun c H15 hcm e15 Q' k' => ?_) (fun D H15 hn15 e15 h15 => ?_)
      · walk_at "sx"
        rw [lets_eq]
        refine l_slS (by rw [sS_len]; decide) ?_
        rw [cutS_to, sS_cps]
        refine l_inS ?_
        rw [sS_cps]
        exact k' _ (Evl.Ex.refl _)
      walk_at "sx"
      refine l_all (bs := u.cps.toList.map fun c => decide (c ∈ lets.take q)) (SqL.of (by rw [h15, List.map_map]; rfl)) ?_
      by_cases hc : ∀ c ∈ u.cps.toList, c ∈ lets.take q
      · have ea : (u.cps.toList.map fun c => decide (c ∈ lets.take q)).all id = true := by
          rw [List.all_eq_true]
          intro b hb
          obtain ⟨c, h2, rfl⟩ := List.mem_map.mp hb
          simpa using hc c h2
        rw [ea]
        walk_at "sx"
        refine l_lcS (fun c => .int (idx c)) (by omega) (fun _ => rfl) (fun c H16 hcm e16 Q' k' => ?_) (fun D H16 hn16 e16 h16 => ?_)
        · walk_at "sx"
          rw [lets_eq]
          exact l_sidx (occ_ltr c (List.mem_of_mem_take (hc c hcm))) (k' _ (Evl.Ex.refl _))
        walk_at "sx"
        refine l_tupL (SqL.of h16) fun a17 H17 e17 h17 => ?_
        walk_at "sx"
        refine w_newT (by simp) fun t18 H18 _ e18 h18 => ?_
        walk_at "sx"
        refine ⟨e15.trans (e16.trans (e17.trans e18)), _, rfl, .inl ⟨t18, a17, ⟨by omega, hc⟩, rfl, SqT.of h18, ?_⟩⟩
        rw [show (idxs u).map V.int = u.cps.toList.map fun c => V.int (idx c) by unfold idxs; rw [List.map_map]; rfl]
        exact Evl.ex_t e18 h17
      · have ea : (u.cps.toList.map fun c => decide (c ∈ lets.take q)).all id = false := by
          cases hh : (u.cps.toList.map fun c => decide (c ∈ lets.take q)).all id with
          | false => rfl
          | true =>
            exfalso
            refine hc fun c h2 => ?_
            rw [List.all_eq_true] at hh
            have := hh _ (List.mem_map.mpr ⟨c, h2, rfl⟩)
            simpa using this
        rw [ea]
        walk_at "sx"
        exact ⟨e15, _, rfl, .inr ⟨.sign (by omega) (by rw [Int.toNat_natCast]; exact hc), rfl⟩⟩
    · walk_at "sx"
      exact ⟨Evl.Ex.refl _, _, rfl, .inr ⟨.long (by omega) (by omega), rfl⟩⟩
  rintro σ H15 ⟨e15, vd, rfl, hd⟩
  have w15 := Evl.ex_t e15 w14
  have hp15 := hp14.mono e15
  clear w14 hp14 e15
  refine q_cut (fun σ Hx => Ex H15 Hx ∧ ∃ vf, σ = [some (.ref sa), some (.str "0123456789abcdefghijklmnopqrstuvwxyz"), some (.ref p), some (.int q), some (.ref c), some (.str u), v6, some vd, some vf, none, none, none, none, none] ∧ ((∃ t a t2 a2, u.length ≤ 60 ∧ vd = .ref t ∧ SqT K Hx t [.str "read", .ref a] ∧ SqT K Hx a ((idxs u).map V.int) ∧ vf = .ref t2 ∧ SqT K Hx t2 [.str "read", .ref a2] ∧ SqT K Hx a2 ((idxs u).map V.int)) ∨ (vd = .str "text" ∧ vf = .str "text"))) ?_ ?_
  · walk_at "sx"
    rcases hd with ⟨t, a, ⟨hl60, hcs⟩, rfl, ht, ha⟩ | ⟨hb, rfl⟩
    · refine .inl ⟨q, u, rfl, hq, rfl, hl60, by rw [Int.toNat_natCast]; exact hcs, fun t16 a16 H16 e16 h16 h16a => ?_⟩
      walk_at "sx"
      exact ⟨e16, _, rfl, .inl ⟨t, a, t16, a16, hl60, rfl, Evl.ex_t e16 ht, Evl.ex_t e16 ha, rfl, h16, h16a⟩⟩
    · refine .inr ⟨"text", .inr ⟨q, rfl, hq, hb, rfl⟩, fun H16 e16 => ?_⟩
      walk_at "sx"
      exact ⟨e16, _, rfl, .inr ⟨rfl, rfl⟩⟩
  rintro σ H15b ⟨e15b, vf, rfl, hf⟩
  refine q_cut (fun σ Hx => Ex H15b Hx ∧ σ = [some (.ref sa), some (.str "0123456789abcdefghijklmnopqrstuvwxyz"), some (.ref p), some (.int q), some (.ref c), some (.str u), v6, some vd, some vf, none, none, none, none, none]) ?_ ?_
  · walk_at "sx"
    rcases hf with ⟨t, a, t2, a2, hl60, rfl, ht, ha, rfl, h2, h2a⟩ | ⟨rfl, rfl⟩
    · refine l_neD (read_dp h2 h2a) (read_dp ht ha) (shaped_read _) (shaped_read _) ?_
      rw [eqv_read]
      walk_at "sx"
      refine l_neD (read_dp ht ha) (.str _) (shaped_read _) (by decide +kernel) ?_
      rw [show PyData.eqv (.tuple [.str "read", .tuple ((idxs u).map PyData.int)]) (.str "text") = false from rfl]
      walk_at "sx"
      refine l_ixT h2 (i := 1) (v := .ref a2) rfl ?_
      walk_at "sx"
      refine l_ixT ht (i := 1) (v := .ref a) rfl ?_
      walk_at "sx"
      refine ⟨a2, a, idxs u, rfl, h2a, rfl, ha, by unfold idxs; rw [List.length_map, len_cps]; omega, fun H17 e17 => ?_⟩
      walk_at "sx"
      exact ⟨e17, rfl⟩
    · refine l_neS ?_
      rw [decide_eq_true rfl]
      walk_at "sx"
      refine l_neS ?_
      rw [decide_eq_true rfl]
      walk_at "sx"
      exact ⟨Evl.Ex.refl _, rfl⟩
  rintro σ H16 ⟨e16b, rfl⟩
  have e16 := e15b.trans e16b
  have w16 := Evl.ex_t e16 w15
  have hp16 := hp15.mono e16
  clear w15 hp15 e16 e15b e16b hd hf
  walk_at "sx"
  refine w_newL (by simp) fun l17 H17 _ e17 h17 => ?_
  walk_at "sx"
  refine w_newT (by simp) fun t18 H18 _ e18 h18 => ?_
  walk_at "sx"
  refine w_dnk fun d19 H19 _ e19 h19 => ?_
  walk_at "sx"
  refine w_newL (by simp) fun l20 H20 _ e20 h20 => ?_
  walk_at "sx"
  have B20 : ∀ y ∈ ([.non, .int 7, .ref l17, .ref t18, .ref d19, .bl true] : List V), ∃ T, Kd K H20 y T ∧ kitB T "str" = some false := by
    intro y hy
    simp only [List.mem_cons, List.not_mem_nil, or_false] at hy
    rcases hy with rfl | rfl | rfl | rfl | rfl | rfl
    · exact ⟨_, .non, by decide +kernel⟩
    · exact ⟨_, .int _, by decide +kernel⟩
    · exact ⟨_, .lst (SqL.of ((e18.trans (e19.trans e20)) _ _ h17)), by decide +kernel⟩
    · exact ⟨_, .tup (SqT.of ((e19.trans e20) _ _ h18)), by decide +kernel⟩
    · exact ⟨_, .dct (e20 _ _ h19), by decide +kernel⟩
    · exact ⟨_, .bl _, by decide +kernel⟩
  refine l_lcL (fun _ => .str "text") (SqL.of h20) (by simp) (fun _ => rfl) (fun x H21 hx e21 Q' k' => ?_) (fun D H21 hn21 e21 h21 => ?_)
  · obtain ⟨Tx, hTx, hn⟩ := B20 x hx
    walk_at "sx"
    exact .inr ⟨"text", .inr ⟨q, rfl, hq, .kind (hTx.mono e21) hn, rfl⟩, fun H22 e22 => k' _ e22⟩
  walk_at "sx"
  refine w_newL (by simp) fun l22 H22 _ e22 h22 => ?_
  walk_at "sx"
  refine l_mulQ (l_mulL h22 (by omega) (by simp) fun l23 H23 hn23 e23 h23 => ?_)
  refine l_neD (.lst (SqL.of ((e22.trans e23) _ _ h21)) (.cons (.str _) (.cons (.str _) (.cons (.str _) (.cons (.str _) (.cons (.str _) (.cons (.str _) .nil))))))) (.lst (SqL.of h23) (.cons (.str _) (.cons (.str _) (.cons (.str _) (.cons (.str _) (.cons (.str _) (.cons (.str _) .nil))))))) (by decide +kernel) (by decide +kernel) ?_
  rw [show PyData.eqv (.list [.str "text", .str "text", .str "text", .str "text", .str "text", .str "text"]) (.list [.str "text", .str "text", .str "text", .str "text", .str "text", .str "text"]) = true by decide +kernel]
  have e1623 := e17.trans (e18.trans (e19.trans (e20.trans (e21.trans (e22.trans e23)))))
  have w23 := Evl.ex_t e1623 w16
  have hp23 := hp16.mono e1623
  clear w16 hp16 e17 e18 e19 e20 e21 e22 e23 h17 h18 h19 h20 h21 h22 h23 B20 hn21 hn23 e1623
  walk_at "sx"
  refine w_newT (by simp) fun t24 H24 _ e24 h24 => ?_
  refine l_addT (Evl.ex_t e24 w23) (SqT.of h24) (by simp; omega) fun t25 H25 e25 h25 => ?_
  walk_at "sx"
  refine l_slQ (l_slT (Evl.ex_t (e24.trans e25) w23) fun t26 H26 e26 h26 => ?_)
  rw [show (59 : Int) = ((59 : Nat) : Int) from rfl, cut_few] at h26
  walk_at "sx"
  refine w_newT (by simp) fun t27 H27 _ e27 h27 => ?_
  refine l_addT (Evl.ex_t e27 h26) (SqT.of h27) (by simp; omega) fun t28 H28 e28 h28 => ?_
  walk_at "sx"
  refine w_newT (by simp) fun t29 H29 _ e29 h29 => ?_
  have e2329 := e24.trans (e25.trans (e26.trans (e27.trans (e28.trans e29))))
  walk_at "sx"
  refine l_addT (SqT.of h29) (Evl.ex_t e2329 w23) (by simp; omega) fun t30 H30 e30 h30 => ?_
  walk_at "sx"
  refine l_listOf (.inr (Evl.ex_t (e2329.trans e30) w23)) fun l31 H31 _ e31 h31 => ?_
  walk_at "sx"
  refine w_newT (by simp) fun t32 H32 _ e32 h32 => ?_
  walk_at "sx"
  refine l_mulQ (l_mulT (SqT.of h32) (by simp) (by simp) (by omega) fun t33 H33 e33 h33 => ?_)
  refine l_addT (Evl.ex_t (e2329.trans (e30.trans (e31.trans (e32.trans e33)))) w23) h33 (by simp; omega) fun t34 H34 e34 h34 => ?_
  walk_at "sx"
  refine w_newT (by simp) fun t35 H35 _ e35 h35 => ?_
  walk_at "sx"
  refine w_newL (by simp) fun l36 H36 hn36 e36 h36 => ?_
  have f34 := e35.trans e36
  have f31 := e32.trans (e33.trans (e34.trans f34))
  have f28 := e29.trans (e30.trans (e31.trans f31))
  have e2336 := e2329.trans (e30.trans (e31.trans f31))
  have hp36 := hp23.mono e2336
  have n36 : l36 ≠ p := fun z => by
    obtain ⟨_, hq⟩ := (hp23.mono (e2329.trans (e30.trans (e31.trans (e32.trans (e33.trans (e34.trans e35))))))).lst
    rw [z, hq] at hn36
    cases hn36
  have B36 : ∀ y ∈ ([.ref t25, .ref t28, .ref t30, .ref l31, .ref t34, .non, .ref t35] : List V), BadW K H36 q y := by
    intro y hy
    simp only [List.mem_cons, List.not_mem_nil, or_false] at hy
    rcases hy with rfl | rfl | rfl | rfl | rfl | rfl | rfl
    · exact bad_app (Evl.ex_t (e26.trans (e27.trans (e28.trans f28))) h25) ⟨_, .int _⟩ (by simp [signOk])
    · exact bad_app (Evl.ex_t f28 h28) ⟨_, .int _⟩ (by simp [signOk]; omega)
    · exact bad_pre (Evl.ex_t (e31.trans f31) h30) ⟨_, .bl _⟩ rfl
    · exact .kind (.lst (SqL.of (f31 _ _ h31))) (by decide +kernel)
    · exact .long (Evl.ex_t f34 h34) (by simp)
    · exact .kind .non (by decide +kernel)
    · exact .sign (SqT.of (e36 _ _ h35)) (by simp) (kd_mem ⟨_, .int _⟩ kd_nil) (by simp [signOk])
  walk_at "sx"
  refine ⟨p, 7, rfl, hp36, rfl, by omega, fun d H37 e37 hp37 d0 d1 => ?_⟩
  obtain ⟨y36, hy36⟩ := hp36.lst
  obtain ⟨y37, hy37⟩ := hp37.lst
  obtain ⟨y, hy, hym⟩ := pick (xs := [.ref t25, .ref t28, .ref t30, .ref l31, .ref t34, .non, .ref t35]) d0 d1
  refine l_ixL (SqL.of (e37 _ _ n36 h36)) hy ?_
  have B37 := (B36 y hym).exB e37 hy36 hy37
  walk_at "sx"
  refine .inr ⟨"word", .inr ⟨q, rfl, hq, B37, rfl⟩, fun H38 e38 => ?_⟩
  walk_at "sx"
  refine l_neS ?_
  rw [decide_eq_true rfl]
  have hp38 := hp37.mono e38
  clear B36 B37 f34 f31 f28 e2336 e2329 h24 h25 h26 h27 h28 h29 h30 h31 h32 h33 h34 h35 h36 e24 e25 e26 e27 e28 e29 e30 e31 e32 e33 e34 e35 e36 e37 e38 hn36 n36 hy36 hy37 hp36 hp37 hp23 w23 hym hy
  walk_at "sx"
  refine w_newL (by simp) fun l39 H39 hn39 e39 h39 => ?_
  have hp39 := hp38.mono e39
  have n39 : l39 ≠ p := fun z => by
    obtain ⟨_, hq⟩ := hp38.lst
    rw [z, hq] at hn39
    cases hn39
  walk_at "sx"
  refine ⟨p, 6, rfl, hp39, rfl, by omega, fun z H40 e40 hp40 z0 z1 => ?_⟩
  obtain ⟨x, hx, hxm⟩ := pick (xs := [.int 1, .int 37, .int 0, .non, .bl true, .str "2"]) z0 z1
  refine l_ixL (SqL.of (e40 _ _ n39 h39)) hx ?_
  have kx : ∀ Hx, (∃ T, Kd K Hx x T) ∧ numIn 2 36 x = false := fun Hx => by
    clear hx
    simp only [List.mem_cons, List.not_mem_nil, or_false] at hxm
    rcases hxm with rfl | rfl | rfl | rfl | rfl | rfl
    · exact ⟨⟨_, .int _⟩, by decide⟩
    · exact ⟨⟨_, .int _⟩, by decide⟩
    · exact ⟨⟨_, .int _⟩, by decide⟩
    · exact ⟨⟨_, .non⟩, rfl⟩
    · exact ⟨⟨_, .bl _⟩, rfl⟩
    · exact ⟨⟨_, .str _⟩, rfl⟩
  walk_at "sx"
  refine w_newL (by simp) fun l41 H41 _ e41 h41 => ?_
  walk_at "sx"
  refine w_newL (by simp) fun l42 H42 hn42 e42 h42 => ?_
  have hp42 := hp40.mono (e41.trans e42)
  have n42 : l42 ≠ p := fun z => by
    obtain ⟨_, hq⟩ := (hp40.mono e41).lst
    rw [z, hq] at hn42
    cases hn42
  walk_at "sx"
  refine ⟨p, 3, rfl, hp42, rfl, by omega, fun z H43 e43 hp43 z0 z1 => ?_⟩
  obtain ⟨b2, hb2, _⟩ := pick (xs := [.ref c, .ref l41, .non]) z0 z1
  refine l_ixL (SqL.of (e43 _ _ n42 h42)) hb2 ?_
  walk_at "sx"
  refine w_newL (by simp) fun l44 H44 hn44 e44 h44 => ?_
  have hp44 := hp43.mono e44
  have n44 : l44 ≠ p := fun z => by
    obtain ⟨_, hq⟩ := hp43.lst
    rw [z, hq] at hn44
    cases hn44
  walk_at "sx"
  refine ⟨p, 2, rfl, hp44, rfl, by omega, fun z H45 e45 hp45 z0 z1 => ?_⟩
  obtain ⟨b3, hb3, _⟩ := pick (xs := [.str u, .non]) z0 z1
  refine l_ixL (SqL.of (e45 _ _ n44 h44)) hb3 ?_
  obtain ⟨⟨T5, k5⟩, hxn⟩ := kx H45
  walk_at "sx"
  refine .inr ⟨"count", .inl ⟨T5, k5, hxn, rfl⟩, fun H46 e46 => ?_⟩
  walk_at "sx"
  refine l_eqS ?_
  rw [decide_eq_true rfl]
  walk_at "sx"
  refine .inr ⟨"count", .inl ⟨T5, k5.mono e46, hxn, rfl⟩, fun H47 e47 => ?_⟩
  walk_at "sx"
  refine l_eqS ?_
  rw [decide_eq_true rfl]
  exact kk _
end
section
variable {P : Program} {w : World} {K : PySem.W.Frag} {mg : Str → Option Value} {base : Heap}
theorem all_ok (T : Txt K mg) : FnOk P w K mg base CX0 6 T.a_law T.fd_law ["_law_script"] (sp_law K) := by
  have o_is_number := ok_is_number (P := P) (w := w) (base := base) T
  have o_is_sign := ok_is_sign (P := P) (w := w) (base := base) T o_is_number
  have o_want_count := ok_want_count (P := P) (w := w) (base := base) T o_is_number
  have o_want_word := ok_want_word (P := P) (w := w) (base := base) T o_is_sign o_want_count
  have o_show_word := ok_show_word (P := P) (w := w) (base := base) T o_want_word
  have x_want_count : FnOk P w K mg base (L2N.CX P w) 2 T.a_want_count T.fd_want_count ["q"] (sx_want_count K) := fn_or (fn_any o_want_count) (okb_want_count (P := P) (w := w) (base := base) T o_is_number)
  have x_want_word : FnOk P w K mg base (L2N.CX P w) 3 T.a_want_word T.fd_want_word ["q", "word"] (sx_want_word K) := fn_or (fn_any o_want_word) (okb_want_word (P := P) (w := w) (base := base) T o_is_sign x_want_count)
  have x_show_word : FnOk P w K mg base (L2N.CX P w) 4 T.a_show_word T.fd_show_word ["q", "word"] (sx_show_word K) := fn_or (fn_any o_show_word) (okb_show_word (P := P) (w := w) (base := base) T x_want_word)
  have h_L_kind := okh_L_kind (P := P) (w := w) (base := base) T
  have o_L_shown := ok_L_shown (P := P) (w := w) (base := base) T x_show_word h_L_kind
  have o_read_word := ok_read_word (P := P) (w := w) (base := base) T o_want_count
  have x_read_word : FnOk P w K mg base (L2N.CX P w) 3 T.a_read_word T.fd_read_word ["q", "text"] (sx_read_word K) := fn_or (fn_any o_read_word) (okb_read_word (P := P) (w := w) (base := base) T x_want_count)
  have o_L_answer := ok_L_answer (P := P) (w := w) (base := base) T x_read_word h_L_kind
  have o_L_digit := ok_L_digit (P := P) (w := w) (base := base) T
  have o_L_plain := ok_L_plain (P := P) (w := w) (base := base) T
  have o_L_is_word := ok_L_is_word (P := P) (w := w) (base := base) T o_L_plain
  have o_L_signs := ok_L_signs (P := P) (w := w) (base := base) T o_L_digit
  have o_L_at := ok_L_at (P := P) (w := w) (base := base) T
  have o_L_pot := ok_L_pot (P := P) (w := w) (base := base) T o_L_at
  have o_L_runny := ok_L_runny (P := P) (w := w) (base := base) T o_L_digit
  have o_L_long := ok_L_long (P := P) (w := w) (base := base) T o_L_digit
  have o_L_word := ok_L_word (P := P) (w := w) (base := base) T o_L_long o_L_digit
  exact ok_law T o_L_shown o_L_answer o_L_digit o_L_is_word o_L_signs o_L_pot o_L_runny o_L_word
end
theorem all_mk {l : PySem.W.OpenLaw} {w : World} {K : PySem.W.Frag} {h : Heap} {mg : Str → Option Value} {fa : Addr} (X : K.In h) (G : h.Ns mainGlobals mg) (hfa : mg "law" = some (.ref fa))
    {f0 : Addr} {od0 an0 : Option Addr} {sl0 : Array (Option Value)} {oc0 kV0 dc0 pm0 cd0 ct0 : Value} {f1 : Addr} {od1 an1 : Option Addr} {sl1 : Array (Option Value)} {oc1 kV1 dc1 pm1 cd1 ct1 : Value} {f2 : Addr} {od2 an2 : Option Addr} {sl2 : Array (Option Value)} {oc2 kV2 dc2 pm2 cd2 ct2 : Value} {f3 : Addr} {od3 an3 : Option Addr} {sl3 : Array (Option Value)} {oc3 kV3 dc3 pm3 cd3 ct3 : Value} {f4 : Addr} {od4 an4 : Option Addr} {sl4 : Array (Option Value)} {oc4 kV4 dc4 pm4 cd4 ct4 : Value} {f5 : Addr} {od5 an5 : Option Addr} {sl5 : Array (Option Value)} {oc5 kV5 dc5 pm5 cd5 ct5 : Value} {f6 : Addr} {od6 an6 : Option Addr} {sl6 : Array (Option Value)} {oc6 kV6 dc6 pm6 cd6 ct6 : Value} {f7 : Addr} {od7 an7 : Option Addr} {sl7 : Array (Option Value)} {oc7 kV7 dc7 pm7 cd7 ct7 : Value} {f8 : Addr} {od8 an8 : Option Addr} {sl8 : Array (Option Value)} {oc8 kV8 dc8 pm8 cd8 ct8 : Value} {f9 : Addr} {od9 an9 : Option Addr} {sl9 : Array (Option Value)} {oc9 kV9 dc9 pm9 cd9 ct9 : Value} {f10 : Addr} {od10 an10 : Option Addr} {sl10 : Array (Option Value)} {oc10 kV10 dc10 pm10 cd10 ct10 : Value} {f11 : Addr} {od11 an11 : Option Addr} {sl11 : Array (Option Value)} {oc11 kV11 dc11 pm11 cd11 ct11 : Value} {f12 : Addr} {od12 an12 : Option Addr} {sl12 : Array (Option Value)} {oc12 kV12 dc12 pm12 cd12 ct12 : Value} {f13 : Addr} {od13 an13 : Option Addr} {sl13 : Array (Option Value)} {oc13 kV13 dc13 pm13 cd13 ct13 : Value} {f14 : Addr} {od14 an14 : Option Addr} {sl14 : Array (Option Value)} {oc14 kV14 dc14 pm14 cd14 ct14 : Value} {f15 : Addr} {od15 an15 : Option Addr} {sl15 : Array (Option Value)} {oc15 kV15 dc15 pm15 cd15 ct15 : Value} {f16 : Addr} {od16 an16 : Option Addr} {sl16 : Array (Option Value)} {oc16 kV16 dc16 pm16 cd16 ct16 : Value} {f17 : Addr} {od17 an17 : Option Addr} {sl17 : Array (Option Value)} {oc17 kV17 dc17 pm17 cd17 ct17 : Value} {f18 : Addr} {od18 an18 : Option Addr} {sl18 : Array (Option Value)} {oc18 kV18 dc18 pm18 cd18 ct18 : Value} {C_MarkError : Addr} {C_NoCount : Addr} {C_NoLength : Addr} {C_NoMember : Addr} {C_NoNumber : Addr} {C_NoPlace : Addr} {C_NoRest : Addr} {C_NoRow : Addr} {C_NoSign : Addr} {C_NoText : Addr} {C_NoWord : Addr} {C_TooMany : Addr} {t_LEAST_SIGNS : Tok} {t_MOST_LENGTH : Tok} {t_MOST_SIGNS : Tok} {t_SIGNS : Tok}
    (gx_MarkError : PySem.W.nsIn K mainGlobals "MarkError" = some (some (.ref C_MarkError))) (xq_MarkError : PySem.W.excIn K C_MarkError excVE "ValueError.__new__" = true) (xk_MarkError : PySem.W.keepIn K (.ref C_MarkError) = true) (xb_MarkError : PySem.W.subIn K (.ref C_MarkError) (.type "BaseException") = some true) (xt_MarkError : PySem.W.typeIn K (.ref C_MarkError) = some (.type "type")) (xi_MarkError : PySem.W.isClsIn K C_MarkError = true) (xs_MarkError : PySem.W.subIn K (.ref C_MarkError) (.ref C_MarkError) = some true) (xv_MarkError : PySem.W.subIn K (.ref C_MarkError) (.type "ValueError") = some true)
    (gx_NoCount : PySem.W.nsIn K mainGlobals "NoCount" = some (some (.ref C_NoCount))) (xq_NoCount : PySem.W.excIn K C_NoCount excVE "ValueError.__new__" = true) (xk_NoCount : PySem.W.keepIn K (.ref C_NoCount) = true) (xb_NoCount : PySem.W.subIn K (.ref C_NoCount) (.type "BaseException") = some true) (xt_NoCount : PySem.W.typeIn K (.ref C_NoCount) = some (.type "type")) (xi_NoCount : PySem.W.isClsIn K C_NoCount = true) (xs_NoCount : PySem.W.subIn K (.ref C_NoCount) (.ref C_NoCount) = some true) (xv_NoCount : PySem.W.subIn K (.ref C_NoCount) (.type "ValueError") = some true)
    (gx_NoLength : PySem.W.nsIn K mainGlobals "NoLength" = some (some (.ref C_NoLength))) (xq_NoLength : PySem.W.excIn K C_NoLength excVE "ValueError.__new__" = true) (xk_NoLength : PySem.W.keepIn K (.ref C_NoLength) = true) (xb_NoLength : PySem.W.subIn K (.ref C_NoLength) (.type "BaseException") = some true) (xt_NoLength : PySem.W.typeIn K (.ref C_NoLength) = some (.type "type")) (xi_NoLength : PySem.W.isClsIn K C_NoLength = true) (xs_NoLength : PySem.W.subIn K (.ref C_NoLength) (.ref C_NoLength) = some true) (xv_NoLength : PySem.W.subIn K (.ref C_NoLength) (.type "ValueError") = some true)
    (gx_NoMember : PySem.W.nsIn K mainGlobals "NoMember" = some (some (.ref C_NoMember))) (xq_NoMember : PySem.W.excIn K C_NoMember excVE "ValueError.__new__" = true) (xk_NoMember : PySem.W.keepIn K (.ref C_NoMember) = true) (xb_NoMember : PySem.W.subIn K (.ref C_NoMember) (.type "BaseException") = some true) (xt_NoMember : PySem.W.typeIn K (.ref C_NoMember) = some (.type "type")) (xi_NoMember : PySem.W.isClsIn K C_NoMember = true) (xs_NoMember : PySem.W.subIn K (.ref C_NoMember) (.ref C_NoMember) = some true) (xv_NoMember : PySem.W.subIn K (.ref C_NoMember) (.type "ValueError") = some true)
    (gx_NoNumber : PySem.W.nsIn K mainGlobals "NoNumber" = some (some (.ref C_NoNumber))) (xq_NoNumber : PySem.W.excIn K C_NoNumber excVE "ValueError.__new__" = true) (xk_NoNumber : PySem.W.keepIn K (.ref C_NoNumber) = true) (xb_NoNumber : PySem.W.subIn K (.ref C_NoNumber) (.type "BaseException") = some true) (xt_NoNumber : PySem.W.typeIn K (.ref C_NoNumber) = some (.type "type")) (xi_NoNumber : PySem.W.isClsIn K C_NoNumber = true) (xs_NoNumber : PySem.W.subIn K (.ref C_NoNumber) (.ref C_NoNumber) = some true) (xv_NoNumber : PySem.W.subIn K (.ref C_NoNumber) (.type "ValueError") = some true)
    (gx_NoPlace : PySem.W.nsIn K mainGlobals "NoPlace" = some (some (.ref C_NoPlace))) (xq_NoPlace : PySem.W.excIn K C_NoPlace excVE "ValueError.__new__" = true) (xk_NoPlace : PySem.W.keepIn K (.ref C_NoPlace) = true) (xb_NoPlace : PySem.W.subIn K (.ref C_NoPlace) (.type "BaseException") = some true) (xt_NoPlace : PySem.W.typeIn K (.ref C_NoPlace) = some (.type "type")) (xi_NoPlace : PySem.W.isClsIn K C_NoPlace = true) (xs_NoPlace : PySem.W.subIn K (.ref C_NoPlace) (.ref C_NoPlace) = some true) (xv_NoPlace : PySem.W.subIn K (.ref C_NoPlace) (.type "ValueError") = some true)
    (gx_NoRest : PySem.W.nsIn K mainGlobals "NoRest" = some (some (.ref C_NoRest))) (xq_NoRest : PySem.W.excIn K C_NoRest excVE "ValueError.__new__" = true) (xk_NoRest : PySem.W.keepIn K (.ref C_NoRest) = true) (xb_NoRest : PySem.W.subIn K (.ref C_NoRest) (.type "BaseException") = some true) (xt_NoRest : PySem.W.typeIn K (.ref C_NoRest) = some (.type "type")) (xi_NoRest : PySem.W.isClsIn K C_NoRest = true) (xs_NoRest : PySem.W.subIn K (.ref C_NoRest) (.ref C_NoRest) = some true) (xv_NoRest : PySem.W.subIn K (.ref C_NoRest) (.type "ValueError") = some true)
    (gx_NoRow : PySem.W.nsIn K mainGlobals "NoRow" = some (some (.ref C_NoRow))) (xq_NoRow : PySem.W.excIn K C_NoRow excVE "ValueError.__new__" = true) (xk_NoRow : PySem.W.keepIn K (.ref C_NoRow) = true) (xb_NoRow : PySem.W.subIn K (.ref C_NoRow) (.type "BaseException") = some true) (xt_NoRow : PySem.W.typeIn K (.ref C_NoRow) = some (.type "type")) (xi_NoRow : PySem.W.isClsIn K C_NoRow = true) (xs_NoRow : PySem.W.subIn K (.ref C_NoRow) (.ref C_NoRow) = some true) (xv_NoRow : PySem.W.subIn K (.ref C_NoRow) (.type "ValueError") = some true)
    (gx_NoSign : PySem.W.nsIn K mainGlobals "NoSign" = some (some (.ref C_NoSign))) (xq_NoSign : PySem.W.excIn K C_NoSign excVE "ValueError.__new__" = true) (xk_NoSign : PySem.W.keepIn K (.ref C_NoSign) = true) (xb_NoSign : PySem.W.subIn K (.ref C_NoSign) (.type "BaseException") = some true) (xt_NoSign : PySem.W.typeIn K (.ref C_NoSign) = some (.type "type")) (xi_NoSign : PySem.W.isClsIn K C_NoSign = true) (xs_NoSign : PySem.W.subIn K (.ref C_NoSign) (.ref C_NoSign) = some true) (xv_NoSign : PySem.W.subIn K (.ref C_NoSign) (.type "ValueError") = some true)
    (gx_NoText : PySem.W.nsIn K mainGlobals "NoText" = some (some (.ref C_NoText))) (xq_NoText : PySem.W.excIn K C_NoText excVE "ValueError.__new__" = true) (xk_NoText : PySem.W.keepIn K (.ref C_NoText) = true) (xb_NoText : PySem.W.subIn K (.ref C_NoText) (.type "BaseException") = some true) (xt_NoText : PySem.W.typeIn K (.ref C_NoText) = some (.type "type")) (xi_NoText : PySem.W.isClsIn K C_NoText = true) (xs_NoText : PySem.W.subIn K (.ref C_NoText) (.ref C_NoText) = some true) (xv_NoText : PySem.W.subIn K (.ref C_NoText) (.type "ValueError") = some true)
    (gx_NoWord : PySem.W.nsIn K mainGlobals "NoWord" = some (some (.ref C_NoWord))) (xq_NoWord : PySem.W.excIn K C_NoWord excVE "ValueError.__new__" = true) (xk_NoWord : PySem.W.keepIn K (.ref C_NoWord) = true) (xb_NoWord : PySem.W.subIn K (.ref C_NoWord) (.type "BaseException") = some true) (xt_NoWord : PySem.W.typeIn K (.ref C_NoWord) = some (.type "type")) (xi_NoWord : PySem.W.isClsIn K C_NoWord = true) (xs_NoWord : PySem.W.subIn K (.ref C_NoWord) (.ref C_NoWord) = some true) (xv_NoWord : PySem.W.subIn K (.ref C_NoWord) (.type "ValueError") = some true)
    (gx_TooMany : PySem.W.nsIn K mainGlobals "TooMany" = some (some (.ref C_TooMany))) (xq_TooMany : PySem.W.excIn K C_TooMany excVE "ValueError.__new__" = true) (xk_TooMany : PySem.W.keepIn K (.ref C_TooMany) = true) (xb_TooMany : PySem.W.subIn K (.ref C_TooMany) (.type "BaseException") = some true) (xt_TooMany : PySem.W.typeIn K (.ref C_TooMany) = some (.type "type")) (xi_TooMany : PySem.W.isClsIn K C_TooMany = true) (xs_TooMany : PySem.W.subIn K (.ref C_TooMany) (.ref C_TooMany) = some true) (xv_TooMany : PySem.W.subIn K (.ref C_TooMany) (.type "ValueError") = some true)
    (xn0 : PySem.W.specialIn K (.builtin "object.__class__") "__get__" = some (some (.builtin "getset_descriptor.__get__"))) (xt0 : PySem.W.takesIn K (.builtin "object.__class__") = some true)
    (ya_NoCount : PySem.W.findIn K (.ref C_NoCount) "__getattribute__" = some (some (.builtin "BaseException.__getattribute__"))) (yb_NoCount : PySem.W.findIn K (.ref C_NoCount) "__getattr__" = some none) (yd_NoCount : PySem.W.hasDictIn K C_NoCount = true) (yc_NoCount : PySem.W.findIn K (.ref C_NoCount) "__class__" = some (some (.builtin "object.__class__"))) (ym_NoCount : PySem.W.mroIn K C_NoCount (.type "object") = some true)
    (ya_NoText : PySem.W.findIn K (.ref C_NoText) "__getattribute__" = some (some (.builtin "BaseException.__getattribute__"))) (yb_NoText : PySem.W.findIn K (.ref C_NoText) "__getattr__" = some none) (yd_NoText : PySem.W.hasDictIn K C_NoText = true) (yc_NoText : PySem.W.findIn K (.ref C_NoText) "__class__" = some (some (.builtin "object.__class__"))) (ym_NoText : PySem.W.mroIn K C_NoText (.type "object") = some true)
    (ya_NoWord : PySem.W.findIn K (.ref C_NoWord) "__getattribute__" = some (some (.builtin "BaseException.__getattribute__"))) (yb_NoWord : PySem.W.findIn K (.ref C_NoWord) "__getattr__" = some none) (yd_NoWord : PySem.W.hasDictIn K C_NoWord = true) (yc_NoWord : PySem.W.findIn K (.ref C_NoWord) "__class__" = some (some (.builtin "object.__class__"))) (ym_NoWord : PySem.W.mroIn K C_NoWord (.type "object") = some true) (sub_NoCount_MarkError : PySem.W.subIn K (.ref C_NoCount) (.ref C_MarkError) = some true) (sub_NoCount_NoCount : PySem.W.subIn K (.ref C_NoCount) (.ref C_NoCount) = some true) (sub_NoCount_NoLength : PySem.W.subIn K (.ref C_NoCount) (.ref C_NoLength) = some false) (sub_NoCount_NoMember : PySem.W.subIn K (.ref C_NoCount) (.ref C_NoMember) = some false) (sub_NoCount_NoNumber : PySem.W.subIn K (.ref C_NoCount) (.ref C_NoNumber) = some false) (sub_NoCount_NoPlace : PySem.W.subIn K (.ref C_NoCount) (.ref C_NoPlace) = some false) (sub_NoCount_NoRest : PySem.W.subIn K (.ref C_NoCount) (.ref C_NoRest) = some false) (sub_NoCount_NoRow : PySem.W.subIn K (.ref C_NoCount) (.ref C_NoRow) = some false) (sub_NoCount_NoSign : PySem.W.subIn K (.ref C_NoCount) (.ref C_NoSign) = some false) (sub_NoCount_NoText : PySem.W.subIn K (.ref C_NoCount) (.ref C_NoText) = some false) (sub_NoCount_NoWord : PySem.W.subIn K (.ref C_NoCount) (.ref C_NoWord) = some false) (sub_NoCount_TooMany : PySem.W.subIn K (.ref C_NoCount) (.ref C_TooMany) = some false) (sub_NoText_MarkError : PySem.W.subIn K (.ref C_NoText) (.ref C_MarkError) = some true) (sub_NoText_NoCount : PySem.W.subIn K (.ref C_NoText) (.ref C_NoCount) = some false) (sub_NoText_NoLength : PySem.W.subIn K (.ref C_NoText) (.ref C_NoLength) = some false) (sub_NoText_NoMember : PySem.W.subIn K (.ref C_NoText) (.ref C_NoMember) = some false) (sub_NoText_NoNumber : PySem.W.subIn K (.ref C_NoText) (.ref C_NoNumber) = some false) (sub_NoText_NoPlace : PySem.W.subIn K (.ref C_NoText) (.ref C_NoPlace) = some false) (sub_NoText_NoRest : PySem.W.subIn K (.ref C_NoText) (.ref C_NoRest) = some false) (sub_NoText_NoRow : PySem.W.subIn K (.ref C_NoText) (.ref C_NoRow) = some false) (sub_NoText_NoSign : PySem.W.subIn K (.ref C_NoText) (.ref C_NoSign) = some false) (sub_NoText_NoText : PySem.W.subIn K (.ref C_NoText) (.ref C_NoText) = some true) (sub_NoText_NoWord : PySem.W.subIn K (.ref C_NoText) (.ref C_NoWord) = some false) (sub_NoText_TooMany : PySem.W.subIn K (.ref C_NoText) (.ref C_TooMany) = some false) (sub_NoWord_MarkError : PySem.W.subIn K (.ref C_NoWord) (.ref C_MarkError) = some true) (sub_NoWord_NoCount : PySem.W.subIn K (.ref C_NoWord) (.ref C_NoCount) = some false) (sub_NoWord_NoLength : PySem.W.subIn K (.ref C_NoWord) (.ref C_NoLength) = some false) (sub_NoWord_NoMember : PySem.W.subIn K (.ref C_NoWord) (.ref C_NoMember) = some false) (sub_NoWord_NoNumber : PySem.W.subIn K (.ref C_NoWord) (.ref C_NoNumber) = some false) (sub_NoWord_NoPlace : PySem.W.subIn K (.ref C_NoWord) (.ref C_NoPlace) = some false) (sub_NoWord_NoRest : PySem.W.subIn K (.ref C_NoWord) (.ref C_NoRest) = some false) (sub_NoWord_NoRow : PySem.W.subIn K (.ref C_NoWord) (.ref C_NoRow) = some false) (sub_NoWord_NoSign : PySem.W.subIn K (.ref C_NoWord) (.ref C_NoSign) = some false) (sub_NoWord_NoText : PySem.W.subIn K (.ref C_NoWord) (.ref C_NoText) = some false) (sub_NoWord_NoWord : PySem.W.subIn K (.ref C_NoWord) (.ref C_NoWord) = some true) (sub_NoWord_TooMany : PySem.W.subIn K (.ref C_NoWord) (.ref C_TooMany) = some false)
    (a0 : PySem.W.nsIn K mainGlobals "is_number" = some (some (.ref f0))) (l0 : K.lookup f0 = some ⟨oc0, od0, .func (PySem.W.fnOf "is_number" "is_number" (defArgs S_is_number) (defBody S_is_number) (defScope S_is_number) .none kV0 dc0 pm0 an0 cd0 ct0), sl0⟩) (c0 : PySem.W.codeIn K cd0 "is_number" = true) (k0 : PySem.W.keepIn K (.ref f0) = true)
    (a1 : PySem.W.nsIn K mainGlobals "want_count" = some (some (.ref f1))) (l1 : K.lookup f1 = some ⟨oc1, od1, .func (PySem.W.fnOf "want_count" "want_count" (defArgs S_want_count) (defBody S_want_count) (defScope S_want_count) .none kV1 dc1 pm1 an1 cd1 ct1), sl1⟩) (c1 : PySem.W.codeIn K cd1 "want_count" = true) (k1 : PySem.W.keepIn K (.ref f1) = true)
    (a2 : PySem.W.nsIn K mainGlobals "is_sign" = some (some (.ref f2))) (l2 : K.lookup f2 = some ⟨oc2, od2, .func (PySem.W.fnOf "is_sign" "is_sign" (defArgs S_is_sign) (defBody S_is_sign) (defScope S_is_sign) .none kV2 dc2 pm2 an2 cd2 ct2), sl2⟩) (c2 : PySem.W.codeIn K cd2 "is_sign" = true) (k2 : PySem.W.keepIn K (.ref f2) = true)
    (a3 : PySem.W.nsIn K mainGlobals "want_word" = some (some (.ref f3))) (l3 : K.lookup f3 = some ⟨oc3, od3, .func (PySem.W.fnOf "want_word" "want_word" (defArgs S_want_word) (defBody S_want_word) (defScope S_want_word) .none kV3 dc3 pm3 an3 cd3 ct3), sl3⟩) (c3 : PySem.W.codeIn K cd3 "want_word" = true) (k3 : PySem.W.keepIn K (.ref f3) = true)
    (a4 : PySem.W.nsIn K mainGlobals "show_word" = some (some (.ref f4))) (l4 : K.lookup f4 = some ⟨oc4, od4, .func (PySem.W.fnOf "show_word" "show_word" (defArgs S_show_word) (defBody S_show_word) (defScope S_show_word) .none kV4 dc4 pm4 an4 cd4 ct4), sl4⟩) (c4 : PySem.W.codeIn K cd4 "show_word" = true) (k4 : PySem.W.keepIn K (.ref f4) = true)
    (a5 : PySem.W.nsIn K mainGlobals "read_word" = some (some (.ref f5))) (l5 : K.lookup f5 = some ⟨oc5, od5, .func (PySem.W.fnOf "read_word" "read_word" (defArgs S_read_word) (defBody S_read_word) (defScope S_read_word) .none kV5 dc5 pm5 an5 cd5 ct5), sl5⟩) (c5 : PySem.W.codeIn K cd5 "read_word" = true) (k5 : PySem.W.keepIn K (.ref f5) = true)
    (a6 : PySem.W.nsIn K mainGlobals "_law_at" = some (some (.ref f6))) (l6 : K.lookup f6 = some ⟨oc6, od6, .func (PySem.W.fnOf "_law_at" "_law_at" (defArgs S_L_at) (defBody S_L_at) (defScope S_L_at) .none kV6 dc6 pm6 an6 cd6 ct6), sl6⟩) (c6 : PySem.W.codeIn K cd6 "_law_at" = true) (k6 : PySem.W.keepIn K (.ref f6) = true)
    (a7 : PySem.W.nsIn K mainGlobals "_law_pot" = some (some (.ref f7))) (l7 : K.lookup f7 = some ⟨oc7, od7, .func (PySem.W.fnOf "_law_pot" "_law_pot" (defArgs S_L_pot) (defBody S_L_pot) (defScope S_L_pot) .none kV7 dc7 pm7 an7 cd7 ct7), sl7⟩) (c7 : PySem.W.codeIn K cd7 "_law_pot" = true) (k7 : PySem.W.keepIn K (.ref f7) = true)
    (a8 : PySem.W.nsIn K mainGlobals "_law_digit" = some (some (.ref f8))) (l8 : K.lookup f8 = some ⟨oc8, od8, .func (PySem.W.fnOf "_law_digit" "_law_digit" (defArgs S_L_digit) (defBody S_L_digit) (defScope S_L_digit) .none kV8 dc8 pm8 an8 cd8 ct8), sl8⟩) (c8 : PySem.W.codeIn K cd8 "_law_digit" = true) (k8 : PySem.W.keepIn K (.ref f8) = true)
    (a9 : PySem.W.nsIn K mainGlobals "_law_long" = some (some (.ref f9))) (l9 : K.lookup f9 = some ⟨oc9, od9, .func (PySem.W.fnOf "_law_long" "_law_long" (defArgs S_L_long) (defBody S_L_long) (defScope S_L_long) .none kV9 dc9 pm9 an9 cd9 ct9), sl9⟩) (c9 : PySem.W.codeIn K cd9 "_law_long" = true) (k9 : PySem.W.keepIn K (.ref f9) = true)
    (a10 : PySem.W.nsIn K mainGlobals "_law_word" = some (some (.ref f10))) (l10 : K.lookup f10 = some ⟨oc10, od10, .func (PySem.W.fnOf "_law_word" "_law_word" (defArgs S_L_word) (defBody S_L_word) (defScope S_L_word) .none kV10 dc10 pm10 an10 cd10 ct10), sl10⟩) (c10 : PySem.W.codeIn K cd10 "_law_word" = true) (k10 : PySem.W.keepIn K (.ref f10) = true)
    (a11 : PySem.W.nsIn K mainGlobals "_law_runny" = some (some (.ref f11))) (l11 : K.lookup f11 = some ⟨oc11, od11, .func (PySem.W.fnOf "_law_runny" "_law_runny" (defArgs S_L_runny) (defBody S_L_runny) (defScope S_L_runny) .none kV11 dc11 pm11 an11 cd11 ct11), sl11⟩) (c11 : PySem.W.codeIn K cd11 "_law_runny" = true) (k11 : PySem.W.keepIn K (.ref f11) = true)
    (a12 : PySem.W.nsIn K mainGlobals "_law_plain" = some (some (.ref f12))) (l12 : K.lookup f12 = some ⟨oc12, od12, .func (PySem.W.fnOf "_law_plain" "_law_plain" (defArgs S_L_plain) (defBody S_L_plain) (defScope S_L_plain) .none kV12 dc12 pm12 an12 cd12 ct12), sl12⟩) (c12 : PySem.W.codeIn K cd12 "_law_plain" = true) (k12 : PySem.W.keepIn K (.ref f12) = true)
    (a13 : PySem.W.nsIn K mainGlobals "_law_is_word" = some (some (.ref f13))) (l13 : K.lookup f13 = some ⟨oc13, od13, .func (PySem.W.fnOf "_law_is_word" "_law_is_word" (defArgs S_L_is_word) (defBody S_L_is_word) (defScope S_L_is_word) .none kV13 dc13 pm13 an13 cd13 ct13), sl13⟩) (c13 : PySem.W.codeIn K cd13 "_law_is_word" = true) (k13 : PySem.W.keepIn K (.ref f13) = true)
    (a14 : PySem.W.nsIn K mainGlobals "_law_kind" = some (some (.ref f14))) (l14 : K.lookup f14 = some ⟨oc14, od14, .func (PySem.W.fnOf "_law_kind" "_law_kind" (defArgs S_L_kind) (defBody S_L_kind) (defScope S_L_kind) .none kV14 dc14 pm14 an14 cd14 ct14), sl14⟩) (c14 : PySem.W.codeIn K cd14 "_law_kind" = true) (k14 : PySem.W.keepIn K (.ref f14) = true)
    (a15 : PySem.W.nsIn K mainGlobals "_law_answer" = some (some (.ref f15))) (l15 : K.lookup f15 = some ⟨oc15, od15, .func (PySem.W.fnOf "_law_answer" "_law_answer" (defArgs S_L_answer) (defBody S_L_answer) (defScope S_L_answer) .none kV15 dc15 pm15 an15 cd15 ct15), sl15⟩) (c15 : PySem.W.codeIn K cd15 "_law_answer" = true) (k15 : PySem.W.keepIn K (.ref f15) = true)
    (a16 : PySem.W.nsIn K mainGlobals "_law_shown" = some (some (.ref f16))) (l16 : K.lookup f16 = some ⟨oc16, od16, .func (PySem.W.fnOf "_law_shown" "_law_shown" (defArgs S_L_shown) (defBody S_L_shown) (defScope S_L_shown) .none kV16 dc16 pm16 an16 cd16 ct16), sl16⟩) (c16 : PySem.W.codeIn K cd16 "_law_shown" = true) (k16 : PySem.W.keepIn K (.ref f16) = true)
    (a17 : PySem.W.nsIn K mainGlobals "_law_signs" = some (some (.ref f17))) (l17 : K.lookup f17 = some ⟨oc17, od17, .func (PySem.W.fnOf "_law_signs" "_law_signs" (defArgs S_L_signs) (defBody S_L_signs) (defScope S_L_signs) .none kV17 dc17 pm17 an17 cd17 ct17), sl17⟩) (c17 : PySem.W.codeIn K cd17 "_law_signs" = true) (k17 : PySem.W.keepIn K (.ref f17) = true)
    (a18 : PySem.W.nsIn K mainGlobals "law" = some (some (.ref f18))) (l18 : K.lookup f18 = some ⟨oc18, od18, .func (PySem.W.fnOf "law" "law" (defArgs S_law) (defBody S_law) (defScope S_law) .none kV18 dc18 pm18 an18 cd18 ct18), sl18⟩) (c18 : PySem.W.codeIn K cd18 "law" = true) (k18 : PySem.W.keepIn K (.ref f18) = true)
    (z_ValueError : PySem.W.nsIn K mainGlobals "ValueError" = some none)
    (z_all : PySem.W.nsIn K mainGlobals "all" = some none)
    (z_bool : PySem.W.nsIn K mainGlobals "bool" = some none)
    (z_int : PySem.W.nsIn K mainGlobals "int" = some none)
    (z_isinstance : PySem.W.nsIn K mainGlobals "isinstance" = some none)
    (z_len : PySem.W.nsIn K mainGlobals "len" = some none)
    (z_list : PySem.W.nsIn K mainGlobals "list" = some none)
    (z_range : PySem.W.nsIn K mainGlobals "range" = some none)
    (z_str : PySem.W.nsIn K mainGlobals "str" = some none)
    (z_tuple : PySem.W.nsIn K mainGlobals "tuple" = some none)
    (c_LEAST_SIGNS : PySem.W.nsIn K mainGlobals "LEAST_SIGNS" = some (some (.int 2 t_LEAST_SIGNS)))
    (c_MOST_LENGTH : PySem.W.nsIn K mainGlobals "MOST_LENGTH" = some (some (.int 60 t_MOST_LENGTH)))
    (c_MOST_SIGNS : PySem.W.nsIn K mainGlobals "MOST_SIGNS" = some (some (.int 36 t_MOST_SIGNS)))
    (c_SIGNS : PySem.W.nsIn K mainGlobals "SIGNS" = some (some (.str (PySem.Str.ofString "0123456789abcdefghijklmnopqrstuvwxyz") t_SIGNS))) :
    ∃ fd : FuncData, (∀ (s : Shared) (v : Value), BindsTo s fd ⟨[v], []⟩ [("_law_script", v)]) ∧ ∀ base : Heap, K.In base → base.Ns mainGlobals mg → FnOk l.prog w K mg base CX0 6 fa fd ["_law_script"] (sp_law K) := by
  have e := hfa.symm.trans (PySem.W.mg_of X G a18)
  cases e
  have F0 := fun_mk (st := S_is_number) l0 c0 k0
  have b0 := F0.binds (ps := ["thing"]) fun _ _ _ _ _ _ us hl => match us, hl with | [_], _ => rfl
  have F1 := fun_mk (st := S_want_count) l1 c1 k1
  have b1 := F1.binds (ps := ["q"]) fun _ _ _ _ _ _ us hl => match us, hl with | [_], _ => rfl
  have F2 := fun_mk (st := S_is_sign) l2 c2 k2
  have b2 := F2.binds (ps := ["q", "thing"]) fun _ _ _ _ _ _ us hl => match us, hl with | [_, _], _ => rfl
  have F3 := fun_mk (st := S_want_word) l3 c3 k3
  have b3 := F3.binds (ps := ["q", "word"]) fun _ _ _ _ _ _ us hl => match us, hl with | [_, _], _ => rfl
  have F4 := fun_mk (st := S_show_word) l4 c4 k4
  have b4 := F4.binds (ps := ["q", "word"]) fun _ _ _ _ _ _ us hl => match us, hl with | [_, _], _ => rfl
  have F5 := fun_mk (st := S_read_word) l5 c5 k5
  have b5 := F5.binds (ps := ["q", "text"]) fun _ _ _ _ _ _ us hl => match us, hl with | [_, _], _ => rfl
  have F6 := fun_mk (st := S_L_at) l6 c6 k6
  have b6 := F6.binds (ps := ["_law_script", "_law_k"]) fun _ _ _ _ _ _ us hl => match us, hl with | [_, _], _ => rfl
  have F7 := fun_mk (st := S_L_pot) l7 c7 k7
  have b7 := F7.binds (ps := ["_law_script", "_law_k"]) fun _ _ _ _ _ _ us hl => match us, hl with | [_, _], _ => rfl
  have F8 := fun_mk (st := S_L_digit) l8 c8 k8
  have b8 := F8.binds (ps := ["_law_pot_here", "_law_base"]) fun _ _ _ _ _ _ us hl => match us, hl with | [_, _], _ => rfl
  have F9 := fun_mk (st := S_L_long) l9 c9 k9
  have b9 := F9.binds (ps := ["_law_pot_here", "_law_q", "_law_n"]) fun _ _ _ _ _ _ us hl => match us, hl with | [_, _, _], _ => rfl
  have F10 := fun_mk (st := S_L_word) l10 c10 k10
  have b10 := F10.binds (ps := ["_law_pot_here", "_law_q", "_law_most"]) fun _ _ _ _ _ _ us hl => match us, hl with | [_, _, _], _ => rfl
  have F11 := fun_mk (st := S_L_runny) l11 c11 k11
  have b11 := F11.binds (ps := ["_law_pot_here", "_law_q", "_law_most"]) fun _ _ _ _ _ _ us hl => match us, hl with | [_, _, _], _ => rfl
  have F12 := fun_mk (st := S_L_plain) l12 c12 k12
  have b12 := F12.binds (ps := ["_law_found"]) fun _ _ _ _ _ _ us hl => match us, hl with | [_], _ => rfl
  have F13 := fun_mk (st := S_L_is_word) l13 c13 k13
  have b13 := F13.binds (ps := ["_law_found", "_law_due"]) fun _ _ _ _ _ _ us hl => match us, hl with | [_, _], _ => rfl
  have F14 := fun_mk (st := S_L_kind) l14 c14 k14
  have b14 := F14.binds (ps := ["_law_e"]) fun _ _ _ _ _ _ us hl => match us, hl with | [_], _ => rfl
  have F15 := fun_mk (st := S_L_answer) l15 c15 k15
  have b15 := F15.binds (ps := ["_law_q", "_law_text"]) fun _ _ _ _ _ _ us hl => match us, hl with | [_, _], _ => rfl
  have F16 := fun_mk (st := S_L_shown) l16 c16 k16
  have b16 := F16.binds (ps := ["_law_q", "_law_word_here"]) fun _ _ _ _ _ _ us hl => match us, hl with | [_, _], _ => rfl
  have F17 := fun_mk (st := S_L_signs) l17 c17 k17
  have b17 := F17.binds (ps := ["_law_pot_here", "_law_text"]) fun _ _ _ _ _ _ us hl => match us, hl with | [_, _], _ => rfl
  have F18 := fun_mk (st := S_law) l18 c18 k18
  have b18 := F18.binds (ps := ["_law_script"]) fun _ _ _ _ _ _ us hl => match us, hl with | [_], _ => rfl
  exact ⟨PySem.W.fnOf "law" "law" (defArgs S_law) (defBody S_law) (defScope S_law) .none kV18 dc18 pm18 an18 cd18 ct18, fun s v => .of_eq rfl, fun base _ _ =>
    all_ok (P := l.prog) (w := w) (base := base) (T := {
      a_is_number := f0, fd_is_number := _, g_is_number := PySem.W.mg_of X G a0, F_is_number := F0, b_is_number := b0,
      a_want_count := f1, fd_want_count := _, g_want_count := PySem.W.mg_of X G a1, F_want_count := F1, b_want_count := b1,
      a_is_sign := f2, fd_is_sign := _, g_is_sign := PySem.W.mg_of X G a2, F_is_sign := F2, b_is_sign := b2,
      a_want_word := f3, fd_want_word := _, g_want_word := PySem.W.mg_of X G a3, F_want_word := F3, b_want_word := b3,
      a_show_word := f4, fd_show_word := _, g_show_word := PySem.W.mg_of X G a4, F_show_word := F4, b_show_word := b4,
      a_read_word := f5, fd_read_word := _, g_read_word := PySem.W.mg_of X G a5, F_read_word := F5, b_read_word := b5,
      a_L_at := f6, fd_L_at := _, g_L_at := PySem.W.mg_of X G a6, F_L_at := F6, b_L_at := b6,
      a_L_pot := f7, fd_L_pot := _, g_L_pot := PySem.W.mg_of X G a7, F_L_pot := F7, b_L_pot := b7,
      a_L_digit := f8, fd_L_digit := _, g_L_digit := PySem.W.mg_of X G a8, F_L_digit := F8, b_L_digit := b8,
      a_L_long := f9, fd_L_long := _, g_L_long := PySem.W.mg_of X G a9, F_L_long := F9, b_L_long := b9,
      a_L_word := f10, fd_L_word := _, g_L_word := PySem.W.mg_of X G a10, F_L_word := F10, b_L_word := b10,
      a_L_runny := f11, fd_L_runny := _, g_L_runny := PySem.W.mg_of X G a11, F_L_runny := F11, b_L_runny := b11,
      a_L_plain := f12, fd_L_plain := _, g_L_plain := PySem.W.mg_of X G a12, F_L_plain := F12, b_L_plain := b12,
      a_L_is_word := f13, fd_L_is_word := _, g_L_is_word := PySem.W.mg_of X G a13, F_L_is_word := F13, b_L_is_word := b13,
      a_L_kind := f14, fd_L_kind := _, g_L_kind := PySem.W.mg_of X G a14, F_L_kind := F14, b_L_kind := b14,
      a_L_answer := f15, fd_L_answer := _, g_L_answer := PySem.W.mg_of X G a15, F_L_answer := F15, b_L_answer := b15,
      a_L_shown := f16, fd_L_shown := _, g_L_shown := PySem.W.mg_of X G a16, F_L_shown := F16, b_L_shown := b16,
      a_L_signs := f17, fd_L_signs := _, g_L_signs := PySem.W.mg_of X G a17, F_L_signs := F17, b_L_signs := b17,
      a_law := fa, fd_law := _, g_law := PySem.W.mg_of X G a18, F_law := F18, b_law := b18,
      ac_MarkError := C_MarkError, xc_MarkError := ⟨gx_MarkError, PySem.W.mg_of X G gx_MarkError, xq_MarkError, xk_MarkError, xb_MarkError, xt_MarkError, xi_MarkError, xs_MarkError, xv_MarkError⟩,
      ac_NoCount := C_NoCount, xc_NoCount := ⟨gx_NoCount, PySem.W.mg_of X G gx_NoCount, xq_NoCount, xk_NoCount, xb_NoCount, xt_NoCount, xi_NoCount, xs_NoCount, xv_NoCount⟩,
      ac_NoLength := C_NoLength, xc_NoLength := ⟨gx_NoLength, PySem.W.mg_of X G gx_NoLength, xq_NoLength, xk_NoLength, xb_NoLength, xt_NoLength, xi_NoLength, xs_NoLength, xv_NoLength⟩,
      ac_NoMember := C_NoMember, xc_NoMember := ⟨gx_NoMember, PySem.W.mg_of X G gx_NoMember, xq_NoMember, xk_NoMember, xb_NoMember, xt_NoMember, xi_NoMember, xs_NoMember, xv_NoMember⟩,
      ac_NoNumber := C_NoNumber, xc_NoNumber := ⟨gx_NoNumber, PySem.W.mg_of X G gx_NoNumber, xq_NoNumber, xk_NoNumber, xb_NoNumber, xt_NoNumber, xi_NoNumber, xs_NoNumber, xv_NoNumber⟩,
      ac_NoPlace := C_NoPlace, xc_NoPlace := ⟨gx_NoPlace, PySem.W.mg_of X G gx_NoPlace, xq_NoPlace, xk_NoPlace, xb_NoPlace, xt_NoPlace, xi_NoPlace, xs_NoPlace, xv_NoPlace⟩,
      ac_NoRest := C_NoRest, xc_NoRest := ⟨gx_NoRest, PySem.W.mg_of X G gx_NoRest, xq_NoRest, xk_NoRest, xb_NoRest, xt_NoRest, xi_NoRest, xs_NoRest, xv_NoRest⟩,
      ac_NoRow := C_NoRow, xc_NoRow := ⟨gx_NoRow, PySem.W.mg_of X G gx_NoRow, xq_NoRow, xk_NoRow, xb_NoRow, xt_NoRow, xi_NoRow, xs_NoRow, xv_NoRow⟩,
      ac_NoSign := C_NoSign, xc_NoSign := ⟨gx_NoSign, PySem.W.mg_of X G gx_NoSign, xq_NoSign, xk_NoSign, xb_NoSign, xt_NoSign, xi_NoSign, xs_NoSign, xv_NoSign⟩,
      ac_NoText := C_NoText, xc_NoText := ⟨gx_NoText, PySem.W.mg_of X G gx_NoText, xq_NoText, xk_NoText, xb_NoText, xt_NoText, xi_NoText, xs_NoText, xv_NoText⟩,
      ac_NoWord := C_NoWord, xc_NoWord := ⟨gx_NoWord, PySem.W.mg_of X G gx_NoWord, xq_NoWord, xk_NoWord, xb_NoWord, xt_NoWord, xi_NoWord, xs_NoWord, xv_NoWord⟩,
      ac_TooMany := C_TooMany, xc_TooMany := ⟨gx_TooMany, PySem.W.mg_of X G gx_TooMany, xq_TooMany, xk_TooMany, xb_TooMany, xt_TooMany, xi_TooMany, xs_TooMany, xv_TooMany⟩,
      ex_NoCount := ⟨ya_NoCount, yb_NoCount, xb_NoCount, yd_NoCount, yc_NoCount, xn0, xt0, ym_NoCount⟩,
      ex_NoText := ⟨ya_NoText, yb_NoText, xb_NoText, yd_NoText, yc_NoText, xn0, xt0, ym_NoText⟩,
      ex_NoWord := ⟨ya_NoWord, yb_NoWord, xb_NoWord, yd_NoWord, yc_NoWord, xn0, xt0, ym_NoWord⟩,
      sub_NoCount_MarkError := sub_NoCount_MarkError,
      sub_NoCount_NoCount := sub_NoCount_NoCount,
      sub_NoCount_NoLength := sub_NoCount_NoLength,
      sub_NoCount_NoMember := sub_NoCount_NoMember,
      sub_NoCount_NoNumber := sub_NoCount_NoNumber,
      sub_NoCount_NoPlace := sub_NoCount_NoPlace,
      sub_NoCount_NoRest := sub_NoCount_NoRest,
      sub_NoCount_NoRow := sub_NoCount_NoRow,
      sub_NoCount_NoSign := sub_NoCount_NoSign,
      sub_NoCount_NoText := sub_NoCount_NoText,
      sub_NoCount_NoWord := sub_NoCount_NoWord,
      sub_NoCount_TooMany := sub_NoCount_TooMany,
      sub_NoText_MarkError := sub_NoText_MarkError,
      sub_NoText_NoCount := sub_NoText_NoCount,
      sub_NoText_NoLength := sub_NoText_NoLength,
      sub_NoText_NoMember := sub_NoText_NoMember,
      sub_NoText_NoNumber := sub_NoText_NoNumber,
      sub_NoText_NoPlace := sub_NoText_NoPlace,
      sub_NoText_NoRest := sub_NoText_NoRest,
      sub_NoText_NoRow := sub_NoText_NoRow,
      sub_NoText_NoSign := sub_NoText_NoSign,
      sub_NoText_NoText := sub_NoText_NoText,
      sub_NoText_NoWord := sub_NoText_NoWord,
      sub_NoText_TooMany := sub_NoText_TooMany,
      sub_NoWord_MarkError := sub_NoWord_MarkError,
      sub_NoWord_NoCount := sub_NoWord_NoCount,
      sub_NoWord_NoLength := sub_NoWord_NoLength,
      sub_NoWord_NoMember := sub_NoWord_NoMember,
      sub_NoWord_NoNumber := sub_NoWord_NoNumber,
      sub_NoWord_NoPlace := sub_NoWord_NoPlace,
      sub_NoWord_NoRest := sub_NoWord_NoRest,
      sub_NoWord_NoRow := sub_NoWord_NoRow,
      sub_NoWord_NoSign := sub_NoWord_NoSign,
      sub_NoWord_NoText := sub_NoWord_NoText,
      sub_NoWord_NoWord := sub_NoWord_NoWord,
      sub_NoWord_TooMany := sub_NoWord_TooMany,
      z_ValueError := PySem.W.mg_none_of X G z_ValueError,
      z_all := PySem.W.mg_none_of X G z_all,
      z_bool := PySem.W.mg_none_of X G z_bool,
      z_int := PySem.W.mg_none_of X G z_int,
      z_isinstance := PySem.W.mg_none_of X G z_isinstance,
      z_len := PySem.W.mg_none_of X G z_len,
      z_list := PySem.W.mg_none_of X G z_list,
      z_range := PySem.W.mg_none_of X G z_range,
      z_str := PySem.W.mg_none_of X G z_str,
      z_tuple := PySem.W.mg_none_of X G z_tuple,
      t_LEAST_SIGNS := t_LEAST_SIGNS, c_LEAST_SIGNS := PySem.W.mg_of X G c_LEAST_SIGNS,
      t_MOST_LENGTH := t_MOST_LENGTH, c_MOST_LENGTH := PySem.W.mg_of X G c_MOST_LENGTH,
      t_MOST_SIGNS := t_MOST_SIGNS, c_MOST_SIGNS := PySem.W.mg_of X G c_MOST_SIGNS,
      t_SIGNS := t_SIGNS, c_SIGNS := PySem.W.mg_of X G c_SIGNS })⟩
end LW
open PySem PySem.W PyProof.Rows in
set_option maxRecDepth 100000 in
set_option maxHeartbeats 0 in
theorem PySem.Challenge.cw_lostmark_k12_texts_there_and_back_holds : PySem.Challenge.rw_lostmark_k12_texts_there_and_back.Holds := by
  w_on; o_law; k_head; (case hw => w_witness2)
  k_fill
  refine L2.walk_ofK (n := 63) (k := 6) (x := "_law_script") (CX := L2.CX0) (sp := LW.sp_law) rfl (by decide) rfl ⟨rfl, by decide, by decide⟩ (fun w h Y => PySem.W.kIn_of Y) ?F (fun K H a ns hl _ hS => ⟨a, ns, rfl, hS, hl, fun _ => rfl⟩) (fun _ _ _ _ z => z)
  case F =>
    intro w mg fa h KX G hmg
    refine' LW.all_mk KX G hmg ?gx_MarkError ?xq_MarkError ?xk_MarkError ?xb_MarkError ?xt_MarkError ?xi_MarkError ?xs_MarkError ?xv_MarkError ?gx_NoCount ?xq_NoCount ?xk_NoCount ?xb_NoCount ?xt_NoCount ?xi_NoCount ?xs_NoCount ?xv_NoCount ?gx_NoLength ?xq_NoLength ?xk_NoLength ?xb_NoLength ?xt_NoLength ?xi_NoLength ?xs_NoLength ?xv_NoLength ?gx_NoMember ?xq_NoMember ?xk_NoMember ?xb_NoMember ?xt_NoMember ?xi_NoMember ?xs_NoMember ?xv_NoMember ?gx_NoNumber ?xq_NoNumber ?xk_NoNumber ?xb_NoNumber ?xt_NoNumber ?xi_NoNumber ?xs_NoNumber ?xv_NoNumber ?gx_NoPlace ?xq_NoPlace ?xk_NoPlace ?xb_NoPlace ?xt_NoPlace ?xi_NoPlace ?xs_NoPlace ?xv_NoPlace ?gx_NoRest ?xq_NoRest ?xk_NoRest ?xb_NoRest ?xt_NoRest ?xi_NoRest ?xs_NoRest ?xv_NoRest ?gx_NoRow ?xq_NoRow ?xk_NoRow ?xb_NoRow ?xt_NoRow ?xi_NoRow ?xs_NoRow ?xv_NoRow ?gx_NoSign ?xq_NoSign ?xk_NoSign ?xb_NoSign ?xt_NoSign ?xi_NoSign ?xs_NoSign ?xv_NoSign ?gx_NoText ?xq_NoText ?xk_NoText ?xb_NoText ?xt_NoText ?xi_NoText ?xs_NoText ?xv_NoText ?gx_NoWord ?xq_NoWord ?xk_NoWord ?xb_NoWord ?xt_NoWord ?xi_NoWord ?xs_NoWord ?xv_NoWord ?gx_TooMany ?xq_TooMany ?xk_TooMany ?xb_TooMany ?xt_TooMany ?xi_TooMany ?xs_TooMany ?xv_TooMany ?xn0 ?xt0 ?ya_NoCount ?yb_NoCount ?yd_NoCount ?yc_NoCount ?ym_NoCount ?ya_NoText ?yb_NoText ?yd_NoText ?yc_NoText ?ym_NoText ?ya_NoWord ?yb_NoWord ?yd_NoWord ?yc_NoWord ?ym_NoWord ?sub_NoCount_MarkError ?sub_NoCount_NoCount ?sub_NoCount_NoLength ?sub_NoCount_NoMember ?sub_NoCount_NoNumber ?sub_NoCount_NoPlace ?sub_NoCount_NoRest ?sub_NoCount_NoRow ?sub_NoCount_NoSign ?sub_NoCount_NoText ?sub_NoCount_NoWord ?sub_NoCount_TooMany ?sub_NoText_MarkError ?sub_NoText_NoCount ?sub_NoText_NoLength ?sub_NoText_NoMember ?sub_NoText_NoNumber ?sub_NoText_NoPlace ?sub_NoText_NoRest ?sub_NoText_NoRow ?sub_NoText_NoSign ?sub_NoText_NoText ?sub_NoText_NoWord ?sub_NoText_TooMany ?sub_NoWord_MarkError ?sub_NoWord_NoCount ?sub_NoWord_NoLength ?sub_NoWord_NoMember ?sub_NoWord_NoNumber ?sub_NoWord_NoPlace ?sub_NoWord_NoRest ?sub_NoWord_NoRow ?sub_NoWord_NoSign ?sub_NoWord_NoText ?sub_NoWord_NoWord ?sub_NoWord_TooMany ?a0 ?l0 ?c0 ?k0 ?a1 ?l1 ?c1 ?k1 ?a2 ?l2 ?c2 ?k2 ?a3 ?l3 ?c3 ?k3 ?a4 ?l4 ?c4 ?k4 ?a5 ?l5 ?c5 ?k5 ?a6 ?l6 ?c6 ?k6 ?a7 ?l7 ?c7 ?k7 ?a8 ?l8 ?c8 ?k8 ?a9 ?l9 ?c9 ?k9 ?a10 ?l10 ?c10 ?k10 ?a11 ?l11 ?c11 ?k11 ?a12 ?l12 ?c12 ?k12 ?a13 ?l13 ?c13 ?k13 ?a14 ?l14 ?c14 ?k14 ?a15 ?l15 ?c15 ?k15 ?a16 ?l16 ?c16 ?k16 ?a17 ?l17 ?c17 ?k17 ?a18 ?l18 ?c18 ?k18 ?z_ValueError ?z_all ?z_bool ?z_int ?z_isinstance ?z_len ?z_list ?z_range ?z_str ?z_tuple ?c_LEAST_SIGNS ?c_MOST_LENGTH ?c_MOST_SIGNS ?c_SIGNS
    (case gx_MarkError => k_is)
    (case xq_MarkError => k_exc)
    (case xk_MarkError => k_is)
    (case xb_MarkError => k_is)
    (case xt_MarkError => k_is)
    (case xi_MarkError => k_is)
    (case xs_MarkError => k_is)
    (case xv_MarkError => k_is)
    (case gx_NoCount => k_is)
    (case xq_NoCount => k_exc)
    (case xk_NoCount => k_is)
    (case xb_NoCount => k_is)
    (case xt_NoCount => k_is)
    (case xi_NoCount => k_is)
    (case xs_NoCount => k_is)
    (case xv_NoCount => k_is)
    (case gx_NoLength => k_is)
    (case xq_NoLength => k_exc)
    (case xk_NoLength => k_is)
    (case xb_NoLength => k_is)
    (case xt_NoLength => k_is)
    (case xi_NoLength => k_is)
    (case xs_NoLength => k_is)
    (case xv_NoLength => k_is)
    (case gx_NoMember => k_is)
    (case xq_NoMember => k_exc)
    (case xk_NoMember => k_is)
    (case xb_NoMember => k_is)
    (case xt_NoMember => k_is)
    (case xi_NoMember => k_is)
    (case xs_NoMember => k_is)
    (case xv_NoMember => k_is)
    (case gx_NoNumber => k_is)
    (case xq_NoNumber => k_exc)
    (case xk_NoNumber => k_is)
    (case xb_NoNumber => k_is)
    (case xt_NoNumber => k_is)
    (case xi_NoNumber => k_is)
    (case xs_NoNumber => k_is)
    (case xv_NoNumber => k_is)
    (case gx_NoPlace => k_is)
    (case xq_NoPlace => k_exc)
    (case xk_NoPlace => k_is)
    (case xb_NoPlace => k_is)
    (case xt_NoPlace => k_is)
    (case xi_NoPlace => k_is)
    (case xs_NoPlace => k_is)
    (case xv_NoPlace => k_is)
    (case gx_NoRest => k_is)
    (case xq_NoRest => k_exc)
    (case xk_NoRest => k_is)
    (case xb_NoRest => k_is)
    (case xt_NoRest => k_is)
    (case xi_NoRest => k_is)
    (case xs_NoRest => k_is)
    (case xv_NoRest => k_is)
    (case gx_NoRow => k_is)
    (case xq_NoRow => k_exc)
    (case xk_NoRow => k_is)
    (case xb_NoRow => k_is)
    (case xt_NoRow => k_is)
    (case xi_NoRow => k_is)
    (case xs_NoRow => k_is)
    (case xv_NoRow => k_is)
    (case gx_NoSign => k_is)
    (case xq_NoSign => k_exc)
    (case xk_NoSign => k_is)
    (case xb_NoSign => k_is)
    (case xt_NoSign => k_is)
    (case xi_NoSign => k_is)
    (case xs_NoSign => k_is)
    (case xv_NoSign => k_is)
    (case gx_NoText => k_is)
    (case xq_NoText => k_exc)
    (case xk_NoText => k_is)
    (case xb_NoText => k_is)
    (case xt_NoText => k_is)
    (case xi_NoText => k_is)
    (case xs_NoText => k_is)
    (case xv_NoText => k_is)
    (case gx_NoWord => k_is)
    (case xq_NoWord => k_exc)
    (case xk_NoWord => k_is)
    (case xb_NoWord => k_is)
    (case xt_NoWord => k_is)
    (case xi_NoWord => k_is)
    (case xs_NoWord => k_is)
    (case xv_NoWord => k_is)
    (case gx_TooMany => k_is)
    (case xq_TooMany => k_exc)
    (case xk_TooMany => k_is)
    (case xb_TooMany => k_is)
    (case xt_TooMany => k_is)
    (case xi_TooMany => k_is)
    (case xs_TooMany => k_is)
    (case xv_TooMany => k_is)
    (case xn0 => k_is)
    (case xt0 => k_is)
    (case ya_NoCount => k_is)
    (case yb_NoCount => k_is)
    (case yd_NoCount => k_is)
    (case yc_NoCount => k_is)
    (case ym_NoCount => k_is)
    (case ya_NoText => k_is)
    (case yb_NoText => k_is)
    (case yd_NoText => k_is)
    (case yc_NoText => k_is)
    (case ym_NoText => k_is)
    (case ya_NoWord => k_is)
    (case yb_NoWord => k_is)
    (case yd_NoWord => k_is)
    (case yc_NoWord => k_is)
    (case ym_NoWord => k_is)
    (case sub_NoCount_MarkError => k_is)
    (case sub_NoCount_NoCount => k_is)
    (case sub_NoCount_NoLength => k_is)
    (case sub_NoCount_NoMember => k_is)
    (case sub_NoCount_NoNumber => k_is)
    (case sub_NoCount_NoPlace => k_is)
    (case sub_NoCount_NoRest => k_is)
    (case sub_NoCount_NoRow => k_is)
    (case sub_NoCount_NoSign => k_is)
    (case sub_NoCount_NoText => k_is)
    (case sub_NoCount_NoWord => k_is)
    (case sub_NoCount_TooMany => k_is)
    (case sub_NoText_MarkError => k_is)
    (case sub_NoText_NoCount => k_is)
    (case sub_NoText_NoLength => k_is)
    (case sub_NoText_NoMember => k_is)
    (case sub_NoText_NoNumber => k_is)
    (case sub_NoText_NoPlace => k_is)
    (case sub_NoText_NoRest => k_is)
    (case sub_NoText_NoRow => k_is)
    (case sub_NoText_NoSign => k_is)
    (case sub_NoText_NoText => k_is)
    (case sub_NoText_NoWord => k_is)
    (case sub_NoText_TooMany => k_is)
    (case sub_NoWord_MarkError => k_is)
    (case sub_NoWord_NoCount => k_is)
    (case sub_NoWord_NoLength => k_is)
    (case sub_NoWord_NoMember => k_is)
    (case sub_NoWord_NoNumber => k_is)
    (case sub_NoWord_NoPlace => k_is)
    (case sub_NoWord_NoRest => k_is)
    (case sub_NoWord_NoRow => k_is)
    (case sub_NoWord_NoSign => k_is)
    (case sub_NoWord_NoText => k_is)
    (case sub_NoWord_NoWord => k_is)
    (case sub_NoWord_TooMany => k_is)
    (case a0 => k_is)
    (case l0 => k_is)
    (case c0 => k_is)
    (case k0 => k_is)
    (case a1 => k_is)
    (case l1 => k_is)
    (case c1 => k_is)
    (case k1 => k_is)
    (case a2 => k_is)
    (case l2 => k_is)
    (case c2 => k_is)
    (case k2 => k_is)
    (case a3 => k_is)
    (case l3 => k_is)
    (case c3 => k_is)
    (case k3 => k_is)
    (case a4 => k_is)
    (case l4 => k_is)
    (case c4 => k_is)
    (case k4 => k_is)
    (case a5 => k_is)
    (case l5 => k_is)
    (case c5 => k_is)
    (case k5 => k_is)
    (case a6 => k_is)
    (case l6 => k_is)
    (case c6 => k_is)
    (case k6 => k_is)
    (case a7 => k_is)
    (case l7 => k_is)
    (case c7 => k_is)
    (case k7 => k_is)
    (case a8 => k_is)
    (case l8 => k_is)
    (case c8 => k_is)
    (case k8 => k_is)
    (case a9 => k_is)
    (case l9 => k_is)
    (case c9 => k_is)
    (case k9 => k_is)
    (case a10 => k_is)
    (case l10 => k_is)
    (case c10 => k_is)
    (case k10 => k_is)
    (case a11 => k_is)
    (case l11 => k_is)
    (case c11 => k_is)
    (case k11 => k_is)
    (case a12 => k_is)
    (case l12 => k_is)
    (case c12 => k_is)
    (case k12 => k_is)
    (case a13 => k_is)
    (case l13 => k_is)
    (case c13 => k_is)
    (case k13 => k_is)
    (case a14 => k_is)
    (case l14 => k_is)
    (case c14 => k_is)
    (case k14 => k_is)
    (case a15 => k_is)
    (case l15 => k_is)
    (case c15 => k_is)
    (case k15 => k_is)
    (case a16 => k_is)
    (case l16 => k_is)
    (case c16 => k_is)
    (case k16 => k_is)
    (case a17 => k_is)
    (case l17 => k_is)
    (case c17 => k_is)
    (case k17 => k_is)
    (case a18 => k_is)
    (case l18 => k_is)
    (case c18 => k_is)
    (case k18 => k_is)
    (case z_ValueError => k_is)
    (case z_all => k_is)
    (case z_bool => k_is)
    (case z_int => k_is)
    (case z_isinstance => k_is)
    (case z_len => k_is)
    (case z_list => k_is)
    (case z_range => k_is)
    (case z_str => k_is)
    (case z_tuple => k_is)
    (case c_LEAST_SIGNS => k_is)
    (case c_MOST_LENGTH => k_is)
    (case c_MOST_SIGNS => k_is)
    (case c_SIGNS => k_is)
#print axioms PySem.Challenge.cw_lostmark_k12_texts_there_and_back_holds
