import PyProof.Rows.All
import Wide.All
import OpenK.AllK
import Wide.FinOn
import PySem.Challenge.RW_everybase_k24_terms_made
import HandS.ForMost
import HandS.ForExc
import HandS.Wide
import HandS.Style
import HandS.RaiseMore
import HandS.IsInst
import HandS.Flow
import HandS.FStr
import HandS.Codes
import HandS.SortInts
import HandS.Conv
import HandS.TupAny
import HandS.TupLe
import HandS.SetFor
import HandS.Walk
import KE.KTupSum
import KE.GoesEnum
import KE.KExcSuper
import KE.RegKIsAll
import HandS.Exc
import HandS.ExcOwn
import HandS.ExcField
import HandS.ExcIs
import HandS.Ends
import HandS.Star
import HandS.Property
import HandS.NoneIn
import HandS.ClsMeth
import KE.KCallOwn
import HandS.MakeKwOnly
import HandS.SlotsOwn
import KE.KOpsOwn
import KE.KIntText
set_option Elab.async false
set_option linter.all false
set_option maxRecDepth 100000
set_option maxHeartbeats 4000000
/-! ## own layer: rules, heaps, draws -/
namespace Eb
open PySem PySem.Spec PyProof.Rows L2
theorem bb_int : bootBuiltins "int" = some (.type "int") := by decide +kernel
theorem bb_bool : bootBuiltins "bool" = some (.type "bool") := by decide +kernel
theorem bb_str : bootBuiltins "str" = some (.type "str") := by decide +kernel
theorem bb_list : bootBuiltins "list" = some (.type "list") := by decide +kernel
theorem bb_tuple : bootBuiltins "tuple" = some (.type "tuple") := by decide +kernel
theorem bb_range : bootBuiltins "range" = some (.type "range") := by decide +kernel
theorem bb_set : bootBuiltins "set" = some (.type "set") := by decide +kernel
theorem bb_len : bootBuiltins "len" = some (.builtin "len") := by decide +kernel
theorem bb_sum : bootBuiltins "sum" = some (.builtin "sum") := by decide +kernel
theorem bb_min : bootBuiltins "min" = some (.builtin "min") := by decide +kernel
theorem bb_max : bootBuiltins "max" = some (.builtin "max") := by decide +kernel
theorem bb_abs : bootBuiltins "abs" = some (.builtin "abs") := by decide +kernel
theorem bb_repr : bootBuiltins "repr" = some (.builtin "repr") := by decide +kernel
theorem bb_sorted : bootBuiltins "sorted" = some (.builtin "sorted") := by decide +kernel
theorem bb_all : bootBuiltins "all" = some (.builtin "all") := by decide +kernel
theorem bb_isinstance : bootBuiltins "isinstance" = some (.builtin "isinstance") := by decide +kernel

section
variable {X : Cx}
/-- sum(t), t a tuple of ints -/
def rSumT (K : PySem.W.Frag) : List V → Hp → VK → Prop := fun vs H Q => ∃ (a : Addr) (ns : List Int), vs = [V.ref a] ∧ SqT K H a (ns.map V.int) ∧ Q (.int ns.sum) H
theorem cr_sumT (hc : X.calm = true) : CallR X (.builtin "sum") (rSumT X.K) := by
  intro pins s σ H vs us Q I r h
  obtain ⟨a, ns, rfl, hs, q⟩ := h
  obtain ⟨its, rv, ht, _⟩ := I.tuple hs
  rw [Vals.ref1 r]
  have hi := rv.ints
  obtain ⟨xs, e⟩ := hi.allInts.items
  have hn : numsOf (intItems xs).toList = ns := by
    rw [← e]
    exact hi.numsOf
  rw [nums_intItems] at hn
  have ht' : s.heap.IsTuple a (intItems xs) := by
    rw [← e]
    exact ht
  refine PySem.W.ktm_sumG (I.ok.hd hc) ht' fun h' tk t' hk => ?_
  rw [preSum_eq, List.take_of_length_le (by simp), hn]
  exact ⟨.int _, H, I.kept hk, ⟨_, rfl⟩, q⟩
end

/-! ### heaps -/
theorem same_new {H : Hp} {p : Addr} {o : HO} (h : H p = none) : Same H (upd H p o) := fun b x e => by
  rw [upd_ne (ne_of_none e h)]
  exact e
theorem same_mut {H H' : Hp} {p : Addr} {o : HO} (e : Same H H') (h : H p = none) : Same H (upd H' p o) := fun b x hb => by
  rw [upd_ne (ne_of_none hb h)]
  exact e b x hb
theorem Same_seqT {K : PySem.W.Frag} {H H' : Hp} {a : Addr} {xs : List V} (e : Same H H') (h : SqT K H a xs) : SqT K H' a xs := by
  rcases h with (h | ⟨o, h⟩) | h
  · exact .inl (.inl (e _ _ h))
  · exact .inl (.inr ⟨o, e _ _ h⟩)
  · exact .inr h
/-- all but the objects at M stand as they stood -/
def Grow (M : List Addr) (H H' : Hp) : Prop := ∀ b o, b ∉ M → H b = some o → H' b = some o
theorem Grow.refl (M : List Addr) (H : Hp) : Grow M H H := fun _ _ _ h => h
theorem Grow.trans {M : List Addr} {H H1 H2 : Hp} (a : Grow M H H1) (b : Grow M H1 H2) : Grow M H H2 := fun c o n h => b c o n (a c o n h)
theorem Grow.of {M : List Addr} {H H' : Hp} (e : Same H H') : Grow M H H' := fun c o _ h => e c o h
theorem Grow.new {M : List Addr} {H H' : Hp} {p : Addr} {o : HO} (g : Grow M H H') (h : H p = none) : Grow M H (upd H' p o) := fun b x n hb => by
  rw [upd_ne (ne_of_none hb h)]
  exact g b x n hb
theorem Grow.at {M : List Addr} {H H' : Hp} {p : Addr} {o : HO} (g : Grow M H H') (h : p ∈ M) : Grow M H (upd H' p o) := fun b x n hb => by
  rw [upd_ne (show b ≠ p from fun e => n (by rw [e]; exact h))]
  exact g b x n hb
theorem Grow.none {M : List Addr} {H H' : Hp} {p : Addr} (g : Grow M H H') (hM : ∀ b ∈ M, H' b ≠ none) (h : H' p = none) : H p = none := by
  cases q : H p with
  | none => rfl
  | some o =>
    by_cases hm : p ∈ M
    · exact absurd h (hM p hm)
    · rw [g p o hm q] at h
      cases h
theorem Grow.seqL {M : List Addr} {K : PySem.W.Frag} {H H' : Hp} {a : Addr} {xs : List V} (g : Grow M H H') (n : a ∉ M) (h : SqL K H a xs) : SqL K H' a xs := by
  rcases h with (h | ⟨o, h⟩) | h
  · exact .inl (.inl (g _ _ n h))
  · exact .inl (.inr ⟨o, g _ _ n h⟩)
  · exact .inr h
theorem Grow.seqT {M : List Addr} {K : PySem.W.Frag} {H H' : Hp} {a : Addr} {xs : List V} (g : Grow M H H') (n : a ∉ M) (h : SqT K H a xs) : SqT K H' a xs := by
  rcases h with (h | ⟨o, h⟩) | h
  · exact .inl (.inl (g _ _ n h))
  · exact .inl (.inr ⟨o, g _ _ n h⟩)
  · exact .inr h
theorem sqL_of {K : PySem.W.Frag} {H : Hp} {a : Addr} {xs : List V} (h : H a = some (.lst xs)) : SqL K H a xs := .inl (.inl h)
theorem sqT_of {K : PySem.W.Frag} {H : Hp} {a : Addr} {xs : List V} (h : H a = some (.tup xs)) : SqT K H a xs := .inl (.inl h)
theorem sqL_new {K : PySem.W.Frag} {H : Hp} {a : Addr} {xs : List V} : SqL K (upd H a (.lst xs)) a xs := .inl (.inl upd_same)
theorem sqT_new {K : PySem.W.Frag} {H : Hp} {a : Addr} {xs : List V} : SqT K (upd H a (.tup xs)) a xs := .inl (.inl upd_same)
theorem sz {n : Nat} (h : n ≤ 100000) : n ≤ sizeLine := Nat.le_trans h (by decide)
theorem szr {n : Nat} (h : Nat.ble n 100000 = true) : n ≤ sizeLine := sz (Nat.le_of_ble_eq_true h)
theorem szl {n : Nat} (h : n < 100000) : n < sizeLine := Nat.lt_of_lt_of_le h (by decide)

/-! ### loops -/
theorem whl {c : TT} {tb : TS} {D : Ends} {σ : L2.St} {H : Hp} (W : Nat → L2.St → Hp → Prop) (m : Nat) (h0 : W m σ H)
    (hs : ∀ m σ H, W m σ H → c σ H fun b H1 => if b = true then ∃ N : L2.St → Hp → Prop, (∀ σ' H', N σ' H' → ∃ m', m' < m ∧ W m' σ' H') ∧ tb { D with nx := N, ct := N, bk := D.nx } σ H1 else D.nx σ H1) : tWhile c tb D σ H :=
  ⟨W, ⟨m, h0⟩, hs⟩
/-- the turn of a while whose test holds: the wished state is W at a smaller measure -/
theorem turn_of {tb : TS} {D : Ends} {σ : L2.St} {H : Hp} {W : Nat → L2.St → Hp → Prop} {m : Nat}
    (h : tb { D with nx := fun σ' H' => ∃ m', m' < m ∧ W m' σ' H', ct := fun σ' H' => ∃ m', m' < m ∧ W m' σ' H', bk := D.nx } σ H) :
    ∃ N : L2.St → Hp → Prop, (∀ σ' H', N σ' H' → ∃ m', m' < m ∧ W m' σ' H') ∧ tb { D with nx := N, ct := N, bk := D.nx } σ H := ⟨_, fun _ _ z => z, h⟩

/-- ways join: a test whose answer is known behind its ways -/
theorem by_ans {t : TT} {σ : L2.St} {H : Hp} {Q : Bool → Hp → Prop} (b : Bool) (h : ∀ Q' : Bool → Hp → Prop, (∀ H1, Same H H1 → Q' b H1) → t σ H Q') (k : ∀ H1, Same H H1 → Q b H1) : t σ H Q := h Q k
/-- ways join behind a statement that goes on -/
theorem by_st {t u : TS} {D : Ends} {σ : L2.St} {H : Hp} (J : L2.St → Hp → Prop) (h : ∀ D' : Ends, D'.rt = D.rt → (∀ σ' H', J σ' H' → D'.nx σ' H') → t D' σ H) (k : ∀ σ' H', J σ' H' → u D σ' H') : tSeq t u D σ H :=
  h { D with nx := u D } rfl k
/-- .. of an if whose test is known to fail, to hold -/
theorem by_ifF {c : TT} {t u r : TS} {D : Ends} {σ : L2.St} {H : Hp} (h : ∀ Q' : Bool → Hp → Prop, (∀ H1, Same H H1 → Q' false H1) → c σ H Q') (k : ∀ H1, Same H H1 → u { D with nx := r D } σ H1) : tSeq (tIfS c t u) r D σ H :=
  h _ fun H1 s1 => iteF (k H1 s1)
theorem by_ifT {c : TT} {t u r : TS} {D : Ends} {σ : L2.St} {H : Hp} (h : ∀ Q' : Bool → Hp → Prop, (∀ H1, Same H H1 → Q' true H1) → c σ H Q') (k : ∀ H1, Same H H1 → t { D with nx := r D } σ H1) : tSeq (tIfS c t u) r D σ H :=
  h _ fun H1 s1 => iteT (k H1 s1)
/-- ways join behind an expression -/
theorem by_te {t : TE} {σ : L2.St} {H : Hp} {Q : VK} (J : V → Hp → Prop) (h : ∀ Q' : VK, (∀ v H1, J v H1 → Q' v H1) → t σ H Q') (k : ∀ v H1, J v H1 → Q v H1) : t σ H Q := h Q k
/-- .. that is given to a name -/
theorem by_set {te : TE} {i : Nat} {u : TS} {D : Ends} {σ : L2.St} {H : Hp} (J : V → Hp → Prop) (h : ∀ Q' : VK, (∀ v H1, J v H1 → Q' v H1) → te σ H Q') (k : ∀ v H1, J v H1 → u D (σ.set i (some v)) H1) : tSeq (tAsg te (gName i)) u D σ H := h _ k
theorem Grow.same {M : List Addr} {H H1 H2 : Hp} (g : Grow M H H1) (e : Same H1 H2) : Grow M H H2 := g.trans (Grow.of e)

/-! ### data -/
theorem dp_ints {K : PySem.W.Frag} {H : Hp} : ∀ xs : List Int, DpAll K H (xs.map V.int) (xs.map PyData.int)
  | [] => .nil
  | x :: r => .cons (.int x) (dp_ints r)
theorem dp_list {K : PySem.W.Frag} {H : Hp} {a : Addr} {xs : List Int} (h : SqL K H a (xs.map V.int)) : Dp K H (.ref a) (.list (xs.map PyData.int)) := .lst h (dp_ints xs)
theorem dp_tuple {K : PySem.W.Frag} {H : Hp} {a : Addr} {xs : List Int} (h : SqT K H a (xs.map V.int)) : Dp K H (.ref a) (.tuple (xs.map PyData.int)) := .tup h (dp_ints xs)
theorem lay_ints : ∀ xs : List Int, PyData.canLayAll0 (xs.map PyData.int) = true
  | [] => by simp [PyData.canLayAll0]
  | x :: r => by simp [PyData.canLayAll0, PyData.canLay0, lay_ints r]
theorem depth_ints : ∀ xs : List Int, PyData.depthAll (xs.map PyData.int) = 0
  | [] => by simp [PyData.depthAll]
  | x :: r => by simp [PyData.depthAll, PyData.depth, depth_ints r]
theorem shaped_list (xs : List Int) : SeqAt.shaped (.list (xs.map PyData.int)) = true := by
  unfold SeqAt.shaped
  simp [PyData.canLay0, PyData.depth, lay_ints, depth_ints]
theorem shaped_tuple (xs : List Int) : SeqAt.shaped (.tuple (xs.map PyData.int)) = true := by
  unfold SeqAt.shaped
  simp [PyData.canLay0, PyData.depth, lay_ints, depth_ints]
theorem eqv_ints : ∀ xs ys : List Int, PyData.eqvAll (xs.map PyData.int) (ys.map PyData.int) = decide (xs = ys)
  | [], [] => by simp [PyData.eqvAll]
  | [], _ :: _ => by simp [PyData.eqvAll]
  | _ :: _, [] => by simp [PyData.eqvAll]
  | x :: r, y :: q => by
    simp only [List.map_cons, PyData.eqvAll, PyData.eqv, eqv_ints r q]
    by_cases h : x = y
    · subst h; simp
    · simp [h]
section
variable {X : Cx}
def rEqL (K : PySem.W.Frag) (neg : Bool) : R2 := fun x y H Q => ∃ (a b : Addr) (xs ys : List Int), x = .ref a ∧ y = .ref b ∧ SqL K H a (xs.map V.int) ∧ SqL K H b (ys.map V.int) ∧ Q (.bl (if neg then !decide (xs = ys) else decide (xs = ys))) H
def rEqT (K : PySem.W.Frag) (neg : Bool) : R2 := fun x y H Q => ∃ (a b : Addr) (xs ys : List Int), x = .ref a ∧ y = .ref b ∧ SqT K H a (xs.map V.int) ∧ SqT K H b (ys.map V.int) ∧ Q (.bl (if neg then !decide (xs = ys) else decide (xs = ys))) H
theorem op_eqL (hu : X.A.units + 64 < cLine) : OpR X (compareOp .Eq) (rEqL X.K false) := by
  intro pins s σ H x y v u Q I rx ry h
  obtain ⟨a, b, xs, ys, rfl, rfl, ha, hb, q⟩ := h
  exact op_eqD hu pins s σ H _ _ v u Q I rx ry ⟨_, _, dp_list ha, dp_list hb, shaped_list _, shaped_list _, by simp only [PyData.eqv, eqv_ints]; exact q⟩
theorem op_neL (hu : X.A.units + 64 < cLine) : OpR X (compareOp .NotEq) (rEqL X.K true) := by
  intro pins s σ H x y v u Q I rx ry h
  obtain ⟨a, b, xs, ys, rfl, rfl, ha, hb, q⟩ := h
  exact op_neD hu pins s σ H _ _ v u Q I rx ry ⟨_, _, dp_list ha, dp_list hb, shaped_list _, shaped_list _, by simp only [PyData.eqv, eqv_ints]; exact q⟩
theorem op_eqT (hu : X.A.units + 64 < cLine) : OpR X (compareOp .Eq) (rEqT X.K false) := by
  intro pins s σ H x y v u Q I rx ry h
  obtain ⟨a, b, xs, ys, rfl, rfl, ha, hb, q⟩ := h
  exact op_eqD hu pins s σ H _ _ v u Q I rx ry ⟨_, _, dp_tuple ha, dp_tuple hb, shaped_tuple _, shaped_tuple _, by simp only [PyData.eqv, eqv_ints]; exact q⟩
theorem op_neT (hu : X.A.units + 64 < cLine) : OpR X (compareOp .NotEq) (rEqT X.K true) := by
  intro pins s σ H x y v u Q I rx ry h
  obtain ⟨a, b, xs, ys, rfl, rfl, ha, hb, q⟩ := h
  exact op_neD hu pins s σ H _ _ v u Q I rx ry ⟨_, _, dp_tuple ha, dp_tuple hb, shaped_tuple _, shaped_tuple _, by simp only [PyData.eqv, eqv_ints]; exact q⟩
end

/-! ### sizes -/
def Sm (n : Int) : Prop := n.natAbs < 2 ^ 1900
theorem Sm.log {n : Int} (h : Sm n) : n.natAbs.log2 < 1900 := PySem.Flt.log2_lt_of (by decide) h
theorem Sm.le {n m : Int} (h : Sm m) (h0 : 0 ≤ n) (h1 : n ≤ m) : Sm n := Nat.lt_of_le_of_lt (by omega) h
theorem sm_of {n : Int} (h0 : 0 ≤ n) (h1 : n ≤ 10 ^ 61) : Sm n := Sm.le (m := 10 ^ 61) (by unfold Sm; decide +kernel) h0 h1
theorem sm_big {n : Int} (h0 : 0 ≤ n) (h1 : n ≤ 10 ^ 250) : Sm n := Sm.le (m := 10 ^ 250) (by unfold Sm; decide +kernel) h0 h1
/-- // where the divisor or the dividend is no giant -/
def CDivX (i j : Int) : Prop := 0 < j ∧ (i.natAbs.log2 < 13500 ∨ j.natAbs.log2 < 9000)
theorem divX_ok {i j : Int} (h : CDivX i j) : Builtin.divisionGoesByPylong i j = false := by
  rcases h.2 with h1 | h1
  · have ki : (if i == 0 then 0 else i.natAbs.log2 / 30 + 1) ≤ 450 := by
      split <;> omega
    show (decide ((if j == 0 then 0 else j.natAbs.log2 / 30 + 1) > 300) && decide ((if i == 0 then 0 else i.natAbs.log2 / 30 + 1) > (if j == 0 then 0 else j.natAbs.log2 / 30 + 1) + 150)) = false
    by_cases c : (if j == 0 then 0 else j.natAbs.log2 / 30 + 1) > 300
    · rw [decide_eq_false (show ¬ ((if i == 0 then 0 else i.natAbs.log2 / 30 + 1) > (if j == 0 then 0 else j.natAbs.log2 / 30 + 1) + 150) by omega), Bool.and_false]
    · rw [decide_eq_false c, Bool.false_and]
  · exact PyProof.noPylong_of_log2 h1
theorem op_fdivX {X : Cx} : OpR X (binaryOp .FloorDiv) (rI CDivX fun i j => .int (i / j)) := opI fun i j _ _ _ _ _ hc q =>
  floordiv_int (show j ≠ 0 by have := hc.1; omega) (by rw [Int.fdiv_eq_ediv_of_nonneg i (show 0 ≤ j by have := hc.1; omega)]; exact q) (.inl (divX_ok hc))
theorem divW {i j : Int} (h : 0 < j) (s : Sm j) : CDivX i j := ⟨h, .inr (Nat.lt_trans s.log (by decide))⟩
theorem divS {i j : Int} (h : 0 < j) (s : Sm i) : CDivX i j := ⟨h, .inl (Nat.lt_trans s.log (by decide))⟩
theorem mulW {i j : Int} (h : Sm i) (s : Sm j) : L2.CMulW i j := by
  have a := h.log
  have b := s.log
  unfold L2.CMulW
  omega

/-- powers of numbers that are no giants -/
def CPowX (i j : Int) : Prop := 0 ≤ j ∧ (Builtin.Int.intBits i : Int) * j ≤ 2 ^ 27
theorem op_powX {X : Cx} : OpR X (binaryOp .Pow) (rI CPowX fun i j => .int (i ^ j.toNat)) := opI fun _ _ _ _ _ _ _ hc q => pow_int hc.1 hc.2 q
theorem powX {i j : Int} (s : Sm i) (h0 : 0 ≤ j) (h1 : j ≤ 10000) : CPowX i j := by
  refine ⟨h0, ?_⟩
  have l := s.log
  have b : (Builtin.Int.intBits i : Int) ≤ 1900 := by
    unfold Builtin.Int.intBits
    split <;> omega
  have b0 : (0 : Int) ≤ (Builtin.Int.intBits i : Int) := Int.natCast_nonneg _
  have m : (Builtin.Int.intBits i : Int) * j ≤ 1900 * 10000 := Int.mul_le_mul b h1 h0 (by decide)
  omega

/-! ### the source of draws -/
structure Deal (H : Hp) (d l : Addr) : Prop where
  ex : ∃ (xs : List Int) (n : Int), H d = some (.lst [.ref l, .int n]) ∧ H l = some (.lst (xs.map V.int)) ∧ xs.length ≤ 63 ∧ 0 ≤ n ∧ n < 2147483647
theorem Deal.ne {H : Hp} {d l : Addr} (D : Deal H d l) : d ≠ l := by
  obtain ⟨xs, n, h1, h2, _⟩ := D.ex
  intro e
  subst e
  rw [h1] at h2
  have h3 := HO.lst.inj (Option.some.inj h2)
  cases xs with
  | nil => cases h3
  | cons x r => cases h3
theorem Deal.same {H H' : Hp} {d l : Addr} (D : Deal H d l) (e : Same H H') : Deal H' d l := by
  obtain ⟨xs, n, h1, h2, h3⟩ := D.ex
  exact ⟨xs, n, e _ _ h1, e _ _ h2, h3⟩
theorem Deal.fresh {H : Hp} {d l p : Addr} (D : Deal H d l) (h : H p = none) : p ∉ [d, l] := by
  obtain ⟨xs, n, h1, h2, _⟩ := D.ex
  intro z
  rcases List.mem_cons.mp z with e | z
  · rw [e, h1] at h; cases h
  · rw [List.mem_singleton.mp z, h2] at h; cases h
theorem Deal.upd {H : Hp} {d l p : Addr} {o : HO} (D : Deal H d l) (h : p ∉ [d, l]) : Deal (upd H p o) d l := by
  obtain ⟨xs, n, h1, h2, h3⟩ := D.ex
  have n1 : d ≠ p := fun e => h (by simp [e])
  have n2 : l ≠ p := fun e => h (by simp [e])
  exact ⟨xs, n, by rw [upd_ne n1]; exact h1, by rw [upd_ne n2]; exact h2, h3⟩
theorem Deal.none {H : Hp} {d l : Addr} (D : Deal H d l) : ∀ b ∈ [d, l], H b ≠ none := by
  obtain ⟨xs, n, h1, h2, _⟩ := D.ex
  intro b hb
  rcases List.mem_cons.mp hb with e | z
  · rw [e, h1]; simp
  · rw [List.mem_singleton.mp z, h2]; simp
/-- what a drawing def hands on: the source stands, all else stands -/
structure Drew (d l : Addr) (H H' : Hp) : Prop where
  deal : Deal H' d l
  grow : Grow [d, l] H H'
theorem Drew.trans {d l : Addr} {H H1 H2 : Hp} (a : Drew d l H H1) (b : Drew d l H1 H2) : Drew d l H H2 := ⟨b.deal, a.grow.trans b.grow⟩
theorem Drew.new {d l : Addr} {H H' : Hp} {p : Addr} {o : HO} (a : Drew d l H H') (h : H' p = none) : Drew d l H (upd H' p o) :=
  ⟨a.deal.upd (a.deal.fresh h), a.grow.trans (Grow.of (same_new h))⟩
theorem Drew.refl {d l : Addr} {H : Hp} (D : Deal H d l) : Drew d l H H := ⟨D, Grow.refl _ _⟩
theorem Drew.same {d l : Addr} {H H' H2 : Hp} (a : Drew d l H H') (e : Same H' H2) : Drew d l H H2 := ⟨a.deal.same e, a.grow.trans (Grow.of e)⟩
theorem Drew.get {d l : Addr} {H H' : Hp} {p : Addr} {o : HO} (a : Drew d l H H') (n : p ∉ [d, l]) (h : H p = some o) : H' p = some o := a.grow p o n h
theorem Drew.seqL {d l : Addr} {K : PySem.W.Frag} {H H' : Hp} {a : Addr} {xs : List V} (g : Drew d l H H') (n : a ∉ [d, l]) (h : SqL K H a xs) : SqL K H' a xs := g.grow.seqL n h
theorem Drew.free {d l : Addr} {H H' : Hp} {p : Addr} (a : Drew d l H H') (h : H' p = none) : H p = none := a.grow.none a.deal.none h
end Eb

/-! ## tuples turned about; len(set(t)) -/
namespace Eb
open PySem PySem.Spec PyProof.Rows L2
section
variable {prog : Program} {w : World} {A : Around} {E : Value → Shared → Prop} {s : Shared}
theorem adjust_rev (n : Nat) : Builtin.Slice.sliceAdjust none none (-1) (n : Int) = ((n : Int) - 1, -1) := by
  unfold Builtin.Slice.sliceAdjust
  simp
theorem places_rev (n : Nat) : Builtin.Slice.slicePlaces ((n : Int) - 1) (-1) (-1) = n := by
  unfold Builtin.Slice.slicePlaces
  rw [if_neg (by decide)]
  by_cases c : (n : Int) - 1 > -1
  · rw [if_pos c]
    show (((n : Int) - 1 - (-1) - 1) / 1 + 1).toNat = n
    rw [Int.ediv_one]
    omega
  · rw [if_neg c]
    omega
theorem applied_rev {sl : Addr} {v3 : Value} {n : Nat} {Q : Int × Int × Nat → Shared → Prop} (hs : s.heap.IsSliceOf sl .none .none v3) (p3 : IsPart v3 (some (-1))) (h : Q ((n : Int) - 1, -1, n) s) :
    wpAny (model prog w) A (Builtin.Slice.sliceApplied (.ref sl) (pure (n : Int))) Q E s := by
  obtain ⟨os, hos, hcs, hds⟩ := id hs
  unfold Builtin.Slice.sliceApplied Builtin.Slice.sliceFields
  refine wpAny_bind (wpAny_bind (wpAny_field hos hds (x := .none) rfl (wpAny_bind (wpAny_field hos hds (x := .none) rfl (wpAny_bind (wpAny_field hos hds (x := v3) rfl (wpAny_pure ?_)))))))
  refine wpAny_bind (HT.slicePart_ p3 ?_)
  show wpAny _ _ (if ((-1 : Int) == 0) = true then _ else _) _ _ s
  rw [if_neg (by decide)]
  refine wpAny_bind (HT.slicePart_ .none (wpAny_bind (HT.slicePart_ .none (wpAny_bind (wpAny_pure ?_)))))
  show wpAny _ _ (match Builtin.Slice.sliceAdjust none none (-1) (n : Int) with | (lo, hi) => pure (lo, (-1 : Int), Builtin.Slice.slicePlaces lo hi (-1))) _ _ s
  rw [adjust_rev]
  show wpAny _ _ (pure ((n : Int) - 1, (-1 : Int), Builtin.Slice.slicePlaces ((n : Int) - 1) (-1) (-1))) _ _ s
  rw [places_rev]
  exact wpAny_pure h
theorem fm_some {α β : Type} {f : α → Option β} {g : α → β} : ∀ {l : List α}, (∀ m ∈ l, f m = some (g m)) → l.filterMap f = l.map g
  | [], _ => rfl
  | x :: r, h => by
    rw [List.filterMap_cons, h x (by simp), List.map_cons, fm_some fun m hm => h m (by simp [hm])]
theorem pick_rev (xs : Array Value) : ((List.range xs.size).filterMap fun (m : Nat) => xs[(((xs.size : Nat) : Int) - 1 + (m : Int) * (-1)).toNat]?) = xs.toList.reverse := by
  apply List.ext_getElem?
  intro i
  have e1 : (List.range xs.size).filterMap (fun (m : Nat) => xs[(((xs.size : Nat) : Int) - 1 + (m : Int) * (-1)).toNat]?) = (List.range xs.size).map (fun m => xs.toList.reverse.getD m .none) := by
    refine fm_some fun m hm => ?_
    have hm' := List.mem_range.mp hm
    have hz : (((xs.size : Nat) : Int) - 1 + (m : Int) * (-1)).toNat = xs.size - 1 - m := by omega
    rw [hz]
    have h1 : xs.size - 1 - m < xs.size := by omega
    rw [Array.getElem?_eq_getElem h1]
    show _ = some (xs.toList.reverse.getD m .none)
    rw [List.getD_eq_getElem?_getD, List.getElem?_reverse (by rw [Array.length_toList]; exact hm'), Array.length_toList, Array.getElem?_toList, Array.getElem?_eq_getElem h1]
    rfl
  rw [e1, List.getElem?_map]
  by_cases c : i < xs.size
  · rw [List.getElem?_range c]
    have h2 : i < xs.toList.reverse.length := by
      rw [List.length_reverse, Array.length_toList]
      exact c
    show some (xs.toList.reverse.getD i .none) = _
    rw [List.getD_eq_getElem?_getD, List.getElem?_eq_getElem h2]
    rfl
  · rw [List.getElem?_eq_none (by rw [List.length_range]; omega), List.getElem?_eq_none (by rw [List.length_reverse, Array.length_toList]; omega)]
    rfl
theorem item_rev {t sl : Addr} {items : Array Value} {v3 : Value} {Q : Value → Shared → Prop} (ht : IsTup s.heap t items) (hs : s.heap.IsSliceOf sl .none .none v3) (p3 : IsPart v3 (some (-1)))
    (h : Q (.ref s.heap.objs.size) { s with heap := s.heap.push { cls := .type "tuple", data := .seq items.toList.reverse.toArray } }) (hsz : items.size ≤ sizeLine) : wpAny (model prog w) A (getItem (.ref t) (.ref sl)) Q E s := by
  have hok : sizeOk (.seq items.toList.reverse.toArray) := by
    show items.toList.reverse.toArray.size ≤ sizeLine
    rw [List.size_toArray, List.length_reverse, Array.length_toList]
    exact hsz
  obtain ⟨os, hos, hcs, hds⟩ := id hs
  have hTs : s.TypeIs (.ref sl) "slice" := ⟨os, hos, hcs⟩
  unfold getItem
  try with_reducible refine wpAny_holding ?_
  first | refine wpAny_bind (wpAny_pure ?_) | skip
  refine wpAny_bind (wpAny_sequenceKey ht.typeIs (by decide) ?_)
  refine wpAny_bind (wpAny_callSpecial?_slot (name := Str.ofString "__getitem__") ht.typeIs PyProof.Rows.slot_tuple_getitem (wpAny_call_entry PyProof.Rows.slot_tuple_getitem ht.typeIs entry_tuple_getitem ?_ (args_tuple_getitem _ _)))
  show wpAny _ _ (Builtin.Tuple.tupleItemsOf (.ref t) >>= _) _ _ s
  refine wpAny_bind (tupleItemsOf_ ht (wpAny_bind (wpAny_typeOf hTs ?_)))
  rw [if_pos (by decide)]
  refine wpAny_bind (applied_rev hs p3 ?_)
  have hno : ¬ (((((items.size : Nat) : Int) - 1) == 0 && (-1 : Int) == 1 && items.size == items.size) = true) := by
    rw [show ((-1 : Int) == 1) = false from rfl, Bool.and_false, Bool.false_and]
    exact Bool.false_ne_true
  show wpAny _ _ (if ((((items.size : Nat) : Int) - 1) == 0 && (-1 : Int) == 1 && items.size == items.size) = true then _ else _) _ _ s
  rw [if_neg hno, pick_rev]
  first
    | exact wpAny_bind (m := Builtin.Tuple.tupleExact _) (wpAny_newObj_type (wpAny_pure ⟨_, rfl, wpAny_pure h⟩) hok)
    | exact wpAny_bind (m := Builtin.Tuple.tupleExact _) (wpAny_newObj_type (wpAny_bind (wpAny_pure (wpAny_pure ⟨_, rfl, wpAny_pure h⟩))) hok)
    | exact wpAny_bind (wpAny_bind (m := Builtin.Tuple.tupleExact _) (wpAny_newObj_type (wpAny_pure (wpAny_pure ⟨_, rfl, wpAny_pure h⟩)) hok))
    | exact wpAny_bind (wpAny_bind (m := Builtin.Tuple.tupleExact _) (wpAny_newObj_type (wpAny_pure ⟨_, rfl, wpAny_pure h⟩) hok))
end
section
variable {X : Cx}
/-- t[::-1], t a tuple: a new one -/
def tRevT (K : PySem.W.Frag) (te : TE) : TE := fun σ H Q => te σ H fun x H1 => ∃ a xs, x = .ref a ∧ SqT K H1 a xs ∧ ∀ p, H1 p = none → Q (.ref p) (upd H1 p (.tup xs.reverse))
theorem pe_revT {e : Expr} {te : TE} {k : Nat} {p1 p2 p3 pos : Pos} (he : PE X e te) : PE X (.Subscript e (.Slice none none (some (.UnaryOp .USub (.Constant (.int 1) k p1) p2)) p3) pos) (tRevT X.K te) := by
  refine ⟨fun pins s σ H Q I h => Subscript_ (thn (he.run pins s σ H _ I h) fun v s1 hh => ?_)⟩
  obtain ⟨x, H1, I1, r1, a, xs, rfl, hx, q⟩ := hh
  cases r1
  refine wpAny_Slice (thn (po_none.run pins s1 σ H1 (fun o H2 => o = none ∧ H2 = H1) I1 ⟨rfl, rfl⟩) fun vl s2 hl => ?_)
  obtain ⟨_, _, I2, pl, rfl, rfl⟩ := hl
  refine thn (po_none.run pins s2 σ _ (fun o H3 => o = none ∧ H3 = _) I2 ⟨rfl, rfl⟩) fun vu s3 hu => ?_
  obtain ⟨_, _, I3, pu, rfl, rfl⟩ := hu
  refine thn ((po_some (pe_un un_neg pe_int) : PO X (some (.UnaryOp .USub (.Constant (.int 1) k p1) p2)) _).run pins s3 σ _ (fun o H4 => o = some (-1) ∧ H4 = _) I3 ⟨1, rfl, -1, rfl, rfl, rfl⟩) fun vs s4 hv => ?_
  obtain ⟨_, H4, I4, ps, rfl, rfl⟩ := hv
  cases pl
  cases pu
  have I5 : Inv X pins σ H4 { s4 with heap := s4.heap.push { cls := .type "slice", data := .fields #[.none, .none, vs] } } := I4.kept (t' := s4.toks) fun b ob z => Heap.get?_push_of_some _ z
  obtain ⟨its, r, ht, hz⟩ := I5.tuple hx
  have hlen := r.length
  refine tail_any (ops := [.ref a, .ref s4.heap.objs.size]) ht.typeIs (PyProof.Rows.slot_tuple_getitem.lookup) ?_ (by with_unfolding_all rfl)
  refine item_rev ht (Heap.IsSliceOf.new _ .none .none vs) ps ?_ (by rw [List.size_toArray]; omega)
  refine ⟨.ref _, _, I5.laid (t' := s4.toks) (o := .tup xs.reverse) (fun b ob z => Heap.get?_push_of_some _ z) (Nat.le_refl _) ?_, rfl, q _ (I5.hok.fresh (Nat.le_refl _))⟩
  exact ⟨by rw [List.length_reverse]; exact hz, its.reverse, r.reverse, IsTup.new _ _⟩
/-- len(set(t)), t a tuple of ints: how many unlike ones -/
def tLenSetT (K : PySem.W.Frag) (ta : TE) : TE := fun σ H Q => ta σ H fun x H1 => ∃ (l : Addr) (ns : List Int), x = .ref l ∧ SqT K H1 l (ns.map V.int) ∧ ns.length ≤ 4000 ∧ ∀ ks : List Int, ks.Nodup → (∀ z, z ∈ ks ↔ z ∈ ns) → Q (.int (ks.length : Nat)) H1
theorem pe_lenSetT {a : Expr} {ta : TE} {p p2 q pos : Pos} (hg : Gl X "len") (hm : X.mg "len" = none) (hg2 : Gl X "set") (hm2 : X.mg "set" = none) (ha : PE X a ta) (hc : X.calm = true := by rfl)
    (na : starEach [a] X.env = (false, eval a X.env) :: starEach [] X.env := by rfl) : PE X (.Call (.Name "len" p) [.Call (.Name "set" p2) [a] [] q] [] pos) (tLenSetT X.K ta) := by
  refine ⟨fun pins s σ H Q I h => Call_ (ld_blt I hg hm boot_len ?_)⟩
  refine PyProof.Rows.callWith_builtin1 (PyProof.Rows.args_cons (Call_ (ld_blt I hg2 hm2 boot_set ?_)) rfl) rfl rfl
  refine PyProof.Rows.callWith_type1 (PyProof.Rows.args_cons (thn (ha.run pins s σ H _ I h) fun v s1 hh => PyProof.Rows.args_nil ?_) na) na rfl
  obtain ⟨x, H1, I1, r1, l, ns, rfl, hq, hl, k⟩ := hh
  cases r1
  obtain ⟨its, r, pt, hz⟩ := I1.tuple hq
  refine call_set_tupI ns (I1.ok.hd hc) (show s1.heap.IsTuple l its.toArray from pt) (by simpa using r.ints) (by unfold scanBound; omega) fun h' tk c R1 hcn keep => PyProof.Rows.args_nil ?_
  obtain ⟨o, es, ep, t, ho, hex, hd, _, nd, mem, hsz, hf, hn, _⟩ := R1
  have I2 : Inv X pins σ H1 { s1 with heap := h', toks := tk } := I1.kept keep
  have kl : (es.toList.map keyOf).length = es.size := by rw [List.length_map, Array.length_toList]
  refine call_len_set ho hex hd hf (by have : scanBound = 4096 := rfl; omega) ⟨.int (es.toList.map keyOf).length, H1, I2.tok _, ⟨_, by rw [kl]⟩, k _ nd fun z => ?_⟩
  rw [← mem z]
  exact decide_eq_true_iff
end
end Eb

/-! ## own layer: def f(self, *v, k = default): calls f(a, .., k = e), f(*y, k = e), and instances made so -/
namespace Eb
open PySem PySem.Spec PyProof.Rows L2 StX
/-- the shape of a binding that looks one keyword's default up and then lays a tuple -/
def KwTup {α : Type} (D : Addr) (kn : Str) (u : Value) (rest : List Value) (t : Sem α) (r : Value → α) : Prop :=
  ∃ (β γ : Type) (k1 : Option Value → Sem β) (k2 : β → Sem γ) (k3 : γ → Sem α) (a : β), t = ((nsGet D kn >>= k1) >>= k2) >>= k3 ∧ k1 (some u) = pure a ∧ (k2 a >>= k3) = (newTuple rest >>= fun t => pure (r t))
/-- the keyword's part of a call -/
def kwOf (kn : Str) : Option Value → List (Str × Value)
  | none => []
  | some o => [(kn, o)]
/-- a def's promise, called with values vs and one keyword kn or none -/
def FnK (P : Program) (w : World) (K : PySem.W.Frag) (mg : Str → Option Value) (base : Heap) (CX : CXT) (k : Nat) (f : Addr) (kn : Str) (sp : List V → Option V → Hp → VK → XK → Prop) : Prop :=
  ∀ (A : Around) (outer : List Env) (s : Shared) (H : Hp) (us : List Value) (ou : Option Value) (vs : List V) (ov : Option V) (Q : VK) (E : XK), Room k A → Env0 P w K mg base A outer s H → Vals vs us → RelO ov ou → sp vs ov H Q E →
    codeAny (model P w) A (.call (.ref f) ⟨us, kwOf kn ou⟩) (CR CX outer P w H s Q E) s
section
variable {CX : CXT} {P : Program} {w : World} {K : PySem.W.Frag} {mg : Str → Option Value} {base : Heap} {k : Nat} {f : Addr} {name qual : Str} {params : Arguments} {body : List Stmt} {scope : Scope} {doc pm cdv ct oc : Value} {an od : Option Addr} {D : Addr}
  {osl : Array (Option Value)} {N : List Str} {sp : Sp} {p1 kn pv : Str} {du : Value} {dv : V}
theorem fn_ko (lk : K.lookup f = some ⟨oc, od, .func (PySem.W.fnOf name qual params body scope .none (.ref D) doc pm an cdv ct), osl⟩) (hcd : PySem.W.codeIn K cdv qual = true) (S : FnScope N [p1, kn, pv] scope) (hCX : CXUp CX)
    (hD : PySem.W.nsIn K D kn = some (some du)) (rd : RelV dv du)
    (hb1 : ∀ (a o : Value) (rest : List Value), bindArgs (PySem.W.fnOf name qual params body scope .none (.ref D) doc pm an cdv ct) ⟨a :: rest, [(kn, o)]⟩ = (newTuple rest >>= fun t => pure [(p1, a), (kn, o), (pv, t)]))
    (hb0 : ∀ (a : Value) (rest : List Value), KwTup D kn du rest (bindArgs (PySem.W.fnOf name qual params body scope .none (.ref D) doc pm an cdv ct) ⟨a :: rest, []⟩) (fun t => [(p1, a), (kn, du), (pv, t)]))
    (hbody : ∀ (A : Around) (outer : List Env) (s : Shared) (H : Hp) (vs : List V) (Q : VK) (E : XK), Room k (A.deeper (envOfC qual scope s.heap.objs.size f cdv)) → sp vs H Q E →
      ∃ t, PSs (cxOf CX P w K mg base N qual scope f cdv A outer s H E) body t ∧ t { nx := fun _ H' => Q .non H', rt := Q } (start N vs) H) :
    FnK P w K mg base CX (k + 1) f kn (fun vs ov H Q E => ∃ a rest, vs = a :: rest ∧ rest.length ≤ sizeLine ∧ ∀ p, H p = Option.none → sp [a, ov.getD dv, V.ref p] (upd H p (.tup rest)) Q E) := by
  intro A outer s H us ou vs ov Q E hr e0 r ro hsp
  obtain ⟨a, rest, ev, hz, hq⟩ := hsp
  subst ev
  cases r with
  | cons ra rr =>
    rename_i u us
    have hn : H s.heap.objs.size = Option.none := e0.hok.fresh (Nat.le_refl _)
    have hl2 : us.length ≤ sizeLine := by rw [← rr.length]; exact hz
    have KX : K.In s.heap := e0.mod.kin.keeps fun b o e => (e0.bs b o e).1
    -- the value of the keyword
    obtain ⟨o, rO, eO⟩ : ∃ o : Value, RelV (ov.getD dv) o ∧ (ou = none → o = du) ∧ (∀ z, ou = some z → o = z) := by
      cases ou with
      | none =>
        cases ov with
        | none => exact ⟨du, rd, (fun _ => rfl), (fun _ e => nomatch e)⟩
        | some y => exact ro.elim
      | some z =>
        cases ov with
        | none => exact ro.elim
        | some y => exact ⟨z, ro, (fun e => nomatch e), (fun _ e => Option.some.inj e)⟩
    refine run_bnd lk hcd S hr e0 (G := fun xs H2 => ∃ p, H p = Option.none ∧ xs = [a, ov.getD dv, V.ref p] ∧ H2 = upd H p (.tup rest)) (fun A' Ex Q' h => ?_) fun s2 H2 xs ⟨p, hp, ex, eH⟩ hr' => ?_
    · have new : ObjOk P w (upd H s.heap.objs.size (.tup rest)) (s.heap.push ({ cls := .type "tuple", data := .seq us.toArray } : Obj)) s.heap.objs.size (.tup rest) := ⟨hz, us, rr, ⟨_, Heap.get?_push_size _ rfl, rfl, _, rfl⟩⟩
      have un := un_laid (fs := frs outer) (s := s) (o := ({ cls := .type "tuple", data := .seq us.toArray } : Obj)) (u := .tup rest) hn
      have fin : wpAny (model P w) A' (newTuple us >>= fun t => pure [(p1, u), (kn, o), (pv, t)]) Q' Ex s := by
        refine wpAny_bind (wpAny_newTuple (wpAny_pure ?_) hl2)
        exact h _ _ [a, ov.getD dv, V.ref s.heap.objs.size] [u, o, Value.ref s.heap.objs.size] (env0_laid e0 new) un rfl (fun e s' => hCX outer s H _ _ E e s' un (fun b o q => Heap.get?_push_of_some _ q) rfl) (.cons ra (.cons rO (.cons rfl .nil))) rfl ⟨_, hn, rfl, rfl⟩
      cases ou with
      | none =>
        cases eO.1 rfl
        obtain ⟨β, γ, k1, k2, k3, b, e1, e2, e3⟩ := hb0 u us
        show wpAny _ _ (bindArgs _ ⟨u :: us, []⟩) _ _ _
        rw [e1, bind_assoc]
        have l1 : PySem.W.Looks (model P w) s.heap (nsGet D kn >>= k1) b := (PySem.W.looks_nsIn KX hD).andThen (PySem.W.Looks.of_pure e2)
        refine wpAny_bind (l1.here ?_)
        show wpAny _ _ (k2 b >>= k3) _ _ _
        rw [e3]
        exact fin
      | some z =>
        cases eO.2 z rfl
        show wpAny _ _ (bindArgs _ ⟨u :: us, [(kn, o)]⟩) _ _ _
        rw [hb1 u o us]
        exact fin
    · subst ex eH
      exact hbody A outer s2 _ _ Q E hr' (hq p hp)
end
/-! ### instances made by such an __init__ -/
/-- C(..): vs the positional values, ov the keyword's -/
def mkO (C : Addr) (sp : List V → Option V → Hp → VK → XK → Prop) (E : XK) (vs : List V) (ov : Option V) (H1 : Hp) (Q : VK) : Prop := ∀ x dx, H1 x = Option.none → H1 dx = Option.none → dx ≠ x →
  sp (V.ref x :: vs) ov (upd (upd H1 dx (.own x)) x (.ins C dx [])) (fun v H2 => v = .non ∧ Q (.ref x) H2) E
section
variable {X : Cx} {CX : CXT} {k : Nat} {f C : Addr} {kn : Str} {sp : List V → Option V → Hp → VK → XK → Prop} {E : XK} {x : Str} {e y : Expr} {es : List Expr} {kws : List Keyword} {t tk : TA} {te : TE} {p p2 pos : Pos}
theorem run_makeO {pins : List (Addr × Obj)} {σ : L2.St} {H : Hp} {s : Shared} {Q : VK} {us : List Value} {ou : Option Value} {vs : List V} {ov : Option V} (M : Mk X.K C f) (F : FnK X.prog X.w X.K X.mg X.base CX k f kn sp) (hr : Room (k + 1) X.A) (hx : Passes CX X E) (I : Inv X pins σ H s) (r : Vals vs us) (ro : RelO ov ou)
    (h : mkO C sp E vs ov H Q) : wpAny (model X.prog X.w) X.A (call (.ref C) us (kwOf kn ou)) (EP X pins σ Q) X.xe s := by
  have hq := h (s.heap.objs.size + 1) s.heap.objs.size (I.hok.fresh (Nat.le_succ _)) (I.hok.fresh (Nat.le_refl _)) (Nat.ne_of_lt (Nat.lt_succ_self _))
  have I2 := Inv.made (C := C) I
  have r2 : Vals (V.ref (s.heap.objs.size + 1) :: vs) (Value.ref (s.heap.objs.size + 1) :: us) := .cons rfl r
  refine wpAny_call (make_map (f := f) I.kIn M.makes M.init (beq_iff_eq.mp M.fn) (codeAny_mono (F _ X.stack _ _ (Value.ref (s.heap.objs.size + 1) :: us) ou _ _ _ E (hr.make C us (kwOf kn ou)) (I2.env0.make C us (kwOf kn ou)) r2 ro hq) fun r s' hq' => ?_))
  cases r with
  | error e => exact hx pins σ _ _ e s' I2 hq'
  | ok fl =>
    cases fl with
    | ret u =>
      obtain ⟨v, H', I3, rv, ev, q3⟩ := I2.after hq'
      subst ev
      exact ⟨rv, ⟨V.ref (s.heap.objs.size + 1), H', I3, rfl, q3⟩⟩
    | next => exact False.elim hq'
    | brk => exact False.elim hq'
    | cont => exact False.elim hq'
/-- C(e, ..) -/
theorem pe_mkO (M : Mk X.K C f) (F : FnK X.prog X.w X.K X.mg X.base CX k f kn sp) (hr : Room (k + 1) X.A) (hg : Gl X x) (hm : X.mg x = some (.ref C)) (hx : Passes CX X E) (ha : PA X (e :: es) t) (hdb : (x == ("__debug__" : Str)) = false := by decide)
    (he : starEach (e :: es) X.env = (false, eval e X.env) :: starEach es X.env := by rfl) (hpl : (backTo pos (starEach es X.env)).any (·.1) = false := by rfl) : PE X (.Call (.Name x p) (e :: es) [] pos) (fun σ H Q => t σ H fun vs H1 => mkO C sp E vs none H1 Q) := by
  refine ⟨fun pins s σ H Q I h => ?_⟩
  refine wpAny_Call_Name_kw (ld_glob I hg hm ?_ hdb)
  refine PySem.W.callWith_K (h₀ := X.base) I.ok.mod.kin M.kp (thn (ha.run pos pins s σ H _ I h) fun us s1 ⟨vs, H1, I1, r, q⟩ => ⟨I1.kIn, ?_⟩) he hpl
  exact run_makeO (ou := none) (ov := none) M F hr hx I1 r trivial q
/-- C(e, .., kn = v) -/
theorem pe_mkOk (M : Mk X.K C f) (F : FnK X.prog X.w X.K X.mg X.base CX k f kn sp) (hr : Room (k + 1) X.A) (hg : Gl X x) (hm : X.mg x = some (.ref C)) (hx : Passes CX X E) (ha : PA X (e :: es) t) (hkw : PK X kws tk)
    (hall : (backToKw pos (keywordEach kws X.env)).all (·.1.isSome) = true := by rfl) (hks : (backToKw pos (keywordEach kws X.env)).filterMap (·.1) = [kn] := by rfl) (hdb : (x == ("__debug__" : Str)) = false := by decide)
    (he : starEach (e :: es) X.env = (false, eval e X.env) :: starEach es X.env := by rfl) (hpl : ((backTo pos (starEach (e :: es) X.env)).any (·.1) || (backToKw pos (keywordEach kws X.env)).any (·.1.isNone)) = false := by rfl) :
    PE X (.Call (.Name x p) (e :: es) kws pos) (fun σ H Q => t σ H fun vs H1 => tk σ H1 fun zs H2 => ∃ z, zs = [z] ∧ mkO C sp E vs (some z) H2 Q) := by
  refine ⟨fun pins s σ H Q I h => ?_⟩
  refine wpAny_Call_Name_kw (ld_glob I hg hm ?_ hdb)
  refine PySem.W.callWith_KW (h₀ := X.base) I.ok.mod.kin M.kp hall (thn (ha.run pos pins s σ H _ I h) fun us s1 ⟨vs, H1, I1, r, q⟩ => ?_) hpl he
  refine thn (hkw.run pos pins s1 σ H1 _ I1 q) fun ws s2 ⟨zs, H2, I2, rz, z, ez, q2⟩ => ⟨I2.kIn, ?_⟩
  subst ez
  cases rz with
  | cons rz1 rz2 =>
    cases rz2
    rw [hks]
    exact run_makeO (ou := some _) (ov := some z) M F hr hx I2 r rz1 q2
/-- C(kn = v) -/
theorem pe_mkOk0 (M : Mk X.K C f) (F : FnK X.prog X.w X.K X.mg X.base CX k f kn sp) (hr : Room (k + 1) X.A) (hg : Gl X x) (hm : X.mg x = some (.ref C)) (hx : Passes CX X E) (hkw : PK X kws tk)
    (hall : (backToKw pos (keywordEach kws X.env)).all (·.1.isSome) = true := by rfl) (hks : (backToKw pos (keywordEach kws X.env)).filterMap (·.1) = [kn] := by rfl) (hdb : (x == ("__debug__" : Str)) = false := by decide)
    (hpl : ((backTo pos (starEach [] X.env)).any (·.1) || (backToKw pos (keywordEach kws X.env)).any (·.1.isNone)) = false := by rfl) :
    PE X (.Call (.Name x p) [] kws pos) (fun σ H Q => tk σ H fun zs H2 => ∃ z, zs = [z] ∧ mkO C sp E [] (some z) H2 Q) := by
  refine ⟨fun pins s σ H Q I h => ?_⟩
  refine wpAny_Call_Name_kw (ld_glob I hg hm ?_ hdb)
  refine PySem.W.callWith_KW0 (h₀ := X.base) I.ok.mod.kin M.kp hall ?_ hpl
  refine thn (hkw.run pos pins s σ H _ I h) fun ws s2 ⟨zs, H2, I2, rz, z, ez, q2⟩ => ⟨I2.kIn, ?_⟩
  subst ez
  cases rz with
  | cons rz1 rz2 =>
    cases rz2
    rw [hks]
    exact run_makeO (us := []) (vs := []) (ou := some _) (ov := some z) M F hr hx I2 .nil rz1 q2
/-! C(*y, kn = v): the star's value, the keyword's, then the star's items -/
theorem lone_kw {M : Model} {A : Around} {E : Value → Shared → Prop} {s : Shared} {f : Value} {x : Sem Value} {pos : Pos} {kws : List (Option Str × Sem Value)} {Q : Args → Shared → Prop} (hall : kws.all (·.1.isSome) = true)
    (h : wpAny M A x (fun v s₁ => wpAny M A (evalAll (kws.map (·.2))) (fun ks s₂ => PySem.W.StarOf M A E v (fun vs s₃ => Q ⟨vs, (kws.filterMap (·.1)).zip ks⟩ s₃) s₂) E s₁) E s) :
    wpAny M A (evalArgs f true [(true, (do let v ← x; standAt pos; pure v))] kws) Q E s := by
  unfold evalArgs
  refine wpAny_bind (wpAny_bind (wpAny_mono h (fun v s₁ h₁ => wpAny_bind (wpAny_standAt (wpAny_pure ?_))) fun _ _ x => x))
  refine wpAny_bind (wpAny_pure ?_)
  refine wpAny_holding ?_
  simp only [hall, if_true]
  refine wpAny_bind (wpAny_mono h₁ (fun ks s₂ h₂ => ?_) fun _ _ x => x)
  unfold PySem.W.StarOf at h₂
  refine wpAny_bind (wpAny_bind (wpAny_mono h₂ (fun b s₃ h₃ => ?_) fun _ _ x => x))
  obtain ⟨rfl, h₃⟩ := h₃
  simp only [Bool.false_eq_true, if_false]
  exact wpAny_holding (wpAny_mono h₃ (fun vs s₄ h₄ => wpAny_pure h₄) fun _ _ x => x)
theorem call_star_kw {M : Model} {A : Around} {E : Value → Shared → Prop} {s : Shared} {f : Value} {first : List Value} {pos : Pos} {Q : Value → Shared → Prop} {K : PySem.W.Frag} {args : List (Bool × Sem Value)} {kws : List (Option Str × Sem Value)} (hst : args.any (·.1) = true) (hk : PySem.W.keepIn K f = true)
    (h : wpAny M A (evalArgs f true args kws) (fun a s₁ => K.In s₁.heap ∧ wpAny M A (call f (first ++ a.pos) a.kw) Q E s₁) E s) : wpAny M A (callWith pos f first args kws) Q E s := by
  unfold callWith
  refine wpAny_bind (wpAny_holding (wpAny_mono h (fun a s₁ h₁ => wpAny_bind (wpAny_standAt ?_)) fun _ _ x => x))
  obtain ⟨k, hk', L⟩ := PySem.W.keeps_K (M := M) hk _ h₁.1
  simp only [hst, Bool.true_or]
  refine wpAny_bind (L.here ?_)
  have tail : ∀ {t : Sem Value}, wpAny M A t Q E s₁ → wpAny M A (t >>= fun r => holding [r] point >>= fun _ => pure r) Q E s₁ :=
    fun ht => wpAny_bind (wpAny_mono ht (fun r s₂ hr => wpAny_bind (wpAny_holding (wpAny_point (wpAny_pure hr)))) fun _ _ x => x)
  have marked (mk : Value) : wpAny M A (callMarked mk f (first ++ a.pos) a.kw) Q E s₁ := by unfold callMarked; exact Calls.wpAny_keep h₁.2
  rcases hk' with rfl | rfl | rfl <;> dsimp only <;> first | exact tail (marked _) | exact tail (wpAny_operating h₁.2)
/-- C(*y, kn = v) -/
theorem pe_mkOs (M : Mk X.K C f) (F : FnK X.prog X.w X.K X.mg X.base CX k f kn sp) (hr : Room (k + 1) X.A) (hg : Gl X x) (hm : X.mg x = some (.ref C)) (hx : Passes CX X E) (hy : PE X y te) (hkw : PK X kws tk)
    (hall : (backToKw pos (keywordEach kws X.env)).all (·.1.isSome) = true := by rfl) (hks : (backToKw pos (keywordEach kws X.env)).filterMap (·.1) = [kn] := by rfl) (hdb : (x == ("__debug__" : Str)) = false := by decide)
    (hst : starEach [.Starred y p2] X.env = [(true, eval y X.env)] := by rfl) :
    PE X (.Call (.Name x p) [.Starred y p2] kws pos) (fun σ H Q => te σ H fun v H1 => tk σ H1 fun zs H2 => ∃ a xs z, v = V.ref a ∧ (SqT X.K H2 a xs ∨ SqL X.K H2 a xs) ∧ zs = [z] ∧ mkO C sp E xs (some z) H2 Q) := by
  refine ⟨fun pins s σ H Q I h => ?_⟩
  refine wpAny_Call_Name_kw (ld_glob I hg hm ?_ hdb)
  rw [hst]
  refine call_star_kw (K := X.K) rfl M.kp (lone_kw hall ?_)
  refine thn (hy.run pins s σ H _ I h) fun u s1 ⟨v, H1, I1, rv, q⟩ => ?_
  refine thn (hkw.run pos pins s1 σ H1 _ I1 q) fun ws s2 ⟨zs, H2, I2, rz, a, xs, z, ev, hxs, ez, q2⟩ => ?_
  subst ev ez
  obtain rfl : u = Value.ref a := rv
  cases rz with
  | cons rz1 rz2 =>
    cases rz2
    rw [hks]
    exact star_any I2 hxs fun us s3 I3 rv => ⟨I3.kIn, run_makeO (ou := some _) (ov := some z) M F hr hx I3 rv rz1 q2⟩
/-- C() -/
theorem pe_mkO0 (M : Mk X.K C f) (F : FnK X.prog X.w X.K X.mg X.base CX k f kn sp) (hr : Room (k + 1) X.A) (hg : Gl X x) (hm : X.mg x = some (.ref C)) (hx : Passes CX X E)
    (hdb : (x == ("__debug__" : Str)) = false := by decide) : PE X (.Call (.Name x p) [] [] pos) (fun σ H Q => mkO C sp E [] none H Q) := by
  refine ⟨fun pins s σ H Q I h => ?_⟩
  refine wpAny_Call_Name_kw (ld_glob I hg hm ?_ hdb)
  exact PySem.W.callWith_K0 I.kIn M.kp (run_makeO (us := []) (vs := []) (ou := none) (ov := none) M F hr hx I .nil trivial h)
end
end Eb

/-! ## own layer: operators of an own class (instances with a dict) -/
namespace Eb
open PySem PySem.Spec PyProof.Rows L2 StX
/-- an instance of the class at C -/
def InsO (H : Hp) (a C : Addr) : Prop := ∃ dx fs, H a = some (.ins C dx fs)
section
variable {X : Cx} {CX : CXT} {n : Nat} {C g : Addr} {sp : Sp} {E : XK} {pins : List (Addr × Obj)} {σ : L2.St} {H : Hp} {s : Shared}
theorem insO_at {a : Addr} (I : Inv X pins σ H s) (h : InsO H a C) : ∃ ox od, PySem.W.InstAt s.heap a ox C od := by
  obtain ⟨dx, fs, h⟩ := h
  obtain ⟨mA, O, _⟩ := ins_get I.hok h
  obtain ⟨od, J, _⟩ := O.look
  exact ⟨_, _, J⟩
/-- x op y, both of the class -/
def rB2 (C : Addr) (sp : Sp) (E : XK) : R2 := fun x y H Q => ∃ a b, x = .ref a ∧ y = .ref b ∧ InsO H a C ∧ InsO H b C ∧ sp [x, y] H Q E
theorem op_bin2 {op : Operator} (hc : PySem.W.selfFirst X.K C = true) (hs : PySem.W.findIn X.K (.ref C) (PySem.dunder op.info.2) = some (some (.ref g))) (hf : PySem.W.isFn X.K (.ref g) = true) (F : FnR X.prog X.w X.K X.mg X.base CX n g sp) (hr : Room n X.A) (hx : Passes CX X E) :
    OpR X (binaryOp op) (rB2 C sp E) := by
  intro pins s σ H x y v u Q I rx ry h
  obtain ⟨a, b, rfl, rfl, ha, hb, q⟩ := h
  cases (show v = Value.ref a from rx)
  cases (show u = Value.ref b from ry)
  obtain ⟨ox, od, J⟩ := insO_at I ha
  obtain ⟨ox', od', J'⟩ := insO_at I hb
  obtain ⟨m, hF⟩ := I.fr
  refine PySem.W.binop_K hF I.ok.mod.kin J J'.type hc hs hf ?_
  refine wpAny_mono (wpAny_call (run_fnR (us := [.ref a, .ref b]) (vs := [.ref a, .ref b]) F hr hx I (.cons rfl (.cons rfl .nil)) q)) (fun w s' z => ?_) fun _ _ x => x
  obtain ⟨z', H', I', rz, qz⟩ := z
  exact SlX.cmpback rz ⟨z', H', I', rz, qz⟩
/-- x op i, an int on the right -/
def rBI (C : Addr) (sp : Sp) (E : XK) : R2 := fun x y H Q => ∃ a i, x = .ref a ∧ y = .int i ∧ InsO H a C ∧ sp [x, y] H Q E
theorem op_binI {op : Operator} {fo ro rc : Option Value} (hc : PySem.W.selfFirst X.K C = true) (hs : PySem.W.findIn X.K (.ref C) (PySem.dunder op.info.2) = some (some (.ref g))) (hf : PySem.W.isFn X.K (.ref g) = true)
    (hrc : PySem.W.findIn X.K (.ref C) (dunderR op.info.2) = some rc) (hp : rc = none ∨ ∃ g : Addr, rc = some (.ref g)) (h1 : PySem.W.findIn X.K (.type "int") (PySem.dunder op.info.2) = some fo) (h2 : PySem.W.findIn X.K (.type "int") (dunderR op.info.2) = some ro) (hsub : PySem.W.subIn X.K (.type "int") (.ref C) = some false)
    (F : FnR X.prog X.w X.K X.mg X.base CX n g sp) (hr : Room n X.A) (hx : Passes CX X E) : OpR X (binaryOp op) (rBI C sp E) := by
  intro pins s σ H x y v u Q I rx ry h
  obtain ⟨a, i, rfl, rfl, ha, q⟩ := h
  cases (show v = Value.ref a from rx)
  obtain ⟨t, rfl⟩ := (show ∃ t, u = Value.int i t from ry)
  obtain ⟨ox, od, J⟩ := insO_at I ha
  obtain ⟨m, hF⟩ := I.fr
  refine PySem.W.ksp_binT (T := "int") hF I.ok.mod.kin J rfl hc hs hf hrc hp h1 h2 hsub ?_
  refine wpAny_mono (wpAny_call (run_fnR (us := [.ref a, .int i t]) (vs := [.ref a, .int i]) F hr hx I (.cons rfl (.cons ⟨t, rfl⟩ .nil)) q)) (fun w s' z => ?_) fun _ _ x => x
  obtain ⟨z', H', I', rz, qz⟩ := z
  exact SlX.cmpback rz ⟨z', H', I', rz, qz⟩
/-- what the class and int say of the reflected operator -/
def RefO (K : PySem.W.Frag) (C : Addr) (nm : String) : Prop := ∃ rc fo ro : Option Value, PySem.W.findIn K (.ref C) (dunderR nm) = some rc ∧ (rc = none ∨ ∃ g : Addr, rc = some (.ref g)) ∧ PySem.W.findIn K (.type "int") (PySem.dunder nm) = some fo ∧ PySem.W.findIn K (.type "int") (dunderR nm) = some ro
theorem op_binX {op : Operator} (hc : PySem.W.selfFirst X.K C = true) (hs : PySem.W.findIn X.K (.ref C) (PySem.dunder op.info.2) = some (some (.ref g))) (hf : PySem.W.isFn X.K (.ref g) = true) (hR : RefO X.K C op.info.2) (hsub : PySem.W.subIn X.K (.type "int") (.ref C) = some false)
    (F : FnR X.prog X.w X.K X.mg X.base CX n g sp) (hr : Room n X.A) (hx : Passes CX X E) : OpR X (binaryOp op) (rBI C sp E) := by
  obtain ⟨rc, fo, ro, h0, hp, h1, h2⟩ := hR
  exact op_binI hc hs hf h0 hp h1 h2 hsub F hr hx
/-- -x -/
def rUO (C : Addr) (sp : Sp) (E : XK) : V → Hp → VK → Prop := fun x H Q => ∃ a, x = .ref a ∧ InsO H a C ∧ sp [x] H Q E
theorem un_negO (hs : PySem.W.findIn X.K (.ref C) "__neg__" = some (some (.ref g))) (hf : PySem.W.isFn X.K (.ref g) = true) (F : FnR X.prog X.w X.K X.mg X.base CX n g sp) (hr : Room n X.A) (hx : Passes CX X E) : UnR X (unaryOp .USub) (rUO C sp E) := by
  intro pins s σ H x v Q I rx h
  obtain ⟨a, rfl, ha, q⟩ := h
  cases (show v = Value.ref a from rx)
  obtain ⟨ox, od, J⟩ := insO_at I ha
  obtain ⟨m, hF⟩ := I.fr
  exact PySem.W.ksp_neg hF I.ok.mod.kin J hs hf (wpAny_call (run_fnR (us := [.ref a]) (vs := [.ref a]) F hr hx I (.cons rfl .nil) q))
theorem un_invO (hs : PySem.W.findIn X.K (.ref C) "__invert__" = some (some (.ref g))) (hf : PySem.W.isFn X.K (.ref g) = true) (F : FnR X.prog X.w X.K X.mg X.base CX n g sp) (hr : Room n X.A) (hx : Passes CX X E) : UnR X (unaryOp .Invert) (rUO C sp E) := by
  intro pins s σ H x v Q I rx h
  obtain ⟨a, rfl, ha, q⟩ := h
  cases (show v = Value.ref a from rx)
  obtain ⟨ox, od, J⟩ := insO_at I ha
  obtain ⟨m, hF⟩ := I.fr
  exact PySem.W.ksp_inv hF I.ok.mod.kin J hs hf (wpAny_call (run_fnR (us := [.ref a]) (vs := [.ref a]) F hr hx I (.cons rfl .nil) q))
/-- x op y, a comparison by the class's own def; y of the class, too -/
theorem op_cmp2 {op : CmpOp} (hop : ∀ a b, compareOp op a b = richCompare op a b) (hs : PySem.W.findIn X.K (.ref C) (cmpInfo op).2.1 = some (some (.ref g))) (hf : PySem.W.isFn X.K (.ref g) = true) (hn : PySem.W.notFirst X.K C (.ref C) = true) (F : FnR X.prog X.w X.K X.mg X.base CX n g sp)
    (hr : Room n X.A) (hx : Passes CX X E) : OpR X (compareOp op) (rB2 C sp E) := by
  intro pins s σ H x y v u Q I rx ry h
  obtain ⟨a, b, rfl, rfl, ha, hb, q⟩ := h
  cases (show v = Value.ref a from rx)
  cases (show u = Value.ref b from ry)
  obtain ⟨ox, od, J⟩ := insO_at I ha
  obtain ⟨ox', od', J'⟩ := insO_at I hb
  obtain ⟨m, hF⟩ := I.fr
  rw [hop]
  refine PySem.W.cmp_K (op := op) (tb := .ref C) hr.units0 hF I.ok.mod.kin J J'.type hn hs hf ?_
  refine wpAny_mono (wpAny_call (run_fnR (us := [.ref a, .ref b]) (vs := [.ref a, .ref b]) F hr hx I (.cons rfl (.cons rfl .nil)) q)) (fun w s' z => ?_) fun _ _ x => x
  obtain ⟨z', H', I', rz, qz⟩ := z
  exact SlX.cmpback rz ⟨z', H', I', rz, qz⟩
end
end Eb

/-! ## enumerate(t), t a tuple -/
namespace Eb
open PySem PySem.Spec PyProof.Rows L2
set_option maxRecDepth 100000
theorem meets_enum1 {v : Value} {o : Obj} {G : Heap → Prop} (B : Begins v o G) :
    Meets (Builtin.«enumerate.__new__» ⟨[.type "enumerate", v], []⟩) (fun _ R s => G s.heap ∧
      R (.ok (.ret (.ref (s.heap.push o).objs.size))) { s with heap := (s.heap.push o).push { cls := .type "enumerate", data := .fields #[.none, .bool false, .ref s.heap.objs.size, rawInt 0, .none, .none] } }) :=
  .of_wp fun prog w A R s h => by
    obtain ⟨hp, g, d, tk, os⟩ := s
    obtain ⟨h1, h⟩ := h
    have hsub := sub_enumerate
    have it : ∀ {A' : Around} {E : Value → Shared → Prop} {Q : Value → Shared → Prop}, Q (.ref hp.objs.size) ⟨hp.push o, g, d, tk, os⟩ → wpAny (model prog w) A' (pyIter v) Q E ⟨hp, g, d, tk, os⟩ :=
      fun q => B.iter prog w _ _ ⟨hp, g, d, tk, os⟩ _ h1 q
    wp_walk using it
    refine wpAny_stack_any fun st => wpAny_pure ?_
    split
    · rename_i c _ _ _ _ _
      cases (c == Value.type "enumerate") <;> (wp_walk using it; exact ⟨_, rfl, h⟩)
    · wp_walk using it
      exact ⟨_, rfl, h⟩
theorem call_enum1 {prog : Program} {w : World} {A : Around} {E : Value → Shared → Prop} {s : Shared} {v : Value} {o : Obj} {G : Heap → Prop} {Q : Value → Shared → Prop} (B : Begins v o G) (h1 : G s.heap)
    (h : ∀ h', IsEnum h' (s.heap.objs.size + 1) s.heap.objs.size 0 .none → h'.get? s.heap.objs.size = some o → (∀ b o, s.heap.get? b = some o → h'.get? b = some o) → Q (.ref (s.heap.objs.size + 1)) { s with heap := h' }) :
    wpAny (model prog w) A (call (.type "enumerate") [v]) Q E s := by
  refine callType_new F.called_enumerate (by decide) (F.typeCall_enumerate_1 _) (F.newCall_enumerate_1 _) (fun obj => F.args_object_init_2 obj _) F.entry_enumerate_new (meets_enum1 B) ⟨h1, ?_⟩
  have hz : (s.heap.push o).objs.size = s.heap.objs.size + 1 := Heap.size_push ..
  show _ ∧ _
  rw [hz]
  have he : IsEnum ((s.heap.push o).push { cls := .type "enumerate", data := .fields #[.none, .bool false, .ref s.heap.objs.size, rawInt 0, .none, .none] }) (s.heap.objs.size + 1) s.heap.objs.size 0 .none := by
    have z := Heap.get?_push_size (s.heap.push o) (o := { cls := .type "enumerate", data := .fields #[.none, .bool false, .ref s.heap.objs.size, rawInt 0, .none, .none] }) rfl
    rw [hz] at z
    exact z
  exact ⟨⟨_, he, rfl⟩, h _ he (Heap.get?_push_of_some _ (Heap.get?_push_size _ B.free)) fun b o x => Heap.get?_push_of_some _ (Heap.get?_push_of_some _ x)⟩
theorem enumT_end {prog : Program} {w : World} {A : Around} {E : Value → Shared → Prop} {s : Shared} {e it t : Addr} {i : Nat} {items : Array Value} {old : Value} {k : Int} {Q : Option Value → Shared → Prop} (hh : A.handled = none) (he : IsEnum s.heap e it k old)
    (hit : s.heap.IsTupleIter it t i) (ht : IsTup s.heap t items) (hi : items.size ≤ i) (hQ : ∀ h', Heap.ExtBut it s.heap h' → Q none { s with heap := h' }) : wpAny (model prog w) A (pyNext (.ref e)) Q E s := by
  have hT : s.TypeIs (.ref e) "enumerate" := ⟨_, he, rfl⟩
  unfold pyNext
  refine wpAny_bind (wpAny_attempt (wpAny_callSpecial?_slot (name := Str.ofString "__next__") hT F.slot_enumerate_next (wpAny_call_entry F.slot_enumerate_next hT F.entry_enumerate_next ?_ (F.args_enumerate_next_1 _))))
  show wpAny _ _ (field (.ref e) 2 >>= _) _ _ _
  refine wpAny_bind (wpAny_field he rfl (x := .ref it) rfl (wpAny_bind (wpAny_nextOf_tuple_end (by exact hh) hit (show s.heap.IsTuple t items from ht) (by simpa using hi) fun h' x hx hs => ?_)))
  obtain ⟨o, ho, hc⟩ := hs
  exact wpAny_bind (wpAny_isInstance (T := "StopIteration") (b := true) ⟨o, ho, hc⟩ isSubtype_stop (wpAny_pure (hQ _ hx)))
/-- the tuple at a as it stands at each turn, each item in a new pair -/
def IteT (K : PySem.W.Frag) (a : Addr) : It :=
  ⟨fun i H => ∃ (xs : List V) (x : V), SqT K H a xs ∧ xs[i]? = some x, fun i H v H' => ∃ T x, v = .ref T ∧ H T = none ∧ H' = upd H T (.tup [.int (i : Nat), x]) ∧ ∀ xs, SqT K H a xs → xs[i]? = some x, fun i H => ∃ xs : List V, SqT K H a xs ∧ xs.length ≤ i⟩
theorem turn_enumT {P : Program} {w : World} {K : PySem.W.Frag} {elts : List Expr} {kk : Nat} {tpos : Pos} (a e it : Addr) :
    Turn P w K (.Tuple elts kk tpos) (IteT K a) [e, it] e (fun i h => (∃ old, IsEnum h e it ((i : Nat) : Int) old) ∧ h.IsTupleIter it a i ∧ e ≠ it) where
  mem := by simp
  obj := fun i h st b hb => by
    obtain ⟨⟨old, he⟩, ⟨o, ho, hc, hd⟩, _⟩ := st
    have e' : b = e ∨ b = it := by simpa using hb
    rcases e' with rfl | rfl
    · exact ⟨_, he, fun v q => nomatch q⟩
    · exact ⟨o, ho, fun v q => by rw [hd] at q; cases q⟩
  keep := fun i h h' st k => by
    obtain ⟨⟨old, he⟩, hi, hne⟩ := st
    exact ⟨⟨old, k e (by simp) _ he⟩, hi.at fun o q => k it (by simp) o q, hne⟩
  item := by
    intro X hP hw hK hc i pins s σ H E I hf st hg
    subst hP hw hK
    obtain ⟨⟨old, he⟩, hit, hne⟩ := st
    obtain ⟨xs, x, hq, hx⟩ := hg
    obtain ⟨its, rv, p, hz⟩ := I.tuple hq
    obtain ⟨u, hu, ru⟩ := rv.get hx
    have hel : e < s.heap.objs.size := Heap.lt_size he
    have hil : it < s.heap.objs.size := by
      obtain ⟨_, q, _⟩ := hit
      exact Heap.lt_size q
    have nit : a ≠ it := fun z => by
      obtain ⟨o1, q1, c1, _⟩ := hit
      obtain ⟨o2, q2, c2, _⟩ := p
      rw [z, q1] at q2
      cases q2
      rw [c1] at c2
      exact absurd (Value.type.inj c2) (by decide)
    have nea : e ≠ a := fun z => by
      obtain ⟨o2, q2, c2, _⟩ := p
      have he' : s.heap.get? e = _ := he
      rw [z, q2] at he'
      cases he'
      exact absurd (Value.type.inj c2) (by decide)
    have hi : i < its.toArray.size := by
      rw [List.size_toArray]
      exact (List.getElem?_eq_some_iff.mp hu).1
    refine wpAny_pyNext_enum_itemC (Draws.tuple (by exact I.ok.hd hc) it a nit its.toArray) he ⟨hit, p⟩ hi hne (by simp [hne, nea]) fun y h' tk hy ho hst hT hsz hk => ?_
    have ey : y = u := by
      have z : its[i]? = some y := by simpa using hy
      rw [hu] at z
      exact (Option.some.inj z).symm
    subst ey
    refine ⟨_, rfl, wpAny_letOwnedTupleGo_enum (s := { s with heap := h', toks := tk + 1 }) ho fun h'' he' sb => ?_⟩
    have hT2 : h''.get? s.heap.objs.size = some { cls := .type "tuple", data := .seq #[.int i tk, y] } := (sb.2 _ (Nat.ne_of_gt hel)).trans hT
    have new : ObjOk X.prog X.w (upd H s.heap.objs.size (.tup [.int (i : Nat), x])) h'' s.heap.objs.size (.tup [.int (i : Nat), x]) :=
      ⟨by show 2 ≤ sizeLine; decide, [.int i tk, y], .cons ⟨_, rfl⟩ (.cons ru .nil), ⟨_, hT2, rfl, _, rfl⟩⟩
    have I1 : Inv X pins σ (upd H s.heap.objs.size (.tup [.int (i : Nat), x])) { s with heap := h'', toks := tk + 1 } :=
      I.turnedNew (ch := [e, it]) (fun b ob hb q => (sb.2 b (fun z => hb (by simp [z]))).trans (hk b ob (fun z => hb (by simp [z])) (fun z => hb (by simp [z])) q)) hf (Nat.le_refl _) new
    refine ⟨.ref s.heap.objs.size, _, I1, rfl, ⟨_, x, rfl, I.hok.fresh (Nat.le_refl _), rfl, fun ys hy' => by rw [I.tuple_inj hy' hq]; exact hx⟩, ⟨⟨y, ?_⟩, hst.1.at fun o q => (sb.2 it (Ne.symm hne)).trans q, hne⟩, fun b hb => ?_⟩
    · have e1 : ((i + 1 : Nat) : Int) = (i : Int) + 1 := by omega
      rw [e1]
      exact he'
    · have hb' : b < s.heap.objs.size := by
        have e' : b = e ∨ b = it := by simpa using hb
        rcases e' with rfl | rfl
        · exact hel
        · exact hil
      rw [upd_ne (Nat.ne_of_lt hb')]
      exact (hf b hb).1
  done := by
    intro X hP hw hK hc i pins s σ H E I hf st hg
    subst hP hw hK
    obtain ⟨⟨old, he⟩, hit, hne⟩ := st
    obtain ⟨xs, hq, hx⟩ := hg
    obtain ⟨its, rv, p, hz⟩ := I.tuple hq
    obtain ⟨f0, f1, f2, f3, f4, f5⟩ := hf it (by simp)
    have hl := rv.length
    exact enumT_end (I.ok.hd hc) he hit p (by rw [List.size_toArray]; omega) fun h' eb => ⟨rfl, I.turned (t' := s.toks) (fun b o hb q => eb b o hb q) f0 f1 f3 f4 f5⟩
  self := fun A i s Q E st h => by
    obtain ⟨⟨_, he⟩, _⟩ := st
    exact wpAny_pyIter_enum he h
def iEnumT (K : PySem.W.Frag) (ta : TA) : TI := fun σ H R => ta σ H fun vs H1 => ∃ a xs, vs = [.ref a] ∧ SqT K H1 a xs ∧ R (IteT K a) H1
theorem pi_enumT {X : Cx} {e : Expr} {ta : TA} {p pos tpos : Pos} {elts : List Expr} {kk : Nat} (hg : Gl X "enumerate") (hm : X.mg "enumerate" = none) (ha : PA X [e] ta) (hs : starEach [e] X.env = [(false, eval e X.env)] := by rfl) :
    PI X (.Tuple elts kk tpos) (.Call (.Name "enumerate" p) [e] [] pos) (iEnumT X.K ta) := by
  refine ⟨fun pins s σ H R I h => Call_ (ld_blt I hg hm boot_enumerate (PyProof.Rows.callWith_type1 (thn (ha.run pos pins s σ H _ I h) fun us s1 hh => ?_) hs rfl))⟩
  obtain ⟨vs, H1, I1, r1, a, xs, rfl, hq, q⟩ := hh
  rw [Vals.ref1 r1]
  obtain ⟨its, rv, pt, hz⟩ := I1.tuple hq
  refine call_enum1 (begins_tuple a its.toArray) pt fun h' he hit hk => wpAny_pyIter_enum he ?_
  have I2 : Inv X pins σ H1 { s1 with heap := h' } := I1.kept (t' := s1.toks) hk
  refine ⟨s1.heap.objs.size + 1, [s1.heap.objs.size + 1, s1.heap.objs.size], _, _, H1, rfl, I2, turn_enumT a (s1.heap.objs.size + 1) s1.heap.objs.size, ⟨⟨.none, he⟩, ⟨_, hit, rfl, rfl⟩, Nat.succ_ne_self _⟩, fun b hb => ?_, q⟩
  have e' : b = s1.heap.objs.size + 1 ∨ b = s1.heap.objs.size := by simpa using hb
  have hle : s1.heap.objs.size ≤ b := by
    rcases e' with z | z
    · rw [z]; exact Nat.le_add_right _ _
    · rw [z]; exact Nat.le_refl _
  exact I1.fpOk hle (I1.hok.fresh hle)
theorem walk_enumT {K : PySem.W.Frag} {a : Addr} {xs : List V} : Walk (IteT K a) xs.length (fun H => SqT K H a xs) (YPair (fun i => some (.int (i : Nat))) (fun i => xs[i]?)) := by
  refine ⟨fun i _ hi q => ⟨xs, xs[i], q, by simp [hi]⟩, fun _ q => ⟨xs, q, Nat.le_refl _⟩, fun i H v H' _ q y => ?_⟩
  obtain ⟨T, x, h1, h2, h3, h4⟩ := y
  exact ⟨T, .int (i : Nat), x, h1, h2, h3, rfl, h4 xs q⟩
end Eb

/-! ## own layer: an int on the left of an instance of an own class: int declines, the class's reflected method is asked -/
namespace Eb
open PySem PySem.Spec PySem.W PyProof.Rows
section
variable {prog : Program} {w : World} {A : Around} {E : Value → Shared → Prop} {s : Shared} {K : Frag} {x dx C L f g : Addr} {h₀ : Heap} {m : Str → Option Value} {od : Option Obj}
theorem asInt_ref {M : Model} {Q : Option Int → Shared → Prop} (h : s.heap.get? x = some (instObj C dx)) (q : Q none s) : wpAny M A (asInt? (.ref x)) Q E s := by
  unfold asInt?
  exact wpAny_bind (wpAny_load h (wpAny_pure q))
theorem intBinary_ref {M : Model} {name : String} {g : Int → Int → Sem Fin} {i : Int} {t : Tok} {Q : Fin → Shared → Prop} (hn : slotArgs name 1 ⟨[.int i t, .ref x], []⟩ = pure (.int i t, [.ref x])) (h : s.heap.get? x = some (instObj C dx)) (q : Q (.done (.ret .notImplemented)) s) : wpAny M A (Builtin.Int.intBinary name g false ⟨[.int i t, .ref x], []⟩) Q E s := by
  unfold Builtin.Int.intBinary
  rw [hn]
  refine wpAny_bind (wpAny_pure ?_)
  refine wpAny_bind (m := Builtin.Int.intOfSelf (.int i t)) (wpAny_pure ?_)
  refine wpAny_bind (asInt_ref h ?_)
  refine wpAny_bind (wpAny_rule ?_)
  exact wpAny_pure q
/-- what int says of an operator whose other side is such an instance -/
structure Declines (nm idl : String) : Prop where
  fills : fillsNumberSlot (.type "int") nm = pure true
  slot : Slot "int" (PySem.dunder nm) idl
  no : ∀ (prog : Program) (w : World) (A : Around) (E : Value → Shared → Prop) (s : Shared) (i : Int) (t : Tok) (x C dx : Addr) (Q : Value → Shared → Prop), s.heap.get? x = some (instObj C dx) → Q .notImplemented s → wpAny (model prog w) A (call (.builtin idl) [.int i t, .ref x]) Q E s
theorem declines_mul : Declines "mul" "int.__mul__" where
  fills := PySem.F.fills_int_mul
  slot := PySem.F.slot_int_mul
  no := fun prog w A E s i t x C dx Q h q => by
    refine wpAny_call (codeAny_call_builtin PySem.F.slot_int_mul.plain PySem.F.entry_int_mul (PySem.F.slot_int_mul.check _ _ _ _ _ _ _ _ (typeIs_int s i t) (PySem.F.args_int_mul_2 _ _) ?_))
    unfold Builtin.«int.__mul__»
    exact intBinary_ref rfl h q
theorem declines_add : Declines "add" "int.__add__" where
  fills := PySem.F.fills_int_add
  slot := PySem.F.slot_int_add
  no := fun prog w A E s i t x C dx Q h q => by
    refine wpAny_call (codeAny_call_builtin PySem.F.slot_int_add.plain PySem.F.entry_int_add (PySem.F.slot_int_add.check _ _ _ _ _ _ _ _ (typeIs_int s i t) (PySem.F.args_int_add_2 _ _) ?_))
    unfold Builtin.«int.__add__»
    exact intBinary_ref rfl h q
theorem declines_sub : Declines "sub" "int.__sub__" where
  fills := PySem.F.fills_int_sub
  slot := PySem.F.slot_int_sub
  no := fun prog w A E s i t x C dx Q h q => by
    refine wpAny_call (codeAny_call_builtin PySem.F.slot_int_sub.plain PySem.F.entry_int_sub (PySem.F.slot_int_sub.check _ _ _ _ _ _ _ _ (typeIs_int s i t) (PySem.F.args_int_sub_2 _ _) ?_))
    unfold Builtin.«int.__sub__»
    exact intBinary_ref rfl h q
theorem bin_IR {op : Operator} {idl : String} {i : Int} {t : Tok} {Q : Value → Shared → Prop} (F : Fr h₀ L s.heap m) (X₀ : K.In h₀) (I : PySem.W.InstAt s.heap x (instObj C dx) C od) (hc : selfFirst K C = true) (D : Declines op.info.2 idl)
    (hs : findIn K (.ref C) (PySem.dunder op.info.2) = some (some (.ref g))) (hr : findIn K (.ref C) (dunderR op.info.2) = some (some (.ref f))) (hf : isFn K (.ref f) = true) (hsub : subIn K (.ref C) (.type "int") = some false)
    (h : wpAny (model prog w) A (call (.ref f) [.ref x, .int i t]) (PySem.W.CmpBack Q) E s) : wpAny (model prog w) A (binaryOp op (.int i t) (.ref x)) Q E s := by
  have X := X₀.keeps F.keep
  obtain ⟨cd, rest, hcd, hm⟩ := ksp_first hc
  rcases hi : op.info with ⟨sym, nm'⟩
  rw [hi] at hs hr D
  dsimp only at hs hr D
  have one := ksp_try X I hr hf h
  have at_ := I.at_
  obtain ⟨hh, gg, d, tt, os⟩ := s
  have L1 : Looks (model prog w) hh (typeOf (.int i t)) (.type "int") := Looks.of_pure rfl
  have L2 : Looks (model prog w) hh (typeOf (.ref x)) (.ref C) := I.type
  have L3 : Looks (model prog w) hh (fillsNumberSlot (.type "int") nm') true := Looks.of_pure D.fills
  have L4 : Looks (model prog w) hh (fillsNumberSlot (.ref C) nm') true := fills_K X hcd hm hs
  have L5 : Looks (model prog w) hh (isSubtype (.ref C) (.type "int")) false := looks_subIn X hsub
  have L6 : Looks (model prog w) hh (numberSlotInPython (.type "int") nm') false := Looks.of_pure rfl
  have hne : (Value.type "int" == Value.ref C) = false := Bool.eq_false_iff.mpr fun q => by cases beq_iff_eq.mp q
  simp only [binaryOp, hi]
  refine wpAny_holding (wpAny_bind ?_)
  unfold binaryOp1
  refine wpAny_bind (L1.at (wpAny_bind (L2.at (wpAny_bind (L3.at ?_)))))
  simp only [hne, Bool.false_eq_true, if_false]
  ksp_lk
  refine wpAny_tryMethod_declines (typeIs_int _ i t) D.slot (D.no _ _ _ _ _ _ _ _ _ _ _ at_ ⟨rfl, ?_⟩)
  ksp_lk
  refine wpAny_mono one (fun r s' hr' => ?_) fun _ _ e => e
  obtain ⟨v, rfl, hq⟩ := hr'
  ksp_lk
  exact hq
end
end Eb

/-! ## own layer: x op= y of an own class without in-place methods: as x op y -/
namespace Eb
open PySem PySem.Spec PySem.W PyProof.Rows
section
variable {prog : Program} {w : World} {A : Around} {E : Value → Shared → Prop} {s : Shared} {K : Frag} {x y dx C L f g : Addr} {h₀ : Heap} {m : Str → Option Value} {ox oy : Obj} {od od' : Option Obj}
/-- the class has no such in-place method, nor has object -/
def NoI (K : Frag) (C : Addr) (nm : String) : Prop := (∃ cd, clsIn K C = some cd ∧ cd.mro = [.ref C, .type "object"]) ∧ findIn K (.ref C) (dunderI nm) = some none ∧ findIn K (.type "object") (dunderI nm) = some none
theorem NoI.fills {M : Model} {h : Heap} {nm : String} {add : Bool} (X : K.In h) (n : NoI K C nm) : Looks M h (fillsInplaceSlot (.ref C) nm add) false := by
  obtain ⟨⟨cd, hcd, hm⟩, h1, h2⟩ := n
  intro A Q E s k q
  have Lm : Looks M h (mroOf (.ref C)) cd.mro := (looks_clsIn X hcd).andThen (f := fun cd => pure cd.mro) .now
  have Lm' := Lm.keeps k
  obtain ⟨hh, gg, d, tt, os⟩ := s
  have X' : K.In hh := X.keeps k
  have L1 : Looks M hh (typeLookup (.ref C) (dunderI nm)) none := looks_findIn X' h1
  have L2 : Looks M hh (typeLookup (.type "object") (dunderI nm)) none := looks_findIn X' h2
  unfold fillsInplaceSlot
  refine wpAny_bind (Lm'.at ?_)
  rw [hm, List.anyM_cons, List.anyM_cons]
  repeat lk
  exact q
theorem ip_same {op : Operator} {Q : Value → Shared → Prop} (F : Fr h₀ L s.heap m) (X₀ : K.In h₀) (I : PySem.W.InstAt s.heap x ox C od) (I' : PySem.W.InstAt s.heap y oy C od') (hc : selfFirst K C = true) (n : NoI K C op.info.2)
    (hs : findIn K (.ref C) (PySem.dunder op.info.2) = some (some (.ref f))) (hf : isFn K (.ref f) = true) (h : wpAny (model prog w) A (call (.ref f) [.ref x, .ref y]) (PySem.W.CmpBack Q) E s) : wpAny (model prog w) A (inplaceOp op (.ref x) (.ref y)) Q E s := by
  have X := X₀.keeps F.keep
  obtain ⟨cd, rest, hcd, hm⟩ := ksp_first hc
  have one := ksp_try X I hs hf h
  obtain ⟨hh, gg, d, tt, os⟩ := s
  have L1 : Looks (model prog w) hh (typeOf (.ref x)) (.ref C) := I.type
  have L1' : Looks (model prog w) hh (typeOf (.ref y)) (.ref C) := I'.type
  have L2 : Looks (model prog w) hh (fillsInplaceSlot (.ref C) op.info.2 (op == .Add)) false := n.fills X
  have L3 : Looks (model prog w) hh (fillsNumberSlot (.ref C) op.info.2) true := fills_K X hcd hm hs
  unfold inplaceOp
  refine wpAny_holding ?_
  refine wpAny_bind (L1.at (wpAny_bind (L2.at ?_)))
  simp only [Bool.false_eq_true, if_false]
  refine wpAny_bind ?_
  unfold binaryOp1
  refine wpAny_bind (L1.at (wpAny_bind (L1'.at (wpAny_bind (L3.at ?_)))))
  simp only [beq_self_eq_true, if_true]
  ksp_lk
  refine wpAny_mono one (fun r s' hr' => ?_) fun _ _ e => e
  obtain ⟨v, rfl, hq⟩ := hr'
  ksp_lk
  exact hq
/-- .. an int on the right -/
theorem ip_int {op : Operator} {i : Int} {t : Tok} {fo ro rc : Option Value} {Q : Value → Shared → Prop} (F : Fr h₀ L s.heap m) (X₀ : K.In h₀) (I : PySem.W.InstAt s.heap x ox C od) (hc : selfFirst K C = true) (n : NoI K C op.info.2)
    (hs : findIn K (.ref C) (PySem.dunder op.info.2) = some (some (.ref f))) (hf : isFn K (.ref f) = true) (hr : findIn K (.ref C) (dunderR op.info.2) = some rc) (hp : rc = none ∨ ∃ g : Addr, rc = some (.ref g)) (h1 : findIn K (.type "int") (PySem.dunder op.info.2) = some fo) (h2 : findIn K (.type "int") (dunderR op.info.2) = some ro) (hsub : subIn K (.type "int") (.ref C) = some false)
    (h : wpAny (model prog w) A (call (.ref f) [.ref x, .int i t]) (PySem.W.CmpBack Q) E s) : wpAny (model prog w) A (inplaceOp op (.ref x) (.int i t)) Q E s := by
  have X := X₀.keeps F.keep
  obtain ⟨cd, rest, hcd, hm⟩ := ksp_first hc
  have one := ksp_try X I hs hf h
  obtain ⟨hh, gg, d, tt, os⟩ := s
  have L1 : Looks (model prog w) hh (typeOf (.ref x)) (.ref C) := I.type
  have L1' : Looks (model prog w) hh (typeOf (.int i t)) (.type "int") := Looks.of_pure rfl
  have L2 : Looks (model prog w) hh (fillsInplaceSlot (.ref C) op.info.2 (op == .Add)) false := n.fills X
  have L3 : Looks (model prog w) hh (fillsNumberSlot (.ref C) op.info.2) true := fills_K X hcd hm hs
  have L4 := ksp_fillsT (M := model prog w) (T := "int") X h1 h2
  have L5 : Looks (model prog w) hh (isSubtype (.type "int") (.ref C)) false := looks_subIn X hsub
  have L6 : Looks (model prog w) hh (numberSlotInPython (.ref C) op.info.2) true := ksp_inPy X hs hr hp
  have L7 : Looks (model prog w) hh (numberSlotInPython (.type "int") op.info.2) false := Looks.of_pure rfl
  have L8 : Looks (model prog w) hh (typeLookup (.type "int") (dunderR op.info.2)) ro := looks_findIn X h2
  generalize ((fo.isSome && !isSeqSlot fo) || (ro.isSome && !isSeqSlot ro)) = right at L4
  have hne : (Value.ref C == Value.type "int") = false := Bool.eq_false_iff.mpr fun q => by cases beq_iff_eq.mp q
  unfold inplaceOp
  refine wpAny_holding ?_
  refine wpAny_bind (L1.at (wpAny_bind (L2.at ?_)))
  simp only [Bool.false_eq_true, if_false]
  refine wpAny_bind ?_
  unfold binaryOp1
  refine wpAny_bind (L1.at (wpAny_bind (L1'.at (wpAny_bind (L3.at ?_)))))
  simp only [hne, Bool.false_eq_true, if_false]
  cases right <;>
  · ksp_lk
    refine wpAny_mono one (fun r s' hr' => ?_) fun _ _ e => e
    obtain ⟨v, rfl, hq⟩ := hr'
    ksp_lk
    exact hq
end
end Eb

/-! ## own layer: values without a heap. D: data as trees; Rep: a value stands for a tree; a def's slots as trees; what a reading comes to, without the heap -/
namespace Eb
open PySem PySem.Spec PyProof.Rows L2
/-- data: objects of own classes (by the class's number) hold their fields in the order in which they are first set -/
inductive D where
  | non | bl (b : Bool) | int (i : Int) | str (x : Str) | ty (n : String) | cl (c : Nat)
  | lst (xs : List D) | tup (xs : List D) | obj (c : Nat) (xs : List D)
/-- a law's own classes -/
structure Tb where
  K : PySem.W.Frag
  C : Nat → Addr
  fl : Nat → List Str
  xf : Nat → Str
section
variable (B : Tb) (H : Hp)
mutual
def Rep : D → V → Prop
  | .non, v => v = .non
  | .bl b, v => v = .bl b
  | .int i, v => v = .int i
  | .str x, v => v = .str x
  | .ty n, v => v = .ty n
  | .cl c, v => v = .ref (B.C c)
  | .lst ds, v => ∃ a vs, v = .ref a ∧ H a = some (.lst vs) ∧ RepL ds vs
  | .tup ds, v => ∃ a vs, v = .ref a ∧ SqT B.K H a vs ∧ RepL ds vs
  | .obj c ds, v => ∃ a dx gs, v = .ref a ∧ H a = some (.ins (B.C c) dx gs) ∧ gs.map (·.1) = B.fl c ∧ RepL ds (gs.map (·.2))
def RepL : List D → List V → Prop
  | [], vs => vs = []
  | d :: ds, vs => ∃ v r, vs = v :: r ∧ Rep d v ∧ RepL ds r
end
end
section
variable {B : Tb} {H H' : Hp}
mutual
theorem Rep.mono (s : Same H H') : ∀ (d : D) (v : V), Rep B H d v → Rep B H' d v
  | .non, _, h => h
  | .bl _, _, h => h
  | .int _, _, h => h
  | .str _, _, h => h
  | .ty _, _, h => h
  | .cl _, _, h => h
  | .lst ds, _, ⟨a, vs, e, h, r⟩ => ⟨a, vs, e, s _ _ h, RepL.mono s ds vs r⟩
  | .tup ds, _, ⟨a, vs, e, h, r⟩ => ⟨a, vs, e, Same_seqT s h, RepL.mono s ds vs r⟩
  | .obj _ ds, _, ⟨a, dx, gs, e, h, n, r⟩ => ⟨a, dx, gs, e, s _ _ h, n, RepL.mono s ds _ r⟩
theorem RepL.mono (s : Same H H') : ∀ (ds : List D) (vs : List V), RepL B H ds vs → RepL B H' ds vs
  | [], _, h => h
  | d :: ds, _, ⟨v, r, e, h1, h2⟩ => ⟨v, r, e, Rep.mono s d v h1, RepL.mono s ds r h2⟩
end
theorem Rep.up (s : Same H H') {d : D} {v : V} (h : Rep B H d v) : Rep B H' d v := Rep.mono s d v h
theorem RepL.up (s : Same H H') {d : List D} {v : List V} (h : RepL B H d v) : RepL B H' d v := RepL.mono s d v h
theorem RepL.len : ∀ {ds : List D} {vs : List V}, RepL B H ds vs → vs.length = ds.length
  | [], _, h => by rw [show _ = [] from h]; rfl
  | d :: ds, _, ⟨v, r, e, _, h⟩ => by rw [e, List.length_cons, List.length_cons, RepL.len h]
theorem RepL.get : ∀ {ds : List D} {vs : List V} {i : Nat} {d : D}, RepL B H ds vs → ds[i]? = some d → ∃ v, vs[i]? = some v ∧ Rep B H d v
  | [], _, _, _, _, e => by simp at e
  | d :: ds, _, 0, _, ⟨v, r, ev, h1, _⟩, e => by
    simp at e
    subst e
    exact ⟨v, by rw [ev]; rfl, h1⟩
  | d :: ds, _, i + 1, _, ⟨v, r, ev, _, h2⟩, e => by
    obtain ⟨w, h3, h4⟩ := RepL.get (i := i) h2 (by simpa using e)
    exact ⟨w, by rw [ev]; simpa using h3, h4⟩
theorem RepL.geti : ∀ {ds : List D} {vs : List V} {i : Nat} {v : V}, RepL B H ds vs → vs[i]? = some v → ∃ d, ds[i]? = some d ∧ Rep B H d v
  | [], _, _, _, h, e => by rw [show _ = [] from h] at e; simp at e
  | d :: ds, _, 0, _, ⟨v, r, ev, h1, _⟩, e => by
    rw [ev] at e
    simp at e
    subst e
    exact ⟨d, rfl, h1⟩
  | d :: ds, _, i + 1, _, ⟨v, r, ev, _, h2⟩, e => by
    rw [ev] at e
    obtain ⟨w, h3, h4⟩ := RepL.geti (i := i) h2 (by simpa using e)
    exact ⟨w, by simpa using h3, h4⟩
theorem RepL.app : ∀ {ds es : List D} {vs us : List V}, RepL B H ds vs → RepL B H es us → RepL B H (ds ++ es) (vs ++ us)
  | [], _, _, _, h, h2 => by rw [show _ = [] from h]; exact h2
  | d :: ds, _, _, _, ⟨v, r, e, h1, h2⟩, h3 => by
    subst e
    exact ⟨v, r ++ _, rfl, h1, RepL.app h2 h3⟩
theorem RepL.cons {d : D} {v : V} {ds : List D} {vs : List V} (h : Rep B H d v) (h2 : RepL B H ds vs) : RepL B H (d :: ds) (v :: vs) := ⟨v, vs, rfl, h, h2⟩
theorem RepL.nil : RepL B H [] [] := rfl
theorem RepL.one {d : D} {v : V} (h : Rep B H d v) : RepL B H [d] [v] := ⟨v, [], rfl, h, rfl⟩
theorem RepL.rev {ds : List D} {vs : List V} (h : RepL B H ds vs) : RepL B H ds.reverse vs.reverse := by
  induction ds generalizing vs with
  | nil =>
    rw [show vs = [] from h]
    rfl
  | cons d ds ih =>
    obtain ⟨v, r, rfl, h1, h2⟩ := h
    rw [List.reverse_cons, List.reverse_cons]
    exact (ih h2).app (.one h1)
theorem RepL.set {ds : List D} {vs : List V} {d : D} {v : V} {i : Nat} (h : RepL B H ds vs) (h1 : Rep B H d v) : RepL B H (ds.set i d) (vs.set i v) := by
  induction ds generalizing vs i with
  | nil =>
    rw [show vs = [] from h]
    rfl
  | cons c ds ih =>
    obtain ⟨u, r, rfl, h2, h3⟩ := h
    cases i with
    | zero => exact ⟨v, r, rfl, h1, h3⟩
    | succ i => exact ⟨u, _, rfl, h2, ih h3⟩
theorem RepL.drop {ds : List D} {vs : List V} (n : Nat) (h : RepL B H ds vs) : RepL B H (ds.drop n) (vs.drop n) := by
  induction ds generalizing vs n with
  | nil =>
    rw [show vs = [] from h]
    simp
    rfl
  | cons c ds ih =>
    obtain ⟨u, r, rfl, h2, h3⟩ := h
    cases n with
    | zero => exact ⟨u, r, rfl, h2, h3⟩
    | succ n => exact ih n h3
theorem RepL.take {ds : List D} {vs : List V} (n : Nat) (h : RepL B H ds vs) : RepL B H (ds.take n) (vs.take n) := by
  induction ds generalizing vs n with
  | nil =>
    rw [show vs = [] from h]
    simp
    rfl
  | cons c ds ih =>
    obtain ⟨u, r, rfl, h2, h3⟩ := h
    cases n with
    | zero => rfl
    | succ n => exact ⟨u, _, rfl, h2, ih n h3⟩
theorem RepL.rep {ds : List D} {vs : List V} (n : Nat) (h : RepL B H ds vs) : RepL B H (List.replicate n ds).flatten (List.replicate n vs).flatten := by
  induction n with
  | zero => rfl
  | succ n ih =>
    rw [List.replicate_succ, List.replicate_succ, List.flatten_cons, List.flatten_cons]
    exact h.app ih
theorem RepL.nil_inv {vs : List V} (h : RepL B H [] vs) : vs = [] := h
theorem RepL.cons_inv {d : D} {ds : List D} {vs : List V} (h : RepL B H (d :: ds) vs) : ∃ v r, vs = v :: r ∧ Rep B H d v ∧ RepL B H ds r := h
theorem RepL.ints : ∀ {ns : List Int} {vs : List V}, RepL B H (ns.map D.int) vs → vs = ns.map V.int
  | [], _, h => h
  | n :: ns, _, ⟨v, r, e, h1, h2⟩ => by rw [e, show v = .int n from h1, RepL.ints h2]; rfl
theorem RepL.of_ints : ∀ {ns : List Int}, RepL B H (ns.map D.int) (ns.map V.int)
  | [] => rfl
  | n :: ns => ⟨.int n, ns.map V.int, rfl, rfl, RepL.of_ints⟩
theorem RepL.strs : ∀ {ns : List Str} {vs : List V}, RepL B H (ns.map D.str) vs → vs = ns.map V.str
  | [], _, h => h
  | n :: ns, _, ⟨v, r, e, h1, h2⟩ => by rw [e, show v = .str n from h1, RepL.strs h2]; rfl
theorem RepL.of_strs : ∀ {ns : List Str}, RepL B H (ns.map D.str) (ns.map V.str)
  | [] => rfl
  | n :: ns => ⟨.str n, ns.map V.str, rfl, rfl, RepL.of_strs⟩
theorem RepL.bools : ∀ {ns : List Bool} {vs : List V}, RepL B H (ns.map D.bl) vs → vs = ns.map V.bl
  | [], _, h => h
  | n :: ns, _, ⟨v, r, e, h1, h2⟩ => by rw [e, show v = .bl n from h1, RepL.bools h2]; rfl
end

/-! ### hidden things -/
open Classical in
noncomputable def hid (G : Addr → Prop) (H : Hp) : Hp := fun a => if G a then none else H a
theorem hid_some {G : Addr → Prop} {H : Hp} {a : Addr} {o : HO} : hid G H a = some o ↔ ¬ G a ∧ H a = some o := by
  unfold hid
  by_cases g : G a
  · rw [if_pos g]
    exact ⟨fun h => (nomatch h), fun h => absurd g h.1⟩
  · rw [if_neg g]
    exact ⟨fun h => ⟨g, h⟩, fun h => h.2⟩
theorem hid_same {G : Addr → Prop} {H H' : Hp} (s : Same H H') : Same (hid G H) (hid G H') := fun a o h => by
  rw [hid_some] at h ⊢
  exact ⟨h.1, s _ _ h.2⟩
theorem hid_le {G : Addr → Prop} {H : Hp} : Same (hid G H) H := fun a o h => (hid_some.mp h).2
theorem hid_anti {G G' : Addr → Prop} {H : Hp} (g : ∀ a, G' a → G a) : Same (hid G H) (hid G' H) := fun a o h => by
  rw [hid_some] at h ⊢
  exact ⟨fun z => h.1 (g a z), h.2⟩
theorem hid_grow {G G' : Addr → Prop} {H H' : Hp} (s : ∀ a o, ¬ G a → H a = some o → ¬ G' a ∧ H' a = some o) : Same (hid G H) (hid G' H') := fun a o h => by
  rw [hid_some] at h ⊢
  exact s a o h.1 h.2

/-! ### a def's state -/
/-- Z: what the callers hide; M: what was there and may be changed here (the source of draws, self); H0: the heap at the entry; dl: the source of draws -/
structure Lx where
  B : Tb
  Z : Addr → Prop
  M : Addr → Prop
  H0 : Hp
  dl : Option (Addr × Addr)
/-- an own error: its class, what its one field holds -/
structure DX where
  c : Nat
  p : Option D
def RepX (B : Tb) (H : Hp) (x : DX) (cv : Value) (od : Option Addr) : Prop := cv = .ref (B.C x.c) ∧ match x.p with
  | none => od = none
  | some d => ∃ a v, od = some a ∧ H a = some (.xd [(B.xf x.c, v)]) ∧ Rep B H d v
theorem RepX.up {B : Tb} {H H' : Hp} {x : DX} {cv : Value} {od : Option Addr} (s : Same H H') (h : RepX B H x cv od) : RepX B H' x cv od := by
  obtain ⟨h1, h2⟩ := h
  refine ⟨h1, ?_⟩
  split
  · rename_i e
    rw [e] at h2
    exact h2
  · rename_i d e
    rw [e] at h2
    obtain ⟨a, v, z1, z2, z3⟩ := h2
    exact ⟨a, v, z1, s _ _ z2, z3.up s⟩
/-- a slot: not known; a value; an own list that may change; self, being made; the source of draws; a caught error -/
inductive Sl where
  | un | va (d : D) | ow (ds : List D) | se (c : Nat) (ds : List D) | dl | er (a : Addr) (cls : Value) (od : Option Addr) (x : DX)
abbrev Ow := Nat → Option Addr
def wput (W : Ow) (i : Nat) (o : Option Addr) : Ow := fun j => if j = i then o else W j
theorem wput_same {W : Ow} {i j : Nat} {o : Option Addr} (h : j = i) : wput W i o j = o := by unfold wput; rw [if_pos h]
theorem wput_ne {W : Ow} {i j : Nat} {o : Option Addr} (h : ¬ j = i) : wput W i o j = W j := by unfold wput; rw [if_neg h]
def Lx.G (Λ : Lx) (W : Ow) (a : Addr) : Prop := Λ.Z a ∨ Λ.M a ∨ ∃ i, W i = some a
noncomputable def Lx.vis (Λ : Lx) (W : Ow) (H : Hp) : Hp := hid (Λ.G W) H
/-- all but the own lists of this def -/
noncomputable def Lx.out (Λ : Lx) (H : Hp) : Hp := hid (fun a => Λ.Z a ∨ Λ.M a) H
def SlOk (Λ : Lx) (W : Ow) (σ : L2.St) (H : Hp) (i : Nat) : Sl → Prop
  | .un => True
  | .va d => ∃ v, σ[i]? = some (some v) ∧ Rep Λ.B (Λ.vis W H) d v
  | .ow ds => ∃ p vs, W i = some p ∧ σ[i]? = some (some (.ref p)) ∧ H p = some (.lst vs) ∧ RepL Λ.B (Λ.vis W H) ds vs ∧ ¬ Λ.M p
  | .se c ds => ∃ p dx gs, W i = some p ∧ σ[i]? = some (some (.ref p)) ∧ H p = some (.ins (Λ.B.C c) dx gs) ∧ (gs.map (·.1) = (Λ.B.fl c).take ds.length ∧ Λ.M p) ∧ RepL Λ.B (Λ.vis W H) ds (gs.map (·.2))
  | .dl => ∃ d l, Λ.dl = some (d, l) ∧ σ[i]? = some (some (.ref d))
  | .er a cls od x => σ[i]? = some (some (.ref a)) ∧ RepX Λ.B (Λ.vis W H) x cls od
structure StOk (Λ : Lx) (env : List Sl) (W : Ow) (σ : L2.St) (H : Hp) : Prop where
  len : σ.length = env.length
  sl : ∀ i s, env[i]? = some s → SlOk Λ W σ H i s
  fr : ∀ a o, ¬ Λ.M a → Λ.H0 a = some o → H a = some o
  mx : ∀ a, Λ.M a → H a ≠ none
  zx : ∀ a, Λ.Z a → H a ≠ none
  wx : ∀ i p, W i = some p → H p ≠ none ∧ ¬ Λ.Z p ∧ (Λ.H0 p = none ∨ Λ.M p)
  wi : ∀ i j p, W i = some p → W j = some p → i = j
  dl : ∀ d l, Λ.dl = some (d, l) → Deal H d l ∧ Λ.M d ∧ Λ.M l ∧ ∀ i, W i ≠ some d ∧ W i ≠ some l
  wf : ∃ n, ∀ m, n ≤ m → W m = none
section
variable {Λ : Lx} {env : List Sl} {W : Ow} {σ : L2.St} {H H' : Hp}
theorem StOk.fresh (S : StOk Λ env W σ H) {p : Addr} (h : H p = none) : ¬ Λ.G W p := by
  rintro (z | z | ⟨i, z⟩)
  · exact S.zx _ z h
  · exact S.mx _ z h
  · exact (S.wx _ _ z).1 h
theorem StOk.fresh0 (S : StOk Λ env W σ H) {p : Addr} (h : H p = none) : Λ.H0 p = none := by
  cases q : Λ.H0 p with
  | none => rfl
  | some o =>
    by_cases m : Λ.M p
    · exact absurd h (S.mx _ m)
    · rw [S.fr p o m q] at h
      cases h
theorem SlOk.mono {s : Sl} {i : Nat} (e : Same (Λ.vis W H) (Λ.vis W H')) (k : ∀ p o, W i = some p → H p = some o → H' p = some o) (h : SlOk Λ W σ H i s) : SlOk Λ W σ H' i s := by
  cases s with
  | un => trivial
  | va d =>
    obtain ⟨v, h1, h2⟩ := h
    exact ⟨v, h1, h2.up e⟩
  | ow ds =>
    obtain ⟨p, vs, h0, h1, h2, h3, h4⟩ := h
    exact ⟨p, vs, h0, h1, k _ _ h0 h2, h3.up e, h4⟩
  | se c ds =>
    obtain ⟨p, dx, gs, h0, h1, h2, h3, h4⟩ := h
    exact ⟨p, dx, gs, h0, h1, k _ _ h0 h2, h3, h4.up e⟩
  | dl => exact h
  | er a cls od dx => obtain ⟨z1, z2⟩ := h; exact ⟨z1, z2.up e⟩
theorem some_mono {H H' : Hp} {a : Addr} (s : Same H H') (h : H a ≠ none) : H' a ≠ none := by
  cases q : H a with
  | none => exact absurd q h
  | some o => rw [s _ _ q]; simp
theorem StOk.grow (S : StOk Λ env W σ H) (s : Same H H') : StOk Λ env W σ H' where
  len := S.len
  sl := fun i x e => (S.sl i x e).mono (hid_same s) fun p o _ h => s _ _ h
  fr := fun a o m h => s _ _ (S.fr a o m h)
  mx := fun a m => some_mono s (S.mx a m)
  zx := fun a m => some_mono s (S.zx a m)
  wx := fun i p e => ⟨some_mono s (S.wx i p e).1, (S.wx i p e).2⟩
  wi := S.wi
  dl := fun d l e => ⟨(S.dl d l e).1.same s, (S.dl d l e).2⟩
  wf := S.wf
theorem vis_same (s : Same H H') : Same (Λ.vis W H) (Λ.vis W H') := hid_same s
/-- an expression's step -/
structure Ev (Λ : Lx) (W : Ow) (H H' : Hp) : Prop where
  vis : Same (Λ.vis W H) (Λ.vis W H')
  own : ∀ i p o, W i = some p → H p = some o → H' p = some o
  all : ∀ a, H a ≠ none → H' a ≠ none
theorem Ev.refl : Ev Λ W H H := ⟨fun _ _ h => h, fun _ _ _ _ h => h, fun _ h => h⟩
theorem Ev.trans {H1 H2 : Hp} (a : Ev Λ W H H1) (b : Ev Λ W H1 H2) : Ev Λ W H H2 := ⟨a.vis.trans b.vis, fun i p o w h => b.own i p o w (a.own i p o w h), fun c h => b.all c (a.all c h)⟩
theorem Ev.of (s : Same H H') : Ev Λ W H H' := ⟨hid_same s, fun _ _ _ _ h => s _ _ h, fun _ h => some_mono s h⟩
theorem Ev.free (e : Ev Λ W H H') {p : Addr} (h : H' p = none) : H p = none := by
  cases q : H p with
  | none => rfl
  | some o => exact absurd h (e.all p (by rw [q]; simp))
/-- behind a draw -/
theorem StOk.drew (S : StOk Λ env W σ H) {d l : Addr} (e : Λ.dl = some (d, l)) (w : Drew d l H H') : StOk Λ env W σ H' ∧ Ev Λ W H H' := by
  obtain ⟨D0, md, ml, nw⟩ := S.dl d l e
  have nin : ∀ a, ¬ Λ.M a → a ∉ [d, l] := fun a m z => by
    rcases List.mem_cons.mp z with q | z
    · subst q; exact m md
    · rw [List.mem_singleton.mp z] at m; exact m ml
  have wn : ∀ i p, W i = some p → p ∉ [d, l] := fun i p q z => by
    rcases List.mem_cons.mp z with r | z
    · rw [r] at q; exact (nw i).1 q
    · rw [List.mem_singleton.mp z] at q; exact (nw i).2 q
  have sm : Same (Λ.vis W H) (Λ.vis W H') := hid_grow fun a o g h => ⟨g, w.grow a o (nin a fun m => g (.inr (.inl m))) h⟩
  have st : ∀ a, H a ≠ none → H' a ≠ none := fun a h => by
    by_cases z : a ∈ [d, l]
    · exact w.deal.none a z
    · cases q : H a with
      | none => exact absurd q h
      | some o => rw [w.grow a o z q]; simp
  refine ⟨⟨S.len, fun i x q => (S.sl i x q).mono sm fun p o q2 h => w.grow p o (wn i p q2) h, fun a o m h => w.grow a o (nin a m) (S.fr a o m h), fun a m => st a (S.mx a m), fun a m => st a (S.zx a m), fun i p q => ⟨st p (S.wx i p q).1, (S.wx i p q).2⟩, S.wi, fun d' l' q => ?_, S.wf⟩, sm, fun i p o q h => w.grow p o (wn i p q) h, st⟩
  rw [e] at q
  cases q
  exact ⟨w.deal, md, ml, nw⟩
theorem wput_fin {i : Nat} {o : Option Addr} (h : ∃ n, ∀ m, n ≤ m → W m = none) : ∃ n, ∀ m, n ≤ m → wput W i o m = none := by
  obtain ⟨n, h⟩ := h
  exact ⟨n + i + 1, fun m hm => by rw [wput_ne (by omega)]; exact h m (by omega)⟩
/-- a slot is given a value -/
theorem vis_drop {i : Nat} : Same (Λ.vis W H) (Λ.vis (wput W i none) H) := hid_anti fun a g => by
  rcases g with z | z | ⟨j, z⟩
  · exact .inl z
  · exact .inr (.inl z)
  · refine .inr (.inr ⟨j, ?_⟩)
    by_cases q : j = i
    · rw [wput_same q] at z; cases z
    · rw [wput_ne q] at z; exact z
theorem StOk.putD (S : StOk Λ env W σ H) {i : Nat} {d : D} {v : V} (r : Rep Λ.B (Λ.vis W H) d v) :
    StOk Λ (env.set i (.va d)) (wput W i none) (σ.set i (some v)) H where
  len := by rw [List.length_set, List.length_set]; exact S.len
  sl := fun j x e => by
    by_cases q : j = i
    · subst q
      have hj : j < env.length := by
        have := (List.getElem?_eq_some_iff.mp e).1
        rwa [List.length_set] at this
      rw [List.getElem?_set_self hj] at e
      cases e
      exact ⟨v, List.getElem?_set_self (by rw [S.len]; exact hj), r.up vis_drop⟩
    · rw [List.getElem?_set_ne (Ne.symm q)] at e
      have z := S.sl j x e
      cases x with
      | un => trivial
      | va d =>
        obtain ⟨v, h1, h2⟩ := z
        exact ⟨v, by rw [List.getElem?_set_ne (Ne.symm q)]; exact h1, h2.up vis_drop⟩
      | ow ds =>
        obtain ⟨p, vs, h0, h1, h2, h3, h4⟩ := z
        exact ⟨p, vs, by rw [wput_ne q]; exact h0, by rw [List.getElem?_set_ne (Ne.symm q)]; exact h1, h2, h3.up vis_drop, h4⟩
      | se c ds =>
        obtain ⟨p, dx, gs, h0, h1, h2, h3, h4⟩ := z
        exact ⟨p, dx, gs, by rw [wput_ne q]; exact h0, by rw [List.getElem?_set_ne (Ne.symm q)]; exact h1, h2, h3, h4.up vis_drop⟩
      | dl =>
        obtain ⟨d, l, h0, h1⟩ := z
        exact ⟨d, l, h0, by rw [List.getElem?_set_ne (Ne.symm q)]; exact h1⟩
      | er a cls od dx => obtain ⟨z1, z2⟩ := z; exact ⟨by rw [List.getElem?_set_ne (Ne.symm q)]; exact z1, z2.up vis_drop⟩
  fr := S.fr
  mx := S.mx
  zx := S.zx
  wx := fun j p e => by
    by_cases q : j = i
    · rw [wput_same q] at e; cases e
    · rw [wput_ne q] at e; exact S.wx j p e
  wi := fun j k p e1 e2 => by
    by_cases q : j = i
    · rw [wput_same q] at e1; cases e1
    · rw [wput_ne q] at e1
      by_cases q2 : k = i
      · rw [wput_same q2] at e2; cases e2
      · rw [wput_ne q2] at e2; exact S.wi j k p e1 e2
  dl := fun d l e => by
    obtain ⟨D0, md, ml, nw⟩ := S.dl d l e
    refine ⟨D0, md, ml, fun j => ?_⟩
    by_cases q : j = i
    · rw [wput_same q]; exact ⟨by simp, by simp⟩
    · rw [wput_ne q]; exact nw j
  wf := wput_fin S.wf
/-- .. what it owned before stays hidden -/
theorem StOk.put (S : StOk Λ env W σ H) {i : Nat} {d : D} {v : V} (r : Rep Λ.B (Λ.vis W H) d v) : StOk Λ (env.set i (.va d)) W (σ.set i (some v)) H where
  len := by rw [List.length_set, List.length_set]; exact S.len
  sl := fun j x e => by
    by_cases q : j = i
    · subst q
      have hj : j < env.length := by
        have := (List.getElem?_eq_some_iff.mp e).1
        rwa [List.length_set] at this
      rw [List.getElem?_set_self hj] at e
      cases e
      exact ⟨v, List.getElem?_set_self (by rw [S.len]; exact hj), r⟩
    · rw [List.getElem?_set_ne (Ne.symm q)] at e
      have z := S.sl j x e
      have eq : (σ.set i (some v))[j]? = σ[j]? := List.getElem?_set_ne (Ne.symm q)
      cases x with
      | un => trivial
      | va d =>
        obtain ⟨v, h1, h2⟩ := z
        exact ⟨v, by rw [eq]; exact h1, h2⟩
      | ow ds =>
        obtain ⟨p, vs, h0, h1, h2⟩ := z
        exact ⟨p, vs, h0, by rw [eq]; exact h1, h2⟩
      | se c ds =>
        obtain ⟨p, dx, gs, h0, h1, h2⟩ := z
        exact ⟨p, dx, gs, h0, by rw [eq]; exact h1, h2⟩
      | dl =>
        obtain ⟨d, l, h0, h1⟩ := z
        exact ⟨d, l, h0, by rw [eq]; exact h1⟩
      | er a cls od dx => obtain ⟨z1, z2⟩ := z; exact ⟨by rw [eq]; exact z1, z2⟩
  fr := S.fr
  mx := S.mx
  zx := S.zx
  wx := S.wx
  wi := S.wi
  dl := S.dl
  wf := S.wf
/-- other slots at a later heap -/
theorem StOk.ev {env2 : List Sl} {σ2 : L2.St} (S : StOk Λ env W σ H) (S2 : StOk Λ env2 W σ2 H') (e : Ev Λ W H H') : StOk Λ env W σ H' :=
  ⟨S.len, fun i x h => (S.sl i x h).mono e.vis fun p o hw h2 => e.own i p o hw h2, S2.fr, S2.mx, S2.zx, S2.wx, S2.wi, S2.dl, S2.wf⟩
/-- a hidden thing beyond the slots changes -/
theorem StOk.mutV (S : StOk Λ env W σ H) {n : Nat} {p : Addr} {o : HO} (hw : W n = some p) (hn : env.length ≤ n) (hm : ¬ Λ.M p) : StOk Λ env W σ (upd H p o) := by
  have v1 : Same (Λ.vis W H) (Λ.vis W (upd H p o)) := hid_grow fun a u g ha => ⟨g, by rw [upd_ne (show a ≠ p from fun z => g (.inr (.inr ⟨n, by rw [z]; exact hw⟩)))]; exact ha⟩
  have st : ∀ a, H a ≠ none → upd H p o a ≠ none := fun a h => by
    by_cases z : a = p
    · rw [z, upd_same]; simp
    · rw [upd_ne z]; exact h
  refine ⟨S.len, fun j x ej => (S.sl j x ej).mono v1 fun p' o' hj h => ?_, fun a u m h0 => ?_, fun a m => st a (S.mx a m), fun a m => st a (S.zx a m), fun j q ej => ⟨st q (S.wx j q ej).1, (S.wx j q ej).2⟩, S.wi, fun d l ed => ?_, S.wf⟩
  · have hj2 : j < env.length := (List.getElem?_eq_some_iff.mp ej).1
    rw [upd_ne (show p' ≠ p from fun z => by have := S.wi j n p (by rw [← z]; exact hj) hw; omega)]
    exact h
  · have := S.fr a u m h0
    have n : a ≠ p := fun z => by
      subst z
      rcases (S.wx n a hw).2.2 with q | q
      · rw [q] at h0; cases h0
      · exact m q
    rw [upd_ne n]
    exact this
  · obtain ⟨D0, md, ml, nw⟩ := S.dl d l ed
    refine ⟨D0.upd fun z => ?_, md, ml, nw⟩
    rcases List.mem_cons.mp z with q | z
    · rw [q] at hw; exact (nw n).1 hw
    · rw [List.mem_singleton.mp z] at hw; exact (nw n).2 hw
/-- .. is shown again -/
theorem StOk.show_ {W2 : Ow} (S : StOk Λ env W2 σ H) {n : Nat} (hn : env.length ≤ n) (hW : ∀ j, j ≠ n → W j = W2 j) (hWn : W n = none) : StOk Λ env W σ H := by
  have g : ∀ a, Λ.G W a → Λ.G W2 a := fun a g => by
    rcases g with z | z | ⟨j, z⟩
    · exact .inl z
    · exact .inr (.inl z)
    · by_cases q : j = n
      · rw [q, hWn] at z; cases z
      · exact .inr (.inr ⟨j, by rw [← hW j q]; exact z⟩)
  have v : Same (Λ.vis W2 H) (Λ.vis W H) := hid_anti g
  have nw : ∀ j p, W j = some p → W2 j = some p := fun j p e => by
    by_cases q : j = n
    · rw [q, hWn] at e; cases e
    · rw [← hW j q]; exact e
  refine ⟨S.len, fun j x ej => ?_, S.fr, S.mx, S.zx, fun j p e => S.wx j p (nw j p e), fun i j p e1 e2 => S.wi i j p (nw i p e1) (nw j p e2), fun d l ed => ?_, ?_⟩
  · have hj : j ≠ n := by have := (List.getElem?_eq_some_iff.mp ej).1; omega
    have z := S.sl j x ej
    cases x with
    | un => trivial
    | va d =>
      obtain ⟨v', h1, h2⟩ := z
      exact ⟨v', h1, h2.up v⟩
    | ow ds =>
      obtain ⟨p, vs, h0, h1, h2, h3, h4⟩ := z
      exact ⟨p, vs, by rw [hW j hj]; exact h0, h1, h2, h3.up v, h4⟩
    | se c ds =>
      obtain ⟨p, dx, gs, h0, h1, h2, h3, h4⟩ := z
      exact ⟨p, dx, gs, by rw [hW j hj]; exact h0, h1, h2, h3, h4.up v⟩
    | dl => exact z
    | er a cls od dx => obtain ⟨z1, z2⟩ := z; exact ⟨z1, z2.up v⟩
  · obtain ⟨D0, md, ml, nw2⟩ := S.dl d l ed
    exact ⟨D0, md, ml, fun j => ⟨fun z => (nw2 j).1 (nw j d z), fun z => (nw2 j).2 (nw j l z)⟩⟩
  · obtain ⟨m, hm⟩ := S.wf
    refine ⟨m, fun j hj => ?_⟩
    by_cases q : j = n
    · rw [q]; exact hWn
    · rw [hW j q]; exact hm j hj
/-- forgetting a slot -/
theorem StOk.forget (S : StOk Λ env W σ H) {i : Nat} : StOk Λ (env.set i .un) W (σ.set i none) H where
  len := by rw [List.length_set, List.length_set]; exact S.len
  sl := fun j x e => by
    by_cases q : j = i
    · subst q
      have hj : j < env.length := by
        have := (List.getElem?_eq_some_iff.mp e).1
        rwa [List.length_set] at this
      rw [List.getElem?_set_self hj] at e
      cases e
      trivial
    · rw [List.getElem?_set_ne (Ne.symm q)] at e
      have z := S.sl j x e
      cases x with
      | un => trivial
      | va d =>
        obtain ⟨v, h1, h2⟩ := z
        exact ⟨v, by rw [List.getElem?_set_ne (Ne.symm q)]; exact h1, h2⟩
      | ow ds =>
        obtain ⟨p, vs, h0, h1, h2, h3, h4⟩ := z
        exact ⟨p, vs, h0, by rw [List.getElem?_set_ne (Ne.symm q)]; exact h1, h2, h3, h4⟩
      | se c ds =>
        obtain ⟨p, dx, gs, h0, h1, h2, h3, h4⟩ := z
        exact ⟨p, dx, gs, h0, by rw [List.getElem?_set_ne (Ne.symm q)]; exact h1, h2, h3, h4⟩
      | dl =>
        obtain ⟨d, l, h0, h1⟩ := z
        exact ⟨d, l, h0, by rw [List.getElem?_set_ne (Ne.symm q)]; exact h1⟩
      | er a cls od dx => obtain ⟨z1, z2⟩ := z; exact ⟨by rw [List.getElem?_set_ne (Ne.symm q)]; exact z1, z2⟩
  fr := S.fr
  mx := S.mx
  zx := S.zx
  wx := S.wx
  wi := S.wi
  dl := S.dl
  wf := S.wf
/-- a slot is given a new list that is its own -/
theorem StOk.hide (S : StOk Λ env W σ H) (S' : StOk Λ env W σ H') (e : Ev Λ W H H') {i : Nat} {p : Addr} (hp : H p = none) (h' : H' p ≠ none) (hi : env.length ≤ i ∧ W i = none ∨ i < env.length) :
    StOk Λ (env.set i .un) (wput W i (some p)) σ H' ∧ Same (Λ.vis W H) (Λ.vis (wput W i (some p)) H') ∧ Same (hid (fun a => a = p) (Λ.vis W H')) (Λ.vis (wput W i (some p)) H') := by
  have G1 : ∀ a, Λ.G (wput W i (some p)) a → a ≠ p → Λ.G W a := fun a g n => by
    rcases g with z | z | ⟨j, z⟩
    · exact .inl z
    · exact .inr (.inl z)
    · refine .inr (.inr ⟨j, ?_⟩)
      by_cases q : j = i
      · rw [wput_same q] at z; cases z; exact absurd rfl n
      · rw [wput_ne q] at z; exact z
  have nW : ∀ j, W j ≠ some p := fun j z => (S.wx j p z).1 hp
  have v1 : Same (Λ.vis W H) (Λ.vis (wput W i (some p)) H') := fun a o ha => by
    have n : a ≠ p := ne_of_none (hid_some.mp ha).2 hp
    obtain ⟨g, h2⟩ := hid_some.mp (e.vis a o ha)
    exact hid_some.mpr ⟨fun g' => g (G1 a g' n), h2⟩
  have v2 : Same (hid (fun a => a = p) (Λ.vis W H')) (Λ.vis (wput W i (some p)) H') := fun a o ha => by
    obtain ⟨n, ha⟩ := hid_some.mp ha
    obtain ⟨g, ha⟩ := hid_some.mp ha
    exact hid_some.mpr ⟨fun g' => g (G1 a g' n), ha⟩
  have hpp : ¬ Λ.G W p := S.fresh hp
  refine ⟨⟨by rw [List.length_set]; exact S.len, fun j x ej => ?_, S'.fr, S'.mx, S'.zx, fun j q ej => ?_, fun j k q e1 e2 => ?_, fun d l ed => ?_, wput_fin S.wf⟩, v1, v2⟩
  · by_cases q : j = i
    · subst q
      have hj : j < env.length := by
        have := (List.getElem?_eq_some_iff.mp ej).1
        rwa [List.length_set] at this
      rw [List.getElem?_set_self hj] at ej
      cases ej
      trivial
    · rw [List.getElem?_set_ne (Ne.symm q)] at ej
      have z := S.sl j x ej
      cases x with
      | un => trivial
      | va d =>
        obtain ⟨v, h1, h2⟩ := z
        exact ⟨v, h1, h2.up v1⟩
      | ow ds =>
        obtain ⟨p, vs, h0, h1, h2, h3, h4⟩ := z
        exact ⟨p, vs, by rw [wput_ne q]; exact h0, h1, e.own _ _ _ h0 h2, h3.up v1, h4⟩
      | se c ds =>
        obtain ⟨p, dx, gs, h0, h1, h2, h3, h4⟩ := z
        exact ⟨p, dx, gs, by rw [wput_ne q]; exact h0, h1, e.own _ _ _ h0 h2, h3, h4.up v1⟩
      | dl => exact z
      | er a cls od dx => obtain ⟨z1, z2⟩ := z; exact ⟨z1, z2.up v1⟩
  · by_cases z : j = i
    · rw [wput_same z] at ej
      cases ej
      exact ⟨h', fun z => hpp (.inl z), .inl (S.fresh0 hp)⟩
    · rw [wput_ne z] at ej
      exact S'.wx j q ej
  · by_cases z : j = i
    · rw [wput_same z] at e1
      cases e1
      by_cases z2 : k = i
      · rw [z, z2]
      · rw [wput_ne z2] at e2
        exact absurd e2 (nW k)
    · rw [wput_ne z] at e1
      by_cases z2 : k = i
      · rw [wput_same z2] at e2
        cases e2
        exact absurd e1 (nW j)
      · rw [wput_ne z2] at e2
        exact S.wi j k q e1 e2
  · obtain ⟨D0, md, ml, nw⟩ := S.dl d l ed
    refine ⟨(S'.dl d l ed).1, md, ml, fun j => ?_⟩
    by_cases q : j = i
    · rw [wput_same q]
      obtain ⟨hd, hl⟩ : H d ≠ none ∧ H l ≠ none := ⟨D0.none d (by simp), D0.none l (by simp)⟩
      exact ⟨fun z => by cases z; exact hd hp, fun z => by cases z; exact hl hp⟩
    · rw [wput_ne q]
      exact nw j
theorem StOk.putOwn (S : StOk Λ env W σ H) (S' : StOk Λ env W σ H') (e : Ev Λ W H H') {i : Nat} {p : Addr} {ds : List D} {vs : List V} (hp : H p = none) (h : H' p = some (.lst vs)) (r : RepL Λ.B (hid (fun a => a = p) (Λ.vis W H')) ds vs) (hi : i < env.length) :
    StOk Λ (env.set i (.ow ds)) (wput W i (some p)) (σ.set i (some (.ref p))) H' ∧ Same (Λ.vis W H) (Λ.vis (wput W i (some p)) H') := by
  obtain ⟨S2, v1, v2⟩ := S.hide S' e (i := i) hp (by rw [h]; simp) (.inr hi)
  have hpp : ¬ Λ.G W p := S.fresh hp
  refine ⟨⟨by rw [List.length_set, List.length_set]; exact S.len, fun j x ej => ?_, S2.fr, S2.mx, S2.zx, S2.wx, S2.wi, S2.dl, S2.wf⟩, v1⟩
  by_cases q : j = i
  · subst q
    rw [List.getElem?_set_self hi] at ej
    cases ej
    exact ⟨p, vs, wput_same rfl, List.getElem?_set_self (by rw [S.len]; exact hi), h, r.up v2, fun z => hpp (.inr (.inl z))⟩
  · rw [List.getElem?_set_ne (Ne.symm q)] at ej
    have z := S2.sl j x (by rw [List.getElem?_set_ne (Ne.symm q)]; exact ej)
    have eq : (σ.set i (some (V.ref p)))[j]? = σ[j]? := List.getElem?_set_ne (Ne.symm q)
    cases x with
    | un => trivial
    | va d =>
      obtain ⟨v, h1, h2⟩ := z
      exact ⟨v, by rw [eq]; exact h1, h2⟩
    | ow ds =>
      obtain ⟨p, vs, h0, h1, h2, h3⟩ := z
      exact ⟨p, vs, h0, by rw [eq]; exact h1, h2, h3⟩
    | se c ds =>
      obtain ⟨p, dx, gs, h0, h1, h2, h3⟩ := z
      exact ⟨p, dx, gs, h0, by rw [eq]; exact h1, h2, h3⟩
    | dl =>
      obtain ⟨d, l, h0, h1⟩ := z
      exact ⟨d, l, h0, by rw [eq]; exact h1⟩
    | er a cls od dx => obtain ⟨z1, z2⟩ := z; exact ⟨by rw [eq]; exact z1, z2⟩
/-- an own thing changes -/
theorem StOk.mut (S : StOk Λ env W σ H) {i : Nat} {p : Addr} {o : HO} {s : Sl} (hw : W i = some p) (hs : SlOk Λ W σ (upd H p o) i s) (hsz : i < env.length) :
    StOk Λ (env.set i s) W σ (upd H p o) ∧ Same (Λ.vis W H) (Λ.vis W (upd H p o)) := by
  have v1 : Same (Λ.vis W H) (Λ.vis W (upd H p o)) := hid_grow fun a u g ha => ⟨g, by rw [upd_ne (show a ≠ p from fun z => g (.inr (.inr ⟨i, by rw [z]; exact hw⟩)))]; exact ha⟩
  have st : ∀ a, H a ≠ none → upd H p o a ≠ none := fun a h => by
    by_cases z : a = p
    · rw [z, upd_same]; simp
    · rw [upd_ne z]; exact h
  refine ⟨⟨by rw [List.length_set]; exact S.len, fun j x ej => ?_, fun a u m h0 => ?_, fun a m => st a (S.mx a m), fun a m => st a (S.zx a m), fun j q ej => ⟨st q (S.wx j q ej).1, (S.wx j q ej).2⟩, S.wi, fun d l ed => ?_, S.wf⟩, v1⟩
  · by_cases q : j = i
    · subst q
      rw [List.getElem?_set_self hsz] at ej
      cases ej
      exact hs
    · rw [List.getElem?_set_ne (Ne.symm q)] at ej
      refine (S.sl j x ej).mono v1 fun p' o' hj h => ?_
      rw [upd_ne (show p' ≠ p from fun z => q (S.wi j i p (by rw [← z]; exact hj) hw))]
      exact h
  · have := S.fr a u m h0
    have n : a ≠ p := fun z => by
      subst z
      rcases (S.wx i a hw).2.2 with q | q
      · rw [q] at h0; cases h0
      · exact m q
    rw [upd_ne n]
    exact this
  · obtain ⟨D0, md, ml, nw⟩ := S.dl d l ed
    refine ⟨D0.upd fun z => ?_, md, ml, nw⟩
    rcases List.mem_cons.mp z with q | z
    · rw [q] at hw; exact (nw i).1 hw
    · rw [List.mem_singleton.mp z] at hw; exact (nw i).2 hw
/-- an own list stands still from now on -/
theorem StOk.freeze (S : StOk Λ env W σ H) {i : Nat} {ds : List D} (h : env[i]? = some (.ow ds)) :
    StOk Λ (env.set i (.va (.lst ds))) (wput W i none) σ H ∧ Same (Λ.vis W H) (Λ.vis (wput W i none) H) := by
  obtain ⟨p, vs, h0, h1, h2, h3, h4⟩ := S.sl i _ h
  have nG : ¬ Λ.G (wput W i none) p := by
    rintro (z | z | ⟨j, z⟩)
    · exact (S.wx i p h0).2.1 z
    · exact h4 z
    · by_cases q : j = i
      · rw [wput_same q] at z; cases z
      · rw [wput_ne q] at z; exact q (S.wi j i p z h0)
  have es : σ.set i (some (.ref p)) = σ := by
    obtain ⟨hi, e⟩ := List.getElem?_eq_some_iff.mp h1
    rw [← e, List.set_getElem_self]
  have S1 : StOk Λ env (wput W i none) σ H → True := fun _ => trivial
  -- put asks for the value ahead of the drop: by hand
  have S2 := S.putD (i := i) (d := .non) (v := .non) rfl
  refine ⟨⟨by rw [List.length_set]; exact S.len, fun j x e => ?_, S.fr, S.mx, S.zx, S2.wx, S2.wi, S2.dl, S2.wf⟩, vis_drop⟩
  by_cases q : j = i
  · subst q
    rw [List.getElem?_set_self (List.getElem?_eq_some_iff.mp h).1] at e
    cases e
    exact ⟨.ref p, h1, p, vs, rfl, hid_some.mpr ⟨nG, h2⟩, h3.up vis_drop⟩
  · rw [List.getElem?_set_ne (Ne.symm q)] at e
    have z := S2.sl j x (by rw [List.getElem?_set_ne (Ne.symm q)]; exact e)
    have eq : (σ.set i (some V.non))[j]? = σ[j]? := List.getElem?_set_ne (Ne.symm q)
    cases x with
    | un => trivial
    | va d =>
      obtain ⟨v, h1, h2⟩ := z
      exact ⟨v, by rw [← eq]; exact h1, h2⟩
    | ow ds =>
      obtain ⟨p, vs, h0, h1, h2, h3⟩ := z
      exact ⟨p, vs, h0, by rw [← eq]; exact h1, h2, h3⟩
    | se c ds =>
      obtain ⟨p, dx, gs, h0, h1, h2, h3⟩ := z
      exact ⟨p, dx, gs, h0, by rw [← eq]; exact h1, h2, h3⟩
    | dl =>
      obtain ⟨d, l, h0, h1⟩ := z
      exact ⟨d, l, h0, by rw [← eq]; exact h1⟩
    | er a cls od dx => obtain ⟨z1, z2⟩ := z; exact ⟨by rw [← eq]; exact z1, z2⟩
end
end Eb

/-! ## own layer: what expressions, tests, statements come to, without a heap -/
namespace Eb
open PySem PySem.Spec PyProof.Rows L2
/-- if, of a truth value -/
def iteB (b : Bool) (X Y : Prop) : Prop := match b with
  | true => X
  | false => Y
theorem iteB_by {b : Bool} {X Y : Prop} (h1 : b = true → X) (h2 : b = false → Y) : iteB b X Y := by
  cases b with
  | true => exact h1 rfl
  | false => exact h2 rfl
theorem iteB_t {b : Bool} {X Y : Prop} (h : b = true) (h1 : X) : iteB b X Y := iteB_by (fun _ => h1) fun z => by rw [h] at z; cases z
theorem iteB_f {b : Bool} {X Y : Prop} (h : b = false) (h1 : Y) : iteB b X Y := iteB_by (fun z => by rw [h] at z; cases z) fun _ => h1
abbrev DK := (D → Prop) → (DX → Prop) → Prop
abbrev DE := List Sl → (D → Prop) → (DX → Prop) → Prop
abbrev DT := List Sl → (Bool → Prop) → (DX → Prop) → Prop
abbrev DA := List Sl → (List D → Prop) → (DX → Prop) → Prop
structure DEnds where
  nx : List Sl → Prop
  rt : D → Prop
  bk : List Sl → Prop
  ct : List Sl → Prop
  ex : List Sl → DX → Prop
abbrev DS := List Sl → DEnds → Prop
abbrev DG := D → List Sl → (List Sl → Prop) → Prop
/-- what is raised is wished for -/
def XOk (Λ : Lx) (w : WX) (env : List Sl) (W : Ow) (σ : L2.St) (H : Hp) (x : DX → Prop) : Prop :=
  ∀ dx cv od H', x dx → StOk Λ env W σ H' → Ev Λ W H H' → RepX Λ.B (Λ.vis W H') dx cv od → w cv od σ H'
theorem XOk.on {Λ : Lx} {w : WX} {env : List Sl} {W : Ow} {σ : L2.St} {H H' : Hp} {x : DX → Prop} (h : XOk Λ w env W σ H x) (e : Ev Λ W H H') : XOk Λ w env W σ H' x := fun dx cv od H2 hx S e2 r => h dx cv od H2 hx S (e.trans e2) r
def Snd (Λ : Lx) (w : WX) (te : TE) (t : DE) : Prop := ∀ env W σ H (Q : VK) q x, StOk Λ env W σ H → XOk Λ w env W σ H x → t env q x →
  (∀ d v H', q d → StOk Λ env W σ H' → Ev Λ W H H' → Rep Λ.B (Λ.vis W H') d v → Q v H') → te σ H Q
def SndT (Λ : Lx) (w : WX) (te : TT) (t : DT) : Prop := ∀ env W σ H (Q : Bool → Hp → Prop) q x, StOk Λ env W σ H → XOk Λ w env W σ H x → t env q x →
  (∀ b H', q b → StOk Λ env W σ H' → Ev Λ W H H' → Q b H') → te σ H Q
def SndA (Λ : Lx) (w : WX) (te : TA) (t : DA) : Prop := ∀ env W σ H (Q : List V → Hp → Prop) q x, StOk Λ env W σ H → XOk Λ w env W σ H x → t env q x →
  (∀ ds vs H', q ds → StOk Λ env W σ H' → Ev Λ W H H' → RepL Λ.B (Λ.vis W H') ds vs → Q vs H') → te σ H Q
/-- a new list -/
def SndL (Λ : Lx) (w : WX) (te : TE) (t : DA) : Prop := ∀ env W σ H (Q : VK) q x, StOk Λ env W σ H → XOk Λ w env W σ H x → t env q x →
  (∀ ds p vs H', q ds → StOk Λ env W σ H' → Ev Λ W H H' → H p = none → H' p = some (.lst vs) → RepL Λ.B (hid (fun a => a = p) (Λ.vis W H')) ds vs → Q (.ref p) H') → te σ H Q
/-- an operation on two values, on one, on some -/
def SndR (Λ : Lx) (w : WX) (r : R2) (f : D → D → DK) : Prop := ∀ env W σ H d e v u (Q : VK) q x, StOk Λ env W σ H → XOk Λ w env W σ H x → Rep Λ.B (Λ.vis W H) d v → Rep Λ.B (Λ.vis W H) e u → f d e q x →
  (∀ d v H', q d → StOk Λ env W σ H' → Ev Λ W H H' → Rep Λ.B (Λ.vis W H') d v → Q v H') → r v u H Q
def SndU (Λ : Lx) (w : WX) (r : V → Hp → VK → Prop) (f : D → DK) : Prop := ∀ env W σ H d v (Q : VK) q x, StOk Λ env W σ H → XOk Λ w env W σ H x → Rep Λ.B (Λ.vis W H) d v → f d q x →
  (∀ d v H', q d → StOk Λ env W σ H' → Ev Λ W H H' → Rep Λ.B (Λ.vis W H') d v → Q v H') → r v H Q
def SndC (Λ : Lx) (w : WX) (r : List V → Hp → VK → Prop) (f : List D → DK) : Prop := ∀ env W σ H ds vs (Q : VK) q x, StOk Λ env W σ H → XOk Λ w env W σ H x → RepL Λ.B (Λ.vis W H) ds vs → f ds q x →
  (∀ d v H', q d → StOk Λ env W σ H' → Ev Λ W H H' → Rep Λ.B (Λ.vis W H') d v → Q v H') → r vs H Q
def SndCL (Λ : Lx) (w : WX) (r : List V → Hp → VK → Prop) (f : List D → (List D → Prop) → (DX → Prop) → Prop) : Prop := ∀ env W σ H ds vs (Q : VK) q x, StOk Λ env W σ H → XOk Λ w env W σ H x → RepL Λ.B (Λ.vis W H) ds vs → f ds q x →
  (∀ ds p vs H', q ds → StOk Λ env W σ H' → Ev Λ W H H' → H p = none → H' p = some (.lst vs) → RepL Λ.B (hid (fun a => a = p) (Λ.vis W H')) ds vs → Q (.ref p) H') → r vs H Q
/-- a statement -/
structure Lnk (Λ : Lx) (w : WX) (W : Ow) (H : Hp) (E : Ends) (e : DEnds) : Prop where
  nx : ∀ env' W' σ' H', e.nx env' → StOk Λ env' W' σ' H' → Same (Λ.vis W H) (Λ.vis W' H') → E.nx σ' H'
  bk : ∀ env' W' σ' H', e.bk env' → StOk Λ env' W' σ' H' → Same (Λ.vis W H) (Λ.vis W' H') → E.bk σ' H'
  ct : ∀ env' W' σ' H', e.ct env' → StOk Λ env' W' σ' H' → Same (Λ.vis W H) (Λ.vis W' H') → E.ct σ' H'
  rt : ∀ d v env' W' σ' H', e.rt d → StOk Λ env' W' σ' H' → Rep Λ.B (Λ.out H') d v → E.rt v H'
  ex : ∀ env' W' σ' H' dx cv od, e.ex env' dx → StOk Λ env' W' σ' H' → Same (Λ.vis W H) (Λ.vis W' H') → RepX Λ.B (Λ.vis W' H') dx cv od → w cv od σ' H'
theorem Lnk.on {Λ : Lx} {w : WX} {W W' : Ow} {H H' : Hp} {E : Ends} {e : DEnds} (L : Lnk Λ w W H E e) (s : Same (Λ.vis W H) (Λ.vis W' H')) : Lnk Λ w W' H' E e :=
  ⟨fun _ _ _ _ a b c => L.nx _ _ _ _ a b (s.trans c), fun _ _ _ _ a b c => L.bk _ _ _ _ a b (s.trans c), fun _ _ _ _ a b c => L.ct _ _ _ _ a b (s.trans c), L.rt, fun _ _ _ _ _ _ _ a b c => L.ex _ _ _ _ _ _ _ a b (s.trans c)⟩
theorem Lnk.xok {Λ : Lx} {w : WX} {W : Ow} {H : Hp} {E : Ends} {e : DEnds} (L : Lnk Λ w W H E e) {env : List Sl} {σ : L2.St} : XOk Λ w env W σ H (e.ex env) := fun dx cv od H' hx S ev r => L.ex _ _ _ _ dx cv od hx S ev.vis r
def SndS (Λ : Lx) (w : WX) (ts : TS) (t : DS) : Prop := ∀ env W σ H (E : Ends) e, StOk Λ env W σ H → Lnk Λ w W H E e → t env e → ts E σ H
/-- a target -/
def SndG (Λ : Lx) (g : TG) (t : DG) (js : List Nat) : Prop := ∀ env W σ H d v q (Q : L2.St → Hp → Prop), StOk Λ env W σ H → Rep Λ.B (Λ.vis W H) d v → t d env q →
  (∀ env' σ', q env' → env'.length = env.length → StOk Λ env' W σ' H → (∀ vs : List Nat, (∀ j ∈ js, j ∈ vs) → wipe σ' vs = wipe σ vs) → Q σ' H) → g v σ H Q
/-- what is walked -/
structure ItOk (Λ : Lx) (W : Ow) (H : Hp) (J : It) (ds : List D) : Prop where
  go : ∀ i env' W' σ' H', i < ds.length → StOk Λ env' W' σ' H' → Same (Λ.vis W H) (Λ.vis W' H') → J.go i H'
  stop : ∀ env' W' σ' H', StOk Λ env' W' σ' H' → Same (Λ.vis W H) (Λ.vis W' H') → J.stop ds.length H'
  yld : ∀ i x env' W' σ' H' H'', i < ds.length → StOk Λ env' W' σ' H' → Same (Λ.vis W H) (Λ.vis W' H') → J.yld i H' x H'' → Same H' H'' ∧ ∃ d, ds[i]? = some d ∧ Rep Λ.B (Λ.vis W' H'') d x
def SndI (Λ : Lx) (w : WX) (wi : TI) (t : DA) : Prop := ∀ env W σ H (R : It → Hp → Prop) q x, StOk Λ env W σ H → XOk Λ w env W σ H x → t env q x →
  (∀ ds J H', q ds → StOk Λ env W σ H' → Ev Λ W H H' → ItOk Λ W H' J ds → R J H') → wi σ H R

structure XE (X : Cx) (Λ : Lx) (w : WX) (e : Expr) (t : DE) : Prop where
  ex : X.K = Λ.B.K → ∃ te, PE X e te ∧ Snd Λ w te t
structure XT (X : Cx) (Λ : Lx) (w : WX) (e : Expr) (t : DT) : Prop where
  ex : X.K = Λ.B.K → ∃ te, PT X e te ∧ SndT Λ w te t
structure XW (X : Cx) (Λ : Lx) (w : WX) (e : Expr) (t : DT) : Prop where
  ex : X.K = Λ.B.K → ∃ te, PW X e te ∧ SndT Λ w te t
structure XTs (X : Cx) (Λ : Lx) (w : WX) (e : List Expr) (t : DT) : Prop where
  ex : X.K = Λ.B.K → ∃ te, PTs X e te ∧ SndT Λ w te t
structure XA (X : Cx) (Λ : Lx) (w : WX) (es : List Expr) (t : DA) : Prop where
  ex : X.K = Λ.B.K → ∃ te, PA X es te ∧ SndA Λ w te t
structure XL (X : Cx) (Λ : Lx) (w : WX) (e : Expr) (t : DA) : Prop where
  ex : X.K = Λ.B.K → ∃ te, PE X e te ∧ SndL Λ w te t
structure XS (X : Cx) (Λ : Lx) (w : WX) (e : Stmt) (t : DS) : Prop where
  ex : X.K = Λ.B.K → ∃ te, PS X e te ∧ SndS Λ w te t
structure XSs (X : Cx) (Λ : Lx) (w : WX) (e : List Stmt) (t : DS) : Prop where
  ex : X.K = Λ.B.K → ∃ te, PSs X e te ∧ SndS Λ w te t
structure XG (X : Cx) (Λ : Lx) (e : Expr) (t : DG) (js : List Nat) : Prop where
  ex : X.K = Λ.B.K → ∃ te, PG X e te ∧ SndG Λ te t js
structure XI (X : Cx) (Λ : Lx) (w : WX) (tg e : Expr) (t : DA) : Prop where
  ex : X.K = Λ.B.K → ∃ te, PI X tg e te ∧ SndI Λ w te t
section
variable {X : Cx} {Λ : Lx} {w : WX} {a b c e : Expr} {es : List Expr} {ta tb tc t : DE} {tA tB : DT} {pos : Pos}
/-! ### names, constants -/
def dVar (i : Nat) : DE := fun env q _ => match env[i]? with
  | some (.va d) => q d
  | _ => False
def dC (d : D) : DE := fun _ q _ => q d
theorem snd_var {i : Nat} : Snd Λ w (tVar i) (dVar i) := fun env W σ H Q q x S _ h k => by
  unfold dVar at h
  split at h
  · rename_i d hd
    obtain ⟨v, h1, h2⟩ := S.sl i _ hd
    exact ⟨v, h1, k d v H h S .refl h2⟩
  · exact h.elim
theorem snd_c {v : V} {d : D} (r : ∀ H, Rep Λ.B H d v) : Snd Λ w (tC v) (dC d) := fun env W σ H Q q x S _ h k => k d v H h S .refl (r _)
theorem xe_of {te : TE} (h : PE X a te) (s : Snd Λ w te t) : XE X Λ w a t := ⟨fun _ => ⟨te, h, s⟩⟩
theorem xe_int {i : Int} {j : Nat} : XE X Λ w (.Constant (.int i) j pos) (dC (.int i)) := xe_of pe_int (snd_c fun _ => rfl)
theorem xe_bl {i : Bool} {j : Nat} : XE X Λ w (.Constant (.bool i) j pos) (dC (.bl i)) := xe_of pe_bl (snd_c fun _ => rfl)
theorem xe_non {j : Nat} : XE X Λ w (.Constant .none j pos) (dC .non) := xe_of pe_non (snd_c fun _ => rfl)
theorem xe_str {i : Str} {j : Nat} : XE X Λ w (.Constant (.str i) j pos) (dC (.str i)) := xe_of pe_str (snd_c fun _ => rfl)
theorem xe_glob {y : Str} {u : Value} {v : V} {d : D} {p : Pos} (h : PE X (.Name y p) (tC v)) (r : ∀ H, Rep Λ.B H d v) : XE X Λ w (.Name y p) (dC d) := xe_of h (snd_c r)
/-! ### operators -/
def dOp (f : D → D → DK) (a b : DE) : DE := fun env q x => a env (fun u => b env (fun v => f u v q x) x) x
def dUn (f : D → DK) (a : DE) : DE := fun env q x => a env (fun u => f u q x) x
theorem snd_op {r : R2} {f : D → D → DK} {ra rb : TE} (hr : SndR Λ w r f) (ha : Snd Λ w ra ta) (hb : Snd Λ w rb tb) : Snd Λ w (tOp r ra rb) (dOp f ta tb) := fun env W σ H Q q x S hx h k =>
  ha env W σ H _ _ x S hx h fun d v H1 h1 S1 e1 r1 => hb env W σ H1 _ _ x S1 (hx.on e1) h1 fun d2 v2 H2 h2 S2 e2 r2 =>
    hr env W σ H2 d d2 v v2 Q q x S2 (hx.on (e1.trans e2)) (r1.up e2.vis) r2 h2 fun d3 v3 H3 h3 S3 e3 r3 => k d3 v3 H3 h3 S3 ((e1.trans e2).trans e3) r3
theorem snd_un {r : V → Hp → VK → Prop} {f : D → DK} {ra : TE} (hr : SndU Λ w r f) (ha : Snd Λ w ra ta) : Snd Λ w (tUn r ra) (dUn f ta) := fun env W σ H Q q x S hx h k =>
  ha env W σ H _ _ x S hx h fun d v H1 h1 S1 e1 r1 => hr env W σ H1 d v Q q x S1 (hx.on e1) r1 h1 fun d3 v3 H3 h3 S3 e3 r3 => k d3 v3 H3 h3 S3 (e1.trans e3) r3
theorem xe_op {op : Operator} {r : R2} {f : D → D → DK} (ho : X.K = Λ.B.K → OpR X (binaryOp op) r) (hr : SndR Λ w r f) (ha : XE X Λ w a ta) (hb : XE X Λ w b tb) : XE X Λ w (.BinOp a op b pos) (dOp f ta tb) := ⟨fun hK => by
  obtain ⟨ra, pa, sa⟩ := ha.ex hK
  obtain ⟨rb, pb, sb⟩ := hb.ex hK
  exact ⟨_, pe_op (ho hK) pa pb, snd_op hr sa sb⟩⟩
theorem xe_un {op : UnaryOp} {r : V → Hp → VK → Prop} {f : D → DK} (ho : X.K = Λ.B.K → UnR X (unaryOp op) r) (hr : SndU Λ w r f) (ha : XE X Λ w a ta) : XE X Λ w (.UnaryOp op a pos) (dUn f ta) := ⟨fun hK => by
  obtain ⟨ra, pa, sa⟩ := ha.ex hK
  exact ⟨_, pe_un (ho hK) pa, snd_un hr sa⟩⟩
theorem xe_cmp {op : CmpOp} {r : R2} {f : D → D → DK} (ho : X.K = Λ.B.K → OpR X (compareOp op) r) (hr : SndR Λ w r f) (ha : XE X Λ w a ta) (hb : XE X Λ w b tb) (hm : behindInMarks op b = false) : XE X Λ w (.Compare a [op] [b] pos) (dOp f ta tb) := ⟨fun hK => by
  obtain ⟨ra, pa, sa⟩ := ha.ex hK
  obtain ⟨rb, pb, sb⟩ := hb.ex hK
  exact ⟨_, pe_cmpR (ho hK) pa pb hm, snd_op hr sa sb⟩⟩
/-- a value as a test -/
def dTest (t : DE) : DT := fun env q x => t env (fun d => match d with
  | .bl k => q k
  | _ => False) x
theorem snd_test {ra : TE} (ha : Snd Λ w ra ta) : SndT Λ w (tTest ra) (dTest ta) := fun env W σ H Q q x S hx h k =>
  ha env W σ H _ _ x S hx h fun d v H1 h1 S1 e1 r1 => by
    cases d with
    | bl b => exact ⟨b, r1, k b H1 h1 S1 e1⟩
    | _ => exact h1.elim
theorem xt_cmp {op : CmpOp} {r : R2} {f : D → D → DK} (ho : X.K = Λ.B.K → OpR X (compareOp op) r) (hr : SndR Λ w r f) (ha : XE X Λ w a ta) (hb : XE X Λ w b tb) (hm : behindInMarks op b = false) : XT X Λ w (.Compare a [op] [b] pos) (dTest (dOp f ta tb)) := ⟨fun hK => by
  obtain ⟨ra, pa, sa⟩ := ha.ex hK
  obtain ⟨rb, pb, sb⟩ := hb.ex hK
  exact ⟨_, pt_cmpR (ho hK) pa pb hm, snd_test (snd_op hr sa sb)⟩⟩
def dChain (f g : D → D → DK) (a b c : DE) : DE := fun env q x => a env (fun u => b env (fun v => f u v (fun z => match z with
  | .bl k => iteB k (c env (fun y => g v y q x) x) (q (.bl false))
  | _ => False) x) x) x
theorem snd_chain {r r' : R2} {f g : D → D → DK} {ra rb rc : TE} (hr : SndR Λ w r f) (hr' : SndR Λ w r' g) (ha : Snd Λ w ra ta) (hb : Snd Λ w rb tb) (hc : Snd Λ w rc tc) : Snd Λ w (tChain r r' ra rb rc) (dChain f g ta tb tc) := fun env W σ H Q q x S hx h k =>
  ha env W σ H _ _ x S hx h fun d v H1 h1 S1 e1 r1 => hb env W σ H1 _ _ x S1 (hx.on e1) h1 fun d2 v2 H2 h2 S2 e2 r2 =>
    hr env W σ H2 d d2 v v2 _ _ x S2 (hx.on (e1.trans e2)) (r1.up e2.vis) r2 h2 fun d3 v3 H3 h3 S3 e3 r3 => by
      cases d3 with
      | bl b =>
        refine ⟨b, r3, ?_⟩
        exact Bool.casesOn (motive := fun b => iteB b (tc env (fun y => g d2 y q x) x) (q (.bl false)) → (if b = true then rc σ H3 fun w' H4 => r' v2 w' H4 Q else Q (.bl false) H3)) b
          (fun h3 => k _ _ H3 h3 S3 ((e1.trans e2).trans e3) rfl)
          (fun h3 => hc env W σ H3 _ _ x S3 (hx.on ((e1.trans e2).trans e3)) h3 fun d4 v4 H4 h4 S4 e4 r4 =>
            hr' env W σ H4 d2 d4 v2 v4 Q q x S4 (hx.on (((e1.trans e2).trans e3).trans e4)) ((r2.up e3.vis).up e4.vis) r4 h4 fun d5 v5 H5 h5 S5 e5 r5 => k d5 v5 H5 h5 S5 ((((e1.trans e2).trans e3).trans e4).trans e5) r5) h3
      | _ => exact h3.elim
theorem xe_chain {op op' : CmpOp} {r r' : R2} {f g : D → D → DK} (ho : X.K = Λ.B.K → OpR X (compareOp op) r) (hr : SndR Λ w r f) (ho' : X.K = Λ.B.K → OpR X (compareOp op') r') (hr' : SndR Λ w r' g) (ha : XE X Λ w a ta) (hb : XE X Λ w b tb) (hc : XE X Λ w c tc)
    (hm : lastMarks [op, op'] [b, c] = false := by with_unfolding_all rfl) : XE X Λ w (.Compare a [op, op'] [b, c] pos) (dChain f g ta tb tc) := ⟨fun hK => by
  obtain ⟨ra, pa, sa⟩ := ha.ex hK
  obtain ⟨rb, pb, sb⟩ := hb.ex hK
  obtain ⟨rc, pc, sc⟩ := hc.ex hK
  exact ⟨_, pe_chain (ho hK) (ho' hK) pa pb pc hm, snd_chain hr hr' sa sb sc⟩⟩
theorem xt_chain {op op' : CmpOp} {r r' : R2} {f g : D → D → DK} (ho : X.K = Λ.B.K → OpR X (compareOp op) r) (hr : SndR Λ w r f) (ho' : X.K = Λ.B.K → OpR X (compareOp op') r') (hr' : SndR Λ w r' g) (ha : XE X Λ w a ta) (hb : XE X Λ w b tb) (hc : XE X Λ w c tc)
    (hm : lastMarks [op, op'] [b, c] = false := by with_unfolding_all rfl) : XT X Λ w (.Compare a [op, op'] [b, c] pos) (dTest (dChain f g ta tb tc)) := ⟨fun hK => by
  obtain ⟨ra, pa, sa⟩ := ha.ex hK
  obtain ⟨rb, pb, sb⟩ := hb.ex hK
  obtain ⟨rc, pc, sc⟩ := hc.ex hK
  exact ⟨_, pt_chain (ho hK) (ho' hK) pa pb pc hm, snd_test (snd_chain hr hr' sa sb sc)⟩⟩
/-! ### truth -/
def truD : D → (Bool → Prop) → Prop
  | .non, q => q false
  | .bl b, q => q b
  | .int i, q => q (i != 0)
  | .str y, q => y.length ≤ 100000 ∧ q ((y.length : Int) != 0)
  | .lst xs, q => q (!xs.isEmpty)
  | .tup xs, q => q (!xs.isEmpty)
  | _, _ => False
theorem RepL.emp {B : Tb} {H : Hp} {ds : List D} {vs : List V} (h : RepL B H ds vs) : vs.isEmpty = ds.isEmpty := by
  have := h.len
  cases ds <;> cases vs <;> simp_all
theorem tru_rep {W : Ow} {H : Hp} {d : D} {v : V} {q : Bool → Prop} (r : Rep Λ.B (Λ.vis W H) d v) (h : truD d q) : ∃ k, TruV Λ.B.K v H k ∧ q k := by
  cases d with
  | non => cases r; exact ⟨false, rfl, h⟩
  | bl b => cases r; exact ⟨b, rfl, h⟩
  | int i => cases r; exact ⟨_, rfl, h⟩
  | str y => cases r; exact ⟨_, ⟨sz h.1, rfl⟩, h.2⟩
  | lst xs =>
    obtain ⟨a, vs, rfl, h1, h2⟩ := r
    exact ⟨_, .inl ⟨vs, sqL_of (hid_le _ _ h1), by rw [h2.emp]⟩, h⟩
  | tup xs =>
    obtain ⟨a, vs, rfl, h1, h2⟩ := r
    exact ⟨_, .inr (.inl ⟨vs, Same_seqT hid_le h1, by rw [h2.emp]⟩), h⟩
  | _ => exact h.elim
def dTruth (t : DE) : DT := fun env q x => t env (fun d => truD d q) x
theorem xt_truth (ha : XE X Λ w a ta) (he : ∀ whole, isTrue a X.env whole = (do let v ← whole; standAt a.pos; holding [v] (truthy v))) : XT X Λ w a (dTruth ta) := ⟨fun hK => by
  obtain ⟨ra, pa, sa⟩ := ha.ex hK
  refine ⟨_, pt_truth pa he, fun env W σ H Q q x S hx h k => sa env W σ H _ _ x S hx h fun d v H1 h1 S1 e1 r1 => ?_⟩
  obtain ⟨b, hb, hq⟩ := tru_rep r1 h1
  rw [hK]
  exact ⟨b, hb, k b H1 hq S1 e1⟩⟩
def dAnd (t u : DT) : DT := fun env q x => t env (fun c => iteB c (u env q x) (q false)) x
def dOr (t u : DT) : DT := fun env q x => t env (fun c => iteB c (q true) (u env q x)) x
def dNot (t : DT) : DT := fun env q x => t env (fun c => q (!c)) x
theorem snd_and {ra rb : TT} (ha : SndT Λ w ra tA) (hb : SndT Λ w rb tB) : SndT Λ w (tAnd ra rb) (dAnd tA tB) := fun env W σ H Q q x S hx h k =>
  ha env W σ H _ _ x S hx h fun b H1 h1 S1 e1 => by
    cases b with
    | true => exact hb env W σ H1 Q q x S1 (hx.on e1) h1 fun b2 H2 h2 S2 e2 => k b2 H2 h2 S2 (e1.trans e2)
    | false => exact k false H1 h1 S1 e1
theorem snd_or {ra rb : TT} (ha : SndT Λ w ra tA) (hb : SndT Λ w rb tB) : SndT Λ w (tOr ra rb) (dOr tA tB) := fun env W σ H Q q x S hx h k =>
  ha env W σ H _ _ x S hx h fun b H1 h1 S1 e1 => by
    cases b with
    | false => exact hb env W σ H1 Q q x S1 (hx.on e1) h1 fun b2 H2 h2 S2 e2 => k b2 H2 h2 S2 (e1.trans e2)
    | true => exact k true H1 h1 S1 e1
theorem xt_not (ha : XT X Λ w a tA) : XT X Λ w (.UnaryOp .Not a pos) (dNot tA) := ⟨fun hK => by
  obtain ⟨ra, pa, sa⟩ := ha.ex hK
  exact ⟨_, pt_not pa, fun env W σ H Q q x S hx h k => sa env W σ H _ _ x S hx h fun b H1 h1 S1 e1 => k _ H1 h1 S1 e1⟩⟩
theorem xw_and {r : List Expr} (ha : XT X Λ w a tA) (hb : XW X Λ w (.BoolOp .And (b :: r) pos) tB) : XW X Λ w (.BoolOp .And (a :: b :: r) pos) (dAnd tA tB) := ⟨fun hK => by
  obtain ⟨ra, pa, sa⟩ := ha.ex hK
  obtain ⟨rb, pb, sb⟩ := hb.ex hK
  exact ⟨_, pw_and pa pb, snd_and sa sb⟩⟩
theorem xw_or {r : List Expr} (ha : XT X Λ w a tA) (hb : XW X Λ w (.BoolOp .Or (b :: r) pos) tB) : XW X Λ w (.BoolOp .Or (a :: b :: r) pos) (dOr tA tB) := ⟨fun hK => by
  obtain ⟨ra, pa, sa⟩ := ha.ex hK
  obtain ⟨rb, pb, sb⟩ := hb.ex hK
  exact ⟨_, pw_or pa pb, snd_or sa sb⟩⟩
theorem xw_and1 (ha : XT X Λ w a tA) : XW X Λ w (.BoolOp .And [a] pos) tA := ⟨fun hK => by
  obtain ⟨ra, pa, sa⟩ := ha.ex hK
  exact ⟨_, pw_and1 pa, sa⟩⟩
theorem xw_or1 (ha : XT X Λ w a tA) : XW X Λ w (.BoolOp .Or [a] pos) tA := ⟨fun hK => by
  obtain ⟨ra, pa, sa⟩ := ha.ex hK
  exact ⟨_, pw_or1 pa, sa⟩⟩
theorem XW.xt (ha : XW X Λ w a tA) : XT X Λ w a tA := ⟨fun hK => by
  obtain ⟨ra, pa, sa⟩ := ha.ex hK
  exact ⟨_, pa.pt, sa⟩⟩
/-! and, or, not as values (by truth) -/
def dAndT (t u : DE) : DE := fun env q x => t env (fun d => truD d fun k => iteB k (u env q x) (q d)) x
def dOrT (t u : DE) : DE := fun env q x => t env (fun d => truD d fun k => iteB k (q d) (u env q x)) x
def dNotT (t : DE) : DE := fun env q x => t env (fun d => truD d fun k => q (.bl (!k))) x
theorem xe_andT {r : List Expr} (ha : XE X Λ w a ta) (hb : XE X Λ w (.BoolOp .And (b :: r) pos) tb) : XE X Λ w (.BoolOp .And (a :: b :: r) pos) (dAndT ta tb) := ⟨fun hK => by
  obtain ⟨ra, pa, sa⟩ := ha.ex hK
  obtain ⟨rb, pb, sb⟩ := hb.ex hK
  refine ⟨_, pe_andT pa pb, fun env W σ H Q q x S hx h k => sa env W σ H _ _ x S hx h fun d v H1 h1 S1 e1 r1 => ?_⟩
  obtain ⟨c, hc, hq⟩ := tru_rep r1 h1
  rw [hK]
  refine ⟨c, hc, ?_⟩
  cases c with
  | true => exact sb env W σ H1 Q q x S1 (hx.on e1) hq fun b2 v2 H2 h2 S2 e2 => k b2 v2 H2 h2 S2 (e1.trans e2)
  | false => exact k d v H1 hq S1 e1 r1⟩
theorem xe_orT {r : List Expr} (ha : XE X Λ w a ta) (hb : XE X Λ w (.BoolOp .Or (b :: r) pos) tb) : XE X Λ w (.BoolOp .Or (a :: b :: r) pos) (dOrT ta tb) := ⟨fun hK => by
  obtain ⟨ra, pa, sa⟩ := ha.ex hK
  obtain ⟨rb, pb, sb⟩ := hb.ex hK
  refine ⟨_, pe_orT pa pb, fun env W σ H Q q x S hx h k => sa env W σ H _ _ x S hx h fun d v H1 h1 S1 e1 r1 => ?_⟩
  obtain ⟨c, hc, hq⟩ := tru_rep r1 h1
  rw [hK]
  refine ⟨c, hc, ?_⟩
  cases c with
  | false => exact sb env W σ H1 Q q x S1 (hx.on e1) hq fun b2 v2 H2 h2 S2 e2 => k b2 v2 H2 h2 S2 (e1.trans e2)
  | true => exact k d v H1 hq S1 e1 r1⟩
theorem xe_notT (ha : XE X Λ w a ta) : XE X Λ w (.UnaryOp .Not a pos) (dNotT ta) := ⟨fun hK => by
  obtain ⟨ra, pa, sa⟩ := ha.ex hK
  refine ⟨_, pe_notT pa, fun env W σ H Q q x S hx h k => sa env W σ H _ _ x S hx h fun d v H1 h1 S1 e1 r1 => ?_⟩
  obtain ⟨c, hc, hq⟩ := tru_rep r1 h1
  rw [hK]
  exact ⟨c, hc, k _ _ H1 hq S1 e1 rfl⟩⟩
theorem xe_one {op : BoolOp} (ha : XE X Λ w a ta) : XE X Λ w (.BoolOp op [a] pos) ta := ⟨fun hK => by
  obtain ⟨ra, pa, sa⟩ := ha.ex hK
  exact ⟨_, pe_one pa, sa⟩⟩
def dIf (t : DT) (a b : DE) : DE := fun env q x => t env (fun c => iteB c (a env q x) (b env q x)) x
theorem xe_if (hc : XT X Λ w c tA) (ha : XE X Λ w a ta) (hb : XE X Λ w b tb) : XE X Λ w (.IfExp c a b pos) (dIf tA ta tb) := ⟨fun hK => by
  obtain ⟨rc, pc, sc⟩ := hc.ex hK
  obtain ⟨ra, pa, sa⟩ := ha.ex hK
  obtain ⟨rb, pb, sb⟩ := hb.ex hK
  refine ⟨_, pe_ifExp pc pa pb, fun env W σ H Q q x S hx h k => sc env W σ H _ _ x S hx h fun c H1 h1 S1 e1 => ?_⟩
  cases c with
  | true => exact sa env W σ H1 Q q x S1 (hx.on e1) h1 fun b2 v2 H2 h2 S2 e2 => k b2 v2 H2 h2 S2 (e1.trans e2)
  | false => exact sb env W σ H1 Q q x S1 (hx.on e1) h1 fun b2 v2 H2 h2 S2 e2 => k b2 v2 H2 h2 S2 (e1.trans e2)⟩
/-! ### arguments, displays -/
def dNil : DA := fun _ q _ => q []
def dCons (t : DE) (u : DA) : DA := fun env q x => t env (fun d => u env (fun ds => q (d :: ds)) x) x
theorem xa_nil : XA X Λ w [] dNil := ⟨fun _ => ⟨_, pa_nil, fun env W σ H Q q x S hx h k => k [] [] H h S .refl rfl⟩⟩
theorem xa_cons {u : DA} (ha : XE X Λ w e ta) (hb : XA X Λ w es u) (hs : starEach (e :: es) X.env = (false, eval e X.env) :: starEach es X.env := by rfl) : XA X Λ w (e :: es) (dCons ta u) := ⟨fun hK => by
  obtain ⟨ra, pa, sa⟩ := ha.ex hK
  obtain ⟨rb, pb, sb⟩ := hb.ex hK
  refine ⟨_, pa_cons pa pb hs, fun env W σ H Q q x S hx h k => sa env W σ H _ _ x S hx h fun d v H1 h1 S1 e1 r1 => sb env W σ H1 _ _ x S1 (hx.on e1) h1 fun ds vs H2 h2 S2 e2 r2 => ?_⟩
  exact k (d :: ds) (v :: vs) H2 h2 S2 (e1.trans e2) ⟨v, vs, rfl, r1.up e2.vis, r2⟩⟩
theorem vis_new {env : List Sl} {W : Ow} {σ : L2.St} {H : Hp} {p : Addr} {o : HO} (S : StOk Λ env W σ H) (hp : H p = none) : Λ.vis W (upd H p o) p = some o := hid_some.mpr ⟨S.fresh hp, upd_same⟩
def dTup (u : DA) : DE := fun env q x => u env (fun ds => ds.length ≤ 100000 ∧ q (.tup ds)) x
theorem xe_tup {u : DA} {x1} (ha : XA X Λ w es u) : XE X Λ w (.Tuple es x1 pos) (dTup u) := ⟨fun hK => by
  obtain ⟨ra, pa, sa⟩ := ha.ex hK
  refine ⟨_, pe_tup pa, fun env W σ H Q q x S hx h k => sa env W σ H _ _ x S hx h fun ds vs H1 h1 S1 e1 r1 => ⟨by rw [r1.len]; exact sz h1.1, fun p hp => ?_⟩⟩
  have s := same_new (o := .tup vs) hp
  exact k _ _ _ h1.2 (S1.grow s) (e1.trans (.of s)) ⟨p, vs, rfl, sqT_of (vis_new S1 hp), r1.up (vis_same s)⟩⟩
def dLst (u : DA) : DA := fun env q x => u env (fun ds => ds.length ≤ 100000 ∧ q ds) x
theorem vis_hid {env : List Sl} {W : Ow} {σ : L2.St} {H : Hp} {p : Addr} {o : HO} (S : StOk Λ env W σ H) (hp : H p = none) : Same (Λ.vis W H) (hid (fun a => a = p) (Λ.vis W (upd H p o))) := fun a u h => by
  obtain ⟨g, h⟩ := hid_some.mp h
  have n := ne_of_none h hp
  exact hid_some.mpr ⟨n, hid_some.mpr ⟨g, by rw [upd_ne n]; exact h⟩⟩
theorem xl_lst {u : DA} (ha : XA X Λ w es u) : XL X Λ w (.List es pos) (dLst u) := ⟨fun hK => by
  obtain ⟨ra, pa, sa⟩ := ha.ex hK
  refine ⟨_, pe_lst pa, fun env W σ H Q q x S hx h k => sa env W σ H _ _ x S hx h fun ds vs H1 h1 S1 e1 r1 => ⟨by rw [r1.len]; exact sz h1.1, fun p hp => ?_⟩⟩
  have s := same_new (o := .lst vs) hp
  exact k _ p vs _ h1.2 (S1.grow s) (e1.trans (.of s)) (e1.free hp) upd_same (r1.up (vis_hid S1 hp))⟩
/-- a new list as a value -/
def dL (u : DA) : DE := fun env q x => u env (fun ds => q (.lst ds)) x
theorem SndL.snd {ra : TE} {u : DA} (h : SndL Λ w ra u) : Snd Λ w ra (dL u) := fun env W σ H Q q x S hx hh k => h env W σ H Q _ x S hx hh fun ds p vs H' h1 S1 e1 hp h2 r =>
  k _ _ H' h1 S1 e1 ⟨p, vs, rfl, hid_some.mpr ⟨S.fresh hp, h2⟩, r.up hid_le⟩
theorem XL.xe {u : DA} (h : XL X Λ w e u) : XE X Λ w e (dL u) := ⟨fun hK => by
  obtain ⟨ra, pa, sa⟩ := h.ex hK
  exact ⟨_, pa, sa.snd⟩⟩
end
end Eb

/-! ## own layer: statements, loops, comprehensions without a heap -/
namespace Eb
open PySem PySem.Spec PyProof.Rows L2
section
variable {X : Cx} {Λ : Lx} {w : WX} {a b c e : Expr} {es : List Expr} {ta tb tc t : DE} {tA tB : DT} {pos : Pos} {st : Stmt} {sts : List Stmt} {ts us : DS}
theorem xe_var {i : Nat} {y : Str} {p : Pos} (h : PE X (.Name y p) (tVar i)) : XE X Λ w (.Name y p) (dVar i) := xe_of h snd_var
def dNext : DS := fun env e => e.nx env
def dSeq (t u : DS) : DS := fun env e => t env { e with nx := fun env' => u env' e }
theorem snd_next : SndS Λ w tNext dNext := fun env W σ H E e S L h => L.nx env W σ H h S (Same.refl _)
theorem snd_seq {r r' : TS} (h1 : SndS Λ w r ts) (h2 : SndS Λ w r' us) : SndS Λ w (tSeq r r') (dSeq ts us) := fun env W σ H E e S L h =>
  h1 env W σ H { E with nx := r' E } { e with nx := fun env' => us env' e } S ⟨fun env' W' σ' H' a S' s => h2 env' W' σ' H' E e S' (L.on s) a, L.bk, L.ct, L.rt, L.ex⟩ h
theorem xss_nil : XSs X Λ w [] dNext := ⟨fun _ => ⟨_, pss_nil, snd_next⟩⟩
theorem xss_cons (h1 : XS X Λ w st ts) (h2 : XSs X Λ w sts us) : XSs X Λ w (st :: sts) (dSeq ts us) := ⟨fun hK => by
  obtain ⟨r, p, s⟩ := h1.ex hK
  obtain ⟨r', p', s'⟩ := h2.ex hK
  exact ⟨_, pss_cons p p', snd_seq s s'⟩⟩
theorem xss_one (h1 : XS X Λ w st ts) : XSs X Λ w [st] ts := ⟨fun hK => by
  obtain ⟨r, p, s⟩ := h1.ex hK
  exact ⟨_, pss_one p, s⟩⟩
theorem xs_pass : XS X Λ w (.Pass pos) dNext := ⟨fun _ => ⟨_, ps_pass, snd_next⟩⟩
def dBreak : DS := fun env e => e.bk env
def dCont : DS := fun env e => e.ct env
theorem xs_break : XS X Λ w (.Break pos) dBreak := ⟨fun _ => ⟨_, ps_break, fun env W σ H E e S L h => L.bk env W σ H h S (Same.refl _)⟩⟩
theorem xs_continue : XS X Λ w (.Continue pos) dCont := ⟨fun _ => ⟨_, ps_continue, fun env W σ H E e S L h => L.ct env W σ H h S (Same.refl _)⟩⟩
def dNever : DS := fun _ _ => False
theorem xs_never : XS X Λ w st dNever := ⟨fun _ => ⟨_, ps_never, fun env W σ H E e S L h => h.elim⟩⟩
theorem xs_doc {x j p'} : XS X Λ w (.Expr (.Constant (.str x) j pos) p') dNext := ⟨fun _ => ⟨_, ps_doc, snd_next⟩⟩
def dDrop (t : DE) : DS := fun env e => t env (fun _ => e.nx env) (e.ex env)
theorem xs_expr (h : XE X Λ w a t) (hs : swapsWith a none pos.line X.env = pure false := by rfl) : XS X Λ w (.Expr a pos) (dDrop t) := ⟨fun hK => by
  obtain ⟨r, p, s⟩ := h.ex hK
  exact ⟨_, ps_expr p hs, fun env W σ H E e S L h => s env W σ H _ _ _ S L.xok h fun d v H' q S' ev r => L.nx env W σ H' q S' ev.vis⟩⟩
def dRet (t : DE) : DS := fun env e => t env e.rt (e.ex env)
theorem out_of {W : Ow} {H : Hp} : Same (Λ.vis W H) (Λ.out H) := hid_anti fun a g => g.elim .inl fun z => .inr (.inl z)
theorem xs_ret (h : XE X Λ w a t) : XS X Λ w (.Return (some a) pos) (dRet t) := ⟨fun hK => by
  obtain ⟨r, p, s⟩ := h.ex hK
  exact ⟨_, ps_ret p, fun env W σ H E e S L h => s env W σ H _ _ _ S L.xok h fun d v H' q S' ev r => L.rt d v env W σ H' q S' (r.up out_of)⟩⟩
def dRetN : DS := fun _ e => e.rt .non
theorem xs_retN : XS X Λ w (.Return none pos) dRetN := ⟨fun _ => ⟨_, ps_retN, fun env W σ H E e S L h => L.rt .non .non env W σ H h S rfl⟩⟩
def dIfS (c : DT) (t u : DS) : DS := fun env e => c env (fun b => iteB b (t env e) (u env e)) (e.ex env)
theorem xs_if {s1 s2 : List Stmt} (hc : XT X Λ w c tA) (h1 : XSs X Λ w s1 ts) (h2 : XSs X Λ w s2 us) : XS X Λ w (.If c s1 s2 pos) (dIfS tA ts us) := ⟨fun hK => by
  obtain ⟨rc, pc, sc⟩ := hc.ex hK
  obtain ⟨r1, p1, q1⟩ := h1.ex hK
  obtain ⟨r2, p2, q2⟩ := h2.ex hK
  refine ⟨_, ps_if pc p1 p2, fun env W σ H E e S L h => sc env W σ H _ _ _ S L.xok h fun b H' hb S' ev => ?_⟩
  cases b with
  | true => exact q1 env W σ H' E e S' (L.on ev.vis) hb
  | false => exact q2 env W σ H' E e S' (L.on ev.vis) hb⟩
/-! ### targets -/
def gN (i : Nat) : DG := fun d env q => q (env.set i (.va d))
theorem wipe_set {σ : L2.St} {i : Nat} {o : Option V} : ∀ {vs : List Nat}, i ∈ vs → wipe (σ.set i o) vs = wipe σ vs
  | [], h => by cases h
  | v :: vs, h => by
    unfold wipe
    by_cases q : i ∈ vs
    · rw [wipe_set q]
    · have e : i = v := by
        rcases List.mem_cons.mp h with e | e
        · exact e
        · exact absurd e q
      subst e
      clear h
      induction vs with
      | nil => simp [wipe]
      | cons u us ih =>
        have n : u ≠ i := fun z => q (by simp [z])
        unfold wipe
        rw [List.set_comm _ _ n, ih fun z => q (List.mem_cons_of_mem _ z), List.set_comm _ _ n]
theorem snd_gN {i : Nat} : SndG Λ (gName i) (gN i) [i] := fun env W σ H d v q Q S r h k =>
  k _ _ h (List.length_set ..) (S.put (i := i) r) (fun vs hv => wipe_set (hv i (by simp)))
theorem xg_name {i : Nat} {y : Str} {p : Pos} (h : PG X (.Name y p) (gName i)) : XG X Λ (.Name y p) (gN i) [i] := ⟨fun _ => ⟨_, h, snd_gN⟩⟩
/-- several names -/
def gNs : List Nat → List D → List Sl → (List Sl → Prop) → Prop
  | [], [], env, q => q env
  | i :: is, d :: r, env, q => gNs is r (env.set i (.va d)) q
  | _, _, _, _ => False
def gNames : List Nat → TGs
  | [] => gNil
  | i :: is => gCons (gName i) (gNames is)
theorem snd_gNs : ∀ (is : List Nat) {env : List Sl} {W : Ow} {σ : L2.St} {H : Hp} {ds : List D} {vs : List V} {q : List Sl → Prop} {Q : L2.St → Hp → Prop}, StOk Λ env W σ H → RepL Λ.B (Λ.vis W H) ds vs → gNs is ds env q →
    (∀ env' σ', q env' → env'.length = env.length → StOk Λ env' W σ' H → (∀ us : List Nat, (∀ j ∈ is, j ∈ us) → wipe σ' us = wipe σ us) → Q σ' H) → gNames is vs σ H Q
  | [], env, W, σ, H, ds, vs, q, Q, S, r, h, k => by
    cases ds with
    | nil => exact ⟨r, k _ _ h rfl S fun _ _ => rfl⟩
    | cons d ds => exact h.elim
  | i :: is, env, W, σ, H, ds, vs, q, Q, S, r, h, k => by
    cases ds with
    | nil => exact h.elim
    | cons d rs =>
    obtain ⟨v, vr, rfl, r1, r2⟩ := r
    refine ⟨v, vr, rfl, ?_⟩
    refine snd_gNs is (S.put (i := i) r1) r2 h fun env' σ' hq hl S' hp => k env' σ' hq (hl.trans (List.length_set ..)) S' fun us hu => ?_
    rw [hp us fun j hj => hu j (List.mem_cons_of_mem _ hj)]
    exact wipe_set (hu i (by simp))
def gT (is : List Nat) : DG := fun d env q => match d with
  | .tup ds => gNs is ds env q
  | _ => False
theorem gNs_len : ∀ {is : List Nat} {ds : List D} {env : List Sl} {q : List Sl → Prop}, gNs is ds env q → ds.length = is.length
  | [], [], _, _, _ => rfl
  | i :: is, d :: r, _, _, h => by
    have := gNs_len (is := is) (ds := r) h
    simp [this]
structure XGs (X : Cx) (es : List Expr) (is : List Nat) : Prop where
  ex : PGs X es (gNames is)
theorem xgs_nil : XGs X [] [] := ⟨pgs_nil⟩
theorem xgs_cons {i : Nat} {is : List Nat} {y : Str} {p : Pos} (h : PG X (.Name y p) (gName i)) (hs : XGs X es is) (he : (assignEach (.Name y p :: es) X.env).map (·.2) = assign (.Name y p) X.env :: (assignEach es X.env).map (·.2) := by rfl) : XGs X (.Name y p :: es) (i :: is) := ⟨pgs_cons h hs.ex he⟩
theorem xg_tup {is : List Nat} {k n : Nat} (hc : X.calm = true) (h : XGs X es is) (hn : (assignEach es X.env).length = n := by rfl) (hst : (assignEach es X.env).findIdx? (·.1) = none := by rfl) (hl : n = is.length := by rfl) :
    XG X Λ (.Tuple es k pos) (gT is) is := ⟨fun hK => ⟨_, pg_tup hc h.ex hn hst, fun env W σ H d v q Q S r h k => by
  cases d with
  | tup ds =>
    obtain ⟨a, vs, rfl, h1, h2⟩ := r
    refine ⟨a, vs, rfl, by rw [hK]; exact Same_seqT hid_le h1, by rw [h2.len, gNs_len h, hl], snd_gNs is S h2 h k⟩
  | _ => exact h.elim⟩⟩
/-! ### assignments -/
def dAsg (t : DE) (g : DG) : DS := fun env e => t env (fun d => g d env e.nx) (e.ex env)
theorem snd_asg {r : TE} {g : TG} {f : DG} {js : List Nat} (hr : Snd Λ w r t) (hg : SndG Λ g f js) : SndS Λ w (tAsg r g) (dAsg t f) := fun env W σ H E e S L h =>
  hr env W σ H _ _ _ S L.xok h fun d v H' q S' ev rp => hg env W σ H' d v _ _ S' rp q fun env' σ' q2 _ S2 _ => L.nx env' W σ' H' q2 S2 ev.vis
theorem xs_asg {tg : Expr} {f : DG} {js : List Nat} (he : XE X Λ w a t) (hg : XG X Λ tg f js) (hs : swapsWithSole [tg] a pos.line X.env = pure false := by rfl) (hw : swappedStores [tg] a X.env = pure none := by rfl)
    (h1 : (assignEach [tg] X.env).map (·.2) = [assign tg X.env] := by rfl) : XS X Λ w (.Assign [tg] a pos) (dAsg t f) := ⟨fun hK => by
  obtain ⟨r, p, s⟩ := he.ex hK
  obtain ⟨r', p', s'⟩ := hg.ex hK
  exact ⟨_, ps_asg p p' hs hw h1, snd_asg s s'⟩⟩
abbrev dSet (i : Nat) (t : DE) : DS := dAsg t (gN i)
theorem xs_set {i : Nat} {y : Str} {p : Pos} (hN : X.N.Nodup) (hi : X.N[i]? = some y) (hx : Loc X.env.scope y) (he : XE X Λ w a t) (hs : swapsWith a (some (.Name y p)) pos.line X.env = pure false := by rfl) (hf : X.fn y = true ∨ X.env.scope.names.lookup y = some .local := by first | exact .inl rfl | exact .inr rfl | assumption) :
    XS X Λ w (.Assign [.Name y p] a pos) (dSet i t) := ⟨fun hK => by
  obtain ⟨r, pp, s⟩ := he.ex hK
  exact ⟨_, ps_set hN hi hx pp hs hf, snd_asg s snd_gN⟩⟩
/-- a name is given a new list, its own -/
def dSetO (i : Nat) (u : DA) : DS := fun env e => u env (fun ds => i < env.length ∧ e.nx (env.set i (.ow ds))) (e.ex env)
theorem snd_setO {r : TE} {u : DA} {i : Nat} (hr : SndL Λ w r u) : SndS Λ w (tAsg r (gName i)) (dSetO i u) := fun env W σ H E e S L h =>
  hr env W σ H _ _ _ S L.xok h fun ds p vs H' q S' ev hp hq rp => by
    obtain ⟨S2, s2⟩ := S.putOwn S' ev hp hq rp q.1
    exact L.nx _ _ _ _ q.2 S2 s2
theorem xs_setO {u : DA} {i : Nat} {y : Str} {p : Pos} (hN : X.N.Nodup) (hi : X.N[i]? = some y) (hx : Loc X.env.scope y) (he : XL X Λ w a u) (hs : swapsWith a (some (.Name y p)) pos.line X.env = pure false := by rfl) (hf : X.fn y = true ∨ X.env.scope.names.lookup y = some .local := by first | exact .inl rfl | exact .inr rfl | assumption) :
    XS X Λ w (.Assign [.Name y p] a pos) (dSetO i u) := ⟨fun hK => by
  obtain ⟨r, pp, s⟩ := he.ex hK
  exact ⟨_, ps_set hN hi hx pp hs hf, snd_setO s⟩⟩
/-- a, b = e, f -/
def dPar (i j : Nat) (u : DA) : DS := fun env e => u env (fun ds => match ds with
  | [d1, d2] => e.nx ((env.set i (.va d1)).set j (.va d2))
  | _ => False) (e.ex env)
theorem xs_par {u : DA} {i j : Nat} {x y : Str} {px py pt : Pos} {kt k2 pt2} (hc : X.calm = true) (hN : X.N.Nodup) (hi : X.N[i]? = some x) (hj : X.N[j]? = some y) (hij : i ≠ j)
    (hx : X.env.scope.names.lookup x = some .local) (hy : X.env.scope.names.lookup y = some .local) (ha : XA X Λ w [a, b] u)
    (hw : swappedStores [.Tuple [.Name x px, .Name y py] kt pt] (.Tuple [a, b] k2 pt2) X.env = pure (some [x, y]))
    (hs : swapsWithSole [.Tuple [.Name x px, .Name y py] kt pt] (.Tuple [a, b] k2 pt2) pos.line X.env = pure false := by rfl) :
    XS X Λ w (.Assign [.Tuple [.Name x px, .Name y py] kt pt] (.Tuple [a, b] k2 pt2) pos) (dPar i j u) := ⟨fun hK => by
  obtain ⟨r, p, s⟩ := ha.ex hK
  refine ⟨_, ps_par hc hN hi hj hij hx hy p hw hs, fun env W σ H E e S L h => s env W σ H _ _ _ S L.xok h fun ds vs H' q S' ev rp => ?_⟩
  split at q
  case h_2 => exact q.elim
  rename_i d1 d2
  obtain ⟨v1, vr, rfl, r1, v2, vr2, rfl, r2, r3⟩ := rp
  cases (show vr2 = [] from r3)
  refine ⟨v1, v2, rfl, ?_⟩
  have S2 := S'.put (i := i) r1
  have S3 := S2.put (i := j) r2
  exact L.nx _ _ _ _ q S3 ev.vis⟩
/-- a, b, c = e, f, g -/
def dPar3 (i j l : Nat) (u : DA) : DS := fun env e => u env (fun ds => match ds with
  | [d1, d2, d3] => e.nx (((env.set i (.va d1)).set j (.va d2)).set l (.va d3))
  | _ => False) (e.ex env)
theorem xs_par3 {u : DA} {i j l : Nat} {x y z : Str} {px py pz pt : Pos} {kt k2 pt2} (hcalm : X.calm = true) (hN : X.N.Nodup) (hi : X.N[i]? = some x) (hj : X.N[j]? = some y) (hl : X.N[l]? = some z) (hij : i ≠ j) (hil : i ≠ l) (hjl : j ≠ l)
    (hx : X.env.scope.names.lookup x = some .local) (hy : X.env.scope.names.lookup y = some .local) (hz : X.env.scope.names.lookup z = some .local) (ha : XA X Λ w [a, b, c] u)
    (hw : swappedStores [.Tuple [.Name x px, .Name y py, .Name z pz] kt pt] (.Tuple [a, b, c] k2 pt2) X.env = pure (some [x, y, z]))
    (hs : swapsWithSole [.Tuple [.Name x px, .Name y py, .Name z pz] kt pt] (.Tuple [a, b, c] k2 pt2) pos.line X.env = pure false := by rfl) :
    XS X Λ w (.Assign [.Tuple [.Name x px, .Name y py, .Name z pz] kt pt] (.Tuple [a, b, c] k2 pt2) pos) (dPar3 i j l u) := ⟨fun hK => by
  obtain ⟨r, p, s⟩ := ha.ex hK
  refine ⟨_, ps_par3 hcalm hN hi hj hl hij hil hjl hx hy hz p hw hs, fun env W σ H E e S L h => s env W σ H _ _ _ S L.xok h fun ds vs H' q S' ev rp => ?_⟩
  split at q
  case h_2 => exact q.elim
  rename_i d1 d2 d3
  obtain ⟨v1, vr, rfl, r1, v2, vr2, rfl, r2, v3, vr3, rfl, r3, r4⟩ := rp
  cases (show vr3 = [] from r4)
  refine ⟨v1, v2, v3, rfl, ?_⟩
  have S2 := S'.put (i := i) r1
  have S3 := S2.put (i := j) r2
  have S4 := S3.put (i := l) r3
  exact L.nx _ _ _ _ q S4 ev.vis⟩
/-! ### own lists: they stand still from now on; they grow; they change -/
def dFrz (i : Nat) (t : DS) : DS := fun env e => match env[i]? with
  | some (.ow ds) => t (env.set i (.va (.lst ds))) e
  | _ => t env e
theorem snd_frz {i : Nat} {r : TS} (h : SndS Λ w r ts) : SndS Λ w r (dFrz i ts) := fun env W σ H E e S L hh => by
  unfold dFrz at hh
  split at hh
  · rename_i ds hd
    obtain ⟨S2, s2⟩ := S.freeze hd
    exact h _ _ σ H E e S2 (L.on s2) hh
  · exact h env W σ H E e S L hh
theorem xs_frz (i : Nat) (h : XS X Λ w st ts) : XS X Λ w st (dFrz i ts) := ⟨fun hK => by
  obtain ⟨r, p, s⟩ := h.ex hK
  exact ⟨_, p, snd_frz s⟩⟩
theorem own_at {env : List Sl} {W : Ow} {σ : L2.St} {H : Hp} {i : Nat} {ds : List D} (S : StOk Λ env W σ H) (h : env[i]? = some (.ow ds)) :
    ∃ p vs, W i = some p ∧ σ[i]? = some (some (.ref p)) ∧ H p = some (.lst vs) ∧ RepL Λ.B (Λ.vis W H) ds vs ∧ ¬ Λ.M p := S.sl i _ h
theorem mut_own {env : List Sl} {W : Ow} {σ : L2.St} {H : Hp} {i : Nat} {ds ds' : List D} {p : Addr} {vs' : List V} (S : StOk Λ env W σ H) (h : env[i]? = some (.ow ds)) (hw : W i = some p) (hp : H p ≠ none) (hm : ¬ Λ.M p) (hs : σ[i]? = some (some (.ref p))) (r : RepL Λ.B (Λ.vis W H) ds' vs') :
    StOk Λ (env.set i (.ow ds')) W σ (upd H p (.lst vs')) ∧ Same (Λ.vis W H) (Λ.vis W (upd H p (.lst vs'))) := by
  have v1 : Same (Λ.vis W H) (Λ.vis W (upd H p (.lst vs'))) := hid_grow fun a u g ha => ⟨g, by rw [upd_ne (show a ≠ p from fun z => g (.inr (.inr ⟨i, by rw [z]; exact hw⟩)))]; exact ha⟩
  exact S.mut hw (s := .ow ds') ⟨p, vs', hw, hs, upd_same, r.up v1, hm⟩ (List.getElem?_eq_some_iff.mp h).1
def dApp (i : Nat) (t : DE) : DS := fun env e => match env[i]? with
  | some (.ow ds) => t env (fun d => ds.length < 100000 ∧ e.nx (env.set i (.ow (ds ++ [d])))) (e.ex env)
  | _ => False
theorem xs_app {i : Nat} {y : Str} {p1 p2 p3 : Pos} (ho : PE X (.Name y p1) (tVar i)) (he : XE X Λ w a t)
    (hbase : attributeBase (.Name y p1) "append" X.env (eval (.Name y p1) X.env) = eval (.Name y p1) X.env := by rfl)
    (hfew : ((backTo p3 (starEach [a] X.env)).all (fun x => !x.1) && (backToKw p3 (keywordEach [] X.env)).all (fun x => x.1.isSome)
      && decide ([a].length + ([] : List Keyword).length + (if ([] : List Keyword).isEmpty then 0 else 1) < 30)) = true := by rfl)
    (hline : (p2.endLine == p3.line) = true := by rfl) (hs1 : starEach [a] X.env = (false, eval a X.env) :: starEach [] X.env := by rfl) (hplain : (backTo p3 (starEach [] X.env)).any (·.1) = false := by rfl)
    (hs : swapsWith (.Call (.Attribute (.Name y p1) "append" p2) [a] [] p3) none pos.line X.env = pure false := by rfl) :
    XS X Λ w (.Expr (.Call (.Attribute (.Name y p1) "append" p2) [a] [] p3) pos) (dApp i t) := ⟨fun hK => by
  obtain ⟨r, p, s⟩ := he.ex hK
  refine ⟨_, ps_expr (pe_bm PySem.F.plainAttrs_list PySem.F.slot_list_append PySem.F.type_list_append mt_append ho (pa_cons p pa_nil hs1) hbase hfew hline hs1 hplain) hs, fun env W σ H E e S L h => ?_⟩
  unfold dApp at h
  split at h
  · rename_i ds hd
    obtain ⟨l, vs, hw, hσ, hl, rl, hm⟩ := own_at S hd
    refine ⟨_, hσ, .inl ⟨rfl, _, sqL_of hl⟩, s env W σ H _ _ _ S L.xok h fun d v H' q S' ev rp => ?_⟩
    have hl' := ev.own i l _ hw hl
    refine ⟨l, vs, v, rfl, rfl, hl', by rw [rl.len]; exact szl q.1, ?_⟩
    obtain ⟨S2, s2⟩ := mut_own S' hd hw (by rw [hl']; simp) hm hσ ((rl.up ev.vis).app (.one rp))
    exact L.nx _ _ _ _ q.2 S2 (ev.vis.trans s2)
  · exact h.elim⟩
/-- xs.pop() alone -/
def dPop (i : Nat) : DS := fun env e => match env[i]? with
  | some (.ow ds) => ds ≠ [] ∧ e.nx (env.set i (.ow ds.dropLast))
  | _ => False
theorem RepL.dropLast {B : Tb} {H : Hp} {ds : List D} {vs : List V} (h : RepL B H ds vs) : RepL B H ds.dropLast vs.dropLast := by
  rw [List.dropLast_eq_take, List.dropLast_eq_take, h.len]
  exact h.take _
theorem xs_pop {i : Nat} {y : Str} {p1 p2 p3 : Pos} (ho : PE X (.Name y p1) (tVar i))
    (hbase : attributeBase (.Name y p1) "pop" X.env (eval (.Name y p1) X.env) = eval (.Name y p1) X.env := by rfl) (hline : (p2.endLine == p3.line) = true := by rfl)
    (hs : swapsWith (.Call (.Attribute (.Name y p1) "pop" p2) [] [] p3) none pos.line X.env = pure false := by rfl) :
    XS X Λ w (.Expr (.Call (.Attribute (.Name y p1) "pop" p2) [] [] p3) pos) (dPop i) := ⟨fun hK => by
  refine ⟨_, ps_expr (pe_bm0 PySem.F.plainAttrs_list PySem.F.slot_list_pop PySem.F.type_list_pop mt_pop ho hbase hline) hs, fun env W σ H E e S L h => ?_⟩
  unfold dPop at h
  split at h
  · rename_i ds hd
    obtain ⟨l, vs, hw, hσ, hl, rl, hm⟩ := own_at S hd
    have hne : 0 < vs.length := by
      rw [rl.len]
      exact List.length_pos_iff.mpr h.1
    refine ⟨_, hσ, .inl ⟨rfl, _, sqL_of hl⟩, l, vs, vs[vs.length - 1]'(by omega), rfl, rfl, hl, List.getElem?_eq_getElem (by omega), ?_⟩
    obtain ⟨S2, s2⟩ := mut_own S hd hw (by rw [hl]; simp) hm hσ rl.dropLast
    exact L.nx _ _ _ _ h.2 S2 s2
  · exact h.elim⟩
/-- xs[i] = e -/
def dSub (i : Nat) (ti t : DE) : DS := fun env e => match env[i]? with
  | some (.ow ds) => t env (fun d => ti env (fun k => ∃ n j, k = .int n ∧ ixN ds.length n = some j ∧ e.nx (env.set i (.ow (ds.set j d)))) (e.ex env)) (e.ex env)
  | _ => False
theorem xs_sub {i : Nat} {ti : DE} (hi : XE X Λ w b ti) (he : XE X Λ w a t) (f : ∀ {te : TE} {r : TE}, PE X a te → PE X b r → PS X st (tAsg te (gSub (tVar i) r rSetL))) : XS X Λ w st (dSub i ti t) := ⟨fun hK => by
  obtain ⟨r, p, s⟩ := he.ex hK
  obtain ⟨r', p', s'⟩ := hi.ex hK
  refine ⟨_, f p p', fun env W σ H E e S L h => ?_⟩
  unfold dSub at h
  split at h
  · rename_i ds hd
    obtain ⟨l, vs, hw, hσ, hl, rl, hm⟩ := own_at S hd
    refine s env W σ H _ _ _ S L.xok h fun d v H1 q S1 e1 r1 => ⟨_, hσ, s' env W σ H1 _ _ _ S1 (L.xok.on e1) q fun d2 v2 H2 q2 S2 e2 r2 => ?_⟩
    obtain ⟨n, j, rfl, hj, q2⟩ := q2
    have hl' := (e1.trans e2).own i l _ hw hl
    refine ⟨l, vs, n, j, rfl, r2, hl', by rw [rl.len]; exact hj, ?_⟩
    obtain ⟨S3, s3⟩ := mut_own S2 hd hw (by rw [hl']; simp) hm hσ ((rl.up (e1.trans e2).vis).set (i := j) (r1.up e2.vis))
    exact L.nx _ _ _ _ q2 S3 ((e1.trans e2).vis.trans s3)
  · exact h.elim⟩
/-! ### loops -/
def dWhile (c : DT) (b : DS) : DS := fun env e => ∃ P : Nat → List Sl → Prop, (∃ m, P m env) ∧ ∀ m env, P m env → c env (fun k => iteB k
    (b env { e with nx := fun env' => ∃ m', m' < m ∧ P m' env', ct := fun env' => ∃ m', m' < m ∧ P m' env', bk := e.nx }) (e.nx env)) (e.ex env)
theorem xs_while {body : List Stmt} (hp : PassesOwn (model X.prog X.w) X.A X.env X.xe) (hc : XT X Λ w c tA) (hb : XSs X Λ w body ts) : XS X Λ w (.While c body [] pos) (dWhile tA ts) := ⟨fun hK => by
  obtain ⟨rc, pc, sc⟩ := hc.ex hK
  obtain ⟨r1, p1, q1⟩ := hb.ex hK
  refine ⟨_, ps_while hp pc p1, fun env W σ H E e S L h => ?_⟩
  obtain ⟨P, ⟨m0, h0⟩, turn⟩ := h
  refine ⟨fun m σ' H' => ∃ env' W', StOk Λ env' W' σ' H' ∧ Same (Λ.vis W H) (Λ.vis W' H') ∧ P m env', ⟨m0, env, W, S, Same.refl _, h0⟩, ?_⟩
  rintro m σ' H' ⟨env', W', S', s', hm⟩
  refine sc env' W' σ' H' _ _ _ S' (L.on s').xok (turn m env' hm) fun b H1 hb S1 e1 => ?_
  cases b with
  | true =>
    refine ⟨fun σ2 H2 => ∃ m', m' < m ∧ ∃ env2 W2, StOk Λ env2 W2 σ2 H2 ∧ Same (Λ.vis W H) (Λ.vis W2 H2) ∧ P m' env2, fun _ _ z => z, ?_⟩
    have L1 := L.on (s'.trans e1.vis)
    refine q1 env' W' σ' H1 _ { e with nx := fun env' => ∃ m', m' < m ∧ P m' env', ct := fun env' => ∃ m', m' < m ∧ P m' env', bk := e.nx } S1 ⟨fun env2 W2 σ2 H2 a S2 s2 => ?_, fun env2 W2 σ2 H2 a S2 s2 => L1.nx _ _ _ _ a S2 s2, fun env2 W2 σ2 H2 a S2 s2 => ?_, L1.rt, L1.ex⟩ hb
    · obtain ⟨m', lt, hm'⟩ := a
      exact ⟨m', lt, env2, W2, S2, (s'.trans e1.vis).trans s2, hm'⟩
    · obtain ⟨m', lt, hm'⟩ := a
      exact ⟨m', lt, env2, W2, S2, (s'.trans e1.vis).trans s2, hm'⟩
  | false => exact L.nx _ _ _ _ hb S1 (s'.trans e1.vis)⟩
def loopD (g : DG) (b : DS) (e : DEnds) : List D → List Sl → Prop
  | [], env => e.nx env
  | d :: ds, env => g d env fun env' => b env' { e with nx := loopD g b e ds, ct := loopD g b e ds, bk := e.nx }
def dFor (it : DA) (g : DG) (b : DS) : DS := fun env e => it env (fun ds => loopD g b e ds env) (e.ex env)
theorem xs_for {tg iter : Expr} {body : List Stmt} {it : DA} {g : DG} {js : List Nat} (hp : PassesOwn (model X.prog X.w) X.A X.env X.xe) (hc : X.calm = true) (hi : XI X Λ w tg iter it) (hg : XG X Λ tg g js) (hb : XSs X Λ w body ts)
    (hs : ∀ x, foldedSetIterable iter X.env x = pure x := by intro _; rfl) : XS X Λ w (.For tg iter body [] pos) (dFor it g ts) := ⟨fun hK => by
  obtain ⟨ri, pi, si⟩ := hi.ex hK
  obtain ⟨rg, pg, sg⟩ := hg.ex hK
  obtain ⟨rb, pb, sb⟩ := hb.ex hK
  refine ⟨_, ps_for hp hc pi pg pb hs, fun env W σ H E e S L h => si env W σ H _ _ _ S L.xok h fun ds J H1 h1 S1 e1 J1 => ?_⟩
  refine ⟨fun i m σ' H' => m = ds.length - i ∧ i ≤ ds.length ∧ ∃ env' W', StOk Λ env' W' σ' H' ∧ Same (Λ.vis W H1) (Λ.vis W' H') ∧ loopD g ts e (ds.drop i) env', ⟨ds.length, by simp, Nat.zero_le _, env, W, S1, Same.refl _, h1⟩, ?_⟩
  rintro i m σ' H' ⟨rfl, hi, env', W', S', s', hl⟩
  by_cases hlt : i < ds.length
  · refine .inr ⟨J1.go i env' W' σ' H' hlt S' s', fun σ2 H2 => ∃ env2 W2, StOk Λ env2 W2 σ2 H2 ∧ Same (Λ.vis W H1) (Λ.vis W2 H2) ∧ loopD g ts e (ds.drop (i + 1)) env2, fun σ2 H2 ⟨env2, W2, z⟩ => ⟨ds.length - (i + 1), by omega, rfl, hlt, env2, W2, z⟩, fun x H2 y => ?_⟩
    obtain ⟨sm, d, hd, rd⟩ := J1.yld i x env' W' σ' H' H2 hlt S' s' y
    rw [List.drop_eq_getElem_cons hlt] at hl
    have ed : ds[i] = d := by
      rw [List.getElem?_eq_getElem hlt] at hd
      exact Option.some.inj hd
    rw [ed] at hl
    have S2 := S'.grow sm
    have s2 : Same (Λ.vis W H1) (Λ.vis W' H2) := s'.trans (vis_same sm)
    refine sg env' W' σ' H2 d x _ _ S2 rd hl fun env3 σ3 q3 _ S3 _ => ?_
    have s13 := s2
    have L3 := L.on (e1.vis.trans s13)
    exact sb env3 W' σ3 H2 _ { e with nx := loopD g ts e (ds.drop (i + 1)), ct := loopD g ts e (ds.drop (i + 1)), bk := e.nx } S3 ⟨fun env4 W4 σ4 H4 a S4 s4 => ⟨env4, W4, S4, s13.trans s4, a⟩, fun env4 W4 σ4 H4 a S4 s4 => L3.nx _ _ _ _ a S4 s4, fun env4 W4 σ4 H4 a S4 s4 => ⟨env4, W4, S4, s13.trans s4, a⟩, L3.rt, L3.ex⟩ q3
  · have ei : i = ds.length := by omega
    subst ei
    rw [List.drop_length] at hl
    exact .inl ⟨J1.stop env' W' σ' H' S' s', L.nx _ _ _ _ hl S' (e1.vis.trans s')⟩⟩
/-! ### comprehensions -/
def wipeE (env : List Sl) : List Nat → List Sl
  | [] => env
  | v :: vs => (wipeE env vs).set v .un
def lcD (g : DG) (t : DT) (u : DE) (env : List Sl) (q : List D → Prop) : List D → List D → Prop
  | [], acc => q acc
  | d :: ds, acc => g d env fun env' => t env' (fun b => iteB b (u env' (fun y => acc.length < 100000 ∧ lcD g t u env q ds (acc ++ [y])) (fun _ => False)) (lcD g t u env q ds acc)) (fun _ => False)
def dLc (it : DA) (g : DG) (t : DT) (u : DE) (vs : List Nat) : DA := fun env q x => it env (fun ds => lcD g t u (wipeE env vs) q ds []) x
theorem wipe_wipe (σ : L2.St) (vs : List Nat) : wipe (wipe σ vs) vs = wipe σ vs := by
  have : ∀ us : List Nat, (∀ u ∈ us, u ∈ vs) → wipe (wipe σ us) vs = wipe σ vs := by
    intro us
    induction us with
    | nil => intro _; rfl
    | cons u us ih =>
      intro h
      show wipe ((wipe σ us).set u none) vs = _
      rw [wipe_set (h u (by simp))]
      exact ih fun z hz => h z (List.mem_cons_of_mem _ hz)
  exact this vs fun _ h => h
theorem StOk.wipe {env : List Sl} {W : Ow} {σ : L2.St} {H : Hp} (S : StOk Λ env W σ H) : ∀ vs : List Nat, StOk Λ (wipeE env vs) W (wipe σ vs) H
  | [] => S
  | v :: vs => (S.wipe vs).forget
theorem wipeE_len (env : List Sl) : ∀ vs, (wipeE env vs).length = env.length
  | [] => rfl
  | v :: vs => by unfold wipeE; rw [List.length_set, wipeE_len env vs]
def w0 : WX := fun _ _ _ _ => False
def dYes : DT := fun _ q _ => q true
theorem xts_nil : XTs X Λ w [] dYes := ⟨fun _ => ⟨_, pts_nil, fun env W σ H Q q x S hx h k => k true H h S .refl⟩⟩
theorem xts_one (h : XT X Λ w c tA) : XTs X Λ w [c] tA := ⟨fun hK => by
  obtain ⟨r, p, s⟩ := h.ex hK
  exact ⟨_, pts_one p, s⟩⟩
theorem snd_lc {wi : TI} {g : TG} {tt : TT} {te : TE} {it : DA} {gd : DG} {td : DT} {ud : DE} {vs js : List Nat} (hi : SndI Λ w wi it) (hg : SndG Λ g gd js) (ht : SndT Λ w0 tt td) (he : Snd Λ w0 te ud) (hjs : ∀ j ∈ js, j ∈ vs) :
    SndL Λ w (tLc wi g tt te vs) (dLc it gd td ud vs) := fun env W σ H Q q x S hx h k => hi env W σ H _ _ x S hx h fun ds J H1 h1 S1 e1 J1 Dl hD => by
  obtain ⟨n0, hn0⟩ := S1.wf
  -- the new list is hidden at a place beyond the slots
  let n := n0 + env.length
  have hn : W n = none := hn0 n (by omega)
  have hE : env.length ≤ n := by omega
  have up1 : Same H1 (upd H1 Dl (.lst [])) := same_new hD
  obtain ⟨S2, v1, v2⟩ := S1.hide (S1.grow up1) (.of up1) (i := n) (p := Dl) hD (by rw [upd_same]; simp) (.inl ⟨hE, hn⟩)
  have en : env.set n .un = env := List.set_eq_of_length_le hE
  rw [en] at S2
  have hnW : ∀ j, j ≠ n → W j = wput W n (some Dl) j := fun j hj => (wput_ne hj).symm
  have hW2 : wput W n (some Dl) n = some Dl := wput_same rfl
  have sub : ∀ j p, W j = some p → wput W n (some Dl) j = some p := fun j p e => by
    by_cases z : j = n
    · rw [z, hn] at e; cases e
    · rw [wput_ne z]; exact e
  generalize wput W n (some Dl) = W2 at *
  have nm : ¬ Λ.M Dl := fun z => S1.mx _ z hD
  have ww : wipe (wipe σ vs) vs = wipe σ vs := wipe_wipe σ vs
  refine ⟨fun i m H' => m = ds.length - i ∧ i ≤ ds.length ∧ StOk Λ env W2 σ H' ∧ Same (Λ.vis W H1) (Λ.vis W2 H') ∧ (∀ j p o, W j = some p → H1 p = some o → H' p = some o) ∧ (∀ b, H1 b ≠ none → H' b ≠ none) ∧
    ∃ acc vs', H' Dl = some (.lst vs') ∧ RepL Λ.B (Λ.vis W2 H') acc vs' ∧ lcD gd td ud (wipeE env vs) q (ds.drop i) acc, ⟨ds.length, by simp, Nat.zero_le _, S2, v1, fun j p o _ h => up1 _ _ h, fun b h => some_mono up1 h, [], [], upd_same, rfl, h1⟩, ?_⟩
  rintro i m H' ⟨rfl, hi, S', s', own', all', acc, vs', hDl, racc, hl⟩
  by_cases hlt : i < ds.length
  · refine .inr ⟨J1.go i env W2 σ H' hlt S' s', fun H2 => StOk Λ env W2 σ H2 ∧ Same (Λ.vis W H1) (Λ.vis W2 H2) ∧ (∀ j p o, W j = some p → H1 p = some o → H2 p = some o) ∧ (∀ b, H1 b ≠ none → H2 b ≠ none) ∧
      ∃ acc vs', H2 Dl = some (.lst vs') ∧ RepL Λ.B (Λ.vis W2 H2) acc vs' ∧ lcD gd td ud (wipeE env vs) q (ds.drop (i + 1)) acc, fun H2 z => ⟨ds.length - (i + 1), by omega, rfl, hlt, z⟩, fun y H2 hy => ?_⟩
    obtain ⟨sm, d, hd, rd⟩ := J1.yld i y env W2 σ H' H2 hlt S' s' hy
    rw [List.drop_eq_getElem_cons hlt] at hl
    have ed : ds[i] = d := by
      rw [List.getElem?_eq_getElem hlt] at hd
      exact Option.some.inj hd
    rw [ed] at hl
    have Sg := S'.grow sm
    have e0 : Ev Λ W2 H' H2 := .of sm
    refine hg (wipeE env vs) W2 (wipe σ vs) H2 d y _ _ (Sg.wipe vs) rd hl fun env3 σ3 q3 len3 S3 hp3 => ⟨by rw [hp3 vs hjs, ww], ?_⟩
    refine ht env3 W2 σ3 H2 _ _ _ S3 (fun _ _ _ _ z => z.elim) q3 fun b H3 hb S3' e3 => ?_
    have e03 := e0.trans e3
    cases b with
    | true =>
      refine he env3 W2 σ3 H3 _ _ _ S3' (fun _ _ _ _ z => z.elim) hb fun z v4 H4 h4 S4 e4 r4 => ?_
      have e04 := e03.trans e4
      have hD4 := e04.own n Dl _ hW2 hDl
      have S4' : StOk Λ env W2 σ H4 := S'.ev S4 e04
      refine ⟨vs', hD4, by rw [racc.len]; exact szl h4.1, S4'.mutV hW2 hE nm, ?_, ?_, ?_, acc ++ [z], vs' ++ [v4], upd_same, ?_, h4.2⟩
      · refine (s'.trans e04.vis).trans (hid_grow fun b u g hb2 => ⟨g, by rw [upd_ne (show b ≠ Dl from fun z => g (.inr (.inr ⟨n, by rw [z]; exact hW2⟩)))]; exact hb2⟩)
      · intro j p o hj hp
        rw [upd_ne (ne_of_none hp hD)]
        exact e04.own j p o (sub j p hj) (own' j p o hj hp)
      · intro b hb2
        by_cases z : b = Dl
        · rw [z, upd_same]; simp
        · rw [upd_ne z]
          exact e04.all b (all' b hb2)
      · have v5 : Same (Λ.vis W2 H4) (Λ.vis W2 (upd H4 Dl (.lst (vs' ++ [v4])))) := hid_grow fun b u g hb2 => ⟨g, by rw [upd_ne (show b ≠ Dl from fun z => g (.inr (.inr ⟨n, by rw [z]; exact hW2⟩)))]; exact hb2⟩
        exact ((racc.up e04.vis).app (.one r4)).up v5
    | false =>
      have S4' : StOk Λ env W2 σ H3 := S'.ev S3' e03
      exact ⟨S4', s'.trans e03.vis, fun j p o hj hp => e03.own j p o (sub j p hj) (own' j p o hj hp), fun b hb2 => e03.all b (all' b hb2), acc, vs', e03.own n Dl _ hW2 hDl, racc.up e03.vis, hb⟩
  · have ei : i = ds.length := by omega
    subst ei
    rw [List.drop_length] at hl
    refine .inl ⟨J1.stop env W2 σ H' S' s', ?_⟩
    have gsub : ∀ b, Λ.G W b → Λ.G W2 b := fun b g => by
      rcases g with z | z | ⟨j, z⟩
      · exact .inl z
      · exact .inr (.inl z)
      · exact .inr (.inr ⟨j, sub j b z⟩)
    have v6 : Same (Λ.vis W2 H') (Λ.vis W H') := hid_anti gsub
    refine k acc Dl vs' H' hl (S'.show_ hE hnW hn) (e1.trans ⟨s'.trans v6, own', all'⟩) (e1.free hD) hDl (racc.up fun b o hb2 => ?_)
    obtain ⟨g, hb3⟩ := hid_some.mp hb2
    exact hid_some.mpr ⟨fun z => g (.inr (.inr ⟨n, by rw [z]; exact hW2⟩)), hid_some.mpr ⟨fun z => g (gsub b z), hb3⟩⟩
/-! the weakest reading of a thing without a heap: it is one for all contexts -/
def teOf (Λ : Lx) (w : WX) (t : DE) : TE := fun σ H Q => ∃ env W q x, StOk Λ env W σ H ∧ XOk Λ w env W σ H x ∧ t env q x ∧ (∀ d v H', q d → StOk Λ env W σ H' → Ev Λ W H H' → Rep Λ.B (Λ.vis W H') d v → Q v H')
def ttOf (Λ : Lx) (w : WX) (t : DT) : TT := fun σ H Q => ∃ env W q x, StOk Λ env W σ H ∧ XOk Λ w env W σ H x ∧ t env q x ∧ (∀ b H', q b → StOk Λ env W σ H' → Ev Λ W H H' → Q b H')
def tgOf (Λ : Lx) (t : DG) (js : List Nat) : TG := fun v σ H Q => ∃ env W d q, StOk Λ env W σ H ∧ Rep Λ.B (Λ.vis W H) d v ∧ t d env q ∧ (∀ env' σ', q env' → env'.length = env.length → StOk Λ env' W σ' H → (∀ vs : List Nat, (∀ j ∈ js, j ∈ vs) → wipe σ' vs = wipe σ vs) → Q σ' H)
theorem snd_teOf : Snd Λ w (teOf Λ w t) t := fun env W σ H Q q x S hx h k => ⟨env, W, q, x, S, hx, h, k⟩
theorem snd_ttOf : SndT Λ w (ttOf Λ w tA) tA := fun env W σ H Q q x S hx h k => ⟨env, W, q, x, S, hx, h, k⟩
theorem snd_tgOf {g : DG} {js : List Nat} : SndG Λ (tgOf Λ g js) g js := fun env W σ H d v q Q S r h k => ⟨env, W, d, q, S, r, h, k⟩
theorem XE.pe (h : XE X Λ w a t) (hK : X.K = Λ.B.K) : PE X a (teOf Λ w t) := by
  obtain ⟨r, p, s⟩ := h.ex hK
  exact ⟨fun pins s' σ H Q I ⟨env, W, q, x, S, hx, hh, k⟩ => p.run pins s' σ H Q I (s env W σ H Q q x S hx hh k)⟩
theorem XTs.pts (h : XTs X Λ w es tA) (hK : X.K = Λ.B.K) : PTs X es (ttOf Λ w tA) := by
  obtain ⟨r, p, s⟩ := h.ex hK
  exact ⟨fun pins s' σ H Q I ⟨env, W, q, x, S, hx, hh, k⟩ => p.run pins s' σ H Q I (s env W σ H Q q x S hx hh k)⟩
theorem XG.pg {g : DG} {js : List Nat} (h : XG X Λ a g js) (hK : X.K = Λ.B.K) : PG X a (tgOf Λ g js) := by
  obtain ⟨r, p, s⟩ := h.ex hK
  exact ⟨fun pins s' σ H v u Q I rv ⟨env, W, d, q, S, rp, hh, k⟩ => p.run pins s' σ H v u Q I rv (s env W σ H d v q Q S rp hh k)⟩
/-- [e for x in xs if t] -/
theorem xl_lc {tg iter elt : Expr} {ifs : List Expr} {scope : Scope} {own : List (Str × Nat)} {it : DA} {g : DG} {td : DT} {u : DE} {js : List Nat} (hc : X.calm = true) (hN : X.N.Nodup) (hi : XI X Λ w tg iter it) (ok : BlkOk X.N X.env.scope scope own)
    (hg : ∀ (s : Shared) (H : Hp) (C : Addr) (cl : List (Str × Addr)) (fp : List Addr), XG (X.blk s H scope (compEnvC scope cl C X.env) fp) Λ tg g js)
    (ht : ∀ (s : Shared) (H : Hp) (C : Addr) (cl : List (Str × Addr)) (fp : List Addr), XTs (X.blk s H scope (compEnvC scope cl C X.env) fp) Λ w0 ifs td)
    (he : ∀ (s : Shared) (H : Hp) (C : Addr) (cl : List (Str × Addr)) (fp : List Addr), XE (X.blk s H scope (compEnvC scope cl C X.env) fp) Λ w0 elt u)
    (hjs : ∀ j ∈ js, j ∈ own.map (·.2) := by decide) (hs : ∀ x, foldedSetIterable iter X.env x = pure x := by intro _; rfl) : XL X Λ w (.ListComp elt [⟨tg, iter, ifs, 0⟩] scope pos) (dLc it g td u (own.map (·.2))) := ⟨fun hK => by
  obtain ⟨ri, pi, si⟩ := hi.ex hK
  exact ⟨_, pe_lc hc hN pi ok (fun s H C cl fp => (hg s H C cl fp).pg hK) (fun s H C cl fp => (ht s H C cl fp).pts hK) (fun s H C cl fp => (he s H C cl fp).pe hK) hs, snd_lc si snd_tgOf snd_ttOf snd_teOf hjs⟩⟩
/-- y = [..] -/
theorem xs_lcX {i : Nat} {y : Str} {py spos : Pos} {tg iter elt : Expr} {ifs : List Expr} {scope : Scope} {own : List (Str × Nat)} {it : DA} {g : DG} {td : DT} {u : DE} {js : List Nat} (hc : X.calm = true) (hN : X.N.Nodup) (hy : X.N[i]? = some y) (hyl : X.env.scope.names.lookup y = some .local)
    (hsw : swapsWith (.ListComp elt [⟨tg, iter, ifs, 0⟩] scope pos) (some (.Name y py)) spos.line X.env = pure true) (hi : XI X Λ w tg iter it) (ok : BlkOk X.N X.env.scope scope own)
    (hg : ∀ (s : Shared) (H : Hp) (C : Addr) (cl : List (Str × Addr)) (fp : List Addr), XG (X.blk s H scope (compEnvC scope cl C X.env) fp) Λ tg g js)
    (ht : ∀ (s : Shared) (H : Hp) (C : Addr) (cl : List (Str × Addr)) (fp : List Addr), XTs (X.blk s H scope (compEnvC scope cl C X.env) fp) Λ w0 ifs td)
    (he : ∀ (s : Shared) (H : Hp) (C : Addr) (cl : List (Str × Addr)) (fp : List Addr), XE (X.blk s H scope (compEnvC scope cl C X.env) fp) Λ w0 elt u)
    (hjs : ∀ j ∈ js, j ∈ own.map (·.2) := by decide) (hs : ∀ x, foldedSetIterable iter X.env x = pure x := by intro _; rfl) (hK : X.K = Λ.B.K) :
    ∃ r : TE, PS X (.Assign [.Name y py] (.ListComp elt [⟨tg, iter, ifs, 0⟩] scope pos) spos) (tAsg r (gName i)) ∧ SndL Λ w r (dLc it g td u (own.map (·.2))) := by
  obtain ⟨ri, pi, si⟩ := hi.ex hK
  exact ⟨_, ps_setLc hc hN hy hyl hsw pi ok (fun s H C cl fp => (hg s H C cl fp).pg hK) (fun s H C cl fp => (ht s H C cl fp).pts hK) (fun s H C cl fp => (he s H C cl fp).pe hK) hs, snd_lc si snd_tgOf snd_ttOf snd_teOf hjs⟩
theorem xs_lcO {i : Nat} {y : Str} {py spos : Pos} {tg iter elt : Expr} {ifs : List Expr} {scope : Scope} {own : List (Str × Nat)} {it : DA} {g : DG} {td : DT} {u : DE} {js : List Nat} (hc : X.calm = true) (hN : X.N.Nodup) (hy : X.N[i]? = some y) (hyl : X.env.scope.names.lookup y = some .local)
    (hsw : swapsWith (.ListComp elt [⟨tg, iter, ifs, 0⟩] scope pos) (some (.Name y py)) spos.line X.env = pure true) (hi : XI X Λ w tg iter it) (ok : BlkOk X.N X.env.scope scope own)
    (hg : ∀ (s : Shared) (H : Hp) (C : Addr) (cl : List (Str × Addr)) (fp : List Addr), XG (X.blk s H scope (compEnvC scope cl C X.env) fp) Λ tg g js)
    (ht : ∀ (s : Shared) (H : Hp) (C : Addr) (cl : List (Str × Addr)) (fp : List Addr), XTs (X.blk s H scope (compEnvC scope cl C X.env) fp) Λ w0 ifs td)
    (he : ∀ (s : Shared) (H : Hp) (C : Addr) (cl : List (Str × Addr)) (fp : List Addr), XE (X.blk s H scope (compEnvC scope cl C X.env) fp) Λ w0 elt u)
    (hjs : ∀ j ∈ js, j ∈ own.map (·.2) := by decide) (hs : ∀ x, foldedSetIterable iter X.env x = pure x := by intro _; rfl) :
    XS X Λ w (.Assign [.Name y py] (.ListComp elt [⟨tg, iter, ifs, 0⟩] scope pos) spos) (dSetO i (dLc it g td u (own.map (·.2)))) := ⟨fun hK => by
  obtain ⟨r, p, s⟩ := xs_lcX (w := w) hc hN hy hyl hsw hi ok hg ht he hjs hs hK
  exact ⟨_, p, snd_setO s⟩⟩
theorem xs_lcV {i : Nat} {y : Str} {py spos : Pos} {tg iter elt : Expr} {ifs : List Expr} {scope : Scope} {own : List (Str × Nat)} {it : DA} {g : DG} {td : DT} {u : DE} {js : List Nat} (hc : X.calm = true) (hN : X.N.Nodup) (hy : X.N[i]? = some y) (hyl : X.env.scope.names.lookup y = some .local)
    (hsw : swapsWith (.ListComp elt [⟨tg, iter, ifs, 0⟩] scope pos) (some (.Name y py)) spos.line X.env = pure true) (hi : XI X Λ w tg iter it) (ok : BlkOk X.N X.env.scope scope own)
    (hg : ∀ (s : Shared) (H : Hp) (C : Addr) (cl : List (Str × Addr)) (fp : List Addr), XG (X.blk s H scope (compEnvC scope cl C X.env) fp) Λ tg g js)
    (ht : ∀ (s : Shared) (H : Hp) (C : Addr) (cl : List (Str × Addr)) (fp : List Addr), XTs (X.blk s H scope (compEnvC scope cl C X.env) fp) Λ w0 ifs td)
    (he : ∀ (s : Shared) (H : Hp) (C : Addr) (cl : List (Str × Addr)) (fp : List Addr), XE (X.blk s H scope (compEnvC scope cl C X.env) fp) Λ w0 elt u)
    (hjs : ∀ j ∈ js, j ∈ own.map (·.2) := by decide) (hs : ∀ x, foldedSetIterable iter X.env x = pure x := by intro _; rfl) :
    XS X Λ w (.Assign [.Name y py] (.ListComp elt [⟨tg, iter, ifs, 0⟩] scope pos) spos) (dSet i (dL (dLc it g td u (own.map (·.2))))) := ⟨fun hK => by
  obtain ⟨r, p, s⟩ := xs_lcX (w := w) hc hN hy hyl hsw hi ok hg ht he hjs hs hK
  exact ⟨_, p, snd_asg s.snd snd_gN⟩⟩
end
end Eb

/-! ## own layer: what is walked; operators, without a heap -/
namespace Eb
open PySem PySem.Spec PyProof.Rows L2
section
variable {X : Cx} {Λ : Lx} {w : WX} {a b c e tg : Expr} {es : List Expr} {ta tb tc t : DE} {tA tB : DT} {pos : Pos}
theorem same_get {W W' : Ow} {H H' : Hp} (s : Same (Λ.vis W H) (Λ.vis W' H')) {p : Addr} {o : HO} (h : Λ.vis W H p = some o) : H' p = some o := hid_le _ _ (s _ _ h)
def sqItems : D → (List D → Prop) → Prop
  | .lst ds, q => q ds
  | _, _ => False
def dItL (t : DE) : DA := fun env q x => t env (fun d => match d with
  | .lst ds => q ds
  | _ => False) x
def dItT (t : DE) : DA := fun env q x => t env (fun d => match d with
  | .tup ds => q ds
  | _ => False) x
theorem it_list {W : Ow} {H : Hp} {p : Addr} {vs : List V} {ds : List D} (h : Λ.vis W H p = some (.lst vs)) (r : RepL Λ.B (Λ.vis W H) ds vs) : ItOk Λ W H (Itl Λ.B.K p) ds where
  go := fun i env' W' σ' H' hi S s => by
    have h' : H' p = some (.lst vs) := hid_le _ _ (s _ _ h)
    obtain ⟨v, hv, _⟩ := r.get (List.getElem?_eq_getElem hi)
    exact ⟨vs, v, sqL_of h', hv⟩
  stop := fun env' W' σ' H' S s => ⟨vs, sqL_of (hid_le _ _ (s _ _ h)), by rw [r.len]; exact Nat.le_refl _⟩
  yld := fun i x env' W' σ' H' H'' hi S s y => by
    obtain ⟨rfl, y⟩ := y
    have h' : H'' p = some (.lst vs) := hid_le _ _ (s _ _ h)
    obtain ⟨d, hd, rd⟩ := r.geti (y vs (sqL_of h'))
    exact ⟨Same.refl _, d, hd, rd.up s⟩
theorem it_tup {W : Ow} {H : Hp} {p : Addr} {vs : List V} {ds : List D} (h : SqT Λ.B.K (Λ.vis W H) p vs) (r : RepL Λ.B (Λ.vis W H) ds vs) : ItOk Λ W H (Itt Λ.B.K p) ds where
  go := fun i env' W' σ' H' hi S s => by
    obtain ⟨v, hv, _⟩ := r.get (List.getElem?_eq_getElem hi)
    exact ⟨vs, v, Same_seqT hid_le (Same_seqT s h), hv⟩
  stop := fun env' W' σ' H' S s => ⟨vs, Same_seqT hid_le (Same_seqT s h), by rw [r.len]; exact Nat.le_refl _⟩
  yld := fun i x env' W' σ' H' H'' hi S s y => by
    obtain ⟨rfl, y⟩ := y
    obtain ⟨d, hd, rd⟩ := r.geti (y vs (Same_seqT hid_le (Same_seqT s h)))
    exact ⟨Same.refl _, d, hd, rd.up s⟩
theorem xi_list (h : XE X Λ w a t) : XI X Λ w tg a (dItL t) := ⟨fun hK => by
  obtain ⟨r, p, s⟩ := h.ex hK
  refine ⟨_, pi_list p, fun env W σ H R q x S hx hh k => s env W σ H _ _ x S hx hh fun d v H1 h1 S1 e1 r1 => ?_⟩
  cases d with
  | lst ds =>
    obtain ⟨p, vs, rfl, h2, r2⟩ := r1
    rw [hK]
    exact ⟨p, rfl, ⟨vs, sqL_of (hid_le _ _ h2)⟩, k ds _ H1 h1 S1 e1 (it_list h2 r2)⟩
  | _ => exact h1.elim⟩
theorem xi_tup (h : XE X Λ w a t) : XI X Λ w tg a (dItT t) := ⟨fun hK => by
  obtain ⟨r, p, s⟩ := h.ex hK
  refine ⟨_, pi_tup p, fun env W σ H R q x S hx hh k => s env W σ H _ _ x S hx hh fun d v H1 h1 S1 e1 r1 => ?_⟩
  cases d with
  | tup ds =>
    obtain ⟨p, vs, rfl, h2, r2⟩ := r1
    rw [hK]
    exact ⟨p, rfl, ⟨vs, Same_seqT hid_le h2⟩, k ds _ H1 h1 S1 e1 (it_tup h2 r2)⟩
  | _ => exact h1.elim⟩
/-! range -/
def rgD (lo : Int) (n : Nat) : List D := (List.range n).map fun (i : Nat) => .int (lo + (i : Int))
theorem rgD_len (lo : Int) (n : Nat) : (rgD lo n).length = n := by simp [rgD]
theorem it_range {W : Ow} {H : Hp} {lo : Int} {n : Nat} : ItOk Λ W H (Itr lo n) (rgD lo n) where
  go := fun i env' W' σ' H' hi S s => by rw [rgD_len] at hi; exact hi
  stop := fun env' W' σ' H' S s => by rw [rgD_len]; exact Nat.le_refl _
  yld := fun i x env' W' σ' H' H'' hi S s y => by
    obtain ⟨rfl, rfl⟩ := y
    rw [rgD_len] at hi
    exact ⟨Same.refl _, .int (lo + i), by simp [rgD, hi], rfl⟩
def dRg1 (u : DA) : DA := fun env q x => u env (fun ds => match ds with
  | [.int j] => (-(2 ^ 62) ≤ j ∧ j < 2 ^ 62) ∧ q (rgD 0 j.toNat)
  | _ => False) x
def dRg2 (u : DA) : DA := fun env q x => u env (fun ds => match ds with
  | [.int i, .int j] => (-(2 ^ 62) ≤ i ∧ i < 2 ^ 62 ∧ -(2 ^ 62) ≤ j ∧ j < 2 ^ 62) ∧ q (rgD i (j - i).toNat)
  | _ => False) x
theorem xi_range1 {u : DA} {p : Pos} (hg : Gl X "range") (hm : X.mg "range" = none) (ha : XA X Λ w [a] u) (hs : starEach [a] X.env = [(false, eval a X.env)] := by rfl) : XI X Λ w tg (.Call (.Name "range" p) [a] [] pos) (dRg1 u) := ⟨fun hK => by
  obtain ⟨r, p, s⟩ := ha.ex hK
  refine ⟨_, pi_range1 hg hm p hs, fun env W σ H R q x S hx hh k => s env W σ H _ _ x S hx hh fun ds vs H1 h1 S1 e1 r1 => ?_⟩
  split at h1
  case h_2 => exact h1.elim
  rename_i j
  obtain ⟨⟨b1, b2⟩, h1⟩ := h1
  obtain ⟨v, r, rfl, rfl, r2⟩ := r1
  cases r2
  exact ⟨j, rfl, b1, b2, k _ _ H1 h1 S1 e1 it_range⟩⟩
theorem xi_range2 {u : DA} {p : Pos} (hg : Gl X "range") (hm : X.mg "range" = none) (ha : XA X Λ w [a, b] u) (hs : starEach [a, b] X.env = [(false, eval a X.env), (false, eval b X.env)] := by rfl) (hs2 : starEach [b] X.env = [(false, eval b X.env)] := by rfl) : XI X Λ w tg (.Call (.Name "range" p) [a, b] [] pos) (dRg2 u) := ⟨fun hK => by
  obtain ⟨r, p, s⟩ := ha.ex hK
  refine ⟨_, pi_range2 hg hm p hs hs2, fun env W σ H R q x S hx hh k => s env W σ H _ _ x S hx hh fun ds vs H1 h1 S1 e1 r1 => ?_⟩
  split at h1
  case h_2 => exact h1.elim
  rename_i i j
  obtain ⟨b1, h1⟩ := h1
  obtain ⟨v, r, rfl, rfl, v2, r3, rfl, rfl, r2⟩ := r1
  cases r2
  exact ⟨i, j, rfl, b1, k _ _ H1 h1 S1 e1 it_range⟩⟩
def rgC (lo c : Int) (n : Nat) : List D := (List.range n).map fun (i : Nat) => .int (lo + ((i : Nat) : Int) * c)
theorem it_rangeC {W : Ow} {H : Hp} {lo c : Int} {n : Nat} : ItOk Λ W H (Itc lo c n) (rgC lo c n) where
  go := fun i env' W' σ' H' hi S s => by simp [rgC] at hi; exact hi
  stop := fun env' W' σ' H' S s => by simp [rgC]; exact Nat.le_refl _
  yld := fun i x env' W' σ' H' H'' hi S s y => by
    obtain ⟨rfl, rfl⟩ := y
    simp [rgC] at hi
    exact ⟨Same.refl _, .int (lo + (i : Nat) * c), by simp [rgC, hi], rfl⟩
def dRg3 (u : DA) : DA := fun env q x => u env (fun ds => match ds with
  | [.int i, .int j, .int c] => ∃ n : Nat, RgC i j c n ∧ q (rgC i c n)
  | _ => False) x
theorem xi_range3 {u : DA} {p : Pos} (hg : Gl X "range") (hm : X.mg "range" = none) (ha : XA X Λ w [a, b, c] u) (hs : starEach [a, b, c] X.env = (false, eval a X.env) :: starEach [b, c] X.env := by rfl) (hpl : (backTo pos (starEach [b, c] X.env)).any (·.1) = false := by rfl) :
    XI X Λ w tg (.Call (.Name "range" p) [a, b, c] [] pos) (dRg3 u) := ⟨fun hK => by
  obtain ⟨r, p, s⟩ := ha.ex hK
  refine ⟨_, pi_range3 hg hm p hs hpl, fun env W σ H R q x S hx hh k => s env W σ H _ _ x S hx hh fun ds vs H1 h1 S1 e1 r1 => ?_⟩
  split at h1
  case h_2 => exact h1.elim
  rename_i i j c
  obtain ⟨n, b1, h1⟩ := h1
  obtain ⟨v, r, rfl, rfl, v2, r3, rfl, rfl, v4, r5, rfl, rfl, r2⟩ := r1
  cases r2
  exact ⟨i, j, c, n, rfl, b1, k _ _ H1 h1 S1 e1 it_rangeC⟩⟩
/-! enumerate, zip -/
def enD (ds : List D) : List D := ds.zipIdx.map fun p => .tup [.int (p.2 : Int), p.1]
theorem enD_len (ds : List D) : (enD ds).length = ds.length := by simp [enD]
theorem enD_get {ds : List D} {i : Nat} {d : D} (h : ds[i]? = some d) : (enD ds)[i]? = some (.tup [.int (i : Int), d]) := by
  simp [enD, h]
theorem new_tup {env : List Sl} {W : Ow} {σ : L2.St} {H : Hp} {T : Addr} {vs : List V} {ds : List D} (S : StOk Λ env W σ H) (hT : H T = none) (r : RepL Λ.B (Λ.vis W H) ds vs) : Rep Λ.B (Λ.vis W (upd H T (.tup vs))) (.tup ds) (.ref T) :=
  ⟨T, vs, rfl, sqT_of (vis_new S hT), r.up (vis_same (same_new hT))⟩
theorem it_enum {W : Ow} {H : Hp} {p : Addr} {vs : List V} {ds : List D} (h : Λ.vis W H p = some (.lst vs)) (r : RepL Λ.B (Λ.vis W H) ds vs) : ItOk Λ W H (Ite Λ.B.K p) (enD ds) where
  go := fun i env' W' σ' H' hi S s => by
    rw [enD_len] at hi
    have h' : H' p = some (.lst vs) := hid_le _ _ (s _ _ h)
    obtain ⟨v, hv, _⟩ := r.get (List.getElem?_eq_getElem hi)
    exact ⟨vs, v, sqL_of h', hv⟩
  stop := fun env' W' σ' H' S s => ⟨vs, sqL_of (hid_le _ _ (s _ _ h)), by rw [r.len, enD_len]; exact Nat.le_refl _⟩
  yld := fun i x env' W' σ' H' H'' hi S s y => by
    obtain ⟨T, z, rfl, hT, rfl, y⟩ := y
    have h' : H' p = some (.lst vs) := hid_le _ _ (s _ _ h)
    obtain ⟨d, hd, rd⟩ := r.geti (y vs (sqL_of h'))
    exact ⟨same_new hT, _, enD_get hd, new_tup S hT ⟨_, _, rfl, rfl, _, _, rfl, rd.up s, rfl⟩⟩
def dEn (f : D → (List D → Prop) → Prop) (t : DE) : DA := fun env q x => t env (fun d => f d fun ds => q (enD ds)) x
def isL : D → (List D → Prop) → Prop
  | .lst ds, q => q ds
  | _, _ => False
def isT : D → (List D → Prop) → Prop
  | .tup ds, q => q ds
  | _, _ => False
theorem xi_enumL {p tpos : Pos} {elts : List Expr} {kk : Nat} (hg : Gl X "enumerate") (hm : X.mg "enumerate" = none) (ha : XE X Λ w a t) (hs : starEach [a] X.env = [(false, eval a X.env)] := by rfl) :
    XI X Λ w (.Tuple elts kk tpos) (.Call (.Name "enumerate" p) [a] [] pos) (dEn isL t) := ⟨fun hK => by
  obtain ⟨r, p, s⟩ := ha.ex hK
  refine ⟨_, pi_enum hg hm (pa_cons p pa_nil hs) hs, fun env W σ H R q x S hx hh k => s env W σ H _ _ x S hx hh fun d v H1 h1 S1 e1 r1 => ?_⟩
  cases d with
  | lst ds =>
    obtain ⟨p, vs, rfl, h2, r2⟩ := r1
    rw [hK]
    exact ⟨p, vs, rfl, sqL_of (hid_le _ _ h2), k _ _ H1 h1 S1 e1 (it_enum h2 r2)⟩
  | _ => exact h1.elim⟩
def zpD (xs ys : List D) : List D := (xs.zip ys).map fun p => .tup [p.1, p.2]
theorem it_zip {W : Ow} {H : Hp} {p p' : Addr} {vs vs' : List V} {ds ds' : List D} (h : Λ.vis W H p = some (.lst vs)) (r : RepL Λ.B (Λ.vis W H) ds vs) (h' : Λ.vis W H p' = some (.lst vs')) (r' : RepL Λ.B (Λ.vis W H) ds' vs') : ItOk Λ W H (Itz Λ.B.K p p') (zpD ds ds') where
  go := fun i env' W' σ' H' hi S s => by
    simp [zpD] at hi
    have hi1 : i < ds.length := by omega
    have hi2 : i < ds'.length := by omega
    obtain ⟨v, hv, _⟩ := r.get (List.getElem?_eq_getElem hi1)
    obtain ⟨v', hv', _⟩ := r'.get (List.getElem?_eq_getElem hi2)
    exact ⟨vs, vs', v, v', sqL_of (hid_le _ _ (s _ _ h)), sqL_of (hid_le _ _ (s _ _ h')), hv, hv'⟩
  stop := fun env' W' σ' H' S s => ⟨vs, vs', sqL_of (hid_le _ _ (s _ _ h)), sqL_of (hid_le _ _ (s _ _ h')), by
    rw [r.len, r'.len]
    simp [zpD]
    omega⟩
  yld := fun i x env' W' σ' H' H'' hi S s y => by
    obtain ⟨T, z, z', rfl, hT, rfl, y, y'⟩ := y
    obtain ⟨d, hd, rd⟩ := r.geti (y vs (sqL_of (hid_le _ _ (s _ _ h))))
    obtain ⟨d', hd', rd'⟩ := r'.geti (y' vs' (sqL_of (hid_le _ _ (s _ _ h'))))
    exact ⟨same_new hT, .tup [d, d'], by
      have hz : (ds.zip ds')[i]? = some (d, d') := List.getElem?_zip_eq_some.mpr ⟨hd, hd'⟩
      simp only [zpD, List.getElem?_map, hz, Option.map_some], new_tup S hT ⟨_, _, rfl, rd.up s, _, _, rfl, rd'.up s, rfl⟩⟩
def dZp (ta tb : DE) : DA := fun env q x => ta env (fun d => tb env (fun d' => match d, d' with
  | .lst ds, .lst ds' => q (zpD ds ds')
  | _, _ => False) x) x
theorem xi_zip {p tpos : Pos} {elts : List Expr} {kk : Nat} (hg : Gl X "zip") (hm : X.mg "zip" = none) (ha : XE X Λ w a ta) (hb : XE X Λ w b tb)
    (hs : starEach [a, b] X.env = (false, eval a X.env) :: starEach [b] X.env := by rfl) (hs2 : starEach [b] X.env = (false, eval b X.env) :: starEach [] X.env := by rfl) (hpl : (backTo pos (starEach [b] X.env)).any (·.1) = false := by rfl) :
    XI X Λ w (.Tuple elts kk tpos) (.Call (.Name "zip" p) [a, b] [] pos) (dZp ta tb) := ⟨fun hK => by
  obtain ⟨r, p, s⟩ := ha.ex hK
  obtain ⟨r', p', s'⟩ := hb.ex hK
  refine ⟨_, pi_zip hg hm (pa_cons p (pa_cons p' pa_nil hs2) hs) hs hpl, fun env W σ H R q x S hx hh k => s env W σ H _ _ x S hx hh fun d v H1 h1 S1 e1 r1 => s' env W σ H1 _ _ x S1 (hx.on e1) h1 fun d' v' H2 h2 S2 e2 r2 => ?_⟩
  have r1 := r1.up e2.vis
  cases d with
  | lst ds =>
    cases d' with
    | lst ds' =>
      obtain ⟨p, vs, rfl, h3, r3⟩ := r1
      obtain ⟨p', vs', rfl, h4, r4⟩ := r2
      rw [hK]
      exact ⟨p, p', vs, vs', rfl, sqL_of (hid_le _ _ h3), sqL_of (hid_le _ _ h4), k _ _ H2 h2 S2 (e1.trans e2) (it_zip h3 r3 h4 r4)⟩
    | _ => exact h2.elim
  | _ => exact h2.elim⟩
/-! a text, sign by sign -/
def chD (x : Str) : List D := x.cps.toList.map fun c => .str ⟨#[c]⟩
theorem it_str {W : Ow} {H : Hp} {y : Str} : ItOk Λ W H (Its y) (chD y) where
  go := fun i env' W' σ' H' hi S s => by simp [chD] at hi; exact hi
  stop := fun env' W' σ' H' S s => by simp [chD]; exact Nat.le_refl _
  yld := fun i x env' W' σ' H' H'' hi S s z => by
    obtain ⟨rfl, c, hc, rfl⟩ := z
    refine ⟨Same.refl _, .str ⟨#[c]⟩, ?_, rfl⟩
    simp [chD, hc]
def dItS (t : DE) : DA := fun env q x => t env (fun d => match d with
  | .str y => q (chD y)
  | _ => False) x
theorem xi_str (h : XE X Λ w a t) : XI X Λ w tg a (dItS t) := ⟨fun hK => by
  obtain ⟨r, p, s⟩ := h.ex hK
  refine ⟨_, pi_str p, fun env W σ H R q x S hx hh k => s env W σ H _ _ x S hx hh fun d v H1 h1 S1 e1 r1 => ?_⟩
  cases d with
  | str y => exact ⟨y, r1, k _ _ H1 h1 S1 e1 it_str⟩
  | _ => exact h1.elim⟩
end
end Eb

/-! ## own layer: operators, subscripts, built-in calls on values without a heap -/
namespace Eb
open PySem PySem.Spec PyProof.Rows L2
section
variable {X : Cx} {Λ : Lx} {w : WX} {a b c e tg : Expr} {es : List Expr} {ta tb tc t : DE} {tA tB : DT} {pos : Pos}
theorem opE {f : Value → Value → Sem Value} {r r' : R2} (h : OpR X f r) (h' : OpR X f r') : OpR X f (fun x y H Q => r x y H Q ∨ r' x y H Q) := fun pins s σ H x y v u Q I rx ry hh =>
  hh.elim (h pins s σ H x y v u Q I rx ry) (h' pins s σ H x y v u Q I rx ry)
theorem callE {f : Value} {r r' : List V → Hp → VK → Prop} (h : CallR X f r) (h' : CallR X f r') : CallR X f (fun x H Q => r x H Q ∨ r' x H Q) := fun pins s σ H x us Q I rx hh =>
  hh.elim (h pins s σ H x us Q I rx) (h' pins s σ H x us Q I rx)
theorem slE {r r' : V → Option Int → Option Int → Hp → VK → Prop} (h : SlR X r) (h' : SlR X r') : SlR X (fun x l u H Q => r x l u H Q ∨ r' x l u H Q) := fun pins s σ H x v vl vu lo hi sl Q I rx hs pl pu hh =>
  hh.elim (h pins s σ H x v vl vu lo hi sl Q I rx hs pl pu) (h' pins s σ H x v vl vu lo hi sl Q I rx hs pl pu)
theorem rep_lst {W : Ow} {H : Hp} {ds : List D} {v : V} (h : Rep Λ.B (Λ.vis W H) (.lst ds) v) : ∃ p vs, v = .ref p ∧ H p = some (.lst vs) ∧ RepL Λ.B (Λ.vis W H) ds vs := by
  obtain ⟨p, vs, e, h1, h2⟩ := h
  exact ⟨p, vs, e, hid_le _ _ h1, h2⟩
theorem rep_tup {W : Ow} {H : Hp} {ds : List D} {v : V} (h : Rep Λ.B (Λ.vis W H) (.tup ds) v) : ∃ p vs, v = .ref p ∧ SqT Λ.B.K H p vs ∧ RepL Λ.B (Λ.vis W H) ds vs := by
  obtain ⟨p, vs, e, h1, h2⟩ := h
  exact ⟨p, vs, e, Same_seqT hid_le h1, h2⟩
/-- a new list, a new tuple is laid -/
theorem fin_lst {env : List Sl} {W : Ow} {σ : L2.St} {H : Hp} {Q : VK} {q : D → Prop} {ds : List D} {vs : List V} (S : StOk Λ env W σ H) (r : RepL Λ.B (Λ.vis W H) ds vs) (h : q (.lst ds)) (k : ∀ d v H', q d → StOk Λ env W σ H' → Ev Λ W H H' → Rep Λ.B (Λ.vis W H') d v → Q v H') :
    ∀ p, H p = none → Q (.ref p) (upd H p (.lst vs)) := fun p hp => by
  have s := same_new (o := .lst vs) hp
  exact k _ _ _ h (S.grow s) (.of s) ⟨p, vs, rfl, vis_new S hp, r.up (vis_same s)⟩
theorem fin_tup {env : List Sl} {W : Ow} {σ : L2.St} {H : Hp} {Q : VK} {q : D → Prop} {ds : List D} {vs : List V} (S : StOk Λ env W σ H) (r : RepL Λ.B (Λ.vis W H) ds vs) (h : q (.tup ds)) (k : ∀ d v H', q d → StOk Λ env W σ H' → Ev Λ W H H' → Rep Λ.B (Λ.vis W H') d v → Q v H') :
    ∀ p, H p = none → Q (.ref p) (upd H p (.tup vs)) := fun p hp => by
  have s := same_new (o := .tup vs) hp
  exact k _ _ _ h (S.grow s) (.of s) ⟨p, vs, rfl, sqT_of (vis_new S hp), r.up (vis_same s)⟩
/-! ### + - * // % ** -/
def addD : D → D → DK
  | .int i, .int j, q, _ => q (.int (i + j))
  | .int i, .bl j, q, _ => q (.int (i + b2i j))
  | .str i, .str j, q, _ => i.length + j.length ≤ 100000 ∧ q (.str (i ++ j))
  | .lst i, .lst j, q, _ => i.length + j.length ≤ 100000 ∧ q (.lst (i ++ j))
  | .tup i, .tup j, q, _ => i.length + j.length ≤ 100000 ∧ q (.tup (i ++ j))
  | _, _, _, _ => False
def rAddA (K : PySem.W.Frag) : R2 := fun x y H Q => rI0 (fun i j => .int (i + j)) x y H Q ∨ (∃ i k, x = .int i ∧ y = .bl k ∧ Q (.int (i + b2i k)) H) ∨ (∃ i j, x = .str i ∧ y = .str j ∧ i.length + j.length ≤ sizeLine ∧ Q (.str (i ++ j)) H) ∨ rCat x y H Q ∨ rCatA K x y H Q
theorem snd_add : SndR Λ w (rAddA Λ.B.K) addD := fun env W σ H d e v u Q q x S hx r1 r2 h k => by
  cases d <;> cases e <;> first | exact h.elim | skip
  · cases r1; cases r2; exact .inr (.inl ⟨_, _, rfl, rfl, k _ _ H h S .refl rfl⟩)
  · cases r1; cases r2; exact .inl ⟨_, _, rfl, rfl, k _ _ H h S .refl rfl⟩
  · cases r1; cases r2; exact .inr (.inr (.inl ⟨_, _, rfl, rfl, sz h.1, k _ _ H h.2 S .refl rfl⟩))
  · obtain ⟨p, vs, rfl, h1, r1⟩ := rep_lst r1
    obtain ⟨p', vs', rfl, h2, r2⟩ := rep_lst r2
    exact .inr (.inr (.inr (.inl ⟨p, p', vs, vs', rfl, rfl, h1, h2, by rw [r1.len, r2.len]; exact sz h.1, fin_lst S (r1.app r2) h.2 k⟩)))
  · obtain ⟨p, vs, rfl, h1, r1'⟩ := rep_tup r1
    obtain ⟨p', vs', rfl, h2, r2'⟩ := rep_tup r2
    refine .inr (.inr (.inr (.inr ⟨p, p', vs, vs', rfl, rfl, h1, h2, by rw [r1'.len, r2'.len]; exact sz h.1, fun z => ?_, fun z z2 => ?_, fun z z2 => fin_tup S (r1'.app r2') h.2 k⟩)))
    · rename_i xs ys
      have e0 : xs = [] := by
        have := r1'.len
        rw [z] at this
        exact List.length_eq_zero_iff.mp this.symm
      have h2 := h.2
      rw [e0, List.nil_append] at h2
      exact k _ _ H h2 S .refl r2
    · rename_i xs ys
      have e0 : ys = [] := by
        have := r2'.len
        rw [z2] at this
        exact List.length_eq_zero_iff.mp this.symm
      have h2 := h.2
      rw [e0, List.append_nil] at h2
      exact k _ _ H h2 S .refl r1
theorem op_addA : OpR X (binaryOp .Add) (rAddA X.K) := opE op_add (opE op_add_ib (opE op_add_str (opE op_cat op_catA)))
theorem xe_add (ha : XE X Λ w a ta) (hb : XE X Λ w b tb) : XE X Λ w (.BinOp a .Add b pos) (dOp addD ta tb) := xe_op (fun hK => hK ▸ op_addA) snd_add ha hb
def intD (C : Int → Int → Prop) (g : Int → Int → D) : D → D → DK := fun d e q _ => match d, e with
  | .int i, .int j => C i j ∧ q (g i j)
  | _, _ => False
theorem snd_int {C : Int → Int → Prop} {g : Int → Int → V} {g' : Int → Int → D} (hg : ∀ i j H, Rep Λ.B H (g' i j) (g i j)) : SndR Λ w (rI C g) (intD C g') := fun env W σ H d e v u Q q x S hx r1 r2 h k => by
  cases d <;> cases e <;> first | exact h.elim | skip
  cases r1; cases r2
  exact ⟨_, _, rfl, rfl, h.1, k _ _ H h.2 S .refl (hg _ _ _)⟩
def intD0 (g : Int → Int → D) : D → D → DK := fun d e q _ => match d, e with
  | .int i, .int j => q (g i j)
  | _, _ => False
theorem snd_int0 {g : Int → Int → V} {g' : Int → Int → D} (hg : ∀ i j H, Rep Λ.B H (g' i j) (g i j)) : SndR Λ w (rI0 g) (intD0 g') := fun env W σ H d e v u Q q x S hx r1 r2 h k => by
  cases d <;> cases e <;> first | exact h.elim | skip
  cases r1; cases r2
  exact ⟨_, _, rfl, rfl, k _ _ H h S .refl (hg _ _ _)⟩
def subD : D → D → DK := intD0 fun i j => .int (i - j)
def fdivD : D → D → DK := intD CDivX fun i j => .int (i / j)
def modD : D → D → DK := intD (fun _ j => 0 < j) fun i j => .int (i % j)
def powD : D → D → DK := intD CPowX fun i j => .int (i ^ j.toNat)
theorem xe_sub (ha : XE X Λ w a ta) (hb : XE X Λ w b tb) : XE X Λ w (.BinOp a .Sub b pos) (dOp subD ta tb) := xe_op (fun _ => op_sub) (snd_int0 fun _ _ _ => rfl) ha hb
theorem xe_fdiv (ha : XE X Λ w a ta) (hb : XE X Λ w b tb) : XE X Λ w (.BinOp a .FloorDiv b pos) (dOp fdivD ta tb) := xe_op (fun _ => op_fdivX) (snd_int fun _ _ _ => rfl) ha hb
theorem xe_mod (ha : XE X Λ w a ta) (hb : XE X Λ w b tb) : XE X Λ w (.BinOp a .Mod b pos) (dOp modD ta tb) := xe_op (fun _ => op_mod) (snd_int fun _ _ _ => rfl) ha hb
theorem xe_pow (ha : XE X Λ w a ta) (hb : XE X Λ w b tb) : XE X Λ w (.BinOp a .Pow b pos) (dOp powD ta tb) := xe_op (fun _ => op_powX) (snd_int fun _ _ _ => rfl) ha hb
def mulD : D → D → DK
  | .int i, .int j, q, _ => CMulW i j ∧ q (.int (i * j))
  | .lst xs, .int k, q, _ => (-(2 ^ 63) ≤ k ∧ k < 2 ^ 63 ∧ xs.length * k.toNat ≤ 100000) ∧ q (.lst (List.replicate k.toNat xs).flatten)
  | _, _, _, _ => False
theorem snd_mul : SndR Λ w (fun x y H Q => rI CMulW (fun i j => .int (i * j)) x y H Q ∨ rRep x y H Q) mulD := fun env W σ H d e v u Q q x S hx r1 r2 h k => by
  cases d <;> cases e <;> first | exact h.elim | skip
  · cases r1; cases r2; exact .inl ⟨_, _, rfl, rfl, h.1, k _ _ H h.2 S .refl rfl⟩
  · obtain ⟨p, vs, rfl, h1, r1⟩ := rep_lst r1
    cases r2
    exact .inr ⟨p, _, vs, rfl, rfl, h1, h.1.1, h.1.2.1, by rw [r1.len]; exact sz h.1.2.2, fin_lst S (r1.rep _) h.2 k⟩
theorem xe_mul (ha : XE X Λ w a ta) (hb : XE X Λ w b tb) : XE X Λ w (.BinOp a .Mult b pos) (dOp mulD ta tb) := xe_op (fun _ => opE op_mulW op_rep) snd_mul ha hb
def negD : D → DK := fun d q _ => match d with
  | .int i => q (.int (-i))
  | _ => False
theorem xe_neg (ha : XE X Λ w a ta) : XE X Λ w (.UnaryOp .USub a pos) (dUn negD ta) := xe_un (fun _ => un_neg) (fun env W σ H d v Q q x S hx r h k => by
  cases d <;> first | exact h.elim | skip
  cases r
  exact ⟨_, rfl, k _ _ H h S .refl rfl⟩) ha
/-! ### comparisons -/
def ltD : D → D → DK := intD0 fun i j => .bl (decide (i < j))
def leD : D → D → DK := intD0 fun i j => .bl (decide (i ≤ j))
def gtD : D → D → DK := intD0 fun i j => .bl (decide (i > j))
def geD : D → D → DK := intD0 fun i j => .bl (decide (i ≥ j))
theorem snd_lt : SndR Λ w (rI0 fun i j => .bl (decide (i < j))) ltD := snd_int0 fun _ _ _ => rfl
theorem snd_le : SndR Λ w (rI0 fun i j => .bl (decide (i ≤ j))) leD := snd_int0 fun _ _ _ => rfl
theorem snd_gt : SndR Λ w (rI0 fun i j => .bl (decide (i > j))) gtD := snd_int0 fun _ _ _ => rfl
theorem snd_ge : SndR Λ w (rI0 fun i j => .bl (decide (i ≥ j))) geD := snd_int0 fun _ _ _ => rfl
/-! == of data -/
mutual
def D.py : D → Option PyData
  | .non => some .none
  | .bl b => some (.bool b)
  | .int i => some (.int i)
  | .str x => some (.str x)
  | .lst ds => match D.pys ds with
    | some xs => some (.list xs)
    | none => none
  | .tup ds => match D.pys ds with
    | some xs => some (.tuple xs)
    | none => none
  | _ => none
def D.pys : List D → Option (List PyData)
  | [] => some []
  | d :: ds => match D.py d, D.pys ds with
    | some x, some xs => some (x :: xs)
    | _, _ => none
end
mutual
theorem Rep.dp {B : Tb} {H : Hp} : ∀ (d : D) (v : V) (x : PyData), Rep B H d v → d.py = some x → Dp B.K H v x
  | .non, _, _, r, e => by cases r; cases e; exact .non
  | .bl _, _, _, r, e => by cases r; cases e; exact .bl _
  | .int _, _, _, r, e => by cases r; cases e; exact .int _
  | .str _, _, _, r, e => by cases r; cases e; exact .str _
  | .lst ds, _, x, ⟨a, vs, ev, h, r⟩, e => by
    subst ev
    unfold D.py at e
    split at e
    · rename_i xs hx
      cases e
      exact .lst (sqL_of h) (RepL.dp ds vs xs r hx)
    · cases e
  | .tup ds, _, x, ⟨a, vs, ev, h, r⟩, e => by
    subst ev
    unfold D.py at e
    split at e
    · rename_i xs hx
      cases e
      exact .tup h (RepL.dp ds vs xs r hx)
    · cases e
  | .ty _, _, _, _, e => by simp [D.py] at e
  | .cl _, _, _, _, e => by simp [D.py] at e
  | .obj _ _, _, _, _, e => by simp [D.py] at e
theorem RepL.dp {B : Tb} {H : Hp} : ∀ (ds : List D) (vs : List V) (xs : List PyData), RepL B H ds vs → D.pys ds = some xs → DpAll B.K H vs xs
  | [], _, _, r, e => by
    cases (show _ = [] from r)
    simp [D.pys] at e
    subst e
    exact .nil
  | d :: ds, _, xs, ⟨v, r, ev, h1, h2⟩, e => by
    subst ev
    unfold D.pys at e
    split at e
    · rename_i x xs' hx hxs
      cases e
      exact .cons (Rep.dp d v x h1 hx) (RepL.dp ds r xs' h2 hxs)
    · cases e
end
@[irreducible] def eqP (d e : D) (q : Bool → Prop) : Prop := ∃ x y, d.py = some x ∧ e.py = some y ∧ SeqAt.shaped x = true ∧ SeqAt.shaped y = true ∧ q (PyData.eqv x y)
def eqB : D → D → (Bool → Prop) → Prop
  | .int i, .int j, q => q (i == j)
  | .bl i, .bl j, q => q (i == j)
  | .str i, .str j, q => q (i == j)
  | d, e, q => eqP d e q
theorem eqB_py {d e : D} {q : Bool → Prop} (h : eqB d e q) : (∃ x y : V, (∀ B H v, Rep B H d v → v = x) ∧ (∀ B H v, Rep B H e v → v = y) ∧ scal x y = true ∧ q (decide (x = y))) ∨ ∃ x y, d.py = some x ∧ e.py = some y ∧ SeqAt.shaped x = true ∧ SeqAt.shaped y = true ∧ q (PyData.eqv x y) := by
  unfold eqB at h
  split at h
  · rename_i i j
    refine .inl ⟨.int i, .int j, fun _ _ _ r => r, fun _ _ _ r => r, rfl, ?_⟩
    rw [dec_int]
    exact h
  · rename_i i j
    refine .inl ⟨.bl i, .bl j, fun _ _ _ r => r, fun _ _ _ r => r, rfl, ?_⟩
    rw [dec_bl]
    exact h
  · rename_i i j
    refine .inl ⟨.str i, .str j, fun _ _ _ r => r, fun _ _ _ r => r, rfl, ?_⟩
    have e : decide (V.str i = V.str j) = (i == j) := by
      rw [Bool.eq_iff_iff]
      simp
    rw [e]
    exact h
  · unfold eqP at h
    exact .inr h
def eqD : D → D → DK := fun d e q _ => eqB d e fun b => q (.bl b)
def neD : D → D → DK := fun d e q _ => eqB d e fun b => q (.bl (!b))
theorem snd_eq : SndR Λ w (fun x y H Q => rEq x y H Q ∨ rEqD Λ.B.K x y H Q) eqD := fun env W σ H d e v u Q q x S hx r1 r2 h k => by
  rcases eqB_py h with ⟨x, y, h1, h2, h3, h4⟩ | ⟨x, y, h1, h2, h3, h4, h5⟩
  · cases h1 _ _ _ r1
    cases h2 _ _ _ r2
    exact .inl ⟨h3, k _ _ H h4 S .refl rfl⟩
  · exact .inr ⟨x, y, (r1.up hid_le).dp _ _ _ h1, (r2.up hid_le).dp _ _ _ h2, h3, h4, k _ _ H h5 S .refl rfl⟩
theorem snd_ne : SndR Λ w (fun x y H Q => rNe x y H Q ∨ rNeD Λ.B.K x y H Q) neD := fun env W σ H d e v u Q q x S hx r1 r2 h k => by
  rcases eqB_py h with ⟨x, y, h1, h2, h3, h4⟩ | ⟨x, y, h1, h2, h3, h4, h5⟩
  · cases h1 _ _ _ r1
    cases h2 _ _ _ r2
    exact .inl ⟨h3, k _ _ H h4 S .refl rfl⟩
  · exact .inr ⟨x, y, (r1.up hid_le).dp _ _ _ h1, (r2.up hid_le).dp _ _ _ h2, h3, h4, k _ _ H h5 S .refl rfl⟩
theorem ho_eq (hu : X.A.units + 64 < cLine) : X.K = Λ.B.K → OpR X (compareOp .Eq) (fun x y H Q => rEq x y H Q ∨ rEqD Λ.B.K x y H Q) := fun hK => hK ▸ opE op_eq (op_eqD hu)
theorem ho_ne (hu : X.A.units + 64 < cLine) : X.K = Λ.B.K → OpR X (compareOp .NotEq) (fun x y H Q => rNe x y H Q ∨ rNeD Λ.B.K x y H Q) := fun hK => hK ▸ opE op_ne (op_neD hu)
def D.isNon : D → Bool
  | .non => true
  | _ => false
theorem rep_non {B : Tb} {H : Hp} {d : D} {v : V} (r : Rep B H d v) : decide (v = .non) = d.isNon := by
  cases d <;> first | (obtain ⟨_, _, rfl, _⟩ := r; rfl) | (obtain ⟨_, _, _, rfl, _⟩ := r; rfl) | (cases r; rfl)
def isND : D → D → DK := fun d e q _ => match e with
  | .non => q (.bl d.isNon)
  | _ => False
def notND : D → D → DK := fun d e q _ => match e with
  | .non => q (.bl (!d.isNon))
  | _ => False
theorem snd_isN : SndR Λ w (fun x y H Q => y = .non ∧ Q (.bl (decide (x = .non))) H) isND := fun env W σ H d e v u Q q x S hx r1 r2 h k => by
  cases e <;> first | exact h.elim | skip
  cases r2
  exact ⟨rfl, by rw [rep_non r1]; exact k _ _ H h S .refl rfl⟩
theorem snd_notN : SndR Λ w (fun x y H Q => y = .non ∧ Q (.bl (!decide (x = .non))) H) notND := fun env W σ H d e v u Q q x S hx r1 r2 h k => by
  cases e <;> first | exact h.elim | skip
  cases r2
  exact ⟨rfl, by rw [rep_non r1]; exact k _ _ H h S .refl rfl⟩
def isBD : D → D → DK := fun d e q _ => match d, e with
  | .bl i, .bl j => q (.bl (decide (i = j)))
  | _, _ => False
def notBD : D → D → DK := fun d e q _ => match d, e with
  | .bl i, .bl j => q (.bl (!decide (i = j)))
  | _, _ => False
theorem snd_isB : SndR Λ w (fun x y H Q => ∃ a b, x = .bl a ∧ y = .bl b ∧ Q (.bl (decide (a = b))) H) isBD := fun env W σ H d e v u Q q x S hx r1 r2 h k => by
  cases d <;> cases e <;> first | exact h.elim | skip
  cases r1; cases r2
  exact ⟨_, _, rfl, rfl, k _ _ H h S .refl rfl⟩
theorem snd_notB : SndR Λ w (fun x y H Q => ∃ a b, x = .bl a ∧ y = .bl b ∧ Q (.bl (!decide (a = b))) H) notBD := fun env W σ H d e v u Q q x S hx r1 r2 h k => by
  cases d <;> cases e <;> first | exact h.elim | skip
  cases r1; cases r2
  exact ⟨_, _, rfl, rfl, k _ _ H h S .refl rfl⟩
/-! in -/
def D.flat : D → Option V
  | .non => some .non
  | .bl b => some (.bl b)
  | .int i => some (.int i)
  | .str x => some (.str x)
  | _ => none
theorem Rep.flat {B : Tb} {H : Hp} {d : D} {v u : V} (r : Rep B H d v) (h : d.flat = some u) : v = u ∧ flatV v = true := by
  cases d <;> first | (cases h; cases r; exact ⟨rfl, rfl⟩) | (simp [D.flat] at h)
theorem RepL.flat {B : Tb} {H : Hp} : ∀ {ds : List D} {vs us : List V}, RepL B H ds vs → ds.mapM D.flat = some us → vs = us ∧ vs.all flatV = true
  | [], _, _, r, h => by
    cases (show _ = [] from r)
    simp at h
    subst h
    exact ⟨rfl, rfl⟩
  | d :: ds, _, us, ⟨v, r, ev, h1, h2⟩, h => by
    subst ev
    rw [List.mapM_cons] at h
    cases q1 : d.flat with
    | none => rw [q1] at h; cases h
    | some z =>
      rw [q1] at h
      cases q2 : ds.mapM D.flat with
      | none => rw [q2] at h; cases h
      | some zs =>
        rw [q2] at h
        cases h
        obtain ⟨e1, f1⟩ := h1.flat q1
        obtain ⟨e2, f2⟩ := RepL.flat h2 q2
        subst e1 e2
        exact ⟨rfl, by rw [List.all_cons, f1, f2]; rfl⟩
@[irreducible] def inD (neg : Bool) : D → D → DK := fun d e q _ => match e with
  | .lst ds => ∃ z zs, d.flat = some z ∧ ds.mapM D.flat = some zs ∧ q (.bl (if neg then !inV z zs else inV z zs))
  | .tup ds => ∃ z zs, d.flat = some z ∧ ds.mapM D.flat = some zs ∧ q (.bl (if neg then !inV z zs else inV z zs))
  | _ => False
theorem snd_in {neg : Bool} : SndR Λ w (rIn Λ.B.K neg) (inD neg) := fun env W σ H d e v u Q q x S hx r1 r2 h k => by
  unfold inD at h
  cases e <;> first | exact h.elim | skip
  · obtain ⟨z, zs, h1, h2, h3⟩ := h
    obtain ⟨p, vs, rfl, h4, r2⟩ := rep_lst r2
    obtain ⟨e1, f1⟩ := r1.flat h1
    obtain ⟨e2, f2⟩ := r2.flat h2
    subst e1 e2
    exact ⟨p, _, rfl, .inl (sqL_of h4), f1, f2, k _ _ H h3 S .refl rfl⟩
  · obtain ⟨z, zs, h1, h2, h3⟩ := h
    obtain ⟨p, vs, rfl, h4, r2⟩ := rep_tup r2
    obtain ⟨e1, f1⟩ := r1.flat h1
    obtain ⟨e2, f2⟩ := r2.flat h2
    subst e1 e2
    exact ⟨p, _, rfl, .inr h4, f1, f2, k _ _ H h3 S .refl rfl⟩
theorem ho_in : X.K = Λ.B.K → OpR X (compareOp .In) (rIn Λ.B.K false) := fun hK => hK ▸ op_in_seq
theorem ho_notin : X.K = Λ.B.K → OpR X (compareOp .NotIn) (rIn Λ.B.K true) := fun hK => hK ▸ op_notIn_seq
/-! ### subscripts -/
def ixD : D → D → DK := fun d e q _ => match d, e with
  | .lst ds, .int i => ∃ z, atI ds i = some z ∧ q z
  | .tup ds, .int i => ∃ z, atI ds i = some z ∧ q z
  | .str y, .int i => y.length ≤ 100000 ∧ ∃ c, atI y.cps.toList i = some c ∧ q (.str ⟨#[c]⟩)
  | _, _ => False
theorem RepL.atI {B : Tb} {H : Hp} {ds : List D} {vs : List V} {i : Int} {d : D} (r : RepL B H ds vs) (h : L2.atI ds i = some d) : ∃ v, L2.atI vs i = some v ∧ Rep B H d v := by
  unfold L2.atI at h ⊢
  rw [r.len]
  cases q : ixN ds.length i with
  | none => rw [q] at h; cases h
  | some j =>
    rw [q] at h
    exact r.get h
theorem snd_ix : SndR Λ w (rIx Λ.B.K) ixD := fun env W σ H d e v u Q q x S hx r1 r2 h k => by
  cases d <;> cases e <;> first | exact h.elim | skip
  · cases r1; cases r2
    obtain ⟨h0, c, h1, h2⟩ := h
    exact .inr (.inr ⟨_, _, c, rfl, rfl, sz h0, h1, k _ _ H h2 S .refl rfl⟩)
  · cases r2
    obtain ⟨z, h1, h2⟩ := h
    obtain ⟨p, vs, rfl, h4, r1⟩ := rep_lst r1
    obtain ⟨v, hv, rv⟩ := r1.atI h1
    exact .inl ⟨p, vs, _, v, rfl, rfl, sqL_of h4, hv, k _ _ H h2 S .refl rv⟩
  · cases r2
    obtain ⟨z, h1, h2⟩ := h
    obtain ⟨p, vs, rfl, h4, r1⟩ := rep_tup r1
    obtain ⟨v, hv, rv⟩ := r1.atI h1
    exact .inr (.inl ⟨p, vs, _, v, rfl, rfl, h4, hv, k _ _ H h2 S .refl rv⟩)
theorem ix_any : IxR X (rIx X.K) := fun value slice pins s σ H x y v u Q I rx ry h hs => by
  rcases h with h | h | h
  · exact ix_list value slice pins s σ H x y v u Q I rx ry h hs
  · exact ix_tup value slice pins s σ H x y v u Q I rx ry h hs
  · exact ix_str value slice pins s σ H x y v u Q I rx ry h hs
theorem xe_ix (ha : XE X Λ w a ta) (hb : XE X Λ w b tb) (hs : PlainIx b := by exact fun _ _ => rfl) : XE X Λ w (.Subscript a b pos) (dOp ixD ta tb) := ⟨fun hK => by
  obtain ⟨ra, pa, sa⟩ := ha.ex hK
  obtain ⟨rb, pb, sb⟩ := hb.ex hK
  exact ⟨_, pe_ix ix_any pa pb hs, by rw [hK]; exact snd_op snd_ix sa sb⟩⟩
/-! slices -/
abbrev DO := List Sl → (Option Int → Prop) → (DX → Prop) → Prop
def SndO (Λ : Lx) (w : WX) (to : TO) (t : DO) : Prop := ∀ env W σ H (Q : Option Int → Hp → Prop) q x, StOk Λ env W σ H → XOk Λ w env W σ H x → t env q x → (∀ o H', q o → StOk Λ env W σ H' → Ev Λ W H H' → Q o H') → to σ H Q
structure XO (X : Cx) (Λ : Lx) (w : WX) (e : Option Expr) (t : DO) : Prop where
  ex : X.K = Λ.B.K → ∃ te, PO X e te ∧ SndO Λ w te t
def dNoPart : DO := fun _ q _ => q none
def dPart (t : DE) : DO := fun env q x => t env (fun d => match d with
  | .int i => q (some i)
  | _ => False) x
theorem xo_none : XO X Λ w none dNoPart := ⟨fun _ => ⟨_, po_none, fun env W σ H Q q x S hx h k => k none H h S .refl⟩⟩
theorem xo_some (h : XE X Λ w a t) : XO X Λ w (some a) (dPart t) := ⟨fun hK => by
  obtain ⟨r, p, s⟩ := h.ex hK
  refine ⟨_, po_some p, fun env W σ H Q q x S hx h k => s env W σ H _ _ x S hx h fun d v H1 h1 S1 e1 r1 => ?_⟩
  cases d <;> first | exact h1.elim | skip
  exact ⟨_, r1, k _ H1 h1 S1 e1⟩⟩
def cutL {α : Type} (xs : List α) (lo hi : Option Int) : List α := (xs.drop (HT.sIx xs.length 0 lo)).take (HT.sIx xs.length xs.length hi - HT.sIx xs.length 0 lo)
theorem RepL.cut {B : Tb} {H : Hp} {ds : List D} {vs : List V} (r : RepL B H ds vs) (lo hi : Option Int) : RepL B H (cutL ds lo hi) (cutV vs lo hi) := by
  unfold cutL cutV
  rw [r.len]
  exact (r.drop _).take _
def slD : D → Option Int → Option Int → (D → Prop) → Prop := fun d lo hi q => match d with
  | .lst ds => q (.lst (cutL ds lo hi))
  | .tup ds => q (.tup (cutL ds lo hi))
  | _ => False
def dSl (t : DE) (l h : DO) : DE := fun env q x => t env (fun d => l env (fun lo => h env (fun hi => slD d lo hi q) x) x) x
theorem cut_all {α : Type} {xs : List α} {lo hi : Option Int} (h : HT.sIx xs.length 0 lo = 0 ∧ HT.sIx xs.length xs.length hi = xs.length) : cutL xs lo hi = xs := by
  unfold cutL
  rw [h.1, h.2]
  simp
theorem xe_slice {lo hi : Option Expr} {p2 : Pos} {tl th : DO} (ha : XE X Λ w a t) (hl : XO X Λ w lo tl) (hh : XO X Λ w hi th) : XE X Λ w (.Subscript a (.Slice lo hi none p2) pos) (dSl t tl th) := ⟨fun hK => by
  obtain ⟨ra, pa, sa⟩ := ha.ex hK
  obtain ⟨rl, pl, sl⟩ := hl.ex hK
  obtain ⟨rh, ph, sh⟩ := hh.ex hK
  refine ⟨_, pe_slice (slE sl_list sl_tupA) pa pl ph, fun env W σ H Q q x S hx h k => sa env W σ H _ _ x S hx h fun d v H1 h1 S1 e1 r1 => sl env W σ H1 _ _ x S1 (hx.on e1) h1 fun lo H2 h2 S2 e2 => sh env W σ H2 _ _ x S2 (hx.on (e1.trans e2)) h2 fun hi H3 h3 S3 e3 => ?_⟩
  have r3 := r1.up (e2.trans e3).vis
  have k3 : ∀ d v H', q d → StOk Λ env W σ H' → Ev Λ W H3 H' → Rep Λ.B (Λ.vis W H') d v → Q v H' := fun d v H' a b c => k d v H' a b (((e1.trans e2).trans e3).trans c)
  rw [hK]
  cases d <;> first | exact h3.elim | skip
  · obtain ⟨p, vs, rfl, h4, r4⟩ := rep_lst r3
    exact .inl ⟨p, vs, rfl, sqL_of h4, fin_lst S3 (r4.cut lo hi) h3 k3⟩
  · obtain ⟨p, vs, rfl, h4, r4⟩ := rep_tup r3
    refine .inr ⟨p, vs, rfl, h4, fun z => ?_, fun z => fin_tup S3 (r4.cut lo hi) h3 k3⟩
    rw [r4.len] at z
    have h3' : q (.tup (cutL _ lo hi)) := h3
    rw [cut_all z] at h3'
    exact k3 _ _ H3 h3' S3 .refl r3⟩
/-- xs[a:b], a new list -/
def dSlL (t : DE) (l h : DO) : DA := fun env q x => t env (fun d => l env (fun lo => h env (fun hi => match d with
  | .lst ds => q (cutL ds lo hi)
  | _ => False) x) x) x
theorem xl_slice {lo hi : Option Expr} {p2 : Pos} {tl th : DO} (ha : XE X Λ w a t) (hl : XO X Λ w lo tl) (hh : XO X Λ w hi th) : XL X Λ w (.Subscript a (.Slice lo hi none p2) pos) (dSlL t tl th) := ⟨fun hK => by
  obtain ⟨ra, pa, sa⟩ := ha.ex hK
  obtain ⟨rl, pl, sl⟩ := hl.ex hK
  obtain ⟨rh, ph, sh⟩ := hh.ex hK
  refine ⟨_, pe_slice sl_list pa pl ph, fun env W σ H Q q x S hx h k => sa env W σ H _ _ x S hx h fun d v H1 h1 S1 e1 r1 => sl env W σ H1 _ _ x S1 (hx.on e1) h1 fun lo H2 h2 S2 e2 => sh env W σ H2 _ _ x S2 (hx.on (e1.trans e2)) h2 fun hi H3 h3 S3 e3 => ?_⟩
  have r3 := r1.up (e2.trans e3).vis
  have e13 := (e1.trans e2).trans e3
  rw [hK]
  cases d <;> first | exact h3.elim | skip
  obtain ⟨p, vs, rfl, h4, r4⟩ := rep_lst r3
  refine ⟨p, vs, rfl, sqL_of h4, fun l hl => ?_⟩
  have s := same_new (o := .lst (cutV vs lo hi)) hl
  exact k _ l _ _ h3 (S3.grow s) (e13.trans (.of s)) (e13.free hl) upd_same ((r4.cut lo hi).up (vis_hid S3 hl))⟩
/-- xs[::-1] -/
def dRevL (t : DE) : DA := fun env q x => t env (fun d => match d with
  | .lst ds => q ds.reverse
  | _ => False) x
theorem xl_rev {k : Nat} {p1 p2 p3 : Pos} (ha : XE X Λ w a t) : XL X Λ w (.Subscript a (.Slice none none (some (.UnaryOp .USub (.Constant (.int 1) k p1) p2)) p3) pos) (dRevL t) := ⟨fun hK => by
  obtain ⟨ra, pa, sa⟩ := ha.ex hK
  refine ⟨_, pe_revL pa, fun env W σ H Q q x S hx h k => sa env W σ H _ _ x S hx h fun d v H1 h1 S1 e1 r1 => ?_⟩
  rw [hK]
  cases d <;> first | exact h1.elim | skip
  obtain ⟨p, vs, rfl, h4, r4⟩ := rep_lst r1
  refine ⟨p, vs, rfl, sqL_of h4, fun l hl => ?_⟩
  have s := same_new (o := .lst vs.reverse) hl
  exact k _ l _ _ h1 (S1.grow s) (e1.trans (.of s)) (e1.free hl) upd_same (r4.rev.up (vis_hid S1 hl))⟩
/-- t[::-1] -/
def dRevT (t : DE) : DE := fun env q x => t env (fun d => match d with
  | .tup ds => q (.tup ds.reverse)
  | _ => False) x
theorem xe_revT {k : Nat} {p1 p2 p3 : Pos} (ha : XE X Λ w a t) : XE X Λ w (.Subscript a (.Slice none none (some (.UnaryOp .USub (.Constant (.int 1) k p1) p2)) p3) pos) (dRevT t) := ⟨fun hK => by
  obtain ⟨ra, pa, sa⟩ := ha.ex hK
  refine ⟨_, pe_revT pa, fun env W σ H Q q x S hx h k => sa env W σ H _ _ x S hx h fun d v H1 h1 S1 e1 r1 => ?_⟩
  rw [hK]
  cases d <;> first | exact h1.elim | skip
  obtain ⟨p, vs, rfl, h4, r4⟩ := rep_tup r1
  exact ⟨p, vs, rfl, h4, fin_tup S1 r4.rev h1 fun d v H' a b c => k d v H' a b (e1.trans c)⟩⟩
/-! ### a list in a slot, its own or not: len, an item -/
def slotL (i : Nat) (f : List D → DK) (g : D → DK) : DE := fun env q x => match env[i]? with
  | some (.ow ds) => f ds q x
  | some (.va d) => g d q x
  | _ => False
/-! ### built-in calls -/
def dCB (f : List D → DK) (u : DA) : DE := fun env q x => u env (fun ds => f ds q x) x
theorem snd_cb {r : List V → Hp → VK → Prop} {f : List D → DK} {ra : TA} {u : DA} (hr : SndC Λ w r f) (ha : SndA Λ w ra u) : Snd Λ w (tCB r ra) (dCB f u) := fun env W σ H Q q x S hx h k =>
  ha env W σ H _ _ x S hx h fun ds vs H1 h1 S1 e1 r1 => hr env W σ H1 ds vs Q q x S1 (hx.on e1) r1 h1 fun d3 v3 H3 h3 S3 e3 r3 => k d3 v3 H3 h3 S3 (e1.trans e3) r3
theorem xe_callB {id : String} {y : Str} {p : Pos} {r : List V → Hp → VK → Prop} {f : List D → DK} {u : DA} (hc : X.K = Λ.B.K → CallR X (.builtin id) r) (hr : SndC Λ w r f) (hg : Gl X y) (hm : X.mg y = none) (hv : bootBuiltins y = some (.builtin id)) (ha : XA X Λ w (e :: es) u) (hn : y ≠ "__name__" := by decide) (hdb : (y == ("__debug__" : Str)) = false := by decide)
    (he : starEach (e :: es) X.env = (false, eval e X.env) :: starEach es X.env := by rfl) (hpl : (backTo pos (starEach es X.env)).any (·.1) = false := by rfl) : XE X Λ w (.Call (.Name y p) (e :: es) [] pos) (dCB f u) := ⟨fun hK => by
  obtain ⟨ra, pa, sa⟩ := ha.ex hK
  exact ⟨_, pe_callB (hc hK) hg hm hv pa hn hdb he hpl, snd_cb hr sa⟩⟩
theorem xe_callTy {id : String} {y : Str} {p : Pos} {r : List V → Hp → VK → Prop} {f : List D → DK} {u : DA} (hc : X.K = Λ.B.K → CallR X (.type id) r) (hr : SndC Λ w r f) (hg : Gl X y) (hm : X.mg y = none) (hv : bootBuiltins y = some (.type id)) (ha : XA X Λ w (e :: es) u) (hn : y ≠ "__name__" := by decide) (hdb : (y == ("__debug__" : Str)) = false := by decide)
    (he : starEach (e :: es) X.env = (false, eval e X.env) :: starEach es X.env := by rfl) (hpl : (backTo pos (starEach es X.env)).any (·.1) = false := by rfl) : XE X Λ w (.Call (.Name y p) (e :: es) [] pos) (dCB f u) := ⟨fun hK => by
  obtain ⟨ra, pa, sa⟩ := ha.ex hK
  exact ⟨_, pe_callTy (hc hK) hg hm hv pa hn hdb he hpl, snd_cb hr sa⟩⟩
theorem RepL.one_inv {B : Tb} {H : Hp} {d : D} {vs : List V} (r : RepL B H [d] vs) : ∃ v, vs = [v] ∧ Rep B H d v := by
  obtain ⟨v, r', rfl, h1, h2⟩ := r
  cases (show r' = [] from h2)
  exact ⟨v, rfl, h1⟩
theorem RepL.two_inv {B : Tb} {H : Hp} {d e : D} {vs : List V} (r : RepL B H [d, e] vs) : ∃ v u, vs = [v, u] ∧ Rep B H d v ∧ Rep B H e u := by
  obtain ⟨v, r', rfl, h1, u, r2, rfl, h2, h3⟩ := r
  cases (show r2 = [] from h3)
  exact ⟨v, u, rfl, h1, h2⟩
def lenD : List D → DK := fun ds q _ => match ds with
  | [.lst xs] => q (.int xs.length)
  | [.tup xs] => q (.int xs.length)
  | [.str y] => y.length ≤ 100000 ∧ q (.int y.length)
  | _ => False
theorem snd_len : SndC Λ w (fun xs H Q => (∃ p ys, xs = [.ref p] ∧ (SqL Λ.B.K H p ys ∨ SqT Λ.B.K H p ys) ∧ Q (.int ys.length) H) ∨ ∃ z, xs = [.str z] ∧ z.length ≤ sizeLine ∧ Q (.int z.length) H) lenD := fun env W σ H ds vs Q q x S hx r h k => by
  unfold lenD at h
  split at h
  · obtain ⟨v, rfl, r1⟩ := r.one_inv
    obtain ⟨p, vs, rfl, h4, r4⟩ := rep_lst r1
    exact .inl ⟨p, vs, rfl, .inl (sqL_of h4), by rw [r4.len]; exact k _ _ H h S .refl rfl⟩
  · obtain ⟨v, rfl, r1⟩ := r.one_inv
    obtain ⟨p, vs, rfl, h4, r4⟩ := rep_tup r1
    exact .inl ⟨p, vs, rfl, .inr h4, by rw [r4.len]; exact k _ _ H h S .refl rfl⟩
  · obtain ⟨v, rfl, r1⟩ := r.one_inv
    cases r1
    exact .inr ⟨_, rfl, sz h.1, k _ _ H h.2 S .refl rfl⟩
  · exact h.elim
theorem hc_len : X.K = Λ.B.K → CallR X (.builtin "len") (fun xs H Q => (∃ p ys, xs = [.ref p] ∧ (SqL Λ.B.K H p ys ∨ SqT Λ.B.K H p ys) ∧ Q (.int ys.length) H) ∨ ∃ z, xs = [.str z] ∧ z.length ≤ sizeLine ∧ Q (.int z.length) H) := fun hK => hK ▸ callE call_len_seq call_len_str
def absD : List D → DK := fun ds q _ => match ds with
  | [.int i] => q (.int (if i < 0 then -i else i))
  | _ => False
theorem snd_abs : SndC Λ w (fun xs H Q => ∃ i, xs = [.int i] ∧ Q (.int (if i < 0 then -i else i)) H) absD := fun env W σ H ds vs Q q x S hx r h k => by
  unfold absD at h
  split at h
  · obtain ⟨v, rfl, r1⟩ := r.one_inv
    cases r1
    exact ⟨_, rfl, k _ _ H h S .refl rfl⟩
  · exact h.elim
def max2D : List D → DK := fun ds q _ => match ds with
  | [.int i, .int j] => q (.int (if j > i then j else i))
  | _ => False
theorem snd_max2 : SndC Λ w (fun xs H Q => ∃ i j, xs = [.int i, .int j] ∧ Q (.int (if j > i then j else i)) H) max2D := fun env W σ H ds vs Q q x S hx r h k => by
  unfold max2D at h
  split at h
  · obtain ⟨v, u, rfl, r1, r2⟩ := r.two_inv
    cases r1; cases r2
    exact ⟨_, _, rfl, k _ _ H h S .refl rfl⟩
  · exact h.elim
def min2D : List D → DK := fun ds q _ => match ds with
  | [.int i, .int j] => q (.int (if j < i then j else i))
  | _ => False
theorem snd_min2 : SndC Λ w (fun xs H Q => ∃ i j, xs = [.int i, .int j] ∧ Q (.int (if j < i then j else i)) H) min2D := fun env W σ H ds vs Q q x S hx r h k => by
  unfold min2D at h
  split at h
  · obtain ⟨v, u, rfl, r1, r2⟩ := r.two_inv
    cases r1; cases r2
    exact ⟨_, _, rfl, k _ _ H h S .refl rfl⟩
  · exact h.elim
def int1D : List D → DK := fun ds q _ => match ds with
  | [.int i] => q (.int i)
  | [.bl k] => q (.int (if k then 1 else 0))
  | _ => False
theorem snd_int1 : SndC Λ w (fun xs H Q => (∃ i, xs = [.int i] ∧ Q (.int i) H) ∨ ∃ k, xs = [.bl k] ∧ Q (.int (if k then 1 else 0)) H) int1D := fun env W σ H ds vs Q q x S hx r h k => by
  unfold int1D at h
  split at h
  · obtain ⟨v, rfl, r1⟩ := r.one_inv
    cases r1
    exact .inl ⟨_, rfl, k _ _ H h S .refl rfl⟩
  · obtain ⟨v, rfl, r1⟩ := r.one_inv
    cases r1
    exact .inr ⟨_, rfl, k _ _ H h S .refl rfl⟩
  · exact h.elim
def strD : List D → DK := fun ds q _ => match ds with
  | [.int i] => i.natAbs.log2 < 1920 ∧ q (.str (toString i))
  | [.str y] => q (.str y)
  | _ => False
theorem snd_str : SndC Λ w (fun xs H Q => (∃ i, xs = [.int i] ∧ i.natAbs.log2 < 1920 ∧ Q (.str (toString i)) H) ∨ ∃ a, xs = [.str a] ∧ Q (.str a) H) strD := fun env W σ H ds vs Q q x S hx r h k => by
  unfold strD at h
  split at h
  · obtain ⟨v, rfl, r1⟩ := r.one_inv
    cases r1
    exact .inl ⟨_, rfl, h.1, k _ _ H h.2 S .refl rfl⟩
  · obtain ⟨v, rfl, r1⟩ := r.one_inv
    cases r1
    exact .inr ⟨_, rfl, k _ _ H h S .refl rfl⟩
  · exact h.elim
/-- sum of a list, a tuple of ints -/
def sumD : List D → DK := fun ds q _ => ∃ ns : List Int, (ds = [.lst (ns.map .int)] ∨ ds = [.tup (ns.map .int)]) ∧ q (.int ns.sum)
theorem snd_sum : SndC Λ w (fun vs H Q => rSum Λ.B.K vs H Q ∨ rSumT Λ.B.K vs H Q) sumD := fun env W σ H ds vs Q q x S hx r h k => by
  obtain ⟨ns, e | e, h⟩ := h
  · subst e
    obtain ⟨v, rfl, r1⟩ := r.one_inv
    obtain ⟨p, vs, rfl, h4, r4⟩ := rep_lst r1
    cases r4.ints
    exact .inl ⟨p, ns, rfl, sqL_of h4, k _ _ H h S .refl rfl⟩
  · subst e
    obtain ⟨v, rfl, r1⟩ := r.one_inv
    obtain ⟨p, vs, rfl, h4, r4⟩ := rep_tup r1
    cases r4.ints
    exact .inr ⟨p, ns, rfl, h4, k _ _ H h S .refl rfl⟩
theorem hc_sum (hc : X.calm = true) : X.K = Λ.B.K → CallR X (.builtin "sum") (fun vs H Q => rSum Λ.B.K vs H Q ∨ rSumT Λ.B.K vs H Q) := fun hK => hK ▸ callE (cr_sum hc) (cr_sumT hc)
def allD : List D → DK := fun ds q _ => ∃ bs : List Bool, ds = [.lst (bs.map .bl)] ∧ q (.bl (bs.all id))
theorem snd_all : SndC Λ w (rAll Λ.B.K) allD := fun env W σ H ds vs Q q x S hx r h k => by
  obtain ⟨ns, e, h⟩ := h
  subst e
  obtain ⟨v, rfl, r1⟩ := r.one_inv
  obtain ⟨p, vs, rfl, h4, r4⟩ := rep_lst r1
  cases r4.bools
  exact ⟨p, ns, rfl, sqL_of h4, k _ _ H h S .refl rfl⟩
theorem hc_all (hc : X.calm = true) : X.K = Λ.B.K → CallR X (.builtin "all") (rAll Λ.B.K) := fun hK => hK ▸ cr_all hc
def tupleD : List D → DK := fun ds q _ => match ds with
  | [.lst xs] => q (.tup xs)
  | [.tup xs] => q (.tup xs)
  | _ => False
theorem snd_tuple : SndC Λ w (fun xs H Q => ∃ p ys, xs = [.ref p] ∧ ((SqL Λ.B.K H p ys ∧ ∀ l, H l = none → Q (.ref l) (upd H l (.tup ys))) ∨ (SqT Λ.B.K H p ys ∧ Q (.ref p) H))) tupleD := fun env W σ H ds vs Q q x S hx r h k => by
  unfold tupleD at h
  split at h
  · obtain ⟨v, rfl, r1⟩ := r.one_inv
    obtain ⟨p, vs, rfl, h4, r4⟩ := rep_lst r1
    exact ⟨p, vs, rfl, .inl ⟨sqL_of h4, fin_tup S r4 h k⟩⟩
  · obtain ⟨v, rfl, r1⟩ := r.one_inv
    obtain ⟨p, vs, rfl, h4, r4⟩ := rep_tup r1
    exact ⟨p, vs, rfl, .inr ⟨h4, k _ _ H h S .refl r1⟩⟩
  · exact h.elim
theorem hc_tuple : X.K = Λ.B.K → CallR X (.type "tuple") (fun xs H Q => ∃ p ys, xs = [.ref p] ∧ ((SqL Λ.B.K H p ys ∧ ∀ l, H l = none → Q (.ref l) (upd H l (.tup ys))) ∨ (SqT Λ.B.K H p ys ∧ Q (.ref p) H))) := fun hK => hK ▸ call_tuple_of
/-! new lists by calls -/
def dCL (f : List D → (List D → Prop) → (DX → Prop) → Prop) (u : DA) : DA := fun env q x => u env (fun ds => f ds q x) x
theorem snd_cl {r : List V → Hp → VK → Prop} {f : List D → (List D → Prop) → (DX → Prop) → Prop} {ra : TA} {u : DA} (hr : SndCL Λ w r f) (ha : SndA Λ w ra u) : SndL Λ w (tCB r ra) (dCL f u) := fun env W σ H Q q x S hx h k =>
  ha env W σ H _ _ x S hx h fun ds vs H1 h1 S1 e1 r1 => hr env W σ H1 ds vs Q q x S1 (hx.on e1) r1 h1 fun d3 p v3 H3 h3 S3 e3 hp h4 r3 => k d3 p v3 H3 h3 S3 (e1.trans e3) (e1.free hp) h4 r3
theorem xl_callTy {id : String} {y : Str} {p : Pos} {r : List V → Hp → VK → Prop} {f : List D → (List D → Prop) → (DX → Prop) → Prop} {u : DA} (hc : X.K = Λ.B.K → CallR X (.type id) r) (hr : SndCL Λ w r f) (hg : Gl X y) (hm : X.mg y = none) (hv : bootBuiltins y = some (.type id)) (ha : XA X Λ w (e :: es) u) (hn : y ≠ "__name__" := by decide) (hdb : (y == ("__debug__" : Str)) = false := by decide)
    (he : starEach (e :: es) X.env = (false, eval e X.env) :: starEach es X.env := by rfl) (hpl : (backTo pos (starEach es X.env)).any (·.1) = false := by rfl) : XL X Λ w (.Call (.Name y p) (e :: es) [] pos) (dCL f u) := ⟨fun hK => by
  obtain ⟨ra, pa, sa⟩ := ha.ex hK
  exact ⟨_, pe_callTy (hc hK) hg hm hv pa hn hdb he hpl, snd_cl hr sa⟩⟩
theorem xl_callB {id : String} {y : Str} {p : Pos} {r : List V → Hp → VK → Prop} {f : List D → (List D → Prop) → (DX → Prop) → Prop} {u : DA} (hc : X.K = Λ.B.K → CallR X (.builtin id) r) (hr : SndCL Λ w r f) (hg : Gl X y) (hm : X.mg y = none) (hv : bootBuiltins y = some (.builtin id)) (ha : XA X Λ w (e :: es) u) (hn : y ≠ "__name__" := by decide) (hdb : (y == ("__debug__" : Str)) = false := by decide)
    (he : starEach (e :: es) X.env = (false, eval e X.env) :: starEach es X.env := by rfl) (hpl : (backTo pos (starEach es X.env)).any (·.1) = false := by rfl) : XL X Λ w (.Call (.Name y p) (e :: es) [] pos) (dCL f u) := ⟨fun hK => by
  obtain ⟨ra, pa, sa⟩ := ha.ex hK
  exact ⟨_, pe_callB (hc hK) hg hm hv pa hn hdb he hpl, snd_cl hr sa⟩⟩
theorem finL {env : List Sl} {W : Ow} {σ : L2.St} {H : Hp} {Q : VK} {q : List D → Prop} {ds : List D} {vs : List V} (S : StOk Λ env W σ H) (r : RepL Λ.B (Λ.vis W H) ds vs) (h : q ds)
    (k : ∀ ds p vs H', q ds → StOk Λ env W σ H' → Ev Λ W H H' → H p = none → H' p = some (.lst vs) → RepL Λ.B (hid (fun a => a = p) (Λ.vis W H')) ds vs → Q (.ref p) H') : ∀ p, H p = none → Q (.ref p) (upd H p (.lst vs)) := fun p hp => by
  have s := same_new (o := .lst vs) hp
  exact k _ p _ _ h (S.grow s) (.of s) hp upd_same (r.up (vis_hid S hp))
def listD : List D → (List D → Prop) → (DX → Prop) → Prop := fun ds q _ => match ds with
  | [.lst xs] => q xs
  | [.tup xs] => q xs
  | _ => False
theorem snd_list : SndCL Λ w (fun xs H Q => ∃ p ys, xs = [.ref p] ∧ (SqL Λ.B.K H p ys ∨ SqT Λ.B.K H p ys) ∧ ∀ l, H l = none → Q (.ref l) (upd H l (.lst ys))) listD := fun env W σ H ds vs Q q x S hx r h k => by
  unfold listD at h
  split at h
  · obtain ⟨v, rfl, r1⟩ := r.one_inv
    obtain ⟨p, vs, rfl, h4, r4⟩ := rep_lst r1
    exact ⟨p, vs, rfl, .inl (sqL_of h4), finL S r4 h k⟩
  · obtain ⟨v, rfl, r1⟩ := r.one_inv
    obtain ⟨p, vs, rfl, h4, r4⟩ := rep_tup r1
    exact ⟨p, vs, rfl, .inr h4, finL S r4 h k⟩
  · exact h.elim
theorem hc_list : X.K = Λ.B.K → CallR X (.type "list") (fun xs H Q => ∃ p ys, xs = [.ref p] ∧ (SqL Λ.B.K H p ys ∨ SqT Λ.B.K H p ys) ∧ ∀ l, H l = none → Q (.ref l) (upd H l (.lst ys))) := fun hK => hK ▸ call_list_of
def dCatL (ta tb : DE) : DA := fun env q x => ta env (fun d => tb env (fun e => match d, e with
  | .lst i, .lst j => i.length + j.length ≤ 100000 ∧ q (i ++ j)
  | _, _ => False) x) x
theorem xl_cat (ha : XE X Λ w a ta) (hb : XE X Λ w b tb) : XL X Λ w (.BinOp a .Add b pos) (dCatL ta tb) := ⟨fun hK => by
  obtain ⟨ra, pa, sa⟩ := ha.ex hK
  obtain ⟨rb, pb, sb⟩ := hb.ex hK
  refine ⟨_, pe_op op_cat pa pb, fun env W σ H Q q x S hx h k => sa env W σ H _ _ x S hx h fun d v H1 h1 S1 e1 r1 => sb env W σ H1 _ _ x S1 (hx.on e1) h1 fun d2 v2 H2 h2 S2 e2 r2 => ?_⟩
  have r1 := r1.up e2.vis
  cases d <;> cases d2 <;> first | exact h2.elim | skip
  obtain ⟨p, vs, rfl, h3, r3⟩ := rep_lst r1
  obtain ⟨p', vs', rfl, h4, r4⟩ := rep_lst r2
  exact ⟨p, p', vs, vs', rfl, rfl, h3, h4, by rw [r3.len, r4.len]; exact sz h2.1, finL S2 (r3.app r4) h2.2 fun ds p vs H' a b c hp g r => k ds p vs H' a b ((e1.trans e2).trans c) ((e1.trans e2).free hp) g r⟩⟩
def dRepL (ta tb : DE) : DA := fun env q x => ta env (fun d => tb env (fun e => match d, e with
  | .lst xs, .int k => (-(2 ^ 63) ≤ k ∧ k < 2 ^ 63 ∧ xs.length * k.toNat ≤ 100000) ∧ q (List.replicate k.toNat xs).flatten
  | _, _ => False) x) x
theorem xl_rep (ha : XE X Λ w a ta) (hb : XE X Λ w b tb) : XL X Λ w (.BinOp a .Mult b pos) (dRepL ta tb) := ⟨fun hK => by
  obtain ⟨ra, pa, sa⟩ := ha.ex hK
  obtain ⟨rb, pb, sb⟩ := hb.ex hK
  refine ⟨_, pe_op op_rep pa pb, fun env W σ H Q q x S hx h k => sa env W σ H _ _ x S hx h fun d v H1 h1 S1 e1 r1 => sb env W σ H1 _ _ x S1 (hx.on e1) h1 fun d2 v2 H2 h2 S2 e2 r2 => ?_⟩
  have r1 := r1.up e2.vis
  cases d <;> cases d2 <;> first | exact h2.elim | skip
  obtain ⟨p, vs, rfl, h3, r3⟩ := rep_lst r1
  cases r2
  exact ⟨p, _, vs, rfl, rfl, h3, h2.1.1, h2.1.2.1, by rw [r3.len]; exact sz h2.1.2.2, finL S2 (r3.rep _) h2.2 fun ds p vs H' a b c hp g r => k ds p vs H' a b ((e1.trans e2).trans c) ((e1.trans e2).free hp) g r⟩⟩
end
end Eb

/-! ## own layer: own defs, instances, operators, draws, without a heap -/
namespace Eb
open PySem PySem.Spec PyProof.Rows L2 StX
abbrev DW := List D → DK
/-- a def's promise: it raises nothing -/
def spF0 (B : Tb) (wp : DW) : Sp := fun vs H Q _ => ∃ (Z : Addr → Prop) (ds : List D) (q : D → Prop), (∀ a, Z a → H a ≠ none) ∧ RepL B (hid Z H) ds vs ∧ wp ds q (fun _ => False) ∧ ∀ d v H', q d → Same H H' → Rep B (hid Z H') d v → Q v H'
/-- .. it may raise -/
def spF (B : Tb) (wp : DW) : Sp := fun vs H Q E => ∃ (Z : Addr → Prop) (ds : List D) (q : D → Prop) (x : DX → Prop), (∀ a, Z a → H a ≠ none) ∧ RepL B (hid Z H) ds vs ∧ wp ds q x ∧ (∀ d v H', q d → Same H H' → Rep B (hid Z H') d v → Q v H') ∧ ∀ dx cv od H', x dx → Same H H' → RepX B (hid Z H') dx cv od → E cv od H'
/-- .. it draws -/
def spG0 (B : Tb) (wp : DW) : Sp := fun vs H Q _ => ∃ (Z : Addr → Prop) (ds : List D) (q : D → Prop) (d l : Addr) (vr : List V), vs = .ref d :: vr ∧ Deal H d l ∧ (∀ a, Z a → H a ≠ none) ∧ RepL B (hid (fun a => Z a ∨ (a = d ∨ a = l)) H) ds vr ∧
  wp ds q (fun _ => False) ∧ ∀ r v H', q r → Drew d l H H' → Rep B (hid (fun a => Z a ∨ (a = d ∨ a = l)) H') r v → Q v H'
/-- an __init__: p is the new instance -/
abbrev DWI := List D → (List D → Prop) → (DX → Prop) → Prop
def spI0 (B : Tb) (c : Nat) (wp : DWI) : Sp := fun vs H Q _ => ∃ (Z : Addr → Prop) (ds : List D) (q : List D → Prop) (p dx : Addr) (vr : List V), vs = .ref p :: vr ∧ H p = some (.ins (B.C c) dx []) ∧ ¬ Z p ∧ (∀ a, Z a → H a ≠ none) ∧ RepL B (hid (fun a => Z a ∨ a = p) H) ds vr ∧
  wp ds q (fun _ => False) ∧ ∀ fs H' dy gs, q fs → (∀ a o, a ≠ p → H a = some o → H' a = some o) → H' p = some (.ins (B.C c) dy gs) → gs.map (·.1) = B.fl c → RepL B (hid (fun a => Z a ∨ a = p) H') fs (gs.map (·.2)) → Q .non H'
def endsF (q : D → Prop) (x : DX → Prop) : DEnds := ⟨fun _ => q .non, q, fun _ => False, fun _ => False, fun _ => x⟩
def wpOf (n m : Nat) (t : DS) : DW := fun ds q x => ds.length = n ∧ t (ds.map Sl.va ++ List.replicate m .un) (endsF q x)
def wpOfG (n m : Nat) (t : DS) : DW := fun ds q x => ds.length = n ∧ t (.dl :: (ds.map Sl.va ++ List.replicate m .un)) (endsF q x)
def endI (c n : Nat) (q : List D → Prop) (env : List Sl) : Prop := match env[0]? with
  | some (Sl.se c' fs) => c' = c ∧ fs.length = n ∧ q fs
  | _ => False
def endsI (c n : Nat) (q : List D → Prop) (x : DX → Prop) : DEnds := ⟨endI c n q, fun _ => False, fun _ => False, fun _ => False, fun _ => x⟩
def wpOfI (c k n m : Nat) (t : DS) : DWI := fun ds q x => ds.length = n ∧ t (.se c [] :: (ds.map Sl.va ++ List.replicate m .un)) (endsI c k q x)
theorem start_len {N : List Str} {vs : List V} (h : vs.length ≤ N.length) : (L2.start N vs).length = N.length := by
  unfold L2.start
  simp
  omega
theorem start_get {N : List Str} {vs : List V} {i : Nat} (h : i < vs.length) : (L2.start N vs)[i]? = some (some vs[i]) := by
  unfold L2.start
  rw [List.getElem?_append_left (by simpa using h)]
  simp [h]
theorem env_get {ds : List D} {m i : Nat} {s : Sl} (h : (ds.map Sl.va ++ List.replicate m Sl.un)[i]? = some s) : (∃ d, ds[i]? = some d ∧ s = .va d) ∨ s = .un := by
  by_cases c : i < ds.length
  · rw [List.getElem?_append_left (by simpa using c)] at h
    simp only [List.getElem?_map] at h
    rw [List.getElem?_eq_getElem c] at h
    cases h
    exact .inl ⟨_, List.getElem?_eq_getElem c, rfl⟩
  · rw [List.getElem?_append_right (by simpa using c)] at h
    have := List.getElem?_eq_some_iff.mp h
    obtain ⟨_, e⟩ := this
    rw [List.getElem_replicate] at e
    exact .inr e.symm
section
variable {P : Program} {w' : World} {K : PySem.W.Frag} {mg : Str → Option Value} {base : Heap} {name qual : Str} {st : Stmt} {f : Addr} {fd : FuncData} {N ps : List Str} {k : Nat} {B : Tb}
theorem run_body {X : Cx} {Λ : Lx} {w : WX} {sts : List Stmt} {t : DS} {env : List Sl} {W : Ow} {σ : L2.St} {H : Hp} {E : Ends} {e : DEnds} (h : XSs X Λ w sts t) (hK : X.K = Λ.B.K) (S : StOk Λ env W σ H) (L : Lnk Λ w W H E e) (ht : t env e) : ∃ ts, PSs X sts ts ∧ ts E σ H := by
  obtain ⟨r, p, s⟩ := h.ex hK
  exact ⟨r, p, s env W σ H E e S L ht⟩
theorem st_start {Z : Addr → Prop} {H : Hp} {ds : List D} {vs : List V} {m : Nat} (hZ : ∀ a, Z a → H a ≠ none) (r : RepL B (hid Z H) ds vs) (hN : N.length = ds.length + m) : StOk ⟨B, Z, fun _ => False, H, none⟩ (ds.map Sl.va ++ List.replicate m .un) (fun _ => none) (L2.start N vs) H where
  len := by rw [start_len (by rw [r.len]; omega)]; simp [hN]
  sl := fun i s e => by
    rcases env_get e with ⟨d, hd, rfl⟩ | rfl
    · obtain ⟨v, hv, rv⟩ := r.get hd
      obtain ⟨hi, e2⟩ := List.getElem?_eq_some_iff.mp hv
      refine ⟨v, by rw [start_get hi, e2], rv.up (hid_anti fun a g => ?_)⟩
      rcases g with z | z | ⟨j, z⟩
      · exact z
      · exact z.elim
      · cases z
    · trivial
  fr := fun a o _ h => h
  mx := fun a m => m.elim
  zx := hZ
  wx := fun i p e => by cases e
  wi := fun i j p e => by cases e
  dl := fun d l e => by cases e
  wf := ⟨0, fun _ _ => rfl⟩
theorem out0 {Z : Addr → Prop} {H H' : Hp} : Same ((⟨B, Z, fun _ => False, H, none⟩ : Lx).out H') (hid Z H') := hid_anti fun a z => .inl z
theorem fnF0 (F : Fun K name qual st f fd) (S : FnScope N ps (defScope st)) {t : DS} {n m : Nat} (hn : ps.length = n) (hN : N.length = n + m) (hK : K = B.K)
    (body : ∀ (cdv : Value) (A : Around) (outer : List Env) (s : Shared) (H : Hp) (E : XK) (Z M : Addr → Prop) (H0 : Hp) (dl : Option (Addr × Addr)), Room k (A.deeper (envOfC qual (defScope st) s.heap.objs.size f cdv)) →
      XSs (cxOf CX0 P w' K mg base N qual (defScope st) f cdv A outer s H E).nox ⟨B, Z, M, H0, dl⟩ w0 (defBody st) t) : FnOk P w' K mg base CX0 (k + 1) f fd ps (spF0 B (wpOf n m t)) := by
  refine F.ok S (fun vs H Q E ⟨Z, ds, _, _, r, h, _⟩ => by rw [r.len, h.1, hn]) fun cdv A outer s H vs Q E hr ⟨Z, ds, q, hZ, r, ⟨hl, ht⟩, kq⟩ => ?_
  refine run_body (body cdv A outer s H E Z (fun _ => False) H none hr) hK (st_start hZ r (by rw [hl]; exact hN)) ?_ ht
  refine ⟨fun env' W' σ' H' q S' _ => kq _ _ _ q (fun a o h => S'.fr a o (fun z => z) h) rfl, fun _ _ _ _ q => q.elim, fun _ _ _ _ q => q.elim, fun d v env' W' σ' H' q S' rp => kq d v H' q (fun a o h => S'.fr a o (fun z => z) h) (rp.up out0), fun _ _ _ _ _ _ _ q => q.elim⟩
theorem fnF (F : Fun K name qual st f fd) (S : FnScope N ps (defScope st)) {t : DS} {n m : Nat} (hn : ps.length = n) (hN : N.length = n + m) (hK : K = B.K)
    (body : ∀ (cdv : Value) (A : Around) (outer : List Env) (s : Shared) (H : Hp) (E : XK) (Z M : Addr → Prop) (H0 : Hp) (dl : Option (Addr × Addr)), Room k (A.deeper (envOfC qual (defScope st) s.heap.objs.size f cdv)) →
      XSs (cxOf (L2.CX P w') P w' K mg base N qual (defScope st) f cdv A outer s H E) ⟨B, Z, M, H0, dl⟩ (fun cls d _ H => E cls d H) (defBody st) t) : FnOk P w' K mg base (L2.CX P w') (k + 1) f fd ps (spF B (wpOf n m t)) := by
  refine F.okX S (fun vs H Q E ⟨Z, ds, _, _, _, r, h, _⟩ => by rw [r.len, h.1, hn]) fun cdv A outer s H vs Q E hr ⟨Z, ds, q, x, hZ, r, ⟨hl, ht⟩, kq, kx⟩ => ?_
  refine run_body (body cdv A outer s H E Z (fun _ => False) H none hr) hK (st_start hZ r (by rw [hl]; exact hN)) ?_ ht
  refine ⟨fun env' W' σ' H' q S' _ => kq _ _ _ q (fun a o h => S'.fr a o (fun z => z) h) rfl, fun _ _ _ _ q => q.elim, fun _ _ _ _ q => q.elim, fun d v env' W' σ' H' q S' rp => kq d v H' q (fun a o h => S'.fr a o (fun z => z) h) (rp.up out0), fun env' W' σ' H' dx cv od q S' _ rx => ?_⟩
  refine kx dx cv od H' q (fun a o h => S'.fr a o (fun z => z) h) ?_
  have up : Same ((⟨B, Z, fun _ => False, H, none⟩ : Lx).vis W' H') (hid Z H') := hid_anti fun a z => .inl z
  refine ⟨rx.1, ?_⟩
  have r2 := rx.2
  split
  · rename_i e
    rw [e] at r2
    exact r2
  · rename_i d e
    rw [e] at r2
    obtain ⟨a, v, h1, h2, h3⟩ := r2
    exact ⟨a, v, h1, up _ _ h2, h3.up up⟩
/-- the entry of a def that draws -/
theorem st_startG {Z : Addr → Prop} {H : Hp} {d l : Addr} {ds : List D} {vs : List V} {m : Nat} (D0 : Deal H d l) (hZ : ∀ a, Z a → H a ≠ none) (r : RepL B (hid (fun a => Z a ∨ (a = d ∨ a = l)) H) ds vs) (hN : N.length = ds.length + 1 + m) :
    StOk ⟨B, Z, fun a => a = d ∨ a = l, H, some (d, l)⟩ (.dl :: (ds.map Sl.va ++ List.replicate m .un)) (fun _ => none) (L2.start N (.ref d :: vs)) H where
  len := by rw [start_len (by rw [List.length_cons, r.len]; omega)]; simp [hN]; omega
  sl := fun i s e => by
    cases i with
    | zero =>
      cases e
      exact ⟨d, l, rfl, by rw [start_get (by simp)]; rfl⟩
    | succ i =>
      rw [List.getElem?_cons_succ] at e
      rcases env_get e with ⟨d', hd, rfl⟩ | rfl
      · obtain ⟨v, hv, rv⟩ := r.get hd
        obtain ⟨hi, e2⟩ := List.getElem?_eq_some_iff.mp hv
        refine ⟨v, by rw [start_get (by simpa using hi), ← e2]; rfl, rv.up (hid_anti fun a g => ?_)⟩
        rcases g with z | z | ⟨j, z⟩
        · exact .inl z
        · exact .inr z
        · cases z
      · trivial
  fr := fun a o _ h => h
  mx := fun a m => by
    rcases m with rfl | rfl
    · exact D0.none _ (by simp)
    · exact D0.none _ (by simp)
  zx := hZ
  wx := fun i p e => by cases e
  wi := fun i j p e => by cases e
  dl := fun d' l' e => by
    cases e
    exact ⟨D0, .inl rfl, .inr rfl, fun i => ⟨by simp, by simp⟩⟩
  wf := ⟨0, fun _ _ => rfl⟩
theorem drew_of {Z : Addr → Prop} {H H' : Hp} {d l : Addr} {env : List Sl} {W : Ow} {σ : L2.St} (S : StOk ⟨B, Z, fun a => a = d ∨ a = l, H, some (d, l)⟩ env W σ H') : Drew d l H H' := ⟨(S.dl d l rfl).1, fun b o n h => S.fr b o (fun z => n (by simpa using z)) h⟩
theorem fnG0 (F : Fun K name qual st f fd) (S : FnScope N ps (defScope st)) {t : DS} {n m : Nat} (hn : ps.length = n + 1) (hN : N.length = n + 1 + m) (hK : K = B.K)
    (body : ∀ (cdv : Value) (A : Around) (outer : List Env) (s : Shared) (H : Hp) (E : XK) (Z M : Addr → Prop) (H0 : Hp) (dl : Option (Addr × Addr)), Room k (A.deeper (envOfC qual (defScope st) s.heap.objs.size f cdv)) →
      XSs (cxOf CX0 P w' K mg base N qual (defScope st) f cdv A outer s H E).nox ⟨B, Z, M, H0, dl⟩ w0 (defBody st) t) : FnOk P w' K mg base CX0 (k + 1) f fd ps (spG0 B (wpOfG n m t)) := by
  refine F.ok S (fun vs H Q E ⟨Z, ds, _, d, l, vr, e, _, _, r, h, _⟩ => by rw [e, List.length_cons, r.len, h.1, hn]) fun cdv A outer s H vs Q E hr ⟨Z, ds, q, d, l, vr, e, D0, hZ, r, ⟨hl, ht⟩, kq⟩ => ?_
  subst e
  refine run_body (body cdv A outer s H E Z (fun a => a = d ∨ a = l) H (some (d, l)) hr) hK (st_startG D0 hZ r (by rw [hl]; exact hN)) ?_ ht
  exact ⟨fun env' W' σ' H' q S' _ => kq _ _ _ q (drew_of S') rfl, fun _ _ _ _ q => q.elim, fun _ _ _ _ q => q.elim, fun d v env' W' σ' H' q S' rp => kq d v H' q (drew_of S') rp, fun _ _ _ _ _ _ _ q => q.elim⟩
end
/-! ### calls -/
section
variable {X : Cx} {Λ : Lx} {w : WX} {a b c e o : Expr} {es : List Expr} {ta tb tc t : DE} {tA tB : DT} {u : DA} {pos p apos : Pos} {k : Nat} {f : Addr} {fd : FuncData} {ps : List Str} {wp : DW} {y : Str}
theorem hG {env : List Sl} {W : Ow} {σ : L2.St} {H : Hp} (S : StOk Λ env W σ H) : ∀ a, Λ.G W a → H a ≠ none := fun a g h => S.fresh h g
theorem call0 {env : List Sl} {W : Ow} {σ : L2.St} {H : Hp} {Q : VK} {q : D → Prop} {E : XK} {ds : List D} {vs : List V} (S : StOk Λ env W σ H) (r : RepL Λ.B (Λ.vis W H) ds vs) (h : wp ds q (fun _ => False))
    (k : ∀ d v H', q d → StOk Λ env W σ H' → Ev Λ W H H' → Rep Λ.B (Λ.vis W H') d v → Q v H') : spF0 Λ.B wp vs H Q E :=
  ⟨Λ.G W, ds, q, hG S, r, h, fun d v H' hd s rp => k d v H' hd (S.grow s) (.of s) rp⟩
def dF0 (wp : DW) (u : DA) : DE := fun env q x => u env (fun ds => wp ds q (fun _ => False)) x
theorem xe_call (F : FnOk X.prog X.w X.K X.mg X.base CX0 k f fd ps (spF0 Λ.B wp)) (hr : Room k X.A) (hg : Gl X y) (hm : X.mg y = some (.ref f)) (hk : PySem.W.keepIn X.K (.ref f) = true) (hb : Binds X.K fd ps []) (ha : XA X Λ w (e :: es) u) (hdb : (y == ("__debug__" : Str)) = false := by decide)
    (he : starEach (e :: es) X.env = (false, eval e X.env) :: starEach es X.env := by rfl) (hpl : (backTo pos (starEach es X.env)).any (·.1) = false := by rfl) : XE X Λ w (.Call (.Name y p) (e :: es) [] pos) (dF0 wp u) := ⟨fun hK => by
  obtain ⟨ra, pa, sa⟩ := ha.ex hK
  refine ⟨_, pe_call F hr hg hm hk hb .nil pass0 pa hdb he hpl, fun env W σ H Q q x S hx h k => sa env W σ H _ _ x S hx h fun ds vs H1 h1 S1 e1 r1 => ?_⟩
  rw [List.append_nil]
  exact call0 S1 r1 h1 fun d v H' a b c => k d v H' a b (e1.trans c)⟩
theorem xe_call0 (F : FnOk X.prog X.w X.K X.mg X.base CX0 k f fd ps (spF0 Λ.B wp)) (hr : Room k X.A) (hg : Gl X y) (hm : X.mg y = some (.ref f)) (hk : PySem.W.keepIn X.K (.ref f) = true) (hb : Binds X.K fd ps []) (hdb : (y == ("__debug__" : Str)) = false := by decide) :
    XE X Λ w (.Call (.Name y p) [] [] pos) (dF0 wp dNil) := ⟨fun hK => by
  refine ⟨_, pe_call0 F hr hg hm hk hb .nil pass0 hdb, fun env W σ H Q q x S hx h k => ?_⟩
  exact call0 (E := E0) (ds := []) (vs := []) S rfl h k⟩
/-- .. of a def that may raise -/
def dF (wp : DW) (u : DA) : DE := fun env q x => u env (fun ds => wp ds q x) x
theorem xe_callX (tk : Takes X w) (F : FnOk X.prog X.w X.K X.mg X.base (L2.CX X.prog X.w) k f fd ps (spF Λ.B wp)) (hr : Room k X.A) (hg : Gl X y) (hm : X.mg y = some (.ref f)) (hk : PySem.W.keepIn X.K (.ref f) = true) (hb : Binds X.K fd ps []) (ha : XA X Λ w (e :: es) u) (hdb : (y == ("__debug__" : Str)) = false := by decide)
    (he : starEach (e :: es) X.env = (false, eval e X.env) :: starEach es X.env := by rfl) (hpl : (backTo pos (starEach es X.env)).any (·.1) = false := by rfl) : XE X Λ w (.Call (.Name y p) (e :: es) [] pos) (dF wp u) := ⟨fun hK => by
  obtain ⟨ra, pa, sa⟩ := ha.ex hK
  refine ⟨_, pe_callS F hr hg hm hk hb (fun σ => passAt tk σ) pa hdb he hpl, fun env W σ H Q q x S hx h k => sa env W σ H _ _ x S hx h fun ds vs H1 h1 S1 e1 r1 => ?_⟩
  exact ⟨Λ.G W, ds, q, x, hG S1, r1, h1, fun d v H' hd s rp => k d v H' hd (S1.grow s) (e1.trans (.of s)) rp, fun dx cv od H' hd s rp => hx dx cv od H' hd (S1.grow s) (e1.trans (.of s)) rp⟩⟩
/-- a def that draws: its first argument is the source -/
def dG0 (i : Nat) (wp : DW) (u : DA) : DE := fun env q x => match env[i]? with
  | some .dl => u env (fun ds => wp ds q (fun _ => False)) x
  | _ => False
theorem call_g {env : List Sl} {W : Ow} {σ : L2.St} {H : Hp} {Q : VK} {q : D → Prop} {E : XK} {ds : List D} {vs : List V} {d l : Addr} (S : StOk Λ env W σ H) (ed : Λ.dl = some (d, l)) (r : RepL Λ.B (Λ.vis W H) ds vs) (h : wp ds q (fun _ => False))
    (k : ∀ d v H', q d → StOk Λ env W σ H' → Ev Λ W H H' → Rep Λ.B (Λ.vis W H') d v → Q v H') : spG0 Λ.B wp (.ref d :: vs) H Q E := by
  obtain ⟨D0, md, ml, _⟩ := S.dl d l ed
  have g1 : ∀ H', Same (Λ.vis W H') (hid (fun a => Λ.G W a ∨ (a = d ∨ a = l)) H') := fun H' => hid_anti fun a g => by
    rcases g with g | rfl | rfl
    · exact g
    · exact .inr (.inl md)
    · exact .inr (.inl ml)
  have g2 : ∀ H', Same (hid (fun a => Λ.G W a ∨ (a = d ∨ a = l)) H') (Λ.vis W H') := fun H' => hid_anti fun a g => .inl g
  refine ⟨Λ.G W, ds, q, d, l, vs, rfl, D0, hG S, r.up (g1 H), h, fun r' v H' hd dr rp => ?_⟩
  obtain ⟨S', ev⟩ := S.drew ed dr
  exact k r' v H' hd S' ev (rp.up (g2 H'))
theorem xe_callG {i : Nat} {y1 : Str} {p1 : Pos} (ho : PE X (.Name y1 p1) (tVar i)) (F : FnOk X.prog X.w X.K X.mg X.base CX0 k f fd ps (spG0 Λ.B wp)) (hr : Room k X.A) (hg : Gl X y) (hm : X.mg y = some (.ref f)) (hk : PySem.W.keepIn X.K (.ref f) = true) (hb : Binds X.K fd ps []) (ha : XA X Λ w es u) (hdb : (y == ("__debug__" : Str)) = false := by decide)
    (he : starEach (.Name y1 p1 :: es) X.env = (false, eval (.Name y1 p1) X.env) :: starEach es X.env := by rfl) (hpl : (backTo pos (starEach es X.env)).any (·.1) = false := by rfl) : XE X Λ w (.Call (.Name y p) (.Name y1 p1 :: es) [] pos) (dG0 i wp u) := ⟨fun hK => by
  obtain ⟨ra, pa, sa⟩ := ha.ex hK
  refine ⟨_, pe_call F hr hg hm hk hb .nil pass0 (pa_cons ho pa he) hdb he hpl, fun env W σ H Q q x S hx h k => ?_⟩
  unfold dG0 at h
  split at h
  · rename_i hd
    obtain ⟨d, l, ed, hσ⟩ := S.sl i _ hd
    refine ⟨_, hσ, sa env W σ H _ _ x S hx h fun ds vs H1 h1 S1 e1 r1 => ?_⟩
    show spG0 Λ.B wp ((V.ref d :: vs) ++ []) H1 Q E0
    rw [List.append_nil]
    exact call_g S1 ed r1 h1 fun d v H' a b c => k d v H' a b (e1.trans c)
  · exact h.elim⟩
/-- what a draw gives -/
def wpDraw : DW := fun ds q _ => match ds with
  | [.int n] => 0 < n ∧ Sm n ∧ ∀ r, 0 ≤ r → r < n → q (.int r)
  | _ => False
/-! ### fields -/
def dFld (cs : List (Nat × Nat)) (t : DE) : DE := fun env q x => t env (fun d => match d with
  | .obj c ds => match cs.lookup c with
    | some k => match ds[k]? with
      | some z => q z
      | none => False
    | none => False
  | _ => False) x
/-- a field of a class: it is read by its place -/
def FldOk (B : Tb) (f : Str) (c k : Nat) : Prop := Cls B.K (B.C c) ∧ NoAttr B.K (B.C c) f ∧ ∀ vs : List V, vs.length = (B.fl c).length → ((B.fl c).zip vs).lookup f = vs[k]?
theorem zip_maps {gs : List (Str × V)} : (gs.map (·.1)).zip (gs.map (·.2)) = gs := by
  induction gs with
  | nil => rfl
  | cons g gs ih => simp [ih]
theorem FldOk.get {B : Tb} {g : Str} {c k : Nat} {gs : List (Str × V)} (h : FldOk B g c k) (e : gs.map (·.1) = B.fl c) : gs.lookup g = (gs.map (·.2))[k]? := by
  have := h.2.2 (gs.map (·.2)) (by rw [← e]; simp)
  rw [← e, zip_maps] at this
  exact this
theorem xe_fld {g : Str} {cs : List (Nat × Nat)} (hc : ∀ c k, cs.lookup c = some k → FldOk Λ.B g c k) (ha : XE X Λ w a t) (hb : attributeBase a g X.env (eval a X.env) = eval a X.env := by rfl) : XE X Λ w (.Attribute a g pos) (dFld cs t) := ⟨fun hK => by
  obtain ⟨r, p, s⟩ := ha.ex hK
  refine ⟨_, pe_fld p hb, fun env W σ H Q q x S hx h k => s env W σ H _ _ x S hx h fun d v H1 h1 S1 e1 r1 => ?_⟩
  cases d <;> first | exact h1.elim | skip
  rename_i c ds
  obtain ⟨a, dx, gs, rfl, hg, en, rl⟩ := r1
  simp only at h1
  cases q1 : cs.lookup c with
  | none => rw [q1] at h1; exact h1.elim
  | some kk =>
    rw [q1] at h1
    simp only at h1
    cases q2 : ds[kk]? with
    | none => rw [q2] at h1; exact h1.elim
    | some z =>
      rw [q2] at h1
      have FO := hc c kk q1
      obtain ⟨v, hv, rv⟩ := rl.get q2
      refine ⟨a, _, dx, gs, v, rfl, hid_le _ _ hg, by rw [hK]; exact FO.1, by rw [hK]; exact FO.2.1, by rw [FO.get en]; exact hv, k z v H1 h1 S1 e1 rv⟩⟩
/-! ### methods -/
def dM0 (c : Nat) (wp : DW) (t : DE) (u : DA) : DE := fun env q x => t env (fun d => match d with
  | .obj c' fs => c' = c ∧ u env (fun ds => wp (.obj c' fs :: ds) q (fun _ => False)) x
  | _ => False) x
theorem noF {gs : List (Str × V)} {m : Str} {ns : List Str} (e : gs.map (·.1) = ns) (h : ns.contains m = false) : gs.lookup m = none := by
  subst e
  induction gs with
  | nil => rfl
  | cons g gs ih =>
    obtain ⟨n, v⟩ := g
    simp only [List.map_cons, List.contains_cons, Bool.or_eq_false_iff] at h
    rw [List.lookup_cons, h.1]
    exact ih h.2
theorem xe_meth {c : Nat} {m : Str} {pl : Sem Bool} (he : XE X Λ w o t) (cl : Cls X.K (Λ.B.C c)) (hm : Meth X.K (Λ.B.C c) m f) (hf : (Λ.B.fl c).contains m = false) (F : FnOk X.prog X.w X.K X.mg X.base CX0 k f fd ps (spF0 Λ.B wp)) (hr : Room k X.A) (hb : Binds X.K fd ps []) (ha : XA X Λ w (e :: es) u)
    (hst : starEach (e :: es) X.env = (false, eval e X.env) :: starEach es X.env := by rfl) (hpl : (backTo pos (starEach es X.env)).any (·.1) = false := by rfl)
    (ht : eval (.Call (.Attribute o m apos) (e :: es) [] pos) X.env = (do
      let ov ← eval o X.env
      standAt apos.atName
      let (f, first) ← holding [ov] (getMethod ov m pl)
      callWith pos f first (backTo pos (starEach (e :: es) X.env)) (backToKw pos (keywordEach [] X.env))) := by rfl) : XE X Λ w (.Call (.Attribute o m apos) (e :: es) [] pos) (dM0 c wp t u) := ⟨fun hK => by
  obtain ⟨r, p, s⟩ := he.ex hK
  obtain ⟨r', p', s'⟩ := ha.ex hK
  refine ⟨_, pe_meth p cl hm F hr hb .nil pass0 p' hst hpl ht, fun env W σ H Q q x S hx h k => s env W σ H _ _ x S hx h fun d v H1 h1 S1 e1 r1 => ?_⟩
  cases d <;> first | exact h1.elim | skip
  rename_i c' fs
  obtain ⟨rfl, h1⟩ := h1
  obtain ⟨a, dx, gs, rfl, hg, en, rl⟩ := id r1
  refine ⟨a, dx, gs, rfl, hid_le _ _ hg, noF en hf, s' env W σ H1 _ _ x S1 (hx.on e1) h1 fun ds vs H2 h2 S2 e2 r2 => ?_⟩
  rw [List.append_nil]
  exact call0 S2 (RepL.cons (r1.up e2.vis) r2) h2 fun d v H' a b c => k d v H' a b ((e1.trans e2).trans c)⟩
theorem xe_meth0 {c : Nat} {m : Str} {pl : Sem Bool} (he : XE X Λ w o t) (cl : Cls X.K (Λ.B.C c)) (hm : Meth X.K (Λ.B.C c) m f) (hf : (Λ.B.fl c).contains m = false) (F : FnOk X.prog X.w X.K X.mg X.base CX0 k f fd ps (spF0 Λ.B wp)) (hr : Room k X.A) (hb : Binds X.K fd ps [])
    (ht : eval (.Call (.Attribute o m apos) [] [] pos) X.env = (do
      let ov ← eval o X.env
      standAt apos.atName
      let (f, first) ← holding [ov] (getMethod ov m pl)
      callWith pos f first (backTo pos (starEach [] X.env)) (backToKw pos (keywordEach [] X.env))) := by rfl) : XE X Λ w (.Call (.Attribute o m apos) [] [] pos) (dM0 c wp t dNil) := ⟨fun hK => by
  obtain ⟨r, p, s⟩ := he.ex hK
  refine ⟨_, pe_meth0 p cl hm F hr hb .nil pass0 ht, fun env W σ H Q q x S hx h k => s env W σ H _ _ x S hx h fun d v H1 h1 S1 e1 r1 => ?_⟩
  cases d <;> first | exact h1.elim | skip
  rename_i c' fs
  obtain ⟨rfl, h1⟩ := h1
  obtain ⟨a, dx, gs, rfl, hg, en, rl⟩ := id r1
  refine ⟨a, dx, gs, rfl, hid_le _ _ hg, noF en hf, ?_⟩
  exact call0 (E := E0) (ds := [.obj c' fs]) (vs := [.ref a]) S1 (RepL.cons r1 RepL.nil) h1 fun d v H' a b c => k d v H' a b (e1.trans c)⟩
/-! ### operators of own classes -/
def op2D (c : Nat) (wp : DW) : D → D → DK := fun d e q _ => match d, e with
  | .obj c1 f1, .obj c2 f2 => c1 = c ∧ c2 = c ∧ wp [.obj c1 f1, .obj c2 f2] q (fun _ => False)
  | _, _ => False
theorem rep_ins {W : Ow} {H : Hp} {c : Nat} {fs : List D} {v : V} (r : Rep Λ.B (Λ.vis W H) (.obj c fs) v) : ∃ a, v = .ref a ∧ InsO H a (Λ.B.C c) := by
  obtain ⟨a, dx, gs, rfl, hg, _⟩ := r
  exact ⟨a, rfl, dx, gs, hid_le _ _ hg⟩
theorem snd_op2 {c : Nat} {E : XK} : SndR Λ w (rB2 (Λ.B.C c) (spF0 Λ.B wp) E) (op2D c wp) := fun env W σ H d e v u Q q x S hx r1 r2 h k => by
  cases d <;> cases e <;> first | exact h.elim | skip
  obtain ⟨rfl, rfl, h⟩ := h
  obtain ⟨a1, rfl, i1⟩ := rep_ins r1
  obtain ⟨a2, rfl, i2⟩ := rep_ins r2
  exact ⟨a1, a2, rfl, rfl, i1, i2, call0 S (RepL.cons r1 (RepL.cons r2 RepL.nil)) h k⟩
def opID (c : Nat) (wp : DW) : D → D → DK := fun d e q _ => match d, e with
  | .obj c1 f1, .int i => c1 = c ∧ wp [.obj c1 f1, .int i] q (fun _ => False)
  | _, _ => False
theorem snd_opI {c : Nat} {E : XK} : SndR Λ w (rBI (Λ.B.C c) (spF0 Λ.B wp) E) (opID c wp) := fun env W σ H d e v u Q q x S hx r1 r2 h k => by
  cases d <;> cases e <;> first | exact h.elim | skip
  obtain ⟨rfl, h⟩ := h
  obtain ⟨a1, rfl, i1⟩ := rep_ins r1
  cases r2
  exact ⟨a1, _, rfl, rfl, i1, call0 S (RepL.cons r1 (RepL.cons (d := .int _) rfl RepL.nil)) h k⟩
def un1D (c : Nat) (wp : DW) : D → DK := fun d q _ => match d with
  | .obj c1 f1 => c1 = c ∧ wp [.obj c1 f1] q (fun _ => False)
  | _ => False
theorem snd_un1 {c : Nat} {E : XK} : SndU Λ w (rUO (Λ.B.C c) (spF0 Λ.B wp) E) (un1D c wp) := fun env W σ H d v Q q x S hx r1 h k => by
  cases d <;> first | exact h.elim | skip
  obtain ⟨rfl, h⟩ := h
  obtain ⟨a1, rfl, i1⟩ := rep_ins r1
  exact ⟨a1, rfl, i1, call0 S (RepL.cons r1 RepL.nil) h k⟩
end
end Eb

/-! ## own layer: instances being made; isinstance; texts; an own list looked at -/
namespace Eb
open PySem PySem.Spec PyProof.Rows L2 StX
section
variable {P : Program} {w' : World} {K : PySem.W.Frag} {mg : Str → Option Value} {base : Heap} {name qual : Str} {st : Stmt} {f : Addr} {fd : FuncData} {N ps : List Str} {k : Nat} {B : Tb}
/-- the entry of an __init__ -/
theorem st_startI {Z : Addr → Prop} {H : Hp} {c : Nat} {p dx : Addr} {ds : List D} {vs : List V} {m : Nat} (hp : H p = some (.ins (B.C c) dx [])) (hz : ¬ Z p) (hZ : ∀ a, Z a → H a ≠ none) (r : RepL B (hid (fun a => Z a ∨ a = p) H) ds vs) (hN : N.length = ds.length + 1 + m) :
    StOk ⟨B, Z, fun a => a = p, H, none⟩ (.se c [] :: (ds.map Sl.va ++ List.replicate m .un)) (wput (fun _ => none) 0 (some p)) (L2.start N (.ref p :: vs)) H where
  len := by rw [start_len (by rw [List.length_cons, r.len]; omega)]; simp [hN]; omega
  sl := fun i s e => by
    cases i with
    | zero =>
      cases e
      exact ⟨p, dx, [], rfl, by rw [start_get (by simp)]; rfl, hp, ⟨by simp, rfl⟩, rfl⟩
    | succ i =>
      rw [List.getElem?_cons_succ] at e
      rcases env_get e with ⟨d', hd, rfl⟩ | rfl
      · obtain ⟨v, hv, rv⟩ := r.get hd
        obtain ⟨hi, e2⟩ := List.getElem?_eq_some_iff.mp hv
        refine ⟨v, by rw [start_get (by simpa using hi), ← e2]; rfl, rv.up (hid_anti fun a g => ?_)⟩
        rcases g with z | z | ⟨j, z⟩
        · exact .inl z
        · exact .inr z
        · by_cases q : j = 0
          · rw [wput_same q] at z; cases z; exact .inr rfl
          · rw [wput_ne q] at z; cases z
      · trivial
  fr := fun a o _ h => h
  mx := fun a m => by
    have e : a = p := m
    rw [e, hp]; simp
  zx := hZ
  wx := fun i q e => by
    by_cases c : i = 0
    · rw [wput_same c] at e; cases e
      exact ⟨by rw [hp]; simp, hz, .inr rfl⟩
    · rw [wput_ne c] at e; cases e
  wi := fun i j q e1 e2 => by
    by_cases c : i = 0
    · by_cases c2 : j = 0
      · rw [c, c2]
      · rw [wput_ne c2] at e2; cases e2
    · rw [wput_ne c] at e1; cases e1
  dl := fun d' l' e => by cases e
  wf := ⟨1, fun j hj => wput_ne (by omega)⟩
theorem initL {Z : Addr → Prop} {H : Hp} {c n : Nat} {p dx : Addr} {q : List D → Prop} {Q : VK} (hp : H p = some (.ins (B.C c) dx [])) (hfl : (B.fl c).length = n)
    (kq : ∀ fs H' dy gs, q fs → (∀ a o, a ≠ p → H a = some o → H' a = some o) → H' p = some (.ins (B.C c) dy gs) → gs.map (·.1) = B.fl c → RepL B (hid (fun a => Z a ∨ a = p) H') fs (gs.map (·.2)) → Q .non H') :
    Lnk ⟨B, Z, fun a => a = p, H, none⟩ w0 (wput (fun _ => none) 0 (some p)) H { nx := fun _ H' => Q .non H', rt := Q } (endsI c n q (fun _ => False)) := by
  refine ⟨fun env' W' σ' H' h S' _ => ?_, fun _ _ _ _ z => z.elim, fun _ _ _ _ z => z.elim, fun _ _ _ _ _ _ z => z.elim, fun _ _ _ _ _ _ _ z => z.elim⟩
  have h : endI c n q env' := h
  unfold endI at h
  split at h
  · rename_i c' fs he
    obtain ⟨rfl, hn, hq⟩ := h
    obtain ⟨p', dx', gs, hw, hσ, h1, ⟨h2, hm⟩, h3⟩ := S'.sl 0 _ he
    have e : p' = p := hm
    subst e
    refine kq fs H' dx' gs hq (fun a o n h => S'.fr a o n h) h1 ?_ (h3.up (hid_anti fun a g => ?_))
    · rw [h2, hn, ← hfl, List.take_length]
    · rcases g with z | z
      · exact .inl z
      · exact .inr (.inl z)
  · exact h.elim
theorem fnI0 (F : Fun K name qual st f fd) (S : FnScope N ps (defScope st)) {t : DS} {c nf n m : Nat} (hn : ps.length = n + 1) (hN : N.length = n + 1 + m) (hK : K = B.K) (hfl : (B.fl c).length = nf)
    (body : ∀ (cdv : Value) (A : Around) (outer : List Env) (s : Shared) (H : Hp) (E : XK) (Z M : Addr → Prop) (H0 : Hp) (dl : Option (Addr × Addr)), Room k (A.deeper (envOfC qual (defScope st) s.heap.objs.size f cdv)) →
      XSs (cxOf CX0 P w' K mg base N qual (defScope st) f cdv A outer s H E).nox ⟨B, Z, M, H0, dl⟩ w0 (defBody st) t) : FnOk P w' K mg base CX0 (k + 1) f fd ps (spI0 B c (wpOfI c nf n m t)) := by
  refine F.ok S (fun vs H Q E ⟨Z, ds, _, p, dx, vr, e, _, _, _, r, h, _⟩ => by rw [e, List.length_cons, r.len, h.1, hn]) fun cdv A outer s H vs Q E hr ⟨Z, ds, q, p, dx, vr, e, hp, hz, hZ, r, ⟨hl, ht⟩, kq⟩ => ?_
  subst e
  exact run_body (body cdv A outer s H E Z (fun a => a = p) H none hr) hK (st_startI hp hz hZ r (by rw [hl]; exact hN)) (initL hp hfl kq) ht
end
section
variable {X : Cx} {Λ : Lx} {w : WX} {a b c e o : Expr} {es : List Expr} {ta tb tc t : DE} {tA tB : DT} {u : DA} {pos p apos : Pos} {k : Nat} {f : Addr} {fd : FuncData} {ps : List Str} {wp : DW} {y : Str}
/-- self.g = e, the next field -/
def dSelf (i c k : Nat) (t : DE) : DS := fun env e => match env[i]? with
  | some (Sl.se c' fs) => t env (fun d => c' = c ∧ fs.length = k ∧ e.nx (env.set i (.se c (fs ++ [d])))) (e.ex env)
  | _ => False
/-- the k-th field of the class is g, and is not there before -/
def PutOk (B : Tb) (g : Str) (c k : Nat) : Prop := Cls B.K (B.C c) ∧ NoAttr B.K (B.C c) g ∧ (B.fl c).take (k + 1) = (B.fl c).take k ++ [g] ∧ k < 1000 ∧ ((B.fl c).take k).contains g = false ∧ k ≤ (B.fl c).length
theorem putF_new {g : Str} {v : V} : ∀ {gs : List (Str × V)}, (gs.map (·.1)).contains g = false → putF g v gs = gs ++ [(g, v)]
  | [], _ => rfl
  | (n, x) :: gs, h => by
    simp only [List.map_cons, List.contains_cons, Bool.or_eq_false_iff] at h
    have ne : ¬ n = g := fun e => by
      have := h.1
      rw [e, beq_self_eq_true] at this
      cases this
    unfold putF
    rw [if_neg ne, putF_new h.2]
    rfl
theorem xs_self {i cc kk : Nat} {g y : Str} {p1 p2 : Pos} (ok : PutOk Λ.B g cc kk) (ho : PE X (.Name y p1) (tVar i)) (he : XE X Λ w a t) (hs : swapsWith a (some (.Attribute (.Name y p1) g p2)) pos.line X.env = pure false := by rfl) : XS X Λ w (.Assign [.Attribute (.Name y p1) g p2] a pos) (dSelf i cc kk t) := ⟨fun hK => by
  obtain ⟨r, p, s⟩ := he.ex hK
  refine ⟨_, ps_fld ho p hs, fun env W σ H E e S L h => ?_⟩
  unfold dSelf at h
  split at h
  · rename_i c' fs hd
    obtain ⟨q, dx, gs, hw, hσ, hq, ⟨hn, hM⟩, rl⟩ := S.sl i _ hd
    refine s env W σ H _ _ _ S L.xok h fun d v H1 h1 S1 e1 r1 => ?_
    obtain ⟨rfl, rfl, h1⟩ := h1
    have hq1 := e1.own i q _ hw hq
    have hlen : gs.length < 1000 := by
      have := congrArg List.length hn
      rw [List.length_map, List.length_take] at this
      have := ok.2.2.2.1
      omega
    refine ⟨_, hσ, q, _, dx, gs, rfl, hq1, by rw [hK]; exact ok.1, by rw [hK]; exact ok.2.1, hlen, ?_⟩
    rw [putF_new (by rw [hn]; exact ok.2.2.2.2.1)]
    have v1 : Same (Λ.vis W H1) (Λ.vis W (upd H1 q (.ins (Λ.B.C c') dx (gs ++ [(g, v)])))) := hid_grow fun a u gg ha => ⟨gg, by rw [upd_ne (show a ≠ q from fun z => gg (.inr (.inr ⟨i, by rw [z]; exact hw⟩)))]; exact ha⟩
    have m1 : (gs ++ [(g, v)]).map (·.1) = (Λ.B.fl c').take (fs ++ [d]).length := by
      rw [List.map_append, hn, List.length_append]
      exact ok.2.2.1.symm
    have m2 : RepL Λ.B (Λ.vis W (upd H1 q (.ins (Λ.B.C c') dx (gs ++ [(g, v)])))) (fs ++ [d]) ((gs ++ [(g, v)]).map (·.2)) := by
      rw [List.map_append]
      exact ((rl.up e1.vis).app (.one r1)).up v1
    obtain ⟨S2, s2⟩ := S1.mut (o := .ins (Λ.B.C c') dx (gs ++ [(g, v)])) hw (s := .se c' (fs ++ [d])) ⟨q, dx, gs ++ [(g, v)], hw, hσ, upd_same, ⟨m1, hM⟩, m2⟩ (List.getElem?_eq_some_iff.mp hd).1
    exact L.nx _ _ _ _ h1 S2 (e1.vis.trans s2)
  · exact h.elim⟩
/-! ### own lists looked at -/
def lenO (i : Nat) : DE := fun env q _ => match env[i]? with
  | some (Sl.ow ds) => q (.int ds.length)
  | some (Sl.va (D.lst ds)) => q (.int ds.length)
  | some (Sl.va (D.tup ds)) => q (.int ds.length)
  | _ => False
theorem xe_lenO {i : Nat} {y1 : Str} {p1 : Pos} (ho : PE X (.Name y1 p1) (tVar i)) (hg : Gl X "len") (hm : X.mg "len" = none) (he : starEach [.Name y1 p1] X.env = (false, eval (.Name y1 p1) X.env) :: starEach [] X.env := by rfl) (hpl : (backTo pos (starEach [] X.env)).any (·.1) = false := by rfl) : XE X Λ w (.Call (.Name "len" p) [.Name y1 p1] [] pos) (lenO i) := ⟨fun hK => by
  refine ⟨_, pe_callB call_len_seq hg hm PySem.boot_len (pa_cons ho pa_nil he) (by decide) (by decide) he hpl, fun env W σ H Q q x S hx h k => ?_⟩
  rw [hK]
  unfold lenO at h
  split at h
  · rename_i ds hd
    obtain ⟨l, vs, hw, hσ, hl, rl, hm⟩ := own_at S hd
    exact ⟨_, hσ, l, vs, rfl, .inl (sqL_of hl), by rw [rl.len]; exact k _ _ H h S .refl rfl⟩
  · rename_i ds hd
    obtain ⟨v, hσ, r⟩ := S.sl i _ hd
    obtain ⟨q, vs, rfl, h4, r4⟩ := rep_lst r
    exact ⟨_, hσ, q, vs, rfl, .inl (sqL_of h4), by rw [r4.len]; exact k _ _ H h S .refl rfl⟩
  · rename_i ds hd
    obtain ⟨v, hσ, r⟩ := S.sl i _ hd
    obtain ⟨q, vs, rfl, h4, r4⟩ := rep_tup r
    exact ⟨_, hσ, q, vs, rfl, .inr h4, by rw [r4.len]; exact k _ _ H h S .refl rfl⟩
  · exact h.elim⟩
def ixO (i : Nat) (t : DE) : DE := fun env q x => match env[i]? with
  | some (Sl.ow ds) => t env (fun e => match e with
    | .int n => ∃ z, atI ds n = some z ∧ q z
    | _ => False) x
  | some (Sl.va d) => t env (fun e => ixD d e q x) x
  | _ => False
theorem xe_ixO {i : Nat} {y1 : Str} {p1 : Pos} (ho : PE X (.Name y1 p1) (tVar i)) (hb : XE X Λ w b tb) (hs : PlainIx b := by exact fun _ _ => rfl) : XE X Λ w (.Subscript (.Name y1 p1) b pos) (ixO i tb) := ⟨fun hK => by
  obtain ⟨rb, pb, sb⟩ := hb.ex hK
  refine ⟨_, pe_ix ix_any ho pb hs, fun env W σ H Q q x S hx h k => ?_⟩
  rw [hK]
  unfold ixO at h
  split at h
  · rename_i ds hd
    obtain ⟨l, vs, hw, hσ, hl, rl, hm⟩ := own_at S hd
    refine ⟨_, hσ, sb env W σ H _ _ x S hx h fun d v H1 h1 S1 e1 r1 => ?_⟩
    cases d <;> first | exact h1.elim | skip
    obtain ⟨z, h1, h2⟩ := h1
    cases r1
    obtain ⟨v, hv, rv⟩ := (rl.up e1.vis).atI h1
    exact .inl ⟨l, vs, _, v, rfl, rfl, sqL_of (e1.own _ _ _ hw hl), hv, k _ _ H1 h2 S1 e1 rv⟩
  · rename_i d0 hd
    obtain ⟨v0, hσ, r0⟩ := S.sl i _ hd
    refine ⟨_, hσ, sb env W σ H _ _ x S hx h fun d v H1 h1 S1 e1 r1 => ?_⟩
    exact snd_ix env W σ H1 d0 d v0 v Q q x S1 (hx.on e1) (r0.up e1.vis) r1 h1 fun d3 v3 H3 h3 S3 e3 r3 => k d3 v3 H3 h3 S3 (e1.trans e3) r3
  · exact h.elim⟩
/-- xs == [], xs != [] -/
def nilO (i : Nat) (neg : Bool) : DE := fun env q _ => match env[i]? with
  | some (Sl.ow ds) => D.pys ds ≠ none ∧ (∀ x, D.pys ds = some x → SeqAt.shaped (.list x) = true) ∧ q (.bl (if neg then !ds.isEmpty else ds.isEmpty))
  | some (Sl.va (D.lst ds)) => D.pys ds ≠ none ∧ (∀ x, D.pys ds = some x → SeqAt.shaped (.list x) = true) ∧ q (.bl (if neg then !ds.isEmpty else ds.isEmpty))
  | _ => False
theorem eqv_nil {ds : List D} {x : List PyData} (h : D.pys ds = some x) : PyData.eqv (.list x) (.list []) = ds.isEmpty := by
  cases ds with
  | nil =>
    simp [D.pys] at h
    subst h
    simp [PyData.eqv, PyData.eqvAll]
  | cons d ds =>
    unfold D.pys at h
    split at h
    · cases h
      simp [PyData.eqv, PyData.eqvAll]
    · cases h
theorem shaped_nil : SeqAt.shaped (.list []) = true := shaped_list []
theorem xe_nilE {i : Nat} {y1 : Str} {p1 p2 : Pos} (hu : X.A.units + 64 < cLine) (ho : PE X (.Name y1 p1) (tVar i)) (hm : behindInMarks .Eq (.List [] p2) = false := by rfl) : XE X Λ w (.Compare (.Name y1 p1) [.Eq] [.List [] p2] pos) (nilO i false) ∧ XT X Λ w (.Compare (.Name y1 p1) [.Eq] [.List [] p2] pos) (dTest (nilO i false)) := by
  have key : X.K = Λ.B.K → Snd Λ w (tOp (rEqD X.K) (tVar i) (tLst tNil)) (nilO i false) := fun hK env W σ H Q q x S hx h k => by
    have fin : ∀ (v : V) (ds : List D), σ[i]? = some (some v) → Rep Λ.B H (.lst ds) v → D.pys ds ≠ none → (∀ x, D.pys ds = some x → SeqAt.shaped (.list x) = true) → q (.bl (if false then !ds.isEmpty else ds.isEmpty)) → tOp (rEqD X.K) (tVar i) (tLst tNil) σ H Q := fun v ds hσ rp h1 h2 h3 => by
      refine ⟨v, hσ, szr rfl, fun l hl => ?_⟩
      have s := same_new (o := .lst []) hl
      cases q1 : D.pys ds with
      | none => exact absurd q1 h1
      | some xs =>
        refine ⟨.list xs, .list [], ?_, .lst sqL_new .nil, h2 _ q1, shaped_nil, ?_⟩
        · rw [hK]
          exact (rp.up s).dp _ _ _ (by simp [D.py, q1])
        · rw [eqv_nil q1]
          exact k _ _ _ h3 (S.grow s) (.of s) rfl
    unfold nilO at h
    split at h
    · rename_i ds hd
      obtain ⟨l, vs, hw, hσ, hl, rl, hm⟩ := own_at S hd
      exact fin _ ds hσ ⟨l, vs, rfl, hl, rl.up hid_le⟩ h.1 h.2.1 h.2.2
    · rename_i ds hd
      obtain ⟨v, hσ, r⟩ := S.sl i _ hd
      exact fin v ds hσ (r.up hid_le) h.1 h.2.1 h.2.2
    · exact h.elim
  exact ⟨⟨fun hK => ⟨_, pe_cmpR (op_eqD hu) ho (pe_lst pa_nil) hm, key hK⟩⟩, ⟨fun hK => ⟨_, pt_cmpR (op_eqD hu) ho (pe_lst pa_nil) hm, snd_test (key hK)⟩⟩⟩
theorem xe_nilN {i : Nat} {y1 : Str} {p1 p2 : Pos} (hu : X.A.units + 64 < cLine) (ho : PE X (.Name y1 p1) (tVar i)) (hm : behindInMarks .NotEq (.List [] p2) = false := by rfl) : XE X Λ w (.Compare (.Name y1 p1) [.NotEq] [.List [] p2] pos) (nilO i true) ∧ XT X Λ w (.Compare (.Name y1 p1) [.NotEq] [.List [] p2] pos) (dTest (nilO i true)) := by
  have key : X.K = Λ.B.K → Snd Λ w (tOp (rNeD X.K) (tVar i) (tLst tNil)) (nilO i true) := fun hK env W σ H Q q x S hx h k => by
    have fin : ∀ (v : V) (ds : List D), σ[i]? = some (some v) → Rep Λ.B H (.lst ds) v → D.pys ds ≠ none → (∀ x, D.pys ds = some x → SeqAt.shaped (.list x) = true) → q (.bl (if true then !ds.isEmpty else ds.isEmpty)) → tOp (rNeD X.K) (tVar i) (tLst tNil) σ H Q := fun v ds hσ rp h1 h2 h3 => by
      refine ⟨v, hσ, szr rfl, fun l hl => ?_⟩
      have s := same_new (o := .lst []) hl
      cases q1 : D.pys ds with
      | none => exact absurd q1 h1
      | some xs =>
        refine ⟨.list xs, .list [], ?_, .lst sqL_new .nil, h2 _ q1, shaped_nil, ?_⟩
        · rw [hK]
          exact (rp.up s).dp _ _ _ (by simp [D.py, q1])
        · rw [eqv_nil q1]
          exact k _ _ _ h3 (S.grow s) (.of s) rfl
    unfold nilO at h
    split at h
    · rename_i ds hd
      obtain ⟨l, vs, hw, hσ, hl, rl, hm⟩ := own_at S hd
      exact fin _ ds hσ ⟨l, vs, rfl, hl, rl.up hid_le⟩ h.1 h.2.1 h.2.2
    · rename_i ds hd
      obtain ⟨v, hσ, r⟩ := S.sl i _ hd
      exact fin v ds hσ (r.up hid_le) h.1 h.2.1 h.2.2
    · exact h.elim
  exact ⟨⟨fun hK => ⟨_, pe_cmpR (op_neD hu) ho (pe_lst pa_nil) hm, key hK⟩⟩, ⟨fun hK => ⟨_, pt_cmpR (op_neD hu) ho (pe_lst pa_nil) hm, snd_test (key hK)⟩⟩⟩
/-! ### isinstance -/
/-- what isinstance wants to know of an own class -/
def InsOk (B : Tb) (c : Nat) : Prop := Cls B.K (B.C c) ∧ PySem.W.findIn B.K (.ref (B.C c)) "__class__" = some (some (.builtin "object.__class__")) ∧ PySem.W.specialIn B.K (.builtin "object.__class__") "__get__" = some (some (.builtin "getset_descriptor.__get__")) ∧ PySem.W.takesIn B.K (.builtin "object.__class__") = some true ∧ PySem.W.mroIn B.K (B.C c) (.type "object") = some true
/-- a built-in class -/
inductive BT where
  | int | bool | str | list | tuple
def BT.nm : BT → String
  | .int => "int" | .bool => "bool" | .str => "str" | .list => "list" | .tuple => "tuple"
/-- data of a built-in class, by its name -/
def D.bn : D → Option String
  | .non => some "NoneType"
  | .bl _ => some "bool"
  | .int _ => some "int"
  | .str _ => some "str"
  | .lst _ => some "list"
  | .tup _ => some "tuple"
  | _ => none
def isBT : BT → D → Bool
  | .int, .int _ => true
  | .int, .bl _ => true
  | .bool, .bl _ => true
  | .str, .str _ => true
  | .list, .lst _ => true
  | .tuple, .tup _ => true
  | _, _ => false
theorem isBT_ok {n : BT} {d : D} {m : String} (h : d.bn = some m) : kitB m n.nm = some (isBT n d) := by
  cases d <;> cases h <;> cases n <;> first | (show kitB _ _ = some true; decide +kernel) | (show kitB _ _ = some false; decide +kernel)
theorem rep_tyX {B : Tb} {H : Hp} {d : D} {v : V} {m : String} (r : Rep B H d v) (h : d.bn = some m) : TyX B.K H v (.type m) := by
  cases d <;> cases h
  · cases r; exact .base .non
  · cases r; exact .base (.bl _)
  · cases r; exact .base (.int _)
  · cases r; exact .base (.str _)
  · obtain ⟨a, vs, rfl, h1, h2⟩ := r
    exact .base (.lst h1)
  · obtain ⟨a, vs, rfl, h1, h2⟩ := r
    rcases h1 with (h1 | ⟨o, h1⟩) | ⟨o, its, n, h3, h4, _⟩
    · exact .base (.tup h1)
    · exact .fTuple h1
    · exact .kTuple h3 h4
theorem rep_tyO {B : Tb} {H : Hp} {c : Nat} {fs : List D} {v : V} (ok : InsOk B c) (r : Rep B H (.obj c fs) v) : TyX B.K H v (.ref (B.C c)) := by
  obtain ⟨a, dx, gs, rfl, h1, h2⟩ := r
  obtain ⟨c1, c2, c3, c4, c5⟩ := ok
  exact .base (.ins h1 c1 c2 c3 c4 c5)
/-- isinstance(x, int): cs: the own classes of which it is known -/
def isTD (n : BT) (cs : List Nat) (d : D) (q : D → Prop) : Prop := match d with
  | .obj c _ => c ∈ cs ∧ q (.bl false)
  | .ty _ => False
  | .cl _ => False
  | d => q (.bl (isBT n d))
def dIsT (n : BT) (cs : List Nat) (t : DE) : DE := fun env q x => t env (fun d => isTD n cs d q) x
theorem isT_ok {B : Tb} {H : Hp} {n : BT} {cs : List Nat} {d : D} {v : V} {q : D → Prop} (hc : ∀ c ∈ cs, InsOk B c ∧ PySem.W.kitOne B.K (.ref (B.C c)) (.type n.nm) = some false) (r : Rep B H d v) (h : isTD n cs d q) : ∃ t b, TyX B.K H v t ∧ PySem.W.kitOne B.K t (.type n.nm) = some b ∧ q (.bl b) := by
  cases d <;> first | exact h.elim | skip
  · exact ⟨_, _, rep_tyX r rfl, kit_ty (isBT_ok rfl), h⟩
  · exact ⟨_, _, rep_tyX r rfl, kit_ty (isBT_ok rfl), h⟩
  · exact ⟨_, _, rep_tyX r rfl, kit_ty (isBT_ok rfl), h⟩
  · exact ⟨_, _, rep_tyX r rfl, kit_ty (isBT_ok rfl), h⟩
  · exact ⟨_, _, rep_tyX r rfl, kit_ty (isBT_ok rfl), h⟩
  · exact ⟨_, _, rep_tyX r rfl, kit_ty (isBT_ok rfl), h⟩
  · obtain ⟨c1, c2⟩ := hc _ h.1
    exact ⟨_, _, rep_tyO c1 r, c2, h.2⟩
theorem xe_isT {n : BT} {cs : List Nat} {y1 : Str} {p1 : Pos} (hc : ∀ c ∈ cs, InsOk Λ.B c ∧ PySem.W.kitOne Λ.B.K (.ref (Λ.B.C c)) (.type n.nm) = some false) (hg : Gl X "isinstance") (hm : X.mg "isinstance" = none) (ha : XE X Λ w a t) (hT : PE X (.Name y1 p1) (tC (.ty n.nm)))
    (he : starEach [a, .Name y1 p1] X.env = (false, eval a X.env) :: starEach [.Name y1 p1] X.env := by rfl) (he2 : starEach [.Name y1 p1] X.env = (false, eval (.Name y1 p1) X.env) :: starEach [] X.env := by rfl) (hpl : (backTo pos (starEach [.Name y1 p1] X.env)).any (·.1) = false := by rfl) :
    XE X Λ w (.Call (.Name "isinstance" p) [a, .Name y1 p1] [] pos) (dIsT n cs t) := ⟨fun hK => by
  obtain ⟨r, p, s⟩ := ha.ex hK
  refine ⟨_, pe_callB call_isi hg hm bb_isinstance (pa_cons p (pa_cons hT pa_nil he2) he) (by decide) (by decide) he hpl, fun env W σ H Q q x S hx h k => s env W σ H _ _ x S hx h fun d v H1 h1 S1 e1 r1 => ?_⟩
  rw [hK]
  obtain ⟨t', b, h2, h3, h4⟩ := isT_ok hc (r1.up hid_le) h1
  exact ⟨v, _, t', _, b, rfl, .ty _, h2, h3, k _ _ H1 h4 S1 e1 rfl⟩⟩
/-- isinstance(x, C): sub: whether the own classes are of it -/
def isCD (sub : List (Nat × Bool)) (d : D) (q : D → Prop) : Prop := match d with
  | .obj c _ => match sub.lookup c with
    | some b => q (.bl b)
    | none => False
  | .ty _ => False
  | .cl _ => False
  | _ => q (.bl false)
def dIsC (sub : List (Nat × Bool)) (t : DE) : DE := fun env q x => t env (fun d => isCD sub d q) x
def NotOf (B : Tb) (c : Nat) : Prop := ∀ m ∈ ["NoneType", "bool", "int", "str", "list", "tuple"], PySem.W.kitOne B.K (.type m) (.ref (B.C c)) = some false
theorem xe_isC {cc : Nat} {sub : List (Nat × Bool)} {y1 : Str} {p1 : Pos} (hn : NotOf Λ.B cc) (hc : ∀ c b, sub.lookup c = some b → InsOk Λ.B c ∧ PySem.W.kitOne Λ.B.K (.ref (Λ.B.C c)) (.ref (Λ.B.C cc)) = some b) (hg : Gl X "isinstance") (hm : X.mg "isinstance" = none) (ha : XE X Λ w a t) (hT : PE X (.Name y1 p1) (tC (.ref (Λ.B.C cc))))
    (he : starEach [a, .Name y1 p1] X.env = (false, eval a X.env) :: starEach [.Name y1 p1] X.env := by rfl) (he2 : starEach [.Name y1 p1] X.env = (false, eval (.Name y1 p1) X.env) :: starEach [] X.env := by rfl) (hpl : (backTo pos (starEach [.Name y1 p1] X.env)).any (·.1) = false := by rfl) :
    XE X Λ w (.Call (.Name "isinstance" p) [a, .Name y1 p1] [] pos) (dIsC sub t) := ⟨fun hK => by
  obtain ⟨r, p, s⟩ := ha.ex hK
  refine ⟨_, pe_callB call_isi hg hm bb_isinstance (pa_cons p (pa_cons hT pa_nil he2) he) (by decide) (by decide) he hpl, fun env W σ H Q q x S hx h k => s env W σ H _ _ x S hx h fun d v H1 h1 S1 e1 r1 => ?_⟩
  rw [hK]
  have r2 := r1.up (hid_le (G := Λ.G W) (H := H1))
  have fin : ∀ m b, d.bn = some m → PySem.W.kitOne Λ.B.K (.type m) (.ref (Λ.B.C cc)) = some b → q (.bl b) → rIsi Λ.B.K [v, .ref (Λ.B.C cc)] H1 Q := fun m b h2 h3 h4 => ⟨v, _, _, _, b, rfl, .own _, rep_tyX r2 h2, h3, k _ _ H1 h4 S1 e1 rfl⟩
  cases d <;> first | exact h1.elim | skip
  · exact fin _ _ rfl (hn _ (by decide)) h1
  · exact fin _ _ rfl (hn _ (by decide)) h1
  · exact fin _ _ rfl (hn _ (by decide)) h1
  · exact fin _ _ rfl (hn _ (by decide)) h1
  · exact fin _ _ rfl (hn _ (by decide)) h1
  · exact fin _ _ rfl (hn _ (by decide)) h1
  · have h1 : (match sub.lookup _ with
      | some b => q (.bl b)
      | none => False) := h1
    split at h1
    · rename_i b hb
      obtain ⟨c1, c2⟩ := hc _ _ hb
      exact ⟨v, _, _, _, b, rfl, .own _, rep_tyO c1 r2, c2, k _ _ H1 h1 S1 e1 rfl⟩
    · exact h1.elim⟩
/-! ### texts -/
def fmtD : D → (Str → Prop) → Prop
  | .str y, q => y.length ≤ 100000 ∧ q y
  | .int i, q => i.natAbs.log2 < 1920 ∧ q (toString i)
  | _, _ => False
def dFmt (t : DE) : DE := fun env q x => t env (fun d => fmtD d fun y => q (.str y)) x
theorem xe_fmt (he : XE X Λ w a t) : XE X Λ w (.FormattedValue a (-1) none pos) (dFmt t) := ⟨fun hK => by
  obtain ⟨r, p, s⟩ := he.ex hK
  refine ⟨_, pe_fmt p, fun env W σ H Q q x S hx h k => s env W σ H _ _ x S hx h fun d v H1 h1 S1 e1 r1 => ?_⟩
  cases d <;> first | exact h1.elim | skip
  · cases r1
    exact .inr ⟨_, rfl, h1.1, k _ _ H1 h1.2 S1 e1 rfl⟩
  · cases r1
    exact .inl ⟨_, rfl, sz h1.1, k _ _ H1 h1.2 S1 e1 rfl⟩⟩
/-- the parts of an f-string -/
def dJs : List DE → Str → List Sl → (Str → Prop) → (DX → Prop) → Prop
  | [], acc, _, q, _ => q acc
  | t :: ts, acc, env, q, x => t env (fun d => match d with
    | .str y => (acc ++ y).length ≤ 100000 ∧ dJs ts (acc ++ y) env q x
    | _ => False) x
inductive XJ (X : Cx) (Λ : Lx) (w : WX) : List Expr → List DE → Prop where
  | nil : XJ X Λ w [] []
  | cons {e : Expr} {es : List Expr} {t : DE} {ts : List DE} : XE X Λ w e t → XJ X Λ w es ts → XJ X Λ w (e :: es) (t :: ts)
inductive SndJ (Λ : Lx) (w : WX) : List TE → List DE → Prop where
  | nil : SndJ Λ w [] []
  | cons {r : TE} {rs : List TE} {t : DE} {ts : List DE} : Snd Λ w r t → SndJ Λ w rs ts → SndJ Λ w (r :: rs) (t :: ts)
theorem XJ.pj {es : List Expr} {ts : List DE} (h : XJ X Λ w es ts) (hK : X.K = Λ.B.K) : ∃ rs, PJ X es rs ∧ SndJ Λ w rs ts := by
  induction h with
  | nil => exact ⟨[], .nil, .nil⟩
  | cons h _ ih =>
    obtain ⟨rs, p, s⟩ := ih
    obtain ⟨r, p1, s1⟩ := h.ex hK
    exact ⟨r :: rs, .cons p1 p, .cons s1 s⟩
theorem snd_js {rs : List TE} {ts : List DE} (h : SndJ Λ w rs ts) : ∀ (acc : Str) (env : List Sl) (W : Ow) (σ : L2.St) (H : Hp) (Q : Str → Hp → Prop) (q : Str → Prop) (x : DX → Prop), StOk Λ env W σ H → XOk Λ w env W σ H x → dJs ts acc env q x →
    (∀ y H', q y → StOk Λ env W σ H' → Ev Λ W H H' → Q y H') → tJs rs acc σ H Q := by
  induction h with
  | nil => exact fun acc env W σ H Q q x S hx h k => k acc H h S .refl
  | cons s _ ih =>
    intro acc env W σ H Q q x S hx h k
    refine s env W σ H _ _ x S hx h fun d v H1 h1 S1 e1 r1 => ?_
    cases d <;> first | exact h1.elim | skip
    cases r1
    exact ⟨_, rfl, sz h1.1, ih _ env W σ H1 Q q x S1 (hx.on e1) h1.2 fun y H' a b c => k y H' a b (e1.trans c)⟩
def dJoined (ts : List DE) : DE := fun env q x => dJs ts Str.empty env (fun y => q (.str y)) x
theorem xe_joined {v1 v2 : Expr} {rest : List Expr} {ts : List DE} (h : XJ X Λ w (v1 :: v2 :: rest) ts) : XE X Λ w (.JoinedStr (v1 :: v2 :: rest) pos) (dJoined ts) := ⟨fun hK => by
  obtain ⟨rs, p, s⟩ := h.pj hK
  exact ⟨_, pe_joined p, fun env W σ H Q q x S hx h k => snd_js s Str.empty env W σ H _ _ x S hx h fun y H' a b c => k _ _ H' a b c rfl⟩⟩
theorem xe_joined1 {v1 : Expr} (h : XE X Λ w v1 t) : XE X Λ w (.JoinedStr [v1] pos) t := ⟨fun hK => by
  obtain ⟨r, p, s⟩ := h.ex hK
  exact ⟨_, pe_joined1 p, s⟩⟩
/-- sep.join(texts) -/
def dJoin (ta tb : DE) : DE := fun env q x => ta env (fun d => match d with
  | .str s => tb env (fun e => ∃ ys : List Str, (e = .lst (ys.map .str) ∨ e = .tup (ys.map .str)) ∧ (ys.map (·.length)).sum + ys.length * s.length ≤ 100000 ∧ q (.str (Txt.join s ys))) x
  | _ => False) x
theorem xe_join (ho : XE X Λ w o ta) (he : XE X Λ w e tb) (hs : starEach [e] X.env = [(false, eval e X.env)] := by rfl) (hbase : attributeBase o "join" X.env (eval o X.env) = eval o X.env := by rfl) (hline : (apos.endLine == pos.line) = true := by rfl) : XE X Λ w (.Call (.Attribute o "join" apos) [e] [] pos) (dJoin ta tb) := ⟨fun hK => by
  obtain ⟨r, p, s⟩ := ho.ex hK
  obtain ⟨r', p', s'⟩ := he.ex hK
  refine ⟨_, pe_join p p' hs hbase hline, fun env W σ H Q q x S hx h k => s env W σ H _ _ x S hx h fun d v H1 h1 S1 e1 r1 => ?_⟩
  cases d <;> first | exact h1.elim | skip
  rename_i z
  cases r1
  refine ⟨⟨z, rfl⟩, s' env W σ H1 _ _ x S1 (hx.on e1) h1 fun d2 v2 H2 h2 S2 e2 r2 => ?_⟩
  obtain ⟨ys, hy, hz, h2⟩ := h2
  have hz' : (ys.map (·.length)).sum + ys.length * z.length ≤ 16777216 := Nat.le_trans hz (by decide)
  rw [hK]
  rcases hy with rfl | rfl
  · obtain ⟨l, vs, rfl, h4, r4⟩ := rep_lst r2
    cases r4.strs
    exact ⟨z, l, ys, rfl, rfl, .inl (sqL_of h4), hz', k _ _ H2 h2 S2 (e1.trans e2) rfl⟩
  · obtain ⟨l, vs, rfl, h4, r4⟩ := rep_tup r2
    cases r4.strs
    exact ⟨z, l, ys, rfl, rfl, .inr h4, hz', k _ _ H2 h2 S2 (e1.trans e2) rfl⟩⟩
end
end Eb

/-! ## own layer: making instances, comparing them, without a heap -/
namespace Eb
open PySem PySem.Spec PyProof.Rows L2 StX
section
variable {X : Cx} {Λ : Lx} {w : WX} {a b c e o : Expr} {es : List Expr} {ta tb tc t : DE} {tA tB : DT} {u : DA} {pos p apos : Pos} {k : Nat} {f : Addr} {fd : FuncData} {ps : List Str} {wp : DWI} {y : Str}
/-- the new instance's heap -/
theorem made_same {H : Hp} {x dx : Addr} {C : Addr} (hx : H x = none) (hdx : H dx = none) : Same H (upd (upd H dx (.own x)) x (.ins C dx [])) := fun q o h => by
  rw [upd_ne (ne_of_none h hx), upd_ne (ne_of_none h hdx)]
  exact h
theorem make_i {env : List Sl} {W : Ow} {σ : L2.St} {H : Hp} {Q : VK} {q : D → Prop} {E : XK} {ds : List D} {vs : List V} {cc : Nat} {x dx : Addr} (S : StOk Λ env W σ H) (r : RepL Λ.B (Λ.vis W H) ds vs) (h : wp ds (fun fs => q (.obj cc fs)) (fun _ => False))
    (k : ∀ d v H', q d → StOk Λ env W σ H' → Ev Λ W H H' → Rep Λ.B (Λ.vis W H') d v → Q v H') (hx : H x = none) (hdx : H dx = none) (hne : dx ≠ x) :
    spI0 Λ.B cc wp (.ref x :: vs) (upd (upd H dx (.own x)) x (.ins (Λ.B.C cc) dx [])) (fun v H2 => v = .non ∧ Q (.ref x) H2) E := by
  have s1 := made_same (C := Λ.B.C cc) hx hdx
  have nx : ¬ Λ.G W x := S.fresh hx
  refine ⟨Λ.G W, ds, _, x, dx, vs, rfl, upd_same, nx, fun a g => some_mono s1 (hG S a g), r.up ?_, h, fun fs H' dy gs hq grow hp hn rl => ⟨rfl, ?_⟩⟩
  · intro a o ha
    obtain ⟨g, ha⟩ := hid_some.mp ha
    have n : a ≠ x := ne_of_none ha hx
    exact hid_some.mpr ⟨fun z => z.elim g n, s1 _ _ ha⟩
  · have s2 : Same H H' := fun a o ha => grow a o (ne_of_none ha hx) (s1 _ _ ha)
    refine k _ _ H' hq (S.grow s2) (.of s2) ⟨x, dy, gs, rfl, hid_some.mpr ⟨nx, hp⟩, hn, rl.up (hid_anti fun a g => .inl g)⟩
def dMk (cc : Nat) (wp : DWI) (u : DA) : DE := fun env q x => u env (fun ds => wp ds (fun fs => q (.obj cc fs)) (fun _ => False)) x
theorem xe_make {cc : Nat} (M : Mk X.K (Λ.B.C cc) f) (F : FnOk X.prog X.w X.K X.mg X.base CX0 k f fd ps (spI0 Λ.B cc wp)) (hr : Room (k + 1) X.A) (hg : Gl X y) (hm : X.mg y = some (.ref (Λ.B.C cc))) (hb : Binds X.K fd ps []) (ha : XA X Λ w (e :: es) u) (hdb : (y == ("__debug__" : Str)) = false := by decide)
    (he : starEach (e :: es) X.env = (false, eval e X.env) :: starEach es X.env := by rfl) (hpl : (backTo pos (starEach es X.env)).any (·.1) = false := by rfl) : XE X Λ w (.Call (.Name y p) (e :: es) [] pos) (dMk cc wp u) := ⟨fun hK => by
  obtain ⟨r, p, s⟩ := ha.ex hK
  refine ⟨_, pe_make M F hr hg hm hb .nil pass0 p hdb he hpl, fun env W σ H Q q x S hx h k => s env W σ H _ _ x S hx h fun ds vs H1 h1 S1 e1 r1 x dx h2 h3 h4 => ?_⟩
  rw [List.append_nil]
  exact make_i S1 r1 h1 (fun d v H' a b c => k d v H' a b (e1.trans c)) h2 h3 h4⟩
/-! C(*y, over = v) and its like: the __init__'s parameters are self, the keyword, the star's tuple -/
abbrev spK (B : Tb) (cc : Nat) (wp : DWI) (dv : V) : List V → Option V → Hp → VK → XK → Prop := fun vs ov H Q E => ∃ a rest, vs = a :: rest ∧ rest.length ≤ sizeLine ∧ ∀ p, H p = Option.none → spI0 B cc wp [a, ov.getD dv, V.ref p] (upd H p (.tup rest)) Q E
theorem make_k {env : List Sl} {W : Ow} {σ : L2.St} {H : Hp} {Q : VK} {q : D → Prop} {E : XK} {ds : List D} {vs : List V} {cc : Nat} {dv : V} {ov : Option V} {od : D} (S : StOk Λ env W σ H) (r : RepL Λ.B (Λ.vis W H) ds vs) (ro : Rep Λ.B (Λ.vis W H) od (ov.getD dv)) (hl : ds.length ≤ 100000)
    (h : wp [od, .tup ds] (fun fs => q (.obj cc fs)) (fun _ => False)) (k : ∀ d v H', q d → StOk Λ env W σ H' → Ev Λ W H H' → Rep Λ.B (Λ.vis W H') d v → Q v H') : mkO (Λ.B.C cc) (spK Λ.B cc wp dv) E vs ov H Q := fun x dx hx hdx hne => by
  refine ⟨_, vs, rfl, by rw [r.len]; exact sz hl, fun p hp => ?_⟩
  have s1 := made_same (C := Λ.B.C cc) hx hdx
  have px : p ≠ x := fun z => by rw [z, upd_same] at hp; cases hp
  have hpH : H p = none := s1.free hp
  have s2 := same_new (o := .tup vs) hp
  have nx : ¬ Λ.G W x := S.fresh hx
  have np : ¬ Λ.G W p := S.fresh hpH
  have v1 : Same (Λ.vis W H) (hid (fun a => Λ.G W a ∨ a = x) (upd (upd (upd H dx (.own x)) x (.ins (Λ.B.C cc) dx [])) p (.tup vs))) := fun a o ha => by
    obtain ⟨g, ha⟩ := hid_some.mp ha
    have n : a ≠ x := ne_of_none ha hx
    exact hid_some.mpr ⟨fun z => z.elim g n, s2 _ _ (s1 _ _ ha)⟩
  refine ⟨Λ.G W, [od, .tup ds], _, x, dx, _, rfl, s2 _ _ upd_same, nx, fun a g => some_mono (s1.trans s2) (hG S a g), RepL.cons (ro.up v1) (RepL.cons (d := .tup ds) ⟨p, vs, rfl, sqT_of (hid_some.mpr ⟨fun z => z.elim np px, upd_same⟩), r.up v1⟩ RepL.nil), h, fun fs H' dy gs hq grow hp' hn rl => ⟨rfl, ?_⟩⟩
  have s3 : Same H H' := fun a o ha => grow a o (ne_of_none ha hx) (s2 _ _ (s1 _ _ ha))
  exact k _ _ H' hq (S.grow s3) (.of s3) ⟨x, dy, gs, rfl, hid_some.mpr ⟨nx, hp'⟩, hn, rl.up (hid_anti fun a g => .inl g)⟩
/-- C(e, ..): u gives the star's items; od the keyword's default -/
def dMkK (cc : Nat) (wp : DWI) (od : D) (u : DA) : DE := fun env q x => u env (fun ds => ds.length ≤ 100000 ∧ wp [od, .tup ds] (fun fs => q (.obj cc fs)) (fun _ => False)) x
def dMkKk (cc : Nat) (wp : DWI) (u : DA) (t : DE) : DE := fun env q x => u env (fun ds => t env (fun od => ds.length ≤ 100000 ∧ wp [od, .tup ds] (fun fs => q (.obj cc fs)) (fun _ => False)) x) x
def dMkKs (cc : Nat) (wp : DWI) (s t : DE) : DE := fun env q x => s env (fun d => t env (fun od => match d with
  | .lst ds => ds.length ≤ 100000 ∧ wp [od, .tup ds] (fun fs => q (.obj cc fs)) (fun _ => False)
  | .tup ds => ds.length ≤ 100000 ∧ wp [od, .tup ds] (fun fs => q (.obj cc fs)) (fun _ => False)
  | _ => False) x) x
variable {kn : Str} {dv : V} {kws : List Keyword}
theorem xe_mkK {cc : Nat} {od : D} (rd : ∀ H, Rep Λ.B H od dv) (M : Mk X.K (Λ.B.C cc) f) (F : FnK X.prog X.w X.K X.mg X.base CX0 k f kn (spK Λ.B cc wp dv)) (hr : Room (k + 1) X.A) (hg : Gl X y) (hm : X.mg y = some (.ref (Λ.B.C cc))) (ha : XA X Λ w (e :: es) u) (hdb : (y == ("__debug__" : Str)) = false := by decide)
    (he : starEach (e :: es) X.env = (false, eval e X.env) :: starEach es X.env := by rfl) (hpl : (backTo pos (starEach es X.env)).any (·.1) = false := by rfl) : XE X Λ w (.Call (.Name y p) (e :: es) [] pos) (dMkK cc wp od u) := ⟨fun hK => by
  obtain ⟨r, p, s⟩ := ha.ex hK
  refine ⟨_, pe_mkO M F hr hg hm pass0 p hdb he hpl, fun env W σ H Q q x S hx h k => s env W σ H _ _ x S hx h fun ds vs H1 h1 S1 e1 r1 => ?_⟩
  exact make_k S1 r1 (rd _) h1.1 h1.2 fun d v H' a b c => k d v H' a b (e1.trans c)⟩
theorem xe_mkK0 {cc : Nat} {od : D} (rd : ∀ H, Rep Λ.B H od dv) (M : Mk X.K (Λ.B.C cc) f) (F : FnK X.prog X.w X.K X.mg X.base CX0 k f kn (spK Λ.B cc wp dv)) (hr : Room (k + 1) X.A) (hg : Gl X y) (hm : X.mg y = some (.ref (Λ.B.C cc))) (hdb : (y == ("__debug__" : Str)) = false := by decide) : XE X Λ w (.Call (.Name y p) [] [] pos) (dMkK cc wp od dNil) := ⟨fun hK => by
  refine ⟨_, pe_mkO0 M F hr hg hm pass0 hdb, fun env W σ H Q q x S hx h k => ?_⟩
  exact make_k (E := E0) (ds := []) S RepL.nil (rd _) h.1 h.2 k⟩
variable {nm : Option Str} {kpos p2 : Pos} {v1 s1 : Expr}
theorem xe_mkKk {cc : Nat} (M : Mk X.K (Λ.B.C cc) f) (F : FnK X.prog X.w X.K X.mg X.base CX0 k f kn (spK Λ.B cc wp dv)) (hr : Room (k + 1) X.A) (hg : Gl X y) (hm : X.mg y = some (.ref (Λ.B.C cc))) (ha : XA X Λ w (e :: es) u) (hkw : XE X Λ w v1 t)
    (hall : (backToKw pos (keywordEach [⟨nm, v1, kpos⟩] X.env)).all (·.1.isSome) = true := by rfl) (hks : (backToKw pos (keywordEach [⟨nm, v1, kpos⟩] X.env)).filterMap (·.1) = [kn] := by rfl) (hdb : (y == ("__debug__" : Str)) = false := by decide)
    (he : starEach (e :: es) X.env = (false, eval e X.env) :: starEach es X.env := by rfl) (hpl : ((backTo pos (starEach (e :: es) X.env)).any (·.1) || (backToKw pos (keywordEach [⟨nm, v1, kpos⟩] X.env)).any (·.1.isNone)) = false := by rfl) :
    XE X Λ w (.Call (.Name y p) (e :: es) [⟨nm, v1, kpos⟩] pos) (dMkKk cc wp u t) := ⟨fun hK => by
  obtain ⟨r, p, s⟩ := ha.ex hK
  obtain ⟨r', p', s'⟩ := hkw.ex hK
  refine ⟨_, pe_mkOk M F hr hg hm pass0 p (pk_cons p' pk_nil) hall hks hdb he hpl, fun env W σ H Q q x S hx h k => s env W σ H _ _ x S hx h fun ds vs H1 h1 S1 e1 r1 => s' env W σ H1 _ _ x S1 (hx.on e1) h1 fun od v H2 h2 S2 e2 r2 => ?_⟩
  exact ⟨v, rfl, make_k S2 (r1.up e2.vis) r2 h2.1 h2.2 fun d v H' a b c => k d v H' a b ((e1.trans e2).trans c)⟩⟩
theorem xe_mkKk0 {cc : Nat} (M : Mk X.K (Λ.B.C cc) f) (F : FnK X.prog X.w X.K X.mg X.base CX0 k f kn (spK Λ.B cc wp dv)) (hr : Room (k + 1) X.A) (hg : Gl X y) (hm : X.mg y = some (.ref (Λ.B.C cc))) (hkw : XE X Λ w v1 t)
    (hall : (backToKw pos (keywordEach [⟨nm, v1, kpos⟩] X.env)).all (·.1.isSome) = true := by rfl) (hks : (backToKw pos (keywordEach [⟨nm, v1, kpos⟩] X.env)).filterMap (·.1) = [kn] := by rfl) (hdb : (y == ("__debug__" : Str)) = false := by decide)
    (hpl : ((backTo pos (starEach [] X.env)).any (·.1) || (backToKw pos (keywordEach [⟨nm, v1, kpos⟩] X.env)).any (·.1.isNone)) = false := by rfl) :
    XE X Λ w (.Call (.Name y p) [] [⟨nm, v1, kpos⟩] pos) (dMkKk cc wp dNil t) := ⟨fun hK => by
  obtain ⟨r', p', s'⟩ := hkw.ex hK
  refine ⟨_, pe_mkOk0 M F hr hg hm pass0 (pk_cons p' pk_nil) hall hks hdb hpl, fun env W σ H Q q x S hx h k => s' env W σ H _ _ x S hx h fun od v H2 h2 S2 e2 r2 => ?_⟩
  exact ⟨v, rfl, make_k (ds := []) S2 RepL.nil r2 h2.1 h2.2 fun d v H' a b c => k d v H' a b (e2.trans c)⟩⟩
theorem xe_mkKs {cc : Nat} (M : Mk X.K (Λ.B.C cc) f) (F : FnK X.prog X.w X.K X.mg X.base CX0 k f kn (spK Λ.B cc wp dv)) (hr : Room (k + 1) X.A) (hg : Gl X y) (hm : X.mg y = some (.ref (Λ.B.C cc))) (hy : XE X Λ w s1 ta) (hkw : XE X Λ w v1 t)
    (hall : (backToKw pos (keywordEach [⟨nm, v1, kpos⟩] X.env)).all (·.1.isSome) = true := by rfl) (hks : (backToKw pos (keywordEach [⟨nm, v1, kpos⟩] X.env)).filterMap (·.1) = [kn] := by rfl) (hdb : (y == ("__debug__" : Str)) = false := by decide)
    (hst : starEach [.Starred s1 p2] X.env = [(true, eval s1 X.env)] := by rfl) : XE X Λ w (.Call (.Name y p) [.Starred s1 p2] [⟨nm, v1, kpos⟩] pos) (dMkKs cc wp ta t) := ⟨fun hK => by
  obtain ⟨r, p, s⟩ := hy.ex hK
  obtain ⟨r', p', s'⟩ := hkw.ex hK
  refine ⟨_, pe_mkOs M F hr hg hm pass0 p (pk_cons p' pk_nil) hall hks hdb hst, fun env W σ H Q q x S hx h k => s env W σ H _ _ x S hx h fun d1 v1 H1 h1 S1 e1 r1 => s' env W σ H1 _ _ x S1 (hx.on e1) h1 fun od v H2 h2 S2 e2 r2 => ?_⟩
  have r1 := r1.up e2.vis
  rw [hK]
  cases d1 <;> first | exact h2.elim | skip
  · obtain ⟨l, vs, rfl, h4, r4⟩ := rep_lst r1
    exact ⟨l, vs, v, rfl, .inr (sqL_of h4), rfl, make_k S2 r4 r2 h2.1 h2.2 fun d v H' a b c => k d v H' a b ((e1.trans e2).trans c)⟩
  · obtain ⟨l, vs, rfl, h4, r4⟩ := rep_tup r1
    exact ⟨l, vs, v, rfl, .inl h4, rfl, make_k S2 r4 r2 h2.1 h2.2 fun d v H' a b c => k d v H' a b ((e1.trans e2).trans c)⟩⟩
/-! ### the promise of such an __init__ -/
theorem fnK0 {P : Program} {w' : World} {K : PySem.W.Frag} {mg : Str → Option Value} {base : Heap} {name qual : Str} {params : Arguments} {body : List Stmt} {scope : Scope} {doc pm cdv ct oc : Value} {an od : Option Addr} {Dk : Addr} {osl : Array (Option Value)} {N : List Str} {p1 kn pn : Str} {du : Value} {dv : V} {B : Tb} {f : Addr} {k : Nat}
    (lk : K.lookup f = some ⟨oc, od, .func (PySem.W.fnOf name qual params body scope .none (.ref Dk) doc pm an cdv ct), osl⟩) (hcd : PySem.W.codeIn K cdv qual = true) (S : FnScope N [p1, kn, pn] scope) (hD : PySem.W.nsIn K Dk kn = some (some du)) (rd : RelV dv du)
    (hb1 : ∀ (a o : Value) (rest : List Value), bindArgs (PySem.W.fnOf name qual params body scope .none (.ref Dk) doc pm an cdv ct) ⟨a :: rest, [(kn, o)]⟩ = (newTuple rest >>= fun t => pure [(p1, a), (kn, o), (pn, t)]))
    (hb0 : ∀ (a : Value) (rest : List Value), KwTup Dk kn du rest (bindArgs (PySem.W.fnOf name qual params body scope .none (.ref Dk) doc pm an cdv ct) ⟨a :: rest, []⟩) (fun t => [(p1, a), (kn, du), (pn, t)]))
    {t : DS} {cc nf m : Nat} (hN : N.length = 2 + 1 + m) (hK : K = B.K) (hfl : (B.fl cc).length = nf)
    (hbody : ∀ (A : Around) (outer : List Env) (s : Shared) (H : Hp) (E : XK) (Z M : Addr → Prop) (H0 : Hp) (dl : Option (Addr × Addr)), Room k (A.deeper (envOfC qual scope s.heap.objs.size f cdv)) →
      XSs (cxOf CX0 P w' K mg base N qual scope f cdv A outer s H E).nox ⟨B, Z, M, H0, dl⟩ w0 body t) : FnK P w' K mg base CX0 (k + 1) f kn (spK B cc (wpOfI cc nf 2 m t) dv) := by
  refine fn_ko lk hcd S ?_ hD rd hb1 hb0 fun A outer s H vs Q E hr ⟨Z, ds, q, p, dx, vr, e, hp, hz, hZ, r, ⟨hl, ht⟩, kq⟩ => ?_
  · exact fun _ _ _ _ _ _ _ _ _ _ _ h => h.elim
  · subst e
    obtain ⟨ts, h1, h2⟩ := run_body (hbody A outer s H E Z (fun a => a = p) H none hr) hK (st_startI hp hz hZ r (by rw [hl]; exact hN)) (initL hp hfl kq) ht
    exact ⟨ts, h1.nox, h2⟩
end
end Eb
namespace Eb
open PySem PySem.Spec PyProof.Rows L2 StX
section
variable {X : Cx} {Λ : Lx} {w : WX} {k : Nat} {f : Addr} {fd : FuncData} {ps : List Str} {wp : DW} {CX : CXT} {sp : Sp}
theorem raw0 {P : Program} {w' : World} {K : PySem.W.Frag} {mg : Str → Option Value} {base : Heap} (F : FnOk P w' K mg base CX k f fd ps sp) (hb : L2.Binds K fd ps []) : FnR P w' K mg base CX k f sp := by
  have h := F.raw hb (Paired.nil)
  have e : (fun vs H Q E => sp (vs ++ []) H Q E) = sp := by
    funext vs
    rw [List.append_nil]
  rw [e] at h
  exact h
/-- an own operator, an instance or an int on the right -/
def opAD (c : Nat) (wp : DW) : D → D → DK := fun d e q _ => match d, e with
  | .obj c1 f1, .obj c2 f2 => c1 = c ∧ c2 = c ∧ wp [.obj c1 f1, .obj c2 f2] q (fun _ => False)
  | .obj c1 f1, .int i => c1 = c ∧ wp [.obj c1 f1, .int i] q (fun _ => False)
  | _, _ => False
theorem snd_opA {c : Nat} {E : XK} : SndR Λ w (fun x y H Q => rB2 (Λ.B.C c) (spF0 Λ.B wp) E x y H Q ∨ rBI (Λ.B.C c) (spF0 Λ.B wp) E x y H Q) (opAD c wp) := fun env W σ H d e v u Q q x S hx r1 r2 h k => by
  cases d <;> cases e <;> first | exact h.elim | skip
  · exact .inr (snd_opI env W σ H _ _ v u Q q x S hx r1 r2 h k)
  · exact .inl (snd_op2 env W σ H _ _ v u Q q x S hx r1 r2 h k)
end
end Eb

/-! ### the law itself; repr of plain values; x += n -/
namespace Eb
open PySem PySem.Spec PyProof.Rows L2 StX
def sp_law (K : PySem.W.Frag) : Sp := fun vs H Q _ => ∃ (a : Addr) (ns : List Int), vs = [V.ref a] ∧ SqL K H a (ns.map V.int) ∧ ns.length ≤ 63 ∧ ∀ H', Q (.bl true) H'
/-- the source of draws: new -/
def sp_dealer (K : PySem.W.Frag) : Sp := fun vs H Q _ => ∃ (a : Addr) (ns : List Int) (k : Int), vs = [V.ref a, .int k] ∧ SqL K H a (ns.map V.int) ∧ ns.length ≤ 63 ∧ 0 ≤ k ∧ k ≤ 1000 ∧ ∀ d l H', Same H H' → H d = none → H l = none → Deal H' d l → Q (.ref d) H'
section
variable {X : Cx} {B : Tb} {N : List Str} {first : Stmt} {rest : List Stmt} {t : DS} {kk : Int} {K : PySem.W.Frag} {H : Hp} {a : Addr} {ns : List Int} {Q : VK} {env : List Sl} {i : Nat}
theorem law_body (h1 : PS X first (tAsg (tCall (sp_dealer K) [] E0 (tCons (tVar 0) (tCons (tC (.int kk)) tNil))) (gName i))) (h2 : ∀ (Z M : Addr → Prop) (H0 : Hp) (dl : Option (Addr × Addr)), XSs X ⟨B, Z, M, H0, dl⟩ w0 rest t) (hK : X.K = B.K) (hs : SqL K H a (ns.map V.int)) (hn : ns.length ≤ 63)
    (k0 : 0 ≤ kk) (k1 : kk ≤ 1000) (he : env = (List.replicate N.length Sl.un).set i .dl) (hi : 1 ≤ N.length ∧ 0 < i) (hw : t env (endsF (fun d => d = .bl true) (fun _ => False))) (q : ∀ H', Q (.bl true) H') :
    ∃ ts, PSs X (first :: rest) ts ∧ ts { nx := fun _ H' => Q .non H', rt := Q } (L2.start N [.ref a]) H := by
  subst he
  obtain ⟨r, p, s⟩ : ∃ r, PSs X rest r ∧ ∀ (d l : Addr) (H' : Hp), Deal H' d l → r { nx := fun _ H' => Q .non H', rt := Q } ((L2.start N [.ref a]).set i (some (.ref d))) H' := by
    refine ⟨fun D σ H' => ∃ (d l : Addr), Deal H' d l ∧ D = { nx := fun _ H' => Q .non H', rt := Q } ∧ σ = (L2.start N [.ref a]).set i (some (.ref d)), ⟨fun pins s σ H' D I ⟨d, l, D0, eD, eσ⟩ => ?_⟩, fun d l H' D0 => ⟨d, l, D0, rfl, rfl⟩⟩
    subst eD eσ
    have S0 : StOk ⟨B, fun _ => False, fun x => x = d ∨ x = l, H', some (d, l)⟩ ((List.replicate N.length Sl.un).set i .dl) (fun _ => none) ((L2.start N [.ref a]).set i (some (.ref d))) H' := by
      refine ⟨by rw [List.length_set, List.length_set, List.length_replicate, start_len (by simpa using hi.1)], fun j sl e => ?_, fun a o _ h => h, fun a m => ?_, fun a z => z.elim, (fun i p e => by cases e), (fun i j p e => by cases e), fun d' l' e => ?_, ⟨0, fun _ _ => rfl⟩⟩
      · by_cases c : j = i
        · subst c
          have hj : j < (List.replicate N.length Sl.un).length := by
            have := (List.getElem?_eq_some_iff.mp e).1
            rwa [List.length_set] at this
          rw [List.getElem?_set_self hj] at e
          cases e
          refine ⟨d, l, rfl, List.getElem?_set_self ?_⟩
          rw [start_len (by simpa using hi.1)]
          simpa using hj
        · rw [List.getElem?_set_ne (Ne.symm c)] at e
          obtain ⟨h3, e⟩ := List.getElem?_eq_some_iff.mp e
          rw [List.getElem_replicate] at e
          subst e
          trivial
      · rcases m with rfl | rfl
        · exact D0.none _ (by simp)
        · exact D0.none _ (by simp)
      · cases e
        exact ⟨D0, .inl rfl, .inr rfl, fun i => ⟨by simp, by simp⟩⟩
    have L0 : Lnk ⟨B, fun _ => False, fun x => x = d ∨ x = l, H', some (d, l)⟩ w0 (fun _ => none) H' { nx := fun _ H' => Q .non H', rt := Q } (endsF (fun d => d = .bl true) (fun _ => False)) := by
      refine ⟨fun _ _ _ _ z => ?_, fun _ _ _ _ z => z.elim, fun _ _ _ _ z => z.elim, fun dd v env' W' σ' H2 z S' rp => ?_, fun _ _ _ _ _ _ _ z => z.elim⟩
      · have z : D.non = D.bl true := z
        cases z
      · have z : dd = .bl true := z
        subst z
        cases (show v = .bl true from rp)
        exact q _
    obtain ⟨ts, p1, s1⟩ := run_body (h2 (fun _ => False) (fun x => x = d ∨ x = l) H' (some (d, l))) hK S0 L0 hw
    exact p1.run pins s _ H' _ I s1
  refine ⟨_, pss_cons h1 p, ?_⟩
  refine ⟨.ref a, start_get (vs := [.ref a]) (i := 0) (by simp), ?_⟩
  exact ⟨a, ns, kk, rfl, hs, hn, k0, k1, fun d l H' _ _ _ D0 => s d l H' D0⟩
end
/-- a draw, without a heap -/
theorem draw_g {P : Program} {w' : World} {K : PySem.W.Frag} {mg : Str → Option Value} {base : Heap} {k : Nat} {f : Addr} {fd : FuncData} {ps : List Str} {B : Tb} {sp : Sp}
    (hsp : sp = fun vs H Q _ => ∃ (d l : Addr) (n : Int), vs = [V.ref d, .int n] ∧ Deal H d l ∧ 0 < n ∧ Sm n ∧ ∀ r H', 0 ≤ r → r < n → Drew d l H H' → Q (.int r) H') (hl : ps.length = 2) (F : FnOk P w' K mg base CX0 k f fd ps sp) : FnOk P w' K mg base CX0 k f fd ps (spG0 B wpDraw) := by
  have imp : ∀ vs H Q E, spG0 B wpDraw vs H Q E → sp vs H Q E := fun vs H Q E ⟨Z, ds, q, d, l, vr, e, D0, hZ, r, h, kq⟩ => by
    subst hsp e
    unfold wpDraw at h
    split at h
    · obtain ⟨v, rfl, r1⟩ := r.one_inv
      cases r1
      exact ⟨d, l, _, rfl, D0, h.1, h.2.1, fun r' H' a b c => kq _ _ H' (h.2.2 r' a b) c rfl⟩
    · exact h.elim
  exact ⟨fun vs H Q E h => F.len vs H Q E (imp vs H Q E h), fun A outer s H args us vs Q E hr e0 hb r hs => F.run A outer s H args us vs Q E hr e0 hb r (imp vs H Q E hs)⟩
section
variable {X : Cx} {Λ : Lx} {w : WX} {a b : Expr} {t : DE} {pos : Pos}
/-! repr of a plain value -/
def rReprS : List V → Hp → VK → Prop := fun xs H Q => ∃ x d, xs = [x] ∧ ((x = .non ∧ d = PyData.none) ∨ (∃ b, x = .bl b ∧ d = .bool b) ∨ ∃ i : Int, x = .int i ∧ d = .int i ∧ i.natAbs.log2 < 1920) ∧ Q (.str d.shown) H
theorem call_reprS : CallR X (.builtin "repr") rReprS := by
  intro pins s σ H xs us Q I r h
  obtain ⟨x, d, rfl, h, q⟩ := h
  obtain ⟨u, rfl, rx⟩ := vals1 r
  rcases h with ⟨rfl, rfl⟩ | ⟨b, rfl, rfl⟩ | ⟨i, rfl, rfl, hz⟩
  · cases rx
    exact PySem.P.repr_of_none ⟨.str _, H, I.tok _, ⟨_, rfl⟩, by simpa only [PyData.shown] using q⟩
  · cases rx
    exact PySem.P.repr_of_bool ⟨.str _, H, I.tok _, ⟨_, rfl⟩, by simpa only [PyData.shown] using q⟩
  · obtain ⟨t, rfl⟩ := rx
    exact PySem.P.repr_of_int hz ⟨.str _, H, I.tok _, ⟨_, rfl⟩, by simpa only [PyData.shown] using q⟩
def reprS : List D → DK := fun ds q _ => match ds with
  | [.non] => q (.str (PyData.shown .none))
  | [.bl b] => q (.str (PyData.shown (.bool b)))
  | [.int i] => i.natAbs.log2 < 1920 ∧ q (.str (PyData.shown (.int i)))
  | _ => False
theorem snd_reprS : SndC Λ w rReprS reprS := fun env W σ H ds vs Q q x S hx r h k => by
  unfold reprS at h
  split at h
  · obtain ⟨v, rfl, r1⟩ := r.one_inv
    cases r1
    exact ⟨_, _, rfl, .inl ⟨rfl, rfl⟩, k _ _ H h S .refl rfl⟩
  · obtain ⟨v, rfl, r1⟩ := r.one_inv
    cases r1
    exact ⟨_, _, rfl, .inr (.inl ⟨_, rfl, rfl⟩), k _ _ H h S .refl rfl⟩
  · obtain ⟨v, rfl, r1⟩ := r.one_inv
    cases r1
    exact ⟨_, _, rfl, .inr (.inr ⟨_, rfl, rfl, h.1⟩), k _ _ H h.2 S .refl rfl⟩
  · exact h.elim
/-- x += n, x an int -/
def dAugI (i : Nat) (f : Int → Int → Int) (t : DE) : DS := fun env e => match env[i]? with
  | some (.va (.int n)) => t env (fun d => match d with
    | .int m => e.nx (env.set i (.va (.int (f n m))))
    | _ => False) (e.ex env)
  | _ => False
theorem xs_augI {i : Nat} {y : Str} {op : Operator} {f : Int → Int → Int} {p : Pos} (hN : X.N.Nodup) (hi : X.N[i]? = some y) (hx : Loc X.env.scope y) (he : XE X Λ w a t) (ho : PIp X op (ipI f)) (hf : X.fn y = true ∨ X.env.scope.names.lookup y = some .local := by first | exact .inl rfl | exact .inr rfl | assumption) :
    XS X Λ w (.AugAssign (.Name y p) op a pos) (dAugI i f t) := ⟨fun hK => by
  obtain ⟨r, pp, s⟩ := he.ex hK
  refine ⟨_, ps_aug hN hi hx pp ho hf, fun env W σ H E e S L h => ?_⟩
  unfold dAugI at h
  split at h
  · rename_i n hd
    obtain ⟨v, hσ, rv⟩ := S.sl i _ hd
    cases rv
    refine ⟨_, hσ, s env W σ H _ _ _ S L.xok h fun d v H1 h1 S1 e1 r1 => ?_⟩
    cases d <;> first | exact h1.elim | skip
    cases r1
    exact ⟨_, _, rfl, rfl, L.nx _ _ _ _ h1 (S1.put (i := i) (d := .int _) rfl) e1.vis⟩
  · exact h.elim⟩
end
end Eb

/-! ## own layer: starred displays, properties, str(x) of own instances, without a heap -/
namespace Eb
open PySem PySem.Spec PyProof.Rows L2 StX
section
variable {X : Cx} {Λ : Lx} {w : WX} {a b c e o : Expr} {es : List Expr} {ta tb tc t : DE} {u : DA} {pos p apos : Pos} {k : Nat} {f : Addr} {fd : FuncData} {ps : List Str} {wp : DW} {y : Str}
/-- *e, .. -/
def dStar (t : DE) (u : DA) : DA := fun env q x => t env (fun d => match d with
  | .lst ds => u env (fun es => q (ds ++ es)) x
  | .tup ds => u env (fun es => q (ds ++ es)) x
  | _ => False) x
theorem xa_star (ha : XE X Λ w a t) (hb : XA X Λ w es u) (hs : starEach (.Starred a p :: es) X.env = (true, eval a X.env) :: starEach es X.env := by rfl) : XA X Λ w (.Starred a p :: es) (dStar t u) := ⟨fun hK => by
  obtain ⟨ra, pa, sa⟩ := ha.ex hK
  obtain ⟨rb, pb, sb⟩ := hb.ex hK
  refine ⟨_, pa_star pa pb hs, fun env W σ H Q q x S hx h k => sa env W σ H _ _ x S hx h fun d v H1 h1 S1 e1 r1 => ?_⟩
  cases d <;> first | exact h1.elim | skip
  · obtain ⟨p, vs, rfl, h3, r3⟩ := rep_lst r1
    exact ⟨p, vs, rfl, .inr (.of h3), sb env W σ H1 _ _ x S1 (hx.on e1) h1 fun ds us H2 h2 S2 e2 r2 => k _ _ H2 h2 S2 (e1.trans e2) ((r3.up e2.vis).app r2)⟩
  · obtain ⟨p, vs, rfl, h3, r3⟩ := rep_tup r1
    exact ⟨p, vs, rfl, .inl (hK ▸ h3), sb env W σ H1 _ _ x S1 (hx.on e1) h1 fun ds us H2 h2 S2 e2 r2 => k _ _ H2 h2 S2 (e1.trans e2) ((r3.up e2.vis).app r2)⟩⟩
/-- e.m, a property -/
theorem xe_prop {cc : Nat} {m : Str} {pa g : Addr} (he : XE X Λ w e t) (cl : Cls X.K (Λ.B.C cc)) (hp : ∃ pa, PropOf X.K (Λ.B.C cc) m pa g) (F : FnOk X.prog X.w X.K X.mg X.base CX0 k g fd ps (spF0 Λ.B wp)) (hr : Room (k + 1) X.A) (hb : Binds X.K fd ps [])
    (hab : attributeBase e m X.env (eval e X.env) = eval e X.env := by rfl) : XE X Λ w (.Attribute e m pos) (dM0 cc wp t dNil) := ⟨fun hK => by
  obtain ⟨pa, hp⟩ := hp
  obtain ⟨r, p, s⟩ := he.ex hK
  refine ⟨_, pe_prop p cl hp F hr hb .nil pass0 hab, fun env W σ H Q q x S hx h k => s env W σ H _ _ x S hx h fun d v H1 h1 S1 e1 r1 => ?_⟩
  cases d <;> first | exact h1.elim | skip
  rename_i c' fs
  obtain ⟨rfl, h1⟩ := h1
  obtain ⟨a, dx, gs, rfl, hg, en, rl⟩ := id r1
  refine ⟨a, dx, gs, rfl, hid_le _ _ hg, ?_⟩
  exact call0 (E := E0) (ds := [.obj c' fs]) (vs := [.ref a]) S1 (RepL.cons r1 RepL.nil) h1 fun d v H' a b c => k d v H' a b (e1.trans c)⟩
/-- str(x) of an own instance -/
def rStrOwn (C : Addr) (sp : Sp) (E : XK) : List V → Hp → VK → Prop := fun xs H Q => ∃ a, xs = [V.ref a] ∧ InsO H a C ∧ sp [.ref a] H (fun z H' => ∃ i, z = .str i ∧ Q z H') E
theorem call_strOwn {CX : CXT} {n : Nat} {C g : Addr} {sp : Sp} {E : XK} (hs : PySem.W.findIn X.K (.ref C) "__str__" = some (some (.ref g))) (hf : PySem.W.isFn X.K (.ref g) = true) (F : FnR X.prog X.w X.K X.mg X.base CX n g sp) (hr : Room (n + 2) X.A) (hu : X.A.units + 64 < cLine) (hx : Passes CX X E) : CallR X (.type "str") (rStrOwn C sp E) := by
  intro pins s σ H xs us Q I r h
  obtain ⟨a, rfl, hsl, q⟩ := h
  obtain ⟨u, rfl, ru⟩ := r.one
  cases (show u = Value.ref a from ru)
  obtain ⟨ox, od, J⟩ := insO_at I hsl
  have hr2 : Room n X.A.in1.in1 := (show Room (n + 1) X.A.in1 from Room.in1 hr).in1
  refine PySem.W.kso_call (by simp only [Around.in1_units]; omega) I.kIn J hs hf (wpAny_mono (wpAny_call (SlX.run_at (us := [.ref a]) (ws := [.ref a]) F hr2 I.env0.in1.in1 hx I (.cons rfl .nil) q)) (fun w s' z => ?_) fun _ _ x => x)
  obtain ⟨z', H', I', rz, i, ei, qz⟩ := z
  subst ei
  obtain ⟨t, e⟩ := (show ∃ t, w = Value.str i t from rz)
  cases e
  exact ⟨.str i, H', I', ⟨t, rfl⟩, qz⟩
def strOD (c : Nat) (wp : DW) : List D → DK := fun ds q _ => match ds with
  | [.obj c' fs] => c' = c ∧ wp [.obj c' fs] (fun z => match z with
    | .str i => q (.str i)
    | _ => False) (fun _ => False)
  | _ => False
theorem snd_strO {cc : Nat} {E : XK} : SndC Λ w (rStrOwn (Λ.B.C cc) (spF0 Λ.B wp) E) (strOD cc wp) := fun env W σ H ds vs Q q x S hx r h k => by
  unfold strOD at h
  split at h
  · obtain ⟨v, rfl, r1⟩ := r.one_inv
    obtain ⟨rfl, h⟩ := h
    obtain ⟨a, rfl, hi⟩ := rep_ins r1
    refine ⟨a, rfl, hi, call0 S (RepL.one r1) h fun d v H' hq S' e' r' => ?_⟩
    cases d <;> first | exact hq.elim | skip
    cases r'
    exact ⟨_, rfl, k _ _ H' hq S' e' rfl⟩
  · exact h.elim
/-! ### enumerate(tuple) -/
theorem it_enumT {W : Ow} {H : Hp} {p : Addr} {vs : List V} {ds : List D} (h : SqT Λ.B.K (Λ.vis W H) p vs) (r : RepL Λ.B (Λ.vis W H) ds vs) : ItOk Λ W H (IteT Λ.B.K p) (enD ds) where
  go := fun i env' W' σ' H' hi S s => by
    rw [enD_len] at hi
    obtain ⟨v, hv, _⟩ := r.get (List.getElem?_eq_getElem hi)
    exact ⟨vs, v, Same_seqT hid_le (Same_seqT s h), hv⟩
  stop := fun env' W' σ' H' S s => ⟨vs, Same_seqT hid_le (Same_seqT s h), by rw [r.len, enD_len]; exact Nat.le_refl _⟩
  yld := fun i x env' W' σ' H' H'' hi S s y => by
    obtain ⟨T, z, rfl, hT, rfl, y⟩ := y
    obtain ⟨d, hd, rd⟩ := r.geti (y vs (Same_seqT hid_le (Same_seqT s h)))
    exact ⟨same_new hT, _, enD_get hd, new_tup S hT ⟨_, _, rfl, rfl, _, _, rfl, rd.up s, rfl⟩⟩
theorem xi_enumT {p tpos : Pos} {elts : List Expr} {kk : Nat} (hg : Gl X "enumerate") (hm : X.mg "enumerate" = none) (ha : XE X Λ w a t) (hs : starEach [a] X.env = [(false, eval a X.env)] := by rfl) :
    XI X Λ w (.Tuple elts kk tpos) (.Call (.Name "enumerate" p) [a] [] pos) (dEn isT t) := ⟨fun hK => by
  obtain ⟨r, p, s⟩ := ha.ex hK
  refine ⟨_, pi_enumT hg hm (pa_cons p pa_nil hs) hs, fun env W σ H R q x S hx hh k => s env W σ H _ _ x S hx hh fun d v H1 h1 S1 e1 r1 => ?_⟩
  cases d with
  | tup ds =>
    obtain ⟨p, vs, rfl, h2, r2⟩ := r1
    rw [hK]
    exact ⟨p, vs, rfl, Same_seqT hid_le h2, k _ _ H1 h1 S1 e1 (it_enumT h2 r2)⟩
  | _ => exact h1.elim⟩
/-! ### text * 0, text * 1 -/
def rMulS : R2 := fun x y H Q => ∃ a n, x = .str a ∧ y = .int n ∧ ((n = 0 ∧ Q (.str Str.empty) H) ∨ (n = 1 ∧ Q (.str a) H))
theorem op_mulS : OpR X (binaryOp .Mult) rMulS := by
  intro pins s σ H x y v u Q I rx ry h
  obtain ⟨a, n, rfl, rfl, h⟩ := h
  obtain ⟨t, rfl⟩ := (show ∃ t, v = Value.str a t from rx)
  obtain ⟨t', rfl⟩ := (show ∃ t, u = Value.int n t from ry)
  rcases h with ⟨rfl, q⟩ | ⟨rfl, q⟩
  · exact PySem.P.mul_str_none (by decide) (by decide) ⟨.str _, H, I.tok _, ⟨_, rfl⟩, q⟩
  · exact PySem.P.mul_str (by decide) (fun _ h => by simp at h) (fun _ h => by simp at h) ⟨.str a, H, I, ⟨_, rfl⟩, q⟩
def mulS : D → D → DK := fun d e q _ => match d, e with
  | .str a, .int n => (n = 0 ∧ q (.str Str.empty)) ∨ (n = 1 ∧ q (.str a))
  | _, _ => False
theorem snd_mulS : SndR Λ w rMulS mulS := fun env W σ H d e v u Q q x S hx r1 r2 h k => by
  cases d <;> cases e <;> first | exact h.elim | skip
  cases r1
  cases r2
  rcases h with ⟨rfl, h⟩ | ⟨rfl, h⟩
  · exact ⟨_, _, rfl, rfl, .inl ⟨rfl, k _ _ H h S .refl rfl⟩⟩
  · exact ⟨_, _, rfl, rfl, .inr ⟨rfl, k _ _ H h S .refl rfl⟩⟩
/-! ### a test that looks at an own list -/
theorem thaw {env : List Sl} {W : Ow} {σ : L2.St} {H H' : Hp} {i : Nat} {ds : List D} (S : StOk Λ env W σ H) (hd : env[i]? = some (.ow ds)) (S' : StOk Λ (env.set i (.va (.lst ds))) (wput W i none) σ H') (e : Ev Λ (wput W i none) H H') : StOk Λ env W σ H' ∧ Ev Λ W H H' := by
  obtain ⟨p, vs, h0, h1, h2, h3, h4⟩ := S.sl i _ hd
  have nG : ¬ Λ.G (wput W i none) p := by
    rintro (z | z | ⟨j, z⟩)
    · exact (S.wx i p h0).2.1 z
    · exact h4 z
    · by_cases q : j = i
      · rw [wput_same q] at z; cases z
      · rw [wput_ne q] at z; exact q (S.wi j i p z h0)
  have up : ∀ a, Λ.G (wput W i none) a → Λ.G W a := by
    rintro a (z | z | ⟨j, z⟩)
    · exact .inl z
    · exact .inr (.inl z)
    · by_cases q : j = i
      · rw [wput_same q] at z; cases z
      · rw [wput_ne q] at z; exact .inr (.inr ⟨j, z⟩)
  have hp : ∀ o, H p = some o → H' p = some o := fun o ho => hid_le _ _ (e.vis p o (hid_some.mpr ⟨nG, ho⟩))
  have ev : Ev Λ W H H' := by
    refine ⟨fun a o h => ?_, fun j q o hw ho => ?_, e.all⟩
    · obtain ⟨g, h⟩ := hid_some.mp h
      exact hid_some.mpr ⟨g, hid_le _ _ (e.vis a o (hid_some.mpr ⟨fun z => g (up a z), h⟩))⟩
    · by_cases c : j = i
      · subst c
        rw [h0] at hw
        cases hw
        exact hp o ho
      · exact e.own j q o (by rw [wput_ne c]; exact hw) ho
  refine ⟨⟨by have := S'.len; rw [List.length_set] at this; exact this, fun j x hj => (S.sl j x hj).mono ev.vis (ev.own j), S'.fr, S'.mx, S'.zx, fun j q hw => ⟨ev.all q (S.wx j q hw).1, (S.wx j q hw).2⟩, S.wi, fun d l ed => ?_, S.wf⟩, ev⟩
  obtain ⟨a1, a2, a3, _⟩ := S'.dl d l ed
  exact ⟨a1, a2, a3, (S.dl d l ed).2.2.2⟩
def dPeek (i : Nat) (t : DT) : DT := fun env q x => match env[i]? with
  | some (.ow ds) => t (env.set i (.va (.lst ds))) q (fun _ => False)
  | _ => t env q x
theorem xt_peek (i : Nat) {t : DT} (h : XT X Λ w e t) : XT X Λ w e (dPeek i t) := ⟨fun hK => by
  obtain ⟨r, p, s⟩ := h.ex hK
  refine ⟨r, p, fun env W σ H Q q x S hx h k => ?_⟩
  unfold dPeek at h
  split at h
  · rename_i ds hd
    obtain ⟨S2, s2⟩ := S.freeze hd
    refine s _ _ σ H Q q (fun _ => False) S2 (fun _ _ _ _ z => z.elim) h fun b H' hq S' e' => ?_
    obtain ⟨S3, e3⟩ := thaw S hd S' e'
    exact k b H' hq S3 e3
  · exact s env W σ H Q q x S hx h k⟩
end
end Eb

/-! ## own layer: int on the left of an own instance, calling an instance, without a heap -/
namespace Eb
open PySem PySem.Spec PyProof.Rows L2 StX
section
variable {M : Model} {A : Around} {E : Value → Shared → Prop} {s : Shared} {pos : Pos} {x : Addr} {first : List Value} {Q : Value → Shared → Prop} {env : Env}
theorem callI_of {args : List (Bool × Sem Value)} {keywords : List (Option Str × Sem Value)} (hplain : (args.any (·.1) || keywords.any (·.1.isNone)) = false)
    (h : wpAny M A (evalArgs (.ref x) true args keywords) (fun a s₁ => (∃ ox, s₁.heap.get? x = some ox ∧ ox.data = .plain) ∧ wpAny M A (call (.ref x) (first ++ a.pos) a.kw) Q E s₁) E s) : wpAny M A (callWith pos (.ref x) first args keywords) Q E s := by
  unfold callWith
  refine wpAny_bind (wpAny_holding (wpAny_mono h (fun a s₁ h₁ => wpAny_bind (wpAny_standAt ?_)) fun _ _ y => y))
  obtain ⟨⟨ox, at_, hd⟩, h₁⟩ := h₁
  have L : PySem.W.Looks M s₁.heap (keeperOf (.ref x)) .caller := by
    refine (PySem.W.Looks.ld (part := none) at_).andThen ?_
    simp only [hd]
    exact .now
  simp only [hplain]
  refine wpAny_bind (L.here ?_)
  have tail : ∀ {t : Sem Value}, wpAny M A t Q E s₁ → wpAny M A (t >>= fun r => holding [r] point >>= fun _ => pure r) Q E s₁ :=
    fun ht => wpAny_bind (wpAny_mono ht (fun r s₂ hr => wpAny_bind (wpAny_holding (wpAny_point (wpAny_pure hr)))) fun _ _ y => y)
  exact tail (wpAny_operateT h₁)
theorem callI {e : Expr} {rest : List Expr} (h : wpAny M A (spliced (backTo pos (starEach (e :: rest) env))) (fun vs s₁ => (∃ ox, s₁.heap.get? x = some ox ∧ ox.data = .plain) ∧ wpAny M A (call (.ref x) (first ++ vs)) Q E s₁) E s)
    (he : starEach (e :: rest) env = (false, eval e env) :: starEach rest env) (hplain : (backTo pos (starEach rest env)).any (·.1) = false) :
    wpAny M A (callWith pos (.ref x) first (backTo pos (starEach (e :: rest) env)) []) Q E s := by
  rw [he] at h ⊢
  exact callI_of (by show ((false || (backTo pos (starEach rest env)).any (·.1)) || false) = false; rw [hplain]; rfl) (PySem.Calls.evalArgs_plain h)
end
section
variable {X : Cx} {CX : CXT} {n : Nat} {C g g0 : Addr} {sp : Sp} {E : XK} {pins : List (Addr × Obj)} {σ : L2.St} {H : Hp} {s : Shared} {o e : Expr} {es : List Expr} {pos : Pos}
theorem insO_obj {a : Addr} (I : Inv X pins σ H s) (h : InsO H a C) : ∃ dx od, PySem.W.InstAt s.heap a (PySem.W.instObj C dx) C od := by
  obtain ⟨dx, fs, h⟩ := h
  obtain ⟨mA, O, _⟩ := ins_get I.hok h
  obtain ⟨od, J, _⟩ := O.look
  exact ⟨dx, _, J⟩
/-- i op x -/
def rIB (C : Addr) (sp : Sp) (E : XK) : R2 := fun x y H Q => ∃ i b, x = .int i ∧ y = .ref b ∧ InsO H b C ∧ sp [y, x] H Q E
theorem op_binR {op : Operator} {idl : String} (hc : PySem.W.selfFirst X.K C = true) (D : Declines op.info.2 idl) (hs : PySem.W.findIn X.K (.ref C) (PySem.dunder op.info.2) = some (some (.ref g0))) (hr : PySem.W.findIn X.K (.ref C) (dunderR op.info.2) = some (some (.ref g)))
    (hf : PySem.W.isFn X.K (.ref g) = true) (hsub : PySem.W.subIn X.K (.ref C) (.type "int") = some false) (F : FnR X.prog X.w X.K X.mg X.base CX n g sp) (hrm : Room n X.A) (hx : Passes CX X E) : OpR X (binaryOp op) (rIB C sp E) := by
  intro pins s σ H x y v u Q I rx ry h
  obtain ⟨i, b, rfl, rfl, hb, q⟩ := h
  obtain ⟨t, rfl⟩ := (show ∃ t, v = Value.int i t from rx)
  cases (show u = Value.ref b from ry)
  obtain ⟨dx, od, J⟩ := insO_obj I hb
  obtain ⟨m, hF⟩ := I.fr
  refine bin_IR hF I.ok.mod.kin J hc D hs hr hf hsub ?_
  refine wpAny_mono (wpAny_call (run_fnR (us := [.ref b, .int i t]) (vs := [.ref b, .int i]) F hrm hx I (.cons rfl (.cons ⟨t, rfl⟩ .nil)) q)) (fun w s' z => ?_) fun _ _ x => x
  obtain ⟨z', H', I', rz, qz⟩ := z
  exact SlX.cmpback rz ⟨z', H', I', rz, qz⟩
/-- o(e, ..), o an own instance -/
def tInst (C : Addr) (sp : Sp) (E : XK) (ta : TE) (t : TA) : TE := fun σ H Q => ta σ H fun x H1 => ∃ a, x = .ref a ∧ t σ H1 fun vs H2 => InsO H2 a C ∧ sp (.ref a :: vs) H2 Q E
theorem pe_inst {ta : TE} {t : TA} (he : PE X o ta) (hs : PySem.W.findIn X.K (.ref C) "__call__" = some (some (.ref g))) (hf : PySem.W.isFn X.K (.ref g) = true) (hfn : PySem.W.fnIn X.K g = true) (F : FnR X.prog X.w X.K X.mg X.base CX n g sp) (hr : Room n X.A) (hx : Passes CX X E) (ha : PA X (e :: es) t)
    (hst : starEach (e :: es) X.env = (false, eval e X.env) :: starEach es X.env := by rfl) (hpl : (backTo pos (starEach es X.env)).any (·.1) = false := by rfl)
    (ht : eval (.Call o (e :: es) [] pos) X.env = (do callWith pos (← eval o X.env) [] (backTo pos (starEach (e :: es) X.env)) (backToKw pos (keywordEach [] X.env))) := by rfl) : PE X (.Call o (e :: es) [] pos) (tInst C sp E ta t) := by
  refine ⟨fun pins s σ H Q I h => ?_⟩
  rw [ht]
  refine wpAny_bind (thn (he.run pins s σ H _ I h) fun u s1 ⟨x, H1, I1, rx, a, ex, q⟩ => ?_)
  subst ex
  obtain rfl : u = Value.ref a := rx
  refine callI (thn (ha.run pos pins s1 σ H1 _ I1 q) fun us s2 ⟨vs, H2, I2, r, hi, q2⟩ => ?_) hst hpl
  obtain ⟨dx, od, J⟩ := insO_obj I2 hi
  refine ⟨⟨_, J.at_, rfl⟩, ?_⟩
  exact wpAny_call (PySem.W.kco_code (a := ⟨[] ++ us, []⟩) I2.kIn J rfl hs hf hfn (run_fnR (us := .ref a :: us) (vs := .ref a :: vs) F hr hx I2 (.cons rfl r) q2))
end
end Eb

namespace Eb
open PySem PySem.Spec PyProof.Rows L2 StX
section
variable {X : Cx} {Λ : Lx} {w : WX} {a b c e o : Expr} {es : List Expr} {ta tb tc t : DE} {u : DA} {pos p apos : Pos} {k : Nat} {f g : Addr} {fd : FuncData} {ps : List Str} {wp wr : DW} {y : Str}
def opRD (c : Nat) (wp : DW) : D → D → DK := fun d e q _ => match d, e with
  | .int i, .obj c1 f1 => c1 = c ∧ wp [.obj c1 f1, .int i] q (fun _ => False)
  | _, _ => False
theorem snd_opR {c : Nat} {E : XK} : SndR Λ w (rIB (Λ.B.C c) (spF0 Λ.B wp) E) (opRD c wp) := fun env W σ H d e v u Q q x S hx r1 r2 h k => by
  cases d <;> cases e <;> first | exact h.elim | skip
  obtain ⟨rfl, h⟩ := h
  obtain ⟨a1, rfl, i1⟩ := rep_ins r2
  cases r1
  exact ⟨_, a1, rfl, rfl, i1, call0 S (RepL.cons r2 (RepL.cons (d := .int _) rfl RepL.nil)) h k⟩
/-- an int or an instance on the left, an instance on the right -/
def opXD (c : Nat) (wp wr : DW) : D → D → DK := fun d e q x => match d with
  | .int i => opRD c wr (.int i) e q x
  | d => opAD c wp d e q x
theorem snd_opX {c : Nat} {E : XK} : SndR Λ w (fun x y H Q => (rB2 (Λ.B.C c) (spF0 Λ.B wp) E x y H Q ∨ rBI (Λ.B.C c) (spF0 Λ.B wp) E x y H Q) ∨ rIB (Λ.B.C c) (spF0 Λ.B wr) E x y H Q) (opXD c wp wr) := fun env W σ H d e v u Q q x S hx r1 r2 h k => by
  cases d
  case int i => exact .inr (snd_opR env W σ H _ _ v u Q q x S hx r1 r2 h k)
  all_goals exact .inl (snd_opA env W σ H _ _ v u Q q x S hx r1 r2 h k)
theorem fnIn_of {x qual : Str} {st : Stmt} (F : Fun X.K x qual st f fd) : PySem.W.fnIn X.K f = true := by
  obtain ⟨oc, od, kV, doc, pm, an, cdv, ct, osl, e, lk, hcd⟩ := F.ex
  unfold PySem.W.fnIn
  rw [lk]
/-- o(e, ..), o an own instance -/
theorem xe_inst {cc : Nat} (he : XE X Λ w o t) (hm : Meth X.K (Λ.B.C cc) "__call__" g) (hfn : PySem.W.fnIn X.K g = true) (F : FnOk X.prog X.w X.K X.mg X.base CX0 k g fd ps (spF0 Λ.B wp)) (hr : Room k X.A) (hb : Binds X.K fd ps []) (ha : XA X Λ w (e :: es) u)
    (hst : starEach (e :: es) X.env = (false, eval e X.env) :: starEach es X.env := by rfl) (hpl : (backTo pos (starEach es X.env)).any (·.1) = false := by rfl)
    (ht : eval (.Call o (e :: es) [] pos) X.env = (do callWith pos (← eval o X.env) [] (backTo pos (starEach (e :: es) X.env)) (backToKw pos (keywordEach [] X.env))) := by rfl) : XE X Λ w (.Call o (e :: es) [] pos) (dM0 cc wp t u) := ⟨fun hK => by
  obtain ⟨r, p, s⟩ := he.ex hK
  obtain ⟨r', p', s'⟩ := ha.ex hK
  refine ⟨_, pe_inst p hm.at_ hm.fn hfn (raw0 F hb) hr (E := E0) pass0 p' hst hpl ht, fun env W σ H Q q x S hx h k => s env W σ H _ _ x S hx h fun d v H1 h1 S1 e1 r1 => ?_⟩
  cases d <;> first | exact h1.elim | skip
  rename_i c' fs
  obtain ⟨rfl, h1⟩ := h1
  obtain ⟨a, rfl, hi⟩ := rep_ins r1
  refine ⟨a, rfl, s' env W σ H1 _ _ x S1 (hx.on e1) h1 fun ds vs H2 h2 S2 e2 r2 => ?_⟩
  obtain ⟨a', e', hi'⟩ := rep_ins (r1.up e2.vis)
  cases e'
  exact ⟨hi', call0 S2 (RepL.cons (r1.up e2.vis) r2) h2 fun d v H' a b c => k d v H' a b ((e1.trans e2).trans c)⟩⟩
/-- min, max of a list of ints -/
def minLD : List D → DK := fun ds q _ => ∃ ns : List Int, ds = [.lst (ns.map .int)] ∧ 0 < ns.length ∧ ∀ m, m ∈ ns → (∀ y, y ∈ ns → m ≤ y) → q (.int m)
def maxLD : List D → DK := fun ds q _ => ∃ ns : List Int, ds = [.lst (ns.map .int)] ∧ 0 < ns.length ∧ ∀ m, m ∈ ns → (∀ y, y ∈ ns → y ≤ m) → q (.int m)
theorem snd_minL : SndC Λ w (rMin Λ.B.K) minLD := fun env W σ H ds vs Q q x S hx r h k => by
  obtain ⟨ns, e, hn, h⟩ := h
  subst e
  obtain ⟨v, rfl, r1⟩ := r.one_inv
  obtain ⟨p, vs, rfl, h4, r4⟩ := rep_lst r1
  cases r4.ints
  exact ⟨p, ns, rfl, sqL_of h4, hn, fun m h1 h2 => k _ _ H (h m h1 h2) S .refl rfl⟩
theorem snd_maxL : SndC Λ w (rMax Λ.B.K) maxLD := fun env W σ H ds vs Q q x S hx r h k => by
  obtain ⟨ns, e, hn, h⟩ := h
  subst e
  obtain ⟨v, rfl, r1⟩ := r.one_inv
  obtain ⟨p, vs, rfl, h4, r4⟩ := rep_lst r1
  cases r4.ints
  exact ⟨p, ns, rfl, sqL_of h4, hn, fun m h1 h2 => k _ _ H (h m h1 h2) S .refl rfl⟩
theorem hc_minL (hc : X.calm = true) : X.K = Λ.B.K → CallR X (.builtin "min") (rMin Λ.B.K) := fun hK => hK ▸ cr_min hc
theorem hc_maxL (hc : X.calm = true) : X.K = Λ.B.K → CallR X (.builtin "max") (rMax Λ.B.K) := fun hK => hK ▸ cr_max hc
/-- x op= y, x an own instance -/
theorem ip_obj {CX : CXT} {n : Nat} {C g : Addr} {sp : Sp} {E : XK} {op : Operator} (hc : PySem.W.selfFirst X.K C = true) (ni : NoI X.K C op.info.2) (hs : PySem.W.findIn X.K (.ref C) (PySem.dunder op.info.2) = some (some (.ref g))) (hf : PySem.W.isFn X.K (.ref g) = true) (hR : RefO X.K C op.info.2) (hsub : PySem.W.subIn X.K (.type "int") (.ref C) = some false)
    (F : FnR X.prog X.w X.K X.mg X.base CX n g sp) (hr : Room n X.A) (hx : Passes CX X E) : PIp X op (fun x y H Q => rB2 C sp E x y H Q ∨ rBI C sp E x y H Q) := by
  intro pins s σ H x y v u Q I rx ry h
  obtain ⟨m, hF⟩ := I.fr
  rcases h with ⟨a, b, rfl, rfl, ha, hb, q⟩ | ⟨a, i, rfl, rfl, ha, q⟩
  · cases (show v = Value.ref a from rx)
    cases (show u = Value.ref b from ry)
    obtain ⟨ox, od, J⟩ := insO_at I ha
    obtain ⟨ox', od', J'⟩ := insO_at I hb
    refine ip_same hF I.ok.mod.kin J J' hc ni hs hf ?_
    refine wpAny_mono (wpAny_call (run_fnR (us := [.ref a, .ref b]) (vs := [.ref a, .ref b]) F hr hx I (.cons rfl (.cons rfl .nil)) q)) (fun w s' ⟨z', H', I', rz, qz⟩ => SlX.cmpback rz ⟨z', H', I', rz, qz⟩) fun _ _ x => x
  · cases (show v = Value.ref a from rx)
    obtain ⟨t, rfl⟩ := (show ∃ t, u = Value.int i t from ry)
    obtain ⟨ox, od, J⟩ := insO_at I ha
    obtain ⟨rc, fo, ro, h0, hp, h1, h2⟩ := hR
    refine ip_int hF I.ok.mod.kin J hc ni hs hf h0 hp h1 h2 hsub ?_
    refine wpAny_mono (wpAny_call (run_fnR (us := [.ref a, .int i t]) (vs := [.ref a, .int i]) F hr hx I (.cons rfl (.cons ⟨t, rfl⟩ .nil)) q)) (fun w s' ⟨z', H', I', rz, qz⟩ => SlX.cmpback rz ⟨z', H', I', rz, qz⟩) fun _ _ x => x
def dAugO (i c : Nat) (wp : DW) (t : DE) : DS := fun env e => match env[i]? with
  | some (.va d) => t env (fun d2 => opAD c wp d d2 (fun r => e.nx (env.set i (.va r))) (fun _ => False)) (e.ex env)
  | _ => False
theorem xs_augO {i cc : Nat} {y : Str} {op : Operator} {p : Pos} (hN : X.N.Nodup) (hi : X.N[i]? = some y) (hx : Loc X.env.scope y) (he : XE X Λ w a t) (ho : PIp X op (fun x y H Q => rB2 (Λ.B.C cc) (spF0 Λ.B wp) E0 x y H Q ∨ rBI (Λ.B.C cc) (spF0 Λ.B wp) E0 x y H Q)) (hf : X.fn y = true ∨ X.env.scope.names.lookup y = some .local := by first | exact .inl rfl | exact .inr rfl | assumption) :
    XS X Λ w (.AugAssign (.Name y p) op a pos) (dAugO i cc wp t) := ⟨fun hK => by
  obtain ⟨r, pp, s⟩ := he.ex hK
  refine ⟨_, ps_aug hN hi hx pp ho hf, fun env W σ H E e S L h => ?_⟩
  unfold dAugO at h
  split at h
  · rename_i d hd
    obtain ⟨v, hσ, rv⟩ := S.sl i _ hd
    refine ⟨_, hσ, s env W σ H _ _ _ S L.xok h fun d2 v2 H1 h1 S1 e1 r1 => ?_⟩
    exact snd_opA (w := w) (E := E0) env W σ H1 d d2 v v2 _ _ (fun _ => False) S1 (fun _ _ _ _ z => z.elim) (rv.up e1.vis) r1 h1 fun d3 v3 H3 h3 S3 e3 r3 => L.nx _ _ _ _ h3 (S3.put r3) (e1.trans e3).vis
  · exact h.elim⟩
/-- a, b, .. = a list -/
def gTL (is : List Nat) : DG := fun d env q => match d with
  | .lst ds => gNs is ds env q
  | _ => False
theorem xg_unl {is : List Nat} {k n : Nat} (hc : X.calm = true) (h : XGs X es is) (hn : (assignEach es X.env).length = n := by rfl) (hst : (assignEach es X.env).findIdx? (·.1) = none := by rfl) (hl : n = is.length := by rfl) :
    XG X Λ (.Tuple es k pos) (gTL is) is := ⟨fun hK => ⟨_, pg_unl hc h.ex hn hst, fun env W σ H d v q Q S r h k => by
  cases d with
  | lst ds =>
    obtain ⟨a, vs, rfl, h1, h2⟩ := r
    refine ⟨a, vs, rfl, sqL_of (hid_le _ _ h1), by rw [h2.len, gNs_len h, hl], snd_gNs is S h2 h k⟩
  | _ => exact h.elim⟩⟩
end
end Eb

/-! ## own layer: classmethods, cls(..), sorted(set(..)), a dict display looked up at once, defs that call themselves -/
namespace Eb
open PySem PySem.Spec PyProof.Rows L2 StX
section
variable {X : Cx} {Λ : Lx} {w : WX} {a b c e o : Expr} {es : List Expr} {ta tb tc t : DE} {tA tB : DT} {u : DA} {pos p apos : Pos} {k : Nat} {f : Addr} {fd : FuncData} {ps : List Str} {wp : DW} {y : Str}
/-! ### classmethods -/
theorem pe_cmeth0 {CX : CXT} {C p g : Addr} {mc : Value} {sp : Sp} {E : XK} {m : Str} {ta : TE} {pl : Sem Bool} (he : PE X o ta) (r : ClX.CRead X.K C mc) (c : ClX.CMet X.K C mc m p g) (F : FnR X.prog X.w X.K X.mg X.base CX k g sp) (hr : Room k X.A) (hx : Passes CX X E)
    (ht : eval (.Call (.Attribute o m apos) [] [] pos) X.env = (do
      let ov ← eval o X.env
      standAt apos.atName
      let (f, first) ← holding [ov] (getMethod ov m pl)
      callWith pos f first (backTo pos (starEach [] X.env)) (backToKw pos (keywordEach [] X.env))) := by rfl) :
    PE X (.Call (.Attribute o m apos) [] [] pos) (ClX.tCMeth C sp E ta tNil) := by
  refine ⟨fun pins s σ H Q I h => ?_⟩
  refine PySem.W.methodCall_KW (pl := pl) (thn (he.run pins s σ H _ I h) fun u s1 ⟨x, H1, I1, rx, ex, q⟩ => ?_) ht
  subst ex
  obtain rfl : u = Value.ref C := rx
  refine ClX.getmethcm_ok I1 r c fun s2 I2 => ?_
  refine PySem.W.callWith_M0 (first := []) ⟨ClX.pin_at I2, I2.kIn⟩ c.fi ?_
  exact ClX.run_cm (us := []) (vs := []) F hr hx I2 .nil q
def dCM (cc : Nat) (wp : DW) (u : DA) : DE := fun env q x => u env (fun ds => wp (.cl cc :: ds) q (fun _ => False)) x
theorem xe_cmeth {cc : Nat} {m : Str} {pl : Sem Bool} (hg : Gl X y) (hm : X.mg y = some (.ref (Λ.B.C cc))) (hcm : ∃ mc pm, ClX.CRead X.K (Λ.B.C cc) mc ∧ ClX.CMet X.K (Λ.B.C cc) mc m pm f) (F : FnOk X.prog X.w X.K X.mg X.base CX0 k f fd ps (spF0 Λ.B wp)) (hr : Room k X.A) (hb : Binds X.K fd ps []) (ha : XA X Λ w (e :: es) u) (hdb : (y == ("__debug__" : Str)) = false := by decide)
    (hst : starEach (e :: es) X.env = (false, eval e X.env) :: starEach es X.env := by rfl) (hpl : (backTo pos (starEach es X.env)).any (·.1) = false := by rfl)
    (ht : eval (.Call (.Attribute (.Name y p) m apos) (e :: es) [] pos) X.env = (do
      let ov ← eval (.Name y p) X.env
      standAt apos.atName
      let (f, first) ← holding [ov] (getMethod ov m pl)
      callWith pos f first (backTo pos (starEach (e :: es) X.env)) (backToKw pos (keywordEach [] X.env))) := by rfl) : XE X Λ w (.Call (.Attribute (.Name y p) m apos) (e :: es) [] pos) (dCM cc wp u) := ⟨fun hK => by
  obtain ⟨ra, pa, sa⟩ := ha.ex hK
  obtain ⟨mc, pm, r, cm⟩ := hcm
  refine ⟨_, ClX.pe_cmeth (pe_glob (v := .ref (Λ.B.C cc)) hg hm rfl hdb) r cm (raw0 F hb) hr pass0 pa hst hpl ht, fun env W σ H Q q x S hx h k => ⟨rfl, sa env W σ H _ _ x S hx h fun ds vs H1 h1 S1 e1 r1 => ?_⟩⟩
  exact call0 (E := E0) (ds := .cl cc :: ds) (vs := .ref (Λ.B.C cc) :: vs) S1 (RepL.cons rfl r1) h1 fun d v H' a b c => k d v H' a b (e1.trans c)⟩
theorem xe_cmeth0 {cc : Nat} {m : Str} {pl : Sem Bool} (hg : Gl X y) (hm : X.mg y = some (.ref (Λ.B.C cc))) (hcm : ∃ mc pm, ClX.CRead X.K (Λ.B.C cc) mc ∧ ClX.CMet X.K (Λ.B.C cc) mc m pm f) (F : FnOk X.prog X.w X.K X.mg X.base CX0 k f fd ps (spF0 Λ.B wp)) (hr : Room k X.A) (hb : Binds X.K fd ps []) (hdb : (y == ("__debug__" : Str)) = false := by decide)
    (ht : eval (.Call (.Attribute (.Name y p) m apos) [] [] pos) X.env = (do
      let ov ← eval (.Name y p) X.env
      standAt apos.atName
      let (f, first) ← holding [ov] (getMethod ov m pl)
      callWith pos f first (backTo pos (starEach [] X.env)) (backToKw pos (keywordEach [] X.env))) := by rfl) : XE X Λ w (.Call (.Attribute (.Name y p) m apos) [] [] pos) (dCM cc wp dNil) := ⟨fun hK => by
  obtain ⟨mc, pm, r, cm⟩ := hcm
  refine ⟨_, pe_cmeth0 (pe_glob (v := .ref (Λ.B.C cc)) hg hm rfl hdb) r cm (raw0 F hb) hr pass0 ht, fun env W σ H Q q x S hx h k => ⟨rfl, ?_⟩⟩
  exact call0 (E := E0) (ds := [.cl cc]) (vs := [.ref (Λ.B.C cc)]) S (RepL.cons rfl RepL.nil) h k⟩
/-! ### cls(..): the class is held by a name of this def -/
theorem pe_makeL {CX : CXT} {C : Addr} {sp : Sp} {dvs : List V} {ds : List Value} {E : XK} {x : Str} {i : Nat} {t : TA} (M : Mk X.K C f) (F : FnOk X.prog X.w X.K X.mg X.base CX k f fd ps sp) (hr : Room (k + 1) X.A) (hv : PE X (.Name x p) (tVar i)) (hb : Binds X.K fd ps ds) (hd : Vals dvs ds) (hx : Passes CX X E)
    (ha : PA X (e :: es) t) (he : starEach (e :: es) X.env = (false, eval e X.env) :: starEach es X.env := by rfl) (hpl : (backTo pos (starEach es X.env)).any (·.1) = false := by rfl) :
    PE X (.Call (.Name x p) (e :: es) [] pos) (fun σ H Q => σ[i]? = some (some (.ref C)) ∧ tMake C sp dvs E t σ H Q) := by
  refine ⟨fun pins s σ H Q I h => ?_⟩
  obtain ⟨hs, ht⟩ := h
  refine wpAny_Call_Name_kw (thn (hv.run pins s σ H (fun v H1 => v = .ref C ∧ H1 = H) I ⟨.ref C, hs, rfl, rfl⟩) fun u s1 ⟨v, H1, I1, r1, q1⟩ => ?_)
  obtain ⟨rfl, rfl⟩ := q1
  cases r1
  refine PySem.W.callWith_K (h₀ := X.base) I.ok.mod.kin M.kp (thn (ha.run pos pins s1 σ _ _ I1 ht) fun us s2 ⟨vs, H2, I2, r, q⟩ => ⟨I2.kIn, ?_⟩) he hpl
  exact run_make M F hr hb hd hx I2 r q
def dMkL (i cc : Nat) (wp : DWI) (u : DA) : DE := fun env q x => env[i]? = some (.va (.cl cc)) ∧ u env (fun ds => wp ds (fun fs => q (.obj cc fs)) (fun _ => False)) x
theorem xe_makeL {cc i : Nat} {wp : DWI} (M : Mk X.K (Λ.B.C cc) f) (F : FnOk X.prog X.w X.K X.mg X.base CX0 k f fd ps (spI0 Λ.B cc wp)) (hr : Room (k + 1) X.A) (hv : PE X (.Name y p) (tVar i)) (hb : Binds X.K fd ps []) (ha : XA X Λ w (e :: es) u)
    (he : starEach (e :: es) X.env = (false, eval e X.env) :: starEach es X.env := by rfl) (hpl : (backTo pos (starEach es X.env)).any (·.1) = false := by rfl) : XE X Λ w (.Call (.Name y p) (e :: es) [] pos) (dMkL i cc wp u) := ⟨fun hK => by
  obtain ⟨r, p, s⟩ := ha.ex hK
  refine ⟨_, pe_makeL M F hr hv hb .nil pass0 p he hpl, fun env W σ H Q q x S hx h k => ?_⟩
  obtain ⟨h0, h⟩ := h
  obtain ⟨v, hσ, rv⟩ := S.sl i _ h0
  cases rv
  refine ⟨hσ, s env W σ H _ _ x S hx h fun ds vs H1 h1 S1 e1 r1 x dx h2 h3 h4 => ?_⟩
  rw [List.append_nil]
  exact make_i S1 r1 h1 (fun d v H' a b c => k d v H' a b (e1.trans c)) h2 h3 h4⟩
/-! ### {k: v, ..}[x], the keys texts -/
theorem valV_merge {κ : Type} [DecidableEq κ] : ∀ (more acc : List (κ × V)) (j : κ), (more.map (·.1)).Nodup → valV (more.foldl (fun acc kv => putK acc kv.1 kv.2) acc) j = (valV more j).or (valV acc j)
  | [], acc, j, _ => by rw [List.foldl_nil, valV_nil, Option.none_or]
  | (k0, y) :: r, acc, j, h => by
    rw [List.map_cons, List.nodup_cons] at h
    rw [List.foldl_cons, valV_merge r _ j h.2, valV_put]
    by_cases e : j = k0
    · have n : valV r j = none := by
        cases q : valV r j with
        | none => rfl
        | some z =>
          refine (h.1 ?_).elim
          obtain ⟨p, hp, _⟩ := Option.map_eq_some_iff.mp q
          have := List.find?_some hp
          exact List.mem_map.mpr ⟨p, List.mem_of_find?_eq_some hp, by rw [← e]; exact of_decide_eq_true this⟩
      rw [n, if_pos e, Option.none_or, valV_pos (p := (k0, y)) e.symm]
      rfl
    · rw [if_neg e, valV_neg (p := (k0, y)) fun z => e z.symm]
/-- the pairs of a display -/
def SndP (Λ : Lx) (trs : List (TE × TE)) (ks : List Str) (u : DA) : Prop := ∀ env W σ H (Q : List (V × V) → Hp → Prop) q, StOk Λ env W σ H → u env q (fun _ => False) →
  (∀ ds vs H', q ds → StOk Λ env W σ H' → Ev Λ W H H' → RepL Λ.B (Λ.vis W H') ds vs → Q ((ks.map V.str).zip vs) H') → tPairs trs σ H Q
structure XP (X : Cx) (Λ : Lx) (pos : Pos) (keys : List (Option Expr)) (values : List Expr) (ks : List Str) (u : DA) : Prop where
  ex : X.K = Λ.B.K → ∃ trs, PPs X pos keys values trs ∧ SndP Λ trs ks u
theorem xp_nil : XP X Λ pos [] [] [] dNil := ⟨fun _ => ⟨[], pps_nil, fun env W σ H Q q S h k => k [] [] H h S .refl rfl⟩⟩
theorem xp_cons {kx : Str} {j : Nat} {kp : Pos} {v : Expr} {keys : List (Option Expr)} {values : List Expr} {ks : List Str} {u : DA} (hv : XE X Λ w0 v t) (hr : XP X Λ pos keys values ks u) : XP X Λ pos (some (.Constant (.str kx) j kp) :: keys) (v :: values) (kx :: ks) (dCons t u) := ⟨fun hK => by
  obtain ⟨r, p, s⟩ := hv.ex hK
  obtain ⟨trs, p', s'⟩ := hr.ex hK
  refine ⟨_, pps_cons pe_str p p', fun env W σ H Q q S h k => ?_⟩
  refine s env W σ H _ _ _ S (fun _ _ _ _ z => z.elim) h fun d v H1 h1 S1 e1 r1 => ?_
  refine s' env W σ H1 _ _ S1 h1 fun ds vs H2 h2 S2 e2 r2 => ?_
  exact k (d :: ds) (v :: vs) H2 h2 S2 (e1.trans e2) (RepL.cons (r1.up e2.vis) r2)⟩
def dDict (ks : List Str) (u : DA) (tk : DE) : DE := fun env q _ => u env (fun ds => ds.length = ks.length ∧ tk env (fun d => match d with
  | .str k => match (ks.zip ds).lookup k with
    | some z => q z
    | none => False
  | _ => False) (fun _ => False)) (fun _ => False)
theorem lookup_rep {B : Tb} {H : Hp} : ∀ {ks : List Str} {ds : List D} {vs : List V} {k : Str} {z : D}, RepL B H ds vs → (ks.zip ds).lookup k = some z → ∃ v, valV ((ks.map (Sum.inr : Str → Key)).zip vs) (.inr k) = some v ∧ Rep B H z v
  | [], _, _, _, _, _, h => by simp at h
  | _ :: _, [], _, _, _, _, h => by simp at h
  | x :: ks, d :: ds, _, k, z, ⟨v, r, rfl, h1, h2⟩, h => by
    rw [List.zip_cons_cons, List.lookup_cons] at h
    by_cases e : k = x
    · subst e
      rw [beq_self_eq_true] at h
      cases h
      exact ⟨v, valV_pos (p := (Sum.inr k, v)) rfl, h1⟩
    · rw [beq_eq_false_iff_ne.mpr e] at h
      obtain ⟨v', a, b⟩ := lookup_rep h2 h
      refine ⟨v', ?_, b⟩
      rw [List.map_cons, List.zip_cons_cons, valV_neg (p := (Sum.inr x, v)) fun q => e (Sum.inr.inj q).symm]
      exact a
theorem xe_dict {i : Expr} {dpos : Pos} {keys : List (Option Expr)} {values : List Expr} {ks : List Str} {u : DA} {tk : DE} (hu : X.A.units + 64 < cLine) (h : XP X Λ dpos keys values ks u) (hi : XE X Λ w0 i tk) (hs : NoSl i := by exact fun _ _ => rfl) (hall : keys.all (·.isSome) = true := by rfl) (hl : keys.length = values.length := by rfl)
    (h0 : keys ≠ [] := by simp) (h15 : keys.length ≤ 15 := by decide) (hk : ks.length ≤ 15 := by decide) (hn : ks.Nodup := by decide +kernel) : XE X Λ w (.Subscript (.Dict keys values dpos) i pos) (dDict ks u tk) := ⟨fun hK => by
  obtain ⟨trs, pp, sp⟩ := h.ex hK
  obtain ⟨r', p', s'⟩ := hi.ex hK
  refine ⟨_, pe_dget (by omega) (pe_disp pp hall hl h0 h15) p' hs, fun env W σ H Q q x S hx hh kk p hp => ?_⟩
  obtain ⟨n0, hn0⟩ := S.wf
  let n := n0 + env.length
  have hnW0 : W n = none := hn0 n (by omega)
  have hE : env.length ≤ n := by omega
  have up1 : Same H (upd H p (.dK [])) := same_new hp
  obtain ⟨S2, v1, _⟩ := S.hide (S.grow up1) (.of up1) (i := n) (p := p) hp (by rw [upd_same]; simp) (.inl ⟨hE, hnW0⟩)
  have en : env.set n .un = env := List.set_eq_of_length_le hE
  rw [en] at S2
  have hnW : ∀ j, j ≠ n → W j = wput W n (some p) j := fun j hj => (wput_ne hj).symm
  have hW2 : wput W n (some p) n = some p := wput_same rfl
  have sub : ∀ j p', W j = some p' → wput W n (some p) j = some p' := fun j p' e => by
    by_cases z : j = n
    · rw [z, hnW0] at e; cases e
    · rw [wput_ne z]; exact e
  generalize wput W n (some p) = W2 at *
  have nm : ¬ Λ.M p := fun z => S.mx _ z hp
  refine sp env W2 σ _ _ _ S2 hh fun ds vs H2 h2 S2' e2 r2 => ?_
  obtain ⟨hlen, h2⟩ := h2
  have hd2 := e2.own n p _ hW2 upd_same
  have lvs : vs.length = ks.length := by rw [r2.len, hlen]
  refine ⟨hd2, (ks.map (Sum.inr : Str → Key)).zip vs, ?_, by simp; omega, ?_⟩
  · rw [List.zip_map_left, List.zip_map_left, List.map_map]
    rfl
  have S3 := S2'.mutV (o := .dK (mergeK [] ((ks.map (Sum.inr : Str → Key)).zip vs))) hW2 hE nm
  have v3 : Same (Λ.vis W2 H2) (Λ.vis W2 (upd H2 p (.dK (mergeK [] ((ks.map (Sum.inr : Str → Key)).zip vs))))) := hid_grow fun b u g hb2 => ⟨g, by rw [upd_ne (show b ≠ p from fun z => g (.inr (.inr ⟨n, by rw [z]; exact hW2⟩)))]; exact hb2⟩
  refine s' env W2 σ _ _ _ _ S3 (fun _ _ _ _ z => z.elim) h2 fun d v H4 h4 S4 e4 r4 => ?_
  have hd4 := e4.own n p _ hW2 upd_same
  cases d <;> first | exact h4.elim | skip
  rename_i kx
  cases r4
  have h4 : (match (ks.zip ds).lookup kx with
    | some z => q z
    | none => False) := h4
  cases hz : (ks.zip ds).lookup kx with
  | none => rw [hz] at h4; exact h4.elim
  | some z =>
    rw [hz] at h4
    obtain ⟨v, hv, rv⟩ := lookup_rep r2 hz
    have gsub : ∀ b, Λ.G W b → Λ.G W2 b := fun b g => by
      rcases g with z | z | ⟨j, z⟩
      · exact .inl z
      · exact .inr (.inl z)
      · exact .inr (.inr ⟨j, sub j b z⟩)
    have v6 : Same (Λ.vis W2 H4) (Λ.vis W H4) := hid_anti gsub
    have knd : (((ks.map (Sum.inr : Str → Key)).zip vs).map (·.1)).Nodup := by
      rw [← List.unzip_fst, List.unzip_zip (by rw [List.length_map, lvs])]
      exact List.Pairwise.map _ (fun a b hab z => hab (Sum.inr.inj z)) hn
    refine ⟨p, v, rfl, ?_, kk z v H4 h4 (S4.show_ hE hnW hnW0) ⟨?_, ?_, ?_⟩ (rv.up ((v3.trans e4.vis).trans v6))⟩
    · have g := DGet.k (k := Sum.inr kx) hd4
      have e : valV (mergeK [] ((ks.map (Sum.inr : Str → Key)).zip vs)) (.inr kx) = some v := by
        unfold mergeK
        rw [valV_merge _ _ _ knd, hv]
        rfl
      rw [e] at g
      exact g
    · exact (((v1.trans e2.vis).trans v3).trans e4.vis).trans v6
    · intro j p' o hj ho
      have np : p' ≠ p := ne_of_none ho hp
      refine e4.own j p' o (sub j p' hj) ?_
      rw [upd_ne np]
      exact e2.own j p' o (sub j p' hj) (up1 _ _ ho)
    · intro b hb
      have np : b ≠ p := fun z => hb (by rw [z]; exact hp)
      refine e4.all b ?_
      rw [upd_ne np]
      exact e2.all b (some_mono up1 hb)⟩
/-! ### sorted(l), l a list of ints -/
def sortedD : List D → (List D → Prop) → (DX → Prop) → Prop := fun ds q _ => match ds with
  | [d] => ∃ ns : List Int, d = .lst (ns.map .int) ∧ ∀ ks : List Int, ks.Perm ns → ks.Pairwise (· ≤ ·) → q (ks.map .int)
  | _ => False
theorem snd_sorted : SndCL Λ w (rSortedI Λ.B.K) sortedD := fun env W σ H ds vs Q q x S hx r h k => by
  unfold sortedD at h
  split at h
  · obtain ⟨ns, rfl, h⟩ := h
    obtain ⟨v, rfl, r1⟩ := r.one_inv
    obtain ⟨l, vs, rfl, h4, r4⟩ := rep_lst r1
    cases r4.ints
    exact ⟨l, ns, rfl, sqL_of h4, fun ks p h1 h2 hp => finL S (RepL.of_ints) (h ks h1 h2) k p hp⟩
  · exact h.elim
theorem hc_sorted : X.K = Λ.B.K → CallR X (.builtin "sorted") (rSortedI Λ.B.K) := fun hK => hK ▸ cr_sortedI
/-! ### defs that call themselves -/
theorem xss_never : ∀ sts : List Stmt, sts ≠ [] → XSs X Λ w sts dNever
  | [], h => (h rfl).elim
  | [st], _ => xss_one xs_never
  | st :: s2 :: sts, _ => by
    have h := xss_cons (X := X) (Λ := Λ) (w := w) (st := st) xs_never (xss_never (s2 :: sts) (by simp))
    refine ⟨fun hK => ?_⟩
    obtain ⟨r, p, s⟩ := h.ex hK
    exact ⟨r, p, fun env W σ H E e S L z => s env W σ H E e S L z⟩
end
end Eb

/-! ## own layer: loops and comprehensions without a heap, by what they come to -/
namespace Eb
open PySem PySem.Spec PyProof.Rows L2
section
variable {g : DG} {b : DS} {e : DEnds} {env : List Sl} {α : Type}
/-- a for, by a word over the turns -/
theorem loop_by (P : Nat → List Sl → Prop) : ∀ (ds : List D) (i : Nat) (env : List Sl), P i env →
    (∀ k d env (N : List Sl → Prop), ds[k]? = some d → P (i + k) env → (∀ env', P (i + k + 1) env' → N env') → g d env fun env' => b env' { e with nx := N, ct := N, bk := e.nx }) → (∀ env, P (i + ds.length) env → e.nx env) → loopD g b e ds env
  | [], i, env, h0, _, hd => hd env h0
  | d :: ds, i, env, h0, hs, hd => by
    unfold loopD
    refine hs 0 d env (loopD g b e ds) rfl h0 fun env' h1 => ?_
    refine loop_by P ds (i + 1) env' h1 (fun k d' env2 N hk hp hN => ?_) fun env2 hp => hd env2 ?_
    · have e1 : i + 1 + k = i + (k + 1) := by omega
      rw [e1] at hp hN
      exact hs (k + 1) d' env2 N (by simpa using hk) hp hN
    · have e1 : i + 1 + ds.length = i + (d :: ds).length := by simp; omega
      rw [e1] at hp
      exact hp
/-- .. over xs.map φ: the word over the part gone -/
theorem loop_pre {φ : α → D} (P : List α → List Sl → Prop) (all : List α) : ∀ (xs pre : List α) (env : List Sl), all = pre ++ xs → P pre env →
    (∀ pre x suf env (N : List Sl → Prop), all = pre ++ x :: suf → P pre env → (∀ env', P (pre ++ [x]) env' → N env') → g (φ x) env fun env' => b env' { e with nx := N, ct := N, bk := e.nx }) → (∀ env, P all env → e.nx env) → loopD g b e (xs.map φ) env
  | [], pre, env, ha, h0, _, hd => hd env (by rw [ha, List.append_nil]; exact h0)
  | x :: xs, pre, env, ha, h0, hs, hd => by
    rw [List.map_cons]
    unfold loopD
    refine hs pre x xs env (loopD g b e (xs.map φ)) ha h0 fun env' h1 => ?_
    exact loop_pre P all xs (pre ++ [x]) env' (by rw [ha]; simp) h1 hs hd
theorem loop_map {φ : α → D} (P : List α → List Sl → Prop) (xs : List α) (h0 : P [] env)
    (hs : ∀ pre x suf env (N : List Sl → Prop), xs = pre ++ x :: suf → P pre env → (∀ env', P (pre ++ [x]) env' → N env') → g (φ x) env fun env' => b env' { e with nx := N, ct := N, bk := e.nx }) (hd : ∀ env, P xs env → e.nx env) : loopD g b e (xs.map φ) env := loop_pre P xs xs [] env rfl h0 hs hd
/-- .. over range(lo, lo + n) -/
theorem loop_range (P : Nat → List Sl → Prop) {lo : Int} {n : Nat} (h0 : P 0 env) (hs : ∀ k env (N : List Sl → Prop), k < n → P k env → (∀ env', P (k + 1) env' → N env') → g (.int (lo + (k : Int))) env fun env' => b env' { e with nx := N, ct := N, bk := e.nx })
    (hd : ∀ env, P n env → e.nx env) : loopD g b e (rgD lo n) env := by
  refine loop_by P (rgD lo n) 0 env h0 (fun k d env N hk hp hN => ?_) fun env hp => hd env (by rw [rgD_len, Nat.zero_add] at hp; exact hp)
  rw [Nat.zero_add] at hp hN
  have hk' : k < n := by
    have := (List.getElem?_eq_some_iff.mp hk).1
    rwa [rgD_len] at this
  simp only [rgD, List.getElem?_map, List.getElem?_range hk', Option.map_some, Option.some.injEq] at hk
  subst hk
  exact hs k env N hk' hp hN
end
/-! the same with the ends kept shut -/
section
variable {g : DG} {b : DS} {e : DEnds} {env : List Sl} {α : Type}
theorem for_map {φ : α → D} (P : List α → List Sl → Prop) (xs : List α) (h0 : P [] env)
    (hs : ∀ pre x suf env (e' : DEnds), xs = pre ++ x :: suf → P pre env → e'.rt = e.rt → e'.bk = e.nx → e'.ex = e.ex → e'.ct = e'.nx → (∀ env', P (pre ++ [x]) env' → e'.nx env') → g (φ x) env fun env' => b env' e') (hd : ∀ env, P xs env → e.nx env) : loopD g b e (xs.map φ) env :=
  loop_map P xs h0 (fun pre x suf env N hx hp hN => hs pre x suf env { e with nx := N, ct := N, bk := e.nx } hx hp rfl rfl rfl rfl hN) hd
theorem for_range (P : Nat → List Sl → Prop) {lo : Int} {n : Nat} (h0 : P 0 env) (hs : ∀ k env (e' : DEnds), k < n → P k env → e'.rt = e.rt → e'.bk = e.nx → e'.ex = e.ex → e'.ct = e'.nx → (∀ env', P (k + 1) env' → e'.nx env') → g (.int (lo + (k : Int))) env fun env' => b env' e')
    (hd : ∀ env, P n env → e.nx env) : loopD g b e (rgD lo n) env :=
  loop_range P h0 (fun k env N hx hp hN => hs k env { e with nx := N, ct := N, bk := e.nx } hx hp rfl rfl rfl rfl hN) hd
theorem for_by (P : Nat → List Sl → Prop) (ds : List D) (h0 : P 0 env)
    (hs : ∀ k d env (e' : DEnds), ds[k]? = some d → P k env → e'.rt = e.rt → e'.bk = e.nx → e'.ex = e.ex → e'.ct = e'.nx → (∀ env', P (k + 1) env' → e'.nx env') → g d env fun env' => b env' e') (hd : ∀ env, P ds.length env → e.nx env) : loopD g b e ds env :=
  loop_by P ds 0 env h0 (fun k d env N hx hp hN => by
    rw [Nat.zero_add] at hp hN
    exact hs k d env { e with nx := N, ct := N, bk := e.nx } hx hp rfl rfl rfl rfl hN) fun env h => hd env (by rw [Nat.zero_add] at h; exact h)
end
section
variable {g : DG} {t : DT} {u : DE} {env : List Sl} {q : List D → Prop} {α : Type}
/-- a comprehension: those that p lets by, by f -/
theorem lc_filter {φ : α → D} (p : α → Bool) (f : α → D) : ∀ (xs : List α) (acc : List D), (∀ x ∈ xs, ∀ (k : D → Prop) (n : Prop), (p x = true → k (f x)) → (p x = false → n) → g (φ x) env fun env' => t env' (fun b => iteB b (u env' k (fun _ => False)) n) (fun _ => False)) →
    acc.length + xs.length ≤ 100000 → q (acc ++ (xs.filter p).map f) → lcD g t u env q (xs.map φ) acc
  | [], acc, _, _, h => by
    unfold lcD
    simpa using h
  | x :: xs, acc, hs, hl, h => by
    rw [List.length_cons] at hl
    rw [List.map_cons]
    unfold lcD
    refine hs x (by simp) _ _ (fun hp => ?_) fun hp => ?_
    · refine ⟨by omega, lc_filter p f xs (acc ++ [f x]) (fun y hy => hs y (List.mem_cons_of_mem _ hy)) (by simp; omega) ?_⟩
      rw [List.filter_cons_of_pos hp, List.map_cons] at h
      simpa using h
    · refine lc_filter p f xs acc (fun y hy => hs y (List.mem_cons_of_mem _ hy)) (by omega) ?_
      rw [List.filter_cons_of_neg (by rw [hp]; exact Bool.false_ne_true)] at h
      exact h
/-- .. whatever comes, each with R -/
theorem lc_any {φ : α → D} (R : D → Prop) : ∀ (xs : List α) (acc : List D), (∀ x ∈ xs, ∀ (k : D → Prop) (n : Prop), (∀ d, R d → k d) → g (φ x) env fun env' => t env' (fun b => iteB b (u env' k (fun _ => False)) n) (fun _ => False)) →
    acc.length + xs.length ≤ 100000 → (∀ d ∈ acc, R d) → (∀ ds : List D, ds.length = acc.length + xs.length → (∀ d ∈ ds, R d) → q ds) → lcD g t u env q (xs.map φ) acc
  | [], acc, _, _, ha, h => by
    unfold lcD
    exact h acc (by simp) ha
  | x :: xs, acc, hs, hl, ha, h => by
    rw [List.length_cons] at hl h
    rw [List.map_cons]
    unfold lcD
    refine hs x (by simp) _ _ fun d hd => ⟨by omega, lc_any R xs (acc ++ [d]) (fun y hy => hs y (List.mem_cons_of_mem _ hy)) (by simp; omega) (fun e he => ?_) fun ds hds => h ds (by rw [hds]; simp; omega)⟩
    rcases List.mem_append.mp he with z | z
    · exact ha e z
    · rw [List.mem_singleton.mp z]; exact hd
/-- all of them, by f -/
theorem lc_map {φ : α → D} (f : α → D) (xs : List α) (hs : ∀ x ∈ xs, ∀ (k : D → Prop) (n : Prop), k (f x) → g (φ x) env fun env' => t env' (fun b => iteB b (u env' k (fun _ => False)) n) (fun _ => False)) (hl : xs.length ≤ 100000) (h : q (xs.map f)) : lcD g t u env q (xs.map φ) [] :=
  lc_filter (fun _ => true) f xs [] (fun x hx k n h1 _ => hs x hx k n (h1 rfl)) (by simpa using hl) (by rw [List.nil_append, List.filter_eq_self.mpr (by simp)]; exact h)
/-- .. over a range -/
theorem rgD_map (lo : Int) (n : Nat) : rgD lo n = (List.range n).map fun (i : Nat) => D.int (lo + (i : Int)) := rfl
/-- a while, by a word and a measure -/
theorem while_d {c : DT} {b : DS} {e : DEnds} {env : List Sl} (P : Nat → List Sl → Prop) (m : Nat) (h0 : P m env) (hs : ∀ m env, P m env → c env (fun k => iteB k (b env { e with nx := fun env' => ∃ m', m' < m ∧ P m' env', ct := fun env' => ∃ m', m' < m ∧ P m' env', bk := e.nx }) (e.nx env)) (e.ex env)) : dWhile c b env e := ⟨P, ⟨m, h0⟩, hs⟩
end
/-- a test whose answer is known; a value that is known -/
theorem test_by {c : DT} {env : List Sl} {q : Bool → Prop} {x : DX → Prop} (b : Bool) (h : ∀ q' : Bool → Prop, q' b → c env q' x) (k : q b) : c env q x := h q k
theorem val_by {c : DE} {env : List Sl} {q : D → Prop} {x : DX → Prop} (d : D) (h : ∀ q' : D → Prop, q' d → c env q' x) (k : q d) : c env q x := h q k
/-- ways join behind a statement -/
theorem seq_by {t u : DS} {env : List Sl} {e : DEnds} (J : List Sl → Prop) (h : ∀ e' : DEnds, e'.rt = e.rt → e'.bk = e.bk → e'.ct = e.ct → e'.ex = e.ex → (∀ env', J env' → e'.nx env') → t env e') (k : ∀ env', J env' → u env' e) : dSeq t u env e :=
  h { e with nx := fun env' => u env' e } rfl rfl rfl rfl k
theorem seq2 {a b u : DS} {env : List Sl} {e : DEnds} (J : List Sl → Prop) (h : ∀ e' : DEnds, e'.rt = e.rt → e'.bk = e.bk → e'.ct = e.ct → e'.ex = e.ex → (∀ env', J env' → e'.nx env') → (dSeq a b) env e') (k : ∀ env', J env' → u env' e) : (dSeq a (dSeq b u)) env e := seq_by (t := dSeq a b) J h k
theorem seq3 {a b c u : DS} {env : List Sl} {e : DEnds} (J : List Sl → Prop) (h : ∀ e' : DEnds, e'.rt = e.rt → e'.bk = e.bk → e'.ct = e.ct → e'.ex = e.ex → (∀ env', J env' → e'.nx env') → (dSeq a (dSeq b c)) env e') (k : ∀ env', J env' → u env' e) : (dSeq a (dSeq b (dSeq c u))) env e := seq_by (t := dSeq a (dSeq b c)) J h k
theorem seq4 {a b c d u : DS} {env : List Sl} {e : DEnds} (J : List Sl → Prop) (h : ∀ e' : DEnds, e'.rt = e.rt → e'.bk = e.bk → e'.ct = e.ct → e'.ex = e.ex → (∀ env', J env' → e'.nx env') → (dSeq a (dSeq b (dSeq c d))) env e') (k : ∀ env', J env' → u env' e) : (dSeq a (dSeq b (dSeq c (dSeq d u)))) env e := seq_by (t := dSeq a (dSeq b (dSeq c d))) J h k
theorem seq5 {a b c d f u : DS} {env : List Sl} {e : DEnds} (J : List Sl → Prop) (h : ∀ e' : DEnds, e'.rt = e.rt → e'.bk = e.bk → e'.ct = e.ct → e'.ex = e.ex → (∀ env', J env' → e'.nx env') → (dSeq a (dSeq b (dSeq c (dSeq d f)))) env e') (k : ∀ env', J env' → u env' e) : (dSeq a (dSeq b (dSeq c (dSeq d (dSeq f u))))) env e := seq_by (t := dSeq a (dSeq b (dSeq c (dSeq d f)))) J h k
theorem seq6 {a b c d f g u : DS} {env : List Sl} {e : DEnds} (J : List Sl → Prop) (h : ∀ e' : DEnds, e'.rt = e.rt → e'.bk = e.bk → e'.ct = e.ct → e'.ex = e.ex → (∀ env', J env' → e'.nx env') → (dSeq a (dSeq b (dSeq c (dSeq d (dSeq f g))))) env e') (k : ∀ env', J env' → u env' e) : (dSeq a (dSeq b (dSeq c (dSeq d (dSeq f (dSeq g u)))))) env e := seq_by (t := dSeq a (dSeq b (dSeq c (dSeq d (dSeq f g))))) J h k
/-! ### integers as data -/
theorem atI_at {α : Type} {xs : List α} {k : Nat} {z : α} {i : Int} (hi : i = k) (h : xs[k]? = some z) : atI xs i = some z := by
  subst hi
  unfold atI ixN
  have hk := (List.getElem?_eq_some_iff.mp h).1
  rw [if_pos (by omega), if_pos (by omega)]
  exact h
theorem atI_end {α : Type} {xs : List α} {z : α} : atI (xs ++ [z]) (-1) = some z := by
  unfold atI ixN
  rw [if_neg (by omega), if_pos (by simp; omega)]
  show (xs ++ [z])[((-1 : Int) + ((xs ++ [z]).length : Nat)).toNat]? = some z
  have e : ((-1 : Int) + ((xs ++ [z]).length : Nat)).toNat = xs.length := by simp; omega
  rw [e]
  simp
theorem cut_take {α : Type} (zs : List α) (k : Nat) : cutL zs none (some (k : Int)) = zs.take k := by
  unfold cutL
  rw [HT.sIx_none, show HT.sIx zs.length zs.length (some (k : Int)) = min k zs.length from HT.sIx_nat _ _ k]
  rw [List.drop_zero, Nat.sub_zero]
  exact (List.take_eq_take_min ..).symm
theorem cut_drop {α : Type} (zs : List α) (k : Nat) : cutL zs (some (k : Int)) none = zs.drop k := by
  unfold cutL
  rw [HT.sIx_none, show HT.sIx zs.length 0 (some (k : Int)) = min k zs.length from HT.sIx_nat _ _ k]
  rw [List.take_of_length_le (by rw [List.length_drop]; omega)]
  by_cases c : k ≤ zs.length
  · rw [Nat.min_eq_left c]
  · rw [Nat.min_eq_right (by omega), List.drop_of_length_le (by omega), List.drop_of_length_le (by omega)]

theorem pys_ints : ∀ ns : List Int, D.pys (ns.map D.int) = some (ns.map PyData.int)
  | [] => by simp [D.pys]
  | n :: ns => by simp [D.pys, D.py, pys_ints ns]
theorem eqP_ints {q : Bool → Prop} {xs ys : List Int} (h : q (decide (xs = ys))) : eqP (.lst (xs.map .int)) (.lst (ys.map .int)) q := by
  unfold eqP
  exact ⟨.list (xs.map .int), .list (ys.map .int), by simp only [D.py, pys_ints], by simp only [D.py, pys_ints], shaped_list _, shaped_list _, by simp only [PyData.eqv, eqv_ints]; exact h⟩
theorem eqP_tints {q : Bool → Prop} {xs ys : List Int} (h : q (decide (xs = ys))) : eqP (.tup (xs.map .int)) (.tup (ys.map .int)) q := by
  unfold eqP
  exact ⟨.tuple (xs.map .int), .tuple (ys.map .int), by simp only [D.py, pys_ints], by simp only [D.py, pys_ints], shaped_tuple _, shaped_tuple _, by simp only [PyData.eqv, eqv_ints]; exact h⟩
theorem snoc {α : Type} (r : List α) : r = [] ∨ ∃ l z, r = l ++ [z] := by
  cases h : r.getLast? with
  | none => exact .inl (List.getLast?_eq_none_iff.mp h)
  | some z =>
    obtain ⟨l, rfl⟩ := List.getLast?_eq_some_iff.mp h
    exact .inr ⟨l, z, rfl⟩
theorem pys_ne (r : List Int) : D.pys (r.map D.int) ≠ none := by rw [pys_ints]; simp
theorem pys_sh (r : List Int) : ∀ x, D.pys (r.map D.int) = some x → SeqAt.shaped (PyData.list x) = true := fun x h => by
  rw [pys_ints] at h
  cases h
  exact shaped_list _
/-- (tuple of ints, int) == (tuple of ints, int) -/
theorem eqP_ti {q : Bool → Prop} {xs ys : List Int} {a b : Int} (h : q (decide ((xs, a) = (ys, b)))) : eqP (.tup [.tup (xs.map .int), .int a]) (.tup [.tup (ys.map .int), .int b]) q := by
  unfold eqP
  refine ⟨.tuple [.tuple (xs.map .int), .int a], .tuple [.tuple (ys.map .int), .int b], by simp only [D.py, D.pys, pys_ints], by simp only [D.py, D.pys, pys_ints], ?_, ?_, ?_⟩
  · unfold SeqAt.shaped
    simp [PyData.canLay0, PyData.canLayAll0, PyData.depth, PyData.depthAll, lay_ints, depth_ints]
  · unfold SeqAt.shaped
    simp [PyData.canLay0, PyData.canLayAll0, PyData.depth, PyData.depthAll, lay_ints, depth_ints]
  · have e : PyData.eqv (.tuple [.tuple (xs.map .int), .int a]) (.tuple [.tuple (ys.map .int), .int b]) = decide ((xs, a) = (ys, b)) := by
      simp only [PyData.eqv, PyData.eqvAll, eqv_ints]
      rw [Bool.eq_iff_iff]
      simp
    rw [e]
    exact h
theorem log_of {n : Int} (h : Sm n) : n.natAbs.log2 < 1920 := by
  unfold Sm at h
  by_cases c : n.natAbs = 0
  · rw [c]; decide
  · exact Nat.lt_trans ((Nat.log2_lt c).mpr h) (by decide)
theorem sm_abs {n : Int} (h : n.natAbs ≤ 10 ^ 250) : Sm n := by
  unfold Sm
  have : (10 : Nat) ^ 250 < 2 ^ 1900 := by decide +kernel
  omega
theorem sm500 {n : Int} (h : n.natAbs ≤ 10 ^ 500) : Sm n := by
  unfold Sm
  have : (10 : Nat) ^ 500 < 2 ^ 1900 := by decide +kernel
  omega
theorem sm_lil {n : Int} (h1 : -1000000000000 ≤ n) (h2 : n ≤ 1000000000000) : Sm n := by
  unfold Sm
  have : 10 ^ 12 < 2 ^ 1900 := by decide +kernel
  omega
end Eb

/-! ## plain mathematics: polynomials as lists of coefficients -/
namespace Eb
def hor : List Int → Int → Int
  | [], _ => 0
  | c :: cs, b => c + b * hor cs b
def trim (cs : List Int) : List Int := (cs.reverse.dropWhile (· == 0)).reverse
theorem trim_nil : trim [] = [] := rfl
theorem trim_zero (cs : List Int) : trim (cs ++ [0]) = trim cs := by
  unfold trim
  rw [List.reverse_append]
  rfl
theorem trim_keep (cs : List Int) {c : Int} (h : c ≠ 0) : trim (cs ++ [c]) = cs ++ [c] := by
  unfold trim
  rw [List.reverse_append]
  show (List.dropWhile _ (c :: cs.reverse)).reverse = _
  rw [List.dropWhile_cons_of_neg (by simpa using h)]
  simp
theorem snoc_cases (cs : List Int) : cs = [] ∨ ∃ l c, cs = l ++ [c] := by
  rcases List.eq_nil_or_concat cs with h | ⟨l, c, h⟩
  · exact .inl h
  · exact .inr ⟨l, c, by rw [h]; simp⟩
theorem trim_ind {P : List Int → Prop} (h0 : P []) (hz : ∀ l, P l → P (l ++ [0])) (hk : ∀ l c, c ≠ 0 → P (l ++ [c])) (cs : List Int) : P cs := by
  have : ∀ n (cs : List Int), cs.length = n → P cs := by
    intro n
    induction n with
    | zero => intro cs h; rw [List.length_eq_zero_iff.mp h]; exact h0
    | succ n ih =>
      intro cs h
      rcases snoc_cases cs with e | ⟨l, c, e⟩
      · rw [e] at h; cases h
      · subst e
        by_cases hc : c = 0
        · subst hc
          exact hz l (ih l (by simpa using h))
        · exact hk l c hc
  exact this _ cs rfl
theorem hor_snoc_zero (l : List Int) (b : Int) : hor (l ++ [0]) b = hor l b := by
  induction l with
  | nil => simp [hor]
  | cons c l ih => simp only [List.cons_append, hor, ih]
theorem hor_trim (cs : List Int) (b : Int) : hor (trim cs) b = hor cs b := by
  refine trim_ind (P := fun cs => hor (trim cs) b = hor cs b) rfl (fun l ih => ?_) (fun l c hc => ?_) cs
  · rw [trim_zero, ih, hor_snoc_zero]
  · rw [trim_keep l hc]
/-- no 0 at the end -/
def Trimmed (cs : List Int) : Prop := trim cs = cs
theorem trimmed_trim (cs : List Int) : Trimmed (trim cs) := by
  unfold Trimmed
  refine trim_ind (P := fun cs => trim (trim cs) = trim cs) rfl (fun l ih => ?_) (fun l c hc => ?_) cs
  · rw [trim_zero, ih]
  · rw [trim_keep l hc, trim_keep l hc]
theorem trim_len (cs : List Int) : (trim cs).length ≤ cs.length := by
  refine trim_ind (P := fun cs => (trim cs).length ≤ cs.length) (Nat.le_refl _) (fun l ih => ?_) (fun l c hc => ?_) cs
  · rw [trim_zero, List.length_append]; omega
  · rw [trim_keep l hc]; exact Nat.le_refl _
theorem trim_mem (cs : List Int) : ∀ z ∈ trim cs, z ∈ cs := by
  refine trim_ind (P := fun cs => ∀ z ∈ trim cs, z ∈ cs) (fun z h => h) (fun l ih => ?_) (fun l c hc => ?_) cs
  · rw [trim_zero]; exact fun z h => List.mem_append_left _ (ih z h)
  · rw [trim_keep l hc]; exact fun z h => h
theorem hor_map_mul (g : Int) (cs : List Int) (b : Int) : hor (cs.map (· * g)) b = hor cs b * g := by
  induction cs with
  | nil => simp [hor]
  | cons c cs ih => simp only [List.map_cons, hor, ih]; rw [Int.add_mul, Int.mul_assoc]
/-! greatest common divisors of a list -/
def gcdL (o : Int) (cs : List Int) : Int := cs.foldl (fun g c => ((Int.gcd g c : Nat) : Int)) o
theorem gcdL_append (o : Int) (cs ds : List Int) : gcdL o (cs ++ ds) = gcdL (gcdL o cs) ds := List.foldl_append
theorem gcdL_pos {o : Int} (h : 1 ≤ o) : ∀ cs : List Int, 1 ≤ gcdL o cs := by
  intro cs
  induction cs generalizing o with
  | nil => exact h
  | cons c cs ih =>
    refine ih (o := ((Int.gcd o c : Nat) : Int)) ?_
    have : 0 < Int.gcd o c := Int.gcd_pos_of_ne_zero_left c (by omega)
    omega
theorem gcdL_dvd_o (o : Int) (cs : List Int) : gcdL o cs ∣ o := by
  induction cs generalizing o with
  | nil => exact Int.dvd_refl _
  | cons c cs ih => exact Int.dvd_trans (ih (o := ((Int.gcd o c : Nat) : Int))) (Int.gcd_dvd_left ..)
theorem gcdL_dvd (o : Int) (cs : List Int) : ∀ c ∈ cs, gcdL o cs ∣ c := by
  induction cs generalizing o with
  | nil => intro c h; cases h
  | cons d cs ih =>
    intro c h
    rcases List.mem_cons.mp h with e | h
    · subst e
      exact Int.dvd_trans (gcdL_dvd_o _ cs) (Int.gcd_dvd_right ..)
    · exact ih (o := ((Int.gcd o d : Nat) : Int)) c h
theorem dvd_gcdL {d o : Int} {cs : List Int} (ho : d ∣ o) (hc : ∀ c ∈ cs, d ∣ c) : d ∣ gcdL o cs := by
  induction cs generalizing o with
  | nil => exact ho
  | cons c cs ih => exact ih (o := ((Int.gcd o c : Nat) : Int)) (Int.dvd_coe_gcd ho (hc c (by simp))) fun z hz => hc z (List.mem_cons_of_mem _ hz)
theorem gcdL_le {o : Int} (h : 1 ≤ o) (cs : List Int) : gcdL o cs ≤ o := Int.le_of_dvd (by omega) (gcdL_dvd_o o cs)
/-! lowest terms -/
def nrm (cs : List Int) (o : Int) : List Int × Int := ((trim cs).map (· / gcdL o (trim cs)), o / gcdL o (trim cs))
/-- in lowest terms -/
structure Low (t : List Int) (p : Int) : Prop where
  tr : Trimmed t
  pos : 1 ≤ p
  cop : gcdL p t = 1
theorem map_div_mul {g : Int} (hg : 1 ≤ g) {cs : List Int} (h : ∀ c ∈ cs, g ∣ c) : (cs.map (· / g)).map (· * g) = cs := by
  rw [List.map_map]
  refine (List.map_congr_left fun c hc => ?_).trans (List.map_id cs)
  show c / g * g = c
  exact Int.ediv_mul_cancel (h c hc)
theorem trimmed_of_map {g : Int} {t : List Int} (hg : g ≠ 0) (h : Trimmed (t.map (· * g))) : Trimmed t := by
  rcases snoc_cases t with e | ⟨l, c, e⟩
  · subst e; rfl
  · subst e
    by_cases hc : c = 0
    · subst hc
      unfold Trimmed at h
      rw [List.map_append] at h
      have e0 : List.map (· * g) [(0 : Int)] = [0] := by simp
      rw [e0, trim_zero] at h
      have := congrArg List.length h
      have h2 := trim_len (l.map (· * g))
      rw [List.length_append] at this
      simp at this h2
      omega
    · exact trim_keep l hc
theorem nrm_spec {cs : List Int} {o : Int} (h : 1 ≤ o) : ∃ g : Int, 1 ≤ g ∧ trim cs = (nrm cs o).1.map (· * g) ∧ o = (nrm cs o).2 * g ∧ g = gcdL o (trim cs) := by
  have hg := gcdL_pos h (trim cs)
  exact ⟨gcdL o (trim cs), hg, (map_div_mul hg (gcdL_dvd o _)).symm, (Int.ediv_mul_cancel (gcdL_dvd_o o _)).symm, rfl⟩
theorem nrm_low {cs : List Int} {o : Int} (h : 1 ≤ o) : Low (nrm cs o).1 (nrm cs o).2 := by
  obtain ⟨g, hg, e1, e2, e3⟩ := nrm_spec (cs := cs) h
  have hp : 1 ≤ (nrm cs o).2 := by
    have : 0 < (nrm cs o).2 * g := by omega
    have := Int.pos_of_mul_pos_left this (by omega) 
    omega
  refine ⟨trimmed_of_map (g := g) (by omega) (by rw [← e1]; exact trimmed_trim cs), hp, ?_⟩
  have hd1 : gcdL (nrm cs o).2 (nrm cs o).1 * g ∣ gcdL o (trim cs) := by
    refine dvd_gcdL ?_ fun c hc => ?_
    · have z : gcdL (nrm cs o).2 (nrm cs o).1 * g ∣ (nrm cs o).2 * g := Int.mul_dvd_mul (gcdL_dvd_o _ _) (Int.dvd_refl _)
      rwa [← e2] at z
    · rw [e1] at hc
      obtain ⟨z, hz, rfl⟩ := List.mem_map.mp hc
      exact Int.mul_dvd_mul (gcdL_dvd _ _ z hz) (Int.dvd_refl _)
  rw [← e3] at hd1
  have h1 := gcdL_pos hp (nrm cs o).1
  have h2 := Int.le_of_dvd (by omega) hd1
  have h3 : gcdL (nrm cs o).2 (nrm cs o).1 * g ≤ 1 * g := by omega
  have h4 := Int.le_of_mul_le_mul_right h3 (by omega)
  omega
theorem nrm_val {cs : List Int} {o : Int} (h : 1 ≤ o) (b : Int) : hor (nrm cs o).1 b * o = hor cs b * (nrm cs o).2 := by
  obtain ⟨g, hg, e1, e2, e3⟩ := nrm_spec (cs := cs) h
  have e4 : hor cs b = hor (nrm cs o).1 b * g := by rw [← hor_trim cs b, e1, hor_map_mul]
  rw [e4]
  generalize hor (nrm cs o).1 b = x at *
  generalize (nrm cs o).2 = y at *
  subst e2
  rw [Int.mul_assoc, Int.mul_comm y g]
/-! what is known of the values is known of the coefficients -/
theorem hor_big {cs : List Int} {N : Int} (h : ∀ b, N < b → hor cs b = 0) : ∀ c ∈ cs, c = 0 := by
  induction cs generalizing N with
  | nil => intro c h; cases h
  | cons c cs ih =>
    have hc : c = 0 := by
      have h1 := h (max N (c.natAbs : Int) + 1) (by omega)
      unfold hor at h1
      have hd : max N (c.natAbs : Int) + 1 ∣ c := by
        have : c = (max N (c.natAbs : Int) + 1) * (- hor cs (max N (c.natAbs : Int) + 1)) := by
          rw [Int.mul_neg]; omega
        exact ⟨_, this⟩
      by_cases hz : c = 0
      · exact hz
      · have h2 := Nat.le_of_dvd (Int.natAbs_pos.mpr hz) (Int.natAbs_dvd_natAbs.mpr hd)
        omega
    intro d hd
    rcases List.mem_cons.mp hd with e | hd
    · rw [e]; exact hc
    · refine ih (N := max N 0) (fun b hb => ?_) d hd
      have h1 := h b (by omega)
      unfold hor at h1
      rw [hc, Int.zero_add] at h1
      rcases Int.mul_eq_zero.mp h1 with z | z
      · omega
      · exact z
theorem hor_inj : ∀ {xs ys : List Int} {N : Int}, (∀ b, N < b → hor xs b = hor ys b) → trim xs = trim ys := by
  intro xs ys N h
  -- the longer one made the shorter one's length by zeros
  have pad : ∀ (l : List Int) (k : Nat), trim (l ++ List.replicate k 0) = trim l ∧ ∀ b, hor (l ++ List.replicate k 0) b = hor l b := by
    intro l k
    induction k with
    | zero => simp
    | succ k ih =>
      have e : l ++ List.replicate (k + 1) (0 : Int) = (l ++ List.replicate k 0) ++ [0] := by
        rw [List.replicate_succ', List.append_assoc]
      rw [e]
      exact ⟨by rw [trim_zero]; exact ih.1, fun b => by rw [hor_snoc_zero]; exact ih.2 b⟩
  have same : ∀ (xs ys : List Int) (N : Int), xs.length = ys.length → (∀ b, N < b → hor xs b = hor ys b) → xs = ys := by
    intro xs ys N hl hh
    have hz : ∀ c ∈ List.zipWith (· - ·) xs ys, c = 0 := by
      refine hor_big (N := N) fun b hb => ?_
      have : ∀ (xs ys : List Int), xs.length = ys.length → hor (List.zipWith (· - ·) xs ys) b = hor xs b - hor ys b := by
        intro xs
        induction xs with
        | nil => intro ys hl; cases ys <;> simp [hor] at *
        | cons x xs ih =>
          intro ys hl
          cases ys with
          | nil => simp at hl
          | cons y ys =>
            simp only [List.zipWith_cons_cons, hor, ih ys (by simpa using hl), Int.mul_sub]
            omega
      rw [this xs ys hl, hh b hb]
      omega
    refine List.ext_getElem hl fun i h1 h2 => ?_
    have : (List.zipWith (· - ·) xs ys)[i]'(by simp; omega) = 0 := hz _ (List.getElem_mem _)
    rw [List.getElem_zipWith] at this
    omega
  obtain ⟨a1, a2⟩ := pad xs ys.length
  obtain ⟨b1, b2⟩ := pad ys xs.length
  have := same (xs ++ List.replicate ys.length 0) (ys ++ List.replicate xs.length 0) N (by simp; omega) fun b hb => by rw [a2, b2, h b hb]
  rw [← a1, this, b1]
/-- equal values: equal lowest terms -/
theorem low_eq {s t : List Int} {p r : Int} (hs : Low s p) (ht : Low t r) {N : Int} (h : ∀ b, N < b → hor s b * r = hor t b * p) : s = t ∧ p = r := by
  have e1 : s.map (· * r) = t.map (· * p) := by
    have h2 := hor_inj (xs := s.map (· * r)) (ys := t.map (· * p)) (N := N) fun b hb => by rw [hor_map_mul, hor_map_mul]; exact h b hb
    have tm : ∀ (l : List Int) (z : Int), Trimmed l → z ≠ 0 → trim (l.map (· * z)) = l.map (· * z) := by
      intro l z hl hz
      rcases snoc_cases l with e | ⟨l', c, e⟩
      · subst e; rfl
      · subst e
        by_cases hc : c = 0
        · subst hc
          unfold Trimmed at hl
          rw [trim_zero] at hl
          have := congrArg List.length hl
          have h3 := trim_len l'
          rw [List.length_append] at this
          simp at this
          omega
        · rw [List.map_append]
          exact trim_keep _ (by simp [hc, hz])
    rw [tm s r hs.tr (by have := ht.pos; omega), tm t p ht.tr (by have := hs.pos; omega)] at h2
    exact h2
  have len : s.length = t.length := by
    have := congrArg List.length e1
    simpa using this
  have co : ∀ i (h1 : i < s.length) (h2 : i < t.length), s[i] * r = t[i] * p := fun i h1 h2 => by
    have : (s.map (· * r))[i]'(by simpa using h1) = (t.map (· * p))[i]'(by simpa using h2) := by simp only [e1]
    simpa using this
  -- p divides r, r divides p
  have key : ∀ (s t : List Int) (p r : Int), Low s p → 1 ≤ r → s.length = t.length → (∀ i (h1 : i < s.length) (h2 : i < t.length), s[i] * r = t[i] * p) → p ∣ r := by
    intro s t p r hs hr len co
    have d1 : p ∣ gcdL (p * r) (s.map (· * r)) := by
      refine dvd_gcdL ⟨r, rfl⟩ fun c hc => ?_
      obtain ⟨i, hi, e⟩ := List.getElem_of_mem hc
      have hi' : i < s.length := by simpa using hi
      rw [← e]
      simp only [List.getElem_map]
      rw [co i hi' (by omega)]
      exact ⟨t[i]'(by omega), Int.mul_comm ..⟩
    have e2 : ∀ (l : List Int) (o : Int), 1 ≤ o → gcdL (o * r) (l.map (· * r)) = gcdL o l * r := by
      intro l
      induction l with
      | nil => intro o _; rfl
      | cons c l ih =>
        intro o ho
        show gcdL ((Int.gcd (o * r) (c * r) : Nat) : Int) (l.map (· * r)) = gcdL ((Int.gcd o c : Nat) : Int) l * r
        have e3 : ((Int.gcd (o * r) (c * r) : Nat) : Int) = ((Int.gcd o c : Nat) : Int) * r := by
          rw [Int.gcd_mul_right]
          have : ((r.natAbs : Nat) : Int) = r := by omega
          rw [Int.natCast_mul, this]
        rw [e3]
        refine ih _ ?_
        have : 0 < Int.gcd o c := Int.gcd_pos_of_ne_zero_left c (by omega)
        omega
    rw [e2 s p hs.pos, hs.cop, Int.one_mul] at d1
    exact d1
  have d1 := key s t p r hs ht.pos len co
  have d2 := key t s r p ht hs.pos len.symm fun i h1 h2 => (co i h2 h1).symm
  have ep : p = r := Int.dvd_antisymm (by have := hs.pos; omega) (by have := ht.pos; omega) d1 d2
  refine ⟨List.ext_getElem len fun i h1 h2 => ?_, ep⟩
  have := co i h1 h2
  rw [ep] at this
  exact Int.eq_of_mul_eq_mul_right (by have := ht.pos; omega) this
/-- two ways to one polynomial -/
theorem nrm_eq {cs ds : List Int} {o p : Int} (ho : 1 ≤ o) (hp : 1 ≤ p) {N : Int} (h : ∀ b, N < b → hor cs b * p = hor ds b * o) : nrm cs o = nrm ds p := by
  have l1 := nrm_low (cs := cs) ho
  have l2 := nrm_low (cs := ds) hp
  obtain ⟨e1, e2⟩ := low_eq l1 l2 (N := N) fun b hb => by
    have v1 := nrm_val (cs := cs) ho b
    have v2 := nrm_val (cs := ds) hp b
    have v3 := h b hb
    have hop : o * p ≠ 0 := Int.mul_ne_zero (by omega) (by omega)
    refine Int.eq_of_mul_eq_mul_right hop ?_
    generalize hor (nrm cs o).1 b = A at *
    generalize hor (nrm ds p).1 b = B at *
    generalize (nrm cs o).2 = u at *
    generalize (nrm ds p).2 = v at *
    generalize hor cs b = x at *
    generalize hor ds b = y at *
    calc A * v * (o * p) = A * o * (p * v) := by rw [Int.mul_assoc, Int.mul_assoc]; congr 1; rw [← Int.mul_assoc, Int.mul_comm v o, Int.mul_assoc, Int.mul_comm v p]
      _ = x * u * (p * v) := by rw [v1]
      _ = x * p * (u * v) := by rw [Int.mul_assoc, Int.mul_assoc]; congr 1; rw [← Int.mul_assoc, Int.mul_comm u p, Int.mul_assoc]
      _ = y * o * (u * v) := by rw [v3]
      _ = y * v * (o * u) := by rw [Int.mul_assoc, Int.mul_assoc]; congr 1; rw [← Int.mul_assoc, Int.mul_comm (o * u) v, Int.mul_comm v]
      _ = B * p * (o * u) := by rw [v2]
      _ = B * u * (o * p) := by rw [Int.mul_assoc, Int.mul_assoc]; congr 1; rw [Int.mul_comm p, Int.mul_comm o u, Int.mul_assoc]
  exact Prod.ext e1 e2
theorem nrm_of_low {t : List Int} {p : Int} (h : Low t p) : nrm t p = (t, p) := by
  have l := nrm_low (cs := t) h.pos
  obtain ⟨e1, e2⟩ := low_eq l h (N := 0) fun b _ => nrm_val h.pos b
  exact Prod.ext e1 e2
/-! sizes -/
def Cap (M : Nat) (cs : List Int) : Prop := ∀ c ∈ cs, c.natAbs ≤ M
theorem Cap.mono {M N : Nat} {cs : List Int} (h : Cap M cs) (hn : M ≤ N) : Cap N cs := fun c hc => Nat.le_trans (h c hc) hn
theorem Cap.cons {M : Nat} {c : Int} {cs : List Int} (h : c.natAbs ≤ M) (h2 : Cap M cs) : Cap M (c :: cs) := fun z hz => by
  rcases List.mem_cons.mp hz with e | hz
  · rw [e]; exact h
  · exact h2 z hz
theorem Cap.nil {M : Nat} : Cap M [] := fun z hz => by cases hz
theorem hor_cap {M B : Nat} {cs : List Int} {b : Int} (h : Cap M cs) (hb : b.natAbs ≤ B) : (hor cs b).natAbs ≤ M * (B + 1) ^ cs.length := by
  induction cs with
  | nil => simp [hor]
  | cons c cs ih =>
    have h1 := ih fun z hz => h z (List.mem_cons_of_mem _ hz)
    have h2 := h c (by simp)
    unfold hor
    have h3 : (c + b * hor cs b).natAbs ≤ c.natAbs + b.natAbs * (hor cs b).natAbs := by
      have := Int.natAbs_add_le c (b * hor cs b)
      rw [Int.natAbs_mul] at this
      exact this
    have h4 : b.natAbs * (hor cs b).natAbs ≤ B * (M * (B + 1) ^ cs.length) := Nat.mul_le_mul hb h1
    have h5 : 1 ≤ (B + 1) ^ cs.length := Nat.one_le_pow _ _ (by omega)
    have h6 : M ≤ M * (B + 1) ^ cs.length := Nat.le_mul_of_pos_right _ (by omega)
    have h7 : M * (B + 1) ^ (c :: cs).length = M * (B + 1) ^ cs.length + B * (M * (B + 1) ^ cs.length) := by
      rw [List.length_cons, Nat.pow_succ, ← Nat.mul_assoc, Nat.mul_add, Nat.mul_one, Nat.mul_comm _ B]
      omega
    omega
theorem nrm_cap {M : Nat} {cs : List Int} {o : Int} (h : 1 ≤ o) (hc : Cap M cs) : Cap M (nrm cs o).1 := fun z hz => by
  obtain ⟨c, h1, rfl⟩ := List.mem_map.mp hz
  have := hc c (trim_mem cs c h1)
  have hg := gcdL_pos h (trim cs)
  generalize gcdL o (trim cs) = g at hg ⊢
  show (c / g).natAbs ≤ M
  have h2 : (c / g).natAbs ≤ c.natAbs := by
    have := Int.natAbs_ediv_le_natAbs c g
    omega
  omega
theorem nrm_len {cs : List Int} {o : Int} : (nrm cs o).1.length ≤ cs.length := by
  unfold nrm
  rw [List.length_map]
  exact trim_len cs
theorem nrm_over {cs : List Int} {o : Int} (h : 1 ≤ o) : (nrm cs o).2 ≤ o := by
  unfold nrm
  exact Int.ediv_le_self _ (by omega)
end Eb
namespace Eb
/-! sums and products -/
theorem hor_pad (l : List Int) (k : Nat) (b : Int) : hor (l ++ List.replicate k 0) b = hor l b := by
  induction k with
  | zero => simp
  | succ k ih => rw [List.replicate_succ', ← List.append_assoc, hor_snoc_zero, ih]
theorem hor_zip_add (b : Int) : ∀ (xs ys : List Int), xs.length = ys.length → hor (List.zipWith (· + ·) xs ys) b = hor xs b + hor ys b
  | [], [], _ => by simp [hor]
  | [], _ :: _, h => by simp at h
  | _ :: _, [], h => by simp at h
  | x :: xs, y :: ys, h => by
    simp only [List.zipWith_cons_cons, hor, hor_zip_add b xs ys (by simpa using h), Int.mul_add]
    omega
theorem hor_range_succ (n : Nat) (f : Nat → Int) (b : Int) : hor ((List.range (n + 1)).map f) b = f 0 + b * hor ((List.range n).map fun i => f (i + 1)) b := by
  rw [List.range_succ_eq_map, List.map_cons, List.map_map]
  rfl
theorem hor_range_add (n : Nat) (f g : Nat → Int) (b : Int) : hor ((List.range n).map fun i => f i + g i) b = hor ((List.range n).map f) b + hor ((List.range n).map g) b := by
  induction n generalizing f g with
  | zero => simp [hor]
  | succ n ih =>
    rw [hor_range_succ, hor_range_succ, hor_range_succ, ih, Int.mul_add]
    omega
theorem hor_range_zero (n : Nat) (b : Int) : hor ((List.range n).map fun _ => (0 : Int)) b = 0 := by
  induction n with
  | zero => rfl
  | succ n ih => rw [hor_range_succ, ih]; simp
theorem hor_range_mul (x : Int) (b : Int) : ∀ (ys : List Int) (n : Nat), ys.length ≤ n → hor ((List.range n).map fun i => x * ys.getD i 0) b = x * hor ys b
  | [], n, _ => by
    have e : (fun i => x * ([] : List Int).getD i 0) = fun _ => (0 : Int) := by
      funext i
      simp
    rw [e, hor_range_zero]
    simp [hor]
  | y :: ys, 0, h => by simp at h
  | y :: ys, n + 1, h => by
    rw [hor_range_succ]
    have e : (fun i => x * (y :: ys).getD (i + 1) 0) = fun i => x * ys.getD i 0 := by
      funext i
      simp
    rw [e, hor_range_mul x b ys n (by simpa using h)]
    simp only [List.getD_cons_zero, hor, Int.mul_add]
    rw [← Int.mul_assoc, ← Int.mul_assoc, Int.mul_comm b x]
def cvS (xs ys : List Int) (p : Nat) : Int := ((List.range xs.length).map fun a => if a ≤ p then xs.getD a 0 * ys.getD (p - a) 0 else 0).sum
theorem sum_zero {α : Type} (l : List α) (f : α → Int) (h : ∀ a ∈ l, f a = 0) : (l.map f).sum = 0 := by
  induction l with
  | nil => rfl
  | cons a l ih => rw [List.map_cons, List.sum_cons, h a (by simp), ih fun z hz => h z (List.mem_cons_of_mem _ hz)]; rfl
theorem hor_cv (b : Int) : ∀ (xs ys : List Int) (n : Nat), xs.length + ys.length ≤ n → hor ((List.range n).map (cvS xs ys)) b = hor xs b * hor ys b
  | [], ys, n, _ => by
    have e : cvS [] ys = fun _ => (0 : Int) := by
      funext i
      rfl
    rw [e, hor_range_zero]
    simp [hor]
  | x :: xs, ys, 0, h => by simp at h
  | x :: xs, ys, n + 1, h => by
    rw [List.length_cons] at h
    have s0 : cvS (x :: xs) ys 0 = x * ys.getD 0 0 := by
      unfold cvS
      rw [List.length_cons, List.range_succ_eq_map, List.map_cons, List.sum_cons, List.map_map, sum_zero]
      · simp
      · intro a _
        simp
    have s1 : ∀ p, cvS (x :: xs) ys (p + 1) = x * ys.getD (p + 1) 0 + cvS xs ys p := by
      intro p
      unfold cvS
      rw [List.length_cons, List.range_succ_eq_map, List.map_cons, List.sum_cons, List.map_map]
      congr 1
      congr 1
      refine List.map_congr_left fun a _ => ?_
      simp
    rw [hor_range_succ, s0]
    have e : (fun i => cvS (x :: xs) ys (i + 1)) = fun i => x * ys.getD (i + 1) 0 + cvS xs ys i := by
      funext i
      exact s1 i
    rw [e, hor_range_add, hor_cv b xs ys n (by omega), Int.mul_add, ← Int.add_assoc]
    have m := hor_range_mul x b ys (n + 1) (by omega)
    rw [hor_range_succ] at m
    rw [m]
    simp only [hor]
    rw [Int.add_mul, Int.mul_assoc]
theorem sum_filter {α : Type} (l : List α) (p : α → Bool) (f : α → Int) : ((l.filter p).map f).sum = (l.map fun a => if p a = true then f a else 0).sum := by
  induction l with
  | nil => rfl
  | cons a l ih =>
    cases h : p a with
    | true => rw [List.filter_cons_of_pos h, List.map_cons, List.map_cons, List.sum_cons, List.sum_cons, ih, h, if_pos rfl]
    | false => rw [List.filter_cons_of_neg (by rw [h]; exact Bool.false_ne_true), List.map_cons, List.sum_cons, ih, h, if_neg Bool.false_ne_true, Int.zero_add]
end Eb

/-! ## own layer: a polynomial with the base and k in the place of the base -/
namespace Eb
def shf (k : Int) (f : List Int) : List Int := List.zipWith (fun a b => k * a + b) (f ++ [0]) (0 :: f)
def addH (v : Int) : List Int → List Int
  | [] => []
  | c :: cs => (c + v) :: cs
def stp (k : Int) (f : List Int) (v : Int) : List Int := addH v (shf k f)
def mv (cs : List Int) (k : Int) : List Int := cs.reverse.foldl (stp k) []
theorem mv_cons (c : Int) (cs : List Int) (k : Int) : mv (c :: cs) k = stp k (mv cs k) c := by
  unfold mv
  rw [List.reverse_cons, List.foldl_append]
  rfl
theorem shf_len (k : Int) (f : List Int) : (shf k f).length = f.length + 1 := by
  unfold shf
  simp
theorem addH_len (v : Int) (f : List Int) : (addH v f).length = f.length := by cases f <;> rfl
theorem stp_len (k v : Int) (f : List Int) : (stp k f v).length = f.length + 1 := by
  unfold stp
  rw [addH_len, shf_len]
theorem mv_len (cs : List Int) (k : Int) : (mv cs k).length = cs.length := by
  induction cs with
  | nil => rfl
  | cons c cs ih => rw [mv_cons, stp_len, ih]; rfl
theorem zipw_mem {α β γ : Type} {g : α → β → γ} : ∀ {xs : List α} {ys : List β} {c : γ}, c ∈ List.zipWith g xs ys → ∃ x ∈ xs, ∃ y ∈ ys, c = g x y
  | [], _, c, h => by simp at h
  | _ :: _, [], c, h => by simp at h
  | x :: xs, y :: ys, c, h => by
    rw [List.zipWith_cons_cons] at h
    rcases List.mem_cons.mp h with rfl | h
    · exact ⟨x, List.mem_cons_self, y, List.mem_cons_self, rfl⟩
    · obtain ⟨x', h1, y', h2, e⟩ := zipw_mem h
      exact ⟨x', List.mem_cons_of_mem _ h1, y', List.mem_cons_of_mem _ h2, e⟩
theorem hor_zip2 (k b : Int) : ∀ (xs ys : List Int), xs.length = ys.length → hor (List.zipWith (fun a b => k * a + b) xs ys) b = k * hor xs b + hor ys b
  | [], [], _ => by simp [hor]
  | [], _ :: _, h => by simp at h
  | _ :: _, [], h => by simp at h
  | x :: xs, y :: ys, h => by
    simp only [List.zipWith_cons_cons, hor, hor_zip2 k b xs ys (by simpa using h)]
    generalize hor xs b = A
    generalize hor ys b = C
    rw [Int.mul_add, Int.mul_add, ← Int.mul_assoc, ← Int.mul_assoc, Int.mul_comm b k]
    omega
theorem hor_shf (k b : Int) (f : List Int) : hor (shf k f) b = (b + k) * hor f b := by
  unfold shf
  rw [hor_zip2 k b _ _ (by simp), hor_snoc_zero]
  simp only [hor]
  rw [Int.add_mul]
  omega
theorem hor_addH (v b : Int) : ∀ {f : List Int}, f ≠ [] → hor (addH v f) b = hor f b + v
  | [], h => absurd rfl h
  | c :: cs, _ => by
    simp only [addH, hor]
    omega
theorem hor_stp (k b v : Int) (f : List Int) : hor (stp k f v) b = (b + k) * hor f b + v := by
  unfold stp
  rw [hor_addH v b (fun e => by have := shf_len k f; rw [e] at this; simp at this), hor_shf]
theorem hor_mv (cs : List Int) (k b : Int) : hor (mv cs k) b = hor cs (b + k) := by
  induction cs with
  | nil => rfl
  | cons c cs ih =>
    rw [mv_cons, hor_stp, ih]
    simp only [hor]
    omega
theorem addH_mem {v : Int} {f : List Int} {c : Int} (h : c ∈ addH v f) : c ∈ f ∨ ∃ d ∈ f, c = d + v := by
  cases f with
  | nil => exact .inl h
  | cons d ds =>
    rcases List.mem_cons.mp h with rfl | h
    · exact .inr ⟨d, List.mem_cons_self, rfl⟩
    · exact .inl (List.mem_cons_of_mem _ h)
theorem shf_mem {k : Int} {f : List Int} {c : Int} (h : c ∈ shf k f) : ∃ x y, (x = 0 ∨ x ∈ f) ∧ (y = 0 ∨ y ∈ f) ∧ c = k * x + y := by
  obtain ⟨x, h1, y, h2, e⟩ := zipw_mem h
  refine ⟨x, y, ?_, ?_, e⟩
  · rcases List.mem_append.mp h1 with h1 | h1
    · exact .inr h1
    · exact .inl (List.mem_singleton.mp h1)
  · rcases List.mem_cons.mp h2 with h2 | h2
    · exact .inl h2
    · exact .inr h2
theorem cap_shf {k : Int} {f : List Int} {B C : Nat} (hf : Cap C f) (hk : k.natAbs ≤ B) : Cap ((B + 1) * C) (shf k f) := fun c hc => by
  obtain ⟨x, y, hx, hy, rfl⟩ := shf_mem hc
  have x1 : x.natAbs ≤ C := by
    rcases hx with rfl | hx
    · exact Nat.zero_le _
    · exact hf x hx
  have y1 : y.natAbs ≤ C := by
    rcases hy with rfl | hy
    · exact Nat.zero_le _
    · exact hf y hy
  have m : (k * x).natAbs ≤ B * C := by rw [Int.natAbs_mul]; exact Nat.mul_le_mul hk x1
  rw [Nat.add_mul]
  omega
theorem cap_stp {k v : Int} {f : List Int} {B C M : Nat} (hf : Cap C f) (hk : k.natAbs ≤ B) (hv : v.natAbs ≤ M) : Cap ((B + 1) * C + M) (stp k f v) := fun c hc => by
  rcases addH_mem hc with h | ⟨d, h, rfl⟩
  · exact Nat.le_trans (cap_shf hf hk c h) (Nat.le_add_right _ _)
  · have := cap_shf hf hk d h
    omega
theorem cap_mv {k : Int} {B M : Nat} (hk : k.natAbs ≤ B) : ∀ {cs : List Int}, Cap M cs → Cap (M * (B + 2) ^ cs.length) (mv cs k)
  | [], _ => fun c hc => by cases hc
  | c :: cs, h => by
    rw [mv_cons]
    refine (cap_stp (cap_mv hk (cs := cs) fun z hz => h z (List.mem_cons_of_mem _ hz)) hk (h c List.mem_cons_self)).mono ?_
    rw [List.length_cons, Nat.pow_succ]
    have p : 1 ≤ (B + 2) ^ cs.length := Nat.pos_of_ne_zero fun e => by simp at e
    generalize (B + 2) ^ cs.length = P at *
    have q : M ≤ M * P := Nat.le_mul_of_pos_right _ p
    have e : M * (P * (B + 2)) = (B + 1) * (M * P) + M * P := by
      rw [← Nat.mul_assoc, Nat.mul_comm (M * P), show B + 2 = B + 1 + 1 from rfl, Nat.add_mul (B + 1) 1, Nat.one_mul]
    omega
/-! none below 0 -/
def nn (l : List Int) : Prop := ∀ c ∈ l, 0 ≤ c
instance (l : List Int) : Decidable (nn l) := inferInstanceAs (Decidable (∀ c ∈ l, 0 ≤ c))
theorem nn_shf {k : Int} {f : List Int} (hk : 0 ≤ k) (h : nn f) : nn (shf k f) := fun c hc => by
  obtain ⟨x, y, hx, hy, rfl⟩ := shf_mem hc
  have x0 : 0 ≤ x := hx.elim (fun e => by omega) fun e => h x e
  have y0 : 0 ≤ y := hy.elim (fun e => by omega) fun e => h y e
  have := Int.mul_nonneg hk x0
  omega
theorem nn_stp {k v : Int} {f : List Int} (hk : 0 ≤ k) (h : nn f) (hv : 0 ≤ v) : nn (stp k f v) := fun c hc => by
  rcases addH_mem hc with h1 | ⟨d, h1, rfl⟩
  · exact nn_shf hk h c h1
  · have := nn_shf hk h d h1
    omega
theorem nn_mv {k : Int} (hk : 0 ≤ k) : ∀ {cs : List Int}, nn cs → nn (mv cs k)
  | [], _ => fun c hc => by cases hc
  | c :: cs, h => by
    rw [mv_cons]
    exact nn_stp hk (nn_mv hk fun z hz => h z (List.mem_cons_of_mem _ hz)) (h c List.mem_cons_self)
theorem nn_trim (l : List Int) : nn (trim l) ↔ nn l := by
  refine trim_ind (P := fun l => nn (trim l) ↔ nn l) Iff.rfl (fun l ih => ?_) (fun l c hc => ?_) l
  · rw [trim_zero, ih]
    constructor
    · intro h c hc
      rcases List.mem_append.mp hc with hc | hc
      · exact h c hc
      · rw [List.mem_singleton.mp hc]
        exact Int.le_refl 0
    · exact fun h c hc => h c (List.mem_append_left _ hc)
  · rw [trim_keep l hc]
theorem nn_nrm {l : List Int} {o : Int} (h : 1 ≤ o) : nn (nrm l o).1 ↔ nn l := by
  rw [← nn_trim l]
  obtain ⟨g, hg, e1, _⟩ := nrm_spec (cs := l) h
  rw [e1]
  constructor
  · intro hn c hc
    obtain ⟨d, hd, rfl⟩ := List.mem_map.mp hc
    exact Int.mul_nonneg (hn d hd) (by omega)
  · intro hn d hd
    have := hn _ (List.mem_map.mpr ⟨d, hd, rfl⟩)
    refine Int.not_lt.mp fun lt => ?_
    have := Int.mul_neg_of_neg_of_pos lt (show 0 < g by omega)
    omega
theorem nn_eq {a b : List Int} {o p : Int} (ho : 1 ≤ o) (hp : 1 ≤ p) (h : ∀ x, hor a x * p = hor b x * o) : nn a ↔ nn b := by
  rw [← nn_nrm (l := a) ho, ← nn_nrm (l := b) hp, nrm_eq ho hp (N := 0) fun x _ => h x]
theorem nn_up {cs : List Int} {k : Int} (h : nn (mv cs k)) : nn (mv cs (k + 1)) := by
  refine (nn_eq (o := 1) (p := 1) (by decide) (by decide) fun x => ?_).mp (nn_mv (k := 1) (by decide) h)
  rw [hor_mv, hor_mv, hor_mv, Int.add_assoc, Int.add_comm 1 k]
theorem nn_mono {cs : List Int} {k l : Int} (h : nn (mv cs k)) (hl : k ≤ l) : nn (mv cs l) := by
  have key : ∀ n : Nat, nn (mv cs (k + n)) := by
    intro n
    induction n with
    | zero => simpa using h
    | succ n ih =>
      have := nn_up ih
      rw [Int.add_assoc] at this
      exact this
  have e : l = k + ((l - k).toNat : Int) := by omega
  rw [e]
  exact key _
/-- from one more than the greatest on -/
theorem nn_far {M : Nat} {k : Int} (hk : (M : Int) + 1 ≤ k) {c : Int} (hc : 1 ≤ c) : ∀ {l : List Int}, Cap M l → nn (mv (l ++ [c]) k) ∧ ∃ h t, mv (l ++ [c]) k = h :: t ∧ 1 ≤ h
  | [], _ => by
    have e : mv ([] ++ [c]) k = [c] := by
      show stp k [] c = [c]
      simp [stp, shf, addH]
    rw [e]
    exact ⟨fun z hz => by rw [List.mem_singleton.mp hz]; omega, c, [], rfl, hc⟩
  | v :: l, hl => by
    obtain ⟨hn, h, t, e, h1⟩ := nn_far hk hc (l := l) fun z hz => hl z (List.mem_cons_of_mem _ hz)
    have hv := hl v List.mem_cons_self
    rw [List.cons_append, mv_cons]
    have hs : nn (shf k (mv (l ++ [c]) k)) := nn_shf (by omega) hn
    rw [e] at hs ⊢
    have kh : k ≤ k * h := by
      have := Int.mul_le_mul_of_nonneg_left h1 (show 0 ≤ k by omega)
      omega
    have e2 : stp k (h :: t) v = (k * h + 0 + v) :: List.zipWith (fun a b => k * a + b) (t ++ [0]) (h :: t) := rfl
    rw [e2]
    refine ⟨fun z hz => ?_, _, _, rfl, by omega⟩
    rcases List.mem_cons.mp hz with rfl | hz
    · omega
    · exact hs z (List.mem_cons_of_mem _ hz)
end Eb

/-! ## own: set(l) of a list of ints (turned from the kit's tuple case), sorted(set(l)) -/
namespace Eb
open PySem PySem.Spec PyProof.Rows L2
set_option maxRecDepth 100000
abbrev So (w : World) : Obj := { cls := .type "set", dict := none, data := .set #[] 0 (.fresh 0 0 (!w.params.followText "set-order")) }
section
variable {P : Program} {w : World} {A : Around} {E : Value → Shared → Prop} {s : Shared}
theorem call_setL {l : Addr} {us : Array Value} (ns : List Int) {Q : Value → Shared → Prop} (hA : A.handled = none) (hL : s.heap.IsList l us) (hI : IntsAre us.toList ns) (hn : ns.length + 1 < scanBound)
    (fin : ∀ (h' : Heap) (tk c : Nat), SetR w h' s.heap.objs.size (fun j => decide (j ∈ ns)) c → c ≤ ns.length → (∀ b o, s.heap.get? b = some o → h'.get? b = some o) → Q (.ref s.heap.objs.size) { s with heap := h', toks := tk }) :
    wpAny (model P w) A (call (.type "set") [.ref l]) Q E s := by
  have sz : us.size = ns.length := by have := IntsAre.length hI; rwa [Array.length_toList] at this
  obtain ⟨c, tl, mro⟩ := F.called_set.mro
  have made := F.called_set.made
  have sub := F.called_set.sub
  refine wpAny_call (codeAny_of_tree (show wpAny _ _ (callAny (.type "set") _) _ _ _ from ?_))
  refine wpAny_pure ⟨Code.quiet_builtin _ (by decide +kernel), codeAny_builtin F.entry_type_call (?_ : wpAny _ _ _ _ _ _)⟩
  rw [Around.under_plain (weight_type_call_type "set" [.ref l] []) (by rfl)]
  have n1 := F.called_set.notType
  have n2 := F.called_set.canCreate
  have n3 := F.typeCall_set_1 (.ref l)
  repeat any_goals (first | assumption | wp_step)
  refine codeAny_mono (code_set_led1 (.ref l) (E := E) (Q₁ := fun ob t => ob = .ref s.heap.objs.size ∧ t = { s with heap := s.heap.push (So w) }) ⟨rfl, rfl⟩) fun r t hr => ?_
  cases r with
  | error e => exact hr
  | ok fl =>
    cases fl with
    | ret ob =>
      obtain ⟨rfl, rfl⟩ := hr
      have g0 : (s.heap.push (So w)).get? s.heap.objs.size = some (So w) := Heap.get?_push_size _ rfl
      have t0 : Shared.TypeIs { s with heap := s.heap.push (So w) } (.ref s.heap.objs.size) "set" := ⟨_, g0, rfl⟩
      have i1 := F.called_set.init.lookup
      have i2 := F.called_set.init.bind (.ref s.heap.objs.size)
      repeat any_goals (first | assumption | wp_step)
      refine codeAny_mono (codeAny_call_builtin (R := wants (fun r t => r = .none ∧ ∃ h' tk c, t = { s with heap := h', toks := tk } ∧ SetR w h' s.heap.objs.size (fun j => decide (j ∈ ns)) c ∧ c ≤ ns.length ∧ ∀ b o, s.heap.get? b = some o → h'.get? b = some o) E) F.called_set.init.plain F.entry_set_init (check_set_init_1 t0 ?_)) fun r2 t2 hr2 => ?_
      · obtain ⟨⟨lc, ld, lx, lz⟩, lo, e1, nl, e2⟩ := hL
        simp only at e1 e2
        subst e1
        subst e2
        have lo2 : (s.heap.push (So w)).get? l = some { cls := .type "list", dict := ld, data := .seq us nl, slots := lz } := Heap.get?_push_of_some _ lo
        have m1 := F.sub_list_set
        have m2 := F.sub_list_frozenset
        have m3 : (Value.type "list" == Value.type "dict") = false := rfl
        have L1 : (s.heap.push (So w)).IsList l us := ⟨_, lo2, rfl, nl, rfl⟩
        unfold Builtin.«set.__init__» Builtin.Frozenset.updateFrom noKeywords
        generalize ep : pyIter = PI
        wp_walk
        subst ep
        refine wpAny_pyIter_list L1 (wpAny_bind (wpAny_runValue ?_))
        have lS : l < s.heap.objs.size := Heap.lt_size lo
        have h3 : A.in1.in1.in1.handled = none := by simp [hA]
        have psz : (s.heap.push (So w)).objs.size = s.heap.objs.size + 1 := Heap.size_push ..
        have nI : l ≠ (s.heap.push (So w)).objs.size := by rw [psz]; exact Nat.ne_of_lt (Nat.lt_succ_of_lt lS)
        have nS : s.heap.objs.size ∉ [(s.heap.push (So w)).objs.size, l] := by
          rw [psz]
          simp only [List.mem_cons, List.not_mem_nil, or_false, not_or]
          exact ⟨Nat.ne_of_lt (Nat.lt_succ_self _), (Nat.ne_of_lt lS).symm⟩
        have vals : ∀ (i : Nat) (v : Value), us[i]? = some v → ∃ k t, ns[i]? = some k ∧ v = .int k t := fun i v hv => by
          have li : i < ns.length := by rw [← sz]; exact (Array.getElem?_eq_some_iff.mp hv).1
          obtain ⟨t, e⟩ := IntsAre.int_at hI i v (by rw [Array.getElem?_toList]; exact hv)
          refine ⟨ns[i], t, List.getElem?_eq_getElem li, e.trans ?_⟩
          rw [List.getD_eq_getElem?_getD, List.getElem?_eq_getElem li]
          rfl
        refine set_update_ints ((Walks.list h3 _ l nI us).toS) s.heap.objs.size nS ns sz hn vals (us.size - 0) 0 _ (by omega) (Nat.zero_le _) ⟨⟨_, Heap.get?_push_size _ rfl, rfl, rfl⟩, (L1.push _)⟩ ⟨0, Nat.le_refl 0, setR_new_at (Heap.get?_push_of_some _ g0)⟩ fun t c' mv lc' R' => ?_
        obtain ⟨h', g', d', tk', os'⟩ := t
        have q1 : g' = s.gens := mv.gens
        have q2 : d' = s.drawn := mv.drawn
        have q3 : os' = s.os := mv.os
        subst q1 q2 q3
        rw [sz] at lc'
        show wpAny _ _ _ _ _ _
        refine wpAny_pure (show wpAny _ _ (ret Value.none) _ _ _ from ?_)
        refine wpAny_pure ⟨rfl, h', tk', c', rfl, R', lc', fun b o e => ?_⟩
        have lb : b < s.heap.objs.size := Heap.lt_size e
        refine mv.heap b o ?_ (Heap.get?_push_of_some _ (Heap.get?_push_of_some _ e))
        rw [psz]
        simp only [List.mem_cons, List.not_mem_nil, or_false, not_or]
        exact ⟨Nat.ne_of_lt lb, Nat.ne_of_lt (Nat.lt_succ_of_lt lb)⟩
      · cases r2 with
        | error e => exact hr2
        | ok f2 =>
          cases f2 with
          | ret r =>
            obtain ⟨rfl, h', tk, c', rfl, R', lc', kp⟩ := hr2
            repeat any_goals (first | assumption | wp_step)
            exact fin h' tk c' R' lc' kp
          | _ => exact hr2.elim
    | _ => exact hr.elim
end
section
variable {X : Cx}
/-- sorted(set(l)): the unlike ones, ascending -/
def tSortSet (K : PySem.W.Frag) (ta : TE) : TE := fun σ H Q => ta σ H fun x H1 => ∃ (l : Addr) (ns : List Int), x = .ref l ∧ SqL K H1 l (ns.map V.int) ∧ ns.length < 60 ∧ ∀ (ks : List Int) (p : Addr), ks.Pairwise (· < ·) → (∀ z, z ∈ ks ↔ z ∈ ns) → H1 p = none → Q (.ref p) (upd H1 p (.lst (ks.map V.int)))
theorem pe_sortSet {a : Expr} {ta : TE} {p p2 q pos : Pos} (hg : Gl X "sorted") (hm : X.mg "sorted" = none) (hg2 : Gl X "set") (hm2 : X.mg "set" = none) (ha : PE X a ta) (hc : X.calm = true := by rfl)
    (na : starEach [a] X.env = (false, eval a X.env) :: starEach [] X.env := by rfl) : PE X (.Call (.Name "sorted" p) [.Call (.Name "set" p2) [a] [] q] [] pos) (tSortSet X.K ta) := by
  refine ⟨fun pins s σ H Q I h => Call_ (ld_blt I hg hm boot_sorted ?_)⟩
  refine PyProof.Rows.callWith_builtin1 (PyProof.Rows.args_cons (Call_ (ld_blt I hg2 hm2 boot_set ?_)) rfl) rfl rfl
  refine PyProof.Rows.callWith_type1 (PyProof.Rows.args_cons (thn (ha.run pins s σ H _ I h) fun v s1 hh => PyProof.Rows.args_nil ?_) na) na rfl
  obtain ⟨x, H1, I1, r1, l, ns, rfl, hq, hl, k⟩ := hh
  cases r1
  obtain ⟨its, r, pt, hz⟩ := I1.list hq
  refine call_setL ns (I1.ok.hd hc) pt.isList (by simpa using r.ints) (by unfold scanBound; omega) fun h' tk c R1 hcn keep => PyProof.Rows.args_nil ?_
  have I2 : Inv X pins σ H1 { s1 with heap := h', toks := tk } := I1.kept keep
  refine sorted_set R1 (I2.ok.hd hc) (by omega) fun s' p out c2 ks kp g o hp hgt hi hs hmm hlen => ?_
  have hlen2 : (ks.map V.int).length ≤ sizeLine := by rw [List.length_map, hlen, sizeLine_eq]; omega
  have hn : H1 p = none := I2.hok.fresh hp
  generalize hs2 : ({ s1 with heap := h', toks := tk } : Shared) = s2 at *
  have J : Inv X pins σ (upd H1 p (.lst (ks.map V.int))) { s2 with heap := s'.heap, gens := s'.gens, drawn := s'.drawn, toks := s'.toks } :=
    I2.call (ch := []) (Un.laid kp hp hn) (I2.hok.laid kp hp ⟨hlen2, out.toList, c2, vals_of_ints hi, hgt⟩) (by rw [g]; exact I2.bare) (fun _ z => nomatch z)
  have e : s' = { s2 with heap := s'.heap, gens := s'.gens, drawn := s'.drawn, toks := s'.toks } := by
    cases s'; cases s2; cases o; rfl
  rw [e]
  exact ⟨.ref p, _, J, rfl, k ks p hs (fun z => by rw [hmm z]; exact decide_eq_true_iff) hn⟩
end
end Eb

/-! ## own layer: sorted(set(l)) -/
namespace Eb
open PySem PySem.Spec PyProof.Rows L2 StX
section
variable {X : Cx} {Λ : Lx} {w : WX} {a : Expr} {ta : DE} {pos p p2 q : Pos}
/-- the unlike ones, ascending -/
def dSortSet (t : DE) : DA := fun env q x => t env (fun d => ∃ ns : List Int, d = .lst (ns.map .int) ∧ ns.length < 60 ∧ ∀ ks : List Int, ks.Pairwise (· < ·) → (∀ z, z ∈ ks ↔ z ∈ ns) → q (ks.map .int)) x
theorem xl_sortSet (hg : Gl X "sorted") (hm : X.mg "sorted" = none) (hg2 : Gl X "set") (hm2 : X.mg "set" = none) (ha : XE X Λ w a ta) (hc : X.calm = true := by rfl)
    (na : starEach [a] X.env = (false, eval a X.env) :: starEach [] X.env := by rfl) : XL X Λ w (.Call (.Name "sorted" p) [.Call (.Name "set" p2) [a] [] q] [] pos) (dSortSet ta) := ⟨fun hK => by
  obtain ⟨r, pp, s⟩ := ha.ex hK
  refine ⟨_, pe_sortSet hg hm hg2 hm2 pp hc na, fun env W σ H Q q x S hx h k => s env W σ H _ _ x S hx h fun d v H1 h1 S1 e1 r1 => ?_⟩
  obtain ⟨ns, rfl, hl, h1⟩ := h1
  obtain ⟨l, vs, rfl, h4, r4⟩ := rep_lst r1
  cases r4.ints
  rw [hK]
  refine ⟨l, ns, rfl, sqL_of h4, hl, fun ks p hs hz hp => ?_⟩
  refine k (ks.map .int) p (ks.map V.int) _ (h1 ks hs hz) (S1.grow (same_new hp)) (e1.trans (.of (same_new hp))) (e1.free hp) upd_same RepL.of_ints⟩
end
end Eb

/-! ## own: x != y of an own class that has __eq__ alone; the truth of an instance with __bool__ -/
namespace Eb
open PySem PySem.Spec PyProof.Rows L2
set_option maxRecDepth 100000
section
variable {P : Program} {w : World} {A : Around} {E : Value → Shared → Prop} {s : Shared} {K : PySem.W.Frag} {x C f : Addr} {ox : Obj} {od : Option Obj}
/-- a special of an instance that is a built-in slot -/
theorem ifBoundB {M : Model} {T : String} {name : Str} {id : String} {args : List Value} {Q : Option Value → Shared → Prop} (X : K.In s.heap) (I : PySem.W.InstAt s.heap x ox C od) (hs : PySem.W.findIn K (.ref C) name = some (some (.builtin id))) (S : Slot T name id)
    (h : wpAny M A (call (.builtin id) (.ref x :: args)) (fun v => Q (some v)) E s) : wpAny M A (callSpecialIfBound? (.ref x) name args) Q E s := by
  have done : wpAny M A (call (.builtin id) ([.ref x] ++ args) >>= fun v => pure (some v)) Q E s := wpAny_bind (wpAny_mono h (fun v t z => wpAny_pure z) fun _ _ z => z)
  simp only [bindSpecialIfBound?, callSpecialIfBound?]
  refine wpAny_holding (wpAny_bind (wpAny_bind (wpAny_bind (I.type.here ((PySem.W.looks_findIn X hs).here (show wpAny _ _ _ _ _ _ from ?_))))))
  simp only [S.bind]
  refine wpAny_bind (wpAny_askSetting (wpAny_ite ?_))
  split
  · exact wpAny_bind (wpAny_pure (wpAny_pure (by exact done)))
  · exact wpAny_tryCatch (wpAny_bind (wpAny_pure (wpAny_pure (by exact done))))
theorem check_ne {M : Model} {y : Value} {Q : Unit → Shared → Prop} (X : K.In s.heap) (I : PySem.W.InstAt s.heap x ox C od) (hc : PySem.W.subIn K (.ref C) (.type "object") = some true) (h : Q () s) : wpAny M A (checkBuiltinCall "object.__ne__" ⟨[.ref x, y], []⟩) Q E s := by
  simp only [checkBuiltinCall, F.cmpKind_ne, F.cmpSplit_ne]
  refine wpAny_bind ?_
  unfold isInstance
  refine wpAny_bind (I.type.here ((PySem.W.looks_subIn X hc).here ?_))
  have ok := F.cmpArgs_ne (.ref x) y
  unfold argsOk at ok
  simp only [Bool.not_true, Bool.false_eq_true, if_false]
  split
  · rename_i sig e
    rw [e] at ok
    exact wpAny_of_eq ok h
  · exact wpAny_pure h
/-- x != y where the class has __eq__ and no __ne__ -/
theorem ne_own {y : Addr} {ox2 : Obj} {od2 : Option Obj} {Q : Value → Shared → Prop} (hu : A.units + 1 < cLine) (X : K.In s.heap) (I : PySem.W.InstAt s.heap x ox C od) (J : PySem.W.InstAt s.heap y ox2 C od2) (hn : PySem.W.findIn K (.ref C) "__ne__" = some (some (.builtin "object.__ne__"))) (hc : PySem.W.subIn K (.ref C) (.type "object") = some true)
    (hs : PySem.W.findIn K (.ref C) "__eq__" = some (some (.ref f))) (hf : PySem.W.isFn K (.ref f) = true) (h : wpAny (model P w) A.in1 (call (.ref f) [.ref x, .ref y]) (fun v t => ∃ b, v = .bool b ∧ Q (.bool (!b)) t) E s) : wpAny (model P w) A (richCompare .NotEq (.ref x) (.ref y)) Q E s := by
  have one : wpAny (model P w) A (tryCompare (.ref x) "__ne__" (.ref y)) (fun r t => ∃ b, r = some (.bool b) ∧ Q (.bool b) t) E s := by
    simp only [tryCompare]
    refine wpAny_bind (ifBoundB X I hn PySem.F.cmp_object.ne (wpAny_call (codeAny_call_builtin PySem.F.cmp_object.ne.plain F.cmpEntry_ne (check_ne X I hc ?_))))
    unfold Builtin.«object.__ne__»
    have eqc : wpAny (model P w) A.in1 (callSpecialIfBound? (.ref x) (Str.ofString "__eq__") [.ref y]) (fun r t => ∃ b, r = some (.bool b) ∧ Q (.bool (!b)) t) E s :=
      PySem.W.ifBound_K X I hs hf (wpAny_mono h (fun v t z => by obtain ⟨b, rfl, q⟩ := z; exact ⟨b, rfl, q⟩) fun _ _ z => z)
    have hu1 : A.in1.units < cLine := by have : A.in1.units ≤ A.units + 1 := by simp [Around.in1]
                                         omega
    refine wpAny_bind (wpAny_of_eq (show slotArgs "__ne__" 1 ⟨[.ref x, .ref y], []⟩ = pure (.ref x, [.ref y]) from rfl) ?_)
    refine wpAny_bind (wpAny_cRoomFor hu1 (wpAny_bind (wpAny_mono eqc (fun r t z => ?_) fun _ _ z => z)))
    obtain ⟨b, rfl, q⟩ := z
    refine wpAny_bind (wpAny_truthy_bool (wpAny_pure ?_))
    exact wpAny_pure ⟨_, rfl, q⟩
  unfold richCompare
  simp only [oneThing_ref]
  refine wpAny_holding (wpAny_bind (wpAny_cRoomFor (Nat.lt_of_succ_lt hu) ?_))
  refine wpAny_bind (I.type.here (wpAny_bind (J.type.here ?_)))
  rw [cmpInfo_NotEq, show (Value.ref C != Value.ref C) = false from by simp]
  simp only [Bool.false_eq_true, if_false]
  refine wpAny_bind (wpAny_pure ?_)
  simp only [Bool.false_eq_true, if_false]
  refine wpAny_bind (wpAny_mono one (fun r t z => ?_) fun _ _ z => z)
  obtain ⟨b, rfl, q⟩ := z
  exact wpAny_pure q
/-- bool(x), by the truth of x -/
theorem bool_own {Q : Value → Shared → Prop} (h : wpAny (model P w) A.in1.in1 (truthy (.ref x)) (fun b t => Q (.bool b) t) E s) : wpAny (model P w) A (call (.type "bool") [.ref x]) Q E s := by
  refine callType_codes (T := "bool") (Bi := Builtin.«object.__init__») (Q₁ := fun r t => ∃ b, r = .bool b ∧ Q r t) PySem.F.called_bool (PySem.F.typeCall_bool_1 _) PySem.F.entry_object_init ?_ ?_
  · refine codeAny_of_tree ?_
    show wpAny _ A.in1.in1 (do checkBuiltinCall "bool.__new__" ⟨[.type "bool", .ref x], []⟩; again (.builtin "bool.__new__" ⟨[.type "bool", .ref x], []⟩)) _ _ s
    refine wpAny_bind (wpAny_of_eq (PySem.F.newCall_bool_1 _) (wpAny_pure ⟨plainId_quiet (by decide +kernel) _, codeAny_builtin PySem.F.entry_bool_new (?_ : wpAny _ _ _ _ _ _)⟩))
    rw [Around.under_plainId (by decide +kernel) _]
    have sub := PySem.F.conv_sub_bool
    have h2 : wpAny (model P w) A.in1.in1 (truthy (.ref x)) (fun b t => ∃ c, Value.bool b = .bool c ∧ Q (.bool b) t) E s := wpAny_mono h (fun b t z => ⟨b, rfl, z⟩) fun _ _ z => z
    unfold Builtin.«bool.__new__»
    generalize ht : truthy = TR at h2 ⊢
    repeat any_goals (first | assumption | wp_step)
    exact wpAny_mono h2 (fun b t z => wpAny_pure z) fun _ _ z => z
  · rintro obj t ⟨b, rfl, q⟩
    exact ⟨PySem.typeIs_bool _ _, PySem.F.args_object_init_2 _ _, object_init_meets PySem.F.called_bool.init.lookup PySem.F.called_bool.made (by decide) P w A.in1 _ t ⟨PySem.typeIs_bool _ _, rfl, q⟩⟩
end
end Eb

/-! ## own layer: x != y and the truth of own instances -/
namespace Eb
open PySem PySem.Spec PyProof.Rows L2 StX
section
variable {X : Cx} {CX : CXT} {n : Nat} {C g : Addr} {sp : Sp} {E : XK}
def rNe2 (C : Addr) (sp : Sp) (E : XK) : R2 := fun x y H Q => ∃ a b, x = .ref a ∧ y = .ref b ∧ InsO H a C ∧ InsO H b C ∧ sp [.ref a, .ref b] H (fun z H' => ∃ k, z = .bl k ∧ Q (.bl (!k)) H') E
/-- the class has __eq__ and object's own __ne__ -/
structure NeO (K : PySem.W.Frag) (C : Addr) : Prop where
  ne : PySem.W.findIn K (.ref C) "__ne__" = some (some (.builtin "object.__ne__"))
  ob : PySem.W.subIn K (.ref C) (.type "object") = some true
theorem op_ne2 (hn : NeO X.K C) (hs : PySem.W.findIn X.K (.ref C) "__eq__" = some (some (.ref g))) (hf : PySem.W.isFn X.K (.ref g) = true) (F : FnR X.prog X.w X.K X.mg X.base CX n g sp) (hr : Room (n + 1) X.A) (hx : Passes CX X E) : OpR X (compareOp .NotEq) (rNe2 C sp E) := by
  intro pins s σ H x y v u Q I rx ry h
  obtain ⟨a, b, rfl, rfl, ha, hb, q⟩ := h
  cases (show v = Value.ref a from rx)
  cases (show u = Value.ref b from ry)
  obtain ⟨ox, od, J⟩ := insO_at I ha
  obtain ⟨ox', od', J'⟩ := insO_at I hb
  have hu := hr.units
  refine ne_own (by omega) I.kIn J J' hn.ne hn.ob hs hf ?_
  refine wpAny_mono (wpAny_call (SlX.run_at (us := [.ref a, .ref b]) (ws := [.ref a, .ref b]) F hr.in1 I.env0.in1 hx I (.cons rfl (.cons rfl .nil)) q)) (fun w s' z => ?_) fun _ _ x => x
  obtain ⟨z', H', I', rz, k, ek, qz⟩ := z
  subst ek
  cases (show w = Value.bool k from rz)
  exact ⟨k, rfl, .bl (!k), H', I', rfl, qz⟩
/-- the truth of an instance, by its __bool__ -/
theorem tru_own (hs : PySem.W.findIn X.K (.ref C) "__bool__" = some (some (.ref g))) (hf : PySem.W.isFn X.K (.ref g) = true) (F : FnR X.prog X.w X.K X.mg X.base CX n g sp) (hr : Room n X.A) (hx : Passes CX X E) {pins : List (Addr × Obj)} {s : Shared} {σ : L2.St} {H : Hp} {a : Addr} {Q : Bool → Hp → Prop} (I : Inv X pins σ H s) (ha : InsO H a C)
    (q : sp [.ref a] H (fun z H' => ∃ k, z = .bl k ∧ Q k H') E) : wpAny (model X.prog X.w) X.A (truthy (.ref a)) (fun c s' => ∃ H', Inv X pins σ H' s' ∧ Q c H') X.xe s := by
  obtain ⟨ox, od, J⟩ := insO_at I ha
  obtain ⟨m, hF⟩ := I.fr
  refine PySem.W.truthy_K hF I.ok.mod.kin J hs hf ?_
  refine wpAny_mono (wpAny_call (run_fnR (us := [.ref a]) (vs := [.ref a]) F hr hx I (.cons rfl .nil) q)) (fun w s' z => ?_) fun _ _ x => x
  obtain ⟨z', H', I', rz, k, ek, qz⟩ := z
  subst ek
  cases (show w = Value.bool k from rz)
  exact ⟨H', I', qz⟩
def rTru (C : Addr) (sp : Sp) (E : XK) (x : V) (H : Hp) (Q : Bool → Hp → Prop) : Prop := ∃ a, x = .ref a ∧ InsO H a C ∧ sp [.ref a] H (fun z H' => ∃ k, z = .bl k ∧ Q k H') E
theorem pt_truO {a : Expr} {ta : TE} (hs : PySem.W.findIn X.K (.ref C) "__bool__" = some (some (.ref g))) (hf : PySem.W.isFn X.K (.ref g) = true) (F : FnR X.prog X.w X.K X.mg X.base CX n g sp) (hr : Room n X.A) (hx : Passes CX X E) (ha : PE X a ta)
    (he : ∀ whole, isTrue a X.env whole = (do let v ← whole; standAt a.pos; holding [v] (truthy v))) : PT X a (fun σ H Q => ta σ H fun x H' => rTru C sp E x H' Q) := by
  refine ⟨fun pins s σ H Q I h => ?_⟩
  refine isTrue_plain (thn (ha.run pins s σ H _ I h) fun v s1 ⟨x, H1, I1, r1, b, ex, hb, q⟩ => ?_) (he _)
  subst ex
  cases (show v = Value.ref b from r1)
  exact tru_own hs hf F hr hx I1 hb q
theorem pe_notO {a : Expr} {ta : TE} {pos : Pos} (hs : PySem.W.findIn X.K (.ref C) "__bool__" = some (some (.ref g))) (hf : PySem.W.isFn X.K (.ref g) = true) (F : FnR X.prog X.w X.K X.mg X.base CX n g sp) (hr : Room n X.A) (hx : Passes CX X E) (ha : PE X a ta) :
    PE X (.UnaryOp .Not a pos) (fun σ H Q => ta σ H fun x H' => rTru C sp E x H' (fun k H2 => Q (.bl (!k)) H2)) := by
  refine ⟨fun pins s σ H Q I h => ?_⟩
  refine UnaryOp_ (thn (ha.run pins s σ H _ I h) fun v s1 ⟨x, H1, I1, r1, b, ex, hb, q⟩ => ?_)
  subst ex
  cases (show v = Value.ref b from r1)
  exact not_of (thn (tru_own hs hf F hr hx I1 hb q) fun c s2 ⟨H2, I2, q2⟩ => ⟨.bl (!c), H2, I2, rfl, q2⟩)
/-- bool(x) of an own instance -/
def rBoolOwn (C : Addr) (sp : Sp) (E : XK) : List V → Hp → VK → Prop := fun xs H Q => ∃ a, xs = [V.ref a] ∧ InsO H a C ∧ sp [.ref a] H (fun z H' => ∃ k, z = .bl k ∧ Q (.bl k) H') E
theorem call_boolOwn (hs : PySem.W.findIn X.K (.ref C) "__bool__" = some (some (.ref g))) (hf : PySem.W.isFn X.K (.ref g) = true) (F : FnR X.prog X.w X.K X.mg X.base CX n g sp) (hr : Room (n + 2) X.A) (hx : Passes CX X E) : CallR X (.type "bool") (rBoolOwn C sp E) := by
  intro pins s σ H xs us Q I r h
  obtain ⟨a, rfl, hsl, q⟩ := h
  obtain ⟨u, rfl, ru⟩ := r.one
  cases (show u = Value.ref a from ru)
  obtain ⟨ox, od, J⟩ := insO_at I hsl
  obtain ⟨m, hF⟩ := I.fr
  have hr2 : Room n X.A.in1.in1 := (show Room (n + 1) X.A.in1 from Room.in1 hr).in1
  refine bool_own (PySem.W.truthy_K hF I.ok.mod.kin J hs hf ?_)
  refine wpAny_mono (wpAny_call (SlX.run_at (us := [.ref a]) (ws := [.ref a]) F hr2 I.env0.in1.in1 hx I (.cons rfl .nil) q)) (fun w s' z => ?_) fun _ _ x => x
  obtain ⟨z', H', I', rz, k, ek, qz⟩ := z
  subst ek
  cases (show w = Value.bool k from rz)
  exact ⟨.bl k, H', I', rfl, qz⟩
end
section
variable {X : Cx} {Λ : Lx} {w : WX} {a b : Expr} {ta tb t : DE} {pos : Pos} {k : Nat} {f : Addr} {fd : FuncData} {ps : List Str} {wp : DW}
def ne2D (c : Nat) (wp : DW) : D → D → DK := fun d e q _ => match d, e with
  | .obj c1 f1, .obj c2 f2 => c1 = c ∧ c2 = c ∧ wp [.obj c1 f1, .obj c2 f2] (fun z => match z with
    | .bl k => q (.bl (!k))
    | _ => False) (fun _ => False)
  | _, _ => False
theorem snd_ne2 {c : Nat} {E : XK} : SndR Λ w (rNe2 (Λ.B.C c) (spF0 Λ.B wp) E) (ne2D c wp) := fun env W σ H d e v u Q q x S hx r1 r2 h k => by
  cases d <;> cases e <;> first | exact h.elim | skip
  obtain ⟨rfl, rfl, h⟩ := h
  obtain ⟨a1, rfl, i1⟩ := rep_ins r1
  obtain ⟨a2, rfl, i2⟩ := rep_ins r2
  refine ⟨a1, a2, rfl, rfl, i1, i2, call0 S (RepL.cons r1 (RepL.cons r2 RepL.nil)) h fun d v H' hd S' ev rp => ?_⟩
  cases d <;> first | exact hd.elim | skip
  rename_i kk
  cases rp
  exact ⟨kk, rfl, k _ _ H' hd S' ev rfl⟩
def truO (c : Nat) (wp : DW) (d : D) (q : Bool → Prop) : Prop := match d with
  | .obj c1 f1 => c1 = c ∧ wp [.obj c1 f1] (fun z => match z with
    | .bl k => q k
    | _ => False) (fun _ => False)
  | _ => False
theorem snd_truO {c : Nat} {E : XK} {env : List Sl} {W : Ow} {σ : L2.St} {H : Hp} {d : D} {v : V} {q : Bool → Prop} {Q : Bool → Hp → Prop} (S : StOk Λ env W σ H) (r : Rep Λ.B (Λ.vis W H) d v) (h : truO c wp d q) (k : ∀ b H', q b → StOk Λ env W σ H' → Ev Λ W H H' → Q b H') : rTru (Λ.B.C c) (spF0 Λ.B wp) E v H Q := by
  cases d <;> first | exact h.elim | skip
  obtain ⟨rfl, h⟩ := h
  obtain ⟨a1, rfl, i1⟩ := rep_ins r
  refine ⟨a1, rfl, i1, call0 S (RepL.cons r RepL.nil) h fun d v H' hd S' ev rp => ?_⟩
  cases d <;> first | exact hd.elim | skip
  rename_i kk
  cases rp
  exact ⟨kk, rfl, k kk H' hd S' ev⟩
def dTruO (c : Nat) (wp : DW) (t : DE) : DT := fun env q x => t env (fun d => truO c wp d q) x
theorem xt_truO {c : Nat} (hs : PySem.W.findIn X.K (.ref (Λ.B.C c)) "__bool__" = some (some (.ref f))) (hf : PySem.W.isFn X.K (.ref f) = true) (F : FnR X.prog X.w X.K X.mg X.base CX0 k f (spF0 Λ.B wp)) (hr : Room k X.A) (ha : XE X Λ w a ta) (he : ∀ whole, isTrue a X.env whole = (do let v ← whole; standAt a.pos; holding [v] (truthy v))) : XT X Λ w a (dTruO c wp ta) := ⟨fun hK => by
  obtain ⟨ra, pa, sa⟩ := ha.ex hK
  refine ⟨_, pt_truO (E := E0) hs hf F hr pass0 pa he, fun env W σ H Q q x S hx h k => sa env W σ H _ _ x S hx h fun d v H1 h1 S1 e1 r1 => ?_⟩
  exact snd_truO S1 r1 h1 fun b H' hb S' ev => k b H' hb S' (e1.trans ev)⟩
def dNotO (c : Nat) (wp : DW) (t : DE) : DE := fun env q x => t env (fun d => truO c wp d fun k => q (.bl (!k))) x
theorem xe_notO {c : Nat} (hs : PySem.W.findIn X.K (.ref (Λ.B.C c)) "__bool__" = some (some (.ref f))) (hf : PySem.W.isFn X.K (.ref f) = true) (F : FnR X.prog X.w X.K X.mg X.base CX0 k f (spF0 Λ.B wp)) (hr : Room k X.A) (ha : XE X Λ w a ta) : XE X Λ w (.UnaryOp .Not a pos) (dNotO c wp ta) := ⟨fun hK => by
  obtain ⟨ra, pa, sa⟩ := ha.ex hK
  refine ⟨_, pe_notO (E := E0) hs hf F hr pass0 pa, fun env W σ H Q q x S hx h k => sa env W σ H _ _ x S hx h fun d v H1 h1 S1 e1 r1 => ?_⟩
  exact snd_truO S1 r1 h1 fun b H' hb S' ev => k (.bl (!b)) (.bl (!b)) H' hb S' (e1.trans ev) rfl⟩
def boolOD (c : Nat) (wp : DW) : List D → DK := fun ds q _ => match ds with
  | [d] => truO c wp d fun k => q (.bl k)
  | _ => False
theorem snd_boolO {cc : Nat} {E : XK} : SndC Λ w (rBoolOwn (Λ.B.C cc) (spF0 Λ.B wp) E) (boolOD cc wp) := fun env W σ H ds vs Q q x S hx r h k => by
  unfold boolOD at h
  split at h
  · obtain ⟨v, rfl, r1⟩ := r.one_inv
    obtain ⟨a, rfl, i1, z⟩ := snd_truO (E := E) (Q := fun b H' => Q (.bl b) H') S r1 h fun b H' hb S' ev => k (.bl b) (.bl b) H' hb S' ev rfl
    exact ⟨a, rfl, i1, z⟩
  · exact h.elim
end
end Eb

/-! ## repr of data: defs that are run where no repr is under way -/
namespace Eb
open PySem PySem.Spec PyProof.Rows L2
/-- no repr is under way around -/
def Grd (A : Around) : Prop := A.guards = some []
/-- a def's promise where no repr is under way -/
structure FnG (P : Program) (w : World) (K : PySem.W.Frag) (mg : Str → Option Value) (base : Heap) (CX : CXT) (k : Nat) (f : Addr) (fd : FuncData) (ps : List Str) (sp : Sp) : Prop where
  len : ∀ vs H Q E, sp vs H Q E → vs.length = ps.length
  go : ∀ (A : Around) (out : List Env) (s : Shared) (H : Hp) (args : Args) (us : List Value) (vs : List V) (Q : VK) (E : XK), Grd A → Room k A → Env0 P w K mg base A out s H → BindsTo s fd args (ps.zip us) →
    Vals vs us → sp vs H Q E → codeAny (model P w) A (.call (.ref f) args) (CR CX out P w H s Q E) s
theorem FnG.of {P : Program} {w : World} {K : PySem.W.Frag} {mg : Str → Option Value} {base : Heap} {CX : CXT} {k : Nat} {f : Addr} {fd : FuncData} {ps : List Str} {sp : Sp} (F : FnOk P w K mg base CX k f fd ps sp) : FnG P w K mg base CX k f fd ps sp :=
  ⟨F.len, fun A out s H args us vs Q E _ => F.run A out s H args us vs Q E⟩
section
variable {P : Program} {w : World} {K : PySem.W.Frag} {mg : Str → Option Value} {base : Heap} {CX : CXT}
/-- a def of the text, by its body, where no repr is under way -/
theorem fun_g {x qual : Str} {st : Stmt} {f : Addr} {fd : FuncData} {N ps : List Str} {k : Nat} {sp : Sp} (F : Fun K x qual st f fd) (S : FnScope N ps (defScope st)) (len : ∀ vs H Q E, sp vs H Q E → vs.length = ps.length)
    (body : ∀ (cdv : Value) (A : Around) (out : List Env) (s : Shared) (H : Hp) (vs : List V) (Q : VK) (E : XK), Grd A → Room k (A.deeper (envOfC qual (defScope st) s.heap.objs.size f cdv)) → sp vs H Q E →
      ∃ t, PSs (cxOf CX0 P w K mg base N qual (defScope st) f cdv A out s H E).nox (defBody st) t ∧ t { nx := fun _ H' => Q .non H', rt := Q } (start N vs) H) : FnG P w K mg base CX0 (k + 1) f fd ps sp := by
  obtain ⟨oc, od, kV, doc, pm, an, cdv, ct, osl, rfl, lk, hcd⟩ := F.ex
  refine ⟨len, fun A out s H args us vs Q E hg hr e0 hb rv hsp => ?_⟩
  have there : ∀ b o, base.get? b = some o → s.heap.get? b = some o := fun b o e => (e0.bs b o e).1
  have KX : K.In s.heap := e0.mod.kin.keeps there
  refine codeAny_call_function hr.depth (KX _ _ lk) rfl S.co S.gen rfl (PySem.W.codeRec_of KX hcd) (hb _ _ _ _ ?_)
  refine wpAny_newFunctionEnv_cells S.kind (fun y hy => (S.par y.1 (List.of_mem_zip hy).1).imp id fun q => ⟨q, PySem.W.cellsFrom_some _ _ _ (.inl q)⟩) fun env he s1 ic => ?_
  subst he
  refine ⟨(e0.mod.nolimit.keeps there).keeps ic.toInCall.keep, codeAny_func ?_⟩
  obtain ⟨t, ht, hq⟩ := body cdv A out s H vs Q E hg (hr.deeper _) hsp
  refine wpAny_mono (ht.nox.run [] s1 (start N vs) H _ (inv_start S hr.hd e0 (len _ _ _ _ hsp) rv ic) hq) (fun fl s' hs => ?_) fun _ _ z => z
  cases fl with
  | next =>
    obtain ⟨_, H', J, q⟩ := hs
    exact ⟨.non, H', J.os, J.bare, J.base, J.hok, rfl, q⟩
  | ret u =>
    obtain ⟨v, _, H', J, rv', q⟩ := hs
    exact ⟨v, H', J.os, J.bare, J.base, J.hok, rv', q⟩
  | brk =>
    obtain ⟨_, _, _, z⟩ := hs
    exact z.elim
  | cont =>
    obtain ⟨_, _, _, z⟩ := hs
    exact z.elim
end
section
variable {X : Cx}
/-- f(e, ..) of such a def -/
theorem pe_callG {CX : CXT} {k : Nat} {f : Addr} {fd : FuncData} {ps : List Str} {sp : Sp} {x : Str} {p pos : Pos} {e : Expr} {es : List Expr} {t : TA} {E : XK} (hG : Grd X.A) (F : FnG X.prog X.w X.K X.mg X.base CX k f fd ps sp) (hr : Room k X.A) (hg : Gl X x)
    (hm : X.mg x = some (.ref f)) (hk : PySem.W.keepIn X.K (.ref f) = true) (hb : Binds X.K fd ps []) (hx : Passes CX X E) (ha : PA X (e :: es) t) (hdb : (x == ("__debug__" : Str)) = false := by decide)
    (he : starEach (e :: es) X.env = (false, eval e X.env) :: starEach es X.env := by rfl) (hpl : (backTo pos (starEach es X.env)).any (·.1) = false := by rfl) :
    PE X (.Call (.Name x p) (e :: es) [] pos) (tCall sp [] E t) := by
  refine ⟨fun pins s σ H Q I h => wpAny_Call_Name_kw (ld_glob I hg hm ?_ hdb)⟩
  refine PySem.W.callWith_K (h₀ := X.base) I.ok.mod.kin hk (thn (ha.run pos pins s σ H _ I h) fun us s1 hh => ?_) he hpl
  obtain ⟨vs, H1, I1, rv, q⟩ := hh
  refine ⟨I1.kIn, ?_⟩
  rw [List.append_nil] at q
  have hl : us.length = ps.length := rv.length.symm.trans (F.len _ _ _ _ q)
  have bt := hb s1 us I1.kIn (by rw [List.append_nil]; exact hl)
  rw [List.append_nil] at bt
  refine wpAny_call (codeAny_mono (F.go X.A X.stack s1 H1 ⟨us, []⟩ us vs Q E hG hr I1.env0 bt rv q) fun r s' hq => ?_)
  cases r with
  | error e => exact hx pins σ H1 s1 e s' I1 hq
  | ok fl =>
    cases fl with
    | ret u => exact I1.after hq
    | next => exact hq.elim
    | brk => exact hq.elim
    | cont => exact hq.elim
/-- an upper bound of the text that repr gives -/
def bnd : PyData → Nat
  | .none => 8
  | .bool _ => 8
  | .int _ => 1921
  | .str x => (reprText x).length
  | .list xs => bndAll xs + 3
  | .tuple xs => bndAll xs + 3
  | .dict _ => 0
where bndAll : List PyData → Nat
  | [] => 0
  | x :: r => bnd x + 2 + bndAll r
def noDict : PyData → Bool
  | .none | .bool _ | .int _ | .str _ => true
  | .list xs => noDictAll xs
  | .tuple xs => noDictAll xs
  | .dict _ => false
where noDictAll : List PyData → Bool
  | [] => true
  | x :: r => noDict x && noDictAll r
mutual
theorem shown_bnd : ∀ d : PyData, d.showable = true → noDict d = true → d.shown.length ≤ bnd d
  | .none, _, _ => by simp only [PyData.shown, bnd]; decide
  | .bool b, _, _ => by cases b <;> simp only [PyData.shown, bnd] <;> decide
  | .int i, h, _ => by
    simp only [PyData.shown, bnd]
    exact PyProof.Rows.int_text_len_1921 (by simpa [PyData.showable] using h)
  | .str x, _, _ => by simp only [PyData.shown, bnd]; exact Nat.le_refl _
  | .list xs, h, g => by
    simp only [PyData.shown, bnd]
    have a := listText_len_le (PyData.shownAll xs)
    have b := shownAll_bnd xs (by simpa [PyData.showable] using h) (by simpa [noDict] using g)
    omega
  | .tuple xs, h, g => by
    simp only [PyData.shown, bnd]
    have a := tupleText_len_le (PyData.shownAll xs)
    have b := shownAll_bnd xs (by simpa [PyData.showable] using h) (by simpa [noDict] using g)
    omega
  | .dict _, _, g => by simp [noDict] at g
theorem shownAll_bnd : ∀ xs : List PyData, PyData.showableAll xs = true → noDict.noDictAll xs = true → ((PyData.shownAll xs).map (·.length)).sum + 2 * (PyData.shownAll xs).length ≤ bnd.bndAll xs
  | [], _, _ => by simp [PyData.shownAll, bnd.bndAll]
  | x :: r, h, g => by
    have h' : x.showable = true ∧ PyData.showableAll r = true := by simpa [PyData.showableAll] using h
    have g' : noDict x = true ∧ noDict.noDictAll r = true := by simpa [noDict.noDictAll] using g
    have a := shown_bnd x h'.1 g'.1
    have b := shownAll_bnd r h'.2 g'.2
    simp only [PyData.shownAll, bnd.bndAll, List.map_cons, List.sum_cons, List.length_cons]
    omega
end
mutual
theorem dp_noDict {K : PySem.W.Frag} {H : Hp} : ∀ (d : PyData) (x : V), Dp K H x d → noDict d = true ∧ d.hasDict = false
  | .none, _, _ => ⟨rfl, by simp [PyData.hasDict]⟩
  | .bool _, _, _ => ⟨rfl, by simp [PyData.hasDict]⟩
  | .int _, _, _ => ⟨rfl, by simp [PyData.hasDict]⟩
  | .str _, _, _ => ⟨rfl, by simp [PyData.hasDict]⟩
  | .list ds, _, h => by
    cases h with
    | lst _ ha =>
      have q := dp_noDictAll ds _ ha
      exact ⟨by simpa [noDict] using q.1, by simpa [PyData.hasDict] using q.2⟩
  | .tuple ds, _, h => by
    cases h with
    | tup _ ha =>
      have q := dp_noDictAll ds _ ha
      exact ⟨by simpa [noDict] using q.1, by simpa [PyData.hasDict] using q.2⟩
  | .dict _, _, h => by cases h
theorem dp_noDictAll {K : PySem.W.Frag} {H : Hp} : ∀ (ds : List PyData) (xs : List V), DpAll K H xs ds → noDict.noDictAll ds = true ∧ PyData.hasDictAll ds = false
  | [], _, _ => ⟨rfl, by simp [PyData.hasDictAll]⟩
  | d :: ds, _, h => by
    cases h with
    | cons h1 h2 =>
      have a := dp_noDict d _ h1
      have b := dp_noDictAll ds _ h2
      exact ⟨by simp [noDict.noDictAll, a.1, b.1], by simp [PyData.hasDictAll, a.2, b.2]⟩
end
/-- repr(x) of data -/
def rRepr (K : PySem.W.Frag) : List V → Hp → VK → Prop := fun xs H Q => ∃ x d, xs = [x] ∧ Dp K H x d ∧ d.showable = true ∧ bnd d ≤ 16000000 ∧ d.depth ≤ 60 ∧ Q (.str d.shown) H
theorem call_repr (hG : Grd X.A) (hu : X.A.units + 64 < cLine) : CallR X (.builtin "repr") (rRepr X.K) := by
  intro pins s σ H xs us Q I r h
  obtain ⟨x, d, rfl, hd, sh, hb, dp, q⟩ := h
  obtain ⟨u, rfl, rx⟩ := vals1 r
  obtain ⟨nd, nd2⟩ := dp_noDict d x hd
  have hz : d.shown.length ≤ sizeLine := Nat.le_trans (shown_bnd d sh nd) (Nat.le_trans hb (by decide))
  obtain ⟨as, rd⟩ := Dp.reads I d x u hd rx
  cases hd with
  | non =>
    cases rx
    exact PySem.P.repr_of_none ⟨.str _, H, I.tok _, ⟨_, rfl⟩, by simpa only [PyData.shown] using q⟩
  | bl b =>
    cases rx
    exact PySem.P.repr_of_bool ⟨.str _, H, I.tok _, ⟨_, rfl⟩, by simpa only [PyData.shown] using q⟩
  | int i =>
    obtain ⟨t, rfl⟩ := rx
    exact PySem.P.repr_of_int (by simpa [PyData.showable] using sh) ⟨.str _, H, I.tok _, ⟨_, rfl⟩, by simpa only [PyData.shown] using q⟩
  | str y =>
    obtain ⟨t, rfl⟩ := rx
    exact PySem.P.repr_of_str ⟨.str _, H, I.tok _, ⟨_, rfl⟩, by simpa only [PyData.shown] using q⟩ (by simpa only [PyData.shown] using hz)
  | lst _ _ =>
    cases rx
    exact repr_of_reads' rd sh (fun z => by rw [nd2] at z; cases z) hG (by omega) (fun _ _ e => e) (fun h' u tk hk => ⟨.str _, H, I.kept hk, ⟨_, rfl⟩, q⟩) hz
  | tup _ _ =>
    cases rx
    exact repr_of_reads' rd sh (fun z => by rw [nd2] at z; cases z) hG (by omega) (fun _ _ e => e) (fun h' u tk hk => ⟨.str _, H, I.kept hk, ⟨_, rfl⟩, q⟩) hz
end

theorem bnd_ints : ∀ ns : List Int, bnd.bndAll (ns.map PyData.int) = 1923 * ns.length
  | [] => rfl
  | n :: r => by
    show bnd (.int n) + 2 + bnd.bndAll (r.map PyData.int) = 1923 * (r.length + 1)
    rw [bnd_ints r]
    show 1921 + 2 + _ = _
    omega
theorem show_ints : ∀ ns : List Int, (∀ n ∈ ns, Sm n) → PyData.showableAll (ns.map PyData.int) = true
  | [], _ => by simp [PyData.showableAll]
  | n :: r, h => by
    have a := (h n (by simp)).log
    simp only [List.map_cons, PyData.showableAll, PyData.showable, show_ints r (fun x hx => h x (by simp [hx])), Bool.and_true, decide_eq_true_eq]
    omega
/-- what repr asks of a list, a tuple of ints -/
theorem repL {ns : List Int} (hs : ∀ n ∈ ns, Sm n) (hl : ns.length ≤ 8000) : (PyData.list (ns.map PyData.int)).showable = true ∧ bnd (.list (ns.map PyData.int)) ≤ 16000000 ∧ (PyData.list (ns.map PyData.int)).depth ≤ 60 := by
  refine ⟨by simpa [PyData.showable] using show_ints ns hs, ?_, by simp [PyData.depth, depth_ints]⟩
  show bnd.bndAll (ns.map PyData.int) + 3 ≤ 16000000
  rw [bnd_ints]
  omega
theorem repT {ns : List Int} (hs : ∀ n ∈ ns, Sm n) (hl : ns.length ≤ 8000) : (PyData.tuple (ns.map PyData.int)).showable = true ∧ bnd (.tuple (ns.map PyData.int)) ≤ 16000000 ∧ (PyData.tuple (ns.map PyData.int)).depth ≤ 60 := by
  refine ⟨by simpa [PyData.showable] using show_ints ns hs, ?_, by simp [PyData.depth, depth_ints]⟩
  show bnd.bndAll (ns.map PyData.int) + 3 ≤ 16000000
  rw [bnd_ints]
  omega
theorem ne_same {H : Hp} {x : V} {Q : VK} (hs : scal x x = true) (q : Q (.bl false) H) : rNe x x H Q := ⟨hs, by rw [decide_eq_true rfl]; exact q⟩

/-- the law's call, by a promise that asks that no repr is under way (none is, at the caller) -/
theorem law_g {P : Program} {w : World} {K : PySem.W.Frag} {mg mb : Str → Option Value} {k : Nat} {fa a : Addr} {fd : FuncData} {x : Str} {sp : Sp} {s : Shared} {vs : List Value} {ns : List Int} (KX : K.In s.heap) (hns : s.heap.Ns mainGlobals mg)
    (hb : s.heap.Ns builtinsNs mb) (hbb : ∀ y : Str, y ≠ "__name__" → mb y = bootBuiltins y) (hlim : s.heap.NoLimit) (hg : s.gens = #[]) (ha : s.heap.get? a = some { cls := .type "list", data := .seq vs.toArray }) (hi : IntsAre vs ns)
    (hl : ns.length ≤ sizeLine) (hr : Room k callerA) (F : ∀ base : Heap, K.In base → base.Ns mainGlobals mg → FnG P w K mg base CX0 k fa fd [x] sp) (bind : ∀ (t : Shared) (u : Value), BindsTo t fd ⟨[u], []⟩ [(x, u)])
    (hsp : ∀ H : Hp, SqL K H a (ns.map V.int) → sp [.ref a] H (fun v _ => v = .bl true) fun _ _ _ => False) :
    codeAny (model P w) callerA (.call (.ref fa) ⟨[.ref a], []⟩) (fun r s' => r = .ok (.ret (.bool true)) ∧ OldK s.heap s'.heap ∧ s'.os = s.os ∧ AllBare s'.gens) s := by
  obtain ⟨H, hS, hok, hO⟩ : ∃ H : Hp, SqL K H a (ns.map V.int) ∧ HOk P w H s.heap ∧ ∀ b, H b = none ∨ (b = a ∧ K.lookup a = none ∧ H b = some (.frz { cls := .type "list", data := .seq vs.toArray } (.lst (ns.map V.int)))) := by
    cases hk : K.lookup a with
    | none =>
      refine ⟨upd (fun _ => none) a (.frz { cls := .type "list", data := .seq vs.toArray } (.lst (ns.map V.int))), .inl (.inr ⟨_, upd_same⟩), fun b o e => ?_, fun b => ?_⟩
      · by_cases q : b = a
        · subst q
          rw [upd_same] at e
          cases e
          exact ⟨ha, by rw [List.length_map]; exact hl, vs, _, vals_ints hi, ha⟩
        · rw [upd_ne q] at e
          cases e
      · by_cases q : b = a
        · subst q
          exact .inr ⟨rfl, rfl, upd_same⟩
        · exact .inl (upd_ne q)
    | some o =>
      have e := KX a o hk
      rw [ha] at e
      cases e
      exact ⟨fun _ => none, .inr ⟨_, vs.toArray, _, hk, rfl, rfl, rfl, by rw [List.size_toArray, hi.length]; exact hl, by simpa using vals_ints hi⟩, (fun b o e => by cases e), fun _ => .inl rfl⟩
  have free : ∀ {b : Addr} {o : Obj}, s.heap.get? b = some o → (b = a → K.lookup a = none → False) → H b = none := fun {b o} e n => by
    rcases hO b with z | ⟨z, zk, _⟩
    · exact z
    · exact (n z zk).elim
  have nsB : ∀ {b : Addr} {m : Str → Option Value}, s.heap.Ns b m → (hidT s.heap H).Ns b m := fun {b m} z => by
    obtain ⟨o, es, ep, e, d, r⟩ := z
    refine ⟨o, es, ep, hidT_get e (free e fun q _ => ?_), d, r⟩
    subst q
    rw [ha] at e
    cases e
    cases (show Data.seq vs.toArray _ = Data.dict es ep from d)
  have kB : K.In (hidT s.heap H) := fun b o e => hidT_get (KX b o e) (free (KX b o e) fun q z => by
    subst q
    rw [z] at e
    cases e)
  have M : Mod K mg (hidT s.heap H) := by
    obtain ⟨mc, h1, h2⟩ := hlim
    exact ⟨kB, nsB hns, ⟨mb, nsB hb, hbb⟩, ⟨mc, nsB h1, h2⟩⟩
  have e0 : Env0 P w K mg (hidT s.heap H) callerA [] s H := ⟨rfl, M, fun b o e => of_hidT e, Nat.le_of_eq (hidT_size _ _), trivial, (fun b z => nomatch (show b ∈ ([] : List Addr) from z)), hok, .of_eq hg⟩
  refine codeAny_mono ((F _ kB (nsB hns)).go callerA [] s H ⟨[.ref a], []⟩ [.ref a] [.ref a] _ _ rfl hr e0 (bind s (.ref a)) (.cons rfl .nil) (hsp H hS)) fun r s' h => ?_
  cases r with
  | error e => exact (show False from h).elim
  | ok fl =>
    cases fl with
    | next => exact (show False from h).elim
    | brk => exact (show False from h).elim
    | cont => exact (show False from h).elim
    | ret u =>
      obtain ⟨v, H', os, bare, un, hok', rv, q⟩ := h
      obtain rfl : v = .bl true := q
      obtain rfl : u = Value.bool true := rv
      refine ⟨rfl, OldK.of_keep fun b o e => ?_, os, bare⟩
      rcases hO b with z | ⟨z, zk, z3⟩
      · exact un.keep b o e z (fun y => nomatch (show b ∈ ([] : List Addr) from y)) (by simp)
      · have e1 := (hok' b _ (un.frzs b _ _ z3)).1
        have e2 := (hok b _ z3).1
        rw [e] at e2
        cases e2
        exact e1
/-- the end of a law's row by such a promise -/
theorem walk_g {l : PySem.W.OpenLaw} {n k : Nat} {q : Program} {loose : List Str} {XP : (Str → Option Value) → Heap → Prop} {YP : World → Heap → Prop} {d : DefRec} {K : Params → PySem.W.Frag} {sp : World → Sp} {x : Str} (hn : l.most = some n)
    (hn2 : n ≤ sizeLine) (hdf : d.params.defaults = []) (hr : Room k callerA) (hY : ∀ (w : World) (h : Heap), YP w h → (K w.params).In h)
    (F : ∀ (w : World) (mg : Str → Option Value) (fa : Addr) (h : Heap), (K w.params).In h → h.Ns mainGlobals mg → mg d.name = some (.ref fa) → ∃ fd : FuncData, (∀ (s : Shared) (u : Value), BindsTo s fd ⟨[u], []⟩ [(x, u)]) ∧
      ∀ base : Heap, (K w.params).In base → base.Ns mainGlobals mg → FnG l.prog w (K w.params) mg base CX0 k fa fd [x] (sp w))
    (hsp : ∀ (w : World) (H : Hp) (a : Addr) (ns : List Int), ns.length ≤ n → SqL (K w.params) H a (ns.map V.int) → sp w [.ref a] H (fun v _ => v = .bl true) fun _ _ _ => False) :
    PySem.W.WalkO q loose XP YP l.row.toRowW d [] (fun f vs => PySem.call f vs) :=
  Att.attach_call hn hdf fun w s₀ s₁ mg mb fa o pm cd doc a vs ns G Y ho hd hcd hmg hobj hints hlen hg => by
    have KX := hY w _ Y
    obtain ⟨fd, hb, hF⟩ := F w mg fa _ KX G.T.g hmg
    exact law_g KX G.T.g G.T.b G.T.builtins G.T.nolimit hg hobj hints (Nat.le_trans hlen hn2) hr hF hb fun H hS => hsp w H a ns hlen hS
end Eb

/-! ## own layer: defs that show data (repr), run where no repr is under way -/
namespace Eb
open PySem PySem.Spec PyProof.Rows L2 StX
section
variable {P : Program} {w' : World} {K : PySem.W.Frag} {mg : Str → Option Value} {base : Heap} {name qual : Str} {st : Stmt} {f : Addr} {fd : FuncData} {N ps : List Str} {k : Nat} {B : Tb}
theorem fnF0g (F : Fun K name qual st f fd) (S : FnScope N ps (defScope st)) {t : DS} {n m : Nat} (hn : ps.length = n) (hN : N.length = n + m) (hK : K = B.K)
    (body : ∀ (cdv : Value) (A : Around) (outer : List Env) (s : Shared) (H : Hp) (E : XK) (Z M : Addr → Prop) (H0 : Hp) (dl : Option (Addr × Addr)), Grd A → Room k (A.deeper (envOfC qual (defScope st) s.heap.objs.size f cdv)) →
      XSs (cxOf CX0 P w' K mg base N qual (defScope st) f cdv A outer s H E).nox ⟨B, Z, M, H0, dl⟩ w0 (defBody st) t) : FnG P w' K mg base CX0 (k + 1) f fd ps (spF0 B (wpOf n m t)) := by
  refine fun_g F S (fun vs H Q E ⟨Z, ds, _, _, r, h, _⟩ => by rw [r.len, h.1, hn]) fun cdv A outer s H vs Q E hg hr ⟨Z, ds, q, hZ, r, ⟨hl, ht⟩, kq⟩ => ?_
  refine run_body (body cdv A outer s H E Z (fun _ => False) H none hg hr) hK (st_start hZ r (by rw [hl]; exact hN)) ?_ ht
  refine ⟨fun env' W' σ' H' q S' _ => kq _ _ _ q (fun a o h => S'.fr a o (fun z => z) h) rfl, fun _ _ _ _ q => q.elim, fun _ _ _ _ q => q.elim, fun d v env' W' σ' H' q S' rp => kq d v H' q (fun a o h => S'.fr a o (fun z => z) h) (rp.up out0), fun _ _ _ _ _ _ _ q => q.elim⟩
theorem fnG0g (F : Fun K name qual st f fd) (S : FnScope N ps (defScope st)) {t : DS} {n m : Nat} (hn : ps.length = n + 1) (hN : N.length = n + 1 + m) (hK : K = B.K)
    (body : ∀ (cdv : Value) (A : Around) (outer : List Env) (s : Shared) (H : Hp) (E : XK) (Z M : Addr → Prop) (H0 : Hp) (dl : Option (Addr × Addr)), Grd A → Room k (A.deeper (envOfC qual (defScope st) s.heap.objs.size f cdv)) →
      XSs (cxOf CX0 P w' K mg base N qual (defScope st) f cdv A outer s H E).nox ⟨B, Z, M, H0, dl⟩ w0 (defBody st) t) : FnG P w' K mg base CX0 (k + 1) f fd ps (spG0 B (wpOfG n m t)) := by
  refine fun_g F S (fun vs H Q E ⟨Z, ds, _, d, l, vr, e, _, _, r, h, _⟩ => by rw [e, List.length_cons, r.len, h.1, hn]) fun cdv A outer s H vs Q E hg hr ⟨Z, ds, q, d, l, vr, e, D0, hZ, r, ⟨hl, ht⟩, kq⟩ => ?_
  subst e
  refine run_body (body cdv A outer s H E Z (fun a => a = d ∨ a = l) H (some (d, l)) hg hr) hK (st_startG D0 hZ r (by rw [hl]; exact hN)) ?_ ht
  exact ⟨fun env' W' σ' H' q S' _ => kq _ _ _ q (drew_of S') rfl, fun _ _ _ _ q => q.elim, fun _ _ _ _ q => q.elim, fun d v env' W' σ' H' q S' rp => kq d v H' q (drew_of S') rp, fun _ _ _ _ _ _ _ q => q.elim⟩
end
section
variable {X : Cx} {Λ : Lx} {w : WX} {a b c e o : Expr} {es : List Expr} {ta tb tc t : DE} {u : DA} {pos p apos : Pos} {k : Nat} {f : Addr} {fd : FuncData} {ps : List Str} {wp : DW} {y : Str}
theorem xe_callN (hG : Grd X.A) (F : FnG X.prog X.w X.K X.mg X.base CX0 k f fd ps (spF0 Λ.B wp)) (hr : Room k X.A) (hg : Gl X y) (hm : X.mg y = some (.ref f)) (hk : PySem.W.keepIn X.K (.ref f) = true) (hb : Binds X.K fd ps []) (ha : XA X Λ w (e :: es) u) (hdb : (y == ("__debug__" : Str)) = false := by decide)
    (he : starEach (e :: es) X.env = (false, eval e X.env) :: starEach es X.env := by rfl) (hpl : (backTo pos (starEach es X.env)).any (·.1) = false := by rfl) : XE X Λ w (.Call (.Name y p) (e :: es) [] pos) (dF0 wp u) := ⟨fun hK => by
  obtain ⟨ra, pa, sa⟩ := ha.ex hK
  refine ⟨_, pe_callG hG F hr hg hm hk hb pass0 pa hdb he hpl, fun env W σ H Q q x S hx h k => sa env W σ H _ _ x S hx h fun ds vs H1 h1 S1 e1 r1 => ?_⟩
  rw [List.append_nil]
  exact call0 S1 r1 h1 fun d v H' a b c => k d v H' a b (e1.trans c)⟩
theorem xe_callGN {i : Nat} {y1 : Str} {p1 : Pos} (hG : Grd X.A) (ho : PE X (.Name y1 p1) (tVar i)) (F : FnG X.prog X.w X.K X.mg X.base CX0 k f fd ps (spG0 Λ.B wp)) (hr : Room k X.A) (hg : Gl X y) (hm : X.mg y = some (.ref f)) (hk : PySem.W.keepIn X.K (.ref f) = true) (hb : Binds X.K fd ps []) (ha : XA X Λ w es u) (hdb : (y == ("__debug__" : Str)) = false := by decide)
    (he : starEach (.Name y1 p1 :: es) X.env = (false, eval (.Name y1 p1) X.env) :: starEach es X.env := by rfl) (hpl : (backTo pos (starEach es X.env)).any (·.1) = false := by rfl) : XE X Λ w (.Call (.Name y p) (.Name y1 p1 :: es) [] pos) (dG0 i wp u) := ⟨fun hK => by
  obtain ⟨ra, pa, sa⟩ := ha.ex hK
  refine ⟨_, pe_callG hG F hr hg hm hk hb pass0 (pa_cons ho pa he) hdb he hpl, fun env W σ H Q q x S hx h k => ?_⟩
  unfold dG0 at h
  split at h
  · rename_i hd
    obtain ⟨d, l, ed, hσ⟩ := S.sl i _ hd
    refine ⟨_, hσ, sa env W σ H _ _ x S hx h fun ds vs H1 h1 S1 e1 r1 => ?_⟩
    show spG0 Λ.B wp ((V.ref d :: vs) ++ []) H1 Q E0
    rw [List.append_nil]
    exact call_g S1 ed r1 h1 fun d v H' a b c => k d v H' a b (e1.trans c)
  · exact h.elim⟩
/-- repr(x) of data -/
@[irreducible] def reprD : List D → DK := fun ds q _ => match ds with
  | [d] => ∃ z, d.py = some z ∧ z.showable = true ∧ bnd z ≤ 16000000 ∧ z.depth ≤ 60 ∧ q (.str z.shown)
  | _ => False
theorem snd_repr : SndC Λ w (rRepr Λ.B.K) reprD := fun env W σ H ds vs Q q x S hx r h k => by
  unfold reprD at h
  split at h
  · obtain ⟨v, rfl, r1⟩ := r.one_inv
    obtain ⟨z, h1, h2, h3, h4, h5⟩ := h
    exact ⟨v, z, rfl, (r1.up hid_le).dp _ _ _ h1, h2, h3, h4, k _ _ H h5 S .refl rfl⟩
  · exact h.elim
theorem hc_repr (hG : Grd X.A) (hu : X.A.units + 64 < cLine) : X.K = Λ.B.K → CallR X (.builtin "repr") (rRepr Λ.B.K) := fun hK => hK ▸ call_repr hG hu
/-! list(range(a)), list(range(a, b)) -/
def dLr2 (ta tb : DE) : DA := fun env q x => ta env (fun d => tb env (fun e => match d, e with
  | .int i, .int j => RgOk i j ∧ q (rgD i (j - i).toNat)
  | _, _ => False) x) x
def dLr1 (ta : DE) : DA := fun env q x => ta env (fun d => match d with
  | .int j => RgOk 0 j ∧ q (rgD 0 j.toNat)
  | _ => False) x
theorem rep_rg {B : Tb} {H : Hp} (i j : Int) : RepL B H (rgD i (j - i).toNat) (rgV i j) := by
  unfold rgD rgV
  generalize List.range (j - i).toNat = l
  induction l with
  | nil => rfl
  | cons n l ih => exact ⟨_, _, rfl, rfl, ih⟩
theorem xl_lr2 {p1 : Pos} (hg : Gl X "list") (hm : X.mg "list" = none) (hg2 : Gl X "range") (hm2 : X.mg "range" = none) (ha : XE X Λ w a ta) (hb : XE X Λ w b tb) (hc : X.calm = true := by rfl)
    (na : starEach [a, b] X.env = (false, eval a X.env) :: starEach [b] X.env := by rfl) (nb : starEach [b] X.env = (false, eval b X.env) :: starEach [] X.env := by rfl) (hp : (backTo apos (starEach [b] X.env)).any (·.1) = false := by rfl)
    (nc : starEach [.Call (.Name "range" p1) [a, b] [] apos] X.env = (false, eval (.Call (.Name "range" p1) [a, b] [] apos) X.env) :: starEach [] X.env := by rfl) : XL X Λ w (.Call (.Name "list" p) [.Call (.Name "range" p1) [a, b] [] apos] [] pos) (dLr2 ta tb) := ⟨fun hK => by
  obtain ⟨ra, pa, sa⟩ := ha.ex hK
  obtain ⟨rb, pb, sb⟩ := hb.ex hK
  refine ⟨_, pe_listRg hc hg hm (prg_2 hg2 hm2 pa pb na nb hp) nc, fun env W σ H Q q x S hx h k => sa env W σ H _ _ x S hx h fun d v H1 h1 S1 e1 r1 => sb env W σ H1 _ _ x S1 (hx.on e1) h1 fun d2 v2 H2 h2 S2 e2 r2 => ?_⟩
  cases d <;> cases d2 <;> first | exact h2.elim | skip
  cases r1
  cases r2
  rename_i i j
  exact ⟨i, j, rfl, rfl, h2.1, finL S2 (rep_rg i j) h2.2 fun ds p vs H' a b c f g r => k ds p vs H' a b ((e1.trans e2).trans c) (e1.free (e2.free f)) g r⟩⟩
theorem xl_lr1 {p1 : Pos} (hg : Gl X "list") (hm : X.mg "list" = none) (hg2 : Gl X "range") (hm2 : X.mg "range" = none) (ha : XE X Λ w a ta) (hc : X.calm = true := by rfl)
    (na : starEach [a] X.env = (false, eval a X.env) :: starEach [] X.env := by rfl)
    (nc : starEach [.Call (.Name "range" p1) [a] [] apos] X.env = (false, eval (.Call (.Name "range" p1) [a] [] apos) X.env) :: starEach [] X.env := by rfl) : XL X Λ w (.Call (.Name "list" p) [.Call (.Name "range" p1) [a] [] apos] [] pos) (dLr1 ta) := ⟨fun hK => by
  obtain ⟨ra, pa, sa⟩ := ha.ex hK
  refine ⟨_, pe_listRg hc hg hm (prg_1 hg2 hm2 pa na) nc, fun env W σ H Q q x S hx h k => sa env W σ H _ _ x S hx h fun d v H1 h1 S1 e1 r1 => ?_⟩
  cases d <;> first | exact h1.elim | skip
  cases r1
  rename_i j
  have rr : RepL Λ.B (Λ.vis W H1) (rgD 0 j.toNat) (rgV 0 j) := by
    have := rep_rg (B := Λ.B) (H := Λ.vis W H1) 0 j
    rwa [show j - 0 = j by omega] at this
  exact ⟨j, rfl, h1.1, finL S1 rr h1.2 fun ds p vs H' a b c f g r => k ds p vs H' a b (e1.trans c) (e1.free f) g r⟩⟩
end
end Eb

/-! ## own layer: an own error whose __init__ says super().__init__(x) and then self.f = x, over ValueError, IndexError (their facts: BsOk) -/
namespace PySem
namespace SupX
open PySem.W PySem.Calls PyProof.Rows PySem.HandSPX
/-- a built-in class of errors -/
structure Bs where
  B : String
  newId : String
  initId : String
  bm : List Value
structure BsOk (b : Bs) : Prop where
  F : ExcBaseFacts b.B b.newId b.initId b.bm
  KF : KxsFacts b.B b.initId
  S : StoreFacts b.B b.bm "object.__setattr__" "object"
abbrev vE : Bs := ⟨"ValueError", "ValueError.__new__", "ValueError.__init__", [.type "ValueError", .type "Exception", .type "BaseException", .type "object"]⟩
abbrev iE : Bs := ⟨"IndexError", "IndexError.__new__", "IndexError.__init__", [.type "IndexError", .type "LookupError", .type "Exception", .type "BaseException", .type "object"]⟩
theorem vE_ok : BsOk vE := ⟨F.excBase_ValueError, kxs_ValueError, F.store_ValueError⟩
theorem iE_ok : BsOk iE := ⟨F.excBase_IndexError, kxs_IndexError, F.store_IndexError⟩
/-- own classes, then b -/
def refsT (b : List Value) : List Value → Bool
  | .ref _ :: r => refsT b r
  | l => l == b
theorem refsT_cases {b : List Value} : ∀ l : List Value, refsT b l = true → (∃ c r, l = .ref c :: r ∧ refsT b r = true) ∨ l = b
  | [], e => .inr (beq_iff_eq.mp e)
  | v :: r, e => by
    cases v with
    | ref c => exact .inl ⟨c, r, rfl, e⟩
    | _ => exact .inr (beq_iff_eq.mp e)
theorem refsT_pass {b : List Value} (hb : ∀ self : Value, refuseLoop self "__setattr__" b = pure ()) (self : Value) : ∀ l : List Value, refsT b l = true → refuseLoop self "__setattr__" l = pure () := by
  intro l
  induction l with
  | nil =>
    intro e
    rw [show [] = b from beq_iff_eq.mp e]
    exact hb self
  | cons a r ih =>
    intro e
    rcases refsT_cases (a :: r) e with ⟨c, r', q, h⟩ | q
    · obtain ⟨rfl, rfl⟩ := List.cons.inj q
      rw [refuseLoop_ref]; exact ih h
    · rw [q]; exact hb self
theorem refsT_contains {b : List Value} (X : String) : ∀ l : List Value, refsT b l = true → l.contains (.type X) = b.contains (.type X) := by
  intro l
  induction l with
  | nil => intro e; rw [show [] = b from beq_iff_eq.mp e]
  | cons a r ih =>
    intro e
    rcases refsT_cases (a :: r) e with ⟨c, r', q, h⟩ | q
    · obtain ⟨rfl, rfl⟩ := List.cons.inj q
      rw [List.contains_cons, ih h]; rfl
    · rw [q]
open Builtin Builtin.ObjectAttr in
theorem osaT {prog : Program} {w : World} {A : Around} {R : Result → Shared → Prop} {hp : Heap} {g : Array GenState} {d : Drawn} {t : Nat} {os : OsState} {b : Bs} (ok : BsOk b) {K : W.Frag} {name : Str} {tk : Tok} {v : Value} {x C : Addr} {fv : Array Value} {cd : ClassData}
    (X : K.In hp) (hx : hp.get? x = some { cls := .ref C, data := .fields fv }) (hcd : W.clsIn K C = some cd) (hm : refsT b.bm cd.mro = true) (hh : cd.hasDict = true) (ha : W.findIn K (.ref C) name = some none)
    (hq : ∀ h' tk' dx, (∀ b o, b ≠ x → hp.get? b = some o → h'.get? b = some o) → hp.objs.size ≤ dx → dx ≠ x → h'.get? x = some { cls := .ref C, dict := some dx, data := .fields fv } →
      h'.Ns1 dx (fun y => if y = name then some v else none) → R (.ok (.ret .none)) ⟨h', g, d, tk', os⟩) :
    codeAny (model prog w) A (.call (.builtin "object.__setattr__") ⟨[.ref x, .str name tk, v], []⟩) R ⟨hp, g, d, t, os⟩ := by
  have I : W.InstAt hp x { cls := .ref C, data := .fields fv } C none := ⟨hx, rfl, rfl, trivial⟩
  have SF := F.store_object
  have hob : cd.mro.contains (.type "object") = true := (refsT_contains "object" _ hm).trans ok.S.hasOwner
  have ne : cd.mro.isEmpty = false := by
    cases hl : cd.mro with
    | nil => rw [hl] at hob; cases hob
    | cons _ _ => rfl
  have hxs : x ≠ hp.objs.size := Nat.ne_of_lt (Heap.lt_size hx)
  have sub : W.Looks (model prog w) hp (isInstance (.ref x) (.type "object")) true := I.type.andThen (W.looks_mroIn X (by unfold W.mroIn; rw [hcd, Option.bind_some, if_neg (by rw [ne]; decide), hob]))
  refine codeAny_call_builtin SF.slot.plain SF.entry (@W.check_slot (model prog w) _ _ ⟨hp, g, d, t, os⟩ "object.__setattr__" "object" "__setattr__" (.ref x) [.str name tk, v] [] _ SF.kind SF.split sub (SF.args (.ref x) (.str name tk) v) ?_)
  have hmr : W.Looks (model prog w) hp (mroOf (.ref C)) cd.mro := (W.looks_clsIn X hcd).andThen .now
  have L3 : W.Looks (model prog w) hp (storeTaker? none) none := .now
  have hcls : W.Looks (model prog w) hp (classData C) cd := W.looks_clsIn X hcd
  rw [W.osa_eq, refuse_eq]
  refine wpAny_bind (wpAny_bind (I.type.at (wpAny_bind (hmr.at ?_))))
  rw [refsT_pass ok.S.passes _ _ hm]
  refine wpAny_pure (wpAny_bind (I.type.at (wpAny_bind ((W.looks_findIn X ha).at (wpAny_bind (L3.at ?_))))))
  show wpAny _ _ (storeInOwnDict (.ref x) (.ref C) (.str name tk) name v false) _ _ _
  obtain ⟨nm, bs, mro, ns, qn, hd, sn, sb, ab, col, del⟩ := cd
  dsimp only at hh
  subst hh
  unfold storeInOwnDict ownDictForStores
  repeat (first | with_reducible refine HandSPX.store_in_new ?_ ?_ | with_reducible refine wpAny_loadPart_at hx ?_ | with_reducible refine hcls.at ?_ | wp_step)
  · exact ⟨_, #[], _, (Heap.get?_update_ne _ _ _ _ hxs.symm).trans (Heap.get?_push_at rfl rfl), rfl, fun e he => absurd he (by simp), fun _ => rfl⟩
  · intro h' tk' hn' hs
    have hx₁ : (hp.push { cls := .type "dict", data := .dict #[] }).get? x = some { cls := .ref C, data := .fields fv } := Heap.get?_push_of_some _ hx
    refine hq h' tk' hp.objs.size (fun b o hb ho => ?_) (Nat.le_refl _) hxs.symm ?_ hn'
    · exact (hs.2 b (Nat.ne_of_lt (Heap.lt_size ho))).trans ((Heap.get?_update_ne _ _ _ _ hb).trans (Heap.get?_push_of_some _ ho))
    · exact (hs.2 x hxs).trans (Heap.get?_update_self _ hx₁ rfl)
def iB (fld : Str) (p0 p1 p2 p3 p4 p5 p6 p7 p8 p9 : Pos) : List Stmt :=
  [.Expr (.Call (.Attribute (.Call (.Name "super" p0) [] [] p1) "__init__" p2) [.Name fld p3] [] p4) p5, .Assign [.Attribute (.Name "self" p6) fld p7] (.Name fld p8) p9]
/-- the text of such an __init__: its def's parts -/
abbrev iS (names : List (Str × NameKind)) (more : List (Str × Const)) : Scope := { kind := .function, names := names, isGenerator := false, isCoroutine := false, more := more }
structure SupDef (fld : Str) (params : Arguments) (body : List Stmt) (names : List (Str × NameKind)) (more : List (Str × Const)) : Prop where
  bod : ∃ p0 p1 p2 p3 p4 p5 p6 p7 p8 p9, body = iB fld p0 p1 p2 p3 p4 p5 p6 p7 p8 p9 ∧ (p2.endLine == p4.line) = true
  par : ∃ ar : Arg, (params.posonlyargs ++ params.args).head? = some ar ∧ ar.arg = "self"
  bnd : ∀ (s : Shared) (qual : Str) (doc pm : Value) (an : Option Addr) (cdv ct : Value) (cc : Addr) (x v : Value), BindsTo s (ksFn "__init__" qual params body (iS names more) .none .none doc pm an cdv ct cc) ⟨[x, v], []⟩ [("self", x), (fld, v)]
  nc : ∀ x ∈ names, x.2 ≠ .cell
  ls : names.lookup ("self" : Str) = some .local
  lf : names.lookup fld = some .local
  lu : names.lookup ("super" : Str) = some .globalImplicit
  lc : names.lookup ("__class__" : Str) = some .free
  nf : fld ≠ "self"
  nd : (fld == ("__debug__" : Str)) = false
/-- what the written part says of the class cn, at C, and of its __init__, at fI -/
structure SupTxt (b : Bs) (P : Program) (K : Frag) (mg : Str → Option Value) (cn fld : Str) (C fI : Addr) : Prop where
  gC : mg cn = some (.ref C)
  cls : ∃ nm q N bs bm sn sub ab col dd k0 k1 k2 k3 k5, K.lookup C = some (excClassObj nm q C N bs bm true sn sub ab col dd k0 k1 k2 k3 k5 b.newId) ∧ refsT b.bm bm = true
  sa : findIn K (.ref C) "__setattr__" = some (some (.builtin "object.__setattr__"))
  ga : findIn K (.ref C) "__getattribute__" = some (some (.builtin "BaseException.__getattribute__"))
  gg : findIn K (.ref C) "__getattr__" = some none
  noN : findIn K (.ref C) fld = some none
  iC : findIn K (.ref C) "__init__" = some (some (.ref fI))
  tC : typeIn K (.ref fI) = some (.type "function")
  kC : keepIn K (.ref C) = true
  exC : subIn K (.ref C) (.type "BaseException") = some true
  veC : subIn K (.ref C) (.type b.B) = some true
  ok : BsOk b
  slf : mroIn K C (.ref C) = some true
  tyC : typeIn K (.ref C) = some (.type "type")
  hdC : hasDictIn K C = true
  te : exmOne K (.ref C) (.ref C) = some true
  opq : nsIn K cStatics "thirdparty.any" = some none
  sup : ks_superIn K C C "__init__" = some (some (.builtin b.initId))
  nsu : mg "super" = none
  top : (P.main.scope.names.lookup ("super" : Str)).isSome = false
  fn : ∃ (qual : Str) (params : Arguments) (body : List Stmt) (names : List (Str × NameKind)) (more : List (Str × Const)) (oc : Value) (od : Option Addr) (doc pm : Value) (an : Option Addr) (cda : Addr) (ct : Value) (cc : Addr) (osl : Array (Option Value)) (ccl : Value) (cdd : Option Addr) (vs : Array Value) (ccs : Array (Option Value)) (file : Str) (tf : Tok) (cl : Value) (cld : Option Addr) (csl : Array (Option Value)),
    SupDef fld params body names more ∧ K.lookup fI = some ⟨oc, od, .func (ksFn "__init__" qual params body (iS names more) .none .none doc pm an (.ref cda) ct cc), osl⟩ ∧ codeIn K (.ref cda) qual = true ∧
    K.lookup cda = some ⟨ccl, cdd, .fields vs, ccs⟩ ∧ vs[2]? = some (.str file tf) ∧ ((P.main.file : Str) == file) = true ∧ K.lookup cc = some ⟨cl, cld, .cell (some (.ref C)), csl⟩
theorem meth_eval {o a : Expr} {name : Str} {apos pos : Pos} {env : Env} (ha : starEach [a] env = (false, eval a env) :: starEach [] env) (hl : (apos.endLine == pos.line) = true) :
    eval (.Call (.Attribute o name apos) [a] [] pos) env = (do
      let ov ← attributeBase o name env (eval o env)
      standAt apos.atName
      let (f, first) ← holding [ov] (getMethod ov name (do return (← importBound o env).getD true))
      callWith pos f first (backTo pos (starEach [a] env)) []) := by
  rw [arm_eval_Call]
  unfold methodCall methodCallPos calleeOf
  have few : methodCallForm ([a].length + ([] : List Keyword).length) (backTo pos (starEach [a] env)) (backToKw pos (keywordEach [] env)) = true := by
    rw [ha]
    rfl
  rw [few]
  simp only [hl, Bool.not_true, Bool.false_or, if_true, pure_bind]
  rfl
theorem one_size (v : Value) : [v].length ≤ sizeLine := by
  rw [sizeLine_eq]
  exact (by decide : 1 ≤ 16777216)
/-- what __init__ leaves of a fresh exception at x -/
structure InitEnd (h h' : Heap) (x C dx : Addr) (fld : Str) (v : Value) : Prop where
  keep : ∀ b o, b ≠ x → h.get? b = some o → h'.get? b = some o
  obj : ∃ t1 : Addr, h'.get? x = some { cls := .ref C, dict := some dx, data := .fields #[.ref t1, .none, .none, .none, .bool false, .none] }
  dbig : h.objs.size ≤ dx
  dne : dx ≠ x
  ns : h'.Ns1 dx (fun y => if y = fld then some v else none)
structure OwnMade (h h' : Heap) (e C d : Addr) (fld : Str) (v : Value) : Prop where
  keep : ∀ b o, h.get? b = some o → h'.get? b = some o
  new : h.objs.size ≤ e
  obj : ∃ oe vs, h'.get? e = some oe ∧ oe.cls = .ref C ∧ oe.dict = some d ∧ oe.data = .fields vs ∧ vs[1]? = some .none
  dbig : h.objs.size ≤ d
  dne : d ≠ e
  ns : h'.Ns1 d (fun y => if y = fld then some v else none)
section
variable {prog : Program} {w : World} {A : Around} {E : Value → Shared → Prop} {R : Result → Shared → Prop} {s : Shared} {K : Frag} {mg : Str → Option Value} {cn fld : Str} {C fI : Addr} {base : Heap}
theorem sup_init {b : Bs} (T : SupTxt b prog K mg cn fld C fI) (Md : L2.Mod K mg base) (kb : ∀ b o, base.get? b = some o → s.heap.get? b = some o) {x t0 : Addr} {v : Value} (hx : s.heap.get? x = some (excO C t0)) (hnx : K.lookup x = none) (hroom : A.depth < recursionLimit)
    (hq : ∀ h' tk dx, InitEnd s.heap h' x C dx fld v → R (.ok (.ret .none)) { s with heap := h', toks := tk }) :
    codeAny (model prog w) A (.call (.ref fI) ⟨[.ref x, v], []⟩) R s := by
  obtain ⟨qual, params, body, names, more, oc, od, doc, pm, an, cda, ct, cc, osl, ccl, cdd, vs, ccs, file, tf, cl, cld, csl, D, ho, hcd, hcode, hvs, hfile, hcell⟩ := T.fn
  obtain ⟨nm, q, N, bs, bm, sn, sub, ab, col, dd, k0, k1, k2, k3, k5, hC, hbm⟩ := T.cls
  obtain ⟨p0, p1, p2, p3, p4, p5, p6, p7, p8, p9, rfl, hline⟩ := D.bod
  obtain ⟨ar, har, hself⟩ := D.par
  have X : K.In s.heap := Md.kin.keeps kb
  have hcl : clsIn K C = some { name := nm, bases := bs, mro := .ref C :: bm, ns := N, qualname := q, hasDict := true, slotNames := sn, subclasses := sub, abstract := ab, collection := col, hasDel := false } := by unfold clsIn; rw [hC] <;> rfl
  refine ks_codeAny_call_defAt (fd := ksFn "__init__" qual params (iB fld p0 p1 p2 p3 p4 p5 p6 p7 p8 p9) (iS names more) .none .none doc pm an (.ref cda) ct cc) (body := iB fld p0 p1 p2 p3 p4 p5 p6 p7 p8 p9) (binds := [("self", .ref x), (fld, v)]) hroom (X _ _ ho) rfl (Md.nolimit.keeps kb) (codeRec_of X hcd) rfl (D.bnd s qual doc pm an (.ref cda) ct cc (.ref x) v) D.nc ?_ (fun h₁ hns hk₁ => ?_) rfl rfl rfl
  · intro y hy
    rcases List.mem_cons.mp hy with rfl | hy
    · exact D.ls
    · rcases List.mem_cons.mp hy with rfl | hy
      · exact D.lf
      · cases hy
  obtain ⟨hp, g, d, tk, os⟩ := s
  dsimp only at hns hk₁ hx X kb ⊢
  have X₁ : K.In h₁ := X.keeps hk₁
  have kb₁ : ∀ b o, base.get? b = some o → h₁.get? b = some o := fun b o e => hk₁ b o (kb b o e)
  have hx₁ := hk₁ _ _ hx
  obtain ⟨m0, hns, vself, vfld⟩ : ∃ m0 : Str → Option Value, h₁.Ns hp.objs.size m0 ∧ m0 "self" = some (.ref x) ∧ m0 fld = some v := by
    refine ⟨_, hns, ?_, ?_⟩
    · have e : ((("self" : Str)) == fld) = false := beq_eq_false_iff_ne.mpr fun e => D.nf e.symm
      show List.lookup ("self" : Str) [(fld, v), ("self", .ref x)] = _
      rw [List.lookup_cons, e]
      rfl
    · show List.lookup fld [(fld, v), ("self", .ref x)] = _
      rw [List.lookup_cons, beq_self_eq_true]
  refine ks_wpAt_execs_cons (ks_wpAt_Expr_any (ks_wpAt_MethodCall ?_ (meth_eval rfl hline)))
  refine ks_wpAt_super_base (env := ksEnv qual (iS names more) hp.objs.size fI (.ref cda) cc) D.lu D.lc (by decide) rfl (hk₁ _ _ (X _ _ ho)) rfl har rfl (hk₁ _ _ (X _ _ hcode)) rfl hvs hfile T.top ?_
  obtain ⟨mb, b1, b2⟩ := Md.blt
  refine ks_loadName_global rfl D.lu (loadGlobal_builtin (env := ksEnv qual (iS names more) hp.objs.size fI (.ref cda) cc) (Md.glob.keeps kb₁) T.nsu (b1.keeps kb₁) ((b2 _ (by decide +kernel)).trans (by decide +kernel)) ⟨rfl, ?_⟩)
  refine wpAny_loadName_free rfl D.lc rfl ⟨_, hk₁ _ _ (X _ _ hcell), rfl⟩ ?_
  refine wpAny_loadName_local rfl (by rw [hself]; exact D.ls) hns (by rw [hself]; exact vself) ?_
  have hC₁ := X₁ _ _ hC
  refine ks_wpAny_isType_cls hC₁ rfl ⟨rfl, ?_⟩
  refine ks_wpAny_call_super hC₁ rfl hx₁ rfl (fun c e => by cases e) (looks_mroIn X₁ T.slf) (fun h₂ e2 kk2 => ?_)
  have X₂ : K.In h₂ := X₁.keeps kk2
  have hx₂ := kk2 _ _ hx₁
  have hxC : x ≠ C := fun z => by
    rw [z, hC₁] at hx₁
    cases hx₁
  have I₂ : InstAt h₂ x (excO C t0) C none := ⟨hx₂, rfl, rfl, trivial⟩
  have hI : Looks (model prog w) h₂ (isInstance (.ref x) (.type b.B)) true := I₂.type.andThen (looks_subIn X₂ T.veC)
  have hsup := T.sup
  unfold ks_superIn at hsup
  rw [hcl] at hsup
  refine kxs_getMethod T.ok.KF e2 (looks_opaque X₂ T.opq) (l₀ := .ref C :: bm) ?_ rfl X₂ hsup hI hxC (by decide) ?_
  · exact fun A Q E s k q => wpAny_bind ((looks_clsIn X₂ hcl) A _ E s k (wpAny_pure q))
  have kk3 : ∀ b' o, h₂.get? b' = some o → (h₂.push (kxs_mw b.initId x)).get? b' = some o := fun b o e => Heap.get?_push_of_some _ e
  have hu : (h₂.push (kxs_mw b.initId x)).get? h₂.objs.size = some (kxs_mw b.initId x) := Heap.get?_push_at rfl rfl
  generalize hh3 : h₂.push (kxs_mw b.initId x) = h₃ at kk3 hu ⊢
  refine kxs_callWith (i := b.initId) (x := x) rfl (evalArgs_plain ?_)
  refine spliced_more (wpAny_Name (wpAny_loadName_local (env := ksEnv qual (iS names more) hp.objs.size fI (.ref cda) cc) rfl D.lf ?ns vfld ?_) D.nd)
  case ns => exact (hns.keeps kk2).keeps kk3
  refine spliced_none ⟨hu, ?_⟩
  have X₃ : K.In h₃ := X₂.keeps kk3
  have hx₃ := kk3 _ _ hx₂
  have hC₃ := X₃ _ _ hC
  refine wpAny_call (codeAny_of_tree ?_)
  show wpAny _ _ (callAny (.ref h₂.objs.size) ⟨[v], []⟩) _ _ _
  simp only [callAny]
  refine wpAny_bind (wpAny_load hu ?_)
  simp only [kxs_mw, show (Value.type "method-wrapper" == Value.type "method" || Value.type "method-wrapper" == Value.type "builtin_function_or_method" || Value.type "method-wrapper" == Value.type "method-wrapper") = true by decide, if_true]
  refine KFB.if_so (by decide) ?_
  refine wpAny_bind (check_bound_init T.ok.F.toExcCallFacts hC₃ hx₃ rfl ?_)
  refine wpAny_bind (wpAny_pure (wpAny_pure ?_))
  refine ⟨plainId_quiet T.ok.F.init.plain _, codeAny_builtin T.ok.F.initEntry ?_⟩
  refine exc_init_tree (cls := .ref C) (t0 := t0) (dv := none) (c2 := .none) (c3 := .none) (b4 := .bool false) hx₃ (one_size v) (fun h₄ k4 hx₄ _ => ?_)
  -- self.fld = fld
  have k14 : ∀ b o, b ≠ x → h₁.get? b = some o → h₄.get? b = some o := fun b o hb e => k4 b o hb (kk3 _ _ (kk2 _ _ e))
  have X₄ : K.In h₄ := fun b o e => k14 b o (fun z => by rw [z, hnx] at e; cases e) (X₁ _ _ e)
  have hns4 : h₄.Ns hp.objs.size m0 := by
    obtain ⟨oL, es, ep, hL, r⟩ := hns
    exact ⟨oL, es, ep, k14 _ _ (fun z => absurd (Heap.lt_size hx) (by rw [← z]; exact Nat.lt_irrefl _)) hL, r⟩
  refine ks_wpAt_execs_cons (ks_wpAt_Assign_Attr (wpAt_of_wpAny (wpAny_Name (wpAny_loadName_local (env := ksEnv qual (iS names more) hp.objs.size fI (.ref cda) cc) rfl D.lf hns4 vfld ?_) D.nd)))
  refine wpAny_Name (wpAny_loadName_local (env := ksEnv qual (iS names more) hp.objs.size fI (.ref cda) cc) rfl D.ls hns4 vself ?_) (by decide)
  refine set_plain X₄ (ox := excO C _) (od := none) ⟨hx₄, rfl, rfl, trivial⟩ T.sa ?_
  refine osaT T.ok X₄ hx₄ hcl (show refsT b.bm (.ref C :: bm) = true from hbm) rfl T.noN (fun h₅ tk₅ dx k₅ dn dne hx₅ hn₅ => ?_)
  have z : hp.objs.size < h₁.objs.size := hns.lt
  have z4 : hp.objs.size ≤ dx := by
    have y : hp.objs.size < h₄.objs.size := hns4.lt
    exact Nat.le_of_lt (Nat.lt_of_lt_of_le y dn)
  exact wpAt_of_wpAny (wpAny_execs_nil (hq h₅ tk₅ dx ⟨fun b o hb e => k₅ b o hb (k14 b o hb (hk₁ b o e)), ⟨_, hx₅⟩, z4, dne, hn₅⟩))
theorem sup_made {b : Bs} (T : SupTxt b prog K mg cn fld C fI) (Md : L2.Mod K mg base) (kb : ∀ b o, base.get? b = some o → s.heap.get? b = some o) {v : Value} (hroom : A.depth + 1 < recursionLimit)
    (hq : ∀ h' tk e d, OwnMade s.heap h' e C d fld v → R (.ok (.ret (.ref e))) { s with heap := h', toks := tk }) :
    codeAny (model prog w) A (.call (.ref C) ⟨[v], []⟩) R s := by
  obtain ⟨nm, q, N, bs, bm, sn, sub, ab, col, dd, k0, k1, k2, k3, k5, hC, hbm⟩ := T.cls
  have X : K.In s.heap := Md.kin.keeps kb
  obtain ⟨hp, g, dr, tk, os⟩ := s
  have k : ∀ b o, hp.get? b = some o → ((hp.push (kdv_tup [v])).push (excO C hp.objs.size)).get? b = some o := fun b o e => Heap.get?_push_of_some _ (Heap.get?_push_of_some _ e)
  have hget : ((hp.push (kdv_tup [v])).push (excO C hp.objs.size)).get? (hp.objs.size + 1) = some (excO C hp.objs.size) := by heap_get
  have hnx : K.lookup (hp.objs.size + 1) = none := by
    cases e : K.lookup (hp.objs.size + 1) with
    | none => rfl
    | some o =>
      have z : hp.get? (hp.objs.size + 1) = some o := X _ _ e
      exact absurd (Nat.lt_of_succ_lt (Heap.lt_size z)) (Nat.lt_irrefl _)
  refine call_own T.ok.F (fun X => refsT_contains X bm hbm) (X _ _ hC) (looks_findIn X T.iC) (fun self => bind_fn X self T.tC) (one_size v) ?_
  refine sup_init (s := ⟨(hp.push (kdv_tup [v])).push (excO C hp.objs.size), g, dr, tk, os⟩) T Md (fun b o e => k b o (kb b o e)) hget hnx ?_ fun h' tk' dx ⟨k', ⟨t1, hx⟩, dn, dne, hns⟩ => ?_
  · show A.depth + 1 < recursionLimit
    exact hroom
  · have old : ∀ b o, hp.get? b = some o → h'.get? b = some o := fun b o e => k' b o (Nat.ne_of_lt (Nat.lt_succ_of_lt (Heap.lt_size e))) (k b o e)
    have z : hp.objs.size + 1 + 1 ≤ dx := by
      first
        | (simpa only [Heap.size_push] using dn)
        | exact dn
        | (have q := dn; rw [Heap.size_push, Heap.size_push] at q; exact q)
    exact ⟨rfl, hq h' tk' (hp.objs.size + 1) dx ⟨old, Nat.le_succ _, ⟨_, _, hx, rfl, rfl, rfl, rfl⟩, Nat.le_trans (Nat.le_trans (Nat.le_succ _) (Nat.le_succ _)) z, dne, hns⟩⟩
end
end SupX
end PySem
namespace Eb
open PySem PySem.Spec PyProof.Rows L2
theorem relO_fld {v : V} {v' : Value} {fld : Str} (r : RelV v v') (f : Str) : RelO (List.lookup f [(fld, v)]) (if f = fld then some v' else none) := by
  by_cases hw : f = fld
  · subst hw
    rw [if_pos rfl]
    have q : List.lookup f [(f, v)] = some v := by simp [List.lookup]
    rw [q]
    exact r
  · rw [if_neg hw]
    have qw : (f == fld) = false := by simpa using hw
    have q2 : List.lookup f [(fld, v)] = none := by simp [List.lookup, qw]
    rw [q2]
    trivial
section
variable {X : Cx} {C fI : Addr} {cn fld : Str}
/-- cn(e): the error, its dict at d -/
def tMkS (C : Addr) (fld : Str) (ta : TA) : L2.St → Hp → XK → Prop := fun σ H Q => ta σ H fun vs H1 => ∃ v, vs = [v] ∧ ∀ d, H1 d = none → Q (.ref C) (some d) (upd H1 d (.xd [(fld, v)]))
theorem pmk_sup {a : Expr} {ta : TA} {p pos : Pos} {k : Nat} {b : PySem.SupX.Bs} (T : PySem.SupX.SupTxt b X.prog X.K X.mg cn fld C fI) (hr : Room k X.A) (ha : PA X [a] ta) (hg : Gl X cn) (hdb : (cn == ("__debug__" : Str)) = false := by decide)
    (he : starEach (a :: []) X.env = (false, eval a X.env) :: starEach [] X.env := by rfl) (hpl : (backTo pos (starEach [] X.env)).any (·.1) = false := by rfl) :
    PMk X (.Call (.Name cn p) [a] [] pos) (tMkS C fld ta) := by
  intro pins s σ H Q I h
  refine wpAny_Call_Name_kw (ld_glob I hg T.gC ?_ hdb)
  refine PySem.W.callWith_K (h₀ := X.base) I.ok.mod.kin T.kC (thn (ha.run pos pins s σ H _ I h) fun us s1 hh => ?_) he hpl
  obtain ⟨vs, H1, I1, r1, v, ev, q1⟩ := hh
  subst ev
  refine ⟨I1.kIn, ?_⟩
  cases r1 with
  | cons rv rn =>
    rename_i v' us'
    cases rn
    show wpAny _ _ (call (.ref C) [v']) _ _ _
    have Md := I1.ok.mod
    have kb := I1.bk
    obtain ⟨hp, g, dr, tk, os⟩ := s1
    refine wpAny_call (PySem.SupX.sup_made T Md kb (by have := hr.dp; omega) fun h' tk' e d M => ?_)
    show MkP X pins σ Q (.ref e) ⟨h', g, dr, tk', os⟩
    obtain ⟨oe, fv, hoe, hc, hd, hdat, h1⟩ := M.obj
    have hns := M.ns
    obtain ⟨G', g1, g2⟩ := restrict h' fun b => decide (b ≠ e)
    have gk : ∀ b, b ≠ e → G'.get? b = h'.get? b := fun b hb => g1 b (decide_eq_true hb)
    have ge : G'.get? e = none := g2 e (by simp)
    have old : ∀ b o, hp.get? b = some o → G'.get? b = some o := fun b o q => (gk b (Nat.ne_of_lt (Nat.lt_of_lt_of_le (Heap.lt_size q) M.new))).trans (M.keep b o q)
    have ob : ObjOk X.prog X.w (upd H1 d (.xd [(fld, v)])) G' d (.xd [(fld, v)]) :=
      ⟨_, hns.at (fun o q => (gk d M.dne).trans q), fun f => relO_fld rv f⟩
    have J : Inv X pins σ (upd H1 d (.xd [(fld, v)])) ⟨G', g, dr, tk', os⟩ := I1.laid (t' := tk') old M.dbig ob
    refine ⟨e, oe, fv, ⟨G', g, dr, tk', os⟩, _, .ref C, some d, rfl, J, fun b o q => ?_, ge, hoe, ⟨hc, hd⟩, hdat, h1, ?_, rfl, I1.bare, raises_own T.exC T.tyC, q1 d (I1.hok.fresh M.dbig)⟩
    · by_cases hb : b = e
      · have q' : G'.get? b = some o := q
        rw [hb, ge] at q'; cases q'
      · exact (gk b hb).symm.trans q
    · rw [upd_ne (Ne.symm M.dne)]
      exact I1.hok.fresh M.new
/-- raise cn(e) -/
def tRaiseS (C : Addr) (fld : Str) (W : WX) (ta : TA) : TS := fun _ σ H => tMkS C fld ta σ H fun cls d H' => W cls d σ H'
theorem ps_raiseS {a : Expr} {ta : TA} {W : WX} {p pos pos2 : Pos} {k : Nat} (hc : X.calm = true) {b : PySem.SupX.Bs} (T : PySem.SupX.SupTxt b X.prog X.K X.mg cn fld C fI) (hr : Room k X.A) (tk : Takes X W) (ha : PA X [a] ta) (hg : Gl X cn) (hdb : (cn == ("__debug__" : Str)) = false := by decide)
    (he : starEach (a :: []) X.env = (false, eval a X.env) :: starEach [] X.env := by rfl) (hpl : (backTo pos (starEach [] X.env)).any (·.1) = false := by rfl) :
    PS X (.Raise (some (.Call (.Name cn p) [a] [] pos)) none pos2) (tRaiseS C fld W ta) := ps_raise hc tk (pmk_sup T hr ha hg hdb he hpl)
end
end Eb
namespace PySem.W
open PySem PySem.Spec PySem.Calls PyProof.Rows
section
variable {prog : Program} {w : World} {A : Around} {E : Value → Shared → Prop} {s : Shared} {K : Frag} {x D : Addr} {ox : Obj}
theorem kin_classD {od : Option Obj} {Q : Option Value → Shared → Prop} (hga : findIn K (.ref D) "__getattribute__" = some (some (.builtin "BaseException.__getattribute__"))) (hgt : findIn K (.ref D) "__getattr__" = some none) (hsub : subIn K (.ref D) (.type "BaseException") = some true)
    (hdct : hasDictIn K D = true) (ha : findIn K (.ref D) "__class__" = some (some (.builtin "object.__class__")))
    (hn : specialIn K (.builtin "object.__class__") "__get__" = some (some (.builtin "getset_descriptor.__get__"))) (htk : takesIn K (.builtin "object.__class__") = some true) (hm : mroIn K D (.type "object") = some true)
    (X : K.In s.heap) (I : InstAt s.heap x ox D od) (h : Q (some (.ref D)) { s with toks := s.toks + 1 }) : wpAny (model prog w) A (getAttr? (.ref x) "__class__") Q E s := by
  have hf : findObj K D od "__class__" = some (.bind (.builtin "getset_descriptor.__get__") (.builtin "object.__class__")) := by
    have z : (clsIn K D).isSome = true := by obtain ⟨cd, hc, _⟩ := any_some hdct; rw [hc]; rfl
    cases od with
    | none => exact findObj_dataN z ha hn htk
    | some o => exact findObj_data z ha hn htk
  obtain ⟨hp, g, d, t, os⟩ := s
  have L0 := I.type (M := model prog w)
  have L1 := looks_findIn (M := model prog w) X hga
  have L2 := looks_findIn (M := model prog w) X hgt
  have L3 := looks_find (M := model prog w) X I hf
  have sub : Looks (model prog w) hp (isInstance (.ref x) (.type "BaseException")) true := L0.andThen (looks_subIn X hsub)
  have hx0 : (false && onTheHeap (Value.builtin "BaseException.__getattribute__")) = false := rfl
  have hx2 : (Value.builtin "BaseException.__getattribute__" == Value.builtin "object.__getattribute__") = false := by decide +kernel
  have hx1 : (onTheHeap (Value.ref D) && Value.builtin "BaseException.__getattribute__" == Value.builtin "object.__getattribute__") = false := by rw [hx2]; rfl
  unfold getAttr? getAttrBy? getAttrBy
  refine wpAny_bind (wpAny_mkText (wpAny_bind (wpAny_attempt (wpAny_holding (wpAny_bind (L0.at (wpAny_bind (L1.at ?_))))))))
  show wpAny _ _ (if (onTheHeap (Value.ref D) && Value.builtin "BaseException.__getattribute__" == Value.builtin "object.__getattribute__") = true then _ else _) _ _ _
  rw [hx1, if_neg Bool.false_ne_true]
  unfold getAttrByItsOwn hookBefore
  refine wpAny_bind ?_
  rw [if_pos (show onTheHeap (Value.ref D) = true from rfl)]
  refine L2.at ?_
  refine wpAny_bind (wpAny_attempt (wpAny_holding ?_))
  unfold callGetattribute
  rw [hx0, if_neg Bool.false_ne_true]
  unfold boundAndCalled
  rw [PySem.F.excAttr_ValueError.ga.bind (.ref x)]
  refine wpAny_bind (wpAny_pure ?_)
  show wpAny _ _ (call (.builtin "BaseException.__getattribute__") [.ref x, .str "__class__" t]) _ _ _
  refine wpAny_call (codeAny_call_builtin PySem.F.excAttr_ValueError.ga.plain PySem.F.entry_bexc_ga ?_)
  refine @check_slot (model prog w) _ _ ⟨hp, g, d, t + 1, os⟩ "BaseException.__getattribute__" "BaseException" "__getattribute__" (.ref x) [.str "__class__" t] [] _ (by decide +kernel) (by decide +kernel) sub (PySem.F.args_bexc_ga (.ref x) (.str "__class__" t)) ?_
  unfold Builtin.«object.__getattribute__»
  refine wpAny_bind (wpAny_of_eq (a := ((Value.ref x : Value), [Value.str "__class__" t])) (by first | rfl | (simp only [slotArgs]; rfl)) ?_)
  refine wpAny_bind (wpAny_pure (wpAny_bind (L0.at (wpAny_bind (L3.at ?_)))))
  show wpAny _ _ (holding [Value.builtin "object.__class__"] (call (.builtin "getset_descriptor.__get__") [.builtin "object.__class__", .ref x, .ref D]) >>= ret) _ _ _
  refine wpAny_bind (wpAny_holding (wpAny_call (class_get (s := ⟨hp, g, d, t + 1, os⟩) (ox := ox) (od := od) X I hm ?_)))
  refine wpAny_pure ?_
  show wpAny _ _ (handedOut (.ref D)) _ _ _
  rw [handedOut_of (v := .ref D) rfl]
  first
    | exact wpAny_pure (wpAny_pure h)
    | exact wpAny_pure h
    | exact wpAny_pure (wpAny_bind (wpAny_pure (wpAny_pure h)))
theorem kitx_excD {od : Option Obj} (hga : findIn K (.ref D) "__getattribute__" = some (some (.builtin "BaseException.__getattribute__"))) (hgt : findIn K (.ref D) "__getattr__" = some none) (hsub : subIn K (.ref D) (.type "BaseException") = some true) (hdct : hasDictIn K D = true) (ha : findIn K (.ref D) "__class__" = some (some (.builtin "object.__class__")))
    (hn : specialIn K (.builtin "object.__class__") "__get__" = some (some (.builtin "getset_descriptor.__get__"))) (htk : takesIn K (.builtin "object.__class__") = some true) (hm : mroIn K D (.type "object") = some true) :
    KitX K (.ref x) (.ref D) (fun h => InstAt h x ox D od) where
  ty := fun _ _ _ I => I.type
  it := fun _ _ X _ => by
    obtain ⟨cdD, hcD, _⟩ := any_some hdct
    unfold clsIn at hcD
    split at hcD
    · rename_i c' d' cd' sl' ho
      intro A' Q' E' s' k q
      unfold isType loadHead
      exact wpAny_bind (wpAny_loadPart (k _ _ (X _ _ ho)) (wpAny_pure q))
    · cases hcD
  ne := fun h tp dd its n sl X htp => by
    obtain ⟨cdD, hcD, _⟩ := any_some hdct
    refine Bool.eq_false_iff.mpr fun q => ?_
    have e : D = tp := Value.ref.inj (beq_iff_eq.mp q)
    subst e
    unfold clsIn at hcD
    split at hcD
    · rename_i c' d' cd' sl' ho
      have z := (X _ _ ho).symm.trans htp
      cases z
    · cases hcD
  ca := fun X I k => kin_classD hga hgt hsub hdct ha hn htk hm X I k
end
end PySem.W
namespace Eb
open PySem PySem.Spec PyProof.Rows L2
/-- isinstance(e, (c1, c2, ..)), e the caught error at a, of the class at D, its dict laid -/
def rIsET (K : PySem.W.Frag) (a D : Addr) (cls : Value) (d : Option Addr) : List V → Hp → VK → Prop := fun xs H Q => cls = .ref D ∧ (∃ dd fs, d = some dd ∧ H dd = some (.xd fs)) ∧ ∃ (tp : Addr) (cs : List V) (us : List Value) (b : Bool),
  xs = [.ref a, .ref tp] ∧ H tp = some (.tup cs) ∧ Paired ClsV cs us ∧ PySem.W.kitAny K (.ref D) us = some b ∧ Q (.bl b) H
theorem call_isET {X : Cx} {a D : Addr} {oe : Obj} {cls : Value} {d : Option Addr} {pn : List (Addr × Obj)} (C : ExcC X.K D) (hz : Zc cls d oe) (hf : ∃ vs, oe.data = .fields vs) : CallR (X.suite a ((a, oe) :: pn)) (.builtin "isinstance") (rIsET X.K a D cls d) := by
  intro pins s σ H xs us Q I r h
  obtain ⟨ec, ⟨dd, fs, ed, hdd⟩, tp, cs, ws, b, rfl, hT, k, e, q⟩ := h
  subst ec
  subst ed
  obtain ⟨u1, u2, rfl, r1, r2⟩ := vals2 r
  cases (show u1 = Value.ref a from r1)
  cases (show u2 = Value.ref tp from r2)
  obtain ⟨hget, _⟩ := I.pin (a, oe) (List.mem_append.mpr (.inl List.mem_cons_self))
  obtain ⟨vs, hv⟩ := hf
  obtain ⟨mA, hns, _⟩ := (show ObjOk X.prog X.w H s.heap dd (.xd fs) from I.hok dd _ hdd)
  obtain ⟨od, ho, _⟩ := lookIn_ns hns
  have J : PySem.W.InstAt s.heap a oe D (some od) := ⟨hget, hz.1, by unfold PySem.W.notCls; rw [hv] <;> rfl, by rw [hz.2]; exact ho⟩
  obtain ⟨_, its, rv, o, h1, h2, n, h3⟩ := (show ObjOk X.prog X.w H s.heap tp (.tup cs) from I.hok tp _ hT)
  have e3 := ClsV.all k rv
  subst e3
  obtain ⟨oc, od', dt, sl⟩ := o
  simp only at h2 h3
  subst h2 h3
  exact PySem.W.kia_tup (PySem.W.kitx_excD C.hg C.hk C.hs C.hd C.ha C.hn C.ht C.hm) I.kIn J h1 e (fun z => nomatch z) fun tk => ⟨.bl b, H, I.tok tk, rfl, q⟩
end Eb

/-! ## own layer: errors: raised, caught, asked -/
namespace Eb
open PySem PySem.Spec PyProof.Rows L2
section
variable {Λ : Lx} {env : List Sl} {W : Ow} {σ : L2.St} {H : Hp}
theorem StOk.putE (S : StOk Λ env W σ H) {i : Nat} {a : Addr} {cls : Value} {od : Option Addr} {dx : DX} (r : RepX Λ.B (Λ.vis W H) dx cls od) : StOk Λ (env.set i (.er a cls od dx)) W (σ.set i (some (.ref a))) H where
  len := by rw [List.length_set, List.length_set]; exact S.len
  sl := fun j x e => by
    by_cases q : j = i
    · subst q
      have hj : j < env.length := by
        have := (List.getElem?_eq_some_iff.mp e).1
        rwa [List.length_set] at this
      rw [List.getElem?_set_self hj] at e
      cases e
      exact ⟨List.getElem?_set_self (by rw [S.len]; exact hj), r⟩
    · rw [List.getElem?_set_ne (Ne.symm q)] at e
      have z := S.sl j x e
      cases x with
      | un => trivial
      | va d =>
        obtain ⟨v, h1, h2⟩ := z
        exact ⟨v, by rw [List.getElem?_set_ne (Ne.symm q)]; exact h1, h2⟩
      | ow ds =>
        obtain ⟨p, vs, h0, h1, h2, h3, h4⟩ := z
        exact ⟨p, vs, h0, by rw [List.getElem?_set_ne (Ne.symm q)]; exact h1, h2, h3, h4⟩
      | se c ds =>
        obtain ⟨p, dx, gs, h0, h1, h2, h3, h4⟩ := z
        exact ⟨p, dx, gs, h0, by rw [List.getElem?_set_ne (Ne.symm q)]; exact h1, h2, h3, h4⟩
      | dl =>
        obtain ⟨d, l, h0, h1⟩ := z
        exact ⟨d, l, h0, by rw [List.getElem?_set_ne (Ne.symm q)]; exact h1⟩
      | er a cls od dx => obtain ⟨z1, z2⟩ := z; exact ⟨by rw [List.getElem?_set_ne (Ne.symm q)]; exact z1, z2⟩
  fr := S.fr
  mx := S.mx
  zx := S.zx
  wx := S.wx
  wi := S.wi
  dl := S.dl
  wf := S.wf
end
section
variable {X : Cx} {Λ : Lx} {w : WX} {a b c e o : Expr} {es : List Expr} {ta tb tc t : DE} {tA tB : DT} {u : DA} {pos p apos np pos' : Pos} {k : Nat} {y n x : Str}
/-- what a statement's own form asks -/
def cnS (Λ : Lx) (w : WX) (t : DS) : TS := fun E σ H => ∃ env W e, StOk Λ env W σ H ∧ Lnk Λ w W H E e ∧ t env e
theorem XSs.cn {ss : List Stmt} {t : DS} (h : XSs X Λ w ss t) (hK : X.K = Λ.B.K) : PSs X ss (cnS Λ w t) := by
  obtain ⟨te, p, s⟩ := h.ex hK
  exact ⟨fun pins s' σ H D I ⟨env, W, e, S, L, q⟩ => p.run pins s' σ H D I (s env W σ H D e S L q)⟩
/-! ### raise -/
def dRaise (c : Nat) (u : DA) : DS := fun env e => u env (fun ds => match ds with
  | [d] => e.ex env ⟨c, some d⟩
  | _ => False) (e.ex env)
theorem xs_raise {cc : Nat} {fI : Addr} {fld cn : Str} {pos2 : Pos} (hc : X.calm = true) {bb : PySem.SupX.Bs} (T : PySem.SupX.SupTxt bb X.prog X.K X.mg cn fld (Λ.B.C cc) fI) (hxf : Λ.B.xf cc = fld) (hr : Room k X.A) (tk : Takes X w) (ha : XA X Λ w [a] u) (hg : Gl X cn) (hdb : (cn == ("__debug__" : Str)) = false := by decide)
    (he : starEach (a :: []) X.env = (false, eval a X.env) :: starEach [] X.env := by rfl) (hpl : (backTo pos (starEach [] X.env)).any (·.1) = false := by rfl) :
    XS X Λ w (.Raise (some (.Call (.Name cn p) [a] [] pos)) none pos2) (dRaise cc u) := ⟨fun hK => by
  obtain ⟨ra, pa, sa⟩ := ha.ex hK
  refine ⟨_, ps_raiseS hc T hr tk pa hg hdb he hpl, fun env W σ H E e S L h => sa env W σ H _ _ (e.ex env) S L.xok h fun ds vs H1 h1 S1 e1 r1 => ?_⟩
  split at h1
  · rename_i d
    obtain ⟨v, rfl, rv⟩ := r1.one_inv
    refine ⟨v, rfl, fun d' hd => ?_⟩
    have sm := same_new (o := .xd [(fld, v)]) hd
    have ev := e1.trans (.of sm)
    refine L.ex env W σ _ ⟨cc, some d⟩ _ _ h1 (S1.grow sm) ev.vis ⟨rfl, d', v, rfl, ?_, rv.up (hid_same sm)⟩
    rw [hxf]
    exact hid_some.mpr ⟨S1.fresh hd, upd_same⟩
  · exact h1.elim⟩
theorem pmk_own0 {C : Addr} {B newId initId : String} {bmB : List Value} {x : Str} {p pos : Pos} (F : ExcBaseFacts B newId initId bmB) (q : PySem.W.excIn X.K C bmB newId = true) (gC : X.mg x = some (.ref C)) (kC : PySem.W.keepIn X.K (.ref C) = true) (r : Raises X (.ref C)) (hg : Gl X x)
    (hdb : (x == ("__debug__" : Str)) = false := by decide) : PMk X (.Call (.Name x p) [] [] pos) (fun _ H Q => Q (.ref C) none H) := by
  intro pins s σ H Q I h
  refine wpAny_Call_Name_kw (ld_glob I hg gC ?_ hdb)
  refine PySem.W.callWith_K0 I.kIn kC ?_
  show wpAny _ _ (call (.ref C) []) _ _ _
  obtain ⟨bm, N, nm, qn, bs, hdct, sn, sub, ab, col, dd, k0, k1, k2, k3, k5, mN, hC, hN, hni, T⟩ := exc_obj I.kIn q
  refine wpAny_call_exc_subT F T hC hN hni (fun h' e hm => ?_) (by show 0 ≤ sizeLine; exact Nat.zero_le _)
  exact mk_of I hm r h (I.hok.gone hm.new)
def dRaise0 (c : Nat) : DS := fun env e => e.ex env ⟨c, none⟩
theorem xs_raise0 {cc : Nat} {B newId initId : String} {bmB : List Value} {cn : Str} {pos2 : Pos} (hc : X.calm = true) (F : ExcBaseFacts B newId initId bmB) (q : PySem.W.excIn X.K (Λ.B.C cc) bmB newId = true) (gC : X.mg cn = some (.ref (Λ.B.C cc))) (kC : PySem.W.keepIn X.K (.ref (Λ.B.C cc)) = true) (r : Raises X (.ref (Λ.B.C cc))) (tk : Takes X w) (hg : Gl X cn) (hdb : (cn == ("__debug__" : Str)) = false := by decide) :
    XS X Λ w (.Raise (some (.Call (.Name cn p) [] [] pos)) none pos2) (dRaise0 cc) := ⟨fun hK => by
  refine ⟨_, ps_raise hc tk (pmk_own0 F q gC kC r hg hdb), fun env W σ H E e S L h => ?_⟩
  exact L.ex env W σ H ⟨cc, none⟩ _ _ h S (fun _ _ z => z) ⟨rfl, rfl⟩⟩
/-! ### try -/
/-- try .. except C as n; all: the errors that may come, cs: those that are caught -/
def dTryAs (all cs : List Nat) (i : Nat) (tB : DS) (tS : Addr → Value → Option Addr → DS) : DS := fun env e =>
  tB env { e with ex := fun env' dx => dx.c ∈ all ∧ iteB (cs.contains dx.c) (∀ a cls od, tS a cls od (env'.set i (.er a cls od dx)) { nx := fun env2 => e.nx (env2.set i .un), rt := e.rt, bk := fun env2 => e.bk (env2.set i .un), ct := fun env2 => e.ct (env2.set i .un), ex := fun _ _ => False }) (e.ex env' dx) }
theorem xs_tryAs {all cs : List Nat} {i : Nat} {c : Value} {body suite : List Stmt} {b₀ : Stmt} {tB : DS} {tS : Addr → Value → Option Addr → DS} (hs : X.stack = X.env :: X.outer) (hf : X.env.frame = some X.env.locals) (hN : X.N.Nodup) (hi : X.N[i]? = some n) (hln : X.env.kindOf n = some .local) (hc : Names X x c) (tk : Takes X w)
    (hcs : ∀ k ∈ all, PySem.W.exmOne X.K (.ref (Λ.B.C k)) c = some (cs.contains k))
    (hb : ∀ (W : WX) (pn : List (Addr × Obj)) (xe : Value → Shared → Prop), Takes (X.tr pn xe) W → PassesOwn (model X.prog X.w) X.A X.env xe → XSs (X.tr pn xe) Λ W body tB)
    (hsu : ∀ (a : Addr) (oe : Obj) (cls : Value) (d : Option Addr) (pn : List (Addr × Obj)), Zc cls d oe → (∃ vs, oe.data = .fields vs) → XSs (X.suite a ((a, oe) :: pn)) Λ w0 (b₀ :: suite) (tS a cls d)) :
    XS X Λ w (.Try body [.ExceptHandler (some (.Name x np)) (some n) (b₀ :: suite) pos'] [] [] pos) (dTryAs all cs i tB tS) := ⟨fun hK => by
  refine ⟨_, ps_try_as (i := i) (tb := fun W => cnS Λ W tB) (ts := fun a cls d => cnS Λ w0 (tS a cls d)) (Wout := w) hs hf hN hi hln hc tk (fun W pn xe t1 t2 => (hb W pn xe t1 t2).cn hK) (fun a oe cls d pn z1 z2 => (hsu a oe cls d pn z1 z2).cn hK), fun env W σ H E e S L h => ?_⟩
  unfold dTryAs at h
  refine ⟨env, W, _, S, ?_, h⟩
  refine ⟨L.nx, L.bk, L.ct, L.rt, fun env' W' σ' H' dx cv od hx S' sm rx => ?_⟩
  obtain ⟨ha, hx⟩ := hx
  have rc := rx.1
  refine ⟨cs.contains dx.c, by rw [rc]; exact hcs _ ha, fun hb a ha => ?_, fun hb => ?_⟩
  · rw [hb] at hx
    refine ⟨_, W', _, S'.putE rx, ?_, hx a cv od⟩
    exact ⟨fun env2 W2 σ2 H2 q S2 s2 => L.nx _ _ _ _ q S2.forget (sm.trans s2), fun env2 W2 σ2 H2 q S2 s2 => L.bk _ _ _ _ q S2.forget (sm.trans s2), fun env2 W2 σ2 H2 q S2 s2 => L.ct _ _ _ _ q S2.forget (sm.trans s2), L.rt, fun _ _ _ _ _ _ _ q => q.elim⟩
  · rw [hb] at hx
    exact L.ex _ _ _ _ _ _ _ hx S' sm rx⟩
/-- .. except C: -/
def dTry (all cs : List Nat) (tB tS : DS) : DS := fun env e =>
  tB env { e with ex := fun env' dx => dx.c ∈ all ∧ iteB (cs.contains dx.c) (tS env' { e with ex := fun _ _ => False }) (e.ex env' dx) }
theorem xs_try {all cs : List Nat} {c : Value} {body suite : List Stmt} {b₀ : Stmt} {tB tS : DS} (hs : X.stack = X.env :: X.outer) (hf : X.env.frame = some X.env.locals) (hc : Names X x c) (tk : Takes X w)
    (hcs : ∀ k ∈ all, PySem.W.exmOne X.K (.ref (Λ.B.C k)) c = some (cs.contains k))
    (hb : ∀ (W : WX) (pn : List (Addr × Obj)) (xe : Value → Shared → Prop), Takes (X.tr pn xe) W → PassesOwn (model X.prog X.w) X.A X.env xe → XSs (X.tr pn xe) Λ W body tB)
    (hsu : ∀ (a : Addr) (oe : Obj) (cls : Value) (d : Option Addr) (pn : List (Addr × Obj)), Zc cls d oe → (∃ vs, oe.data = .fields vs) → XSs (X.suite a ((a, oe) :: pn)) Λ w0 (b₀ :: suite) tS) :
    XS X Λ w (.Try body [.ExceptHandler (some (.Name x np)) none (b₀ :: suite) pos'] [] [] pos) (dTry all cs tB tS) := ⟨fun hK => by
  refine ⟨_, ps_try_only (tb := fun W => cnS Λ W tB) (ts := fun a cls d => cnS Λ w0 tS) (Wout := w) hs hf hc tk (fun W pn xe t1 t2 => (hb W pn xe t1 t2).cn hK) (fun a oe cls d pn z1 z2 => (hsu a oe cls d pn z1 z2).cn hK), fun env W σ H E e S L h => ?_⟩
  unfold dTry at h
  refine ⟨env, W, _, S, ?_, h⟩
  refine ⟨L.nx, L.bk, L.ct, L.rt, fun env' W' σ' H' dx cv od hx S' sm rx => ?_⟩
  obtain ⟨ha, hx⟩ := hx
  have rc := rx.1
  refine ⟨cs.contains dx.c, by rw [rc]; exact hcs _ ha, fun hb a ha => ?_, fun hb => ?_⟩
  · rw [hb] at hx
    refine ⟨env', W', _, S', ?_, hx⟩
    exact ⟨fun env2 W2 σ2 H2 q S2 s2 => L.nx _ _ _ _ q S2 (sm.trans s2), fun env2 W2 σ2 H2 q S2 s2 => L.bk _ _ _ _ q S2 (sm.trans s2), fun env2 W2 σ2 H2 q S2 s2 => L.ct _ _ _ _ q S2 (sm.trans s2), L.rt, fun _ _ _ _ _ _ _ q => q.elim⟩
  · rw [hb] at hx
    exact L.ex _ _ _ _ _ _ _ hx S' sm rx⟩
/-! ### the caught error -/
/-- e.f -/
def dErF (i : Nat) (a : Addr) (cls : Value) (od : Option Addr) (cc : Nat) : DE := fun env q _ => match env[i]? with
  | some (.er a' cls' od' dx) => a' = a ∧ cls' = cls ∧ od' = od ∧ dx.c = cc ∧ match dx.p with
    | some d => q d
    | none => False
  | _ => False
theorem xe_erf {i cc : Nat} {a : Addr} {oe : Obj} {cls : Value} {od : Option Addr} {pn : List (Addr × Obj)} {fld y : Str} {p : Pos} (T : XfC X.K (Λ.B.C cc)) (hno : PySem.W.findIn X.K (.ref (Λ.B.C cc)) fld = some none) (hxf : Λ.B.xf cc = fld) (hz : Zc cls od oe) (hf : ∃ vs, oe.data = .fields vs) (hv : PE (X.suite a ((a, oe) :: pn)) (.Name y p) (tVar i))
    (hb : attributeBase (.Name y p) fld X.env (eval (.Name y p) X.env) = eval (.Name y p) X.env := by rfl) : XE (X.suite a ((a, oe) :: pn)) Λ w (.Attribute (.Name y p) fld pos) (dErF i a cls od cc) := ⟨fun hK => by
  refine ⟨_, pe_xf T hno hz hf hv hb, fun env W σ H Q q x S hx h k => ?_⟩
  unfold dErF at h
  split at h
  · rename_i a' cls' od' dx he
    obtain ⟨rfl, rfl, rfl, rfl, h⟩ := h
    obtain ⟨s1, rx⟩ := S.sl i _ he
    obtain ⟨rc, rd⟩ := rx
    split at h
    · rename_i d ed
      rw [ed] at rd
      obtain ⟨dd, v, e1, e2, e3⟩ := rd
      refine ⟨_, s1, rfl, rc, dd, _, v, e1, (hid_some.mp e2).2, ?_, k d v H h S .refl e3⟩
      rw [hxf]
      simp [List.lookup]
    · exact h.elim
  · exact h.elim⟩
/-! ### isinstance of it -/
def rIsX (K : PySem.W.Frag) (a D : Addr) (cls : Value) (d : Option Addr) : List V → Hp → VK → Prop := fun xs H Q => cls = .ref D ∧ (∀ dd, d = some dd → ∃ fs, H dd = some (.xd fs)) ∧ ∃ (c : V) (b : Bool), xs = [.ref a, c] ∧ Q (.bl b) H ∧
  ((∃ u, ClsV c u ∧ PySem.W.kitOne K (.ref D) u = some b) ∨ ∃ (tp : Addr) (cs : List V) (us : List Value), c = .ref tp ∧ SqT K H tp cs ∧ Paired ClsV cs us ∧ PySem.W.kitAny K (.ref D) us = some b)
theorem call_isX {a D : Addr} {oe : Obj} {cls : Value} {d : Option Addr} {pn : List (Addr × Obj)} (C : ExcC X.K D) (hz : Zc cls d oe) (hf : ∃ vs, oe.data = .fields vs) : CallR (X.suite a ((a, oe) :: pn)) (.builtin "isinstance") (rIsX X.K a D cls d) := by
  intro pins s σ H xs us Q I r h
  obtain ⟨ec, hdd, c, b, rfl, q, h⟩ := h
  subst ec
  obtain ⟨u1, u2, rfl, r1, r2⟩ := vals2 r
  cases (show u1 = Value.ref a from r1)
  obtain ⟨hget, _⟩ := I.pin (a, oe) (List.mem_append.mpr (.inl List.mem_cons_self))
  obtain ⟨vs, hv⟩ := hf
  have J : ∃ od, PySem.W.InstAt s.heap a oe D od := by
    cases d with
    | none => exact ⟨none, hget, hz.1, by unfold PySem.W.notCls; rw [hv] <;> rfl, by rw [hz.2]; trivial⟩
    | some dd =>
      obtain ⟨fs, hfs⟩ := hdd dd rfl
      obtain ⟨mA, hns, _⟩ := (show ObjOk X.prog X.w H s.heap dd (.xd fs) from I.hok dd _ hfs)
      obtain ⟨od, ho, _⟩ := lookIn_ns hns
      exact ⟨some od, hget, hz.1, by unfold PySem.W.notCls; rw [hv] <;> rfl, by rw [hz.2]; exact ho⟩
  obtain ⟨od, J⟩ := J
  rcases h with ⟨u, hu, e⟩ | ⟨tp, cs, ws, rfl, hT, k, e⟩
  · have := hu.eq r2
    subst this
    exact PySem.W.kia_one (PySem.W.kitx_excD C.hg C.hk C.hs C.hd C.ha C.hn C.ht C.hm) I.kIn J e (fun z => nomatch z) fun tk => ⟨.bl b, H, I.tok tk, rfl, q⟩
  · cases (show u2 = Value.ref tp from r2)
    obtain ⟨its, rv, ⟨o, h1, h2, n, h3⟩, _⟩ := I.tuple hT
    have e3 := ClsV.all k rv
    subst e3
    obtain ⟨oc, od', dt, sl⟩ := o
    simp only at h2 h3
    subst h2 h3
    exact PySem.W.kia_tup (PySem.W.kitx_excD C.hg C.hk C.hs C.hd C.ha C.hn C.ht C.hm) I.kIn J h1 e (fun z => nomatch z) fun tk => ⟨.bl b, H, I.tok tk, rfl, q⟩
def isX1 (kn : List (Nat × Bool)) (tn : List (String × Bool)) : D → Option Bool
  | .cl k => kn.lookup k
  | .ty n => tn.lookup n
  | _ => none
def isXs (kn : List (Nat × Bool)) (tn : List (String × Bool)) : List D → Option Bool
  | [] => some false
  | d :: r => match isX1 kn tn d, isXs kn tn r with
    | some a, some b => some (a || b)
    | _, _ => none
def isXD (kn : List (Nat × Bool)) (tn : List (String × Bool)) : D → Option Bool
  | .tup ds => isXs kn tn ds
  | d => isX1 kn tn d
/-- what is known of the error's class -/
def IsaOk (B : Tb) (cc : Nat) (kn : List (Nat × Bool)) (tn : List (String × Bool)) : Prop := (∀ k b, kn.lookup k = some b → PySem.W.kitOne B.K (.ref (B.C cc)) (.ref (B.C k)) = some b) ∧ ∀ n b, tn.lookup n = some b → PySem.W.kitOne B.K (.ref (B.C cc)) (.type n) = some b
theorem isX1_ok {B : Tb} {cc : Nat} {kn : List (Nat × Bool)} {tn : List (String × Bool)} {H : Hp} {d : D} {v : V} {b : Bool} (o : IsaOk B cc kn tn) (r : Rep B H d v) (h : isX1 kn tn d = some b) : ∃ u, ClsV v u ∧ PySem.W.kitOne B.K (.ref (B.C cc)) u = some b := by
  unfold isX1 at h
  split at h
  · cases r
    exact ⟨_, .own _, o.1 _ _ h⟩
  · cases r
    exact ⟨_, .ty _, o.2 _ _ h⟩
  · cases h
theorem isXs_ok {B : Tb} {cc : Nat} {kn : List (Nat × Bool)} {tn : List (String × Bool)} {H : Hp} (o : IsaOk B cc kn tn) : ∀ {ds : List D} {vs : List V} {b : Bool}, RepL B H ds vs → isXs kn tn ds = some b → ∃ us, Paired ClsV vs us ∧ PySem.W.kitAny B.K (.ref (B.C cc)) us = some b
  | [], vs, b, r, h => by
    cases (show vs = [] from r)
    exact ⟨[], .nil, h⟩
  | d :: ds, vs, b, r, h => by
    obtain ⟨v, r', rfl, r1, r2⟩ := r
    unfold isXs at h
    split at h
    · rename_i b1 b2 e1 e2
      obtain ⟨u, c1, k1⟩ := isX1_ok o r1 e1
      obtain ⟨us, c2, k2⟩ := isXs_ok o r2 e2
      refine ⟨u :: us, .cons c1 c2, ?_⟩
      cases h
      unfold PySem.W.kitAny
      rw [k1]
      cases b1 with
      | true => rfl
      | false => exact k2
    · cases h
def dIsE (i : Nat) (a : Addr) (cls : Value) (od : Option Addr) (cc : Nat) (kn : List (Nat × Bool)) (tn : List (String × Bool)) (tb : DE) : DE := fun env q x => match env[i]? with
  | some (.er a' cls' od' dx) => a' = a ∧ cls' = cls ∧ od' = od ∧ dx.c = cc ∧ tb env (fun d => ∃ b, isXD kn tn d = some b ∧ q (.bl b)) x
  | _ => False
theorem xe_isE {i cc : Nat} {a : Addr} {oe : Obj} {cls : Value} {od : Option Addr} {pn : List (Addr × Obj)} {y1 : Str} {p1 : Pos} {kn : List (Nat × Bool)} {tn : List (String × Bool)} (C : ExcC X.K (Λ.B.C cc)) (o : IsaOk Λ.B cc kn tn) (hz : Zc cls od oe) (hf : ∃ vs, oe.data = .fields vs) (hg : Gl (X.suite a ((a, oe) :: pn)) "isinstance") (hm : X.mg "isinstance" = none) (hv : PE (X.suite a ((a, oe) :: pn)) (.Name y1 p1) (tVar i)) (hb : XE (X.suite a ((a, oe) :: pn)) Λ w b tb)
    (he : starEach [.Name y1 p1, b] X.env = (false, eval (.Name y1 p1) X.env) :: starEach [b] X.env := by rfl) (he2 : starEach [b] X.env = (false, eval b X.env) :: starEach [] X.env := by rfl) (hpl : (backTo pos (starEach [b] X.env)).any (·.1) = false := by rfl) :
    XE (X.suite a ((a, oe) :: pn)) Λ w (.Call (.Name "isinstance" p) [.Name y1 p1, b] [] pos) (dIsE i a cls od cc kn tn tb) := ⟨fun hK => by
  obtain ⟨rb, pb, sb⟩ := hb.ex hK
  refine ⟨_, pe_callB (call_isX C hz hf) hg hm bb_isinstance (pa_cons hv (pa_cons pb pa_nil he2) he) (by decide) (by decide) he hpl, fun env W σ H Q q x S hx h k => ?_⟩
  unfold dIsE at h
  split at h
  · rename_i a' cls' od' dx he
    obtain ⟨rfl, rfl, rfl, rfl, h⟩ := h
    obtain ⟨s1, rx⟩ := S.sl i _ he
    refine ⟨_, s1, sb env W σ H _ _ x S hx h fun d v H1 h1 S1 e1 r1 => ?_⟩
    obtain ⟨b', hb', hq⟩ := h1
    have rx' := rx.up e1.vis
    refine ⟨rx'.1, fun dd ed => ?_, v, b', rfl, k _ _ H1 hq S1 e1 rfl, ?_⟩
    · have z := rx'.2
      split at z
      · rw [ed] at z
        cases z
      · obtain ⟨a0, v0, z1, z2, z3⟩ := z
        rw [ed] at z1
        cases z1
        exact ⟨_, (hid_some.mp z2).2⟩
    · have hK' : X.K = Λ.B.K := hK
      rw [hK']
      unfold isXD at hb'
      split at hb'
      · obtain ⟨tp, vs, rfl, hT, rl⟩ := r1
        obtain ⟨us, c1, c2⟩ := isXs_ok o rl hb'
        exact .inr ⟨tp, vs, us, rfl, Same_seqT hid_le hT, c1, c2⟩
      · exact .inl (isX1_ok o r1 hb')
  · exact h.elim⟩
/-! ### calls of what may raise -/
/-- a def that may raise, called where it does not -/
theorem calm {P : Program} {w' : World} {K : PySem.W.Frag} {mg : Str → Option Value} {base : Heap} {f : Addr} {fd : FuncData} {ps : List Str} {B : Tb} {wp : DW} (F : FnOk P w' K mg base (L2.CX P w') k f fd ps (spF B wp)) : FnOk P w' K mg base CX0 k f fd ps (spF0 B wp) where
  len := fun vs H Q E ⟨Z, ds, q, h1, h2, h3, h4⟩ => F.len vs H Q E0 ⟨Z, ds, q, fun _ => False, h1, h2, h3, h4, fun _ _ _ _ z => z.elim⟩
  run := fun A outer s H args us vs Q E hr he hb hv ⟨Z, ds, q, h1, h2, h3, h4⟩ => codeAny_mono (F.run A outer s H args us vs Q E0 hr he hb hv ⟨Z, ds, q, fun _ => False, h1, h2, h3, h4, fun _ _ _ _ z => z.elim⟩) fun r s' hq => by
    cases r with
    | error e =>
      obtain ⟨_, _, _, _, _, _, _, _, _, _, _, _, z⟩ := hq
      exact z.elim
    | ok fl => cases fl <;> exact hq
def tMethS (C : Addr) (m : Str) (sp : Sp) (E : L2.St → XK) (ta : TE) (t : TA) : TE := fun σ H Q => tMeth C m sp [] (E σ) ta t σ H Q
theorem pe_methS {CX : CXT} {C f : Addr} {fd : FuncData} {ps : List Str} {sp : Sp} {E : L2.St → XK} {m : Str} {ta : TE} {t : TA} {pl : Sem Bool} (he : PE X o ta) (c : Cls X.K C) (hm : Meth X.K C m f) (F : FnOk X.prog X.w X.K X.mg X.base CX k f fd ps sp) (hr : Room k X.A) (hb : Binds X.K fd ps []) (hx : ∀ σ, PassesAt CX X σ (E σ)) (ha : PA X (e :: es) t)
    (hst : starEach (e :: es) X.env = (false, eval e X.env) :: starEach es X.env := by rfl) (hpl : (backTo pos (starEach es X.env)).any (·.1) = false := by rfl)
    (ht : eval (.Call (.Attribute o m apos) (e :: es) [] pos) X.env = (do
      let ov ← eval o X.env
      standAt apos.atName
      let (f, first) ← holding [ov] (getMethod ov m pl)
      callWith pos f first (backTo pos (starEach (e :: es) X.env)) (backToKw pos (keywordEach [] X.env))) := by rfl) :
    PE X (.Call (.Attribute o m apos) (e :: es) [] pos) (tMethS C m sp E ta t) := by
  refine ⟨fun pins s σ H Q I h => ?_⟩
  refine PySem.W.methodCall_KW (pl := pl) (thn (he.run pins s σ H _ I h) fun u s1 ⟨x, H1, I1, rx, a, dx, fs, ex, ea, l, q⟩ => ?_) ht
  subst ex
  obtain rfl : u = Value.ref a := rx
  refine getmeth_ok I1 ea c hm l ?_
  refine PySem.W.callWith_K (first := [.ref a]) (h₀ := X.base) I.ok.mod.kin hm.kp (thn (ha.run pos pins s1 σ H1 _ I1 q) fun us s2 ⟨vs, H2, I2, r, q2⟩ => ⟨I2.kIn, ?_⟩) hst hpl
  have q3 : sp (V.ref a :: (vs ++ [])) H2 Q (E σ) := q2
  rw [List.append_nil] at q3
  exact run_fnS (us := .ref a :: us) (vs := .ref a :: vs) F hr hb (hx σ) I2 (.cons rfl r) q3
def dM (c : Nat) (wp : DW) (t : DE) (u : DA) : DE := fun env q x => t env (fun d => match d with
  | .obj c' fs => c' = c ∧ u env (fun ds => wp (.obj c' fs :: ds) q x) x
  | _ => False) x
theorem xe_methX {c : Nat} {f : Addr} {fd : FuncData} {ps : List Str} {wp : DW} {m : Str} {pl : Sem Bool} (tk : Takes X w) (he : XE X Λ w o t) (cl : Cls X.K (Λ.B.C c)) (hm : Meth X.K (Λ.B.C c) m f) (hf : (Λ.B.fl c).contains m = false) (F : FnOk X.prog X.w X.K X.mg X.base (L2.CX X.prog X.w) k f fd ps (spF Λ.B wp)) (hr : Room k X.A) (hb : Binds X.K fd ps []) (ha : XA X Λ w (e :: es) u)
    (hst : starEach (e :: es) X.env = (false, eval e X.env) :: starEach es X.env := by rfl) (hpl : (backTo pos (starEach es X.env)).any (·.1) = false := by rfl)
    (ht : eval (.Call (.Attribute o m apos) (e :: es) [] pos) X.env = (do
      let ov ← eval o X.env
      standAt apos.atName
      let (f, first) ← holding [ov] (getMethod ov m pl)
      callWith pos f first (backTo pos (starEach (e :: es) X.env)) (backToKw pos (keywordEach [] X.env))) := by rfl) : XE X Λ w (.Call (.Attribute o m apos) (e :: es) [] pos) (dM c wp t u) := ⟨fun hK => by
  obtain ⟨r, p, s⟩ := he.ex hK
  obtain ⟨r', p', s'⟩ := ha.ex hK
  refine ⟨_, pe_methS p cl hm F hr hb (fun σ => passAt tk σ) p' hst hpl ht, fun env W σ H Q q x S hx h k => s env W σ H _ _ x S hx h fun d v H1 h1 S1 e1 r1 => ?_⟩
  cases d <;> first | exact h1.elim | skip
  rename_i c' fs
  obtain ⟨rfl, h1⟩ := h1
  obtain ⟨a, dx, gs, rfl, hg, en, rl⟩ := id r1
  refine ⟨a, dx, gs, rfl, hid_le _ _ hg, noF en hf, s' env W σ H1 _ _ x S1 (hx.on e1) h1 fun ds vs H2 h2 S2 e2 r2 => ?_⟩
  rw [List.append_nil]
  exact ⟨Λ.G W, _ :: ds, q, x, hG S2, RepL.cons (r1.up e2.vis) r2, h2, fun d v H' hd s rp => k d v H' hd (S2.grow s) ((e1.trans e2).trans (.of s)) rp, fun dx cv od H' hd s rp => hx dx cv od H' hd (S2.grow s) ((e1.trans e2).trans (.of s)) rp⟩⟩
theorem run_fnRS {CX : CXT} {f : Addr} {sp : Sp} {E : L2.St → XK} {Q : VK} {us : List Value} {vs : List V} {pins : List (Addr × Obj)} {σ : L2.St} {H : Hp} {s : Shared} (F : FnR X.prog X.w X.K X.mg X.base CX k f sp) (hr : Room k X.A) (hx : PassesAt CX X σ (E σ)) (I : Inv X pins σ H s) (r : Vals vs us) (h : sp vs H Q (E σ)) :
    codeAny (model X.prog X.w) X.A (.call (.ref f) ⟨us, []⟩) (fun r s' => match r with | .ok (.ret v) => EP X pins σ Q v s' | .ok _ => False | .error e => X.xe e s') s := by
  refine codeAny_mono (F X.A X.stack s H us vs Q (E σ) hr I.env0 r h) fun r s' hq => ?_
  cases r with
  | error e => exact hx pins H s e s' I hq
  | ok fl =>
    cases fl with
    | ret u => exact I.after hq
    | next => exact False.elim hq
    | brk => exact False.elim hq
    | cont => exact False.elim hq
theorem pe_cmethS {CX : CXT} {C g p' : Addr} {mc : Value} {sp : Sp} {E : L2.St → XK} {m : Str} {ta : TE} {t : TA} {pl : Sem Bool} (he : PE X o ta) (r : ClX.CRead X.K C mc) (c : ClX.CMet X.K C mc m p' g) (F : FnR X.prog X.w X.K X.mg X.base CX k g sp) (hr : Room k X.A) (hx : ∀ σ, PassesAt CX X σ (E σ)) (ha : PA X (e :: es) t)
    (hst : starEach (e :: es) X.env = (false, eval e X.env) :: starEach es X.env := by rfl) (hpl : (backTo pos (starEach es X.env)).any (·.1) = false := by rfl)
    (ht : eval (.Call (.Attribute o m apos) (e :: es) [] pos) X.env = (do
      let ov ← eval o X.env
      standAt apos.atName
      let (f, first) ← holding [ov] (getMethod ov m pl)
      callWith pos f first (backTo pos (starEach (e :: es) X.env)) (backToKw pos (keywordEach [] X.env))) := by rfl) :
    PE X (.Call (.Attribute o m apos) (e :: es) [] pos) (fun σ H Q => ClX.tCMeth C sp (E σ) ta t σ H Q) := by
  refine ⟨fun pins s σ H Q I h => ?_⟩
  refine PySem.W.methodCall_KW (pl := pl) (thn (he.run pins s σ H _ I h) fun u s1 ⟨x, H1, I1, rx, ex, q⟩ => ?_) ht
  subst ex
  obtain rfl : u = Value.ref C := rx
  refine ClX.getmethcm_ok I1 r c fun s2 I2 => ?_
  refine ClX.callwith_cm I2 (ClX.base_none I1 (Nat.le_refl _)) c.fi (thn (ha.run pos _ s2 σ H1 _ I2 q) fun us s3 ⟨vs, H2, I3, rv, q2⟩ => ⟨⟨ClX.pin_at I3, I3.kIn⟩, ?_⟩) hst hpl
  exact thn (wpAny_call (PySem.W.method_call (ClX.pin_at I3) (run_fnRS (us := .ref C :: us) (vs := .ref C :: vs) F hr (hx σ) I3 (.cons rfl rv) q2))) fun _ _ y => ClX.unpinE y
def dCMX (cc : Nat) (wp : DW) (u : DA) : DE := fun env q x => u env (fun ds => wp (.cl cc :: ds) q x) x
theorem xe_cmethX {cc : Nat} {f : Addr} {fd : FuncData} {ps : List Str} {wp : DW} {m : Str} {pl : Sem Bool} (tk : Takes X w) (hg : Gl X y) (hm : X.mg y = some (.ref (Λ.B.C cc))) (hcm : ∃ mc pm, ClX.CRead X.K (Λ.B.C cc) mc ∧ ClX.CMet X.K (Λ.B.C cc) mc m pm f) (F : FnOk X.prog X.w X.K X.mg X.base (L2.CX X.prog X.w) k f fd ps (spF Λ.B wp)) (hr : Room k X.A) (hb : Binds X.K fd ps []) (ha : XA X Λ w (e :: es) u) (hdb : (y == ("__debug__" : Str)) = false := by decide)
    (hst : starEach (e :: es) X.env = (false, eval e X.env) :: starEach es X.env := by rfl) (hpl : (backTo pos (starEach es X.env)).any (·.1) = false := by rfl)
    (ht : eval (.Call (.Attribute (.Name y p) m apos) (e :: es) [] pos) X.env = (do
      let ov ← eval (.Name y p) X.env
      standAt apos.atName
      let (f, first) ← holding [ov] (getMethod ov m pl)
      callWith pos f first (backTo pos (starEach (e :: es) X.env)) (backToKw pos (keywordEach [] X.env))) := by rfl) : XE X Λ w (.Call (.Attribute (.Name y p) m apos) (e :: es) [] pos) (dCMX cc wp u) := ⟨fun hK => by
  obtain ⟨ra, pa, sa⟩ := ha.ex hK
  obtain ⟨mc, pm, r, cm⟩ := hcm
  refine ⟨_, pe_cmethS (E := fun σ => WE w σ) (pe_glob (v := .ref (Λ.B.C cc)) hg hm rfl hdb) r cm (raw0 F hb) hr (fun σ => passAt tk σ) pa hst hpl ht, fun env W σ H Q q x S hx h k => ⟨rfl, sa env W σ H _ _ x S hx h fun ds vs H1 h1 S1 e1 r1 => ?_⟩⟩
  exact ⟨Λ.G W, .cl cc :: ds, q, x, hG S1, RepL.cons rfl r1, h1, fun d v H' hd s rp => k d v H' hd (S1.grow s) (e1.trans (.of s)) rp, fun dx cv od H' hd s rp => hx dx cv od H' hd (S1.grow s) (e1.trans (.of s)) rp⟩⟩
end
end Eb

/-! ## own layer: an own == of any value on the right; an __init__ that raises; an instance that is called and raises -/
namespace Eb
open PySem PySem.Spec PyProof.Rows L2 StX
section
variable {X : Cx} {CX : CXT} {n : Nat} {C g : Addr} {sp : Sp} {E : XK}
def rEA (K : PySem.W.Frag) (C : Addr) (sp : Sp) (E : XK) : R2 := fun x y H Q => ∃ a t, x = .ref a ∧ InsO H a C ∧ TyX K H y t ∧ PySem.W.notFirst K C t = true ∧ sp [.ref a, y] H Q E
theorem op_eqA {op : CmpOp} (hop : ∀ a b, compareOp op a b = richCompare op a b) (hs : PySem.W.findIn X.K (.ref C) (cmpInfo op).2.1 = some (some (.ref g))) (hf : PySem.W.isFn X.K (.ref g) = true) (F : FnR X.prog X.w X.K X.mg X.base CX n g sp)
    (hr : Room n X.A) (hx : Passes CX X E) : OpR X (compareOp op) (rEA X.K C sp E) := by
  intro pins s σ H x y v u Q I rx ry h
  obtain ⟨a, t, rfl, ha, ty, hn, q⟩ := h
  cases (show v = Value.ref a from rx)
  obtain ⟨ox, od, J⟩ := insO_at I ha
  obtain ⟨P, kx, hP, _⟩ := kit_of I ry ty
  obtain ⟨m, hF⟩ := I.fr
  rw [hop]
  refine PySem.W.cmp_K (op := op) (tb := t) hr.units0 hF I.ok.mod.kin J (kx.ty _ _ I.kIn hP) hn hs hf ?_
  refine wpAny_mono (wpAny_call (run_fnR (us := [.ref a, u]) (vs := [.ref a, y]) F hr hx I (.cons rfl (.cons ry .nil)) q)) (fun w s' z => ?_) fun _ _ x => x
  obtain ⟨z', H', I', rz, qz⟩ := z
  exact SlX.cmpback rz ⟨z', H', I', rz, qz⟩
end
section
variable {X : Cx} {Λ : Lx} {w : WX} {wp : DW}
/-- what is known of the classes: no built-in one comes first, nor those of cs -/
def EqaOk (B : Tb) (c : Nat) (cs : List Nat) : Prop := (∀ m ∈ ["NoneType", "bool", "int", "str", "list", "tuple"], PySem.W.notFirst B.K (B.C c) (.type m) = true) ∧ ∀ c' ∈ cs, InsOk B c' ∧ PySem.W.notFirst B.K (B.C c) (.ref (B.C c')) = true
def eqAD (c : Nat) (cs : List Nat) (wp : DW) : D → D → DK := fun d e q _ => match d with
  | .obj c1 f1 => c1 = c ∧ (match e with
    | .obj c2 f2 => c2 ∈ cs ∧ wp [.obj c1 f1, .obj c2 f2] q (fun _ => False)
    | .cl _ => False
    | .ty _ => False
    | e => wp [.obj c1 f1, e] q (fun _ => False))
  | _ => False
theorem snd_eqA {c : Nat} {cs : List Nat} {E : XK} (o : EqaOk Λ.B c cs) : SndR Λ w (rEA Λ.B.K (Λ.B.C c) (spF0 Λ.B wp) E) (eqAD c cs wp) := fun env W σ H d e v u Q q x S hx r1 r2 h k => by
  cases d <;> first | exact h.elim | skip
  obtain ⟨rfl, h⟩ := h
  obtain ⟨a1, rfl, i1⟩ := rep_ins r1
  cases e with
  | cl _ => exact h.elim
  | ty _ => exact h.elim
  | obj c2 f2 =>
    obtain ⟨hc, h⟩ := h
    obtain ⟨o1, o2⟩ := o.2 _ hc
    exact ⟨a1, _, rfl, i1, rep_tyO o1 (r2.up hid_le), o2, call0 S (RepL.cons r1 (RepL.cons r2 RepL.nil)) h k⟩
  | non => exact ⟨a1, _, rfl, i1, rep_tyX (r2.up hid_le) rfl, o.1 _ (by simp), call0 S (RepL.cons r1 (RepL.cons r2 RepL.nil)) h k⟩
  | bl _ => exact ⟨a1, _, rfl, i1, rep_tyX (r2.up hid_le) rfl, o.1 _ (by simp), call0 S (RepL.cons r1 (RepL.cons r2 RepL.nil)) h k⟩
  | int _ => exact ⟨a1, _, rfl, i1, rep_tyX (r2.up hid_le) rfl, o.1 _ (by simp), call0 S (RepL.cons r1 (RepL.cons r2 RepL.nil)) h k⟩
  | str _ => exact ⟨a1, _, rfl, i1, rep_tyX (r2.up hid_le) rfl, o.1 _ (by simp), call0 S (RepL.cons r1 (RepL.cons r2 RepL.nil)) h k⟩
  | lst _ => exact ⟨a1, _, rfl, i1, rep_tyX (r2.up hid_le) rfl, o.1 _ (by simp), call0 S (RepL.cons r1 (RepL.cons r2 RepL.nil)) h k⟩
  | tup _ => exact ⟨a1, _, rfl, i1, rep_tyX (r2.up hid_le) rfl, o.1 _ (by simp), call0 S (RepL.cons r1 (RepL.cons r2 RepL.nil)) h k⟩
theorem ho_eqA {CX : CXT} {n c : Nat} {g : Addr} {sp : Sp} {E : XK} (hs : PySem.W.findIn X.K (.ref (Λ.B.C c)) "__eq__" = some (some (.ref g))) (hf : PySem.W.isFn X.K (.ref g) = true) (F : FnR X.prog X.w X.K X.mg X.base CX n g sp) (hr : Room n X.A) (hx : Passes CX X E) :
    X.K = Λ.B.K → OpR X (compareOp .Eq) (rEA Λ.B.K (Λ.B.C c) sp E) := fun hK => hK ▸ op_eqA (op := .Eq) (fun _ _ => rfl) hs hf F hr hx
end
/-! ### an __init__ that may raise -/
def spI (B : Tb) (c : Nat) (wp : DWI) : Sp := fun vs H Q E => ∃ (Z : Addr → Prop) (ds : List D) (q : List D → Prop) (x : DX → Prop) (p dx : Addr) (vr : List V), vs = .ref p :: vr ∧ H p = some (.ins (B.C c) dx []) ∧ ¬ Z p ∧ (∀ a, Z a → H a ≠ none) ∧ RepL B (hid (fun a => Z a ∨ a = p) H) ds vr ∧
  wp ds q x ∧ (∀ fs H' dy gs, q fs → (∀ a o, a ≠ p → H a = some o → H' a = some o) → H' p = some (.ins (B.C c) dy gs) → gs.map (·.1) = B.fl c → RepL B (hid (fun a => Z a ∨ a = p) H') fs (gs.map (·.2)) → Q .non H') ∧
  ∀ dxx cv od H', x dxx → (∀ a o, a ≠ p → H a = some o → H' a = some o) → H' p ≠ none → RepX B (hid (fun a => Z a ∨ a = p) H') dxx cv od → E cv od H'
section
variable {P : Program} {w' : World} {K : PySem.W.Frag} {mg : Str → Option Value} {base : Heap} {name qual : Str} {st : Stmt} {f : Addr} {fd : FuncData} {N ps : List Str} {k : Nat} {B : Tb}
theorem initLX {Z : Addr → Prop} {H : Hp} {c n : Nat} {p dx : Addr} {q : List D → Prop} {x : DX → Prop} {Q : VK} {E : XK} (hp : H p = some (.ins (B.C c) dx [])) (hfl : (B.fl c).length = n)
    (kq : ∀ fs H' dy gs, q fs → (∀ a o, a ≠ p → H a = some o → H' a = some o) → H' p = some (.ins (B.C c) dy gs) → gs.map (·.1) = B.fl c → RepL B (hid (fun a => Z a ∨ a = p) H') fs (gs.map (·.2)) → Q .non H')
    (kx : ∀ dxx cv od H', x dxx → (∀ a o, a ≠ p → H a = some o → H' a = some o) → H' p ≠ none → RepX B (hid (fun a => Z a ∨ a = p) H') dxx cv od → E cv od H') :
    Lnk ⟨B, Z, fun a => a = p, H, none⟩ (fun cls d _ H => E cls d H) (wput (fun _ => none) 0 (some p)) H { nx := fun _ H' => Q .non H', rt := Q } (endsI c n q x) := by
  have L := initL (q := q) (Q := Q) hp hfl kq
  refine ⟨L.nx, fun _ _ _ _ z => z.elim, fun _ _ _ _ z => z.elim, fun _ _ _ _ _ _ z => z.elim, fun env' W' σ' H' dxx cv od hx S' _ rx => ?_⟩
  refine kx dxx cv od H' hx (fun a o n h => S'.fr a o n h) (S'.mx p rfl) ?_
  have up : Same ((⟨B, Z, fun a => a = p, H, none⟩ : Lx).vis W' H') (hid (fun a => Z a ∨ a = p) H') := hid_anti fun a z => by
    rcases z with z | z
    · exact .inl z
    · exact .inr (.inl z)
  exact rx.up up
end
section
variable {P : Program} {w' : World} {K : PySem.W.Frag} {mg : Str → Option Value} {base : Heap} {name qual : Str} {st : Stmt} {f : Addr} {fd : FuncData} {N ps : List Str} {k : Nat} {B : Tb}
theorem fnIX (F : Fun K name qual st f fd) (S : FnScope N ps (defScope st)) {t : DS} {c nf n m : Nat} (hn : ps.length = n + 1) (hN : N.length = n + 1 + m) (hK : K = B.K) (hfl : (B.fl c).length = nf)
    (body : ∀ (cdv : Value) (A : Around) (outer : List Env) (s : Shared) (H : Hp) (E : XK) (Z M : Addr → Prop) (H0 : Hp) (dl : Option (Addr × Addr)), Room k (A.deeper (envOfC qual (defScope st) s.heap.objs.size f cdv)) →
      XSs (cxOf (L2.CX P w') P w' K mg base N qual (defScope st) f cdv A outer s H E) ⟨B, Z, M, H0, dl⟩ (fun cls d _ H => E cls d H) (defBody st) t) : FnOk P w' K mg base (L2.CX P w') (k + 1) f fd ps (spI B c (wpOfI c nf n m t)) := by
  refine F.okX S (fun vs H Q E ⟨Z, ds, _, _, p, dx, vr, e, _, _, _, r, h, _⟩ => by rw [e, List.length_cons, r.len, h.1, hn]) fun cdv A outer s H vs Q E hr ⟨Z, ds, q, x, p, dx, vr, e, hp, hz, hZ, r, ⟨hl, ht⟩, kq, kx⟩ => ?_
  subst e
  exact run_body (body cdv A outer s H E Z (fun a => a = p) H none hr) hK (st_startI hp hz hZ r (by rw [hl]; exact hN)) (initLX hp hfl kq kx) ht
end
abbrev spKX (B : Tb) (cc : Nat) (wp : DWI) (dv : V) : List V → Option V → Hp → VK → XK → Prop := fun vs ov H Q E => ∃ a rest, vs = a :: rest ∧ rest.length ≤ sizeLine ∧ ∀ p, H p = Option.none → spI B cc wp [a, ov.getD dv, V.ref p] (upd H p (.tup rest)) Q E
theorem fnKX {P : Program} {w' : World} {K : PySem.W.Frag} {mg : Str → Option Value} {base : Heap} {name qual : Str} {params : Arguments} {body : List Stmt} {scope : Scope} {doc pm cdv ct oc : Value} {an od : Option Addr} {Dk : Addr} {osl : Array (Option Value)} {N : List Str} {p1 kn pn : Str} {du : Value} {dv : V} {B : Tb} {f : Addr} {k : Nat}
    (lk : K.lookup f = some ⟨oc, od, .func (PySem.W.fnOf name qual params body scope .none (.ref Dk) doc pm an cdv ct), osl⟩) (hcd : PySem.W.codeIn K cdv qual = true) (S : FnScope N [p1, kn, pn] scope) (hD : PySem.W.nsIn K Dk kn = some (some du)) (rd : RelV dv du)
    (hb1 : ∀ (a o : Value) (rest : List Value), bindArgs (PySem.W.fnOf name qual params body scope .none (.ref Dk) doc pm an cdv ct) ⟨a :: rest, [(kn, o)]⟩ = (newTuple rest >>= fun t => pure [(p1, a), (kn, o), (pn, t)]))
    (hb0 : ∀ (a : Value) (rest : List Value), KwTup Dk kn du rest (bindArgs (PySem.W.fnOf name qual params body scope .none (.ref Dk) doc pm an cdv ct) ⟨a :: rest, []⟩) (fun t => [(p1, a), (kn, du), (pn, t)]))
    {t : DS} {cc nf m : Nat} (hN : N.length = 2 + 1 + m) (hK : K = B.K) (hfl : (B.fl cc).length = nf)
    (hbody : ∀ (A : Around) (outer : List Env) (s : Shared) (H : Hp) (E : XK) (Z M : Addr → Prop) (H0 : Hp) (dl : Option (Addr × Addr)), Room k (A.deeper (envOfC qual scope s.heap.objs.size f cdv)) →
      XSs (cxOf (L2.CX P w') P w' K mg base N qual scope f cdv A outer s H E) ⟨B, Z, M, H0, dl⟩ (fun cls d _ H => E cls d H) body t) : FnK P w' K mg base (L2.CX P w') (k + 1) f kn (spKX B cc (wpOfI cc nf 2 m t) dv) := by
  refine fn_ko lk hcd S ?_ hD rd hb1 hb0 fun A outer s H vs Q E hr ⟨Z, ds, q, x, p, dx, vr, e, hp, hz, hZ, r, ⟨hl, ht⟩, kq, kx⟩ => ?_
  · exact cxUp
  · subst e
    exact run_body (hbody A outer s H E Z (fun a => a = p) H none hr) hK (st_startI hp hz hZ r (by rw [hl]; exact hN)) (initLX hp hfl kq kx) ht
/-- such an __init__ where it does not raise -/
theorem calmK {P : Program} {w' : World} {K : PySem.W.Frag} {mg : Str → Option Value} {base : Heap} {f : Addr} {k : Nat} {B : Tb} {kn : Str} {cc : Nat} {wp : DWI} {dv : V} (F : FnK P w' K mg base (L2.CX P w') k f kn (spKX B cc wp dv)) : FnK P w' K mg base CX0 k f kn (spK B cc wp dv) :=
  fun A outer s H us ou vs ov Q E hr he r ro ⟨a, rest, ev, hl, h⟩ => codeAny_mono (F A outer s H us ou vs ov Q E0 hr he r ro ⟨a, rest, ev, hl, fun p hp => by
    obtain ⟨Z, ds, q, p', dx, vr, e, z1, z2, z3, z4, z5, z6⟩ := h p hp
    exact ⟨Z, ds, q, fun _ => False, p', dx, vr, e, z1, z2, z3, z4, z5, z6, fun _ _ _ _ z => z.elim⟩⟩) fun r s' hq => by
    cases r with
    | error e =>
      obtain ⟨_, _, _, _, _, _, _, _, _, _, _, _, z⟩ := hq
      exact z.elim
    | ok fl => cases fl <;> exact hq
section
variable {X : Cx} {CX : CXT} {k : Nat} {f C g : Addr} {kn : Str} {spk : List V → Option V → Hp → VK → XK → Prop} {sp : Sp} {E : L2.St → XK} {x : Str} {e y o : Expr} {es : List Expr} {kws : List Keyword} {t tk : TA} {te ta : TE} {p p2 pos : Pos}
theorem run_makeOS {pins : List (Addr × Obj)} {σ : L2.St} {H : Hp} {s : Shared} {Q : VK} {us : List Value} {ou : Option Value} {vs : List V} {ov : Option V} {E : XK} (M : Mk X.K C f) (F : FnK X.prog X.w X.K X.mg X.base CX k f kn spk) (hr : Room (k + 1) X.A) (hx : PassesAt CX X σ E) (I : Inv X pins σ H s) (r : Vals vs us) (ro : RelO ov ou)
    (h : mkO C spk E vs ov H Q) : wpAny (model X.prog X.w) X.A (call (.ref C) us (kwOf kn ou)) (EP X pins σ Q) X.xe s := by
  have hq := h (s.heap.objs.size + 1) s.heap.objs.size (I.hok.fresh (Nat.le_succ _)) (I.hok.fresh (Nat.le_refl _)) (Nat.ne_of_lt (Nat.lt_succ_self _))
  have I2 := Inv.made (C := C) I
  have r2 : Vals (V.ref (s.heap.objs.size + 1) :: vs) (Value.ref (s.heap.objs.size + 1) :: us) := .cons rfl r
  refine wpAny_call (make_map (f := f) I.kIn M.makes M.init (beq_iff_eq.mp M.fn) (codeAny_mono (F _ X.stack _ _ (Value.ref (s.heap.objs.size + 1) :: us) ou _ _ _ E (hr.make C us (kwOf kn ou)) (I2.env0.make C us (kwOf kn ou)) r2 ro hq) fun r s' hq' => ?_))
  cases r with
  | error e => exact hx pins _ _ e s' I2 hq'
  | ok fl =>
    cases fl with
    | ret u =>
      obtain ⟨v, H', I3, rv, ev, q3⟩ := I2.after hq'
      subst ev
      exact ⟨rv, ⟨V.ref (s.heap.objs.size + 1), H', I3, rfl, q3⟩⟩
    | next => exact False.elim hq'
    | brk => exact False.elim hq'
    | cont => exact False.elim hq'
/-- .. by a plain promise -/
theorem run_makeRS {pins : List (Addr × Obj)} {σ : L2.St} {H : Hp} {s : Shared} {Q : VK} {us : List Value} {vs : List V} {E : XK} (M : Mk X.K C f) (F : FnR X.prog X.w X.K X.mg X.base CX k f sp) (hr : Room (k + 1) X.A) (hx : PassesAt CX X σ E) (I : Inv X pins σ H s) (r : Vals vs us)
    (h : ∀ x dx, H x = none → H dx = none → dx ≠ x → sp (.ref x :: vs) (upd (upd H dx (.own x)) x (.ins C dx [])) (fun v H2 => v = .non ∧ Q (.ref x) H2) E) : wpAny (model X.prog X.w) X.A (call (.ref C) us) (EP X pins σ Q) X.xe s := by
  have hq := h (s.heap.objs.size + 1) s.heap.objs.size (I.hok.fresh (Nat.le_succ _)) (I.hok.fresh (Nat.le_refl _)) (Nat.ne_of_lt (Nat.lt_succ_self _))
  have I2 := Inv.made (C := C) I
  have r2 : Vals (V.ref (s.heap.objs.size + 1) :: vs) (Value.ref (s.heap.objs.size + 1) :: us) := .cons rfl r
  refine wpAny_call (make_map (f := f) I.kIn M.makes M.init (beq_iff_eq.mp M.fn) (codeAny_mono (F _ X.stack _ _ (Value.ref (s.heap.objs.size + 1) :: us) _ _ E (hr.make C us []) (I2.env0.make C us []) r2 hq) fun r s' hq' => ?_))
  cases r with
  | error e => exact hx pins _ _ e s' I2 hq'
  | ok fl =>
    cases fl with
    | ret u =>
      obtain ⟨v, H', I3, rv, ev, q3⟩ := I2.after hq'
      subst ev
      exact ⟨rv, ⟨V.ref (s.heap.objs.size + 1), H', I3, rfl, q3⟩⟩
    | next => exact False.elim hq'
    | brk => exact False.elim hq'
    | cont => exact False.elim hq'
theorem pe_makeRS (M : Mk X.K C f) (F : FnR X.prog X.w X.K X.mg X.base CX k f sp) (hr : Room (k + 1) X.A) (hg : Gl X x) (hm : X.mg x = some (.ref C)) (hx : ∀ σ, PassesAt CX X σ (E σ)) (ha : PA X (e :: es) t) (hdb : (x == ("__debug__" : Str)) = false := by decide)
    (he : starEach (e :: es) X.env = (false, eval e X.env) :: starEach es X.env := by rfl) (hpl : (backTo pos (starEach es X.env)).any (·.1) = false := by rfl) : PE X (.Call (.Name x p) (e :: es) [] pos) (fun σ H Q => tMake C sp [] (E σ) t σ H Q) := by
  refine ⟨fun pins s σ H Q I h => ?_⟩
  refine wpAny_Call_Name_kw (ld_glob I hg hm ?_ hdb)
  refine PySem.W.callWith_K (h₀ := X.base) I.ok.mod.kin M.kp (thn (ha.run pos pins s σ H _ I h) fun us s1 ⟨vs, H1, I1, r, q⟩ => ⟨I1.kIn, ?_⟩) he hpl
  refine run_makeRS M F hr (hx σ) I1 r fun a dx h1 h2 h3 => ?_
  have := q a dx h1 h2 h3
  rw [List.append_nil] at this
  exact this
theorem pe_makeRS0 (M : Mk X.K C f) (F : FnR X.prog X.w X.K X.mg X.base CX k f sp) (hr : Room (k + 1) X.A) (hg : Gl X x) (hm : X.mg x = some (.ref C)) (hx : ∀ σ, PassesAt CX X σ (E σ)) (hdb : (x == ("__debug__" : Str)) = false := by decide) : PE X (.Call (.Name x p) [] [] pos) (fun σ H Q => tMake C sp [] (E σ) tNil σ H Q) := by
  refine ⟨fun pins s σ H Q I h => ?_⟩
  refine wpAny_Call_Name_kw (ld_glob I hg hm ?_ hdb)
  exact PySem.W.callWith_K0 I.kIn M.kp (run_makeRS (us := []) (vs := []) M F hr (hx σ) I .nil fun a dx h1 h2 h3 => h a dx h1 h2 h3)
theorem pe_mkOkS (M : Mk X.K C f) (F : FnK X.prog X.w X.K X.mg X.base CX k f kn spk) (hr : Room (k + 1) X.A) (hg : Gl X x) (hm : X.mg x = some (.ref C)) (hx : ∀ σ, PassesAt CX X σ (E σ)) (ha : PA X (e :: es) t) (hkw : PK X kws tk)
    (hall : (backToKw pos (keywordEach kws X.env)).all (·.1.isSome) = true := by rfl) (hks : (backToKw pos (keywordEach kws X.env)).filterMap (·.1) = [kn] := by rfl) (hdb : (x == ("__debug__" : Str)) = false := by decide)
    (he : starEach (e :: es) X.env = (false, eval e X.env) :: starEach es X.env := by rfl) (hpl : ((backTo pos (starEach (e :: es) X.env)).any (·.1) || (backToKw pos (keywordEach kws X.env)).any (·.1.isNone)) = false := by rfl) :
    PE X (.Call (.Name x p) (e :: es) kws pos) (fun σ H Q => t σ H fun vs H1 => tk σ H1 fun zs H2 => ∃ z, zs = [z] ∧ mkO C spk (E σ) vs (some z) H2 Q) := by
  refine ⟨fun pins s σ H Q I h => ?_⟩
  refine wpAny_Call_Name_kw (ld_glob I hg hm ?_ hdb)
  refine PySem.W.callWith_KW (h₀ := X.base) I.ok.mod.kin M.kp hall (thn (ha.run pos pins s σ H _ I h) fun us s1 ⟨vs, H1, I1, r, q⟩ => ?_) hpl he
  refine thn (hkw.run pos pins s1 σ H1 _ I1 q) fun ws s2 ⟨zs, H2, I2, rz, z, ez, q2⟩ => ⟨I2.kIn, ?_⟩
  subst ez
  cases rz with
  | cons rz1 rz2 =>
    cases rz2
    rw [hks]
    exact run_makeOS (ou := some _) (ov := some z) M F hr (hx σ) I2 r rz1 q2
theorem pe_mkOk0S (M : Mk X.K C f) (F : FnK X.prog X.w X.K X.mg X.base CX k f kn spk) (hr : Room (k + 1) X.A) (hg : Gl X x) (hm : X.mg x = some (.ref C)) (hx : ∀ σ, PassesAt CX X σ (E σ)) (hkw : PK X kws tk)
    (hall : (backToKw pos (keywordEach kws X.env)).all (·.1.isSome) = true := by rfl) (hks : (backToKw pos (keywordEach kws X.env)).filterMap (·.1) = [kn] := by rfl) (hdb : (x == ("__debug__" : Str)) = false := by decide)
    (hpl : ((backTo pos (starEach [] X.env)).any (·.1) || (backToKw pos (keywordEach kws X.env)).any (·.1.isNone)) = false := by rfl) :
    PE X (.Call (.Name x p) [] kws pos) (fun σ H Q => tk σ H fun zs H2 => ∃ z, zs = [z] ∧ mkO C spk (E σ) [] (some z) H2 Q) := by
  refine ⟨fun pins s σ H Q I h => ?_⟩
  refine wpAny_Call_Name_kw (ld_glob I hg hm ?_ hdb)
  refine PySem.W.callWith_KW0 (h₀ := X.base) I.ok.mod.kin M.kp hall ?_ hpl
  refine thn (hkw.run pos pins s σ H _ I h) fun ws s2 ⟨zs, H2, I2, rz, z, ez, q2⟩ => ⟨I2.kIn, ?_⟩
  subst ez
  cases rz with
  | cons rz1 rz2 =>
    cases rz2
    rw [hks]
    exact run_makeOS (us := []) (vs := []) (ou := some _) (ov := some z) M F hr (hx σ) I2 .nil rz1 q2
theorem pe_instS (he : PE X o ta) (hs : PySem.W.findIn X.K (.ref C) "__call__" = some (some (.ref g))) (hf : PySem.W.isFn X.K (.ref g) = true) (hfn : PySem.W.fnIn X.K g = true) (F : FnR X.prog X.w X.K X.mg X.base CX k g sp) (hr : Room k X.A) (hx : ∀ σ, PassesAt CX X σ (E σ)) (ha : PA X (e :: es) t)
    (hst : starEach (e :: es) X.env = (false, eval e X.env) :: starEach es X.env := by rfl) (hpl : (backTo pos (starEach es X.env)).any (·.1) = false := by rfl)
    (ht : eval (.Call o (e :: es) [] pos) X.env = (do callWith pos (← eval o X.env) [] (backTo pos (starEach (e :: es) X.env)) (backToKw pos (keywordEach [] X.env))) := by rfl) : PE X (.Call o (e :: es) [] pos) (fun σ H Q => tInst C sp (E σ) ta t σ H Q) := by
  refine ⟨fun pins s σ H Q I h => ?_⟩
  rw [ht]
  refine wpAny_bind (thn (he.run pins s σ H _ I h) fun u s1 ⟨x, H1, I1, rx, a, ex, q⟩ => ?_)
  subst ex
  obtain rfl : u = Value.ref a := rx
  refine callI (thn (ha.run pos pins s1 σ H1 _ I1 q) fun us s2 ⟨vs, H2, I2, r, hi, q2⟩ => ?_) hst hpl
  obtain ⟨dx, od, J⟩ := insO_obj I2 hi
  refine ⟨⟨_, J.at_, rfl⟩, ?_⟩
  exact wpAny_call (PySem.W.kco_code (a := ⟨[] ++ us, []⟩) I2.kIn J rfl hs hf hfn (run_fnRS (us := .ref a :: us) (vs := .ref a :: vs) F hr (hx σ) I2 (.cons rfl r) q2))
end
section
variable {X : Cx} {Λ : Lx} {w : WX} {a b c e o : Expr} {es : List Expr} {ta tb tc t : DE} {u : DA} {pos p apos kpos : Pos} {k : Nat} {f g : Addr} {fd : FuncData} {ps : List Str} {wp : DWI} {wd : DW} {y kn : Str} {dv : V} {nm : Option Str} {v1 : Expr}
/-- a new instance, or an error -/
theorem make_iX {env : List Sl} {W : Ow} {σ : L2.St} {H : Hp} {Q : VK} {q : D → Prop} {xx : DX → Prop} {ds : List D} {vs : List V} {cc : Nat} {x dx : Addr} (S : StOk Λ env W σ H) (hxo : XOk Λ w env W σ H xx) (r : RepL Λ.B (Λ.vis W H) ds vs) (h : wp ds (fun fs => q (.obj cc fs)) xx)
    (k : ∀ d v H', q d → StOk Λ env W σ H' → Ev Λ W H H' → Rep Λ.B (Λ.vis W H') d v → Q v H') (hx : H x = none) (hdx : H dx = none) (hne : dx ≠ x) :
    spI Λ.B cc wp (.ref x :: vs) (upd (upd H dx (.own x)) x (.ins (Λ.B.C cc) dx [])) (fun v H2 => v = .non ∧ Q (.ref x) H2) (WE w σ) := by
  have s1 := made_same (C := Λ.B.C cc) hx hdx
  have nx : ¬ Λ.G W x := S.fresh hx
  refine ⟨Λ.G W, ds, _, xx, x, dx, vs, rfl, upd_same, nx, fun a g => some_mono s1 (hG S a g), r.up ?_, h, fun fs H' dy gs hq grow hp hn rl => ⟨rfl, ?_⟩, fun dxx cv od H' hq grow hp rx => ?_⟩
  · intro a o ha
    obtain ⟨g, ha⟩ := hid_some.mp ha
    have n : a ≠ x := ne_of_none ha hx
    exact hid_some.mpr ⟨fun z => z.elim g n, s1 _ _ ha⟩
  · have s2 : Same H H' := fun a o ha => grow a o (ne_of_none ha hx) (s1 _ _ ha)
    refine k _ _ H' hq (S.grow s2) (.of s2) ⟨x, dy, gs, rfl, hid_some.mpr ⟨nx, hp⟩, hn, rl.up (hid_anti fun a g => .inl g)⟩
  · have s2 : Same H H' := fun a o ha => grow a o (ne_of_none ha hx) (s1 _ _ ha)
    exact hxo dxx cv od H' hq (S.grow s2) (.of s2) (rx.up (hid_anti fun a g => .inl g))
theorem make_kX {env : List Sl} {W : Ow} {σ : L2.St} {H : Hp} {Q : VK} {q : D → Prop} {xx : DX → Prop} {ds : List D} {vs : List V} {cc : Nat} {dv : V} {ov : Option V} {od : D} (S : StOk Λ env W σ H) (hxo : XOk Λ w env W σ H xx) (r : RepL Λ.B (Λ.vis W H) ds vs) (ro : Rep Λ.B (Λ.vis W H) od (ov.getD dv)) (hl : ds.length ≤ 100000)
    (h : wp [od, .tup ds] (fun fs => q (.obj cc fs)) xx) (k : ∀ d v H', q d → StOk Λ env W σ H' → Ev Λ W H H' → Rep Λ.B (Λ.vis W H') d v → Q v H') : mkO (Λ.B.C cc) (spKX Λ.B cc wp dv) (WE w σ) vs ov H Q := fun x dx hx hdx hne => by
  refine ⟨_, vs, rfl, by rw [r.len]; exact sz hl, fun p hp => ?_⟩
  have s1 := made_same (C := Λ.B.C cc) hx hdx
  have px : p ≠ x := fun z => by rw [z, upd_same] at hp; cases hp
  have hpH : H p = none := s1.free hp
  have s2 := same_new (o := .tup vs) hp
  have nx : ¬ Λ.G W x := S.fresh hx
  have np : ¬ Λ.G W p := S.fresh hpH
  have v1 : Same (Λ.vis W H) (hid (fun a => Λ.G W a ∨ a = x) (upd (upd (upd H dx (.own x)) x (.ins (Λ.B.C cc) dx [])) p (.tup vs))) := fun a o ha => by
    obtain ⟨g, ha⟩ := hid_some.mp ha
    have n : a ≠ x := ne_of_none ha hx
    exact hid_some.mpr ⟨fun z => z.elim g n, s2 _ _ (s1 _ _ ha)⟩
  refine ⟨Λ.G W, [od, .tup ds], _, xx, x, dx, _, rfl, s2 _ _ upd_same, nx, fun a g => some_mono (s1.trans s2) (hG S a g), RepL.cons (ro.up v1) (RepL.cons (d := .tup ds) ⟨p, vs, rfl, sqT_of (hid_some.mpr ⟨fun z => z.elim np px, upd_same⟩), r.up v1⟩ RepL.nil), h, fun fs H' dy gs hq grow hp' hn rl => ⟨rfl, ?_⟩, fun dxx cv od H' hq grow hp rx => ?_⟩
  · have s3 : Same H H' := fun a o ha => grow a o (ne_of_none ha hx) (s2 _ _ (s1 _ _ ha))
    exact k _ _ H' hq (S.grow s3) (.of s3) ⟨x, dy, gs, rfl, hid_some.mpr ⟨nx, hp'⟩, hn, rl.up (hid_anti fun a g => .inl g)⟩
  · have s3 : Same H H' := fun a o ha => grow a o (ne_of_none ha hx) (s2 _ _ (s1 _ _ ha))
    exact hxo dxx cv od H' hq (S.grow s3) (.of s3) (rx.up (hid_anti fun a g => .inl g))
def dMkX (cc : Nat) (wp : DWI) (u : DA) : DE := fun env q x => u env (fun ds => wp ds (fun fs => q (.obj cc fs)) x) x
def dMkKkX (cc : Nat) (wp : DWI) (u : DA) (t : DE) : DE := fun env q x => u env (fun ds => t env (fun od => ds.length ≤ 100000 ∧ wp [od, .tup ds] (fun fs => q (.obj cc fs)) x) x) x
theorem xe_makeX {cc : Nat} (tk : Takes X w) (M : Mk X.K (Λ.B.C cc) f) (F : FnR X.prog X.w X.K X.mg X.base (L2.CX X.prog X.w) k f (spI Λ.B cc wp)) (hr : Room (k + 1) X.A) (hg : Gl X y) (hm : X.mg y = some (.ref (Λ.B.C cc))) (ha : XA X Λ w (e :: es) u) (hdb : (y == ("__debug__" : Str)) = false := by decide)
    (he : starEach (e :: es) X.env = (false, eval e X.env) :: starEach es X.env := by rfl) (hpl : (backTo pos (starEach es X.env)).any (·.1) = false := by rfl) : XE X Λ w (.Call (.Name y p) (e :: es) [] pos) (dMkX cc wp u) := ⟨fun hK => by
  obtain ⟨r, p, s⟩ := ha.ex hK
  refine ⟨_, pe_makeRS (E := fun σ => WE w σ) M F hr hg hm (fun σ => passAt tk σ) p hdb he hpl, fun env W σ H Q q x S hx h k => s env W σ H _ _ x S hx h fun ds vs H1 h1 S1 e1 r1 x dx h2 h3 h4 => ?_⟩
  rw [List.append_nil]
  exact make_iX S1 (hx.on e1) r1 h1 (fun d v H' a b c => k d v H' a b (e1.trans c)) h2 h3 h4⟩
theorem xe_mkKkX {cc : Nat} (tk : Takes X w) (M : Mk X.K (Λ.B.C cc) f) (F : FnK X.prog X.w X.K X.mg X.base (L2.CX X.prog X.w) k f kn (spKX Λ.B cc wp dv)) (hr : Room (k + 1) X.A) (hg : Gl X y) (hm : X.mg y = some (.ref (Λ.B.C cc))) (ha : XA X Λ w (e :: es) u) (hkw : XE X Λ w v1 t)
    (hall : (backToKw pos (keywordEach [⟨nm, v1, kpos⟩] X.env)).all (·.1.isSome) = true := by rfl) (hks : (backToKw pos (keywordEach [⟨nm, v1, kpos⟩] X.env)).filterMap (·.1) = [kn] := by rfl) (hdb : (y == ("__debug__" : Str)) = false := by decide)
    (he : starEach (e :: es) X.env = (false, eval e X.env) :: starEach es X.env := by rfl) (hpl : ((backTo pos (starEach (e :: es) X.env)).any (·.1) || (backToKw pos (keywordEach [⟨nm, v1, kpos⟩] X.env)).any (·.1.isNone)) = false := by rfl) :
    XE X Λ w (.Call (.Name y p) (e :: es) [⟨nm, v1, kpos⟩] pos) (dMkKkX cc wp u t) := ⟨fun hK => by
  obtain ⟨r, p, s⟩ := ha.ex hK
  obtain ⟨r', p', s'⟩ := hkw.ex hK
  refine ⟨_, pe_mkOkS (E := fun σ => WE w σ) M F hr hg hm (fun σ => passAt tk σ) p (pk_cons p' pk_nil) hall hks hdb he hpl, fun env W σ H Q q x S hx h k => s env W σ H _ _ x S hx h fun ds vs H1 h1 S1 e1 r1 => s' env W σ H1 _ _ x S1 (hx.on e1) h1 fun od v H2 h2 S2 e2 r2 => ?_⟩
  exact ⟨v, rfl, make_kX S2 (hx.on (e1.trans e2)) (r1.up e2.vis) r2 h2.1 h2.2 fun d v H' a b c => k d v H' a b ((e1.trans e2).trans c)⟩⟩
theorem xe_mkKk0X {cc : Nat} (tk : Takes X w) (M : Mk X.K (Λ.B.C cc) f) (F : FnK X.prog X.w X.K X.mg X.base (L2.CX X.prog X.w) k f kn (spKX Λ.B cc wp dv)) (hr : Room (k + 1) X.A) (hg : Gl X y) (hm : X.mg y = some (.ref (Λ.B.C cc))) (hkw : XE X Λ w v1 t)
    (hall : (backToKw pos (keywordEach [⟨nm, v1, kpos⟩] X.env)).all (·.1.isSome) = true := by rfl) (hks : (backToKw pos (keywordEach [⟨nm, v1, kpos⟩] X.env)).filterMap (·.1) = [kn] := by rfl) (hdb : (y == ("__debug__" : Str)) = false := by decide)
    (hpl : ((backTo pos (starEach [] X.env)).any (·.1) || (backToKw pos (keywordEach [⟨nm, v1, kpos⟩] X.env)).any (·.1.isNone)) = false := by rfl) :
    XE X Λ w (.Call (.Name y p) [] [⟨nm, v1, kpos⟩] pos) (dMkKkX cc wp dNil t) := ⟨fun hK => by
  obtain ⟨r', p', s'⟩ := hkw.ex hK
  refine ⟨_, pe_mkOk0S (E := fun σ => WE w σ) M F hr hg hm (fun σ => passAt tk σ) (pk_cons p' pk_nil) hall hks hdb hpl, fun env W σ H Q q x S hx h k => s' env W σ H _ _ x S hx h fun od v H2 h2 S2 e2 r2 => ?_⟩
  exact ⟨v, rfl, make_kX (ds := []) S2 (hx.on e2) RepL.nil r2 h2.1 h2.2 fun d v H' a b c => k d v H' a b (e2.trans c)⟩⟩
theorem xe_instX {cc : Nat} (tk : Takes X w) (he : XE X Λ w o t) (hm : Meth X.K (Λ.B.C cc) "__call__" g) (hfn : PySem.W.fnIn X.K g = true) (F : FnOk X.prog X.w X.K X.mg X.base (L2.CX X.prog X.w) k g fd ps (spF Λ.B wd)) (hr : Room k X.A) (hb : Binds X.K fd ps []) (ha : XA X Λ w (e :: es) u)
    (hst : starEach (e :: es) X.env = (false, eval e X.env) :: starEach es X.env := by rfl) (hpl : (backTo pos (starEach es X.env)).any (·.1) = false := by rfl)
    (ht : eval (.Call o (e :: es) [] pos) X.env = (do callWith pos (← eval o X.env) [] (backTo pos (starEach (e :: es) X.env)) (backToKw pos (keywordEach [] X.env))) := by rfl) : XE X Λ w (.Call o (e :: es) [] pos) (dM cc wd t u) := ⟨fun hK => by
  obtain ⟨r, p, s⟩ := he.ex hK
  obtain ⟨r', p', s'⟩ := ha.ex hK
  refine ⟨_, pe_instS (E := fun σ => WE w σ) p hm.at_ hm.fn hfn (raw0 F hb) hr (fun σ => passAt tk σ) p' hst hpl ht, fun env W σ H Q q x S hx h k => s env W σ H _ _ x S hx h fun d v H1 h1 S1 e1 r1 => ?_⟩
  cases d <;> first | exact h1.elim | skip
  rename_i c' fs
  obtain ⟨rfl, h1⟩ := h1
  obtain ⟨a, rfl, hi⟩ := rep_ins r1
  refine ⟨a, rfl, s' env W σ H1 _ _ x S1 (hx.on e1) h1 fun ds vs H2 h2 S2 e2 r2 => ?_⟩
  obtain ⟨a', e', hi'⟩ := rep_ins (r1.up e2.vis)
  cases e'
  exact ⟨hi', Λ.G W, _ :: ds, q, x, hG S2, RepL.cons (r1.up e2.vis) r2, h2, fun d v H' hd s rp => k d v H' hd (S2.grow s) ((e1.trans e2).trans (.of s)) rp, fun dx cv od H' hd s rp => hx dx cv od H' hd (S2.grow s) ((e1.trans e2).trans (.of s)) rp⟩⟩
end
end Eb

namespace K24
open PySem PySem.Spec PyProof.Rows L2 Eb
def t_Term_eq : DS :=
  (dRet (dAndT (dIsC [(3, true)] (dVar 1)) (dOp eqD (dTup (dCons (dFld [(3, 0)] (dVar 0)) (dCons (dFld [(3, 1)] (dVar 0)) dNil))) (dTup (dCons (dFld [(3, 0)] (dVar 1)) (dCons (dFld [(3, 1)] (dVar 1)) dNil))))))
@[irreducible] def wp_Term_eq : DW := wpOf 2 0 t_Term_eq
def t_numerator_at : DS :=
  (dSeq (dSet 2 (dC (.int 0)))
  (dSeq (dFor (dItT (dRevT (dFld [(3, 0)] (dVar 0)))) (gN 3) (dSet 2 (dOp addD (dOp mulD (dVar 2) (dVar 1)) (dVar 3))))
  (dRet (dVar 2))))
@[irreducible] def wp_numerator_at : DW := wpOf 2 2 t_numerator_at
def t_Term_call : DS :=
  (dSeq (dSet 2 (dF0 wp_numerator_at (dCons (dVar 0) (dCons (dVar 1) dNil))))
  (dSeq (dIfS (dTest (dOp neD (dOp modD (dCB int1D (dCons (dVar 2) dNil)) (dFld [(3, 1)] (dVar 0))) (dC (.int 0)))) (dRaise0 2) dNext)
  (dRet (dOp fdivD (dVar 2) (dFld [(3, 1)] (dVar 0))))))
@[irreducible] def wp_Term_call : DW := wpOf 2 1 t_Term_call
def t__law_at : DS :=
  (dSeq (dSet 2 (dC (.str "other")))
  (dSeq (dTryAs [1, 2] [2] 3 (dSet 2 (dM 3 wp_Term_call (dVar 0) (dCons (dVar 1) dNil))) (fun a cls od => (dSet 2 (dIf (dAnd (dTruth (dIsE 3 a cls od 2 [(1, false), (2, true), (0, true)] [("ValueError", true)] (dC (.cl 0)))) (dNot (dTruth (dIsE 3 a cls od 2 [(1, false), (2, true), (0, true)] [("ValueError", true)] (dC (.cl 1)))))) (dC (.str "none")) (dC (.str "other"))))))
  (dRet (dVar 2))))
@[irreducible] def wp__law_at : DW := wpOf 2 2 t__law_at
def t__law_gcd : DS :=
  (dSeq (dPar 0 1 (dCons (dCB absD (dCons (dVar 0) dNil)) (dCons (dCB absD (dCons (dVar 1) dNil)) dNil)))
  (dSeq (dWhile (dTest (dOp neD (dVar 1) (dC (.int 0)))) (dPar 0 1 (dCons (dVar 1) (dCons (dOp modD (dCB int1D (dCons (dVar 0) dNil)) (dVar 1)) dNil))))
  (dRet (dVar 0))))
@[irreducible] def wp__law_gcd : DW := wpOf 2 0 t__law_gcd
def t__law_lowest : DS :=
  (dSeq (dFrz 0 (dSetO 0 (dCL listD (dCons (dVar 0) dNil))))
  (dSeq (dWhile (dAnd (dTest (nilO 0 true)) (dTest (dOp eqD (ixO 0 (dUn negD (dC (.int 1)))) (dC (.int 0))))) (dPop 0))
  (dSeq (dSet 2 (dVar 1))
  (dSeq (dFrz 0 (dFor (dItL (dVar 0)) (gN 3) (dSet 2 (dF0 wp__law_gcd (dCons (dVar 2) (dCons (dVar 3) dNil))))))
  (dFrz 0 (dRet (dTup (dCons (dCB tupleD (dCons (dL (dLc (dItL (dVar 0)) (gN 3) dYes (dOp fdivD (dVar 3) (dVar 2)) [3])) dNil)) (dCons (dOp fdivD (dVar 1) (dVar 2)) dNil)))))))))
@[irreducible] def wp__law_lowest : DW := wpOf 2 2 t__law_lowest
def t_common : DS :=
  (dSeq (dPar 0 1 (dCons (dCB absD (dCons (dVar 0) dNil)) (dCons (dCB absD (dCons (dVar 1) dNil)) dNil)))
  (dSeq (dWhile (dTest (dOp neD (dVar 1) (dC (.int 0)))) (dPar 0 1 (dCons (dVar 1) (dCons (dOp modD (dCB int1D (dCons (dVar 0) dNil)) (dVar 1)) dNil))))
  (dRet (dVar 0))))
@[irreducible] def wp_common : DW := wpOf 2 0 t_common
def t_is_integer : DS :=
  (dRet (dAndT (dIsT .int [3] (dVar 0)) (dNotT (dIsT .bool [3] (dVar 0)))))
@[irreducible] def wp_is_integer : DW := wpOf 1 0 t_is_integer
def t_Term_init : DS :=
  (dSeq (dIfS (dNot (dTruth (dCB allD (dCons (dL (dLc (dItT (dVar 2)) (gN 3) dYes (dF0 wp_is_integer (dCons (dVar 3) dNil)) [3])) dNil)))) (dRaise 1 (dCons (dC (.str "coefficients")) dNil)) dNext)
  (dSeq (dIfS (dOr (dNot (dTruth (dF0 wp_is_integer (dCons (dVar 1) dNil)))) (dTest (dOp ltD (dVar 1) (dC (.int 1))))) (dRaise 1 (dCons (dC (.str "over")) dNil)) dNext)
  (dSeq (dSet 4 (dCB lenD (dCons (dVar 2) dNil)))
  (dSeq (dWhile (dAnd (dTest (dOp gtD (dVar 4) (dC (.int 0)))) (dTest (dOp eqD (dOp ixD (dVar 2) (dOp subD (dVar 4) (dC (.int 1)))) (dC (.int 0))))) (dSet 4 (dOp subD (dVar 4) (dC (.int 1)))))
  (dSeq (dSet 5 (dVar 1))
  (dSeq (dFor (dItT (dSl (dVar 2) dNoPart (dPart (dVar 4)))) (gN 3) (dSet 5 (dF0 wp_common (dCons (dVar 5) (dCons (dVar 3) dNil)))))
  (dSeq (dSelf 0 3 0 (dCB tupleD (dCons (dL (dLc (dItT (dSl (dVar 2) dNoPart (dPart (dVar 4)))) (gN 3) dYes (dOp fdivD (dVar 3) (dVar 5)) [3])) dNil)))
  (dSelf 0 3 1 (dOp fdivD (dVar 1) (dVar 5))))))))))
@[irreducible] def wp_Term_init : DWI := wpOfI 3 2 2 3 t_Term_init
def t__law_made : DS :=
  (dSeq (dIfS (dTest (dOp eqD (dCB lenD (dCons (dVar 0) dNil)) (dC (.int 0)))) (dRet (dMkKkX 3 wp_Term_init dNil (dVar 1))) dNext)
  (dSeq (dIfS (dTest (dOp eqD (dCB lenD (dCons (dVar 0) dNil)) (dC (.int 1)))) (dRet (dMkKkX 3 wp_Term_init (dCons (dOp ixD (dVar 0) (dC (.int 0))) dNil) (dVar 1))) dNext)
  (dSeq (dIfS (dTest (dOp eqD (dCB lenD (dCons (dVar 0) dNil)) (dC (.int 2)))) (dRet (dMkKkX 3 wp_Term_init (dCons (dOp ixD (dVar 0) (dC (.int 0))) (dCons (dOp ixD (dVar 0) (dC (.int 1))) dNil)) (dVar 1))) dNext)
  (dSeq (dIfS (dTest (dOp eqD (dCB lenD (dCons (dVar 0) dNil)) (dC (.int 3)))) (dRet (dMkKkX 3 wp_Term_init (dCons (dOp ixD (dVar 0) (dC (.int 0))) (dCons (dOp ixD (dVar 0) (dC (.int 1))) (dCons (dOp ixD (dVar 0) (dC (.int 2))) dNil))) (dVar 1))) dNext)
  (dSeq (dIfS (dTest (dOp eqD (dCB lenD (dCons (dVar 0) dNil)) (dC (.int 4)))) (dRet (dMkKkX 3 wp_Term_init (dCons (dOp ixD (dVar 0) (dC (.int 0))) (dCons (dOp ixD (dVar 0) (dC (.int 1))) (dCons (dOp ixD (dVar 0) (dC (.int 2))) (dCons (dOp ixD (dVar 0) (dC (.int 3))) dNil)))) (dVar 1))) dNext)
  (dSeq (dIfS (dTest (dOp eqD (dCB lenD (dCons (dVar 0) dNil)) (dC (.int 5)))) (dRet (dMkKkX 3 wp_Term_init (dCons (dOp ixD (dVar 0) (dC (.int 0))) (dCons (dOp ixD (dVar 0) (dC (.int 1))) (dCons (dOp ixD (dVar 0) (dC (.int 2))) (dCons (dOp ixD (dVar 0) (dC (.int 3))) (dCons (dOp ixD (dVar 0) (dC (.int 4))) dNil))))) (dVar 1))) dNext)
  (dSeq (dAsg (dVar 0) (gTL [2, 3, 4, 5, 6, 7, 8, 9, 10, 11, 12]))
  (dRet (dMkKkX 3 wp_Term_init (dCons (dVar 2) (dCons (dVar 3) (dCons (dVar 4) (dCons (dVar 5) (dCons (dVar 6) (dCons (dVar 7) (dCons (dVar 8) (dCons (dVar 9) (dCons (dVar 10) (dCons (dVar 11) (dCons (dVar 12) dNil))))))))))) (dVar 1))))))))))
@[irreducible] def wp__law_made : DW := wpOf 2 11 t__law_made
def t__law_refused : DS :=
  (dSeq (dSet 2 (dC .non))
  (dSeq (dTryAs [1, 2] [1] 3 (dDrop (dF wp__law_made (dCons (dVar 0) (dCons (dVar 1) dNil)))) (fun a cls od => (dSet 2 (dIf (dAnd (dTruth (dIsE 3 a cls od 1 [(1, true), (2, false), (0, true)] [("ValueError", true)] (dC (.cl 0)))) (dTruth (dIsE 3 a cls od 1 [(1, true), (2, false), (0, true)] [("ValueError", true)] (dC (.ty "ValueError"))))) (dErF 3 a cls od 1) (dC (.str "other"))))))
  (dRet (dVar 2))))
@[irreducible] def wp__law_refused : DW := wpOf 2 2 t__law_refused
def t__law_row : DS :=
  (dSeq (dSetO 3 (dLst dNil))
  (dSeq (dFor (dRg1 (dCons (dVar 1) dNil)) (gN 4) (dSeq (dSet 5 (dOp ixD (dL (dLst (dCons (dC (.int 1)) (dCons (dC (.int 6)) (dCons (dVar 2) dNil))))) (dG0 0 wpDraw (dCons (dC (.int 3)) dNil))))
  (dApp 3 (dOp subD (dG0 0 wpDraw (dCons (dOp addD (dOp mulD (dC (.int 2)) (dVar 5)) (dC (.int 1))) dNil)) (dVar 5)))))
  (dFrz 3 (dRet (dVar 3)))))
@[irreducible] def wp__law_row : DW := wpOfG 2 3 t__law_row
def t__law_value : DS :=
  (dSeq (dSet 2 (dC (.int 0)))
  (dSeq (dFor (dItL (dL (dRevL (dVar 0)))) (gN 3) (dSet 2 (dOp addD (dOp mulD (dVar 2) (dVar 1)) (dVar 3))))
  (dRet (dVar 2))))
@[irreducible] def wp__law_value : DW := wpOf 2 2 t__law_value
def t_Term_degree : DS :=
  (dRet (dOp subD (dCB lenD (dCons (dFld [(3, 0)] (dVar 0)) dNil)) (dC (.int 1))))
@[irreducible] def wp_Term_degree : DW := wpOf 1 0 t_Term_degree
def t_law : DS :=
  (dSeq (dFor (dRg1 (dCons (dC (.int 5)) dNil)) (gN 2) (dSeq (dSet 3 (dG0 1 wp__law_row (dCons (dOp ixD (dL (dLst (dCons (dC (.int 0)) (dCons (dC (.int 1)) (dCons (dC (.int 2)) (dCons (dC (.int 3)) (dCons (dC (.int 4)) (dCons (dC (.int 11)) dNil)))))))) (dG0 1 wpDraw (dCons (dC (.int 6)) dNil))) (dCons (dOp powD (dC (.int 10)) (dC (.int 9))) dNil))))
  (dSeq (dAsg (dTup (dCons (dOp addD (dC (.int 1)) (dG0 1 wpDraw (dCons (dOp ixD (dL (dLst (dCons (dC (.int 1)) (dCons (dC (.int 12)) (dCons (dOp powD (dC (.int 10)) (dC (.int 9))) dNil))))) (dG0 1 wpDraw (dCons (dC (.int 3)) dNil))) dNil))) (dCons (dOp addD (dC (.int 1)) (dG0 1 wpDraw (dCons (dC (.int 6)) dNil))) dNil))) (gT [4, 5]))
  (dSeq (dPar 6 7 (dCons (dF0 wp__law_made (dCons (dVar 3) (dCons (dVar 4) dNil))) (dCons (dF0 wp__law_lowest (dCons (dVar 3) (dCons (dVar 4) dNil))) dNil)))
  (dSeq (dIfS (dTest (dOp neD (dCB reprD (dCons (dTup (dCons (dFld [(3, 0)] (dVar 6)) (dCons (dFld [(3, 1)] (dVar 6)) dNil))) dNil)) (dCB reprD (dCons (dVar 7) dNil)))) (dRet (dC (.bl false))) dNext)
  (dSeq (dIfS (dTest (dOp neD (dCB reprD (dCons (dM0 3 wp_Term_degree (dVar 6) dNil) dNil)) (dCB strD (dCons (dOp subD (dCB lenD (dCons (dOp ixD (dVar 7) (dC (.int 0))) dNil)) (dC (.int 1))) dNil)))) (dRet (dC (.bl false))) dNext)
  (dSeq (dPar 8 9 (dCons (dL (dLc (dItL (dVar 3)) (gN 25) dYes (dOp mulD (dVar 5) (dVar 25)) [25])) (dCons (dL (dLc (dItL (dVar 3)) (gN 25) dYes (dOp fdivD (dVar 25) (dVar 5)) [25])) dNil)))
  (dSeq (dSet 10 (dOp eqD (dL (dLc (dItL (dOp addD (dVar 8) (dL (dLst (dCons (dOp mulD (dVar 4) (dVar 5)) dNil))))) (gN 25) (dTest (dOp gtD (dCB absD (dCons (dVar 25) dNil)) (dOp powD (dC (.int 10)) (dC (.int 9))))) (dVar 25) [25])) (dL (dLst dNil))))
  (dSeq (dSet 8 (dSl (dOp addD (dVar 8) (dL (dLst (dCons (dC (.int 0)) dNil)))) dNoPart (dPart (dCB max2D (dCons (dC (.int 5)) (dCons (dCB lenD (dCons (dVar 3) dNil)) dNil))))))
  (dSeq (dIfS (dAnd (dTruth (dVar 10)) (dNot (dTest (dOp (op2D 3 wp_Term_eq) (dF0 wp__law_made (dCons (dVar 8) (dCons (dOp mulD (dVar 4) (dVar 5)) dNil))) (dVar 6))))) (dRet (dC (.bl false))) dNext)
  (dSeq (dPar 11 12 (dCons (dF0 wp__law_made (dCons (dVar 9) (dCons (dVar 4) dNil))) (dCons (dOp eqD (dF0 wp__law_lowest (dCons (dVar 9) (dCons (dVar 4) dNil))) (dVar 7)) dNil)))
  (dSeq (dIfS (dOr (dTest (dOp neD (dOp (op2D 3 wp_Term_eq) (dVar 11) (dVar 6)) (dVar 12))) (dOr (dTest (dOp (eqAD 3 [3] wp_Term_eq) (dVar 6) (dVar 7))) (dTest (dOp (eqAD 3 [3] wp_Term_eq) (dVar 6) (dC (.int 0)))))) (dRet (dC (.bl false))) dNext)
  (dSeq (dFor (dRg1 (dCons (dC (.int 5)) dNil)) (gN 13) (dSeq (dPar 14 15 (dCons (dOp ixD (dL (dLst (dCons (dC (.int 7)) (dCons (dC (.int 100)) (dCons (dOp powD (dC (.int 10)) (dC (.int 30))) dNil))))) (dG0 1 wpDraw (dCons (dC (.int 3)) dNil))) (dCons (dOp ixD (dL (dLst (dCons (dC (.int 1)) (dCons (dOp subD (dC (.int 0)) (dC (.int 1))) dNil)))) (dG0 1 wpDraw (dCons (dC (.int 2)) dNil))) dNil)))
  (dSeq (dSet 16 (dOp mulD (dG0 1 wpDraw (dCons (dVar 14) dNil)) (dVar 15)))
  (dSeq (dSet 17 (dF0 wp__law_value (dCons (dVar 3) (dCons (dVar 16) dNil))))
  (dSeq (dSet 18 (dOp ixD (dL (dLst (dCons (dOp fdivD (dVar 17) (dVar 4)) (dCons (dC (.str "none")) dNil)))) (dCB int1D (dCons (dOp neD (dOp modD (dCB int1D (dCons (dVar 17) dNil)) (dVar 4)) (dC (.int 0))) dNil))))
  (dIfS (dTest (dOp neD (dCB reprD (dCons (dF0 wp__law_at (dCons (dVar 6) (dCons (dVar 16) dNil))) dNil)) (dCB reprD (dCons (dVar 18) dNil)))) (dRet (dC (.bl false))) dNext))))))
  (dSeq (dSet 19 (dOp ixD (dL (dLst (dCons (dC .non) (dCons (dC (.bl true)) (dCons (dC (.str "1")) (dCons (dTup (dCons (dC (.int 1)) dNil)) (dCons (dL (dLst (dCons (dC (.int 2)) dNil))) (dCons (dVar 6) (dCons (dTup dNil) dNil))))))))) (dG0 1 wpDraw (dCons (dC (.int 7)) dNil))))
  (dSeq (dPar 20 21 (dCons (dG0 1 wpDraw (dCons (dOp addD (dCB lenD (dCons (dSl (dVar 3) dNoPart (dPart (dC (.int 4)))) dNil)) (dC (.int 1))) dNil)) (dCons (dSl (dVar 3) dNoPart (dPart (dC (.int 4)))) dNil)))
  (dSeq (dPar 22 23 (dCons (dOp addD (dOp addD (dSl (dVar 21) dNoPart (dPart (dVar 20))) (dL (dLst (dCons (dVar 19) dNil)))) (dSl (dVar 21) (dPart (dVar 20)) dNoPart)) (dCons (dOp ixD (dL (dLst (dCons (dVar 4) (dCons (dC (.int 0)) (dCons (dC .non) dNil))))) (dG0 1 wpDraw (dCons (dC (.int 3)) dNil))) dNil)))
  (dSeq (dIfS (dTest (dOp neD (dF0 wp__law_refused (dCons (dVar 22) (dCons (dVar 23) dNil))) (dC (.str "coefficients")))) (dRet (dC (.bl false))) dNext)
  (dSeq (dSet 24 (dOp ixD (dL (dLst (dCons (dC (.int 0)) (dCons (dOp subD (dC (.int 0)) (dVar 4)) (dCons (dC .non) (dCons (dC (.bl true)) (dCons (dC (.str "2")) (dCons (dL (dLst (dCons (dC (.int 1)) dNil))) dNil)))))))) (dG0 1 wpDraw (dCons (dC (.int 6)) dNil))))
  (dIfS (dOr (dTest (dOp neD (dF0 wp__law_refused (dCons (dVar 3) (dCons (dVar 24) dNil))) (dC (.str "over")))) (dTest (dOp notND (dF0 wp__law_refused (dCons (dVar 3) (dCons (dVar 4) dNil))) (dC .non)))) (dRet (dC (.bl false))) dNext)))))))))))))))))))
  (dRet (dAndT (dOp eqD (dM0 3 wp_Term_degree (dMkK 3 wp_Term_init (.int 1) dNil) dNil) (dOp subD (dC (.int 0)) (dC (.int 1)))) (dAndT (dOp eqD (dFld [(3, 1)] (dMkK 3 wp_Term_init (.int 1) dNil)) (dC (.int 1))) (dOp (op2D 3 wp_Term_eq) (dMkKk 3 wp_Term_init (dCons (dC (.int 0)) (dCons (dC (.int 0)) dNil)) (dC (.int 9))) (dMkK 3 wp_Term_init (.int 1) dNil))))))
def w_law : Prop := t_law [.un, .dl, .un, .un, .un, .un, .un, .un, .un, .un, .un, .un, .un, .un, .un, .un, .un, .un, .un, .un, .un, .un, .un, .un, .un, .un] (endsF (fun d => d = .bl true) (fun _ => False))
end K24

local macro_rules | `(tactic| walk_at "go") => `(tactic| repeat (first | refine ⟨_, rfl, ?_⟩ | refine ⟨_, _, rfl, rfl, ?_⟩ | refine ⟨rfl, ?_⟩ | refine ⟨_, _, rfl, rfl, ⟨by decide, by decide, by decide⟩, ?_⟩))
local macro_rules | `(tactic| walk_at "w") => `(tactic| conv => whnf)
local macro_rules | `(tactic| walk_at "z") => `(tactic| first | decide | exact Nat.le_of_ble_eq_true rfl | omega | (simp; omega))
local macro_rules | `(tactic| walk_at "i") => `(tactic| repeat (refine ⟨_, rfl, ?_⟩; walk_at "w"))
namespace K24
open PySem PySem.Spec PyProof.Rows L2 Eb
theorem ab_int (x : Int) : (if x < 0 then -x else x) = ((x.natAbs : Nat) : Int) := by split <;> omega
theorem common_ok {a b : Int} {q : D → Prop} {x : DX → Prop} (h : q (.int ((Int.gcd a b : Nat) : Int))) : wp_common [.int a, .int b] q x := by
  unfold wp_common
  refine ⟨rfl, ?_⟩
  walk_at "w"
  rw [ab_int, ab_int]
  refine ⟨fun m env => ∃ (u v : Nat), m = v ∧ env = [.va (.int u), .va (.int v)] ∧ Nat.gcd u v = Int.gcd a b, ⟨_, a.natAbs, b.natAbs, rfl, rfl, rfl⟩, ?_⟩
  rintro m env ⟨u, v, rfl, rfl, hg⟩
  walk_at "w"
  refine iteB_by (fun c => ?_) (fun c => ?_)
  · have hm : 0 < m := by
      have : ¬ ((m : Int) = 0) := by simpa using c
      omega
    walk_at "w"
    refine ⟨by omega, ?_⟩
    walk_at "w"
    have lt := Nat.mod_lt u hm
    exact ⟨u % m, lt, m, u % m, rfl, rfl, by rw [Nat.gcd_comm, ← Nat.gcd_rec, Nat.gcd_comm]; exact hg⟩
  · have hm : m = 0 := by
      have : (m : Int) = 0 := by simpa using c
      omega
    subst hm
    walk_at "w"
    rw [Nat.gcd_zero_right] at hg
    rw [hg]
    exact h
theorem is_integer_ok {i : Int} {q : D → Prop} {x : DX → Prop} (h : q (.bl true)) : wp_is_integer [.int i] q x := by
  unfold wp_is_integer
  refine ⟨rfl, ?_⟩
  walk_at "w"
  exact h
def tm (p : List Int × Int) : D := .obj 3 [.tup (p.1.map .int), .int p.2]
theorem ints_at {zs : List Int} {k : Nat} {i z : Int} (hi : i = k) (h : zs[k]? = some z) : atI (zs.map D.int) i = some (.int z) := atI_at hi (by rw [List.getElem?_map, h]; rfl)
theorem dvX {a g o : Int} (h1 : 1 ≤ g) (h2 : g ≤ o) (so : Sm o) : CDivX a g := divW (by omega) (so.le (by omega) h2)
theorem init_ok {o : Int} {cs : List Int} {q : List D → Prop} {x : DX → Prop} (ho : 1 ≤ o) (so : Sm o) (hl : cs.length ≤ 1000) (h : q [.tup ((nrm cs o).1.map .int), .int (nrm cs o).2]) : wp_Term_init [.int o, .tup (cs.map .int)] q x := by
  unfold wp_Term_init
  refine ⟨rfl, ?_⟩
  walk_at "w"
  refine lc_map (φ := D.int) (fun _ => .bl true) cs (fun z hz k n hk => ?_) (by omega) ?_
  · walk_at "w"
    exact is_integer_ok hk
  walk_at "w"
  refine ⟨cs.map fun _ => true, by rw [List.map_map]; rfl, ?_⟩
  have e1 : (cs.map fun _ => true).all id = true := by simp
  rw [e1]
  walk_at "w"
  refine is_integer_ok ?_
  walk_at "w"
  refine iteB_f (by simp; omega) ?_
  walk_at "w"
  -- the noughts at the end
  refine ⟨fun m env => ∃ k : Nat, k ≤ cs.length ∧ m = k ∧ env = [.se 3 [], .va (.int o), .va (.tup (cs.map .int)), .un, .va (.int (k : Int)), .un] ∧ trim (cs.take k) = trim cs, ⟨_, cs.length, Nat.le_refl _, rfl, by rw [List.length_map]; rfl, by rw [List.take_length]⟩, ?_⟩
  rintro m env ⟨k, hk, rfl, rfl, ht⟩
  refine test_by (decide (0 < m ∧ cs[m - 1]? = some 0)) (fun q' hq => ?_) ?_
  · walk_at "w"
    refine iteB_by (fun c => ?_) (fun c => ?_)
    · have hm : 0 < m := by
        have : (m : Int) > 0 := by simpa using c
        omega
      have hat : cs[m - 1]? = some cs[m - 1] := List.getElem?_eq_getElem (by omega)
      walk_at "w"
      refine ⟨_, ints_at (k := m - 1) (by omega) hat, ?_⟩
      walk_at "w"
      have e : (cs[m - 1] == 0) = decide (0 < m ∧ cs[m - 1]? = some 0) := by
        rw [hat, Bool.eq_iff_iff]
        simp [hm]
      rw [e]
      exact hq
    · have e : decide (0 < m ∧ cs[m - 1]? = some 0) = false := by
        have : ¬ ((m : Int) > 0) := by simpa using c
        exact decide_eq_false fun z => this (by omega)
      rw [e] at hq
      exact hq
  refine iteB_by (fun c => ?_) (fun c => ?_)
  · obtain ⟨hm, hz⟩ := of_decide_eq_true c
    walk_at "w"
    refine ⟨m - 1, by omega, m - 1, by omega, rfl, ?_, ?_⟩
    · show [Sl.se 3 [], _, _, _, .va (.int ((m : Int) - 1)), _] = _
      have e : (m : Int) - 1 = ((m - 1 : Nat) : Int) := by omega
      rw [e]
    · have tk : cs.take m = cs.take (m - 1) ++ [0] := by
        have e : m = m - 1 + 1 := by omega
        conv => lhs; rw [e]
        rw [List.take_add_one, hz]
        rfl
      rw [tk, trim_zero] at ht
      exact ht
  have tk : cs.take m = trim cs := by
    have c' := of_decide_eq_false c
    by_cases hm : 0 < m
    · have hat : cs[m - 1]? = some cs[m - 1] := List.getElem?_eq_getElem (by omega)
      have hz : cs[m - 1] ≠ 0 := fun z => c' ⟨hm, by rw [hat, z]⟩
      have tk : cs.take m = cs.take (m - 1) ++ [cs[m - 1]] := by
        have e : m = m - 1 + 1 := by omega
        conv => lhs; rw [e]
        rw [List.take_add_one, hat]
        rfl
      rw [tk, trim_keep _ hz, ← tk] at ht
      exact ht
    · have : m = 0 := by omega
      subst this
      exact ht
  clear ht c
  walk_at "w"
  have ec : cutL (cs.map D.int) none (some (m : Int)) = (trim cs).map .int := by rw [cut_take, ← List.map_take, tk]
  rw [ec]
  refine loop_map (φ := D.int) (fun pre env => env = [.se 3 [], .va (.int o), .va (.tup (cs.map .int)), (match pre.getLast? with | none => .un | some z => .va (.int z)), .va (.int (m : Int)), .va (.int (gcdL o pre))]) (trim cs) rfl ?_ ?_
  · rintro pre z suf env N hz rfl hN
    walk_at "w"
    refine common_ok ?_
    refine hN _ ?_
    rw [gcdL_append]
    simp [gcdL]
  · rintro env rfl
    walk_at "w"
    rw [ec]
    have g1 := gcdL_pos ho (trim cs)
    have g2 := gcdL_le ho (trim cs)
    refine lc_map (φ := D.int) (fun z => .int (z / gcdL o (trim cs))) (trim cs) (fun z hz k n hk => ?_) (by have := trim_len cs; omega) ?_
    · walk_at "w"
      exact ⟨dvX g1 g2 so, hk⟩
    walk_at "w"
    refine ⟨rfl, rfl, ?_⟩
    walk_at "w"
    refine ⟨dvX g1 g2 so, ?_⟩
    walk_at "w"
    refine ⟨rfl, rfl, ?_⟩
    walk_at "w"
    refine ⟨rfl, rfl, ?_⟩
    have e : (nrm cs o).1.map D.int = (trim cs).map fun z => D.int (z / gcdL o (trim cs)) := by
      unfold nrm
      rw [List.map_map]
      rfl
    rw [e] at h
    exact h
/-- total = total * b + value, from the last one on -/
theorem hor_sm {cs : List Int} {b : Int} {M B : Nat} (hc : Cap M cs) (hb : b.natAbs ≤ B) (hs : M * (B + 1) ^ cs.length ≤ 10 ^ 500) : ∀ pre : List Int, (∃ suf, cs.reverse = pre ++ suf) → Sm (hor pre.reverse b) := fun pre ⟨suf, e⟩ => by
  have e2 : cs = suf.reverse ++ pre.reverse := by rw [← List.reverse_append, ← e, List.reverse_reverse]
  have hc2 : Cap M pre.reverse := fun z hz => hc z (by rw [e2]; exact List.mem_append_right _ hz)
  have h1 := hor_cap hc2 hb
  have h2 : (B + 1) ^ pre.reverse.length ≤ (B + 1) ^ cs.length := Nat.pow_le_pow_right (by omega) (by rw [e2, List.length_append]; omega)
  exact sm500 (Nat.le_trans h1 (Nat.le_trans (Nat.mul_le_mul_left _ h2) hs))
theorem numerator_ok {p : List Int × Int} {b : Int} {q : D → Prop} {x : DX → Prop} {M B : Nat} (hc : Cap M p.1) (hb : b.natAbs ≤ B) (hs : M * (B + 1) ^ p.1.length ≤ 10 ^ 500) (sb : Sm b) (h : q (.int (hor p.1 b))) : wp_numerator_at [tm p, .int b] q x := by
  unfold wp_numerator_at
  refine ⟨rfl, ?_⟩
  walk_at "w"
  rw [← List.map_reverse]
  refine loop_map (φ := D.int) (fun pre env => env = [.va (tm p), .va (.int b), .va (.int (hor pre.reverse b)), (match pre.getLast? with | none => .un | some z => .va (.int z))]) p.1.reverse rfl ?_ ?_
  · rintro pre z suf env N hz rfl hN
    walk_at "w"
    refine ⟨mulW (hor_sm hc hb hs pre ⟨_, hz⟩) sb, ?_⟩
    walk_at "w"
    refine hN _ ?_
    simp only [List.reverse_append, List.reverse_cons, List.reverse_nil, List.nil_append, List.cons_append, hor, List.getLast?_append, List.getLast?_singleton, Option.some_or]
    rw [Int.mul_comm b, Int.add_comm z]
    rfl
  · rintro env rfl
    rw [List.reverse_reverse]
    walk_at "w"
    exact h
/-- the coefficients of a product -/
def prd (xs ys : List Int) : List Int := (List.range (xs.length + ys.length)).map (cvS xs ys)
theorem hor_prd (xs ys : List Int) (b : Int) : hor (prd xs ys) b = hor xs b * hor ys b := hor_cv b xs ys _ (Nat.le_refl _)
theorem zp_ints (xs ys : List Int) : zpD (xs.map D.int) (ys.map D.int) = (xs.zip ys).map fun p => .tup [.int p.1, .int p.2] := by
  unfold zpD
  rw [List.zip_map, List.map_map]
  rfl
theorem rep_zero (k : Int) : (List.replicate k.toNat [D.int 0]).flatten = (List.replicate k.toNat (0 : Int)).map D.int := by
  induction k.toNat with
  | zero => rfl
  | succ n ih => rw [List.replicate_succ, List.replicate_succ, List.flatten_cons, ih]; rfl
theorem zip_add : ∀ (xs ys : List Int), ((xs.zip ys).map fun (p : Int × Int) => D.int (p.1 + p.2)) = (List.zipWith (· + ·) xs ys).map .int
  | [], _ => by simp
  | _ :: _, [] => by simp
  | x :: xs, y :: ys => by simp [zip_add xs ys]
/-- the coefficients of a sum, each list times a number -/
def adl (xs ys : List Int) (f g : Int) : List Int := List.zipWith (· + ·) (xs.map (· * f) ++ List.replicate (max xs.length ys.length - xs.length) 0) (ys.map (· * g) ++ List.replicate (max xs.length ys.length - ys.length) 0)
theorem hor_adl (xs ys : List Int) (f g b : Int) : hor (adl xs ys f g) b = hor xs b * f + hor ys b * g := by
  unfold adl
  rw [hor_zip_add b _ _ (by simp; omega), hor_pad, hor_pad, hor_map_mul, hor_map_mul]
theorem adl_len (xs ys : List Int) (f g : Int) : (adl xs ys f g).length = max xs.length ys.length := by
  unfold adl
  simp
  omega

end K24

local macro_rules | `(tactic| walk_at "go") => `(tactic| repeat (first | refine ⟨_, rfl, ?_⟩ | refine ⟨_, _, rfl, rfl, ?_⟩ | refine ⟨rfl, ?_⟩ | refine ⟨_, _, rfl, rfl, ⟨by decide, by decide, by decide⟩, ?_⟩))
local macro_rules | `(tactic| walk_at "w") => `(tactic| conv => whnf)
local macro_rules | `(tactic| walk_at "z") => `(tactic| first | decide | exact Nat.le_of_ble_eq_true rfl | omega | (simp; omega))
local macro_rules | `(tactic| walk_at "i") => `(tactic| repeat (refine ⟨_, rfl, ?_⟩; walk_at "w"))
namespace K24
open PySem PySem.Spec PyProof.Rows L2 Eb
theorem value_ok {cs : List Int} {b : Int} {q : D → Prop} {x : DX → Prop} {M B : Nat} (hc : Cap M cs) (hb : b.natAbs ≤ B) (hs : M * (B + 1) ^ cs.length ≤ 10 ^ 500) (sb : Sm b) (h : q (.int (hor cs b))) : wp__law_value [.lst (cs.map .int), .int b] q x := by
  unfold wp__law_value
  refine ⟨rfl, ?_⟩
  walk_at "w"
  rw [← List.map_reverse]
  refine loop_map (φ := D.int) (fun pre env => env = [.va (.lst (cs.map .int)), .va (.int b), .va (.int (hor pre.reverse b)), (match pre.getLast? with | none => .un | some z => .va (.int z))]) cs.reverse rfl ?_ ?_
  · rintro pre z suf env N hz rfl hN
    walk_at "w"
    refine ⟨mulW (hor_sm hc hb hs pre ⟨_, hz⟩) sb, ?_⟩
    walk_at "w"
    refine hN _ ?_
    simp only [List.reverse_append, List.reverse_cons, List.reverse_nil, List.nil_append, List.cons_append, hor, List.getLast?_append, List.getLast?_singleton, Option.some_or]
    rw [Int.mul_comm b, Int.add_comm z]
    rfl
  · rintro env rfl
    rw [List.reverse_reverse]
    walk_at "w"
    exact h
theorem row_ok {n most : Int} {q : D → Prop} {x : DX → Prop} (hn : 0 ≤ n) (hn2 : n ≤ 1000) (hm : 1 ≤ most) (hm2 : most ≤ 10 ^ 60) (h : ∀ row : List Int, row.length = n.toNat → Cap (max 6 most.toNat) row → q (.lst (row.map .int))) : wp__law_row [.int n, .int most] q x := by
  unfold wp__law_row
  refine ⟨rfl, ?_⟩
  walk_at "w"
  refine ⟨by walk_at "z", by walk_at "z", ?_⟩
  walk_at "w"
  refine ⟨⟨by omega, by omega⟩, ?_⟩
  refine loop_range (fun k env => ∃ (row : List Int) (v4 v5 : Sl), row.length = k ∧ Cap (max 6 most.toNat) row ∧ env = [.dl, .va (.int n), .va (.int most), .ow (row.map .int), v4, v5]) ⟨[], _, _, rfl, Cap.nil, rfl⟩ ?_ ?_
  · rintro k env N hk ⟨row, v4, v5, hl, hc, rfl⟩ hN
    walk_at "w"
    refine ⟨by walk_at "z", ?_⟩
    walk_at "w"
    refine ⟨by decide, sm_of (by decide) (by decide), fun r r0 r1 => ?_⟩
    obtain ⟨s, hs, s1, s2⟩ : ∃ s : Int, atI [D.int 1, .int 6, .int most] r = some (.int s) ∧ 1 ≤ s ∧ s ≤ max 6 most := by
      have : r = 0 ∨ r = 1 ∨ r = 2 := by omega
      rcases this with rfl | rfl | rfl
      · exact ⟨1, rfl, by omega, by omega⟩
      · exact ⟨6, rfl, by omega, by omega⟩
      · exact ⟨most, rfl, by omega, by omega⟩
    refine ⟨_, hs, ?_⟩
    walk_at "w"
    refine ⟨mulW (sm_of (by decide) (by decide)) (sm_of (by omega) (by omega)), ?_⟩
    walk_at "w"
    refine ⟨by omega, sm_of (by omega) (by omega), fun z z0 z1 => ?_⟩
    walk_at "w"
    refine ⟨by rw [List.length_map]; omega, ?_⟩
    refine hN _ ⟨row ++ [z - s], _, _, by simp [hl], ?_, by rw [List.map_append]; rfl⟩
    intro c hc2
    rcases List.mem_append.mp hc2 with c1 | c1
    · exact hc c c1
    · rw [List.mem_singleton.mp c1]
      omega
  · rintro env ⟨row, v4, v5, hl, hc, rfl⟩
    walk_at "w"
    exact h row hl hc
theorem nrm1 (L : List Int) : (nrm L 1).2 = 1 ∧ ∀ b, hor (nrm L 1).1 b = hor L b := by
  have l := nrm_low (cs := L) (show (1 : Int) ≤ 1 by decide)
  have o := nrm_over (cs := L) (show (1 : Int) ≤ 1 by decide)
  have e : (nrm L 1).2 = 1 := by have := l.pos; omega
  refine ⟨e, fun b => ?_⟩
  have v := nrm_val (cs := L) (show (1 : Int) ≤ 1 by decide) b
  rw [e, Int.mul_one, Int.mul_one] at v
  exact v
theorem nrm_one {o : Int} (h : 1 ≤ o) : nrm [1] o = ([1], o) := by
  refine nrm_of_low ⟨rfl, h, ?_⟩
  show ((Int.gcd o 1 : Nat) : Int) = 1
  rw [Int.gcd_one]
  rfl
theorem cap_sm {M : Nat} {cs : List Int} (h : Cap M cs) (hM : M ≤ 10 ^ 500) : ∀ c ∈ cs, Sm c := fun c hc => sm500 (Nat.le_trans (h c hc) hM)

end K24

local macro_rules | `(tactic| walk_at "go") => `(tactic| repeat (first | refine ⟨_, rfl, ?_⟩ | refine ⟨_, _, rfl, rfl, ?_⟩ | refine ⟨rfl, ?_⟩ | refine ⟨_, _, rfl, rfl, ⟨by decide, by decide, by decide⟩, ?_⟩))
local macro_rules | `(tactic| walk_at "w") => `(tactic| conv => whnf)
local macro_rules | `(tactic| walk_at "z") => `(tactic| first | decide | exact Nat.le_of_ble_eq_true rfl | omega | (simp; omega))
local macro_rules | `(tactic| walk_at "i") => `(tactic| repeat (refine ⟨_, rfl, ?_⟩; walk_at "w"))
namespace K24
open PySem PySem.Spec PyProof.Rows L2 Eb
theorem gcd_ok {a b : Int} {q : D → Prop} {x : DX → Prop} (h : q (.int ((Int.gcd a b : Nat) : Int))) : wp__law_gcd [.int a, .int b] q x := by
  unfold wp__law_gcd
  refine ⟨rfl, ?_⟩
  walk_at "w"
  rw [ab_int, ab_int]
  refine ⟨fun m env => ∃ (u v : Nat), m = v ∧ env = [.va (.int u), .va (.int v)] ∧ Nat.gcd u v = Int.gcd a b, ⟨_, a.natAbs, b.natAbs, rfl, rfl, rfl⟩, ?_⟩
  rintro m env ⟨u, v, rfl, rfl, hg⟩
  walk_at "w"
  refine iteB_by (fun c => ?_) (fun c => ?_)
  · have hm : 0 < m := by
      have : ¬ ((m : Int) = 0) := by simpa using c
      omega
    walk_at "w"
    refine ⟨by omega, ?_⟩
    walk_at "w"
    have lt := Nat.mod_lt u hm
    exact ⟨u % m, lt, m, u % m, rfl, rfl, by rw [Nat.gcd_comm, ← Nat.gcd_rec, Nat.gcd_comm]; exact hg⟩
  · have hm : m = 0 := by
      have : (m : Int) = 0 := by simpa using c
      omega
    subst hm
    walk_at "w"
    rw [Nat.gcd_zero_right] at hg
    rw [hg]
    exact h
def lw (p : List Int × Int) : D := .tup [.tup (p.1.map .int), .int p.2]
theorem lowest_ok {row : List Int} {u : Int} {q : D → Prop} {x : DX → Prop} (hu : 1 ≤ u) (su : Sm u) (hl : row.length ≤ 1000) (h : q (lw (nrm row u))) : wp__law_lowest [.lst (row.map .int), .int u] q x := by
  unfold wp__law_lowest
  refine ⟨rfl, ?_⟩
  walk_at "w"
  refine ⟨by walk_at "z", ?_⟩
  walk_at "w"
  refine ⟨fun m env => ∃ r : List Int, m = r.length ∧ m ≤ row.length ∧ env = [.ow (r.map .int), .va (.int u), .un, .un] ∧ trim r = trim row, ⟨_, row, rfl, Nat.le_refl _, rfl, rfl⟩, ?_⟩
  rintro m env ⟨r, rfl, hm, rfl, ht⟩
  refine test_by (decide (r.getLast? = some 0)) (fun q' hq => ?_) ?_
  · walk_at "w"
    refine ⟨pys_ne r, pys_sh r, ?_⟩
    rcases snoc r with rfl | ⟨l, z, rfl⟩
    · walk_at "w"
      exact hq
    · have e1 : (if true = true then !(List.map D.int (l ++ [z])).isEmpty else (List.map D.int (l ++ [z])).isEmpty) = true := by simp
      rw [e1]
      walk_at "w"
      refine ⟨.int z, by rw [List.map_append]; exact atI_end, ?_⟩
      walk_at "w"
      have e : decide ((l ++ [z]).getLast? = some 0) = (z == 0) := by
        rw [Bool.eq_iff_iff]
        simp
      rw [e] at hq
      exact hq
  refine iteB_by (fun c => ?_) (fun c => ?_)
  · obtain ⟨l, rfl⟩ := List.getLast?_eq_some_iff.mp (of_decide_eq_true c)
    walk_at "w"
    refine ⟨by simp, ?_⟩
    walk_at "w"
    refine ⟨l.length, by simp, l, rfl, by simp at hm; omega, ?_, by rw [trim_zero] at ht; exact ht⟩
    show [Sl.ow ((l ++ [0]).map D.int).dropLast, _, _, _] = _
    rw [List.map_append, List.map_singleton, List.dropLast_concat]
  have er : r = trim row := by
    rcases snoc r with rfl | ⟨l, z, rfl⟩
    · rw [← ht]; rfl
    · have hz : z ≠ 0 := fun e => of_decide_eq_false c (by subst e; simp)
      rw [trim_keep _ hz] at ht
      exact ht
  clear ht c
  subst er
  walk_at "w"
  refine for_map (φ := D.int) (fun pre env => ∃ v3 : Sl, env = [.va (.lst ((trim row).map .int)), .va (.int u), .va (.int (gcdL u pre)), v3]) (trim row) ⟨_, rfl⟩ ?_ ?_
  · rintro pre z suf env e0 hz ⟨v3, rfl⟩ _ _ _ _ hN
    walk_at "w"
    refine gcd_ok ?_
    refine hN _ ⟨.va (.int z), ?_⟩
    rw [gcdL_append]
    simp [gcdL]
  · rintro env ⟨v3, rfl⟩
    walk_at "w"
    have g1 := gcdL_pos hu (trim row)
    have g2 := gcdL_le hu (trim row)
    refine lc_map (φ := D.int) (fun z => .int (z / gcdL u (trim row))) (trim row) (fun z hz k n hk => ?_) (by have := trim_len row; omega) ?_
    · walk_at "w"
      exact ⟨dvX g1 g2 su, hk⟩
    walk_at "w"
    refine ⟨dvX g1 g2 su, ?_⟩
    walk_at "w"
    refine ⟨by walk_at "z", ?_⟩
    have e : (nrm row u).1.map D.int = (trim row).map fun z => D.int (z / gcdL u (trim row)) := by
      unfold nrm
      rw [List.map_map]
      rfl
    unfold lw at h
    rw [e] at h
    exact h

end K24

local macro_rules | `(tactic| walk_at "go") => `(tactic| repeat (first | refine ⟨_, rfl, ?_⟩ | refine ⟨_, _, rfl, rfl, ?_⟩ | refine ⟨rfl, ?_⟩ | refine ⟨_, _, rfl, rfl, ⟨by decide, by decide, by decide⟩, ?_⟩))
local macro_rules | `(tactic| walk_at "w") => `(tactic| conv => whnf)
local macro_rules | `(tactic| walk_at "z") => `(tactic| first | decide | exact Nat.le_of_ble_eq_true rfl | omega | (simp; omega))
local macro_rules | `(tactic| walk_at "i") => `(tactic| repeat (refine ⟨_, rfl, ?_⟩; walk_at "w"))
namespace K24
open PySem PySem.Spec PyProof.Rows L2 Eb
section
variable {q : D → Prop} {x : DX → Prop}
theorem eq_tm {p r : List Int × Int} (h : q (.bl (decide (p = r)))) : wp_Term_eq [tm p, tm r] q x := by
  unfold wp_Term_eq
  refine ⟨rfl, ?_⟩
  walk_at "w"
  refine ⟨by walk_at "z", ?_⟩
  walk_at "w"
  refine ⟨by walk_at "z", ?_⟩
  walk_at "w"
  refine eqP_ti ?_
  exact h
theorem eq_no {p : List Int × Int} {d : D} (hd : d.bn ≠ none) (h : q (.bl false)) : wp_Term_eq [tm p, d] q x := by
  unfold wp_Term_eq
  refine ⟨rfl, ?_⟩
  cases d <;> first | exact absurd rfl hd | (walk_at "w"; exact h)
theorem degree_ok {p : List Int × Int} (h : q (.int ((p.1.length : Nat) - 1 : Int))) : wp_Term_degree [tm p] q x := by
  unfold wp_Term_degree
  refine ⟨rfl, ?_⟩
  walk_at "w"
  rw [List.length_map]
  exact h
/-- what is no integer, as the law draws it -/
def noI : D → Prop
  | .int _ => False
  | .cl _ => False
  | .ty _ => False
  | .obj c _ => c = 3
  | _ => True
theorem is_integer_no {d : D} (hd : noI d) (h : q (.bl false)) : wp_is_integer [d] q x := by
  unfold wp_is_integer
  refine ⟨rfl, ?_⟩
  cases d <;> first | exact hd.elim | skip
  case obj c fs =>
    cases hd
    walk_at "w"
    refine ⟨by simp, ?_⟩
    walk_at "w"
    exact h
  all_goals
    walk_at "w"
    exact h
def isI : D → Bool
  | .int _ => true
  | _ => false
theorem is_integer_any {d : D} (hd : (∃ i, d = .int i) ∨ noI d) (h : q (.bl (isI d))) : wp_is_integer [d] q x := by
  rcases hd with ⟨i, rfl⟩ | hd
  · exact is_integer_ok h
  · refine is_integer_no hd ?_
    have : isI d = false := by cases d <;> first | exact hd.elim | rfl
    rw [this] at h
    exact h
theorem lc_id {g : DG} {t : DT} {u : DE} {env : List Sl} {q : List D → Prop} (f : D → D) (xs : List D) (hs : ∀ x ∈ xs, ∀ (k : D → Prop) (n : Prop), k (f x) → g x env fun env' => t env' (fun b => iteB b (u env' k (fun _ => False)) n) (fun _ => False)) (hl : xs.length ≤ 100000) (h : q (xs.map f)) : lcD g t u env q xs [] := by
  have := lc_map (φ := id) (g := g) (t := t) (u := u) (env := env) (q := q) f xs hs hl h
  rw [List.map_id] at this
  exact this
theorem init_bad {o : D} {ds : List D} {q : List D → Prop} (h1 : ∀ d ∈ ds, (∃ i, d = .int i) ∨ noI d) (h2 : ∃ d ∈ ds, noI d) (hl : ds.length ≤ 1000) (h : x ⟨1, some (.str "coefficients")⟩) : wp_Term_init [o, .tup ds] q x := by
  unfold wp_Term_init
  refine ⟨rfl, ?_⟩
  walk_at "w"
  refine lc_id (fun d => .bl (isI d)) ds (fun z hz k n hk => ?_) (by omega) ?_
  · walk_at "w"
    exact is_integer_any (h1 z hz) hk
  walk_at "w"
  refine ⟨ds.map isI, by rw [List.map_map]; rfl, ?_⟩
  have e1 : (ds.map isI).all id = false := by
    rw [List.all_eq_false]
    obtain ⟨d, hd, hn⟩ := h2
    refine ⟨isI d, List.mem_map_of_mem hd, ?_⟩
    cases d <;> first | exact hn.elim | simp [isI]
  rw [e1]
  walk_at "w"
  exact h
theorem init_over {o : D} {cs : List Int} {q : List D → Prop} (ho : noI o ∨ ∃ i : Int, o = .int i ∧ i < 1) (hl : cs.length ≤ 1000) (h : x ⟨1, some (.str "over")⟩) : wp_Term_init [o, .tup (cs.map .int)] q x := by
  unfold wp_Term_init
  refine ⟨rfl, ?_⟩
  walk_at "w"
  refine lc_map (φ := D.int) (fun _ => .bl true) cs (fun z hz k n hk => ?_) (by omega) ?_
  · walk_at "w"
    exact is_integer_ok hk
  walk_at "w"
  refine ⟨cs.map fun _ => true, by rw [List.map_map]; rfl, ?_⟩
  have e1 : (cs.map fun _ => true).all id = true := by simp
  rw [e1]
  walk_at "w"
  rcases ho with ho | ⟨i, rfl, hi⟩
  · refine is_integer_no ho ?_
    walk_at "w"
    exact h
  · refine is_integer_ok ?_
    walk_at "w"
    rw [decide_eq_true hi]
    walk_at "w"
    exact h
theorem made_g {ds : List D} {o : D} (hl : ds.length ≤ 5 ∨ ds.length = 11) (h : wp_Term_init [o, .tup ds] (fun fs => q (.obj 3 fs)) x) : wp__law_made [.lst ds, o] q x := by
  unfold wp__law_made
  refine ⟨rfl, ?_⟩
  rcases ds with _ | ⟨a, _ | ⟨b, _ | ⟨c, _ | ⟨d, _ | ⟨e, _ | ⟨f, ds⟩⟩⟩⟩⟩⟩
  · walk_at "w"
    exact ⟨by simp, h⟩
  · walk_at "w"
    walk_at "i"
    exact ⟨by simp, h⟩
  · walk_at "w"
    walk_at "i"
    exact ⟨by simp, h⟩
  · walk_at "w"
    walk_at "i"
    exact ⟨by simp, h⟩
  · walk_at "w"
    walk_at "i"
    exact ⟨by simp, h⟩
  · walk_at "w"
    walk_at "i"
    exact ⟨by simp, h⟩
  · have hl : ds.length = 5 := by
      simp only [List.length_cons] at hl
      omega
    rcases ds with _ | ⟨a6, _ | ⟨a7, _ | ⟨a8, _ | ⟨a9, _ | ⟨a10, ds⟩⟩⟩⟩⟩
    · cases hl
    · cases hl
    · cases hl
    · cases hl
    · cases hl
    · cases List.length_eq_zero_iff.mp (show ds.length = 0 by simpa using hl)
      walk_at "w"
      walk_at "i"
      exact ⟨by simp, h⟩
theorem made_t {row : List Int} {u : Int} (hl : row.length ≤ 5 ∨ row.length = 11) (hu : 1 ≤ u) (su : Sm u) (h : q (tm (nrm row u))) : wp__law_made [.lst (row.map .int), .int u] q x :=
  made_g (by rw [List.length_map]; exact hl) (init_ok hu su (by omega) h)
theorem refused_c {ds : List D} {o : D} (hl : ds.length ≤ 5 ∨ ds.length = 11) (h1 : ∀ d ∈ ds, (∃ i, d = .int i) ∨ noI d) (h2 : ∃ d ∈ ds, noI d) (h : q (.str "coefficients")) : wp__law_refused [.lst ds, o] q x := by
  unfold wp__law_refused
  refine ⟨rfl, ?_⟩
  walk_at "w"
  refine made_g hl (init_bad h1 h2 (by omega) ?_)
  refine ⟨by simp, ?_⟩
  walk_at "w"
  intro a cls od
  walk_at "w"
  refine ⟨rfl, rfl, rfl, rfl, ?_⟩
  walk_at "w"
  refine ⟨true, rfl, ?_⟩
  walk_at "w"
  refine ⟨rfl, rfl, rfl, rfl, ?_⟩
  walk_at "w"
  refine ⟨true, rfl, ?_⟩
  walk_at "w"
  refine ⟨rfl, rfl, rfl, rfl, ?_⟩
  walk_at "w"
  exact h
theorem refused_o {cs : List Int} {o : D} (hl : cs.length ≤ 5 ∨ cs.length = 11) (ho : noI o ∨ ∃ i : Int, o = .int i ∧ i < 1) (h : q (.str "over")) : wp__law_refused [.lst (cs.map .int), o] q x := by
  unfold wp__law_refused
  refine ⟨rfl, ?_⟩
  walk_at "w"
  refine made_g (by rw [List.length_map]; exact hl) (init_over ho (by omega) ?_)
  refine ⟨by simp, ?_⟩
  walk_at "w"
  intro a cls od
  walk_at "w"
  refine ⟨rfl, rfl, rfl, rfl, ?_⟩
  walk_at "w"
  refine ⟨true, rfl, ?_⟩
  walk_at "w"
  refine ⟨rfl, rfl, rfl, rfl, ?_⟩
  walk_at "w"
  refine ⟨true, rfl, ?_⟩
  walk_at "w"
  refine ⟨rfl, rfl, rfl, rfl, ?_⟩
  walk_at "w"
  exact h
theorem refused_n {row : List Int} {u : Int} (hl : row.length ≤ 5 ∨ row.length = 11) (hu : 1 ≤ u) (su : Sm u) (h : q .non) : wp__law_refused [.lst (row.map .int), .int u] q x := by
  unfold wp__law_refused
  refine ⟨rfl, ?_⟩
  walk_at "w"
  refine made_t hl hu su ?_
  exact h
theorem dm {A U a o g : Int} (hA : A = a * g) (hU : U = o * g) (hg : 0 < g) : A / U = a / o ∧ A % U = a % o * g := by
  subst hA hU
  have d : a * g / (o * g) = a / o := Int.mul_ediv_mul_of_pos_left a o hg
  refine ⟨d, ?_⟩
  rw [Int.emod_def, Int.emod_def, d, Int.sub_mul, Int.mul_assoc, Int.mul_comm g, ← Int.mul_assoc]
/-- a value of a term, or "none" -/
def valD (a u : Int) : D := if a % u = 0 then .int (a / u) else .str "none"
theorem at_ok {row : List Int} {u b : Int} {M B : Nat} (hu : 1 ≤ u) (su : Sm u) (hc : Cap M row) (hb : b.natAbs ≤ B) (hs : M * (B + 1) ^ row.length ≤ 10 ^ 500) (sb : Sm b) (h : q (valD (hor row b) u)) : wp__law_at [tm (nrm row u), .int b] q x := by
  obtain ⟨g, g1, e1, e2, _⟩ := nrm_spec (cs := row) hu
  have v1 : hor row b = hor (nrm row u).1 b * g := by rw [← hor_map_mul, ← e1, hor_trim]
  have o1 : 1 ≤ (nrm row u).2 := by
    by_cases c : 1 ≤ (nrm row u).2
    · exact c
    · have : (nrm row u).2 * g ≤ 0 := Int.mul_nonpos_of_nonpos_of_nonneg (by omega) (by omega)
      omega
  have hs' : M * (B + 1) ^ (nrm row u).1.length ≤ 10 ^ 500 := Nat.le_trans (Nat.mul_le_mul_left _ (Nat.pow_le_pow_right (by omega) nrm_len)) hs
  have so : Sm (nrm row u).2 := su.le (by omega) (nrm_over hu)
  unfold wp__law_at
  refine ⟨rfl, ?_⟩
  walk_at "w"
  refine ⟨rfl, ?_⟩
  unfold wp_Term_call
  refine ⟨rfl, ?_⟩
  walk_at "w"
  refine numerator_ok (nrm_cap hu hc) hb hs' sb ?_
  walk_at "w"
  refine ⟨show 0 < (nrm row u).2 by omega, ?_⟩
  obtain ⟨dv, md⟩ := dm v1 e2 (by omega)
  unfold valD at h
  rw [dv, md] at h
  walk_at "w"
  by_cases z : hor (nrm row u).1 b % (nrm row u).2 = 0
  · rw [if_pos (by rw [z, Int.zero_mul])] at h
    rw [z]
    walk_at "w"
    refine ⟨divW (by omega) so, ?_⟩
    exact h
  · rw [if_neg (fun y => z ((Int.mul_eq_zero.mp y).resolve_right (by omega)))] at h
    rw [show (!(hor (nrm row u).1 b % (nrm row u).2 == 0)) = true by rw [beq_eq_false_iff_ne.mpr z]; rfl]
    walk_at "w"
    refine ⟨by simp, ?_⟩
    walk_at "w"
    intro a cls od
    walk_at "w"
    refine ⟨rfl, rfl, rfl, rfl, ?_⟩
    walk_at "w"
    refine ⟨true, rfl, ?_⟩
    walk_at "w"
    refine ⟨rfl, rfl, rfl, rfl, ?_⟩
    walk_at "w"
    refine ⟨false, rfl, ?_⟩
    walk_at "w"
    exact h
end
theorem repr_lw {p : List Int × Int} {q : D → Prop} {x : DX → Prop} (hs : ∀ n ∈ p.1, Sm n) (h2 : Sm p.2) (hl : p.1.length ≤ 100) (h : q (.str (PyData.shown (.tuple [.tuple (p.1.map .int), .int p.2])))) : reprD [.tup [.tup (p.1.map .int), .int p.2]] q x := by
  have a := show_ints p.1 hs
  have b := show_ints [p.2] (fun n hn => by rw [List.mem_singleton.mp hn]; exact h2)
  unfold reprD
  refine ⟨.tuple [.tuple (p.1.map .int), .int p.2], by simp only [D.py, D.pys, pys_ints], ?_, ?_, ?_, h⟩
  · simp only [PyData.showable, PyData.showableAll, List.map_cons, List.map_nil, Bool.and_eq_true] at *
    exact ⟨a, b⟩
  · show ((bnd.bndAll (p.1.map PyData.int) + 3) + 2 + (1921 + 2 + 0)) + 3 ≤ 16000000
    rw [bnd_ints]
    omega
  · simp only [PyData.depth, PyData.depthAll, depth_ints]
    decide
theorem repr_i {i : Int} {q : D → Prop} {x : DX → Prop} (h : Sm i) (k : q (.str (PyData.shown (.int i)))) : reprD [.int i] q x := by
  have b := show_ints [i] (fun n hn => by rw [List.mem_singleton.mp hn]; exact h)
  unfold reprD
  exact ⟨.int i, rfl, by simpa [PyData.showableAll] using b, by show 1921 ≤ 16000000; decide, by simp [PyData.depth], k⟩
theorem smI {n : Int} (h1 : -(10 ^ 60) ≤ n) (h2 : n ≤ 10 ^ 60) : Sm n := sm_abs (by omega)
theorem repr_s {y : Str} {q : D → Prop} {x : DX → Prop} (hy : (PySem.reprText y).length ≤ 1000) (k : q (.str (PyData.shown (.str y)))) : reprD [.str y] q x := by
  unfold reprD
  exact ⟨.str y, rfl, by simp [PyData.showable], by show (PySem.reprText y).length ≤ 16000000; omega, by simp [PyData.depth], k⟩

end K24

local macro_rules | `(tactic| walk_at "go") => `(tactic| repeat (first | refine ⟨_, rfl, ?_⟩ | refine ⟨_, _, rfl, rfl, ?_⟩ | refine ⟨rfl, ?_⟩ | refine ⟨_, _, rfl, rfl, ⟨by decide, by decide, by decide⟩, ?_⟩))
local macro_rules | `(tactic| walk_at "w") => `(tactic| conv => whnf)
local macro_rules | `(tactic| walk_at "z") => `(tactic| first | decide | exact Nat.le_of_ble_eq_true rfl | omega | (simp; omega))
local macro_rules | `(tactic| walk_at "i") => `(tactic| repeat (refine ⟨_, rfl, ?_⟩; walk_at "w"))
namespace K24
open PySem PySem.Spec PyProof.Rows L2 Eb
theorem law_holds : w_law := by
  unfold w_law
  refine seq_by (fun _ => True) (fun e' _ _ _ _ hnx => ?_) (fun env _ => ?_)
  · walk_at "w"
    refine ⟨⟨by decide, by decide⟩, ?_⟩
    refine for_range (fun k env => ∃ v2 v3 v4 v5 v6 v7 v8 v9 v10 v11 v12 v13 v14 v15 v16 v17 v18 v19 v20 v21 v22 v23 v24 v25 : Sl, env = [.un, .dl, v2, v3, v4, v5, v6, v7, v8, v9, v10, v11, v12, v13, v14, v15, v16, v17, v18, v19, v20, v21, v22, v23, v24, v25]) ⟨_, _, _, _, _, _, _, _, _, _, _, _, _, _, _, _, _, _, _, _, _, _, _, _, rfl⟩ ?_ (fun env _ => hnx env trivial)
    rintro n env e1 hn ⟨v2, v3, v4, v5, v6, v7, v8, v9, v10, v11, v12, v13, v14, v15, v16, v17, v18, v19, v20, v21, v22, v23, v24, v25, rfl⟩ _ _ _ _ hN
    refine seq4 (fun env => ∃ (row : List Int) (u f : Int) (v2 v8 v9 v10 v11 v12 v13 v14 v15 v16 v17 v18 v19 v20 v21 v22 v23 v24 v25 : Sl), ((row.length ≤ 4 ∨ row.length = 11) ∧ Cap (10 ^ 9) row ∧ 1 ≤ u ∧ u ≤ 10 ^ 9 ∧ 1 ≤ f ∧ f ≤ 6) ∧ env = [.un, .dl, v2, .va (.lst (row.map .int)), .va (.int u), .va (.int f), .va (tm (nrm row u)), .va (lw (nrm row u)), v8, v9, v10, v11, v12, v13, v14, v15, v16, v17, v18, v19, v20, v21, v22, v23, v24, v25]) (fun e' _ _ _ _ hnx => ?_) ?_
    · walk_at "w"
      refine ⟨by walk_at "z", ?_⟩
      walk_at "w"
      refine ⟨by decide, sm_of (by decide) (by decide), fun r r0 r1 => ?_⟩
      obtain ⟨k, hk, k1⟩ : ∃ k : Int, atI [D.int 0, .int 1, .int 2, .int 3, .int 4, .int 11] r = some (.int k) ∧ (0 ≤ k ∧ k ≤ 4 ∨ k = 11) := by
        have : r = 0 ∨ r = 1 ∨ r = 2 ∨ r = 3 ∨ r = 4 ∨ r = 5 := by omega
        rcases this with rfl | rfl | rfl | rfl | rfl | rfl <;> exact ⟨_, rfl, by omega⟩
      refine ⟨_, hk, ?_⟩
      walk_at "w"
      refine ⟨powX (sm_lil (by decide) (by decide)) (by decide) (by decide), ?_⟩
      walk_at "w"
      refine row_ok (by omega) (by omega) (by decide) (by decide) fun row rl rc => ?_
      have rc : Cap (10 ^ 9) row := rc.mono (by decide)
      have rl : row.length ≤ 4 ∨ row.length = 11 := by omega
      walk_at "w"
      refine ⟨powX (sm_lil (by decide) (by decide)) (by decide) (by decide), ?_⟩
      walk_at "w"
      refine ⟨by walk_at "z", ?_⟩
      walk_at "w"
      refine ⟨by decide, sm_of (by decide) (by decide), fun r2 r20 r21 => ?_⟩
      obtain ⟨k2, hk2, k21, k22⟩ : ∃ k : Int, atI [D.int 1, .int 12, .int (10 ^ (Int.toNat 9))] r2 = some (.int k) ∧ 1 ≤ k ∧ k ≤ 10 ^ 9 := by
        have : r2 = 0 ∨ r2 = 1 ∨ r2 = 2 := by omega
        rcases this with rfl | rfl | rfl
        · exact ⟨_, rfl, by decide, by decide⟩
        · exact ⟨_, rfl, by decide, by decide⟩
        · exact ⟨_, rfl, by decide, by decide⟩
      refine ⟨_, hk2, ?_⟩
      walk_at "w"
      refine ⟨by omega, sm_of (by omega) (by omega), fun u u0 u1 => ?_⟩
      walk_at "w"
      refine ⟨by decide, sm_of (by decide) (by decide), fun f f0 f1 => ?_⟩
      walk_at "w"
      refine ⟨by walk_at "z", ?_⟩
      walk_at "w"
      refine made_t (by omega) (by omega) (sm_lil (by omega) (by omega)) ?_
      walk_at "w"
      refine lowest_ok (by omega) (sm_lil (by omega) (by omega)) (by omega) ?_
      walk_at "w"
      have su : Sm (1 + u) := sm_lil (by omega) (by omega)
      have ol := nrm_over (cs := row) (show 1 ≤ 1 + u by omega)
      have o1 := (nrm_low (cs := row) (show 1 ≤ 1 + u by omega)).pos
      have nc : ∀ n ∈ (nrm row (1 + u)).1, Sm n := cap_sm (nrm_cap (by omega) rc) (Nat.pow_le_pow_right (by decide) (by decide))
      have nl : (nrm row (1 + u)).1.length ≤ 11 := Nat.le_trans nrm_len (by omega)
      refine ⟨by walk_at "z", ?_⟩
      walk_at "w"
      refine repr_lw nc (su.le (by omega) ol) (by omega) ?_
      walk_at "w"
      refine repr_lw nc (su.le (by omega) ol) (by omega) ?_
      walk_at "w"
      rw [beq_self_eq_true]
      exact hnx _ ⟨row, 1 + u, 1 + f, _, _, _, _, _, _, _, _, _, _, _, _, _, _, _, _, _, _, _, ⟨rl, rc, by omega, by omega, by omega, by omega⟩, rfl⟩
    clear v2 v3 v4 v5 v6 v7 v8 v9 v10 v11 v12 v13 v14 v15 v16 v17 v18 v19 v20 v21 v22 v23 v24 v25
    rintro _ ⟨row, u, f, v2, v8, v9, v10, v11, v12, v13, v14, v15, v16, v17, v18, v19, v20, v21, v22, v23, v24, v25, ⟨rl, rc, u1, u2, f1, f2⟩, rfl⟩
    have su : Sm u := sm_lil (by omega) (by omega)
    have ol := nrm_over (cs := row) u1
    have o1 := (nrm_low (cs := row) u1).pos
    have nc : ∀ n ∈ (nrm row u).1, Sm n := cap_sm (nrm_cap (by omega) rc) (Nat.pow_le_pow_right (by decide) (by decide))
    have nl : (nrm row u).1.length ≤ 11 := Nat.le_trans nrm_len (by omega)
    have rs : ∀ n ∈ row, Sm n := cap_sm rc (Nat.pow_le_pow_right (by decide) (by decide))
    refine seq_by (fun env => env = [.un, .dl, v2, .va (.lst (row.map .int)), .va (.int u), .va (.int f), .va (tm (nrm row u)), .va (lw (nrm row u)), v8, v9, v10, v11, v12, v13, v14, v15, v16, v17, v18, v19, v20, v21, v22, v23, v24, v25]) (fun e' _ _ _ _ hnx => ?_) ?_
    · walk_at "w"
      refine ⟨rfl, degree_ok ?_⟩
      walk_at "w"
      refine repr_i (sm_lil (by omega) (by omega)) ?_
      walk_at "w"
      refine ⟨_, rfl, ?_⟩
      walk_at "w"
      rw [List.length_map]
      refine ⟨log_of (sm_lil (by omega) (by omega)), ?_⟩
      walk_at "w"
      simp only [PyData.shown]
      rw [beq_self_eq_true]
      exact hnx _ rfl
    rintro _ rfl
    have sf : Sm f := sm_lil (by omega) (by omega)
    refine seq2 (fun env => ∃ (b : Bool), env = [.un, .dl, v2, .va (.lst (row.map .int)), .va (.int u), .va (.int f), .va (tm (nrm row u)), .va (lw (nrm row u)), .va (.lst ((row.map fun z => f * z).map .int)), .va (.lst ((row.map fun z => z / f).map .int)), .va (.bl b), v11, v12, v13, v14, v15, v16, v17, v18, v19, v20, v21, v22, v23, v24, v25]) (fun e' _ _ _ _ hnx => ?_) ?_
    · walk_at "w"
      refine lc_map (φ := D.int) (fun z => .int (f * z)) row (fun z hz k n hk => ?_) (by omega) ?_
      · walk_at "w"
        exact ⟨mulW sf (rs z hz), hk⟩
      walk_at "w"
      refine lc_map (φ := D.int) (fun z => .int (z / f)) row (fun z hz k n hk => ?_) (by omega) ?_
      · walk_at "w"
        exact ⟨divW (by omega) sf, hk⟩
      walk_at "w"
      refine ⟨mulW su sf, ?_⟩
      walk_at "w"
      refine ⟨by walk_at "z", ?_⟩
      walk_at "w"
      refine ⟨by simp; omega, ?_⟩
      walk_at "w"
      rw [show (row.map fun z => D.int (f * z)) ++ [D.int (u * f)] = ((row.map fun z => f * z) ++ [u * f]).map D.int by rw [List.map_append, List.map_map]; rfl]
      refine lc_filter (φ := D.int) (fun z => decide ((if z < 0 then -z else z) > 10 ^ 9)) D.int ((row.map fun z => f * z) ++ [u * f]) [] (fun z hz kk n h1 h2 => ?_) (by simp; omega) ?_
      · walk_at "w"
        refine ⟨powX (sm_lil (by decide) (by decide)) (by decide) (by decide), ?_⟩
        refine iteB_by (fun c => ?_) (fun c => ?_)
        · exact h1 c
        · exact h2 c
      walk_at "w"
      refine ⟨by walk_at "z", ?_⟩
      walk_at "w"
      refine eqP_ints (ys := []) ?_
      exact hnx _ ⟨_, by rw [List.map_map, List.map_map]; rfl⟩
    rintro _ ⟨near, rfl⟩
    have wl : ∃ w : List Int, cutL (((row.map fun z => f * z) ++ [0]).map D.int) none (some ((if (row.length : Int) > 5 then (row.length : Int) else 5))) = w.map .int ∧ (w.length ≤ 5 ∨ w.length = 11) ∧ ∀ b, hor w b = hor row b * f := by
      have hm : ∀ b, hor (row.map fun z => f * z) b = hor row b * f := fun b => by rw [← hor_map_mul]; congr 1; exact List.map_congr_left fun z _ => Int.mul_comm _ _
      rcases rl with rl | rl
      · refine ⟨(row.map fun z => f * z) ++ [0], ?_, .inl (by simp; omega), fun b => by rw [hor_snoc_zero, hm]⟩
        rw [if_neg (by omega), show (5 : Int) = ((5 : Nat) : Int) from rfl, cut_take, List.take_of_length_le (by simp; omega)]
      · refine ⟨row.map fun z => f * z, ?_, .inr (by rw [List.length_map]; exact rl), hm⟩
        rw [if_pos (by omega), cut_take, List.map_append, List.take_append_of_le_length (by simp), List.take_of_length_le (by simp)]
    obtain ⟨w, we, wl, wh⟩ := wl
    have suf : Sm (u * f) := by
      have := Int.mul_le_mul u2 f2 (by omega) (by decide)
      have := Int.mul_nonneg (show 0 ≤ u by omega) (show 0 ≤ f by omega)
      exact sm_lil (by omega) (by omega)
    have uf1 : 1 ≤ u * f := by
      have := Int.mul_le_mul u1 f1 (by decide) (by omega)
      omega
    refine seq2 (fun env => env = [.un, .dl, v2, .va (.lst (row.map .int)), .va (.int u), .va (.int f), .va (tm (nrm row u)), .va (lw (nrm row u)), .va (.lst (w.map .int)), .va (.lst ((row.map fun z => z / f).map .int)), .va (.bl near), v11, v12, v13, v14, v15, v16, v17, v18, v19, v20, v21, v22, v23, v24, v25]) (fun e' _ _ _ _ hnx => ?_) ?_
    · walk_at "w"
      refine ⟨by walk_at "z", ?_⟩
      walk_at "w"
      refine ⟨by simp; omega, ?_⟩
      walk_at "w"
      rw [List.length_map, show (row.map fun z => f * z).map D.int ++ [D.int 0] = ((row.map fun z => f * z) ++ [0]).map D.int by rw [List.map_append]; rfl, we]
      cases near with
      | false =>
        walk_at "w"
        exact hnx _ rfl
      | true =>
        walk_at "w"
        refine ⟨mulW su sf, ?_⟩
        walk_at "w"
        refine made_t wl uf1 suf ?_
        walk_at "w"
        refine ⟨rfl, rfl, eq_tm ?_⟩
        rw [decide_eq_true (nrm_eq (N := 0) uf1 u1 fun b _ => by rw [wh, Int.mul_assoc, Int.mul_comm f])]
        exact hnx _ rfl
    rintro _ rfl
    refine seq2 (fun env => ∃ v11 v12 : Sl, env = [.un, .dl, v2, .va (.lst (row.map .int)), .va (.int u), .va (.int f), .va (tm (nrm row u)), .va (lw (nrm row u)), .va (.lst (w.map .int)), .va (.lst ((row.map fun z => z / f).map .int)), .va (.bl near), v11, v12, v13, v14, v15, v16, v17, v18, v19, v20, v21, v22, v23, v24, v25]) (fun e' _ _ _ _ hnx => ?_) ?_
    · walk_at "w"
      refine made_t (by rw [List.length_map]; omega) u1 su ?_
      walk_at "w"
      refine lowest_ok u1 su (by rw [List.length_map]; omega) ?_
      walk_at "w"
      refine eqP_ti ?_
      walk_at "w"
      refine ⟨rfl, rfl, eq_tm ?_⟩
      walk_at "w"
      rw [show ((decide (nrm (row.map fun z => z / f) u = nrm row u)) == decide (((nrm (row.map fun z => z / f) u).1, (nrm (row.map fun z => z / f) u).2) = ((nrm row u).1, (nrm row u).2))) = true from beq_self_eq_true _]
      walk_at "w"
      refine ⟨rfl, eq_no (by unfold lw; simp [D.bn]) ?_⟩
      walk_at "w"
      refine ⟨rfl, eq_no (by simp [D.bn]) ?_⟩
      walk_at "w"
      exact hnx _ ⟨_, _, rfl⟩
    rintro _ ⟨v11, v12, rfl⟩
    generalize e8 : Sl.va (.lst (w.map .int)) = v8
    generalize e9 : Sl.va (.lst ((row.map fun z => z / f).map .int)) = v9
    generalize e10 : Sl.va (.bl near) = v10
    refine seq_by (fun env => ∃ v13 v14 v15 v16 v17 v18 : Sl, env = [.un, .dl, v2, .va (.lst (row.map .int)), .va (.int u), .va (.int f), .va (tm (nrm row u)), .va (lw (nrm row u)), v8, v9, v10, v11, v12, v13, v14, v15, v16, v17, v18, v19, v20, v21, v22, v23, v24, v25]) (fun e' _ _ _ _ hnx => ?_) ?_
    · walk_at "w"
      refine ⟨⟨by decide, by decide⟩, ?_⟩
      refine for_range (fun k env => ∃ v13 v14 v15 v16 v17 v18 : Sl, env = [.un, .dl, v2, .va (.lst (row.map .int)), .va (.int u), .va (.int f), .va (tm (nrm row u)), .va (lw (nrm row u)), v8, v9, v10, v11, v12, v13, v14, v15, v16, v17, v18, v19, v20, v21, v22, v23, v24, v25]) ⟨_, _, _, _, _, _, rfl⟩ ?_ (fun env z => hnx env z)
      rintro i env e2 hi ⟨v13, v14, v15, v16, v17, v18, rfl⟩ _ _ _ _ hN2
      walk_at "w"
      refine ⟨powX (sm_lil (by decide) (by decide)) (by decide) (by decide), ?_⟩
      walk_at "w"
      refine ⟨by walk_at "z", ?_⟩
      walk_at "w"
      refine ⟨by decide, sm_of (by decide) (by decide), fun r r0 r1 => ?_⟩
      obtain ⟨k, hk, k1, k2⟩ : ∃ k : Int, atI [D.int 7, .int 100, .int (10 ^ (Int.toNat 30))] r = some (.int k) ∧ 1 ≤ k ∧ k ≤ 10 ^ 30 := by
        have : r = 0 ∨ r = 1 ∨ r = 2 := by omega
        rcases this with rfl | rfl | rfl <;> exact ⟨_, rfl, by decide, by decide⟩
      refine ⟨_, hk, ?_⟩
      walk_at "w"
      refine ⟨by walk_at "z", ?_⟩
      walk_at "w"
      refine ⟨by decide, sm_of (by decide) (by decide), fun r2 r20 r21 => ?_⟩
      obtain ⟨g, hg, g1⟩ : ∃ g : Int, atI [D.int 1, .int (0 - 1)] r2 = some (.int g) ∧ (g = 1 ∨ g = -1) := by
        have : r2 = 0 ∨ r2 = 1 := by omega
        rcases this with rfl | rfl <;> exact ⟨_, rfl, by decide⟩
      refine ⟨_, hg, ?_⟩
      walk_at "w"
      refine ⟨by omega, sm_of (by omega) (by omega), fun y y0 y1 => ?_⟩
      walk_at "w"
      refine ⟨mulW (smI (by omega) (by omega)) (sm_lil (by omega) (by omega)), ?_⟩
      obtain ⟨b, hb, b1⟩ : ∃ b : Int, y * g = b ∧ b.natAbs ≤ 10 ^ 30 := by
        refine ⟨_, rfl, ?_⟩
        rcases g1 with rfl | rfl
        · rw [Int.mul_one]; omega
        · rw [Int.mul_neg, Int.mul_one]; omega
      rw [hb]
      have sb : Sm b := smI (by omega) (by omega)
      have bd : 10 ^ 9 * (10 ^ 30 + 1) ^ row.length ≤ 10 ^ 500 := Nat.le_trans (Nat.mul_le_mul_left _ (Nat.pow_le_pow_right (by decide) (show row.length ≤ 11 by omega))) (by decide +kernel)
      walk_at "w"
      refine value_ok rc b1 bd sb ?_
      walk_at "w"
      refine ⟨divW (by omega) su, ?_⟩
      walk_at "w"
      refine ⟨by walk_at "z", ?_⟩
      walk_at "w"
      refine ⟨show 0 < u by omega, ?_⟩
      walk_at "w"
      by_cases z : hor row b % u = 0
      · rw [z]
        refine ⟨_, rfl, ?_⟩
        walk_at "w"
        refine at_ok u1 su rc b1 bd sb ?_
        unfold valD
        rw [if_pos z]
        have sv : Sm (hor row b / u) := sm500 (Nat.le_trans (Int.natAbs_ediv_le_natAbs _ _) (Nat.le_trans (hor_cap rc b1) bd))
        walk_at "w"
        refine repr_i sv ?_
        walk_at "w"
        refine repr_i sv ?_
        walk_at "w"
        rw [beq_self_eq_true]
        exact hN2 _ ⟨_, _, _, _, _, _, rfl⟩
      · rw [show (!(hor row b % u == 0)) = true by rw [beq_eq_false_iff_ne.mpr z]; rfl]
        refine ⟨_, rfl, ?_⟩
        walk_at "w"
        refine at_ok u1 su rc b1 bd sb ?_
        unfold valD
        rw [if_neg z]
        walk_at "w"
        refine repr_s (by decide +kernel) ?_
        walk_at "w"
        refine repr_s (by decide +kernel) ?_
        walk_at "w"
        rw [beq_self_eq_true]
        exact hN2 _ ⟨_, _, _, _, _, _, rfl⟩
    rintro _ ⟨v13, v14, v15, v16, v17, v18, rfl⟩
    refine seq_by (fun env => ∃ o : D, noI o ∧ env = [.un, .dl, v2, .va (.lst (row.map .int)), .va (.int u), .va (.int f), .va (tm (nrm row u)), .va (lw (nrm row u)), v8, v9, v10, v11, v12, v13, v14, v15, v16, v17, v18, .va o, v20, v21, v22, v23, v24, v25]) (fun e' _ _ _ _ hnx => ?_) ?_
    · walk_at "w"
      refine ⟨by walk_at "z", ?_⟩
      walk_at "w"
      refine ⟨by walk_at "z", ?_⟩
      walk_at "w"
      refine ⟨by walk_at "z", ?_⟩
      walk_at "w"
      refine ⟨by walk_at "z", ?_⟩
      walk_at "w"
      refine ⟨by decide, sm_of (by decide) (by decide), fun r r0 r1 => ?_⟩
      have : r = 0 ∨ r = 1 ∨ r = 2 ∨ r = 3 ∨ r = 4 ∨ r = 5 ∨ r = 6 := by omega
      rcases this with rfl | rfl | rfl | rfl | rfl | rfl | rfl <;> exact ⟨_, rfl, hnx _ ⟨_, (by first | exact trivial | exact rfl), rfl⟩⟩
    rintro _ ⟨o, ho, rfl⟩
    have tl : (row.take 4).length ≤ 4 := by rw [List.length_take]; omega
    refine seq3 (fun env => ∃ v20 v21 v22 v23 : Sl, env = [.un, .dl, v2, .va (.lst (row.map .int)), .va (.int u), .va (.int f), .va (tm (nrm row u)), .va (lw (nrm row u)), v8, v9, v10, v11, v12, v13, v14, v15, v16, v17, v18, .va o, v20, v21, v22, v23, v24, v25]) (fun e' _ _ _ _ hnx => ?_) ?_
    · walk_at "w"
      have e4 : cutL (row.map D.int) none (some ((4 : Nat) : Int)) = (row.take 4).map D.int := by rw [cut_take, List.map_take]
      rw [show (4 : Int) = ((4 : Nat) : Int) from rfl, e4, List.length_map]
      refine ⟨by omega, sm_of (by omega) (by omega), fun k k0 k1 => ?_⟩
      obtain ⟨k, rfl⟩ := Int.eq_ofNat_of_zero_le k0
      walk_at "w"
      rw [e4, cut_take]
      refine ⟨by walk_at "z", ?_⟩
      walk_at "w"
      refine ⟨by simp; omega, ?_⟩
      walk_at "w"
      rw [cut_drop]
      refine ⟨by simp; omega, ?_⟩
      walk_at "w"
      refine ⟨by walk_at "z", ?_⟩
      walk_at "w"
      refine ⟨by decide, sm_of (by decide) (by decide), fun r r0 r1 => ?_⟩
      obtain ⟨z, hz⟩ : ∃ z, atI [D.int u, .int 0, .non] r = some z := by
        have : r = 0 ∨ r = 1 ∨ r = 2 := by omega
        rcases this with rfl | rfl | rfl <;> exact ⟨_, rfl⟩
      refine ⟨_, hz, ?_⟩
      walk_at "w"
      rw [← List.map_take, ← List.map_drop]
      refine refused_c (.inl ?_) ?_ ?_ ?_
      · simp only [List.length_append, List.length_map, List.length_take, List.length_drop, List.length_cons, List.length_nil] at *
        omega
      · intro d hd
        rcases List.mem_append.mp hd with y | y
        · rcases List.mem_append.mp y with y | y
          · obtain ⟨i, _, rfl⟩ := List.mem_map.mp y
            exact .inl ⟨i, rfl⟩
          · rw [List.mem_singleton.mp y]
            exact .inr ho
        · obtain ⟨i, _, rfl⟩ := List.mem_map.mp y
          exact .inl ⟨i, rfl⟩
      · exact ⟨o, by simp, ho⟩
      walk_at "w"
      exact hnx _ ⟨_, _, _, _, rfl⟩
    rintro _ ⟨v20, v21, v22, v23, rfl⟩
    walk_at "w"
    refine ⟨by walk_at "z", ?_⟩
    walk_at "w"
    refine ⟨by walk_at "z", ?_⟩
    walk_at "w"
    refine ⟨by decide, sm_of (by decide) (by decide), fun r r0 r1 => ?_⟩
    obtain ⟨z, hz, zo⟩ : ∃ z, atI [D.int 0, .int (0 - u), .non, .bl true, .str "2", .lst [.int 1]] r = some z ∧ (noI z ∨ ∃ i : Int, z = .int i ∧ i < 1) := by
      have : r = 0 ∨ r = 1 ∨ r = 2 ∨ r = 3 ∨ r = 4 ∨ r = 5 := by omega
      rcases this with rfl | rfl | rfl | rfl | rfl | rfl
      · exact ⟨_, rfl, .inr ⟨_, rfl, by decide⟩⟩
      · exact ⟨_, rfl, .inr ⟨_, rfl, by omega⟩⟩
      · exact ⟨_, rfl, .inl trivial⟩
      · exact ⟨_, rfl, .inl trivial⟩
      · exact ⟨_, rfl, .inl trivial⟩
      · exact ⟨_, rfl, .inl trivial⟩
    refine ⟨_, hz, ?_⟩
    walk_at "w"
    refine refused_o (by omega) zo ?_
    walk_at "w"
    refine refused_n (by omega) u1 su ?_
    walk_at "w"
    exact hN _ ⟨_, _, _, _, _, _, _, _, _, _, _, _, _, _, _, _, _, _, _, _, _, _, _, _, rfl⟩
  · have n0 : nrm [] 1 = ([], 1) := by decide
    walk_at "w"
    refine ⟨by walk_at "z", ?_⟩
    refine init_ok (cs := []) (by decide) (sm_lil (by decide) (by decide)) (by decide) ?_
    walk_at "w"
    refine ⟨rfl, degree_ok (p := nrm [] 1) ?_⟩
    rw [n0]
    walk_at "w"
    refine ⟨by walk_at "z", ?_⟩
    refine init_ok (cs := []) (by decide) (sm_lil (by decide) (by decide)) (by decide) ?_
    rw [n0]
    walk_at "w"
    refine ⟨by walk_at "z", ?_⟩
    refine init_ok (cs := [0, 0]) (by decide) (sm_lil (by decide) (by decide)) (by decide) ?_
    walk_at "w"
    refine ⟨by walk_at "z", ?_⟩
    refine init_ok (cs := []) (by decide) (sm_lil (by decide) (by decide)) (by decide) ?_
    walk_at "w"
    refine ⟨rfl, rfl, eq_tm (p := nrm [0, 0] 9) (r := nrm [] 1) ?_⟩
    rfl

end K24

namespace K24
open PySem PySem.Spec PyProof.Rows L2 Eb
def topS (i : Nat) : Stmt := PySem.Challenge.pw_everybase_k24_terms_made.main.body.getD i (.Pass ⟨0, 0, 0, 0⟩)
abbrev s__wall : Stmt := topS 0
theorem sc__wall : FnScope ["k"] ["k"] (defScope s__wall) := ⟨rfl, rfl, rfl, by decide +kernel, rfl, by decide +kernel, by decide +kernel⟩
abbrev s_is_integer : Stmt := topS 6
theorem sc_is_integer : FnScope ["value"] ["value"] (defScope s_is_integer) := ⟨rfl, rfl, rfl, by decide +kernel, rfl, by decide +kernel, by decide +kernel⟩
abbrev s_common : Stmt := topS 8
theorem sc_common : FnScope ["one", "other"] ["one", "other"] (defScope s_common) := ⟨rfl, rfl, rfl, by decide +kernel, rfl, by decide +kernel, by decide +kernel⟩
abbrev s_least_multiple : Stmt := topS 9
theorem sc_least_multiple : FnScope ["one", "other"] ["one", "other"] (defScope s_least_multiple) := ⟨rfl, rfl, rfl, by decide +kernel, rfl, by decide +kernel, by decide +kernel⟩
abbrev s_term_of : Stmt := topS 11
theorem sc_term_of : FnScope ["value"] ["value"] (defScope s_term_of) := ⟨rfl, rfl, rfl, by decide +kernel, rfl, by decide +kernel, by decide +kernel⟩
abbrev s_numerator_at : Stmt := topS 12
theorem sc_numerator_at : FnScope ["term", "base", "total", "value"] ["term", "base"] (defScope s_numerator_at) := ⟨rfl, rfl, rfl, by decide +kernel, rfl, by decide +kernel, by decide +kernel⟩
abbrev s_product_of : Stmt := topS 13
theorem sc_product_of : FnScope ["ours", "theirs", "found", "power", "pairs", "at", "one", "two"] ["ours", "theirs"] (defScope s_product_of) := ⟨rfl, rfl, rfl, by decide +kernel, rfl, by decide +kernel, by decide +kernel⟩
abbrev s_power_of : Stmt := topS 14
theorem sc_power_of : FnScope ["thing", "k", "found", "turn"] ["thing", "k"] (defScope s_power_of) := ⟨rfl, rfl, rfl, by decide +kernel, rfl, by decide +kernel, by decide +kernel⟩
abbrev s_part_text : Stmt := topS 15
theorem sc_part_text : FnScope ["value", "power", "letter"] ["value", "power"] (defScope s_part_text) := ⟨rfl, rfl, rfl, by decide +kernel, rfl, by decide +kernel, by decide +kernel⟩
abbrev s_term_text : Stmt := topS 16
theorem sc_term_text : FnScope ["coefficients", "over", "parts", "power", "value", "found"] ["coefficients", "over"] (defScope s_term_text) := ⟨rfl, rfl, rfl, by decide +kernel, rfl, by decide +kernel, by decide +kernel⟩
abbrev s_Term_init : Stmt := inClass (topS 17) 0
theorem sc_Term_init : FnScope ["self", "over", "coefficients", "value", "many", "factor"] ["self", "over", "coefficients"] (defScope s_Term_init) := ⟨rfl, rfl, rfl, by decide +kernel, rfl, by decide +kernel, by decide +kernel⟩
abbrev s_Term_degree : Stmt := inClass (topS 17) 1
theorem sc_Term_degree : FnScope ["self"] ["self"] (defScope s_Term_degree) := ⟨rfl, rfl, rfl, by decide +kernel, rfl, by decide +kernel, by decide +kernel⟩
abbrev s_Term_call : Stmt := inClass (topS 17) 2
theorem sc_Term_call : FnScope ["self", "base", "total"] ["self", "base"] (defScope s_Term_call) := ⟨rfl, rfl, rfl, by decide +kernel, rfl, by decide +kernel, by decide +kernel⟩
abbrev s_Term_eq : Stmt := inClass (topS 17) 11
theorem sc_Term_eq : FnScope ["self", "other"] ["self", "other"] (defScope s_Term_eq) := ⟨rfl, rfl, rfl, by decide +kernel, rfl, by decide +kernel, by decide +kernel⟩
abbrev s__law_deal : Stmt := topS 19
theorem sc__law_deal : FnScope ["_law_script", "_law_base", "_law_cell", "_law_cells", "_law_blend"] ["_law_script", "_law_base"] (defScope s__law_deal) := ⟨rfl, rfl, rfl, by decide +kernel, rfl, by decide +kernel, by decide +kernel⟩
abbrev s__law_draw : Stmt := topS 20
theorem sc__law_draw : FnScope ["_law_deal_here", "_law_amount", "_law_left"] ["_law_deal_here", "_law_amount"] (defScope s__law_draw) := ⟨rfl, rfl, rfl, by decide +kernel, rfl, by decide +kernel, by decide +kernel⟩
abbrev s__law_gcd : Stmt := topS 21
theorem sc__law_gcd : FnScope ["_law_one", "_law_other"] ["_law_one", "_law_other"] (defScope s__law_gcd) := ⟨rfl, rfl, rfl, by decide +kernel, rfl, by decide +kernel, by decide +kernel⟩
abbrev s__law_lowest : Stmt := topS 22
theorem sc__law_lowest : FnScope ["_law_row_here", "_law_under", "_law_share", "_law_one"] ["_law_row_here", "_law_under"] (defScope s__law_lowest) := ⟨rfl, rfl, rfl, by decide +kernel, rfl, by decide +kernel, by decide +kernel⟩
abbrev s__law_value : Stmt := topS 23
theorem sc__law_value : FnScope ["_law_row_here", "_law_base", "_law_found", "_law_one"] ["_law_row_here", "_law_base"] (defScope s__law_value) := ⟨rfl, rfl, rfl, by decide +kernel, rfl, by decide +kernel, by decide +kernel⟩
abbrev s__law_made : Stmt := topS 24
theorem sc__law_made : FnScope ["_law_row_here", "_law_under", "_law_a", "_law_b", "_law_c", "_law_d", "_law_e", "_law_f", "_law_g", "_law_h", "_law_i", "_law_j", "_law_k"] ["_law_row_here", "_law_under"] (defScope s__law_made) := ⟨rfl, rfl, rfl, by decide +kernel, rfl, by decide +kernel, by decide +kernel⟩
abbrev s__law_row : Stmt := topS 25
theorem sc__law_row : FnScope ["_law_deal_here", "_law_amount", "_law_most", "_law_found", "_law_turn", "_law_span"] ["_law_deal_here", "_law_amount", "_law_most"] (defScope s__law_row) := ⟨rfl, rfl, rfl, by decide +kernel, rfl, by decide +kernel, by decide +kernel⟩
abbrev s__law_at : Stmt := topS 26
theorem sc__law_at : FnScope ["_law_term", "_law_base", "_law_found", "_law_e"] ["_law_term", "_law_base"] (defScope s__law_at) := ⟨rfl, rfl, rfl, by decide +kernel, rfl, by decide +kernel, by decide +kernel⟩
abbrev s__law_refused : Stmt := topS 27
theorem sc__law_refused : FnScope ["_law_row_here", "_law_under", "_law_found", "_law_e"] ["_law_row_here", "_law_under"] (defScope s__law_refused) := ⟨rfl, rfl, rfl, by decide +kernel, rfl, by decide +kernel, by decide +kernel⟩
abbrev s_law : Stmt := topS 28
theorem sc_law : FnScope ["_law_script", "_law_deal_here", "_law_turn", "_law_row_here", "_law_under", "_law_factor", "_law_term", "_law_due", "_law_wide", "_law_small", "_law_is_near", "_law_other", "_law_is_one", "_law_again", "_law_span", "_law_way", "_law_base", "_law_value_here", "_law_number", "_law_odd", "_law_at_here", "_law_few", "_law_wrong", "_law_beneath", "_law_bad", "_law_one"] ["_law_script"] (defScope s_law) := ⟨rfl, rfl, rfl, by decide +kernel, rfl, by decide +kernel, by decide +kernel⟩
abbrev s_InvalidTerm_init : Stmt := inClass (topS 3) 0
structure Txt (K : PySem.W.Frag) (mg : Str → Option Value) (F : Nat → Addr) (D : Nat → FuncData) (C : Nat → Addr) : Prop where
  f__wall : Fun K "_wall" "_wall" s__wall (F 0) (D 0)
  b__wall : Binds K (D 0) ["k"] []
  g__wall : mg "_wall" = some (.ref (F 0))
  f_is_integer : Fun K "is_integer" "is_integer" s_is_integer (F 1) (D 1)
  b_is_integer : Binds K (D 1) ["value"] []
  g_is_integer : mg "is_integer" = some (.ref (F 1))
  f_common : Fun K "common" "common" s_common (F 2) (D 2)
  b_common : Binds K (D 2) ["one", "other"] []
  g_common : mg "common" = some (.ref (F 2))
  f_least_multiple : Fun K "least_multiple" "least_multiple" s_least_multiple (F 3) (D 3)
  b_least_multiple : Binds K (D 3) ["one", "other"] []
  g_least_multiple : mg "least_multiple" = some (.ref (F 3))
  f_term_of : Fun K "term_of" "term_of" s_term_of (F 4) (D 4)
  b_term_of : Binds K (D 4) ["value"] []
  g_term_of : mg "term_of" = some (.ref (F 4))
  f_numerator_at : Fun K "numerator_at" "numerator_at" s_numerator_at (F 5) (D 5)
  b_numerator_at : Binds K (D 5) ["term", "base"] []
  g_numerator_at : mg "numerator_at" = some (.ref (F 5))
  f_product_of : Fun K "product_of" "product_of" s_product_of (F 6) (D 6)
  b_product_of : Binds K (D 6) ["ours", "theirs"] []
  g_product_of : mg "product_of" = some (.ref (F 6))
  f_power_of : Fun K "power_of" "power_of" s_power_of (F 7) (D 7)
  b_power_of : Binds K (D 7) ["thing", "k"] []
  g_power_of : mg "power_of" = some (.ref (F 7))
  f_part_text : Fun K "part_text" "part_text" s_part_text (F 8) (D 8)
  b_part_text : Binds K (D 8) ["value", "power"] []
  g_part_text : mg "part_text" = some (.ref (F 8))
  f_term_text : Fun K "term_text" "term_text" s_term_text (F 9) (D 9)
  b_term_text : Binds K (D 9) ["coefficients", "over"] []
  g_term_text : mg "term_text" = some (.ref (F 9))
  k_Term_init : ∃ (oc : Value) (od : Option Addr) (doc pm : Value) (an : Option Addr) (cdv ct : Value) (osl : Array (Option Value)) (Dk : Addr) (tk : Tok), K.lookup (F 10) = some ⟨oc, od, .func (PySem.W.fnOf "__init__" "Term.__init__" (defArgs s_Term_init) (defBody s_Term_init) (defScope s_Term_init) .none (.ref Dk) doc pm an cdv ct), osl⟩ ∧ PySem.W.codeIn K cdv "Term.__init__" = true ∧ PySem.W.nsIn K Dk "over" = some (some (.int 1 tk))
  f_Term_degree : Fun K "degree" "Term.degree" s_Term_degree (F 11) (D 11)
  b_Term_degree : Binds K (D 11) ["self"] []
  f_Term_call : Fun K "__call__" "Term.__call__" s_Term_call (F 12) (D 12)
  b_Term_call : Binds K (D 12) ["self", "base"] []
  f_Term_eq : Fun K "__eq__" "Term.__eq__" s_Term_eq (F 13) (D 13)
  b_Term_eq : Binds K (D 13) ["self", "other"] []
  f__law_deal : Fun K "_law_deal" "_law_deal" s__law_deal (F 14) (D 14)
  b__law_deal : Binds K (D 14) ["_law_script", "_law_base"] []
  g__law_deal : mg "_law_deal" = some (.ref (F 14))
  f__law_draw : Fun K "_law_draw" "_law_draw" s__law_draw (F 15) (D 15)
  b__law_draw : Binds K (D 15) ["_law_deal_here", "_law_amount"] []
  g__law_draw : mg "_law_draw" = some (.ref (F 15))
  f__law_gcd : Fun K "_law_gcd" "_law_gcd" s__law_gcd (F 16) (D 16)
  b__law_gcd : Binds K (D 16) ["_law_one", "_law_other"] []
  g__law_gcd : mg "_law_gcd" = some (.ref (F 16))
  f__law_lowest : Fun K "_law_lowest" "_law_lowest" s__law_lowest (F 17) (D 17)
  b__law_lowest : Binds K (D 17) ["_law_row_here", "_law_under"] []
  g__law_lowest : mg "_law_lowest" = some (.ref (F 17))
  f__law_value : Fun K "_law_value" "_law_value" s__law_value (F 18) (D 18)
  b__law_value : Binds K (D 18) ["_law_row_here", "_law_base"] []
  g__law_value : mg "_law_value" = some (.ref (F 18))
  f__law_made : Fun K "_law_made" "_law_made" s__law_made (F 19) (D 19)
  b__law_made : Binds K (D 19) ["_law_row_here", "_law_under"] []
  g__law_made : mg "_law_made" = some (.ref (F 19))
  f__law_row : Fun K "_law_row" "_law_row" s__law_row (F 20) (D 20)
  b__law_row : Binds K (D 20) ["_law_deal_here", "_law_amount", "_law_most"] []
  g__law_row : mg "_law_row" = some (.ref (F 20))
  f__law_at : Fun K "_law_at" "_law_at" s__law_at (F 21) (D 21)
  b__law_at : Binds K (D 21) ["_law_term", "_law_base"] []
  g__law_at : mg "_law_at" = some (.ref (F 21))
  f__law_refused : Fun K "_law_refused" "_law_refused" s__law_refused (F 22) (D 22)
  b__law_refused : Binds K (D 22) ["_law_row_here", "_law_under"] []
  g__law_refused : mg "_law_refused" = some (.ref (F 22))
  f_law : Fun K "law" "law" s_law (F 23) (D 23)
  b_law : Binds K (D 23) ["_law_script"] []
  g_law : mg "law" = some (.ref (F 23))
  n_isinstance : mg "isinstance" = none
  n_int : mg "int" = none
  n_bool : mg "bool" = none
  n_abs : mg "abs" = none
  n_range : mg "range" = none
  n_len : mg "len" = none
  n_sum : mg "sum" = none
  n_str : mg "str" = none
  n_all : mg "all" = none
  n_tuple : mg "tuple" = none
  n_list : mg "list" = none
  n_ValueError : mg "ValueError" = none
  n_repr : mg "repr" = none
  n_max : mg "max" = none
  gc_Term : mg "Term" = some (.ref (C 3))
  cl_Term : Cls K (C 3)
  mk_Term : Mk K (C 3) (F 10)
  sf_Term : PySem.W.selfFirst K (C 3) = true
  nf_Term : PySem.W.notFirst K (C 3) (.ref (C 3)) = true
  nft_Term_NoneType : PySem.W.notFirst K (C 3) (.type "NoneType") = true
  nft_Term_bool : PySem.W.notFirst K (C 3) (.type "bool") = true
  nft_Term_int : PySem.W.notFirst K (C 3) (.type "int") = true
  nft_Term_str : PySem.W.notFirst K (C 3) (.type "str") = true
  nft_Term_list : PySem.W.notFirst K (C 3) (.type "list") = true
  nft_Term_tuple : PySem.W.notFirst K (C 3) (.type "tuple") = true
  nfo_Term_Term : PySem.W.notFirst K (C 3) (.ref (C 3)) = true
  io_Term : PySem.W.subIn K (.type "int") (.ref (C 3)) = some false
  ri_Term : PySem.W.subIn K (.ref (C 3)) (.type "int") = some false
  ki_Term : PySem.W.kitOne K (.type "int") (.ref (C 3)) = some false
  kc_Term : PySem.W.kitOne K (.ref (C 3)) (.ref (C 3)) = some true
  ta_Term : PySem.W.findIn K (.ref (C 3)) "__class__" = some (some (.builtin "object.__class__"))
  tb_Term : PySem.W.specialIn K (.builtin "object.__class__") "__get__" = some (some (.builtin "getset_descriptor.__get__"))
  tc_Term : PySem.W.takesIn K (.builtin "object.__class__") = some true
  td_Term : PySem.W.mroIn K (C 3) (.type "object") = some true
  kt_Term_int : PySem.W.kitOne K (.ref (C 3)) (.type "int") = some false
  kt_Term_bool : PySem.W.kitOne K (.ref (C 3)) (.type "bool") = some false
  kt_Term_str : PySem.W.kitOne K (.ref (C 3)) (.type "str") = some false
  kt_Term_list : PySem.W.kitOne K (.ref (C 3)) (.type "list") = some false
  kt_Term_tuple : PySem.W.kitOne K (.ref (C 3)) (.type "tuple") = some false
  kn_Term_NoneType : PySem.W.kitOne K (.type "NoneType") (.ref (C 3)) = some false
  kn_Term_int : PySem.W.kitOne K (.type "int") (.ref (C 3)) = some false
  kn_Term_bool : PySem.W.kitOne K (.type "bool") (.ref (C 3)) = some false
  kn_Term_str : PySem.W.kitOne K (.type "str") (.ref (C 3)) = some false
  kn_Term_list : PySem.W.kitOne K (.type "list") (.ref (C 3)) = some false
  kn_Term_tuple : PySem.W.kitOne K (.type "tuple") (.ref (C 3)) = some false
  ko_Term_Term : PySem.W.kitOne K (.ref (C 3)) (.ref (C 3)) = some true
  na_Term_coefficients : NoAttr K (C 3) "coefficients"
  na_Term_over : NoAttr K (C 3) "over"
  me_Term_eq : Meth K (C 3) "__eq__" (F 13)
  me_Term_call : Meth K (C 3) "__call__" (F 12)
  pr_Term_degree : ∃ pa, PropOf K (C 3) "degree" pa (F 11)
theorem sd_InvalidTerm : PySem.SupX.SupDef "word" (defArgs s_InvalidTerm_init) (defBody s_InvalidTerm_init) (defScope s_InvalidTerm_init).names (defScope s_InvalidTerm_init).more := ⟨⟨_, _, _, _, _, _, _, _, _, _, rfl, rfl⟩, ⟨_, rfl, rfl⟩, fun _ _ _ _ _ _ _ _ _ _ => BindsTo.of_eq rfl, by decide +kernel, rfl, rfl, rfl, rfl, by decide, by decide⟩
structure Exs (P : Program) (K : PySem.W.Frag) (mg : Str → Option Value) (C I : Nat → Addr) : Prop where
  g_InvalidTerm : mg "InvalidTerm" = some (.ref (C 1))
  g_NotWhole : mg "NotWhole" = some (.ref (C 2))
  g_FigureError : mg "FigureError" = some (.ref (C 0))
  x_InvalidTerm : PySem.SupX.SupTxt PySem.SupX.vE P K mg "InvalidTerm" "word" (C 1) (I 1)
  i_InvalidTerm : ExcC K (C 1)
  t_InvalidTerm_InvalidTerm : PySem.W.kitOne K (.ref (C 1)) (.ref (C 1)) = some true
  m_InvalidTerm_InvalidTerm : PySem.W.exmOne K (.ref (C 1)) (.ref (C 1)) = some true
  t_InvalidTerm_NotWhole : PySem.W.kitOne K (.ref (C 1)) (.ref (C 2)) = some false
  m_InvalidTerm_NotWhole : PySem.W.exmOne K (.ref (C 1)) (.ref (C 2)) = some false
  t_InvalidTerm_FigureError : PySem.W.kitOne K (.ref (C 1)) (.ref (C 0)) = some true
  tt_InvalidTerm_ValueError : PySem.W.kitOne K (.ref (C 1)) (.type "ValueError") = some true
  q_NotWhole : PySem.W.excIn K (C 2) [.type "ValueError", .type "Exception", .type "BaseException", .type "object"] "ValueError.__new__" = true
  kp_NotWhole : PySem.W.keepIn K (.ref (C 2)) = true
  ty_NotWhole : PySem.W.typeIn K (.ref (C 2)) = some (.type "type")
  i_NotWhole : ExcC K (C 2)
  t_NotWhole_InvalidTerm : PySem.W.kitOne K (.ref (C 2)) (.ref (C 1)) = some false
  m_NotWhole_InvalidTerm : PySem.W.exmOne K (.ref (C 2)) (.ref (C 1)) = some false
  t_NotWhole_NotWhole : PySem.W.kitOne K (.ref (C 2)) (.ref (C 2)) = some true
  m_NotWhole_NotWhole : PySem.W.exmOne K (.ref (C 2)) (.ref (C 2)) = some true
  t_NotWhole_FigureError : PySem.W.kitOne K (.ref (C 2)) (.ref (C 0)) = some true
  tt_NotWhole_ValueError : PySem.W.kitOne K (.ref (C 2)) (.type "ValueError") = some true
end K24

local macro_rules | `(tactic| walk_at "go") => `(tactic| repeat (first | refine ⟨_, rfl, ?_⟩ | refine ⟨_, _, rfl, rfl, ?_⟩ | refine ⟨rfl, ?_⟩ | refine ⟨_, _, rfl, rfl, ⟨by decide, by decide, by decide⟩, ?_⟩))
local macro_rules | `(tactic| walk_at "w") => `(tactic| conv => whnf)
local macro_rules | `(tactic| walk_at "z") => `(tactic| first | decide | exact Nat.le_of_ble_eq_true rfl | omega | (simp; omega))
local macro_rules | `(tactic| walk_at "i") => `(tactic| repeat (refine ⟨_, rfl, ?_⟩; walk_at "w"))
namespace K24
open PySem PySem.Spec PyProof.Rows L2 Eb
def tbl (K : PySem.W.Frag) (C : Nat → Addr) : Tb := ⟨K, C, fun c => match c with | 3 => ["coefficients", "over"] | _ => [], fun c => match c with | 1 => "word" | _ => ""⟩
section
variable {P : Program} {w : World} {K : PySem.W.Frag} {mg : Str → Option Value} {base : Heap} {F : Nat → Addr} {D : Nat → FuncData} {C I : Nat → Addr}

theorem po_Term_coefficients (T : Txt K mg F D C) : PutOk (tbl K C) "coefficients" 3 0 := ⟨T.cl_Term, T.na_Term_coefficients, rfl, by decide, by show ((["coefficients", "over"] : List Str).take 0).contains "coefficients" = false; decide +kernel, by show 0 ≤ 2; decide⟩
theorem fd_Term_coefficients (T : Txt K mg F D C) : FldOk (tbl K C) "coefficients" 3 0 := ⟨T.cl_Term, T.na_Term_coefficients, fun vs h => match vs, h with | [_, _], _ => rfl⟩
theorem po_Term_over (T : Txt K mg F D C) : PutOk (tbl K C) "over" 3 1 := ⟨T.cl_Term, T.na_Term_over, rfl, by decide, by show ((["coefficients", "over"] : List Str).take 1).contains "over" = false; decide +kernel, by show 1 ≤ 2; decide⟩
theorem fd_Term_over (T : Txt K mg F D C) : FldOk (tbl K C) "over" 3 1 := ⟨T.cl_Term, T.na_Term_over, fun vs h => match vs, h with | [_, _], _ => rfl⟩
theorem nm_Term_init (K : PySem.W.Frag) (C : Nat → Addr) : ((tbl K C).fl 3).contains "__init__" = false := by show (["coefficients", "over"] : List Str).contains "__init__" = false; decide +kernel
theorem nm_Term_eq (K : PySem.W.Frag) (C : Nat → Addr) : ((tbl K C).fl 3).contains "__eq__" = false := by show (["coefficients", "over"] : List Str).contains "__eq__" = false; decide +kernel
theorem nm_Term_call (K : PySem.W.Frag) (C : Nat → Addr) : ((tbl K C).fl 3).contains "__call__" = false := by show (["coefficients", "over"] : List Str).contains "__call__" = false; decide +kernel
theorem nm_Term_degree (K : PySem.W.Frag) (C : Nat → Addr) : ((tbl K C).fl 3).contains "degree" = false := by show (["coefficients", "over"] : List Str).contains "degree" = false; decide +kernel
theorem fo_Term_coefficients (T : Txt K mg F D C) : ∀ c k, ([(3, 0)] : List (Nat × Nat)).lookup c = some k → FldOk (tbl K C) "coefficients" c k := by
  intro c k h
  rw [List.lookup_cons] at h
  by_cases e : (c == 3) = true
  · rw [e] at h; cases h; cases (beq_iff_eq.mp e); exact fd_Term_coefficients T
  · rw [Bool.not_eq_true] at e; rw [e] at h
    cases h
theorem fo_Term_over (T : Txt K mg F D C) : ∀ c k, ([(3, 1)] : List (Nat × Nat)).lookup c = some k → FldOk (tbl K C) "over" c k := by
  intro c k h
  rw [List.lookup_cons] at h
  by_cases e : (c == 3) = true
  · rw [e] at h; cases h; cases (beq_iff_eq.mp e); exact fd_Term_over T
  · rw [Bool.not_eq_true] at e; rw [e] at h
    cases h
theorem ex_InvalidTerm (Z : Exs P K mg C I) : ∀ k ∈ ([1, 2] : List Nat), PySem.W.exmOne K (.ref (C k)) (.ref (C 1)) = some (([1] : List Nat).contains k) := by
  intro k h
  simp only [List.mem_cons, List.not_mem_nil, or_false] at h
  rcases h with rfl | rfl
  · exact Z.m_InvalidTerm_InvalidTerm
  · exact Z.m_NotWhole_InvalidTerm
theorem ex_NotWhole (Z : Exs P K mg C I) : ∀ k ∈ ([1, 2] : List Nat), PySem.W.exmOne K (.ref (C k)) (.ref (C 2)) = some (([2] : List Nat).contains k) := by
  intro k h
  simp only [List.mem_cons, List.not_mem_nil, or_false] at h
  rcases h with rfl | rfl
  · exact Z.m_InvalidTerm_NotWhole
  · exact Z.m_NotWhole_NotWhole
theorem isa_InvalidTerm (Z : Exs P K mg C I) : IsaOk (tbl K C) 1 [(1, true), (2, false), (0, true)] [("ValueError", true)] := by
  refine ⟨fun k b h => ?_, fun n b h => ?_⟩
  · simp only [List.lookup_cons] at h
    by_cases e : (k == 1) = true
    · rw [e] at h; cases h; cases (beq_iff_eq.mp e); exact Z.t_InvalidTerm_InvalidTerm
    · rw [Bool.not_eq_true] at e; rw [e] at h; dsimp only at h; clear e
      by_cases e : (k == 2) = true
      · rw [e] at h; cases h; cases (beq_iff_eq.mp e); exact Z.t_InvalidTerm_NotWhole
      · rw [Bool.not_eq_true] at e; rw [e] at h; dsimp only at h; clear e
        by_cases e : (k == 0) = true
        · rw [e] at h; cases h; cases (beq_iff_eq.mp e); exact Z.t_InvalidTerm_FigureError
        · rw [Bool.not_eq_true] at e; rw [e] at h; dsimp only at h; clear e
          cases h
  · simp only [List.lookup_cons] at h
    by_cases e : (n == "ValueError") = true
    · rw [e] at h; cases h; cases (beq_iff_eq.mp e); exact Z.tt_InvalidTerm_ValueError
    · rw [Bool.not_eq_true] at e; rw [e] at h; dsimp only at h; clear e
      cases h
theorem isa_NotWhole (Z : Exs P K mg C I) : IsaOk (tbl K C) 2 [(1, false), (2, true), (0, true)] [("ValueError", true)] := by
  refine ⟨fun k b h => ?_, fun n b h => ?_⟩
  · simp only [List.lookup_cons] at h
    by_cases e : (k == 1) = true
    · rw [e] at h; cases h; cases (beq_iff_eq.mp e); exact Z.t_NotWhole_InvalidTerm
    · rw [Bool.not_eq_true] at e; rw [e] at h; dsimp only at h; clear e
      by_cases e : (k == 2) = true
      · rw [e] at h; cases h; cases (beq_iff_eq.mp e); exact Z.t_NotWhole_NotWhole
      · rw [Bool.not_eq_true] at e; rw [e] at h; dsimp only at h; clear e
        by_cases e : (k == 0) = true
        · rw [e] at h; cases h; cases (beq_iff_eq.mp e); exact Z.t_NotWhole_FigureError
        · rw [Bool.not_eq_true] at e; rw [e] at h; dsimp only at h; clear e
          cases h
  · simp only [List.lookup_cons] at h
    by_cases e : (n == "ValueError") = true
    · rw [e] at h; cases h; cases (beq_iff_eq.mp e); exact Z.tt_NotWhole_ValueError
    · rw [Bool.not_eq_true] at e; rw [e] at h; dsimp only at h; clear e
      cases h
theorem eqa_Term (T : Txt K mg F D C) : EqaOk (tbl K C) 3 [3] := by
  refine ⟨fun m h => ?_, fun c h => ?_⟩
  · simp only [List.mem_cons, List.not_mem_nil, or_false] at h
    rcases h with rfl | rfl | rfl | rfl | rfl | rfl
    · exact T.nft_Term_NoneType
    · exact T.nft_Term_bool
    · exact T.nft_Term_int
    · exact T.nft_Term_str
    · exact T.nft_Term_list
    · exact T.nft_Term_tuple
  · simp only [List.mem_cons, List.not_mem_nil, or_false] at h
    subst h
    · exact ⟨⟨T.cl_Term, T.ta_Term, T.tb_Term, T.tc_Term, T.td_Term⟩, T.nfo_Term_Term⟩
theorem is_int (T : Txt K mg F D C) : ∀ c ∈ ([3] : List Nat), InsOk (tbl K C) c ∧ PySem.W.kitOne (tbl K C).K (.ref ((tbl K C).C c)) (.type (BT.nm .int)) = some false := by
  intro c h
  simp only [List.mem_cons, List.not_mem_nil, or_false] at h
  subst h; exact ⟨⟨T.cl_Term, T.ta_Term, T.tb_Term, T.tc_Term, T.td_Term⟩, T.kt_Term_int⟩
theorem is_bool (T : Txt K mg F D C) : ∀ c ∈ ([3] : List Nat), InsOk (tbl K C) c ∧ PySem.W.kitOne (tbl K C).K (.ref ((tbl K C).C c)) (.type (BT.nm .bool)) = some false := by
  intro c h
  simp only [List.mem_cons, List.not_mem_nil, or_false] at h
  subst h; exact ⟨⟨T.cl_Term, T.ta_Term, T.tb_Term, T.tc_Term, T.td_Term⟩, T.kt_Term_bool⟩
theorem no_Term (T : Txt K mg F D C) : NotOf (tbl K C) 3 := by
  intro m h
  simp only [List.mem_cons, List.not_mem_nil, or_false] at h
  rcases h with rfl | rfl | rfl | rfl | rfl | rfl
  · exact T.kn_Term_NoneType
  · exact T.kn_Term_bool
  · exact T.kn_Term_int
  · exact T.kn_Term_str
  · exact T.kn_Term_list
  · exact T.kn_Term_tuple
theorem su_Term (T : Txt K mg F D C) : ∀ c b, ([(3, true)] : List (Nat × Bool)).lookup c = some b → InsOk (tbl K C) c ∧ PySem.W.kitOne (tbl K C).K (.ref ((tbl K C).C c)) (.ref ((tbl K C).C 3)) = some b := by
  intro c b h
  rw [List.lookup_cons] at h
  by_cases e : (c == 3) = true
  · rw [e] at h; cases h; cases (beq_iff_eq.mp e); exact ⟨⟨T.cl_Term, T.ta_Term, T.tb_Term, T.tc_Term, T.td_Term⟩, T.ko_Term_Term⟩
  · rw [Bool.not_eq_true] at e; rw [e] at h
    cases h
theorem last_split {xs : List Int} {z : Int} (h : xs.getLast? = some z) : xs = xs.dropLast ++ [z] := by
  obtain ⟨ys, rfl⟩ := List.getLast?_eq_some_iff.mp h
  simp
theorem last_at {xs : List Int} {z : Int} (h : xs.getLast? = some z) : atI (xs.map V.int) (-1) = some (.int z) := by
  rw [last_split h, List.map_append]
  exact atI_last _ _
theorem last_get {xs : List Int} {z : Int} (h : xs.getLast? = some z) : (xs.map V.int)[(xs.map V.int).length - 1]? = some (.int z) := by
  rw [← List.getLast?_eq_getElem?, List.getLast?_map, h]
  rfl
theorem last_none {xs : List Int} (h : xs ≠ []) : ∃ z, xs.getLast? = some z := ⟨xs.getLast h, List.getLast?_eq_getLast h⟩
def sp_draw : Sp := fun vs H Q _ => ∃ (d l : Addr) (n : Int), vs = [V.ref d, .int n] ∧ Deal H d l ∧ 0 < n ∧ Sm n ∧ ∀ r H', 0 ≤ r → r < n → Drew d l H H' → Q (.int r) H'
theorem ok__law_draw (T : Txt K mg F D C) : FnOk P w K mg base CX0 1 (F 15) (D 15) ["_law_deal_here", "_law_amount"] (sp_draw) := by
  refine T.f__law_draw.ok sc__law_draw (fun vs H Q E h => ?_) (fun cdv A outer s H vs Q E hr h => ?_)
  · obtain ⟨d, l, n, rfl, D0, hn, sn, q⟩ := h
    rfl
  · obtain ⟨d, l, n, rfl, D0, hn, sn, q⟩ := h
    refine ⟨_, (pss_cons (ps_while PassesOwn.never (PW.pt (pw_and (pt_cmpR (op_neL hr.units) (pe_ix ix_list (pv 0) pe_int (fun _ _ => rfl)) (pe_lst pa_nil) (nomark _)) (pw_and1 (pt_cmpR op_eq (pe_ix ix_list (pe_ix ix_list (pv 0) pe_int (fun _ _ => rfl)) (pe_un un_neg pe_int) (fun _ _ => rfl)) pe_int (nomark _))))) (pss_one (ps_expr (pe_bm0 PySem.F.plainAttrs_list PySem.F.slot_list_pop PySem.F.type_list_pop mt_pop (pe_ix ix_list (pv 0) pe_int (fun _ _ => rfl)))))) (pss_cons (ps_if (pt_cmpR (op_neL hr.units) (pe_ix ix_list (pv 0) pe_int (fun _ _ => rfl)) (pe_lst pa_nil) (nomark _)) (pss_cons (ps_set (i := 2) sc__law_draw.nd rfl (.inl rfl) (pe_bm0 PySem.F.plainAttrs_list PySem.F.slot_list_pop PySem.F.type_list_pop mt_pop (pe_ix ix_list (pv 0) pe_int (fun _ _ => rfl)))) (pss_cons (ps_expr (pe_bm PySem.F.plainAttrs_list PySem.F.slot_list_append PySem.F.type_list_append mt_append (pe_ix ix_list (pv 0) pe_int (fun _ _ => rfl)) (pa_cons (pe_op op_fdivX (pv 2) (pv 1)) pa_nil))) (pss_one (ps_ret (pe_op op_mod (pe_callTy call_int1 (by rfl) T.n_int Eb.bb_int (pa_cons (pv 2) pa_nil)) (pv 1)))))) pss_nil) (pss_cons (ps_asg (pe_op op_mod (pe_callTy call_int1 (by rfl) T.n_int Eb.bb_int (pa_cons (pe_op op_mulW (pe_ix ix_list (pv 0) pe_int (fun _ _ => rfl)) pe_int) pa_nil)) pe_int) (pg_sub (pv 0) pe_int set_list)) (pss_one (ps_ret (pe_op op_mod (pe_callTy call_int1 (by rfl) T.n_int Eb.bb_int (pa_cons (pe_op op_fdivX (pe_ix ix_list (pv 0) pe_int (fun _ _ => rfl)) pe_int) pa_nil)) (pv 1))))))), ?_⟩
    have ne : d ≠ l := D0.ne
    -- while deal[0] != [] and deal[0][-1] == 0: deal[0].pop()
    refine whl (fun m σ H' => ∃ (xs : List Int) (k : Int), σ = [some (.ref d), some (.int n), none] ∧ m = xs.length ∧ xs.length ≤ 63 ∧ H' d = some (.lst [.ref l, .int k]) ∧ H' l = some (.lst (xs.map V.int)) ∧ 0 ≤ k ∧ k < 2147483647 ∧ Grow [d, l] H H')
      (Classical.choose D0.ex).length ?_ ?_
    · obtain ⟨k, h1, h2, h3, h4, h5⟩ := Classical.choose_spec D0.ex
      exact ⟨_, k, rfl, rfl, h3, h1, h2, h4, h5, Grow.refl _ _⟩
    rintro m σ H' ⟨xs, k, rfl, rfl, hx, h1, h2, hk, hk2, g⟩
    refine by_ans (decide (xs.getLast? = some 0)) (fun Q' k' => ?_) (fun H1 s1 => ?_)
    · refine ⟨_, rfl, d, _, _, .ref l, rfl, rfl, sqL_of h1, rfl, szr rfl, fun p hp => ?_⟩
      have s1 : Same H' (upd H' p (.lst [])) := same_new hp
      refine ⟨l, p, xs, [], rfl, rfl, s1.seq (sqL_of h2), sqL_new, _, rfl, ?_⟩
      by_cases e : xs = []
      · subst e
        exact iteF (k' _ s1)
      · obtain ⟨z, hz⟩ := last_none e
        rw [decide_eq_false e]
        refine iteT ?_
        refine ⟨_, rfl, d, _, _, .ref l, rfl, rfl, sqL_of (s1 _ _ h1), rfl, 1, rfl, l, _, _, _, rfl, rfl, sqL_of (s1 _ _ h2), last_at hz, rfl, _, rfl, ?_⟩
        have e3 : decide (V.int z = V.int 0) = decide (xs.getLast? = some 0) := by
          rw [hz]
          by_cases c : z = 0
          · subst c; rfl
          · rw [decide_eq_false (fun y => c (V.int.inj y)), decide_eq_false (fun y => c (Option.some.inj y))]
        show Q' (decide (V.int z = V.int 0)) _
        rw [e3]
        exact k' _ s1
    replace h1 := s1 _ _ h1
    replace h2 := s1 _ _ h2
    replace g := g.same s1
    by_cases e : xs.getLast? = some 0
    · rw [decide_eq_true e]
      refine iteT (turn_of ?_)
      refine ⟨_, rfl, d, _, _, .ref l, rfl, rfl, sqL_of h1, rfl, .inl ⟨rfl, _, sqL_of h2⟩, l, _, _, rfl, rfl, h2, last_get e, ?_⟩
      have hl : 0 < xs.length := List.length_pos_iff.mpr (fun z => by subst z; cases e)
      refine ⟨xs.length - 1, by omega, xs.dropLast, k, rfl, by simp, by simp; omega, ?_, ?_, hk, hk2, g.at (by simp)⟩
      · rw [upd_ne ne]
        exact h1
      · rw [upd_same, List.map_dropLast]
    · rw [decide_eq_false e]
      refine iteF ?_
      have D1 : Deal H1 d l := ⟨xs, k, h1, h2, hx, hk, hk2⟩
      -- if deal[0] != []
      refine ⟨_, rfl, d, _, _, .ref l, rfl, rfl, sqL_of h1, rfl, szr rfl, fun p hp => ?_⟩
      have s2 : Same H1 (upd H1 p (.lst [])) := same_new hp
      generalize hH2 : upd H1 p (.lst []) = H2 at s2
      have hp2 : H2 p = some (.lst []) := by rw [← hH2]; exact upd_same
      replace h1 := s2 _ _ h1
      replace h2 := s2 _ _ h2
      replace g := g.same s2
      refine ⟨l, p, xs, [], rfl, rfl, sqL_of h2, sqL_of hp2, _, rfl, ?_⟩
      by_cases e2 : xs = []
      · subst e2
        refine iteF ?_
        -- deal[1] = int(deal[1] * 48271) % 2147483647
        refine ⟨_, rfl, d, _, _, .int k, rfl, rfl, sqL_of h1, rfl, _, _, rfl, rfl, mulW (sm_of hk (by omega)) (sm_of (by decide) (by decide)), .inl ⟨_, rfl, ?_⟩⟩
        refine ⟨_, _, rfl, rfl, (show (0 : Int) < 2147483647 by decide), ?_⟩
        refine ⟨_, rfl, d, _, _, 1, rfl, rfl, h1, rfl, ?_⟩
        have b0 : 0 ≤ k * 48271 % 2147483647 := by omega
        have b1 : k * 48271 % 2147483647 < 2147483647 := by omega
        -- return int(deal[1] // 8) % span
        refine ⟨_, rfl, d, _, _, _, rfl, rfl, sqL_of upd_same, rfl, _, _, rfl, rfl, divW (by decide) (sm_of (by decide) (by decide)), .inl ⟨_, rfl, ?_⟩⟩
        refine ⟨_, rfl, _, _, rfl, rfl, hn, ?_⟩
        refine q _ _ (Int.emod_nonneg _ (by omega)) (Int.emod_lt_of_pos _ hn) ⟨⟨[], _, upd_same, ?_, hx, b0, b1⟩, g.at (by simp)⟩
        rw [upd_ne ne.symm]
        exact h2
      · rw [decide_eq_false e2]
        refine iteT ?_
        obtain ⟨z, hz⟩ := last_none e2
        have hl : 0 < xs.length := List.length_pos_iff.mpr e2
        -- left = deal[0].pop()
        refine ⟨_, rfl, d, _, _, .ref l, rfl, rfl, sqL_of h1, rfl, .inl ⟨rfl, _, sqL_of h2⟩, l, _, _, rfl, rfl, h2, last_get hz, ?_⟩
        have h1' : upd H2 l (.lst ((xs.map V.int).dropLast)) d = some (.lst [.ref l, .int k]) := by rw [upd_ne ne]; exact h1
        -- deal[0].append(left // span)
        refine ⟨_, rfl, d, _, _, .ref l, rfl, rfl, sqL_of h1', rfl, .inl ⟨rfl, _, sqL_of upd_same⟩, _, rfl, _, rfl, _, _, rfl, rfl, divW hn sn, l, _, _, rfl, rfl, upd_same, ?_, ?_⟩
        · rw [List.length_dropLast, List.length_map]
          exact szl (by omega)
        -- return int(left) % span
        refine ⟨_, rfl, .inl ⟨_, rfl, ?_⟩⟩
        refine ⟨_, rfl, _, _, rfl, rfl, hn, ?_⟩
        refine q _ _ (Int.emod_nonneg _ (by omega)) (Int.emod_lt_of_pos _ hn) ⟨⟨xs.dropLast ++ [z / n], k, ?_, ?_, ?_, hk, hk2⟩, (g.at (by simp)).at (by simp)⟩
        · rw [upd_ne ne]
          exact h1'
        · rw [upd_same, List.map_append, List.map_dropLast]
          rfl
        · rw [List.length_append, List.length_dropLast]
          simp
          omega
theorem cut_ints (ns : List Int) (l h : Option Int) : ∃ ms : List Int, cutV (ns.map V.int) l h = ms.map V.int ∧ ms.length ≤ ns.length := by
  unfold cutV
  refine ⟨(ns.drop (HT.sIx (ns.map V.int).length 0 l)).take (HT.sIx (ns.map V.int).length (ns.map V.int).length h - HT.sIx (ns.map V.int).length 0 l), ?_, ?_⟩
  · rw [List.map_take, List.map_drop]
  · rw [List.length_take, List.length_drop]
    omega
/-- the source of draws: new -/
abbrev sp_deal (K : PySem.W.Frag) : Sp := Eb.sp_dealer K
theorem ok__law_deal (T : Txt K mg F D C) : FnOk P w K mg base CX0 1 (F 14) (D 14) ["_law_script", "_law_base"] (sp_deal K) := by
  refine T.f__law_deal.ok sc__law_deal (fun vs H Q E h => ?_) (fun cdv A outer s H vs Q E hr h => ?_)
  · obtain ⟨a, ns, k, rfl, hs, hn, k0, k1, q⟩ := h
    rfl
  · obtain ⟨a, ns, k, rfl, hs, hn, k0, k1, q⟩ := h
    refine ⟨_, (pss_cons (ps_setLc (i := 3) (own := [("_law_cell", 2)]) rfl sc__law_deal.nd rfl rfl (sw_true rfl rfl rfl (by decide +kernel)) (pi_list (pe_slice sl_list (pv 0) (po_some (pv 1)) (po_some pe_int))) (blkOk_by (N := ["_law_script", "_law_base", "_law_cell", "_law_cells", "_law_blend"]) (sc := defScope s__law_deal) (by decide +kernel)) (fun _ _ _ _ _ => (pg_name (i := 2) sc__law_deal.nd rfl (.inl rfl))) (fun _ _ _ _ _ => pts_nil) (fun _ _ _ _ _ => (pe_callB call_abs (by rfl) T.n_abs Eb.bb_abs (pa_cons (pv 2) pa_nil)))) (pss_cons (ps_set (i := 4) sc__law_deal.nd rfl (.inl rfl) (pe_op op_add pe_int (pe_op op_mulW pe_int (pv 1)))) (pss_cons (ps_for PassesOwn.never rfl (pi_list (pv 3)) (pg_name (i := 2) sc__law_deal.nd rfl (.inl rfl)) (pss_one (ps_set (i := 4) sc__law_deal.nd rfl (.inl rfl) (pe_op op_mod (pe_callTy call_int1 (by rfl) T.n_int Eb.bb_int (pa_cons (pe_op op_add (pe_op op_mulW (pv 4) pe_int) (pe_op op_mod (pe_callTy call_int1 (by rfl) T.n_int Eb.bb_int (pa_cons (pv 2) pa_nil)) pe_int)) pa_nil)) pe_int)))) (pss_one (ps_ret (pe_lst (pa_cons (pe_revL (pe_lc (own := [("_law_cell", 2)]) rfl sc__law_deal.nd (pi_list (pv 3)) (blkOk_by (N := ["_law_script", "_law_base", "_law_cell", "_law_cells", "_law_blend"]) (sc := defScope s__law_deal) (by decide +kernel)) (fun _ _ _ _ _ => (pg_name (i := 2) sc__law_deal.nd rfl (.inl rfl))) (fun _ _ _ _ _ => (pts_one (pt_cmpR op_ge (pv 2) (pe_op op_pow pe_int pe_int) (nomark _)))) (fun _ _ _ _ _ => (pv 2)))) (pa_cons (pv 4) pa_nil)))))))), ?_⟩
    obtain ⟨ms, em, hm⟩ := cut_ints ns (some k) (some 63)
    -- cells = [.. for cell in script[base:63]]
    refine ⟨_, rfl, _, rfl, _, rfl, _, rfl, a, _, rfl, hs, fun c hc => ?_⟩
    refine ⟨c, rfl, ⟨_, sqL_new⟩, fun D hD => ?_⟩
    rw [em] at hD ⊢
    have s1 : Same H (upd H c (.lst (ms.map V.int))) := same_new hc
    generalize hH1 : upd H c (.lst (ms.map V.int)) = H1 at hD s1 ⊢
    have hc1 : H1 c = some (.lst (ms.map V.int)) := by rw [← hH1]; exact upd_same
    refine lc_list (K := K) (a := c) (xs := ms.map V.int) (fun i H' => ∃ zs : List Int, zs.length = i ∧ H' D = some (.lst (zs.map V.int)) ∧ Same H1 H') ⟨[], rfl, upd_same, same_new hD⟩ (fun i H' _ ⟨zs, _, _, sm⟩ => sqL_of (sm _ _ hc1)) ?_ ?_
    · rintro i x H' hx ⟨zs, ez, hz, sm⟩
      rw [List.getElem?_map] at hx
      obtain ⟨z, hz', rfl⟩ := Option.map_eq_some_iff.mp hx
      have hi : i < ms.length := (List.getElem?_eq_some_iff.mp hz').1
      refine ⟨rfl, ?_⟩
      have fin : ∀ y : Int, ∃ acc, H' D = some (.lst acc) ∧ acc.length < sizeLine ∧ ∃ zs : List Int, zs.length = i + 1 ∧ upd H' D (.lst (acc ++ [V.int y])) D = some (.lst (zs.map V.int)) ∧ Same H1 (upd H' D (.lst (acc ++ [V.int y]))) := fun y =>
        ⟨_, hz, by rw [List.length_map]; exact szl (by omega), zs ++ [y], by simp [ez], by rw [upd_same, List.map_append]; rfl, same_mut sm hD⟩
      first
        | exact ⟨_, rfl, _, rfl, fin _⟩
        | exact ⟨_, rfl, _, _, rfl, rfl, _, rfl, ite2 (fun _ => ⟨_, rfl, fin z⟩) (fun _ => ⟨_, rfl, _, _, rfl, rfl, fin _⟩)⟩
    · rintro H2 ⟨zs, ez, hz, sm⟩
      rw [List.length_map] at ez
      have s2 : Same H H2 := s1.trans sm
      -- blend = 40960001 + 19 * base
      refine ⟨_, rfl, _, _, rfl, rfl, mulW (sm_of (by decide) (by decide)) (sm_of k0 (by omega)), _, _, rfl, rfl, ?_⟩
      -- for cell in cells
      refine ⟨_, rfl, D, rfl, ⟨_, sqL_of hz⟩, for_list (K := K) (a := D) (xs := zs.map V.int) (fun i σ H' => ∃ (v : Option V) (b : Int), σ = [some (.ref a), some (.int k), v, some (.ref D), some (.int b)] ∧ H' = H2 ∧ 0 ≤ b ∧ b < 2147483647) ⟨none, _, rfl, rfl, by omega, by omega⟩ ?_ ?_ ?_⟩
      · rintro i σ H' _ ⟨v, b, rfl, rfl, _⟩
        exact sqL_of hz
      · rintro i x σ H' hx ⟨v, b, rfl, rfl, b0, b1⟩
        rw [List.getElem?_map] at hx
        obtain ⟨z, hz', rfl⟩ := Option.map_eq_some_iff.mp hx
        refine ⟨_, rfl, _, _, rfl, rfl, mulW (sm_of b0 (by omega)) (sm_of (by decide) (by decide)), _, rfl, .inl ⟨_, rfl, ?_⟩⟩
        refine ⟨_, _, rfl, rfl, (show (0 : Int) < 2147483629 by decide), _, _, rfl, rfl, .inl ⟨_, rfl, ?_⟩⟩
        refine ⟨_, _, rfl, rfl, (show (0 : Int) < 2147483647 by decide), ?_⟩
        exact ⟨_, _, rfl, rfl, Int.emod_nonneg _ (by decide), Int.emod_lt_of_pos _ (by decide)⟩
      · rintro σ H' ⟨v, b, rfl, rfl, b0, b1⟩
        -- [cell for cell in cells if cell >= 10 ** 18][::-1]
        refine ⟨_, rfl, D, rfl, ⟨_, sqL_of hz⟩, fun D2 hD2 => ?_⟩
        refine lc_list (K := K) (a := D) (xs := zs.map V.int) (fun i H3 => ∃ ys : List Int, ys.length ≤ i ∧ H3 D2 = some (.lst (ys.map V.int)) ∧ Same H' H3) ⟨[], Nat.le_refl _, upd_same, same_new hD2⟩ (fun i H3 _ ⟨ys, _, _, sm'⟩ => sqL_of (sm' _ _ hz)) ?_ ?_
        · rintro i x H3 hx ⟨ys, ey, hy, sm'⟩
          rw [List.getElem?_map] at hx
          obtain ⟨z, hz', rfl⟩ := Option.map_eq_some_iff.mp hx
          have hi : i < zs.length := (List.getElem?_eq_some_iff.mp hz').1
          refine ⟨rfl, _, rfl, _, _, rfl, rfl, ⟨by decide, by decide, by decide⟩, _, _, rfl, rfl, _, rfl, ite2 (fun _ => ?_) (fun _ => ?_)⟩
          · refine ⟨_, rfl, _, hy, by rw [List.length_map]; exact szl (by omega), ys ++ [z], by simp; omega, by rw [upd_same, List.map_append]; rfl, same_mut sm' hD2⟩
          · exact ⟨ys, by omega, hy, sm'⟩
        · rintro H3 ⟨ys, ey, hy, sm'⟩
          rw [List.length_map] at ey
          refine ⟨D2, _, rfl, sqL_of hy, fun l hl => ?_⟩
          refine ⟨_, rfl, szr rfl, fun d hd => ?_⟩
          have s3 : Same H3 (upd H3 l (.lst (ys.map V.int).reverse)) := same_new hl
          have s4 := same_new (o := .lst [V.ref l, .int b]) hd
          have sA : Same H H3 := s2.trans sm'
          refine q d l _ ((sA.trans s3).trans s4) (sA.free (s3.free hd)) (sA.free hl) ⟨ys.reverse, b, upd_same, ?_, by rw [List.length_reverse]; omega, b0, b1⟩
          refine s4 _ _ ?_
          rw [upd_same, List.map_reverse]

theorem okd__law_draw (T : Txt K mg F D C) : FnOk P w K mg base CX0 1 (F 15) (D 15) ["_law_deal_here", "_law_amount"] (spG0 (tbl K C) wpDraw) := draw_g rfl rfl (ok__law_draw T)

end
end K24

namespace K24
open PySem PySem.Spec PyProof.Rows L2 Eb
section
variable {P : Program} {w : World} {K : PySem.W.Frag} {mg : Str → Option Value} {base : Heap} {F : Nat → Addr} {D : Nat → FuncData} {C I : Nat → Addr}
theorem ok_Term_eq (T : Txt K mg F D C) (ZX : Exs P K mg C I) : FnOk P w K mg base CX0 1 (F 13) (D 13) ["self", "other"] (spF0 (tbl K C) wp_Term_eq) := by
  unfold wp_Term_eq
  exact fnF0 T.f_Term_eq sc_Term_eq rfl rfl rfl (fun cdv A outer s H E Z M H0 dl hr => (xss_one (xs_ret (xe_andT (xe_isC (no_Term T) (sub := [(3, true)]) (su_Term T) (by rfl) T.n_isinstance (xe_var (pv 1)) (pe_glob (v := .ref (C 3)) (by rfl) T.gc_Term rfl)) (xe_one (xe_cmp (ho_eq hr.units) snd_eq (xe_tup (xa_cons (xe_fld (fo_Term_coefficients T) (xe_var (pv 0))) (xa_cons (xe_fld (fo_Term_over T) (xe_var (pv 0))) xa_nil))) (xe_tup (xa_cons (xe_fld (fo_Term_coefficients T) (xe_var (pv 1))) (xa_cons (xe_fld (fo_Term_over T) (xe_var (pv 1))) xa_nil))) (nomark _)))))))
theorem ok_numerator_at (T : Txt K mg F D C) (ZX : Exs P K mg C I) : FnOk P w K mg base CX0 1 (F 5) (D 5) ["term", "base"] (spF0 (tbl K C) wp_numerator_at) := by
  unfold wp_numerator_at
  exact fnF0 T.f_numerator_at sc_numerator_at rfl rfl rfl (fun cdv A outer s H E Z M H0 dl hr => (xss_cons (xs_set (i := 2) sc_numerator_at.nd rfl (.inl rfl) xe_int) (xss_cons (xs_for PassesOwn.never rfl (xi_tup (xe_revT (xe_fld (fo_Term_coefficients T) (xe_var (pv 0))))) (xg_name (pg_name (i := 3) sc_numerator_at.nd rfl (.inl rfl))) (xss_one (xs_set (i := 2) sc_numerator_at.nd rfl (.inl rfl) (xe_add (xe_mul (xe_var (pv 2)) (xe_var (pv 1))) (xe_var (pv 3)))))) (xss_one (xs_ret (xe_var (pv 2)))))))
theorem ok_Term_call (T : Txt K mg F D C) (ZX : Exs P K mg C I) : FnOk P w K mg base (L2.CX P w) 2 (F 12) (D 12) ["self", "base"] (spF (tbl K C) wp_Term_call) := by
  unfold wp_Term_call
  exact fnF T.f_Term_call sc_Term_call rfl rfl rfl (fun cdv A outer s H E Z M H0 dl hr => (xss_cons (xs_set (i := 2) sc_Term_call.nd rfl (.inl rfl) (xe_call (ok_numerator_at T ZX) (hr.mono (by decide)) (by rfl) T.g_numerator_at T.f_numerator_at.kp T.b_numerator_at (xa_cons (xe_var (pv 0)) (xa_cons (xe_var (pv 1)) xa_nil)))) (xss_cons (xs_if (xt_cmp (ho_ne hr.units) snd_ne (xe_mod (xe_callTy (fun _ => call_int1) snd_int1 (by rfl) T.n_int Eb.bb_int (xa_cons (xe_var (pv 2)) xa_nil)) (xe_fld (fo_Term_over T) (xe_var (pv 0)))) xe_int (nomark _)) (xss_one (xs_raise0 rfl PySem.F.excBase_ValueError ZX.q_NotWhole ZX.g_NotWhole ZX.kp_NotWhole (raises_own ZX.i_NotWhole.hs ZX.ty_NotWhole) (takes_of rfl rfl rfl rfl) (by rfl))) xss_nil) (xss_one (xs_ret (xe_fdiv (xe_var (pv 2)) (xe_fld (fo_Term_over T) (xe_var (pv 0)))))))))
theorem ok__law_at (T : Txt K mg F D C) (ZX : Exs P K mg C I) : FnOk P w K mg base CX0 3 (F 21) (D 21) ["_law_term", "_law_base"] (spF0 (tbl K C) wp__law_at) := by
  unfold wp__law_at
  exact fnF0 T.f__law_at sc__law_at rfl rfl rfl (fun cdv A outer s H E Z M H0 dl hr => (xss_cons (xs_set (i := 2) sc__law_at.nd rfl (.inl rfl) xe_str) (xss_cons (xs_tryAs (i := 3) rfl rfl sc__law_at.nd rfl rfl ⟨rfl, by decide, Or.inl ZX.g_NotWhole⟩ takes0 (ex_NotWhole ZX) (fun W pn xe tk ps => (xss_one (xs_set (i := 2) sc__law_at.nd rfl (.inl rfl) (xe_instX (cc := 3) tk (xe_var (pv 0)) T.me_Term_call (fnIn_of T.f_Term_call) (ok_Term_call T ZX) (hr.mono (by decide)) T.b_Term_call (xa_cons (xe_var (pv 1)) xa_nil))))) (fun a oe cls od pn hz hf => (xss_one (xs_set (i := 2) sc__law_at.nd rfl (.inl rfl) (xe_if (XW.xt (xw_and (xt_truth (xe_isE ZX.i_NotWhole (isa_NotWhole ZX) hz hf (by rfl) T.n_isinstance (pv 3) (xe_of (pe_glob (v := .ref (C 0)) (by rfl) ZX.g_FigureError rfl) (snd_c fun _ => rfl))) (by intro _; rfl)) (xw_and1 (xt_not (xt_truth (xe_isE ZX.i_NotWhole (isa_NotWhole ZX) hz hf (by rfl) T.n_isinstance (pv 3) (xe_of (pe_glob (v := .ref (C 1)) (by rfl) ZX.g_InvalidTerm rfl) (snd_c fun _ => rfl))) (by intro _; rfl)))))) xe_str xe_str))))) (xss_one (xs_ret (xe_var (pv 2)))))))
theorem ok__law_gcd (T : Txt K mg F D C) (ZX : Exs P K mg C I) : FnOk P w K mg base CX0 1 (F 16) (D 16) ["_law_one", "_law_other"] (spF0 (tbl K C) wp__law_gcd) := by
  unfold wp__law_gcd
  exact fnF0 T.f__law_gcd sc__law_gcd rfl rfl rfl (fun cdv A outer s H E Z M H0 dl hr => (xss_cons (xs_par (i := 0) (j := 1) (by rfl) sc__law_gcd.nd rfl rfl (by decide) rfl rfl (xa_cons (xe_callB (fun _ => call_abs) snd_abs (by rfl) T.n_abs Eb.bb_abs (xa_cons (xe_var (pv 0)) xa_nil)) (xa_cons (xe_callB (fun _ => call_abs) snd_abs (by rfl) T.n_abs Eb.bb_abs (xa_cons (xe_var (pv 1)) xa_nil)) xa_nil)) (by rfl)) (xss_cons (xs_while PassesOwn.never (xt_cmp (ho_ne hr.units) snd_ne (xe_var (pv 1)) xe_int (nomark _)) (xss_one (xs_par (i := 0) (j := 1) (by rfl) sc__law_gcd.nd rfl rfl (by decide) rfl rfl (xa_cons (xe_var (pv 1)) (xa_cons (xe_mod (xe_callTy (fun _ => call_int1) snd_int1 (by rfl) T.n_int Eb.bb_int (xa_cons (xe_var (pv 0)) xa_nil)) (xe_var (pv 1))) xa_nil)) (by rfl)))) (xss_one (xs_ret (xe_var (pv 0)))))))
theorem ok__law_lowest (T : Txt K mg F D C) (ZX : Exs P K mg C I) : FnOk P w K mg base CX0 2 (F 17) (D 17) ["_law_row_here", "_law_under"] (spF0 (tbl K C) wp__law_lowest) := by
  unfold wp__law_lowest
  exact fnF0 T.f__law_lowest sc__law_lowest rfl rfl rfl (fun cdv A outer s H E Z M H0 dl hr => (xss_cons (xs_frz 0 (xs_setO (i := 0) sc__law_lowest.nd rfl (.inl rfl) (xl_callTy hc_list snd_list (by rfl) T.n_list Eb.bb_list (xa_cons (xe_var (pv 0)) xa_nil)))) (xss_cons (xs_while PassesOwn.never (XW.xt (xw_and (xe_nilN hr.units (pv 0)).2 (xw_and1 (xt_cmp (ho_eq hr.units) snd_eq (xe_ixO (pv 0) (xe_neg xe_int)) xe_int (nomark _))))) (xss_one (xs_pop (pv 0)))) (xss_cons (xs_set (i := 2) sc__law_lowest.nd rfl (.inr rfl) (xe_var (pv 1))) (xss_cons (xs_frz 0 (xs_for PassesOwn.never rfl (xi_list (xe_var (pv 0))) (xg_name (pg_name (i := 3) sc__law_lowest.nd rfl (.inl rfl))) (xss_one (xs_set (i := 2) sc__law_lowest.nd rfl (.inr rfl) (xe_call (ok__law_gcd T ZX) (hr.mono (by decide)) (by rfl) T.g__law_gcd T.f__law_gcd.kp T.b__law_gcd (xa_cons (xe_var (pv 2)) (xa_cons (xe_var (pv 3)) xa_nil))))))) (xss_one (xs_frz 0 (xs_ret (xe_tup (xa_cons (xe_callTy hc_tuple snd_tuple (by rfl) T.n_tuple Eb.bb_tuple (xa_cons ((xl_lc (own := [("_law_one", 3)]) rfl sc__law_lowest.nd (xi_list (xe_var (pv 0))) (blkOk_by (N := ["_law_row_here", "_law_under", "_law_share", "_law_one"]) (sc := defScope s__law_lowest) (by decide +kernel)) (fun _ _ _ _ _ => (xg_name (pg_name (i := 3) sc__law_lowest.nd rfl (.inl rfl)))) (fun _ _ _ _ _ => xts_nil) (fun _ _ _ _ _ => (xe_fdiv (xe_var (pv 3)) (xe_var (pv 2)))))).xe xa_nil)) (xa_cons (xe_fdiv (xe_var (pv 1)) (xe_var (pv 2))) xa_nil)))))))))))
theorem ok_common (T : Txt K mg F D C) (ZX : Exs P K mg C I) : FnOk P w K mg base CX0 1 (F 2) (D 2) ["one", "other"] (spF0 (tbl K C) wp_common) := by
  unfold wp_common
  exact fnF0 T.f_common sc_common rfl rfl rfl (fun cdv A outer s H E Z M H0 dl hr => (xss_cons (xs_par (i := 0) (j := 1) (by rfl) sc_common.nd rfl rfl (by decide) rfl rfl (xa_cons (xe_callB (fun _ => call_abs) snd_abs (by rfl) T.n_abs Eb.bb_abs (xa_cons (xe_var (pv 0)) xa_nil)) (xa_cons (xe_callB (fun _ => call_abs) snd_abs (by rfl) T.n_abs Eb.bb_abs (xa_cons (xe_var (pv 1)) xa_nil)) xa_nil)) (by rfl)) (xss_cons (xs_while PassesOwn.never (xt_cmp (ho_ne hr.units) snd_ne (xe_var (pv 1)) xe_int (nomark _)) (xss_one (xs_par (i := 0) (j := 1) (by rfl) sc_common.nd rfl rfl (by decide) rfl rfl (xa_cons (xe_var (pv 1)) (xa_cons (xe_mod (xe_callTy (fun _ => call_int1) snd_int1 (by rfl) T.n_int Eb.bb_int (xa_cons (xe_var (pv 0)) xa_nil)) (xe_var (pv 1))) xa_nil)) (by rfl)))) (xss_one (xs_ret (xe_var (pv 0)))))))
theorem ok_is_integer (T : Txt K mg F D C) (ZX : Exs P K mg C I) : FnOk P w K mg base CX0 1 (F 1) (D 1) ["value"] (spF0 (tbl K C) wp_is_integer) := by
  unfold wp_is_integer
  exact fnF0 T.f_is_integer sc_is_integer rfl rfl rfl (fun cdv A outer s H E Z M H0 dl hr => (xss_one (xs_ret (xe_andT (xe_isT (n := .int) (cs := [3]) (is_int T) (by rfl) T.n_isinstance (xe_var (pv 0)) (pe_bltn (v := .ty "int") (by rfl) T.n_int Eb.bb_int rfl)) (xe_one (xe_notT (xe_isT (n := .bool) (cs := [3]) (is_bool T) (by rfl) T.n_isinstance (xe_var (pv 0)) (pe_bltn (v := .ty "bool") (by rfl) T.n_bool Eb.bb_bool rfl))))))))
theorem okk_Term_init (T : Txt K mg F D C) (ZX : Exs P K mg C I) : FnK P w K mg base (L2.CX P w) 2 (F 10) "over" (spKX (tbl K C) 3 wp_Term_init (.int 1)) := by
  unfold wp_Term_init
  obtain ⟨oc, od, doc, pm, an, cdv, ct, osl, Dk, tk, lk, hcd, hD⟩ := T.k_Term_init
  refine fnKX (dv := .int 1) lk hcd sc_Term_init hD ⟨_, rfl⟩ (fun a o rest => by cases rest <;> rfl) (fun a rest => ?_) rfl rfl rfl (fun A outer s H E Z M H0 dl hr => (xss_cons (xs_if (xt_not (xt_truth (xe_callB (hc_all rfl) snd_all (by rfl) T.n_all Eb.bb_all (xa_cons ((xl_lc (own := [("value", 3)]) rfl sc_Term_init.nd (xi_tup (xe_var (pv 2))) (blkOk_by (N := ["self", "over", "coefficients", "value", "many", "factor"]) (sc := defScope s_Term_init) (by decide +kernel)) (fun _ _ _ _ _ => (xg_name (pg_name (i := 3) sc_Term_init.nd rfl (.inl rfl)))) (fun _ _ _ _ _ => xts_nil) (fun _ _ _ _ _ => (xe_call (ok_is_integer T ZX) (hr.mono (by decide)) (by rfl) T.g_is_integer T.f_is_integer.kp T.b_is_integer (xa_cons (xe_var (pv 3)) xa_nil))))).xe xa_nil)) (by intro _; rfl))) (xss_one (xs_raise rfl ZX.x_InvalidTerm rfl hr (takes_of rfl rfl rfl rfl) (xa_cons xe_str xa_nil) (by rfl))) xss_nil) (xss_cons (xs_if (XW.xt (xw_or (xt_not (xt_truth (xe_call (ok_is_integer T ZX) (hr.mono (by decide)) (by rfl) T.g_is_integer T.f_is_integer.kp T.b_is_integer (xa_cons (xe_var (pv 1)) xa_nil)) (by intro _; rfl))) (xw_or1 (xt_cmp (fun _ => op_lt) snd_lt (xe_var (pv 1)) xe_int (nomark _))))) (xss_one (xs_raise rfl ZX.x_InvalidTerm rfl hr (takes_of rfl rfl rfl rfl) (xa_cons xe_str xa_nil) (by rfl))) xss_nil) (xss_cons (xs_set (i := 4) sc_Term_init.nd rfl (.inl rfl) (xe_callB hc_len snd_len (by rfl) T.n_len Eb.bb_len (xa_cons (xe_var (pv 2)) xa_nil))) (xss_cons (xs_while (passes_of rfl) (XW.xt (xw_and (xt_cmp (fun _ => op_gt) snd_gt (xe_var (pv 4)) xe_int (nomark _)) (xw_and1 (xt_cmp (ho_eq hr.units) snd_eq (xe_ix (xe_var (pv 2)) (xe_sub (xe_var (pv 4)) xe_int)) xe_int (nomark _))))) (xss_one (xs_set (i := 4) sc_Term_init.nd rfl (.inl rfl) (xe_sub (xe_var (pv 4)) xe_int)))) (xss_cons (xs_set (i := 5) sc_Term_init.nd rfl (.inr rfl) (xe_var (pv 1))) (xss_cons (xs_for (passes_of rfl) rfl (xi_tup (xe_slice (xe_var (pv 2)) xo_none (xo_some (xe_var (pv 4))))) (xg_name (pg_name (i := 3) sc_Term_init.nd rfl (.inl rfl))) (xss_one (xs_set (i := 5) sc_Term_init.nd rfl (.inr rfl) (xe_call (ok_common T ZX) (hr.mono (by decide)) (by rfl) T.g_common T.f_common.kp T.b_common (xa_cons (xe_var (pv 5)) (xa_cons (xe_var (pv 3)) xa_nil)))))) (xss_cons (xs_self (po_Term_coefficients T) (pv 0) (xe_callTy hc_tuple snd_tuple (by rfl) T.n_tuple Eb.bb_tuple (xa_cons ((xl_lc (own := [("value", 3)]) rfl sc_Term_init.nd (xi_tup (xe_slice (xe_var (pv 2)) xo_none (xo_some (xe_var (pv 4))))) (blkOk_by (N := ["self", "over", "coefficients", "value", "many", "factor"]) (sc := defScope s_Term_init) (by decide +kernel)) (fun _ _ _ _ _ => (xg_name (pg_name (i := 3) sc_Term_init.nd rfl (.inl rfl)))) (fun _ _ _ _ _ => xts_nil) (fun _ _ _ _ _ => (xe_fdiv (xe_var (pv 3)) (xe_var (pv 5)))))).xe xa_nil))) (xss_one (xs_self (po_Term_over T) (pv 0) (xe_fdiv (xe_var (pv 1)) (xe_var (pv 5)))))))))))))
  cases rest with
  | nil => exact ⟨_, _, _, _, _, _, rfl, rfl, rfl⟩
  | cons r rs => exact ⟨_, _, _, _, _, _, rfl, rfl, rfl⟩
theorem ok__law_made (T : Txt K mg F D C) (ZX : Exs P K mg C I) : FnOk P w K mg base (L2.CX P w) 4 (F 19) (D 19) ["_law_row_here", "_law_under"] (spF (tbl K C) wp__law_made) := by
  unfold wp__law_made
  exact fnF T.f__law_made sc__law_made rfl rfl rfl (fun cdv A outer s H E Z M H0 dl hr => (xss_cons (xs_if (xt_cmp (ho_eq hr.units) snd_eq (xe_callB hc_len snd_len (by rfl) T.n_len Eb.bb_len (xa_cons (xe_var (pv 0)) xa_nil)) xe_int (nomark _)) (xss_one (xs_ret (xe_mkKk0X (takes_of rfl rfl rfl rfl) T.mk_Term (okk_Term_init T ZX) (hr.mono (by decide)) (by rfl) T.gc_Term (xe_var (pv 1))))) xss_nil) (xss_cons (xs_if (xt_cmp (ho_eq hr.units) snd_eq (xe_callB hc_len snd_len (by rfl) T.n_len Eb.bb_len (xa_cons (xe_var (pv 0)) xa_nil)) xe_int (nomark _)) (xss_one (xs_ret (xe_mkKkX (takes_of rfl rfl rfl rfl) T.mk_Term (okk_Term_init T ZX) (hr.mono (by decide)) (by rfl) T.gc_Term (xa_cons (xe_ix (xe_var (pv 0)) xe_int) xa_nil) (xe_var (pv 1))))) xss_nil) (xss_cons (xs_if (xt_cmp (ho_eq hr.units) snd_eq (xe_callB hc_len snd_len (by rfl) T.n_len Eb.bb_len (xa_cons (xe_var (pv 0)) xa_nil)) xe_int (nomark _)) (xss_one (xs_ret (xe_mkKkX (takes_of rfl rfl rfl rfl) T.mk_Term (okk_Term_init T ZX) (hr.mono (by decide)) (by rfl) T.gc_Term (xa_cons (xe_ix (xe_var (pv 0)) xe_int) (xa_cons (xe_ix (xe_var (pv 0)) xe_int) xa_nil)) (xe_var (pv 1))))) xss_nil) (xss_cons (xs_if (xt_cmp (ho_eq hr.units) snd_eq (xe_callB hc_len snd_len (by rfl) T.n_len Eb.bb_len (xa_cons (xe_var (pv 0)) xa_nil)) xe_int (nomark _)) (xss_one (xs_ret (xe_mkKkX (takes_of rfl rfl rfl rfl) T.mk_Term (okk_Term_init T ZX) (hr.mono (by decide)) (by rfl) T.gc_Term (xa_cons (xe_ix (xe_var (pv 0)) xe_int) (xa_cons (xe_ix (xe_var (pv 0)) xe_int) (xa_cons (xe_ix (xe_var (pv 0)) xe_int) xa_nil))) (xe_var (pv 1))))) xss_nil) (xss_cons (xs_if (xt_cmp (ho_eq hr.units) snd_eq (xe_callB hc_len snd_len (by rfl) T.n_len Eb.bb_len (xa_cons (xe_var (pv 0)) xa_nil)) xe_int (nomark _)) (xss_one (xs_ret (xe_mkKkX (takes_of rfl rfl rfl rfl) T.mk_Term (okk_Term_init T ZX) (hr.mono (by decide)) (by rfl) T.gc_Term (xa_cons (xe_ix (xe_var (pv 0)) xe_int) (xa_cons (xe_ix (xe_var (pv 0)) xe_int) (xa_cons (xe_ix (xe_var (pv 0)) xe_int) (xa_cons (xe_ix (xe_var (pv 0)) xe_int) xa_nil)))) (xe_var (pv 1))))) xss_nil) (xss_cons (xs_if (xt_cmp (ho_eq hr.units) snd_eq (xe_callB hc_len snd_len (by rfl) T.n_len Eb.bb_len (xa_cons (xe_var (pv 0)) xa_nil)) xe_int (nomark _)) (xss_one (xs_ret (xe_mkKkX (takes_of rfl rfl rfl rfl) T.mk_Term (okk_Term_init T ZX) (hr.mono (by decide)) (by rfl) T.gc_Term (xa_cons (xe_ix (xe_var (pv 0)) xe_int) (xa_cons (xe_ix (xe_var (pv 0)) xe_int) (xa_cons (xe_ix (xe_var (pv 0)) xe_int) (xa_cons (xe_ix (xe_var (pv 0)) xe_int) (xa_cons (xe_ix (xe_var (pv 0)) xe_int) xa_nil))))) (xe_var (pv 1))))) xss_nil) (xss_cons (xs_asg (xe_var (pv 0)) (xg_unl rfl (xgs_cons (pg_name (i := 2) sc__law_made.nd rfl (.inl rfl)) (xgs_cons (pg_name (i := 3) sc__law_made.nd rfl (.inl rfl)) (xgs_cons (pg_name (i := 4) sc__law_made.nd rfl (.inl rfl)) (xgs_cons (pg_name (i := 5) sc__law_made.nd rfl (.inl rfl)) (xgs_cons (pg_name (i := 6) sc__law_made.nd rfl (.inl rfl)) (xgs_cons (pg_name (i := 7) sc__law_made.nd rfl (.inl rfl)) (xgs_cons (pg_name (i := 8) sc__law_made.nd rfl (.inl rfl)) (xgs_cons (pg_name (i := 9) sc__law_made.nd rfl (.inl rfl)) (xgs_cons (pg_name (i := 10) sc__law_made.nd rfl (.inl rfl)) (xgs_cons (pg_name (i := 11) sc__law_made.nd rfl (.inl rfl)) (xgs_cons (pg_name (i := 12) sc__law_made.nd rfl (.inl rfl)) xgs_nil))))))))))))) (xss_one (xs_ret (xe_mkKkX (takes_of rfl rfl rfl rfl) T.mk_Term (okk_Term_init T ZX) (hr.mono (by decide)) (by rfl) T.gc_Term (xa_cons (xe_var (pv 2)) (xa_cons (xe_var (pv 3)) (xa_cons (xe_var (pv 4)) (xa_cons (xe_var (pv 5)) (xa_cons (xe_var (pv 6)) (xa_cons (xe_var (pv 7)) (xa_cons (xe_var (pv 8)) (xa_cons (xe_var (pv 9)) (xa_cons (xe_var (pv 10)) (xa_cons (xe_var (pv 11)) (xa_cons (xe_var (pv 12)) xa_nil))))))))))) (xe_var (pv 1)))))))))))))
theorem ok__law_refused (T : Txt K mg F D C) (ZX : Exs P K mg C I) : FnOk P w K mg base CX0 5 (F 22) (D 22) ["_law_row_here", "_law_under"] (spF0 (tbl K C) wp__law_refused) := by
  unfold wp__law_refused
  exact fnF0 T.f__law_refused sc__law_refused rfl rfl rfl (fun cdv A outer s H E Z M H0 dl hr => (xss_cons (xs_set (i := 2) sc__law_refused.nd rfl (.inl rfl) xe_non) (xss_cons (xs_tryAs (i := 3) rfl rfl sc__law_refused.nd rfl rfl ⟨rfl, by decide, Or.inl ZX.g_InvalidTerm⟩ takes0 (ex_InvalidTerm ZX) (fun W pn xe tk ps => (xss_one (xs_expr (xe_callX tk (ok__law_made T ZX) (hr.mono (by decide)) (by rfl) T.g__law_made T.f__law_made.kp T.b__law_made (xa_cons (xe_var (pv 0)) (xa_cons (xe_var (pv 1)) xa_nil)))))) (fun a oe cls od pn hz hf => (xss_one (xs_set (i := 2) sc__law_refused.nd rfl (.inl rfl) (xe_if (XW.xt (xw_and (xt_truth (xe_isE ZX.i_InvalidTerm (isa_InvalidTerm ZX) hz hf (by rfl) T.n_isinstance (pv 3) (xe_of (pe_glob (v := .ref (C 0)) (by rfl) ZX.g_FigureError rfl) (snd_c fun _ => rfl))) (by intro _; rfl)) (xw_and1 (xt_truth (xe_isE ZX.i_InvalidTerm (isa_InvalidTerm ZX) hz hf (by rfl) T.n_isinstance (pv 3) (xe_of (pe_bltn (v := .ty "ValueError") (by rfl) T.n_ValueError (by decide +kernel) rfl) (snd_c fun _ => rfl))) (by intro _; rfl))))) (xe_erf ⟨ZX.i_InvalidTerm.hg, ZX.i_InvalidTerm.hk, ZX.i_InvalidTerm.hs, ZX.i_InvalidTerm.hd⟩ ZX.x_InvalidTerm.noN rfl hz hf (pv 3)) xe_str))))) (xss_one (xs_ret (xe_var (pv 2)))))))
theorem ok__law_row (T : Txt K mg F D C) (ZX : Exs P K mg C I) : FnOk P w K mg base CX0 2 (F 20) (D 20) ["_law_deal_here", "_law_amount", "_law_most"] (spG0 (tbl K C) wp__law_row) := by
  unfold wp__law_row
  exact fnG0 T.f__law_row sc__law_row rfl rfl rfl (fun cdv A outer s H E Z M H0 dl hr => (xss_cons (xs_setO (i := 3) sc__law_row.nd rfl (.inl rfl) (xl_lst xa_nil)) (xss_cons (xs_for PassesOwn.never rfl (xi_range1 (by rfl) T.n_range (xa_cons (xe_var (pv 1)) xa_nil)) (xg_name (pg_name (i := 4) sc__law_row.nd rfl (.inl rfl))) (xss_cons (xs_set (i := 5) sc__law_row.nd rfl (.inl rfl) (xe_ix ((xl_lst (xa_cons xe_int (xa_cons xe_int (xa_cons (xe_var (pv 2)) xa_nil))))).xe (xe_callG (pv 0) (okd__law_draw T) (hr.mono (by decide)) (by rfl) T.g__law_draw T.f__law_draw.kp T.b__law_draw (xa_cons xe_int xa_nil)))) (xss_one (xs_app (pv 3) (xe_sub (xe_callG (pv 0) (okd__law_draw T) (hr.mono (by decide)) (by rfl) T.g__law_draw T.f__law_draw.kp T.b__law_draw (xa_cons (xe_add (xe_mul xe_int (xe_var (pv 5))) xe_int) xa_nil)) (xe_var (pv 5))))))) (xss_one (xs_frz 3 (xs_ret (xe_var (pv 3))))))))
theorem ok__law_value (T : Txt K mg F D C) (ZX : Exs P K mg C I) : FnOk P w K mg base CX0 1 (F 18) (D 18) ["_law_row_here", "_law_base"] (spF0 (tbl K C) wp__law_value) := by
  unfold wp__law_value
  exact fnF0 T.f__law_value sc__law_value rfl rfl rfl (fun cdv A outer s H E Z M H0 dl hr => (xss_cons (xs_set (i := 2) sc__law_value.nd rfl (.inl rfl) xe_int) (xss_cons (xs_for PassesOwn.never rfl (xi_list ((xl_rev (xe_var (pv 0)))).xe) (xg_name (pg_name (i := 3) sc__law_value.nd rfl (.inl rfl))) (xss_one (xs_set (i := 2) sc__law_value.nd rfl (.inl rfl) (xe_add (xe_mul (xe_var (pv 2)) (xe_var (pv 1))) (xe_var (pv 3)))))) (xss_one (xs_ret (xe_var (pv 2)))))))
theorem ok_Term_degree (T : Txt K mg F D C) (ZX : Exs P K mg C I) : FnOk P w K mg base CX0 1 (F 11) (D 11) ["self"] (spF0 (tbl K C) wp_Term_degree) := by
  unfold wp_Term_degree
  exact fnF0 T.f_Term_degree sc_Term_degree rfl rfl rfl (fun cdv A outer s H E Z M H0 dl hr => (xss_one (xs_ret (xe_sub (xe_callB hc_len snd_len (by rfl) T.n_len Eb.bb_len (xa_cons (xe_fld (fo_Term_coefficients T) (xe_var (pv 0))) xa_nil)) xe_int))))
theorem ok_law (T : Txt K mg F D C) (ZX : Exs P K mg C I) (hw : w_law) : FnG P w K mg base CX0 6 (F 23) (D 23) ["_law_script"] (sp_law K) := by
  refine fun_g T.f_law sc_law (fun vs H Q E h => ?_) (fun cdv A outer s H vs Q E hG hr h => ?_)
  · obtain ⟨a, ns, rfl, _⟩ := h
    rfl
  · obtain ⟨a, ns, rfl, hs, hn, q⟩ := h
    exact law_body (B := tbl K C) (i := 1) (ps_set (i := 1) sc_law.nd rfl (.inl rfl) (pe_call (ok__law_deal T) (hr.mono (by decide)) (by rfl) T.g__law_deal T.f__law_deal.kp T.b__law_deal .nil pass0 (pa_cons (pv 0) (pa_cons pe_int pa_nil)))) (fun Z M H0 dl => (xss_cons (xs_for PassesOwn.never rfl (xi_range1 (by rfl) T.n_range (xa_cons xe_int xa_nil)) (xg_name (pg_name (i := 2) sc_law.nd rfl (.inl rfl))) (xss_cons (xs_set (i := 3) sc_law.nd rfl (.inl rfl) (xe_callG (pv 1) (ok__law_row T ZX) (hr.mono (by decide)) (by rfl) T.g__law_row T.f__law_row.kp T.b__law_row (xa_cons (xe_ix ((xl_lst (xa_cons xe_int (xa_cons xe_int (xa_cons xe_int (xa_cons xe_int (xa_cons xe_int (xa_cons xe_int xa_nil)))))))).xe (xe_callG (pv 1) (okd__law_draw T) (hr.mono (by decide)) (by rfl) T.g__law_draw T.f__law_draw.kp T.b__law_draw (xa_cons xe_int xa_nil))) (xa_cons (xe_pow xe_int xe_int) xa_nil)))) (xss_cons (xs_asg (xe_tup (xa_cons (xe_add xe_int (xe_callG (pv 1) (okd__law_draw T) (hr.mono (by decide)) (by rfl) T.g__law_draw T.f__law_draw.kp T.b__law_draw (xa_cons (xe_ix ((xl_lst (xa_cons xe_int (xa_cons xe_int (xa_cons (xe_pow xe_int xe_int) xa_nil))))).xe (xe_callG (pv 1) (okd__law_draw T) (hr.mono (by decide)) (by rfl) T.g__law_draw T.f__law_draw.kp T.b__law_draw (xa_cons xe_int xa_nil))) xa_nil))) (xa_cons (xe_add xe_int (xe_callG (pv 1) (okd__law_draw T) (hr.mono (by decide)) (by rfl) T.g__law_draw T.f__law_draw.kp T.b__law_draw (xa_cons xe_int xa_nil))) xa_nil))) (xg_tup rfl (xgs_cons (pg_name (i := 4) sc_law.nd rfl (.inl rfl)) (xgs_cons (pg_name (i := 5) sc_law.nd rfl (.inr rfl)) xgs_nil)))) (xss_cons (xs_par (i := 6) (j := 7) (by rfl) sc_law.nd rfl rfl (by decide) rfl rfl (xa_cons (xe_call (calm (ok__law_made T ZX)) (hr.mono (by decide)) (by rfl) T.g__law_made T.f__law_made.kp T.b__law_made (xa_cons (xe_var (pv 3)) (xa_cons (xe_var (pv 4)) xa_nil))) (xa_cons (xe_call (ok__law_lowest T ZX) (hr.mono (by decide)) (by rfl) T.g__law_lowest T.f__law_lowest.kp T.b__law_lowest (xa_cons (xe_var (pv 3)) (xa_cons (xe_var (pv 4)) xa_nil))) xa_nil)) (by rfl)) (xss_cons (xs_if (xt_cmp (ho_ne hr.units) snd_ne (xe_callB (hc_repr hG hr.units) snd_repr (by rfl) T.n_repr Eb.bb_repr (xa_cons (xe_tup (xa_cons (xe_fld (fo_Term_coefficients T) (xe_var (pv 6))) (xa_cons (xe_fld (fo_Term_over T) (xe_var (pv 6))) xa_nil))) xa_nil)) (xe_callB (hc_repr hG hr.units) snd_repr (by rfl) T.n_repr Eb.bb_repr (xa_cons (xe_var (pv 7)) xa_nil)) (nomark _)) (xss_one (xs_ret xe_bl)) xss_nil) (xss_cons (xs_if (xt_cmp (ho_ne hr.units) snd_ne (xe_callB (hc_repr hG hr.units) snd_repr (by rfl) T.n_repr Eb.bb_repr (xa_cons (xe_prop (cc := 3) (pa := 0) (xe_var (pv 6)) T.cl_Term T.pr_Term_degree (ok_Term_degree T ZX) (hr.mono (by decide)) T.b_Term_degree) xa_nil)) (xe_callTy (fun _ => callE call_str_int SkE.call_str_str) snd_str (by rfl) T.n_str Eb.bb_str (xa_cons (xe_sub (xe_callB hc_len snd_len (by rfl) T.n_len Eb.bb_len (xa_cons (xe_ix (xe_var (pv 7)) xe_int) xa_nil)) xe_int) xa_nil)) (nomark _)) (xss_one (xs_ret xe_bl)) xss_nil) (xss_cons (xs_par (i := 8) (j := 9) (by rfl) sc_law.nd rfl rfl (by decide) rfl rfl (xa_cons ((xl_lc (own := [("_law_one", 25)]) rfl sc_law.nd (xi_list (xe_var (pv 3))) (blkOk_by (N := ["_law_script", "_law_deal_here", "_law_turn", "_law_row_here", "_law_under", "_law_factor", "_law_term", "_law_due", "_law_wide", "_law_small", "_law_is_near", "_law_other", "_law_is_one", "_law_again", "_law_span", "_law_way", "_law_base", "_law_value_here", "_law_number", "_law_odd", "_law_at_here", "_law_few", "_law_wrong", "_law_beneath", "_law_bad", "_law_one"]) (sc := defScope s_law) (by decide +kernel)) (fun _ _ _ _ _ => (xg_name (pg_name (i := 25) sc_law.nd rfl (.inl rfl)))) (fun _ _ _ _ _ => xts_nil) (fun _ _ _ _ _ => (xe_mul (xe_var (pv 5)) (xe_var (pv 25)))))).xe (xa_cons ((xl_lc (own := [("_law_one", 25)]) rfl sc_law.nd (xi_list (xe_var (pv 3))) (blkOk_by (N := ["_law_script", "_law_deal_here", "_law_turn", "_law_row_here", "_law_under", "_law_factor", "_law_term", "_law_due", "_law_wide", "_law_small", "_law_is_near", "_law_other", "_law_is_one", "_law_again", "_law_span", "_law_way", "_law_base", "_law_value_here", "_law_number", "_law_odd", "_law_at_here", "_law_few", "_law_wrong", "_law_beneath", "_law_bad", "_law_one"]) (sc := defScope s_law) (by decide +kernel)) (fun _ _ _ _ _ => (xg_name (pg_name (i := 25) sc_law.nd rfl (.inl rfl)))) (fun _ _ _ _ _ => xts_nil) (fun _ _ _ _ _ => (xe_fdiv (xe_var (pv 25)) (xe_var (pv 5)))))).xe xa_nil)) (by rfl)) (xss_cons (xs_set (i := 10) sc_law.nd rfl (.inl rfl) (xe_cmp (ho_eq hr.units) snd_eq ((xl_lc (own := [("_law_one", 25)]) rfl sc_law.nd (xi_list (xe_add (xe_var (pv 8)) ((xl_lst (xa_cons (xe_mul (xe_var (pv 4)) (xe_var (pv 5))) xa_nil))).xe)) (blkOk_by (N := ["_law_script", "_law_deal_here", "_law_turn", "_law_row_here", "_law_under", "_law_factor", "_law_term", "_law_due", "_law_wide", "_law_small", "_law_is_near", "_law_other", "_law_is_one", "_law_again", "_law_span", "_law_way", "_law_base", "_law_value_here", "_law_number", "_law_odd", "_law_at_here", "_law_few", "_law_wrong", "_law_beneath", "_law_bad", "_law_one"]) (sc := defScope s_law) (by decide +kernel)) (fun _ _ _ _ _ => (xg_name (pg_name (i := 25) sc_law.nd rfl (.inl rfl)))) (fun _ _ _ _ _ => (xts_one (xt_cmp (fun _ => op_gt) snd_gt (xe_callB (fun _ => call_abs) snd_abs (by rfl) T.n_abs Eb.bb_abs (xa_cons (xe_var (pv 25)) xa_nil)) (xe_pow xe_int xe_int) (nomark _)))) (fun _ _ _ _ _ => (xe_var (pv 25))))).xe ((xl_lst xa_nil)).xe (nomark _))) (xss_cons (xs_set (i := 8) sc_law.nd rfl (.inl rfl) (xe_slice (xe_add (xe_var (pv 8)) ((xl_lst (xa_cons xe_int xa_nil))).xe) xo_none (xo_some (xe_callB (fun _ => call_max2 rfl) snd_max2 (by rfl) T.n_max Eb.bb_max (xa_cons xe_int (xa_cons (xe_callB hc_len snd_len (by rfl) T.n_len Eb.bb_len (xa_cons (xe_var (pv 3)) xa_nil)) xa_nil)))))) (xss_cons (xs_if (XW.xt (xw_and (xt_truth (xe_var (pv 10)) (by intro _; rfl)) (xw_and1 (xt_not (xt_cmp (fun _ => op_cmp2 (fun _ _ => rfl) T.me_Term_eq.at_ T.me_Term_eq.fn T.nf_Term (raw0 (ok_Term_eq T ZX) T.b_Term_eq) (hr.mono (by decide)) pass0) (snd_op2 (E := E0)) (xe_call (calm (ok__law_made T ZX)) (hr.mono (by decide)) (by rfl) T.g__law_made T.f__law_made.kp T.b__law_made (xa_cons (xe_var (pv 8)) (xa_cons (xe_mul (xe_var (pv 4)) (xe_var (pv 5))) xa_nil))) (xe_var (pv 6)) (nomark _)))))) (xss_one (xs_ret xe_bl)) xss_nil) (xss_cons (xs_par (i := 11) (j := 12) (by rfl) sc_law.nd rfl rfl (by decide) rfl rfl (xa_cons (xe_call (calm (ok__law_made T ZX)) (hr.mono (by decide)) (by rfl) T.g__law_made T.f__law_made.kp T.b__law_made (xa_cons (xe_var (pv 9)) (xa_cons (xe_var (pv 4)) xa_nil))) (xa_cons (xe_cmp (ho_eq hr.units) snd_eq (xe_call (ok__law_lowest T ZX) (hr.mono (by decide)) (by rfl) T.g__law_lowest T.f__law_lowest.kp T.b__law_lowest (xa_cons (xe_var (pv 9)) (xa_cons (xe_var (pv 4)) xa_nil))) (xe_var (pv 7)) (nomark _)) xa_nil)) (by rfl)) (xss_cons (xs_if (XW.xt (xw_or (xt_cmp (ho_ne hr.units) snd_ne (xe_cmp (fun _ => op_cmp2 (fun _ _ => rfl) T.me_Term_eq.at_ T.me_Term_eq.fn T.nf_Term (raw0 (ok_Term_eq T ZX) T.b_Term_eq) (hr.mono (by decide)) pass0) (snd_op2 (E := E0)) (xe_var (pv 11)) (xe_var (pv 6)) (nomark _)) (xe_var (pv 12)) (nomark _)) (xw_or (xt_cmp (ho_eqA T.me_Term_eq.at_ T.me_Term_eq.fn (raw0 (ok_Term_eq T ZX) T.b_Term_eq) (hr.mono (by decide)) pass0) (snd_eqA (E := E0) (eqa_Term T)) (xe_var (pv 6)) (xe_var (pv 7)) (nomark _)) (xw_or1 (xt_cmp (ho_eqA T.me_Term_eq.at_ T.me_Term_eq.fn (raw0 (ok_Term_eq T ZX) T.b_Term_eq) (hr.mono (by decide)) pass0) (snd_eqA (E := E0) (eqa_Term T)) (xe_var (pv 6)) xe_int (nomark _)))))) (xss_one (xs_ret xe_bl)) xss_nil) (xss_cons (xs_for PassesOwn.never rfl (xi_range1 (by rfl) T.n_range (xa_cons xe_int xa_nil)) (xg_name (pg_name (i := 13) sc_law.nd rfl (.inl rfl))) (xss_cons (xs_par (i := 14) (j := 15) (by rfl) sc_law.nd rfl rfl (by decide) rfl rfl (xa_cons (xe_ix ((xl_lst (xa_cons xe_int (xa_cons xe_int (xa_cons (xe_pow xe_int xe_int) xa_nil))))).xe (xe_callG (pv 1) (okd__law_draw T) (hr.mono (by decide)) (by rfl) T.g__law_draw T.f__law_draw.kp T.b__law_draw (xa_cons xe_int xa_nil))) (xa_cons (xe_ix ((xl_lst (xa_cons xe_int (xa_cons (xe_sub xe_int xe_int) xa_nil)))).xe (xe_callG (pv 1) (okd__law_draw T) (hr.mono (by decide)) (by rfl) T.g__law_draw T.f__law_draw.kp T.b__law_draw (xa_cons xe_int xa_nil))) xa_nil)) (by rfl)) (xss_cons (xs_set (i := 16) sc_law.nd rfl (.inl rfl) (xe_mul (xe_callG (pv 1) (okd__law_draw T) (hr.mono (by decide)) (by rfl) T.g__law_draw T.f__law_draw.kp T.b__law_draw (xa_cons (xe_var (pv 14)) xa_nil)) (xe_var (pv 15)))) (xss_cons (xs_set (i := 17) sc_law.nd rfl (.inl rfl) (xe_call (ok__law_value T ZX) (hr.mono (by decide)) (by rfl) T.g__law_value T.f__law_value.kp T.b__law_value (xa_cons (xe_var (pv 3)) (xa_cons (xe_var (pv 16)) xa_nil)))) (xss_cons (xs_set (i := 18) sc_law.nd rfl (.inl rfl) (xe_ix ((xl_lst (xa_cons (xe_fdiv (xe_var (pv 17)) (xe_var (pv 4))) (xa_cons xe_str xa_nil)))).xe (xe_callTy (fun _ => call_int1) snd_int1 (by rfl) T.n_int Eb.bb_int (xa_cons (xe_cmp (ho_ne hr.units) snd_ne (xe_mod (xe_callTy (fun _ => call_int1) snd_int1 (by rfl) T.n_int Eb.bb_int (xa_cons (xe_var (pv 17)) xa_nil)) (xe_var (pv 4))) xe_int (nomark _)) xa_nil)))) (xss_one (xs_if (xt_cmp (ho_ne hr.units) snd_ne (xe_callB (hc_repr hG hr.units) snd_repr (by rfl) T.n_repr Eb.bb_repr (xa_cons (xe_call (ok__law_at T ZX) (hr.mono (by decide)) (by rfl) T.g__law_at T.f__law_at.kp T.b__law_at (xa_cons (xe_var (pv 6)) (xa_cons (xe_var (pv 16)) xa_nil))) xa_nil)) (xe_callB (hc_repr hG hr.units) snd_repr (by rfl) T.n_repr Eb.bb_repr (xa_cons (xe_var (pv 18)) xa_nil)) (nomark _)) (xss_one (xs_ret xe_bl)) xss_nil))))))) (xss_cons (xs_set (i := 19) sc_law.nd rfl (.inl rfl) (xe_ix ((xl_lst (xa_cons xe_non (xa_cons xe_bl (xa_cons xe_str (xa_cons (xe_tup (xa_cons xe_int xa_nil)) (xa_cons ((xl_lst (xa_cons xe_int xa_nil))).xe (xa_cons (xe_var (pv 6)) (xa_cons (xe_tup xa_nil) xa_nil))))))))).xe (xe_callG (pv 1) (okd__law_draw T) (hr.mono (by decide)) (by rfl) T.g__law_draw T.f__law_draw.kp T.b__law_draw (xa_cons xe_int xa_nil)))) (xss_cons (xs_par (i := 20) (j := 21) (by rfl) sc_law.nd rfl rfl (by decide) rfl rfl (xa_cons (xe_callG (pv 1) (okd__law_draw T) (hr.mono (by decide)) (by rfl) T.g__law_draw T.f__law_draw.kp T.b__law_draw (xa_cons (xe_add (xe_callB hc_len snd_len (by rfl) T.n_len Eb.bb_len (xa_cons (xe_slice (xe_var (pv 3)) xo_none (xo_some xe_int)) xa_nil)) xe_int) xa_nil)) (xa_cons (xe_slice (xe_var (pv 3)) xo_none (xo_some xe_int)) xa_nil)) (by rfl)) (xss_cons (xs_par (i := 22) (j := 23) (by rfl) sc_law.nd rfl rfl (by decide) rfl rfl (xa_cons (xe_add (xe_add (xe_slice (xe_var (pv 21)) xo_none (xo_some (xe_var (pv 20)))) ((xl_lst (xa_cons (xe_var (pv 19)) xa_nil))).xe) (xe_slice (xe_var (pv 21)) (xo_some (xe_var (pv 20))) xo_none)) (xa_cons (xe_ix ((xl_lst (xa_cons (xe_var (pv 4)) (xa_cons xe_int (xa_cons xe_non xa_nil))))).xe (xe_callG (pv 1) (okd__law_draw T) (hr.mono (by decide)) (by rfl) T.g__law_draw T.f__law_draw.kp T.b__law_draw (xa_cons xe_int xa_nil))) xa_nil)) (by rfl)) (xss_cons (xs_if (xt_cmp (ho_ne hr.units) snd_ne (xe_call (ok__law_refused T ZX) (hr.mono (by decide)) (by rfl) T.g__law_refused T.f__law_refused.kp T.b__law_refused (xa_cons (xe_var (pv 22)) (xa_cons (xe_var (pv 23)) xa_nil))) xe_str (nomark _)) (xss_one (xs_ret xe_bl)) xss_nil) (xss_cons (xs_set (i := 24) sc_law.nd rfl (.inl rfl) (xe_ix ((xl_lst (xa_cons xe_int (xa_cons (xe_sub xe_int (xe_var (pv 4))) (xa_cons xe_non (xa_cons xe_bl (xa_cons xe_str (xa_cons ((xl_lst (xa_cons xe_int xa_nil))).xe xa_nil)))))))).xe (xe_callG (pv 1) (okd__law_draw T) (hr.mono (by decide)) (by rfl) T.g__law_draw T.f__law_draw.kp T.b__law_draw (xa_cons xe_int xa_nil)))) (xss_one (xs_if (XW.xt (xw_or (xt_cmp (ho_ne hr.units) snd_ne (xe_call (ok__law_refused T ZX) (hr.mono (by decide)) (by rfl) T.g__law_refused T.f__law_refused.kp T.b__law_refused (xa_cons (xe_var (pv 3)) (xa_cons (xe_var (pv 24)) xa_nil))) xe_str (nomark _)) (xw_or1 (xt_cmp (fun _ => op_notN) snd_notN (xe_call (ok__law_refused T ZX) (hr.mono (by decide)) (by rfl) T.g__law_refused T.f__law_refused.kp T.b__law_refused (xa_cons (xe_var (pv 3)) (xa_cons (xe_var (pv 4)) xa_nil))) xe_non (nomark _))))) (xss_one (xs_ret xe_bl)) xss_nil)))))))))))))))))))) (xss_one (xs_ret (xe_andT (xe_cmp (ho_eq hr.units) snd_eq (xe_prop (cc := 3) (pa := 0) (xe_mkK0 (od := .int 1) (fun _ => rfl) T.mk_Term (calmK (okk_Term_init T ZX)) (hr.mono (by decide)) (by rfl) T.gc_Term) T.cl_Term T.pr_Term_degree (ok_Term_degree T ZX) (hr.mono (by decide)) T.b_Term_degree) (xe_sub xe_int xe_int) (nomark _)) (xe_andT (xe_cmp (ho_eq hr.units) snd_eq (xe_fld (fo_Term_over T) (xe_mkK0 (od := .int 1) (fun _ => rfl) T.mk_Term (calmK (okk_Term_init T ZX)) (hr.mono (by decide)) (by rfl) T.gc_Term)) xe_int (nomark _)) (xe_one (xe_cmp (fun _ => op_cmp2 (fun _ _ => rfl) T.me_Term_eq.at_ T.me_Term_eq.fn T.nf_Term (raw0 (ok_Term_eq T ZX) T.b_Term_eq) (hr.mono (by decide)) pass0) (snd_op2 (E := E0)) (xe_mkKk T.mk_Term (calmK (okk_Term_init T ZX)) (hr.mono (by decide)) (by rfl) T.gc_Term (xa_cons xe_int (xa_cons xe_int xa_nil)) xe_int) (xe_mkK0 (od := .int 1) (fun _ => rfl) T.mk_Term (calmK (okk_Term_init T ZX)) (hr.mono (by decide)) (by rfl) T.gc_Term) (nomark _))))))))) rfl hs hn (by decide) (by decide) rfl (by decide) hw q

end
end K24

namespace K24
open PySem PySem.Spec PyProof.Rows L2 Eb
theorem all_mk {l : PySem.W.OpenLaw} {w : World} {K : PySem.W.Frag} {h : Heap} {mg : Str → Option Value} {fa : Addr} (X : K.In h) (G : h.Ns mainGlobals mg) (hfa : mg "law" = some (.ref fa))
    {f0 : Addr} {od0 an0 : Option Addr} {sl0 : Array (Option Value)} {oc0 kV0 dc0 pm0 cd0 ct0 : Value}
    {f1 : Addr} {od1 an1 : Option Addr} {sl1 : Array (Option Value)} {oc1 kV1 dc1 pm1 cd1 ct1 : Value}
    {f2 : Addr} {od2 an2 : Option Addr} {sl2 : Array (Option Value)} {oc2 kV2 dc2 pm2 cd2 ct2 : Value}
    {f3 : Addr} {od3 an3 : Option Addr} {sl3 : Array (Option Value)} {oc3 kV3 dc3 pm3 cd3 ct3 : Value}
    {f4 : Addr} {od4 an4 : Option Addr} {sl4 : Array (Option Value)} {oc4 kV4 dc4 pm4 cd4 ct4 : Value}
    {f5 : Addr} {od5 an5 : Option Addr} {sl5 : Array (Option Value)} {oc5 kV5 dc5 pm5 cd5 ct5 : Value}
    {f6 : Addr} {od6 an6 : Option Addr} {sl6 : Array (Option Value)} {oc6 kV6 dc6 pm6 cd6 ct6 : Value}
    {f7 : Addr} {od7 an7 : Option Addr} {sl7 : Array (Option Value)} {oc7 kV7 dc7 pm7 cd7 ct7 : Value}
    {f8 : Addr} {od8 an8 : Option Addr} {sl8 : Array (Option Value)} {oc8 kV8 dc8 pm8 cd8 ct8 : Value}
    {f9 : Addr} {od9 an9 : Option Addr} {sl9 : Array (Option Value)} {oc9 kV9 dc9 pm9 cd9 ct9 : Value}
    {f10 : Addr} {od10 an10 : Option Addr} {sl10 : Array (Option Value)} {oc10 dc10 pm10 cd10 ct10 : Value} {Dk10 : Addr} {tkk10 : Tok}
    {f11 : Addr} {od11 an11 : Option Addr} {sl11 : Array (Option Value)} {oc11 kV11 dc11 pm11 cd11 ct11 : Value}
    {f12 : Addr} {od12 an12 : Option Addr} {sl12 : Array (Option Value)} {oc12 kV12 dc12 pm12 cd12 ct12 : Value}
    {f13 : Addr} {od13 an13 : Option Addr} {sl13 : Array (Option Value)} {oc13 kV13 dc13 pm13 cd13 ct13 : Value}
    {f14 : Addr} {od14 an14 : Option Addr} {sl14 : Array (Option Value)} {oc14 kV14 dc14 pm14 cd14 ct14 : Value}
    {f15 : Addr} {od15 an15 : Option Addr} {sl15 : Array (Option Value)} {oc15 kV15 dc15 pm15 cd15 ct15 : Value}
    {f16 : Addr} {od16 an16 : Option Addr} {sl16 : Array (Option Value)} {oc16 kV16 dc16 pm16 cd16 ct16 : Value}
    {f17 : Addr} {od17 an17 : Option Addr} {sl17 : Array (Option Value)} {oc17 kV17 dc17 pm17 cd17 ct17 : Value}
    {f18 : Addr} {od18 an18 : Option Addr} {sl18 : Array (Option Value)} {oc18 kV18 dc18 pm18 cd18 ct18 : Value}
    {f19 : Addr} {od19 an19 : Option Addr} {sl19 : Array (Option Value)} {oc19 kV19 dc19 pm19 cd19 ct19 : Value}
    {f20 : Addr} {od20 an20 : Option Addr} {sl20 : Array (Option Value)} {oc20 kV20 dc20 pm20 cd20 ct20 : Value}
    {f21 : Addr} {od21 an21 : Option Addr} {sl21 : Array (Option Value)} {oc21 kV21 dc21 pm21 cd21 ct21 : Value}
    {f22 : Addr} {od22 an22 : Option Addr} {sl22 : Array (Option Value)} {oc22 kV22 dc22 pm22 cd22 ct22 : Value}
    {f23 : Addr} {od23 an23 : Option Addr} {sl23 : Array (Option Value)} {oc23 kV23 dc23 pm23 cd23 ct23 : Value}
    {C0 : Addr}
    {C1 : Addr}
    {C2 : Addr}
    {C3 : Addr}
    {I1 : Addr} {nm1 q1 : Str} {N1 : Addr} {bs1 bm1 : List Value} {sn1 : List Str} {su1 : List Value} {ab1 : Bool} {col1 : Option Bool} {dd1 : Option Addr} {m01 m11 m21 m31 m51 : Option Value} {xoc1 : Value} {xod1 : Option Addr} {xdc1 xpm1 : Value} {xan1 : Option Addr} {cda1 : Addr} {xct1 : Value} {cc1 : Addr} {xsl1 : Array (Option Value)} {ccl1 : Value} {cdd1 : Option Addr} {vs1 : Array Value} {ccs1 : Array (Option Value)} {file1 : Str} {tf1 : Tok} {cl1 : Value} {cld1 : Option Addr} {csl1 : Array (Option Value)}
    {pp46 : Addr} {pr46 : List Value}
    (a0 : PySem.W.nsIn K mainGlobals "_wall" = some (some (.ref f0)))
    (l0 : K.lookup f0 = some ⟨oc0, od0, .func (PySem.W.fnOf "_wall" "_wall" (defArgs s__wall) (defBody s__wall) (defScope s__wall) .none kV0 dc0 pm0 an0 cd0 ct0), sl0⟩)
    (c0 : PySem.W.codeIn K cd0 "_wall" = true)
    (k0 : PySem.W.keepIn K (.ref f0) = true)
    (a1 : PySem.W.nsIn K mainGlobals "is_integer" = some (some (.ref f1)))
    (l1 : K.lookup f1 = some ⟨oc1, od1, .func (PySem.W.fnOf "is_integer" "is_integer" (defArgs s_is_integer) (defBody s_is_integer) (defScope s_is_integer) .none kV1 dc1 pm1 an1 cd1 ct1), sl1⟩)
    (c1 : PySem.W.codeIn K cd1 "is_integer" = true)
    (k1 : PySem.W.keepIn K (.ref f1) = true)
    (a2 : PySem.W.nsIn K mainGlobals "common" = some (some (.ref f2)))
    (l2 : K.lookup f2 = some ⟨oc2, od2, .func (PySem.W.fnOf "common" "common" (defArgs s_common) (defBody s_common) (defScope s_common) .none kV2 dc2 pm2 an2 cd2 ct2), sl2⟩)
    (c2 : PySem.W.codeIn K cd2 "common" = true)
    (k2 : PySem.W.keepIn K (.ref f2) = true)
    (a3 : PySem.W.nsIn K mainGlobals "least_multiple" = some (some (.ref f3)))
    (l3 : K.lookup f3 = some ⟨oc3, od3, .func (PySem.W.fnOf "least_multiple" "least_multiple" (defArgs s_least_multiple) (defBody s_least_multiple) (defScope s_least_multiple) .none kV3 dc3 pm3 an3 cd3 ct3), sl3⟩)
    (c3 : PySem.W.codeIn K cd3 "least_multiple" = true)
    (k3 : PySem.W.keepIn K (.ref f3) = true)
    (a4 : PySem.W.nsIn K mainGlobals "term_of" = some (some (.ref f4)))
    (l4 : K.lookup f4 = some ⟨oc4, od4, .func (PySem.W.fnOf "term_of" "term_of" (defArgs s_term_of) (defBody s_term_of) (defScope s_term_of) .none kV4 dc4 pm4 an4 cd4 ct4), sl4⟩)
    (c4 : PySem.W.codeIn K cd4 "term_of" = true)
    (k4 : PySem.W.keepIn K (.ref f4) = true)
    (a5 : PySem.W.nsIn K mainGlobals "numerator_at" = some (some (.ref f5)))
    (l5 : K.lookup f5 = some ⟨oc5, od5, .func (PySem.W.fnOf "numerator_at" "numerator_at" (defArgs s_numerator_at) (defBody s_numerator_at) (defScope s_numerator_at) .none kV5 dc5 pm5 an5 cd5 ct5), sl5⟩)
    (c5 : PySem.W.codeIn K cd5 "numerator_at" = true)
    (k5 : PySem.W.keepIn K (.ref f5) = true)
    (a6 : PySem.W.nsIn K mainGlobals "product_of" = some (some (.ref f6)))
    (l6 : K.lookup f6 = some ⟨oc6, od6, .func (PySem.W.fnOf "product_of" "product_of" (defArgs s_product_of) (defBody s_product_of) (defScope s_product_of) .none kV6 dc6 pm6 an6 cd6 ct6), sl6⟩)
    (c6 : PySem.W.codeIn K cd6 "product_of" = true)
    (k6 : PySem.W.keepIn K (.ref f6) = true)
    (a7 : PySem.W.nsIn K mainGlobals "power_of" = some (some (.ref f7)))
    (l7 : K.lookup f7 = some ⟨oc7, od7, .func (PySem.W.fnOf "power_of" "power_of" (defArgs s_power_of) (defBody s_power_of) (defScope s_power_of) .none kV7 dc7 pm7 an7 cd7 ct7), sl7⟩)
    (c7 : PySem.W.codeIn K cd7 "power_of" = true)
    (k7 : PySem.W.keepIn K (.ref f7) = true)
    (a8 : PySem.W.nsIn K mainGlobals "part_text" = some (some (.ref f8)))
    (l8 : K.lookup f8 = some ⟨oc8, od8, .func (PySem.W.fnOf "part_text" "part_text" (defArgs s_part_text) (defBody s_part_text) (defScope s_part_text) .none kV8 dc8 pm8 an8 cd8 ct8), sl8⟩)
    (c8 : PySem.W.codeIn K cd8 "part_text" = true)
    (k8 : PySem.W.keepIn K (.ref f8) = true)
    (a9 : PySem.W.nsIn K mainGlobals "term_text" = some (some (.ref f9)))
    (l9 : K.lookup f9 = some ⟨oc9, od9, .func (PySem.W.fnOf "term_text" "term_text" (defArgs s_term_text) (defBody s_term_text) (defScope s_term_text) .none kV9 dc9 pm9 an9 cd9 ct9), sl9⟩)
    (c9 : PySem.W.codeIn K cd9 "term_text" = true)
    (k9 : PySem.W.keepIn K (.ref f9) = true)
    (l10 : K.lookup f10 = some ⟨oc10, od10, .func (PySem.W.fnOf "__init__" "Term.__init__" (defArgs s_Term_init) (defBody s_Term_init) (defScope s_Term_init) .none (.ref Dk10) dc10 pm10 an10 cd10 ct10), sl10⟩)
    (c10 : PySem.W.codeIn K cd10 "Term.__init__" = true)
    (k10 : PySem.W.nsIn K Dk10 "over" = some (some (.int 1 tkk10)))
    (l11 : K.lookup f11 = some ⟨oc11, od11, .func (PySem.W.fnOf "degree" "Term.degree" (defArgs s_Term_degree) (defBody s_Term_degree) (defScope s_Term_degree) .none kV11 dc11 pm11 an11 cd11 ct11), sl11⟩)
    (c11 : PySem.W.codeIn K cd11 "Term.degree" = true)
    (k11 : PySem.W.keepIn K (.ref f11) = true)
    (l12 : K.lookup f12 = some ⟨oc12, od12, .func (PySem.W.fnOf "__call__" "Term.__call__" (defArgs s_Term_call) (defBody s_Term_call) (defScope s_Term_call) .none kV12 dc12 pm12 an12 cd12 ct12), sl12⟩)
    (c12 : PySem.W.codeIn K cd12 "Term.__call__" = true)
    (k12 : PySem.W.keepIn K (.ref f12) = true)
    (l13 : K.lookup f13 = some ⟨oc13, od13, .func (PySem.W.fnOf "__eq__" "Term.__eq__" (defArgs s_Term_eq) (defBody s_Term_eq) (defScope s_Term_eq) .none kV13 dc13 pm13 an13 cd13 ct13), sl13⟩)
    (c13 : PySem.W.codeIn K cd13 "Term.__eq__" = true)
    (k13 : PySem.W.keepIn K (.ref f13) = true)
    (a14 : PySem.W.nsIn K mainGlobals "_law_deal" = some (some (.ref f14)))
    (l14 : K.lookup f14 = some ⟨oc14, od14, .func (PySem.W.fnOf "_law_deal" "_law_deal" (defArgs s__law_deal) (defBody s__law_deal) (defScope s__law_deal) .none kV14 dc14 pm14 an14 cd14 ct14), sl14⟩)
    (c14 : PySem.W.codeIn K cd14 "_law_deal" = true)
    (k14 : PySem.W.keepIn K (.ref f14) = true)
    (a15 : PySem.W.nsIn K mainGlobals "_law_draw" = some (some (.ref f15)))
    (l15 : K.lookup f15 = some ⟨oc15, od15, .func (PySem.W.fnOf "_law_draw" "_law_draw" (defArgs s__law_draw) (defBody s__law_draw) (defScope s__law_draw) .none kV15 dc15 pm15 an15 cd15 ct15), sl15⟩)
    (c15 : PySem.W.codeIn K cd15 "_law_draw" = true)
    (k15 : PySem.W.keepIn K (.ref f15) = true)
    (a16 : PySem.W.nsIn K mainGlobals "_law_gcd" = some (some (.ref f16)))
    (l16 : K.lookup f16 = some ⟨oc16, od16, .func (PySem.W.fnOf "_law_gcd" "_law_gcd" (defArgs s__law_gcd) (defBody s__law_gcd) (defScope s__law_gcd) .none kV16 dc16 pm16 an16 cd16 ct16), sl16⟩)
    (c16 : PySem.W.codeIn K cd16 "_law_gcd" = true)
    (k16 : PySem.W.keepIn K (.ref f16) = true)
    (a17 : PySem.W.nsIn K mainGlobals "_law_lowest" = some (some (.ref f17)))
    (l17 : K.lookup f17 = some ⟨oc17, od17, .func (PySem.W.fnOf "_law_lowest" "_law_lowest" (defArgs s__law_lowest) (defBody s__law_lowest) (defScope s__law_lowest) .none kV17 dc17 pm17 an17 cd17 ct17), sl17⟩)
    (c17 : PySem.W.codeIn K cd17 "_law_lowest" = true)
    (k17 : PySem.W.keepIn K (.ref f17) = true)
    (a18 : PySem.W.nsIn K mainGlobals "_law_value" = some (some (.ref f18)))
    (l18 : K.lookup f18 = some ⟨oc18, od18, .func (PySem.W.fnOf "_law_value" "_law_value" (defArgs s__law_value) (defBody s__law_value) (defScope s__law_value) .none kV18 dc18 pm18 an18 cd18 ct18), sl18⟩)
    (c18 : PySem.W.codeIn K cd18 "_law_value" = true)
    (k18 : PySem.W.keepIn K (.ref f18) = true)
    (a19 : PySem.W.nsIn K mainGlobals "_law_made" = some (some (.ref f19)))
    (l19 : K.lookup f19 = some ⟨oc19, od19, .func (PySem.W.fnOf "_law_made" "_law_made" (defArgs s__law_made) (defBody s__law_made) (defScope s__law_made) .none kV19 dc19 pm19 an19 cd19 ct19), sl19⟩)
    (c19 : PySem.W.codeIn K cd19 "_law_made" = true)
    (k19 : PySem.W.keepIn K (.ref f19) = true)
    (a20 : PySem.W.nsIn K mainGlobals "_law_row" = some (some (.ref f20)))
    (l20 : K.lookup f20 = some ⟨oc20, od20, .func (PySem.W.fnOf "_law_row" "_law_row" (defArgs s__law_row) (defBody s__law_row) (defScope s__law_row) .none kV20 dc20 pm20 an20 cd20 ct20), sl20⟩)
    (c20 : PySem.W.codeIn K cd20 "_law_row" = true)
    (k20 : PySem.W.keepIn K (.ref f20) = true)
    (a21 : PySem.W.nsIn K mainGlobals "_law_at" = some (some (.ref f21)))
    (l21 : K.lookup f21 = some ⟨oc21, od21, .func (PySem.W.fnOf "_law_at" "_law_at" (defArgs s__law_at) (defBody s__law_at) (defScope s__law_at) .none kV21 dc21 pm21 an21 cd21 ct21), sl21⟩)
    (c21 : PySem.W.codeIn K cd21 "_law_at" = true)
    (k21 : PySem.W.keepIn K (.ref f21) = true)
    (a22 : PySem.W.nsIn K mainGlobals "_law_refused" = some (some (.ref f22)))
    (l22 : K.lookup f22 = some ⟨oc22, od22, .func (PySem.W.fnOf "_law_refused" "_law_refused" (defArgs s__law_refused) (defBody s__law_refused) (defScope s__law_refused) .none kV22 dc22 pm22 an22 cd22 ct22), sl22⟩)
    (c22 : PySem.W.codeIn K cd22 "_law_refused" = true)
    (k22 : PySem.W.keepIn K (.ref f22) = true)
    (a23 : PySem.W.nsIn K mainGlobals "law" = some (some (.ref f23)))
    (l23 : K.lookup f23 = some ⟨oc23, od23, .func (PySem.W.fnOf "law" "law" (defArgs s_law) (defBody s_law) (defScope s_law) .none kV23 dc23 pm23 an23 cd23 ct23), sl23⟩)
    (c23 : PySem.W.codeIn K cd23 "law" = true)
    (k23 : PySem.W.keepIn K (.ref f23) = true)
    (z0 : PySem.W.nsIn K mainGlobals "isinstance" = some none)
    (z1 : PySem.W.nsIn K mainGlobals "int" = some none)
    (z2 : PySem.W.nsIn K mainGlobals "bool" = some none)
    (z3 : PySem.W.nsIn K mainGlobals "abs" = some none)
    (z4 : PySem.W.nsIn K mainGlobals "range" = some none)
    (z5 : PySem.W.nsIn K mainGlobals "len" = some none)
    (z6 : PySem.W.nsIn K mainGlobals "sum" = some none)
    (z7 : PySem.W.nsIn K mainGlobals "str" = some none)
    (z8 : PySem.W.nsIn K mainGlobals "all" = some none)
    (z9 : PySem.W.nsIn K mainGlobals "tuple" = some none)
    (z10 : PySem.W.nsIn K mainGlobals "list" = some none)
    (z11 : PySem.W.nsIn K mainGlobals "ValueError" = some none)
    (z12 : PySem.W.nsIn K mainGlobals "repr" = some none)
    (z13 : PySem.W.nsIn K mainGlobals "max" = some none)
    (gC1 : PySem.W.nsIn K mainGlobals "InvalidTerm" = some (some (.ref C1)))
    (gC2 : PySem.W.nsIn K mainGlobals "NotWhole" = some (some (.ref C2)))
    (gC0 : PySem.W.nsIn K mainGlobals "FigureError" = some (some (.ref C0)))
    (ga1 : PySem.W.findIn K (.ref C1) "__getattribute__" = some (some (.builtin "BaseException.__getattribute__")))
    (gg1 : PySem.W.findIn K (.ref C1) "__getattr__" = some none)
    (eC1 : PySem.W.subIn K (.ref C1) (.type "BaseException") = some true)
    (hC1 : PySem.W.hasDictIn K C1 = true)
    (kC1 : PySem.W.keepIn K (.ref C1) = true)
    (tC1 : PySem.W.typeIn K (.ref C1) = some (.type "type"))
    (ca1 : PySem.W.findIn K (.ref C1) "__class__" = some (some (.builtin "object.__class__")))
    (cn1 : PySem.W.specialIn K (.builtin "object.__class__") "__get__" = some (some (.builtin "getset_descriptor.__get__")))
    (ctk1 : PySem.W.takesIn K (.builtin "object.__class__") = some true)
    (cm1 : PySem.W.mroIn K C1 (.type "object") = some true)
    (t1_1 : PySem.W.kitOne K (.ref C1) (.ref C1) = some true)
    (s1_1 : PySem.W.subIn K (.ref C1) (.ref C1) = some true)
    (t1_2 : PySem.W.kitOne K (.ref C1) (.ref C2) = some false)
    (s1_2 : PySem.W.subIn K (.ref C1) (.ref C2) = some false)
    (t1_0 : PySem.W.kitOne K (.ref C1) (.ref C0) = some true)
    (tt1_ValueError : PySem.W.kitOne K (.ref C1) (.type "ValueError") = some true)
    (ga2 : PySem.W.findIn K (.ref C2) "__getattribute__" = some (some (.builtin "BaseException.__getattribute__")))
    (gg2 : PySem.W.findIn K (.ref C2) "__getattr__" = some none)
    (eC2 : PySem.W.subIn K (.ref C2) (.type "BaseException") = some true)
    (hC2 : PySem.W.hasDictIn K C2 = true)
    (kC2 : PySem.W.keepIn K (.ref C2) = true)
    (tC2 : PySem.W.typeIn K (.ref C2) = some (.type "type"))
    (ca2 : PySem.W.findIn K (.ref C2) "__class__" = some (some (.builtin "object.__class__")))
    (cn2 : PySem.W.specialIn K (.builtin "object.__class__") "__get__" = some (some (.builtin "getset_descriptor.__get__")))
    (ctk2 : PySem.W.takesIn K (.builtin "object.__class__") = some true)
    (cm2 : PySem.W.mroIn K C2 (.type "object") = some true)
    (t2_1 : PySem.W.kitOne K (.ref C2) (.ref C1) = some false)
    (s2_1 : PySem.W.subIn K (.ref C2) (.ref C1) = some false)
    (t2_2 : PySem.W.kitOne K (.ref C2) (.ref C2) = some true)
    (s2_2 : PySem.W.subIn K (.ref C2) (.ref C2) = some true)
    (t2_0 : PySem.W.kitOne K (.ref C2) (.ref C0) = some true)
    (tt2_ValueError : PySem.W.kitOne K (.ref C2) (.type "ValueError") = some true)
    (xL1 : K.lookup C1 = some (excClassObj nm1 q1 C1 N1 bs1 bm1 true sn1 su1 ab1 col1 dd1 m01 m11 m21 m31 m51 "ValueError.__new__"))
    (xB1 : PySem.SupX.refsT PySem.SupX.vE.bm bm1 = true)
    (sa1 : PySem.W.findIn K (.ref C1) "__setattr__" = some (some (.builtin "object.__setattr__")))
    (nb1 : PySem.W.findIn K (.ref C1) "word" = some none)
    (iC1 : PySem.W.findIn K (.ref C1) "__init__" = some (some (.ref I1)))
    (ti1 : PySem.W.typeIn K (.ref I1) = some (.type "function"))
    (vC1 : PySem.W.subIn K (.ref C1) (.type "ValueError") = some true)
    (mC1 : PySem.W.mroIn K C1 (.ref C1) = some true)
    (op1 : PySem.W.nsIn K cStatics "thirdparty.any" = some none)
    (up1 : PySem.W.ks_superIn K C1 C1 "__init__" = some (some (.builtin "ValueError.__init__")))
    (zs1 : PySem.W.nsIn K mainGlobals "super" = some none)
    (tp1 : (l.prog.main.scope.names.lookup ("super" : Str)).isSome = false)
    (xl1 : K.lookup I1 = some ⟨xoc1, xod1, .func (PySem.W.ksFn "__init__" "InvalidTerm.__init__" (defArgs s_InvalidTerm_init) (defBody s_InvalidTerm_init) (defScope s_InvalidTerm_init) .none .none xdc1 xpm1 xan1 (.ref cda1) xct1 cc1), xsl1⟩)
    (xc1 : PySem.W.codeIn K (.ref cda1) "InvalidTerm.__init__" = true)
    (xd1 : K.lookup cda1 = some ⟨ccl1, cdd1, .fields vs1, ccs1⟩)
    (xv1 : vs1[2]? = some (.str file1 tf1))
    (xf1 : ((l.prog.main.file : Str) == file1) = true)
    (xk1 : K.lookup cc1 = some ⟨cl1, cld1, .cell (some (.ref C1)), csl1⟩)
    (xq2 : PySem.W.excIn K C2 [.type "ValueError", .type "Exception", .type "BaseException", .type "object"] "ValueError.__new__" = true)
    (o0 : PySem.W.nsIn K mainGlobals "Term" = some (some (.ref C3)))
    (o1 : PySem.W.plainGet K C3 Str.empty = true)
    (o2 : PySem.W.hasDictIn K C3 = true)
    (o3 : PySem.W.plainOver K C3 = true)
    (o4 : PySem.W.findIn K (.ref C3) "__setattr__" = some (some (.builtin "object.__setattr__")))
    (o5 : PySem.W.makesIn K C3 = true)
    (o6 : PySem.W.findIn K (.ref C3) "__init__" = some (some (.ref f10)))
    (o7 : PySem.W.isFn K (.ref f10) = true)
    (o8 : PySem.W.keepIn K (.ref C3) = true)
    (o9 : PySem.W.selfFirst K C3 = true)
    (o10 : PySem.W.notFirst K C3 (.ref C3) = true)
    (o11 : PySem.W.notFirst K C3 (.type "NoneType") = true)
    (o12 : PySem.W.notFirst K C3 (.type "bool") = true)
    (o13 : PySem.W.notFirst K C3 (.type "int") = true)
    (o14 : PySem.W.notFirst K C3 (.type "str") = true)
    (o15 : PySem.W.notFirst K C3 (.type "list") = true)
    (o16 : PySem.W.notFirst K C3 (.type "tuple") = true)
    (o17 : PySem.W.notFirst K C3 (.ref C3) = true)
    (o18 : PySem.W.subIn K (.type "int") (.ref C3) = some false)
    (o19 : PySem.W.subIn K (.ref C3) (.type "int") = some false)
    (o20 : PySem.W.kitOne K (.type "int") (.ref C3) = some false)
    (o21 : PySem.W.kitOne K (.ref C3) (.ref C3) = some true)
    (o22 : PySem.W.findIn K (.ref C3) "__class__" = some (some (.builtin "object.__class__")))
    (o23 : PySem.W.specialIn K (.builtin "object.__class__") "__get__" = some (some (.builtin "getset_descriptor.__get__")))
    (o24 : PySem.W.takesIn K (.builtin "object.__class__") = some true)
    (o25 : PySem.W.mroIn K C3 (.type "object") = some true)
    (o26 : PySem.W.kitOne K (.ref C3) (.type "int") = some false)
    (o27 : PySem.W.kitOne K (.ref C3) (.type "bool") = some false)
    (o28 : PySem.W.kitOne K (.ref C3) (.type "str") = some false)
    (o29 : PySem.W.kitOne K (.ref C3) (.type "list") = some false)
    (o30 : PySem.W.kitOne K (.ref C3) (.type "tuple") = some false)
    (o31 : PySem.W.kitOne K (.type "NoneType") (.ref C3) = some false)
    (o32 : PySem.W.kitOne K (.type "int") (.ref C3) = some false)
    (o33 : PySem.W.kitOne K (.type "bool") (.ref C3) = some false)
    (o34 : PySem.W.kitOne K (.type "str") (.ref C3) = some false)
    (o35 : PySem.W.kitOne K (.type "list") (.ref C3) = some false)
    (o36 : PySem.W.kitOne K (.type "tuple") (.ref C3) = some false)
    (o37 : PySem.W.kitOne K (.ref C3) (.ref C3) = some true)
    (o38 : PySem.W.findIn K (.ref C3) "coefficients" = some none)
    (o39 : PySem.W.findIn K (.ref C3) "over" = some none)
    (o40 : PySem.W.findIn K (.ref C3) "__eq__" = some (some (.ref f13)))
    (o41 : PySem.W.isFn K (.ref f13) = true)
    (o42 : PySem.W.keepIn K (.ref f13) = true)
    (o43 : PySem.W.findIn K (.ref C3) "__call__" = some (some (.ref f12)))
    (o44 : PySem.W.isFn K (.ref f12) = true)
    (o45 : PySem.W.keepIn K (.ref f12) = true)
    (o46 : PySem.W.findIn K (.ref C3) "degree" = some (some (.ref pp46)))
    (o47 : PySem.W.specialIn K (.ref pp46) "__get__" = some (some (.builtin "property.__get__")))
    (o48 : PySem.W.takesIn K (.ref pp46) = some true)
    (o49 : PySem.W.recIn K pp46 "property" = some (.ref f11 :: pr46)) :
    ∃ fd : FuncData, (∀ (s : Shared) (v : Value), BindsTo s fd ⟨[v], []⟩ [("_law_script", v)]) ∧ ∀ base : Heap, K.In base → base.Ns mainGlobals mg → Eb.FnG l.prog w K mg base CX0 6 fa fd ["_law_script"] (sp_law K) := by
  obtain rfl : f23 = fa := by
    have e := hfa.symm.trans (PySem.W.mg_of X G a23)
    cases e
    rfl
  have F0 := fun_mk (st := s__wall) l0 c0 k0
  have B0 := F0.binds (ps := ["k"]) fun _ _ _ _ _ _ us hl => match us, hl with | [_], _ => rfl
  have F1 := fun_mk (st := s_is_integer) l1 c1 k1
  have B1 := F1.binds (ps := ["value"]) fun _ _ _ _ _ _ us hl => match us, hl with | [_], _ => rfl
  have F2 := fun_mk (st := s_common) l2 c2 k2
  have B2 := F2.binds (ps := ["one", "other"]) fun _ _ _ _ _ _ us hl => match us, hl with | [_, _], _ => rfl
  have F3 := fun_mk (st := s_least_multiple) l3 c3 k3
  have B3 := F3.binds (ps := ["one", "other"]) fun _ _ _ _ _ _ us hl => match us, hl with | [_, _], _ => rfl
  have F4 := fun_mk (st := s_term_of) l4 c4 k4
  have B4 := F4.binds (ps := ["value"]) fun _ _ _ _ _ _ us hl => match us, hl with | [_], _ => rfl
  have F5 := fun_mk (st := s_numerator_at) l5 c5 k5
  have B5 := F5.binds (ps := ["term", "base"]) fun _ _ _ _ _ _ us hl => match us, hl with | [_, _], _ => rfl
  have F6 := fun_mk (st := s_product_of) l6 c6 k6
  have B6 := F6.binds (ps := ["ours", "theirs"]) fun _ _ _ _ _ _ us hl => match us, hl with | [_, _], _ => rfl
  have F7 := fun_mk (st := s_power_of) l7 c7 k7
  have B7 := F7.binds (ps := ["thing", "k"]) fun _ _ _ _ _ _ us hl => match us, hl with | [_, _], _ => rfl
  have F8 := fun_mk (st := s_part_text) l8 c8 k8
  have B8 := F8.binds (ps := ["value", "power"]) fun _ _ _ _ _ _ us hl => match us, hl with | [_, _], _ => rfl
  have F9 := fun_mk (st := s_term_text) l9 c9 k9
  have B9 := F9.binds (ps := ["coefficients", "over"]) fun _ _ _ _ _ _ us hl => match us, hl with | [_, _], _ => rfl
  have F11 := fun_mk (st := s_Term_degree) l11 c11 k11
  have B11 := F11.binds (ps := ["self"]) fun _ _ _ _ _ _ us hl => match us, hl with | [_], _ => rfl
  have F12 := fun_mk (st := s_Term_call) l12 c12 k12
  have B12 := F12.binds (ps := ["self", "base"]) fun _ _ _ _ _ _ us hl => match us, hl with | [_, _], _ => rfl
  have F13 := fun_mk (st := s_Term_eq) l13 c13 k13
  have B13 := F13.binds (ps := ["self", "other"]) fun _ _ _ _ _ _ us hl => match us, hl with | [_, _], _ => rfl
  have F14 := fun_mk (st := s__law_deal) l14 c14 k14
  have B14 := F14.binds (ps := ["_law_script", "_law_base"]) fun _ _ _ _ _ _ us hl => match us, hl with | [_, _], _ => rfl
  have F15 := fun_mk (st := s__law_draw) l15 c15 k15
  have B15 := F15.binds (ps := ["_law_deal_here", "_law_amount"]) fun _ _ _ _ _ _ us hl => match us, hl with | [_, _], _ => rfl
  have F16 := fun_mk (st := s__law_gcd) l16 c16 k16
  have B16 := F16.binds (ps := ["_law_one", "_law_other"]) fun _ _ _ _ _ _ us hl => match us, hl with | [_, _], _ => rfl
  have F17 := fun_mk (st := s__law_lowest) l17 c17 k17
  have B17 := F17.binds (ps := ["_law_row_here", "_law_under"]) fun _ _ _ _ _ _ us hl => match us, hl with | [_, _], _ => rfl
  have F18 := fun_mk (st := s__law_value) l18 c18 k18
  have B18 := F18.binds (ps := ["_law_row_here", "_law_base"]) fun _ _ _ _ _ _ us hl => match us, hl with | [_, _], _ => rfl
  have F19 := fun_mk (st := s__law_made) l19 c19 k19
  have B19 := F19.binds (ps := ["_law_row_here", "_law_under"]) fun _ _ _ _ _ _ us hl => match us, hl with | [_, _], _ => rfl
  have F20 := fun_mk (st := s__law_row) l20 c20 k20
  have B20 := F20.binds (ps := ["_law_deal_here", "_law_amount", "_law_most"]) fun _ _ _ _ _ _ us hl => match us, hl with | [_, _, _], _ => rfl
  have F21 := fun_mk (st := s__law_at) l21 c21 k21
  have B21 := F21.binds (ps := ["_law_term", "_law_base"]) fun _ _ _ _ _ _ us hl => match us, hl with | [_, _], _ => rfl
  have F22 := fun_mk (st := s__law_refused) l22 c22 k22
  have B22 := F22.binds (ps := ["_law_row_here", "_law_under"]) fun _ _ _ _ _ _ us hl => match us, hl with | [_, _], _ => rfl
  have F23 := fun_mk (st := s_law) l23 c23 k23
  have B23 := F23.binds (ps := ["_law_script"]) fun _ _ _ _ _ _ us hl => match us, hl with | [_], _ => rfl
  have T : Txt K mg (fun i => match i with | 0 => f0 | 1 => f1 | 2 => f2 | 3 => f3 | 4 => f4 | 5 => f5 | 6 => f6 | 7 => f7 | 8 => f8 | 9 => f9 | 10 => f10 | 11 => f11 | 12 => f12 | 13 => f13 | 14 => f14 | 15 => f15 | 16 => f16 | 17 => f17 | 18 => f18 | 19 => f19 | 20 => f20 | 21 => f21 | 22 => f22 | 23 => f23 | _ => 0) (fun i => match i with | 0 => (PySem.W.fnOf "_wall" "_wall" (defArgs s__wall) (defBody s__wall) (defScope s__wall) .none kV0 dc0 pm0 an0 cd0 ct0) | 1 => (PySem.W.fnOf "is_integer" "is_integer" (defArgs s_is_integer) (defBody s_is_integer) (defScope s_is_integer) .none kV1 dc1 pm1 an1 cd1 ct1) | 2 => (PySem.W.fnOf "common" "common" (defArgs s_common) (defBody s_common) (defScope s_common) .none kV2 dc2 pm2 an2 cd2 ct2) | 3 => (PySem.W.fnOf "least_multiple" "least_multiple" (defArgs s_least_multiple) (defBody s_least_multiple) (defScope s_least_multiple) .none kV3 dc3 pm3 an3 cd3 ct3) | 4 => (PySem.W.fnOf "term_of" "term_of" (defArgs s_term_of) (defBody s_term_of) (defScope s_term_of) .none kV4 dc4 pm4 an4 cd4 ct4) | 5 => (PySem.W.fnOf "numerator_at" "numerator_at" (defArgs s_numerator_at) (defBody s_numerator_at) (defScope s_numerator_at) .none kV5 dc5 pm5 an5 cd5 ct5) | 6 => (PySem.W.fnOf "product_of" "product_of" (defArgs s_product_of) (defBody s_product_of) (defScope s_product_of) .none kV6 dc6 pm6 an6 cd6 ct6) | 7 => (PySem.W.fnOf "power_of" "power_of" (defArgs s_power_of) (defBody s_power_of) (defScope s_power_of) .none kV7 dc7 pm7 an7 cd7 ct7) | 8 => (PySem.W.fnOf "part_text" "part_text" (defArgs s_part_text) (defBody s_part_text) (defScope s_part_text) .none kV8 dc8 pm8 an8 cd8 ct8) | 9 => (PySem.W.fnOf "term_text" "term_text" (defArgs s_term_text) (defBody s_term_text) (defScope s_term_text) .none kV9 dc9 pm9 an9 cd9 ct9) | 10 => (PySem.W.fnOf "" "" (defArgs s_law) (defBody s_law) (defScope s_law) .none .none .none .none none .none .none) | 11 => (PySem.W.fnOf "degree" "Term.degree" (defArgs s_Term_degree) (defBody s_Term_degree) (defScope s_Term_degree) .none kV11 dc11 pm11 an11 cd11 ct11) | 12 => (PySem.W.fnOf "__call__" "Term.__call__" (defArgs s_Term_call) (defBody s_Term_call) (defScope s_Term_call) .none kV12 dc12 pm12 an12 cd12 ct12) | 13 => (PySem.W.fnOf "__eq__" "Term.__eq__" (defArgs s_Term_eq) (defBody s_Term_eq) (defScope s_Term_eq) .none kV13 dc13 pm13 an13 cd13 ct13) | 14 => (PySem.W.fnOf "_law_deal" "_law_deal" (defArgs s__law_deal) (defBody s__law_deal) (defScope s__law_deal) .none kV14 dc14 pm14 an14 cd14 ct14) | 15 => (PySem.W.fnOf "_law_draw" "_law_draw" (defArgs s__law_draw) (defBody s__law_draw) (defScope s__law_draw) .none kV15 dc15 pm15 an15 cd15 ct15) | 16 => (PySem.W.fnOf "_law_gcd" "_law_gcd" (defArgs s__law_gcd) (defBody s__law_gcd) (defScope s__law_gcd) .none kV16 dc16 pm16 an16 cd16 ct16) | 17 => (PySem.W.fnOf "_law_lowest" "_law_lowest" (defArgs s__law_lowest) (defBody s__law_lowest) (defScope s__law_lowest) .none kV17 dc17 pm17 an17 cd17 ct17) | 18 => (PySem.W.fnOf "_law_value" "_law_value" (defArgs s__law_value) (defBody s__law_value) (defScope s__law_value) .none kV18 dc18 pm18 an18 cd18 ct18) | 19 => (PySem.W.fnOf "_law_made" "_law_made" (defArgs s__law_made) (defBody s__law_made) (defScope s__law_made) .none kV19 dc19 pm19 an19 cd19 ct19) | 20 => (PySem.W.fnOf "_law_row" "_law_row" (defArgs s__law_row) (defBody s__law_row) (defScope s__law_row) .none kV20 dc20 pm20 an20 cd20 ct20) | 21 => (PySem.W.fnOf "_law_at" "_law_at" (defArgs s__law_at) (defBody s__law_at) (defScope s__law_at) .none kV21 dc21 pm21 an21 cd21 ct21) | 22 => (PySem.W.fnOf "_law_refused" "_law_refused" (defArgs s__law_refused) (defBody s__law_refused) (defScope s__law_refused) .none kV22 dc22 pm22 an22 cd22 ct22) | 23 => (PySem.W.fnOf "law" "law" (defArgs s_law) (defBody s_law) (defScope s_law) .none kV23 dc23 pm23 an23 cd23 ct23) | _ => (PySem.W.fnOf "" "" (defArgs s_law) (defBody s_law) (defScope s_law) .none kV0 dc0 pm0 an0 cd0 ct0)) (fun i => match i with | 0 => C0 | 1 => C1 | 2 => C2 | 3 => C3 | _ => 0) := ⟨F0, B0, (PySem.W.mg_of X G a0), F1, B1, (PySem.W.mg_of X G a1), F2, B2, (PySem.W.mg_of X G a2), F3, B3, (PySem.W.mg_of X G a3), F4, B4, (PySem.W.mg_of X G a4), F5, B5, (PySem.W.mg_of X G a5), F6, B6, (PySem.W.mg_of X G a6), F7, B7, (PySem.W.mg_of X G a7), F8, B8, (PySem.W.mg_of X G a8), F9, B9, (PySem.W.mg_of X G a9), ⟨oc10, od10, dc10, pm10, an10, cd10, ct10, sl10, Dk10, tkk10, l10, c10, k10⟩, F11, B11, F12, B12, F13, B13, F14, B14, (PySem.W.mg_of X G a14), F15, B15, (PySem.W.mg_of X G a15), F16, B16, (PySem.W.mg_of X G a16), F17, B17, (PySem.W.mg_of X G a17), F18, B18, (PySem.W.mg_of X G a18), F19, B19, (PySem.W.mg_of X G a19), F20, B20, (PySem.W.mg_of X G a20), F21, B21, (PySem.W.mg_of X G a21), F22, B22, (PySem.W.mg_of X G a22), F23, B23, (PySem.W.mg_of X G a23), (PySem.W.mg_none_of X G z0), (PySem.W.mg_none_of X G z1), (PySem.W.mg_none_of X G z2), (PySem.W.mg_none_of X G z3), (PySem.W.mg_none_of X G z4), (PySem.W.mg_none_of X G z5), (PySem.W.mg_none_of X G z6), (PySem.W.mg_none_of X G z7), (PySem.W.mg_none_of X G z8), (PySem.W.mg_none_of X G z9), (PySem.W.mg_none_of X G z10), (PySem.W.mg_none_of X G z11), (PySem.W.mg_none_of X G z12), (PySem.W.mg_none_of X G z13), (PySem.W.mg_of X G o0), ⟨o1, o2, o3, o4⟩, ⟨o5, o6, o7, o8⟩, o9, o10, o11, o12, o13, o14, o15, o16, o17, o18, o19, o20, o21, o22, o23, o24, o25, o26, o27, o28, o29, o30, o31, o32, o33, o34, o35, o36, o37, o38, o39, ⟨o40, o41, o42⟩, ⟨o43, o44, o45⟩, ⟨pp46, o46, o47, o48, pr46, o49⟩⟩
  have Z : Exs l.prog K mg (fun i => match i with | 0 => C0 | 1 => C1 | 2 => C2 | 3 => C3 | _ => 0) (fun i => match i with | 1 => I1 | _ => 0) := ⟨(PySem.W.mg_of X G gC1), (PySem.W.mg_of X G gC2), (PySem.W.mg_of X G gC0), { gC := PySem.W.mg_of X G gC1, cls := ⟨nm1, q1, N1, bs1, bm1, sn1, su1, ab1, col1, dd1, m01, m11, m21, m31, m51, xL1, xB1⟩, sa := sa1, ga := ga1, gg := gg1, noN := nb1, iC := iC1, tC := ti1, kC := kC1, exC := eC1, veC := vC1, ok := PySem.SupX.vE_ok, slf := mC1, tyC := tC1, hdC := hC1, te := PySem.W.exm_ref eC1 hC1 tC1 s1_1, opq := op1, sup := up1, nsu := PySem.W.mg_none_of X G zs1, top := tp1, fn := ⟨"InvalidTerm.__init__", defArgs s_InvalidTerm_init, defBody s_InvalidTerm_init, (defScope s_InvalidTerm_init).names, (defScope s_InvalidTerm_init).more, xoc1, xod1, xdc1, xpm1, xan1, cda1, xct1, cc1, xsl1, ccl1, cdd1, vs1, ccs1, file1, tf1, cl1, cld1, csl1, sd_InvalidTerm, xl1, xc1, xd1, xv1, xf1, xk1⟩ }, ⟨ga1, gg1, eC1, hC1, ca1, cn1, ctk1, cm1⟩, t1_1, (PySem.W.exm_ref eC1 hC1 tC1 s1_1), t1_2, (PySem.W.exm_ref eC2 hC2 tC2 s1_2), t1_0, tt1_ValueError, xq2, kC2, tC2, ⟨ga2, gg2, eC2, hC2, ca2, cn2, ctk2, cm2⟩, t2_1, (PySem.W.exm_ref eC1 hC1 tC1 s2_1), t2_2, (PySem.W.exm_ref eC2 hC2 tC2 s2_2), t2_0, tt2_ValueError⟩
  exact ⟨_, fun s v => .of_eq rfl, fun base _ _ => ok_law T Z law_holds⟩
end K24
open PySem PySem.W PyProof.Rows
set_option maxRecDepth 100000 in
set_option maxHeartbeats 0 in
theorem PySem.Challenge.cw_everybase_k24_terms_made_holds : PySem.Challenge.rw_everybase_k24_terms_made.Holds := by
  w_on; o_law; k_head; (case hw => w_witness2)
  k_fill
  refine Eb.walk_g (l := PySem.Challenge.rw_everybase_k24_terms_made) (n := 63) (k := 6) (x := "_law_script") (sp := fun w => Eb.sp_law _) rfl (by decide) rfl ⟨rfl, by decide, by decide⟩ (fun w h Y => PySem.W.kIn_of Y) ?F (fun _ _ a ns hl hS => ⟨a, ns, rfl, hS, hl, fun _ => rfl⟩)
  case F =>
    intro w mg fa h KX G hmg
    refine' K24.all_mk KX G hmg ?a0 ?l0 ?c0 ?k0 ?a1 ?l1 ?c1 ?k1 ?a2 ?l2 ?c2 ?k2 ?a3 ?l3 ?c3 ?k3 ?a4 ?l4 ?c4 ?k4 ?a5 ?l5 ?c5 ?k5 ?a6 ?l6 ?c6 ?k6 ?a7 ?l7 ?c7 ?k7 ?a8 ?l8 ?c8 ?k8 ?a9 ?l9 ?c9 ?k9 ?l10 ?c10 ?k10 ?l11 ?c11 ?k11 ?l12 ?c12 ?k12 ?l13 ?c13 ?k13 ?a14 ?l14 ?c14 ?k14 ?a15 ?l15 ?c15 ?k15 ?a16 ?l16 ?c16 ?k16 ?a17 ?l17 ?c17 ?k17 ?a18 ?l18 ?c18 ?k18 ?a19 ?l19 ?c19 ?k19 ?a20 ?l20 ?c20 ?k20 ?a21 ?l21 ?c21 ?k21 ?a22 ?l22 ?c22 ?k22 ?a23 ?l23 ?c23 ?k23 ?z0 ?z1 ?z2 ?z3 ?z4 ?z5 ?z6 ?z7 ?z8 ?z9 ?z10 ?z11 ?z12 ?z13 ?gC1 ?gC2 ?gC0 ?ga1 ?gg1 ?eC1 ?hC1 ?kC1 ?tC1 ?ca1 ?cn1 ?ctk1 ?cm1 ?t1_1 ?s1_1 ?t1_2 ?s1_2 ?t1_0 ?tt1_ValueError ?ga2 ?gg2 ?eC2 ?hC2 ?kC2 ?tC2 ?ca2 ?cn2 ?ctk2 ?cm2 ?t2_1 ?s2_1 ?t2_2 ?s2_2 ?t2_0 ?tt2_ValueError ?xL1 ?xB1 ?sa1 ?nb1 ?iC1 ?ti1 ?vC1 ?mC1 ?op1 ?up1 ?zs1 ?tp1 ?xl1 ?xc1 ?xd1 ?xv1 ?xf1 ?xk1 ?xq2 ?o0 ?o1 ?o2 ?o3 ?o4 ?o5 ?o6 ?o7 ?o8 ?o9 ?o10 ?o11 ?o12 ?o13 ?o14 ?o15 ?o16 ?o17 ?o18 ?o19 ?o20 ?o21 ?o22 ?o23 ?o24 ?o25 ?o26 ?o27 ?o28 ?o29 ?o30 ?o31 ?o32 ?o33 ?o34 ?o35 ?o36 ?o37 ?o38 ?o39 ?o40 ?o41 ?o42 ?o43 ?o44 ?o45 ?o46 ?o47 ?o48 ?o49
    (case o0 => k_is)
    (case o1 => k_is)
    (case o2 => k_is)
    (case o3 => k_is)
    (case o4 => k_is)
    (case o5 => k_is)
    (case o6 => k_is)
    (case o7 => k_is)
    (case o8 => k_is)
    (case o9 => k_is)
    (case o10 => k_is)
    (case o11 => k_is)
    (case o12 => k_is)
    (case o13 => k_is)
    (case o14 => k_is)
    (case o15 => k_is)
    (case o16 => k_is)
    (case o17 => k_is)
    (case o18 => k_is)
    (case o19 => k_is)
    (case o20 => kit_is)
    (case o21 => kit_is)
    (case o22 => k_is)
    (case o23 => k_is)
    (case o24 => k_is)
    (case o25 => k_is)
    (case o26 => kit_is)
    (case o27 => kit_is)
    (case o28 => kit_is)
    (case o29 => kit_is)
    (case o30 => kit_is)
    (case o31 => kit_is)
    (case o32 => kit_is)
    (case o33 => kit_is)
    (case o34 => kit_is)
    (case o35 => kit_is)
    (case o36 => kit_is)
    (case o37 => kit_is)
    (case o38 => k_is)
    (case o39 => k_is)
    (case o40 => k_is)
    (case o41 => k_is)
    (case o42 => k_is)
    (case o43 => k_is)
    (case o44 => k_is)
    (case o45 => k_is)
    (case o46 => k_is)
    (case o47 => k_is)
    (case o48 => k_is)
    (case o49 => k_is)
    (case a0 => k_is)
    (case l0 => k_is)
    (case c0 => k_is)
    (case k0 => k_is)
    (case a1 => k_is)
    (case l1 => k_is)
    (case c1 => k_is)
    (case k1 => k_is)
    (case a2 => k_is)
    (case l2 => k_is)
    (case c2 => k_is)
    (case k2 => k_is)
    (case a3 => k_is)
    (case l3 => k_is)
    (case c3 => k_is)
    (case k3 => k_is)
    (case a4 => k_is)
    (case l4 => k_is)
    (case c4 => k_is)
    (case k4 => k_is)
    (case a5 => k_is)
    (case l5 => k_is)
    (case c5 => k_is)
    (case k5 => k_is)
    (case a6 => k_is)
    (case l6 => k_is)
    (case c6 => k_is)
    (case k6 => k_is)
    (case a7 => k_is)
    (case l7 => k_is)
    (case c7 => k_is)
    (case k7 => k_is)
    (case a8 => k_is)
    (case l8 => k_is)
    (case c8 => k_is)
    (case k8 => k_is)
    (case a9 => k_is)
    (case l9 => k_is)
    (case c9 => k_is)
    (case k9 => k_is)
    (case l10 => k_is)
    (case c10 => k_is)
    (case k10 => k_is)
    (case l11 => k_is)
    (case c11 => k_is)
    (case k11 => k_is)
    (case l12 => k_is)
    (case c12 => k_is)
    (case k12 => k_is)
    (case l13 => k_is)
    (case c13 => k_is)
    (case k13 => k_is)
    (case a14 => k_is)
    (case l14 => k_is)
    (case c14 => k_is)
    (case k14 => k_is)
    (case a15 => k_is)
    (case l15 => k_is)
    (case c15 => k_is)
    (case k15 => k_is)
    (case a16 => k_is)
    (case l16 => k_is)
    (case c16 => k_is)
    (case k16 => k_is)
    (case a17 => k_is)
    (case l17 => k_is)
    (case c17 => k_is)
    (case k17 => k_is)
    (case a18 => k_is)
    (case l18 => k_is)
    (case c18 => k_is)
    (case k18 => k_is)
    (case a19 => k_is)
    (case l19 => k_is)
    (case c19 => k_is)
    (case k19 => k_is)
    (case a20 => k_is)
    (case l20 => k_is)
    (case c20 => k_is)
    (case k20 => k_is)
    (case a21 => k_is)
    (case l21 => k_is)
    (case c21 => k_is)
    (case k21 => k_is)
    (case a22 => k_is)
    (case l22 => k_is)
    (case c22 => k_is)
    (case k22 => k_is)
    (case a23 => k_is)
    (case l23 => k_is)
    (case c23 => k_is)
    (case k23 => k_is)
    (case z0 => k_is)
    (case z1 => k_is)
    (case z2 => k_is)
    (case z3 => k_is)
    (case z4 => k_is)
    (case z5 => k_is)
    (case z6 => k_is)
    (case z7 => k_is)
    (case z8 => k_is)
    (case z9 => k_is)
    (case z10 => k_is)
    (case z11 => k_is)
    (case z12 => k_is)
    (case z13 => k_is)
    (case gC1 => k_is)
    (case gC2 => k_is)
    (case gC0 => k_is)
    (case ga1 => k_is)
    (case gg1 => k_is)
    (case eC1 => k_is)
    (case hC1 => k_is)
    (case kC1 => k_is)
    (case tC1 => k_is)
    (case ca1 => k_is)
    (case cn1 => k_is)
    (case ctk1 => k_is)
    (case cm1 => k_is)
    (case t1_1 => kit_is)
    (case s1_1 => first | rfl | k_is)
    (case t1_2 => kit_is)
    (case s1_2 => first | rfl | k_is)
    (case t1_0 => kit_is)
    (case tt1_ValueError => kit_is)
    (case ga2 => k_is)
    (case gg2 => k_is)
    (case eC2 => k_is)
    (case hC2 => k_is)
    (case kC2 => k_is)
    (case tC2 => k_is)
    (case ca2 => k_is)
    (case cn2 => k_is)
    (case ctk2 => k_is)
    (case cm2 => k_is)
    (case t2_1 => kit_is)
    (case s2_1 => first | rfl | k_is)
    (case t2_2 => kit_is)
    (case s2_2 => first | rfl | k_is)
    (case t2_0 => kit_is)
    (case tt2_ValueError => kit_is)
    (case xL1 => k_is)
    (case xB1 => decide +kernel)
    (case sa1 => k_is)
    (case nb1 => k_is)
    (case iC1 => k_is)
    (case ti1 => k_is)
    (case vC1 => k_is)
    (case mC1 => k_is)
    (case op1 => k_is)
    (case up1 => ks_is)
    (case zs1 => k_is)
    (case tp1 => decide +kernel)
    (case xl1 => k_is)
    (case xc1 => k_is)
    (case xd1 => k_is)
    (case xv1 => rfl)
    (case xf1 => decide +kernel)
    (case xk1 => k_is)
    (case xq2 => k_exc)

