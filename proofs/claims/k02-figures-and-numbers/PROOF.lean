import PyProof.Rows.All
import Wide.All
import OpenK.AllK
import Wide.FinOn
import PySem.Challenge.RW_everybase_k02_figures_and_numbers
import HandS.ForMost
import HandS.ForExc
import HandS.Wide
import HandS.Style
import HandS.RaiseMore
import HandS.IsInst
import HandS.Flow
import HandS.Codes
import HandS.SortInts
import HandS.Conv
import HandS.TupAny
import HandS.TupLe
import HandS.SetFor
import HandS.Walk
import KE.KTupSum
import KE.GoesEnum
import KE.KExcSuper
import KE.RegKIsAll
import HandS.Exc
import HandS.ExcOwn
import HandS.ExcField
import HandS.ExcIs
import HandS.Ends
set_option Elab.async false
set_option linter.all false
set_option maxRecDepth 100000
set_option maxHeartbeats 4000000
/-! ## own layer: rules, heaps, draws -/
namespace Eb
open PySem PySem.Spec PyProof.Rows L2
theorem bb_int : bootBuiltins "int" = some (.type "int") := by decide +kernel
theorem bb_bool : bootBuiltins "bool" = some (.type "bool") := by decide +kernel
theorem bb_str : bootBuiltins "str" = some (.type "str") := by decide +kernel
theorem bb_list : bootBuiltins "list" = some (.type "list") := by decide +kernel
theorem bb_tuple : bootBuiltins "tuple" = some (.type "tuple") := by decide +kernel
theorem bb_range : bootBuiltins "range" = some (.type "range") := by decide +kernel
theorem bb_set : bootBuiltins "set" = some (.type "set") := by decide +kernel
theorem bb_len : bootBuiltins "len" = some (.builtin "len") := by decide +kernel
theorem bb_sum : bootBuiltins "sum" = some (.builtin "sum") := by decide +kernel
theorem bb_min : bootBuiltins "min" = some (.builtin "min") := by decide +kernel
theorem bb_max : bootBuiltins "max" = some (.builtin "max") := by decide +kernel
theorem bb_abs : bootBuiltins "abs" = some (.builtin "abs") := by decide +kernel
theorem bb_repr : bootBuiltins "repr" = some (.builtin "repr") := by decide +kernel
theorem bb_sorted : bootBuiltins "sorted" = some (.builtin "sorted") := by decide +kernel
theorem bb_all : bootBuiltins "all" = some (.builtin "all") := by decide +kernel
theorem bb_isinstance : bootBuiltins "isinstance" = some (.builtin "isinstance") := by decide +kernel

section
variable {X : Cx}
/-- sum(t), t a tuple of ints -/
def rSumT (K : PySem.W.Frag) : List V → Hp → VK → Prop := fun vs H Q => ∃ (a : Addr) (ns : List Int), vs = [V.ref a] ∧ SqT K H a (ns.map V.int) ∧ Q (.int ns.sum) H
theorem cr_sumT (hc : X.calm = true) : CallR X (.builtin "sum") (rSumT X.K) := by
  intro pins s σ H vs us Q I r h
  obtain ⟨a, ns, rfl, hs, q⟩ := h
  obtain ⟨its, rv, ht, _⟩ := I.tuple hs
  rw [Vals.ref1 r]
  have hi := rv.ints
  obtain ⟨xs, e⟩ := hi.allInts.items
  have hn : numsOf (intItems xs).toList = ns := by
    rw [← e]
    exact hi.numsOf
  rw [nums_intItems] at hn
  have ht' : s.heap.IsTuple a (intItems xs) := by
    rw [← e]
    exact ht
  refine PySem.W.ktm_sumG (I.ok.hd hc) ht' fun h' tk t' hk => ?_
  rw [preSum_eq, List.take_of_length_le (by simp), hn]
  exact ⟨.int _, H, I.kept hk, ⟨_, rfl⟩, q⟩
end

/-! ### heaps -/
theorem same_new {H : Hp} {p : Addr} {o : HO} (h : H p = none) : Same H (upd H p o) := fun b x e => by
  rw [upd_ne (ne_of_none e h)]
  exact e
theorem same_mut {H H' : Hp} {p : Addr} {o : HO} (e : Same H H') (h : H p = none) : Same H (upd H' p o) := fun b x hb => by
  rw [upd_ne (ne_of_none hb h)]
  exact e b x hb
theorem Same_seqT {K : PySem.W.Frag} {H H' : Hp} {a : Addr} {xs : List V} (e : Same H H') (h : SqT K H a xs) : SqT K H' a xs := by
  rcases h with (h | ⟨o, h⟩) | h
  · exact .inl (.inl (e _ _ h))
  · exact .inl (.inr ⟨o, e _ _ h⟩)
  · exact .inr h
/-- all but the objects at M stand as they stood -/
def Grow (M : List Addr) (H H' : Hp) : Prop := ∀ b o, b ∉ M → H b = some o → H' b = some o
theorem Grow.refl (M : List Addr) (H : Hp) : Grow M H H := fun _ _ _ h => h
theorem Grow.trans {M : List Addr} {H H1 H2 : Hp} (a : Grow M H H1) (b : Grow M H1 H2) : Grow M H H2 := fun c o n h => b c o n (a c o n h)
theorem Grow.of {M : List Addr} {H H' : Hp} (e : Same H H') : Grow M H H' := fun c o _ h => e c o h
theorem Grow.new {M : List Addr} {H H' : Hp} {p : Addr} {o : HO} (g : Grow M H H') (h : H p = none) : Grow M H (upd H' p o) := fun b x n hb => by
  rw [upd_ne (ne_of_none hb h)]
  exact g b x n hb
theorem Grow.at {M : List Addr} {H H' : Hp} {p : Addr} {o : HO} (g : Grow M H H') (h : p ∈ M) : Grow M H (upd H' p o) := fun b x n hb => by
  rw [upd_ne (show b ≠ p from fun e => n (by rw [e]; exact h))]
  exact g b x n hb
theorem Grow.none {M : List Addr} {H H' : Hp} {p : Addr} (g : Grow M H H') (hM : ∀ b ∈ M, H' b ≠ none) (h : H' p = none) : H p = none := by
  cases q : H p with
  | none => rfl
  | some o =>
    by_cases hm : p ∈ M
    · exact absurd h (hM p hm)
    · rw [g p o hm q] at h
      cases h
theorem Grow.seqL {M : List Addr} {K : PySem.W.Frag} {H H' : Hp} {a : Addr} {xs : List V} (g : Grow M H H') (n : a ∉ M) (h : SqL K H a xs) : SqL K H' a xs := by
  rcases h with (h | ⟨o, h⟩) | h
  · exact .inl (.inl (g _ _ n h))
  · exact .inl (.inr ⟨o, g _ _ n h⟩)
  · exact .inr h
theorem Grow.seqT {M : List Addr} {K : PySem.W.Frag} {H H' : Hp} {a : Addr} {xs : List V} (g : Grow M H H') (n : a ∉ M) (h : SqT K H a xs) : SqT K H' a xs := by
  rcases h with (h | ⟨o, h⟩) | h
  · exact .inl (.inl (g _ _ n h))
  · exact .inl (.inr ⟨o, g _ _ n h⟩)
  · exact .inr h
theorem sqL_of {K : PySem.W.Frag} {H : Hp} {a : Addr} {xs : List V} (h : H a = some (.lst xs)) : SqL K H a xs := .inl (.inl h)
theorem sqT_of {K : PySem.W.Frag} {H : Hp} {a : Addr} {xs : List V} (h : H a = some (.tup xs)) : SqT K H a xs := .inl (.inl h)
theorem sqL_new {K : PySem.W.Frag} {H : Hp} {a : Addr} {xs : List V} : SqL K (upd H a (.lst xs)) a xs := .inl (.inl upd_same)
theorem sqT_new {K : PySem.W.Frag} {H : Hp} {a : Addr} {xs : List V} : SqT K (upd H a (.tup xs)) a xs := .inl (.inl upd_same)
theorem sz {n : Nat} (h : n ≤ 100000) : n ≤ sizeLine := Nat.le_trans h (by decide)
theorem szr {n : Nat} (h : Nat.ble n 100000 = true) : n ≤ sizeLine := sz (Nat.le_of_ble_eq_true h)
theorem szl {n : Nat} (h : n < 100000) : n < sizeLine := Nat.lt_of_lt_of_le h (by decide)

/-! ### loops -/
theorem whl {c : TT} {tb : TS} {D : Ends} {σ : L2.St} {H : Hp} (W : Nat → L2.St → Hp → Prop) (m : Nat) (h0 : W m σ H)
    (hs : ∀ m σ H, W m σ H → c σ H fun b H1 => if b = true then ∃ N : L2.St → Hp → Prop, (∀ σ' H', N σ' H' → ∃ m', m' < m ∧ W m' σ' H') ∧ tb { D with nx := N, ct := N, bk := D.nx } σ H1 else D.nx σ H1) : tWhile c tb D σ H :=
  ⟨W, ⟨m, h0⟩, hs⟩
/-- the turn of a while whose test holds: the wished state is W at a smaller measure -/
theorem turn_of {tb : TS} {D : Ends} {σ : L2.St} {H : Hp} {W : Nat → L2.St → Hp → Prop} {m : Nat}
    (h : tb { D with nx := fun σ' H' => ∃ m', m' < m ∧ W m' σ' H', ct := fun σ' H' => ∃ m', m' < m ∧ W m' σ' H', bk := D.nx } σ H) :
    ∃ N : L2.St → Hp → Prop, (∀ σ' H', N σ' H' → ∃ m', m' < m ∧ W m' σ' H') ∧ tb { D with nx := N, ct := N, bk := D.nx } σ H := ⟨_, fun _ _ z => z, h⟩

/-- ways join: a test whose answer is known behind its ways -/
theorem by_ans {t : TT} {σ : L2.St} {H : Hp} {Q : Bool → Hp → Prop} (b : Bool) (h : ∀ Q' : Bool → Hp → Prop, (∀ H1, Same H H1 → Q' b H1) → t σ H Q') (k : ∀ H1, Same H H1 → Q b H1) : t σ H Q := h Q k
/-- ways join behind a statement that goes on -/
theorem by_st {t u : TS} {D : Ends} {σ : L2.St} {H : Hp} (J : L2.St → Hp → Prop) (h : ∀ D' : Ends, D'.rt = D.rt → (∀ σ' H', J σ' H' → D'.nx σ' H') → t D' σ H) (k : ∀ σ' H', J σ' H' → u D σ' H') : tSeq t u D σ H :=
  h { D with nx := u D } rfl k
/-- .. of an if whose test is known to fail, to hold -/
theorem by_ifF {c : TT} {t u r : TS} {D : Ends} {σ : L2.St} {H : Hp} (h : ∀ Q' : Bool → Hp → Prop, (∀ H1, Same H H1 → Q' false H1) → c σ H Q') (k : ∀ H1, Same H H1 → u { D with nx := r D } σ H1) : tSeq (tIfS c t u) r D σ H :=
  h _ fun H1 s1 => iteF (k H1 s1)
theorem by_ifT {c : TT} {t u r : TS} {D : Ends} {σ : L2.St} {H : Hp} (h : ∀ Q' : Bool → Hp → Prop, (∀ H1, Same H H1 → Q' true H1) → c σ H Q') (k : ∀ H1, Same H H1 → t { D with nx := r D } σ H1) : tSeq (tIfS c t u) r D σ H :=
  h _ fun H1 s1 => iteT (k H1 s1)
/-- ways join behind an expression -/
theorem by_te {t : TE} {σ : L2.St} {H : Hp} {Q : VK} (J : V → Hp → Prop) (h : ∀ Q' : VK, (∀ v H1, J v H1 → Q' v H1) → t σ H Q') (k : ∀ v H1, J v H1 → Q v H1) : t σ H Q := h Q k
/-- .. that is given to a name -/
theorem by_set {te : TE} {i : Nat} {u : TS} {D : Ends} {σ : L2.St} {H : Hp} (J : V → Hp → Prop) (h : ∀ Q' : VK, (∀ v H1, J v H1 → Q' v H1) → te σ H Q') (k : ∀ v H1, J v H1 → u D (σ.set i (some v)) H1) : tSeq (tAsg te (gName i)) u D σ H := h _ k
theorem Grow.same {M : List Addr} {H H1 H2 : Hp} (g : Grow M H H1) (e : Same H1 H2) : Grow M H H2 := g.trans (Grow.of e)

/-! ### data -/
theorem dp_ints {K : PySem.W.Frag} {H : Hp} : ∀ xs : List Int, DpAll K H (xs.map V.int) (xs.map PyData.int)
  | [] => .nil
  | x :: r => .cons (.int x) (dp_ints r)
theorem dp_list {K : PySem.W.Frag} {H : Hp} {a : Addr} {xs : List Int} (h : SqL K H a (xs.map V.int)) : Dp K H (.ref a) (.list (xs.map PyData.int)) := .lst h (dp_ints xs)
theorem dp_tuple {K : PySem.W.Frag} {H : Hp} {a : Addr} {xs : List Int} (h : SqT K H a (xs.map V.int)) : Dp K H (.ref a) (.tuple (xs.map PyData.int)) := .tup h (dp_ints xs)
theorem lay_ints : ∀ xs : List Int, PyData.canLayAll0 (xs.map PyData.int) = true
  | [] => by simp [PyData.canLayAll0]
  | x :: r => by simp [PyData.canLayAll0, PyData.canLay0, lay_ints r]
theorem depth_ints : ∀ xs : List Int, PyData.depthAll (xs.map PyData.int) = 0
  | [] => by simp [PyData.depthAll]
  | x :: r => by simp [PyData.depthAll, PyData.depth, depth_ints r]
theorem shaped_list (xs : List Int) : SeqAt.shaped (.list (xs.map PyData.int)) = true := by
  unfold SeqAt.shaped
  simp [PyData.canLay0, PyData.depth, lay_ints, depth_ints]
theorem shaped_tuple (xs : List Int) : SeqAt.shaped (.tuple (xs.map PyData.int)) = true := by
  unfold SeqAt.shaped
  simp [PyData.canLay0, PyData.depth, lay_ints, depth_ints]
theorem eqv_ints : ∀ xs ys : List Int, PyData.eqvAll (xs.map PyData.int) (ys.map PyData.int) = decide (xs = ys)
  | [], [] => by simp [PyData.eqvAll]
  | [], _ :: _ => by simp [PyData.eqvAll]
  | _ :: _, [] => by simp [PyData.eqvAll]
  | x :: r, y :: q => by
    simp only [List.map_cons, PyData.eqvAll, PyData.eqv, eqv_ints r q]
    by_cases h : x = y
    · subst h; simp
    · simp [h]
section
variable {X : Cx}
def rEqL (K : PySem.W.Frag) (neg : Bool) : R2 := fun x y H Q => ∃ (a b : Addr) (xs ys : List Int), x = .ref a ∧ y = .ref b ∧ SqL K H a (xs.map V.int) ∧ SqL K H b (ys.map V.int) ∧ Q (.bl (if neg then !decide (xs = ys) else decide (xs = ys))) H
def rEqT (K : PySem.W.Frag) (neg : Bool) : R2 := fun x y H Q => ∃ (a b : Addr) (xs ys : List Int), x = .ref a ∧ y = .ref b ∧ SqT K H a (xs.map V.int) ∧ SqT K H b (ys.map V.int) ∧ Q (.bl (if neg then !decide (xs = ys) else decide (xs = ys))) H
theorem op_eqL (hu : X.A.units + 64 < cLine) : OpR X (compareOp .Eq) (rEqL X.K false) := by
  intro pins s σ H x y v u Q I rx ry h
  obtain ⟨a, b, xs, ys, rfl, rfl, ha, hb, q⟩ := h
  exact op_eqD hu pins s σ H _ _ v u Q I rx ry ⟨_, _, dp_list ha, dp_list hb, shaped_list _, shaped_list _, by simp only [PyData.eqv, eqv_ints]; exact q⟩
theorem op_neL (hu : X.A.units + 64 < cLine) : OpR X (compareOp .NotEq) (rEqL X.K true) := by
  intro pins s σ H x y v u Q I rx ry h
  obtain ⟨a, b, xs, ys, rfl, rfl, ha, hb, q⟩ := h
  exact op_neD hu pins s σ H _ _ v u Q I rx ry ⟨_, _, dp_list ha, dp_list hb, shaped_list _, shaped_list _, by simp only [PyData.eqv, eqv_ints]; exact q⟩
theorem op_eqT (hu : X.A.units + 64 < cLine) : OpR X (compareOp .Eq) (rEqT X.K false) := by
  intro pins s σ H x y v u Q I rx ry h
  obtain ⟨a, b, xs, ys, rfl, rfl, ha, hb, q⟩ := h
  exact op_eqD hu pins s σ H _ _ v u Q I rx ry ⟨_, _, dp_tuple ha, dp_tuple hb, shaped_tuple _, shaped_tuple _, by simp only [PyData.eqv, eqv_ints]; exact q⟩
theorem op_neT (hu : X.A.units + 64 < cLine) : OpR X (compareOp .NotEq) (rEqT X.K true) := by
  intro pins s σ H x y v u Q I rx ry h
  obtain ⟨a, b, xs, ys, rfl, rfl, ha, hb, q⟩ := h
  exact op_neD hu pins s σ H _ _ v u Q I rx ry ⟨_, _, dp_tuple ha, dp_tuple hb, shaped_tuple _, shaped_tuple _, by simp only [PyData.eqv, eqv_ints]; exact q⟩
end

/-! ### sizes -/
def Sm (n : Int) : Prop := n.natAbs < 2 ^ 1900
theorem Sm.log {n : Int} (h : Sm n) : n.natAbs.log2 < 1900 := PySem.Flt.log2_lt_of (by decide) h
theorem Sm.le {n m : Int} (h : Sm m) (h0 : 0 ≤ n) (h1 : n ≤ m) : Sm n := Nat.lt_of_le_of_lt (by omega) h
theorem sm_of {n : Int} (h0 : 0 ≤ n) (h1 : n ≤ 10 ^ 61) : Sm n := Sm.le (m := 10 ^ 61) (by unfold Sm; decide +kernel) h0 h1
theorem sm_big {n : Int} (h0 : 0 ≤ n) (h1 : n ≤ 10 ^ 250) : Sm n := Sm.le (m := 10 ^ 250) (by unfold Sm; decide +kernel) h0 h1
/-- // where the divisor or the dividend is no giant -/
def CDivX (i j : Int) : Prop := 0 < j ∧ (i.natAbs.log2 < 13500 ∨ j.natAbs.log2 < 9000)
theorem divX_ok {i j : Int} (h : CDivX i j) : Builtin.divisionGoesByPylong i j = false := by
  rcases h.2 with h1 | h1
  · have ki : (if i == 0 then 0 else i.natAbs.log2 / 30 + 1) ≤ 450 := by
      split <;> omega
    show (decide ((if j == 0 then 0 else j.natAbs.log2 / 30 + 1) > 300) && decide ((if i == 0 then 0 else i.natAbs.log2 / 30 + 1) > (if j == 0 then 0 else j.natAbs.log2 / 30 + 1) + 150)) = false
    by_cases c : (if j == 0 then 0 else j.natAbs.log2 / 30 + 1) > 300
    · rw [decide_eq_false (show ¬ ((if i == 0 then 0 else i.natAbs.log2 / 30 + 1) > (if j == 0 then 0 else j.natAbs.log2 / 30 + 1) + 150) by omega), Bool.and_false]
    · rw [decide_eq_false c, Bool.false_and]
  · exact PyProof.noPylong_of_log2 h1
theorem op_fdivX {X : Cx} : OpR X (binaryOp .FloorDiv) (rI CDivX fun i j => .int (i / j)) := opI fun i j _ _ _ _ _ hc q =>
  floordiv_int (show j ≠ 0 by have := hc.1; omega) (by rw [Int.fdiv_eq_ediv_of_nonneg i (show 0 ≤ j by have := hc.1; omega)]; exact q) (.inl (divX_ok hc))
theorem divW {i j : Int} (h : 0 < j) (s : Sm j) : CDivX i j := ⟨h, .inr (Nat.lt_trans s.log (by decide))⟩
theorem divS {i j : Int} (h : 0 < j) (s : Sm i) : CDivX i j := ⟨h, .inl (Nat.lt_trans s.log (by decide))⟩
theorem mulW {i j : Int} (h : Sm i) (s : Sm j) : L2.CMulW i j := by
  have a := h.log
  have b := s.log
  unfold L2.CMulW
  omega

/-- powers of numbers that are no giants -/
def CPowX (i j : Int) : Prop := 0 ≤ j ∧ (Builtin.Int.intBits i : Int) * j ≤ 2 ^ 27
theorem op_powX {X : Cx} : OpR X (binaryOp .Pow) (rI CPowX fun i j => .int (i ^ j.toNat)) := opI fun _ _ _ _ _ _ _ hc q => pow_int hc.1 hc.2 q
theorem powX {i j : Int} (s : Sm i) (h0 : 0 ≤ j) (h1 : j ≤ 10000) : CPowX i j := by
  refine ⟨h0, ?_⟩
  have l := s.log
  have b : (Builtin.Int.intBits i : Int) ≤ 1900 := by
    unfold Builtin.Int.intBits
    split <;> omega
  have b0 : (0 : Int) ≤ (Builtin.Int.intBits i : Int) := Int.natCast_nonneg _
  have m : (Builtin.Int.intBits i : Int) * j ≤ 1900 * 10000 := Int.mul_le_mul b h1 h0 (by decide)
  omega

/-! ### the source of draws -/
structure Deal (H : Hp) (d l : Addr) : Prop where
  ex : ∃ (xs : List Int) (n : Int), H d = some (.lst [.ref l, .int n]) ∧ H l = some (.lst (xs.map V.int)) ∧ xs.length ≤ 63 ∧ 0 ≤ n ∧ n < 2147483647
theorem Deal.ne {H : Hp} {d l : Addr} (D : Deal H d l) : d ≠ l := by
  obtain ⟨xs, n, h1, h2, _⟩ := D.ex
  intro e
  subst e
  rw [h1] at h2
  have h3 := HO.lst.inj (Option.some.inj h2)
  cases xs with
  | nil => cases h3
  | cons x r => cases h3
theorem Deal.same {H H' : Hp} {d l : Addr} (D : Deal H d l) (e : Same H H') : Deal H' d l := by
  obtain ⟨xs, n, h1, h2, h3⟩ := D.ex
  exact ⟨xs, n, e _ _ h1, e _ _ h2, h3⟩
theorem Deal.fresh {H : Hp} {d l p : Addr} (D : Deal H d l) (h : H p = none) : p ∉ [d, l] := by
  obtain ⟨xs, n, h1, h2, _⟩ := D.ex
  intro z
  rcases List.mem_cons.mp z with e | z
  · rw [e, h1] at h; cases h
  · rw [List.mem_singleton.mp z, h2] at h; cases h
theorem Deal.upd {H : Hp} {d l p : Addr} {o : HO} (D : Deal H d l) (h : p ∉ [d, l]) : Deal (upd H p o) d l := by
  obtain ⟨xs, n, h1, h2, h3⟩ := D.ex
  have n1 : d ≠ p := fun e => h (by simp [e])
  have n2 : l ≠ p := fun e => h (by simp [e])
  exact ⟨xs, n, by rw [upd_ne n1]; exact h1, by rw [upd_ne n2]; exact h2, h3⟩
theorem Deal.none {H : Hp} {d l : Addr} (D : Deal H d l) : ∀ b ∈ [d, l], H b ≠ none := by
  obtain ⟨xs, n, h1, h2, _⟩ := D.ex
  intro b hb
  rcases List.mem_cons.mp hb with e | z
  · rw [e, h1]; simp
  · rw [List.mem_singleton.mp z, h2]; simp
/-- what a drawing def hands on: the source stands, all else stands -/
structure Drew (d l : Addr) (H H' : Hp) : Prop where
  deal : Deal H' d l
  grow : Grow [d, l] H H'
theorem Drew.trans {d l : Addr} {H H1 H2 : Hp} (a : Drew d l H H1) (b : Drew d l H1 H2) : Drew d l H H2 := ⟨b.deal, a.grow.trans b.grow⟩
theorem Drew.new {d l : Addr} {H H' : Hp} {p : Addr} {o : HO} (a : Drew d l H H') (h : H' p = none) : Drew d l H (upd H' p o) :=
  ⟨a.deal.upd (a.deal.fresh h), a.grow.trans (Grow.of (same_new h))⟩
theorem Drew.refl {d l : Addr} {H : Hp} (D : Deal H d l) : Drew d l H H := ⟨D, Grow.refl _ _⟩
theorem Drew.same {d l : Addr} {H H' H2 : Hp} (a : Drew d l H H') (e : Same H' H2) : Drew d l H H2 := ⟨a.deal.same e, a.grow.trans (Grow.of e)⟩
theorem Drew.get {d l : Addr} {H H' : Hp} {p : Addr} {o : HO} (a : Drew d l H H') (n : p ∉ [d, l]) (h : H p = some o) : H' p = some o := a.grow p o n h
theorem Drew.seqL {d l : Addr} {K : PySem.W.Frag} {H H' : Hp} {a : Addr} {xs : List V} (g : Drew d l H H') (n : a ∉ [d, l]) (h : SqL K H a xs) : SqL K H' a xs := g.grow.seqL n h
theorem Drew.free {d l : Addr} {H H' : Hp} {p : Addr} (a : Drew d l H H') (h : H' p = none) : H p = none := a.grow.none a.deal.none h
end Eb

/-! ## figures: plain mathematics -/
namespace Eb
/-- the figures of n, the last one first -/
def digs (b n : Int) : List Int := if h : 2 ≤ b ∧ b ≤ n then (n % b) :: digs b (n / b) else [n]
termination_by n.toNat
decreasing_by
  have h1 : n / b < n := Int.ediv_lt_self_of_pos_of_ne_one (by omega) (by omega)
  have h2 : 0 ≤ n / b := Int.ediv_nonneg (by omega) (by omega)
  omega
theorem digs_lt {b n : Int} (h : n < b) : digs b n = [n] := by
  rw [digs, dif_neg (by omega)]
theorem digs_ge {b n : Int} (hb : 2 ≤ b) (h : b ≤ n) : digs b n = (n % b) :: digs b (n / b) := by
  rw [digs, dif_pos ⟨hb, h⟩]
theorem div_lt {b n : Int} (hb : 2 ≤ b) (h : b ≤ n) : n / b < n := Int.ediv_lt_self_of_pos_of_ne_one (by omega) (by omega)
theorem div_nn {b n : Int} (hb : 2 ≤ b) (h : 0 ≤ n) : 0 ≤ n / b := Int.ediv_nonneg h (by omega)
theorem div_pos {b n : Int} (hb : 2 ≤ b) (h : b ≤ n) : 1 ≤ n / b := by
  have := Int.le_ediv_of_mul_le (a := 1) (b := n) (c := b) (by omega) (by omega)
  exact this
theorem div_zero {b n : Int} (h0 : 0 ≤ n) (h : n < b) : n / b = 0 := Int.ediv_eq_zero_of_lt h0 h
theorem mod_self {b n : Int} (h0 : 0 ≤ n) (h : n < b) : n % b = n := Int.emod_eq_of_lt h0 h
/-- induction along the figures -/
theorem digs_ind {b : Int} (hb : 2 ≤ b) {P : Int → Prop} (h0 : ∀ n, 0 ≤ n → n < b → P n) (h1 : ∀ n, b ≤ n → P (n / b) → P n) : ∀ n, 0 ≤ n → P n := by
  have go : ∀ (k : Nat) (n : Int), n.toNat ≤ k → 0 ≤ n → P n := by
    intro k
    induction k with
    | zero =>
      intro n hk hn
      exact h0 n hn (by omega)
    | succ k ih =>
      intro n hk hn
      by_cases c : n < b
      · exact h0 n hn c
      · have a := div_lt hb (Int.not_lt.mp c)
        have d := div_nn hb hn
        exact h1 n (Int.not_lt.mp c) (ih _ (by omega) d)
  intro n hn
  exact go n.toNat n (Nat.le_refl _) hn
/-- what a walk that divides on has still to tell -/
def rest (b n : Int) : List Int := if n ≤ 0 then [] else digs b n
theorem rest_zero {b n : Int} (h : n ≤ 0) : rest b n = [] := if_pos h
theorem rest_pos {b n : Int} (h : 0 < n) : rest b n = digs b n := if_neg (by omega)
theorem digs_rest {b n : Int} (hb : 2 ≤ b) (h0 : 0 ≤ n) : digs b n = (n % b) :: rest b (n / b) := by
  by_cases c : n < b
  · rw [digs_lt c, div_zero h0 c, rest_zero (Int.le_refl _), mod_self h0 c]
  · have c' := Int.not_lt.mp c
    rw [digs_ge hb c', rest_pos (by have := div_pos hb c'; omega)]
theorem rest_step {b n : Int} (hb : 2 ≤ b) (h : 0 < n) : rest b n = (n % b) :: rest b (n / b) := by
  rw [rest_pos h, digs_rest hb (by omega)]
theorem digs_range {b : Int} (hb : 2 ≤ b) : ∀ n, 0 ≤ n → ∀ x ∈ digs b n, 0 ≤ x ∧ x < b := by
  refine digs_ind hb (fun n h0 h1 x hx => ?_) (fun n h ih x hx => ?_)
  · rw [digs_lt h1, List.mem_singleton] at hx
    omega
  · rw [digs_ge hb h] at hx
    rcases List.mem_cons.mp hx with e | hx
    · rw [e]
      exact ⟨Int.emod_nonneg _ (by omega), Int.emod_lt_of_pos _ (by omega)⟩
    · exact ih x hx
theorem digs_ne {b n : Int} (hb : 2 ≤ b) (h0 : 0 ≤ n) : digs b n ≠ [] := by
  rw [digs_rest hb h0]
  simp
theorem digs_len {b : Int} (hb : 2 ≤ b) : ∀ (k : Nat) (n : Int), 0 ≤ n → n < 2 ^ (k + 1) → (digs b n).length ≤ k + 1 := by
  intro k
  induction k with
  | zero =>
    intro n h0 h1
    rw [digs_lt (by omega)]
    simp
  | succ k ih =>
    intro n h0 h1
    by_cases c : n < b
    · rw [digs_lt c]
      simp
    · have c' := Int.not_lt.mp c
      rw [digs_ge hb c', List.length_cons]
      have e : (2 : Int) ^ (k + 1 + 1) = 2 ^ (k + 1) * 2 := Int.pow_succ _ _
      have h2 : n / b ≤ n / 2 := by
        have h3 : n / b * b ≤ n := Int.ediv_mul_le _ (by omega)
        have h4 : n / b * 2 ≤ n / b * b := Int.mul_le_mul_of_nonneg_left hb (div_nn hb h0)
        omega
      have := ih (n / b) (div_nn hb h0) (by omega)
      omega
theorem digs_small {b n : Int} (hb : 2 ≤ b) (h0 : 0 ≤ n) (s : Sm n) : (digs b n).length ≤ 1900 := by
  refine digs_len hb 1899 n h0 ?_
  have h : n.natAbs < 2 ^ 1900 := s
  have e : ((2 ^ 1900 : Nat) : Int) = (2 : Int) ^ (1899 + 1) := by
    rw [Int.natCast_pow]
    rfl
  omega
theorem Sm.div {b n : Int} (hb : 2 ≤ b) (h0 : 0 ≤ n) (s : Sm n) : Sm (n / b) := by
  refine s.le (div_nn hb h0) ?_
  by_cases c : n < b
  · rw [div_zero h0 c]
    exact h0
  · have := div_lt hb (Int.not_lt.mp c)
    omega
/-- the sum of the figures -/
def dsum (b n : Int) : Int := (digs b n).sum
theorem dsum_nn {b : Int} (hb : 2 ≤ b) : ∀ n, 0 ≤ n → 0 ≤ dsum b n := by
  unfold dsum
  refine digs_ind hb (fun n h0 h1 => ?_) (fun n h ih => ?_)
  · rw [digs_lt h1]
    simpa using h0
  · rw [digs_ge hb h, List.sum_cons]
    have := Int.emod_nonneg n (show b ≠ 0 by omega)
    omega
theorem dsum_le {b : Int} (hb : 2 ≤ b) : ∀ n, 0 ≤ n → dsum b n ≤ n := by
  unfold dsum
  refine digs_ind hb (fun n h0 h1 => ?_) (fun n h ih => ?_)
  · rw [digs_lt h1]
    simp
  · rw [digs_ge hb h, List.sum_cons]
    have h1 := Int.emod_add_mul_ediv n b
    have h2 : 1 * (n / b) ≤ b * (n / b) := Int.mul_le_mul_of_nonneg_right (by omega) (div_nn hb (by omega))
    omega
theorem dsum_lt {b n : Int} (hb : 2 ≤ b) (h : b ≤ n) : dsum b n < n := by
  unfold dsum
  rw [digs_ge hb h, List.sum_cons]
  have h1 := Int.emod_add_mul_ediv n b
  have h2 : 2 * (n / b) ≤ b * (n / b) := Int.mul_le_mul_of_nonneg_right hb (div_nn hb (by omega))
  have h3 := div_pos hb h
  have h4 := dsum_le hb (n / b) (by omega)
  unfold dsum at h4
  omega
theorem dsum_small {b n : Int} (h : n < b) : dsum b n = n := by
  unfold dsum
  rw [digs_lt h]
  simp
/-- the figure that is left -/
def rooted (b n : Int) : Int := if h : 2 ≤ b ∧ b ≤ n then rooted b (dsum b n) else n
termination_by n.toNat
decreasing_by
  have h1 := dsum_lt h.1 h.2
  omega
theorem rooted_lt {b n : Int} (h : n < b) : rooted b n = n := by
  rw [rooted, dif_neg (by omega)]
theorem rooted_ge {b n : Int} (hb : 2 ≤ b) (h : b ≤ n) : rooted b n = rooted b (dsum b n) := by
  rw [rooted, dif_pos ⟨hb, h⟩]
theorem rooted_dsum {b n : Int} (hb : 2 ≤ b) : rooted b (dsum b n) = rooted b n := by
  by_cases c : n < b
  · rw [dsum_small c]
  · exact (rooted_ge hb (Int.not_lt.mp c)).symm
theorem rooted_ind {b : Int} (hb : 2 ≤ b) {P : Int → Prop} (h0 : ∀ n, 0 ≤ n → n < b → P n) (h1 : ∀ n, b ≤ n → P (dsum b n) → P n) : ∀ n, 0 ≤ n → P n := by
  have go : ∀ (k : Nat) (n : Int), n.toNat ≤ k → 0 ≤ n → P n := by
    intro k
    induction k with
    | zero =>
      intro n hk hn
      exact h0 n hn (by omega)
    | succ k ih =>
      intro n hk hn
      by_cases c : n < b
      · exact h0 n hn c
      · have a := dsum_lt hb (Int.not_lt.mp c)
        have d := dsum_nn hb n hn
        exact h1 n (Int.not_lt.mp c) (ih _ (by omega) d)
  intro n hn
  exact go n.toNat n (Nat.le_refl _) hn
theorem rooted_le {b : Int} (hb : 2 ≤ b) : ∀ n, 0 ≤ n → rooted b n ≤ n ∧ 0 ≤ rooted b n := by
  refine rooted_ind hb (fun n h0 h1 => ?_) (fun n h ih => ?_)
  · rw [rooted_lt h1]
    omega
  · rw [rooted_ge hb h]
    have := dsum_le hb n (by omega)
    omega
end Eb
namespace Eb
/-- the number with some figures, the greatest place first -/
def ofs (b : Int) (xs : List Int) : Int := xs.foldl (fun a x => a * b + x) 0
theorem ofs_snoc (b : Int) (xs : List Int) (x : Int) : ofs b (xs ++ [x]) = ofs b xs * b + x := by
  unfold ofs
  rw [List.foldl_append]
  rfl
theorem ofs_take {b : Int} {xs : List Int} {i : Nat} {x : Int} (h : xs[i]? = some x) : ofs b (xs.take (i + 1)) = ofs b (xs.take i) * b + x := by
  rw [List.take_add_one, h, ← ofs_snoc]
  rfl
/-- all figures lie below the base -/
def InB (b : Int) (xs : List Int) : Prop := ∀ x ∈ xs, 0 ≤ x ∧ x < b
theorem InB.take {b : Int} {xs : List Int} (h : InB b xs) (i : Nat) : InB b (xs.take i) := fun x hx => h x (List.mem_of_mem_take hx)
theorem InB.drop {b : Int} {xs : List Int} (h : InB b xs) (i : Nat) : InB b (xs.drop i) := fun x hx => h x (List.mem_of_mem_drop hx)
theorem InB.append {b : Int} {xs ys : List Int} (h : InB b xs) (g : InB b ys) : InB b (xs ++ ys) := fun x hx => (List.mem_append.mp hx).elim (h x) (g x)
theorem InB.reverse {b : Int} {xs : List Int} (h : InB b xs) : InB b xs.reverse := fun x hx => h x (List.mem_reverse.mp hx)
theorem ofs_range {b : Int} (hb : 2 ≤ b) : ∀ (xs : List Int), InB b xs → 0 ≤ ofs b xs ∧ ofs b xs < b ^ xs.length := by
  intro xs
  have go : ∀ (n : Nat) (xs : List Int), xs.length = n → InB b xs → 0 ≤ ofs b xs ∧ ofs b xs < b ^ xs.length := by
    intro n
    induction n with
    | zero =>
      intro xs e _
      rw [List.length_eq_zero_iff.mp e]
      exact ⟨Int.le_refl _, by rw [List.length_nil, Int.pow_zero]; exact (by decide : (0 : Int) < 1)⟩
    | succ n ih =>
      intro xs e h
      have hne : xs ≠ [] := fun z => by rw [z] at e; cases e
      obtain ⟨ys, z, rfl⟩ : ∃ ys z, xs = ys ++ [z] := ⟨xs.dropLast, xs.getLast hne, (List.dropLast_concat_getLast hne).symm⟩
      have el : ys.length = n := by simpa using e
      have i1 := ih ys el fun x hx => h x (List.mem_append_left _ hx)
      have i2 := h z (by simp)
      rw [ofs_snoc, List.length_append, List.length_singleton, Int.pow_succ]
      have p1 : 0 ≤ ofs b ys * b := Int.mul_nonneg i1.1 (by omega)
      have p2 : (ofs b ys + 1) * b ≤ b ^ ys.length * b := Int.mul_le_mul_of_nonneg_right (by omega) (by omega)
      rw [Int.add_mul] at p2
      omega
  exact go xs.length xs rfl
theorem pow_mono {b : Int} (hb : 2 ≤ b) {i j : Nat} (h : i ≤ j) : b ^ i ≤ b ^ j := by
  induction j with
  | zero =>
    have : i = 0 := by omega
    subst this
    exact Int.le_refl _
  | succ j ih =>
    by_cases e : i = j + 1
    · subst e
      exact Int.le_refl _
    · have h1 := ih (by omega)
      have h0 : 0 < b ^ j := Int.pow_pos (by omega)
      rw [Int.pow_succ]
      have h2 : b ^ j * 1 ≤ b ^ j * b := Int.mul_le_mul_of_nonneg_left (by omega) (by omega)
      omega
/-- partial numbers of figures that are small are small -/
theorem ofs_sm {b : Int} (hb : 2 ≤ b) {xs : List Int} (h : InB b xs) (hs : b ^ xs.length ≤ 10 ^ 61) : ∀ i, i ≤ xs.length → Sm (ofs b (xs.take i)) := fun i hi => by
  have r := ofs_range hb _ (h.take i)
  have e : (xs.take i).length ≤ xs.length := by
    rw [List.length_take]
    omega
  have m := pow_mono hb e
  exact sm_of r.1 (by omega)
theorem pow_le {a b : Int} (h0 : 0 ≤ a) (h : a ≤ b) : ∀ k : Nat, a ^ k ≤ b ^ k
  | 0 => by rw [Int.pow_zero, Int.pow_zero]; exact Int.le_refl _
  | k + 1 => by
    rw [Int.pow_succ, Int.pow_succ]
    exact Int.mul_le_mul (pow_le h0 h k) h h0 (Int.pow_nonneg (by omega))
theorem pow_two_le {b : Int} (hb : 2 ≤ b) : ∀ k : Nat, (2 : Int) ^ k ≤ b ^ k
  | 0 => by rw [Int.pow_zero, Int.pow_zero]; decide
  | k + 1 => by
    rw [Int.pow_succ, Int.pow_succ]
    have h1 := pow_two_le hb k
    have h0 : 0 < (2 : Int) ^ k := Int.pow_pos (by omega)
    exact Int.mul_le_mul h1 hb (by omega) (by omega)
theorem span_le {b : Int} (hb : 2 ≤ b) {k : Nat} (h : b ^ k < 10 ^ 60) : k < 200 := by
  by_cases c : k < 200
  · exact c
  · have h1 := pow_two_le hb k
    have h2 := pow_mono (b := 2) (by decide) (show 200 ≤ k by omega)
    have h3 : (10 : Int) ^ 60 < 2 ^ 200 := by decide +kernel
    omega
end Eb
namespace Eb
/-! ### figures by places -/
/-- the number of figures, the last one first -/
def val (b : Int) : List Int → Int
  | [] => 0
  | x :: r => x + b * val b r
theorem ofs_append (b : Int) : ∀ ys xs : List Int, ofs b (xs ++ ys) = ofs b xs * b ^ ys.length + ofs b ys := by
  intro ys
  have go : ∀ (n : Nat) (ys : List Int), ys.length = n → ∀ xs, ofs b (xs ++ ys) = ofs b xs * b ^ ys.length + ofs b ys := by
    intro n
    induction n with
    | zero =>
      intro ys e xs
      rw [List.length_eq_zero_iff.mp e, List.append_nil, List.length_nil, Int.pow_zero, Int.mul_one]
      show ofs b xs = ofs b xs + 0
      omega
    | succ n ih =>
      intro ys e xs
      have hne : ys ≠ [] := fun z => by rw [z] at e; cases e
      obtain ⟨zs, z, rfl⟩ : ∃ zs z, ys = zs ++ [z] := ⟨ys.dropLast, ys.getLast hne, (List.dropLast_concat_getLast hne).symm⟩
      have el : zs.length = n := by simpa using e
      rw [← List.append_assoc, ofs_snoc, ih zs el, ofs_snoc, List.length_append, List.length_singleton, Int.pow_succ, Int.add_mul, Int.mul_assoc]
      omega
  exact go ys.length ys rfl
theorem ofs_rev (b : Int) : ∀ ds : List Int, ofs b ds.reverse = val b ds
  | [] => rfl
  | x :: r => by
    rw [List.reverse_cons, ofs_snoc, ofs_rev b r, val, Int.mul_comm]
    omega
theorem val_digs {b : Int} (hb : 2 ≤ b) : ∀ n, 0 ≤ n → val b (digs b n) = n := by
  refine digs_ind hb (fun n h0 h1 => ?_) (fun n h ih => ?_)
  · rw [digs_lt h1]
    show n + b * 0 = n
    rw [Int.mul_zero]
    omega
  · rw [digs_ge hb h, val, ih]
    exact Int.emod_add_mul_ediv n b
theorem ofs_digs {b n : Int} (hb : 2 ≤ b) (h0 : 0 ≤ n) : ofs b (digs b n).reverse = n := by
  rw [ofs_rev, val_digs hb n h0]
theorem val_split (b : Int) : ∀ (k : Nat) (ds : List Int), val b ds = val b (ds.take k) + b ^ k * val b (ds.drop k)
  | 0, ds => by
    rw [List.take_zero, List.drop_zero, Int.pow_zero, Int.one_mul]
    show val b ds = 0 + val b ds
    omega
  | k + 1, [] => by
    rw [List.take_nil, List.drop_nil]
    show (0 : Int) = 0 + b ^ (k + 1) * 0
    rw [Int.mul_zero]
    rfl
  | k + 1, x :: r => by
    rw [List.take_succ_cons, List.drop_succ_cons, val, val, val_split b k r, Int.mul_add, Int.pow_succ, Int.mul_comm (b ^ k) b, Int.mul_assoc]
    omega
theorem val_range {b : Int} (hb : 2 ≤ b) {ds : List Int} (h : InB b ds) : 0 ≤ val b ds ∧ val b ds < b ^ ds.length := by
  have r := ofs_range hb ds.reverse h.reverse
  rw [ofs_rev, List.length_reverse] at r
  exact r
theorem inB_digs {b n : Int} (hb : 2 ≤ b) (h0 : 0 ≤ n) : InB b (digs b n) := digs_range hb n h0
/-- the rest by a power: the last figures -/
theorem mod_pow {b n : Int} (hb : 2 ≤ b) (h0 : 0 ≤ n) (k : Nat) : n % b ^ k = val b ((digs b n).take k) := by
  have r := val_range hb ((inB_digs hb h0).take k)
  have e := val_split b k (digs b n)
  rw [val_digs hb n h0] at e
  have l : ((digs b n).take k).length ≤ k := by
    rw [List.length_take]
    omega
  have m := pow_mono hb l
  have e2 : (val b ((digs b n).take k) + b ^ k * val b ((digs b n).drop k)) % b ^ k = val b ((digs b n).take k) := by
    rw [Int.add_mul_emod_self_left, Int.emod_eq_of_lt r.1 (by omega)]
  rw [← e] at e2
  exact e2
/-- the quotient by a power: the first figures -/
theorem div_pow {b n : Int} (hb : 2 ≤ b) (h0 : 0 ≤ n) (k : Nat) : n / b ^ k = val b ((digs b n).drop k) := by
  have r := val_range hb ((inB_digs hb h0).take k)
  have e := val_split b k (digs b n)
  rw [val_digs hb n h0] at e
  have l : ((digs b n).take k).length ≤ k := by
    rw [List.length_take]
    omega
  have m := pow_mono hb l
  have p : 0 < b ^ k := Int.pow_pos (by omega)
  have e2 : (val b ((digs b n).take k) + b ^ k * val b ((digs b n).drop k)) / b ^ k = val b ((digs b n).drop k) := by
    rw [Int.add_mul_ediv_left _ _ (by omega), Int.ediv_eq_zero_of_lt r.1 (by omega)]
    omega
  rw [← e] at e2
  exact e2
theorem val_mod {b : Int} (hb : 2 ≤ b) {ds : List Int} (h : InB b ds) : val b ds % b = ds.headD 0 := by
  cases ds with
  | nil => rfl
  | cons x r =>
    have hx := h x (by simp)
    show (x + b * val b r) % b = x
    rw [Int.add_mul_emod_self_left, Int.emod_eq_of_lt hx.1 hx.2]
theorem figure_at {b n : Int} (hb : 2 ≤ b) (h0 : 0 ≤ n) (k : Nat) : n / b ^ k % b = (digs b n).getD k 0 := by
  rw [div_pow hb h0, val_mod hb ((inB_digs hb h0).drop k)]
  rw [List.headD_eq_head?_getD, List.head?_drop]
  rfl
theorem ofs_tail {b n : Int} (hb : 2 ≤ b) (h0 : 0 ≤ n) (k : Nat) : ofs b ((digs b n).reverse.drop ((digs b n).length - k)) = n % b ^ k := by
  rw [mod_pow hb h0, ← ofs_rev]
  congr 1
  rw [List.drop_reverse]
  by_cases c : k ≤ (digs b n).length
  · rw [show (digs b n).length - ((digs b n).length - k) = k by omega]
  · rw [List.take_of_length_le (by omega), List.take_of_length_le (by omega)]
theorem getD_rev {ds : List Int} {k : Nat} (h : k < ds.length) : ds.reverse[ds.length - 1 - k]? = some (ds.getD k 0) := by
  rw [List.getElem?_reverse (by omega), show ds.length - 1 - (ds.length - 1 - k) = k by omega]
  rw [List.getD_eq_getElem?_getD, List.getElem?_eq_getElem h]
  rfl
/-- the greatest place is a power at most the number -/
theorem digs_top {b : Int} (hb : 2 ≤ b) : ∀ n, 1 ≤ n → b ^ ((digs b n).length - 1) ≤ n := by
  intro n hn
  have go : ∀ n, 0 ≤ n → 1 ≤ n → b ^ ((digs b n).length - 1) ≤ n := by
    refine digs_ind hb (fun n h0 h1 h => ?_) (fun n h ih h1 => ?_)
    · rw [digs_lt h1]
      show b ^ 0 ≤ n
      rw [Int.pow_zero]
      exact h
    · have i := ih (div_pos hb h)
      rw [digs_ge hb h, List.length_cons, Nat.add_sub_cancel]
      have ne : (digs b (n / b)).length ≠ 0 := fun z => digs_ne hb (div_nn hb (by omega)) (List.length_eq_zero_iff.mp z)
      rw [show (digs b (n / b)).length = ((digs b (n / b)).length - 1) + 1 by omega, Int.pow_succ]
      have m : b ^ ((digs b (n / b)).length - 1) * b ≤ n / b * b := Int.mul_le_mul_of_nonneg_right i (by omega)
      have d : n / b * b ≤ n := Int.ediv_mul_le _ (by omega)
      omega
  exact go n (by omega) hn
/-- figures of a number below 10 ^ 60 in a base up to 10 ^ 30 -/
theorem len_pow {b n : Int} (hb : 2 ≤ b) (hb2 : b ≤ 10 ^ 30) (h0 : 0 ≤ n) (h1 : n < 10 ^ 60) : b ^ (digs b n).length ≤ 10 ^ 90 := by
  have hp : (10 : Int) ^ 60 * 10 ^ 30 = 10 ^ 90 := by decide
  by_cases c : n = 0
  · rw [c, digs_lt (by omega)]
    show b ^ 1 ≤ _
    rw [Int.pow_one]
    omega
  · have t := digs_top hb n (by omega)
    have ne : (digs b n).length ≠ 0 := fun z => digs_ne hb h0 (List.length_eq_zero_iff.mp z)
    rw [show (digs b n).length = ((digs b n).length - 1) + 1 by omega, Int.pow_succ]
    have m : b ^ ((digs b n).length - 1) * b ≤ 10 ^ 60 * 10 ^ 30 := Int.mul_le_mul (by omega) hb2 (by omega) (by decide)
    omega
theorem len_two {b : Int} (hb : 2 ≤ b) {k : Nat} (h : b ^ k ≤ 10 ^ 90) : k < 300 := by
  by_cases c : k < 300
  · exact c
  · have h1 := pow_two_le hb k
    have h2 := pow_mono (b := 2) (by decide) (show 300 ≤ k by omega)
    have h3 : (10 : Int) ^ 90 < 2 ^ 300 := by decide +kernel
    have h4 : (2 : Int) ^ 300 ≤ 10 ^ 90 := Int.le_trans h2 (Int.le_trans h1 h)
    exact absurd h4 (Int.not_le.mpr h3)
/-- partial numbers of figures are small -/
theorem ofs_smB {b : Int} (hb : 2 ≤ b) {xs : List Int} (h : InB b xs) (hs : b ^ xs.length ≤ 10 ^ 250) : ∀ i, i ≤ xs.length → Sm (ofs b (xs.take i)) := fun i hi => by
  have r := ofs_range hb _ (h.take i)
  have e : (xs.take i).length ≤ xs.length := by
    rw [List.length_take]
    omega
  have m := pow_mono hb e
  exact sm_big r.1 (by omega)
/-- a power of a base has bounded bits -/
theorem pow_bits {b : Int} (h0 : 0 ≤ b) (h1 : b ≤ 10 ^ 31) (k : Nat) : (b ^ k).natAbs < 2 ^ (103 * k + 1) := by
  have hb : b.natAbs < 2 ^ 103 := by
    have : (10 : Int) ^ 31 < 2 ^ 103 := by decide +kernel
    omega
  induction k with
  | zero =>
    rw [Int.pow_zero]
    decide
  | succ k ih =>
    rw [Int.pow_succ, Int.natAbs_mul, show 103 * (k + 1) + 1 = (103 * k + 1) + 103 by omega, Nat.pow_add]
    exact Nat.mul_lt_mul'' ih hb
end Eb
namespace Eb
/-! ### order -/
/-- ascending -/
def srt (xs : List Int) : List Int := xs.mergeSort (fun x y => decide (x ≤ y))
theorem srt_perm (xs : List Int) : (srt xs).Perm xs := List.mergeSort_perm _ _
theorem srt_sorted (xs : List Int) : (srt xs).Pairwise (· ≤ ·) := by
  have h := List.pairwise_mergeSort (le := fun (x y : Int) => decide (x ≤ y)) (fun a b c h1 h2 => decide_eq_true (Int.le_trans (of_decide_eq_true h1) (of_decide_eq_true h2))) (fun a b => by
    rcases Int.le_total a b with h | h
    · rw [decide_eq_true h]
      rfl
    · rw [decide_eq_true h, Bool.or_true]) xs
  exact h.imp fun z => of_decide_eq_true z
theorem srt_eq {xs ys : List Int} (p : ys.Perm xs) (s : ys.Pairwise (· ≤ ·)) : ys = srt xs :=
  List.Perm.eq_of_pairwise (fun a b _ _ h1 h2 => Int.le_antisymm h1 h2) s (srt_sorted xs) (p.trans (srt_perm xs).symm)
theorem srt_same {xs ys : List Int} (p : xs.Perm ys) : srt xs = srt ys := srt_eq ((srt_perm xs).trans p) (srt_sorted xs)
/-- how many unlike ones: as many as there are exactly if none stands twice -/
theorem unlike_len : ∀ (ns ks : List Int), ks.Nodup → (∀ z, z ∈ ks ↔ z ∈ ns) → ks.length ≤ ns.length ∧ (ks.length = ns.length ↔ ns.Nodup)
  | [], ks, _, mem => by
    have : ks = [] := by
      cases ks with
      | nil => rfl
      | cons x r => exact absurd ((mem x).mp (by simp)) (by simp)
    subst this
    simp
  | x :: r, ks, nd, mem => by
    by_cases c : x ∈ r
    · have m2 : ∀ z, z ∈ ks ↔ z ∈ r := fun z => (mem z).trans ⟨fun h => (List.mem_cons.mp h).elim (fun e => e ▸ c) id, fun h => List.mem_cons_of_mem _ h⟩
      have i := unlike_len r ks nd m2
      rw [List.length_cons]
      refine ⟨by omega, fun z => by omega, fun z => absurd c (List.nodup_cons.mp z).1⟩
    · have hx : x ∈ ks := (mem x).mpr (by simp)
      have nd2 := nd.erase x
      have m2 : ∀ z, z ∈ ks.erase x ↔ z ∈ r := fun z => by
        rw [nd.mem_erase_iff, mem z, List.mem_cons]
        constructor
        · rintro ⟨h1, h2⟩
          exact h2.resolve_left h1
        · intro h
          exact ⟨fun e => c (e ▸ h), .inr h⟩
      have i := unlike_len r (ks.erase x) nd2 m2
      have l := List.length_erase_of_mem hx
      have lp : 0 < ks.length := List.length_pos_of_mem hx
      rw [List.length_cons, List.nodup_cons]
      refine ⟨by omega, fun z => ⟨c, i.2.mp (by omega)⟩, fun z => ?_⟩
      have := i.2.mpr z.2
      omega
theorem nodup_take {xs : List Int} {i : Nat} {x : Int} (h : xs[i]? = some x) : (xs.take (i + 1)).Nodup ↔ (xs.take i).Nodup ∧ x ∉ xs.take i := by
  rw [List.take_add_one, h, Option.toList_some, List.nodup_append]
  constructor
  · rintro ⟨h1, _, h3⟩
    exact ⟨h1, fun z => h3 x z x (by simp) rfl⟩
  · rintro ⟨h1, h2⟩
    exact ⟨h1, by simp, fun a ha b hb e => h2 (by rw [List.mem_singleton.mp hb] at e; exact e ▸ ha)⟩
end Eb

/-! ## figures: more mathematics (order, joined numbers, sums) -/
namespace Eb
theorem val_append (b : Int) : ∀ xs ys : List Int, val b (xs ++ ys) = val b xs + b ^ xs.length * val b ys
  | [], ys => by
    rw [List.nil_append, List.length_nil, Int.pow_zero, Int.one_mul]
    show val b ys = 0 + val b ys
    omega
  | x :: r, ys => by
    rw [List.cons_append, val, val, val_append b r ys, List.length_cons, Int.pow_succ, Int.mul_add, Int.mul_comm (b ^ r.length) b, Int.mul_assoc]
    omega
/-- noughts at the end taken away -/
def tz : List Int → List Int
  | [] => []
  | x :: r => if tz r = [] ∧ x = 0 then [] else x :: tz r
def nz (l : List Int) : List Int := if l = [] then [0] else l
theorem nz_ne {l : List Int} (h : l ≠ []) : nz l = l := if_neg h
theorem tz_zero {b : Int} (hb : 2 ≤ b) : ∀ ds : List Int, InB b ds → (val b ds = 0 ↔ tz ds = [])
  | [], _ => by simp [val, tz]
  | x :: r, h => by
    have i := tz_zero hb r fun y hy => h y (by simp [hy])
    have hx := h x (by simp)
    have hv := (val_range hb (ds := r) fun y hy => h y (by simp [hy])).1
    have hm : 0 ≤ b * val b r := Int.mul_nonneg (by omega) hv
    rw [val, tz]
    constructor
    · intro z
      have x0 : x = 0 := by omega
      have m0 : b * val b r = 0 := by omega
      have v0 : val b r = 0 := by
        rcases Int.mul_eq_zero.mp m0 with e | e
        · omega
        · exact e
      rw [if_pos ⟨i.mp v0, x0⟩]
    · intro z
      by_cases c : tz r = [] ∧ x = 0
      · rw [i.mpr c.1, c.2, Int.mul_zero]
        rfl
      · rw [if_neg c] at z
        cases z
theorem digs_snoc {b m x : Int} (hb : 2 ≤ b) (hm : 1 ≤ m) (x0 : 0 ≤ x) (x1 : x < b) : digs b (x + b * m) = x :: digs b m := by
  have h1 : b * 1 ≤ b * m := Int.mul_le_mul_of_nonneg_left hm (by omega)
  rw [digs_ge hb (by omega), Int.add_mul_emod_self_left, Int.emod_eq_of_lt x0 x1, Int.add_mul_ediv_left _ _ (by omega), Int.ediv_eq_zero_of_lt x0 x1, Int.zero_add]
theorem digs_val {b : Int} (hb : 2 ≤ b) : ∀ ds : List Int, InB b ds → digs b (val b ds) = nz (tz ds)
  | [], _ => by
    show digs b 0 = nz []
    rw [digs_lt (by omega)]
    rfl
  | x :: r, h => by
    have hr : InB b r := fun y hy => h y (by simp [hy])
    have hx := h x (by simp)
    have i := digs_val hb r hr
    have t := tz_zero hb r hr
    have hv := (val_range hb hr).1
    rw [val, tz]
    by_cases c : val b r = 0
    · rw [c, Int.mul_zero, Int.add_zero, digs_lt hx.2]
      have e := t.mp c
      by_cases x0 : x = 0
      · rw [if_pos ⟨e, x0⟩, x0]
        rfl
      · rw [if_neg (fun z => x0 z.2), e]
        rfl
    · have e : tz r ≠ [] := fun z => c (t.mpr z)
      rw [digs_snoc hb (by omega) hx.1 hx.2, i, nz_ne e, if_neg (fun z => e z.1), nz_ne (by simp)]
theorem tz_sum : ∀ ds : List Int, (tz ds).sum = ds.sum
  | [] => rfl
  | x :: r => by
    rw [tz, List.sum_cons, ← tz_sum r]
    by_cases c : tz r = [] ∧ x = 0
    · rw [if_pos c, c.1, c.2]
      rfl
    · rw [if_neg c, List.sum_cons]
theorem nz_sum (l : List Int) : (nz l).sum = l.sum := by
  unfold nz
  split
  · rename_i h
    rw [h]
    rfl
  · rfl
theorem dsum_val {b : Int} (hb : 2 ≤ b) {ds : List Int} (h : InB b ds) : dsum b (val b ds) = ds.sum := by
  unfold dsum
  rw [digs_val hb ds h, nz_sum, tz_sum]
theorem ofs_val (b : Int) (xs : List Int) : ofs b xs = val b xs.reverse := by
  rw [← ofs_rev, List.reverse_reverse]
theorem perm_sum {xs ys : List Int} (p : xs.Perm ys) : xs.sum = ys.sum := by
  induction p with
  | nil => rfl
  | cons x _ ih => rw [List.sum_cons, List.sum_cons, ih]
  | swap x y l =>
    simp only [List.sum_cons]
    omega
  | trans _ _ a b => exact a.trans b
theorem dsum_ofs {b : Int} (hb : 2 ≤ b) {xs : List Int} (h : InB b xs) : dsum b (ofs b xs) = xs.sum := by
  rw [ofs_val, dsum_val hb h.reverse]
  exact perm_sum (List.reverse_perm xs)
/-! ### rests by the base less 1 -/
theorem val_dvd (b : Int) : ∀ ds : List Int, (b - 1) ∣ (val b ds - ds.sum)
  | [] => ⟨0, by simp [val]⟩
  | x :: r => by
    obtain ⟨c, hc⟩ := val_dvd b r
    refine ⟨val b r + c, ?_⟩
    rw [val, List.sum_cons, Int.mul_add, ← hc, Int.sub_mul, Int.one_mul]
    omega
theorem emod_same {a b m : Int} (h : m ∣ (a - b)) : a % m = b % m := Int.emod_eq_emod_iff_emod_sub_eq_zero.mpr (Int.emod_eq_zero_of_dvd h)
theorem dsum_mod {b n : Int} (hb : 2 ≤ b) (h0 : 0 ≤ n) : dsum b n % (b - 1) = n % (b - 1) := by
  have h := val_dvd b (digs b n)
  rw [val_digs hb n h0] at h
  exact (emod_same h).symm
theorem rooted_mod {b : Int} (hb : 2 ≤ b) : ∀ n, 0 ≤ n → rooted b n % (b - 1) = n % (b - 1) := by
  refine rooted_ind hb (fun n h0 h1 => ?_) (fun n h ih => ?_)
  · rw [rooted_lt h1]
  · rw [rooted_ge hb h, ih, dsum_mod hb (by omega)]
theorem dsum_pos {b : Int} (hb : 2 ≤ b) : ∀ n, 0 ≤ n → 1 ≤ n → 1 ≤ dsum b n := by
  unfold dsum
  refine digs_ind hb (fun n h0 h1 h => ?_) (fun n h ih h1 => ?_)
  · rw [digs_lt h1]
    simpa using h
  · rw [digs_ge hb h, List.sum_cons]
    have := ih (div_pos hb h)
    have := Int.emod_nonneg n (show b ≠ 0 by omega)
    omega
theorem rooted_range {b : Int} (hb : 2 ≤ b) : ∀ n, 0 ≤ n → 0 ≤ rooted b n ∧ rooted b n < b ∧ (rooted b n = 0 ↔ n = 0) := by
  refine rooted_ind hb (fun n h0 h1 => ?_) (fun n h ih => ?_)
  · rw [rooted_lt h1]
    exact ⟨h0, h1, Iff.rfl⟩
  · rw [rooted_ge hb h]
    have p := dsum_pos hb n (by omega) (by omega)
    refine ⟨ih.1, ih.2.1, ih.2.2.trans ⟨fun z => by omega, fun z => by omega⟩⟩
/-! ### the least and the greatest number -/
theorem ofs_cons (b x : Int) (r : List Int) : ofs b (x :: r) = x * b ^ r.length + ofs b r := by
  rw [show x :: r = [x] ++ r from rfl, ofs_append]
  congr 1
  congr 1
  show (0 : Int) * b + x = x
  omega
theorem least_le {b : Int} (hb : 2 ≤ b) : ∀ (n : Nat) (xs s : List Int), xs.length = n → InB b xs → s.Perm xs → s.Pairwise (· ≤ ·) → ofs b s ≤ ofs b xs := by
  intro n
  induction n with
  | zero =>
    intro xs s e _ p _
    rw [List.length_eq_zero_iff.mp e] at p ⊢
    rw [p.eq_nil]
    exact Int.le_refl _
  | succ n ih =>
    intro xs s e h p ps
    cases xs with
    | nil => cases e
    | cons x r =>
      cases s with
      | nil => exact absurd p.symm.eq_nil (by simp)
      | cons m t =>
        have lt : t.length = r.length := by
          have := p.length_eq
          simpa using this
        have hs : InB b (m :: t) := fun y hy => h y (p.mem_iff.mp hy)
        have mx : m ≤ x := by
          have : x ∈ m :: t := p.mem_iff.mpr (by simp)
          rcases List.mem_cons.mp this with e' | e'
          · omega
          · exact (List.pairwise_cons.mp ps).1 x e'
        rw [ofs_cons, ofs_cons, lt]
        by_cases c : m = x
        · subst c
          have p' : t.Perm r := (List.perm_cons m).mp p
          have := ih r t (by simpa using e) (fun y hy => h y (by simp [hy])) p' (List.pairwise_cons.mp ps).2
          omega
        · have rt := ofs_range hb t fun y hy => hs y (by simp [hy])
          have rr := ofs_range hb r fun y hy => h y (by simp [hy])
          rw [lt] at rt
          have m2 : (m + 1) * b ^ r.length ≤ x * b ^ r.length := Int.mul_le_mul_of_nonneg_right (by omega) (Int.le_of_lt (Int.pow_pos (by omega)))
          rw [Int.add_mul, Int.one_mul] at m2
          omega
theorem greatest_ge {b : Int} (hb : 2 ≤ b) : ∀ (n : Nat) (xs s : List Int), xs.length = n → InB b xs → s.Perm xs → s.Pairwise (fun x y => y ≤ x) → ofs b xs ≤ ofs b s := by
  intro n
  induction n with
  | zero =>
    intro xs s e _ p _
    rw [List.length_eq_zero_iff.mp e] at p ⊢
    rw [p.eq_nil]
    exact Int.le_refl _
  | succ n ih =>
    intro xs s e h p ps
    cases xs with
    | nil => cases e
    | cons x r =>
      cases s with
      | nil => exact absurd p.symm.eq_nil (by simp)
      | cons m t =>
        have lt : t.length = r.length := by
          have := p.length_eq
          simpa using this
        have hs : InB b (m :: t) := fun y hy => h y (p.mem_iff.mp hy)
        have mx : x ≤ m := by
          have : x ∈ m :: t := p.mem_iff.mpr (by simp)
          rcases List.mem_cons.mp this with e' | e'
          · omega
          · exact (List.pairwise_cons.mp ps).1 x e'
        rw [ofs_cons, ofs_cons, lt]
        by_cases c : m = x
        · subst c
          have p' : t.Perm r := (List.perm_cons m).mp p
          have := ih r t (by simpa using e) (fun y hy => h y (by simp [hy])) p' (List.pairwise_cons.mp ps).2
          omega
        · have rt := ofs_range hb t fun y hy => hs y (by simp [hy])
          have rr := ofs_range hb r fun y hy => h y (by simp [hy])
          have m2 : (x + 1) * b ^ r.length ≤ m * b ^ r.length := Int.mul_le_mul_of_nonneg_right (by omega) (Int.le_of_lt (Int.pow_pos (by omega)))
          rw [Int.add_mul, Int.one_mul] at m2
          omega
theorem srt_le {b : Int} (hb : 2 ≤ b) {xs ys : List Int} (h : InB b xs) (p : xs.Perm ys) : ofs b (srt ys) ≤ ofs b xs := by
  rw [← srt_same p]
  exact least_le hb xs.length xs (srt xs) rfl h (srt_perm xs) (srt_sorted xs)
theorem srt_desc (xs : List Int) : (srt xs).reverse.Pairwise (fun x y => y ≤ x) := List.pairwise_reverse.mpr (srt_sorted xs)
theorem srt_ge {b : Int} (hb : 2 ≤ b) {xs ys : List Int} (h : InB b xs) (p : xs.Perm ys) : ofs b xs ≤ ofs b (srt ys).reverse := by
  rw [← srt_same p]
  exact greatest_ge hb xs.length xs (srt xs).reverse rfl h ((List.reverse_perm _).trans (srt_perm xs)) (srt_desc xs)
/-! ### noughts at the end -/
theorem tz_ends : ∀ l : List Int, ∃ k, l = tz l ++ List.replicate k 0
  | [] => ⟨0, rfl⟩
  | x :: r => by
    obtain ⟨k, hk⟩ := tz_ends r
    rw [tz]
    by_cases c : tz r = [] ∧ x = 0
    · refine ⟨k + 1, ?_⟩
      rw [if_pos c, List.nil_append, List.replicate_succ, c.2]
      congr 1
      rw [c.1, List.nil_append] at hk
      exact hk
    · refine ⟨k, ?_⟩
      rw [if_neg c, List.cons_append, ← hk]
theorem tz_snoc (x : Int) (hx : x ≠ 0) : ∀ l : List Int, tz (l ++ [x]) = l ++ [x]
  | [] => by
    show (if tz [] = [] ∧ x = 0 then [] else x :: tz []) = [x]
    rw [if_neg (fun z => hx z.2)]
    rfl
  | y :: r => by
    rw [List.cons_append, tz, tz_snoc x hx r, if_neg (fun z => by simp at z)]
theorem tz_snoc0 : ∀ l : List Int, tz (l ++ [0]) = tz l
  | [] => by
    show (if tz [] = [] ∧ (0 : Int) = 0 then [] else 0 :: tz []) = []
    rw [if_pos ⟨rfl, rfl⟩]
  | y :: r => by
    rw [List.cons_append, tz, tz_snoc0 r, tz]
/-- figures of a number end (the greatest place) in none 0 -/
theorem digs_tz {b n : Int} (hb : 2 ≤ b) (hn : 1 ≤ n) : tz (digs b n) = digs b n := by
  have h := digs_val hb (digs b n) (inB_digs hb (by omega))
  rw [val_digs hb n (by omega)] at h
  unfold nz at h
  split at h
  · rename_i z
    have v := (tz_zero hb (digs b n) (inB_digs hb (by omega))).mpr z
    rw [val_digs hb n (by omega)] at v
    omega
  · exact h.symm
theorem tz_app {xs ys : List Int} (h : tz ys = ys) (hne : ys ≠ []) : tz (xs ++ ys) = xs ++ ys := by
  induction xs with
  | nil => exact h
  | cons x r ih =>
    rw [List.cons_append, tz, ih, if_neg]
    intro z
    have := z.1
    simp at this
    exact hne this.2
/-- the greatest number's figures -/
theorem digs_high {b n : Int} (hb : 2 ≤ b) (h0 : 0 ≤ n) : digs b (ofs b (srt (digs b n)).reverse) = srt (digs b n) := by
  have inb : InB b (srt (digs b n)) := fun x hx => inB_digs hb h0 x ((srt_perm _).mem_iff.mp hx)
  rw [ofs_rev, digs_val hb _ inb]
  have hne : srt (digs b n) ≠ [] := fun z => by
    have := (srt_perm (digs b n)).length_eq
    rw [z] at this
    exact digs_ne hb h0 (List.length_eq_zero_iff.mp this.symm)
  by_cases c : n = 0
  · subst c
    rw [digs_lt (show (0 : Int) < b by omega)]
    have e : srt [(0 : Int)] = [0] := (srt_eq (List.Perm.refl _) (by simp)).symm
    rw [e]
    rfl
  · obtain ⟨ys, z, e⟩ : ∃ ys z, srt (digs b n) = ys ++ [z] := ⟨(srt (digs b n)).dropLast, (srt (digs b n)).getLast hne, (List.dropLast_concat_getLast hne).symm⟩
    have hz : z ≠ 0 := fun z0 => by
      have s := srt_sorted (digs b n)
      rw [e, List.pairwise_append] at s
      have all0 : ∀ x ∈ digs b n, x = 0 := fun x hx => by
        have hx' := (srt_perm (digs b n)).mem_iff.mpr hx
        have r := inB_digs hb h0 x hx
        rw [e] at hx'
        rcases List.mem_append.mp hx' with q | q
        · have := s.2.2 x q z (by simp)
          omega
        · rw [List.mem_singleton.mp q]
          exact z0
      have sm : (digs b n).sum = 0 := by
        have go : ∀ l : List Int, (∀ x ∈ l, x = 0) → l.sum = 0 := by
          intro l
          induction l with
          | nil => intro _; rfl
          | cons x r ih =>
            intro q
            rw [List.sum_cons, q x (by simp), ih fun y hy => q y (by simp [hy])]
            rfl
        exact go _ all0
      have := dsum_pos hb n h0 (by omega)
      unfold dsum at this
      omega
    rw [e, tz_snoc z hz, nz_ne (by simp)]
/-! ### noughts ahead -/
theorem ofs_zeros (b : Int) : ∀ (k : Nat) (ys : List Int), ofs b (List.replicate k 0 ++ ys) = ofs b ys
  | 0, ys => rfl
  | k + 1, ys => by
    rw [List.replicate_succ, List.cons_append, ofs_cons, ofs_zeros b k ys, Int.zero_mul, Int.zero_add]
theorem ofs_shift (b : Int) (xs : List Int) (k : Nat) : ofs b (xs ++ List.replicate k 0) = ofs b xs * b ^ k := by
  rw [ofs_append, List.length_replicate]
  have : ofs b (List.replicate k 0) = 0 := by
    have := ofs_zeros b k []
    rw [List.append_nil] at this
    exact this
  omega
theorem srt_zeros {b : Int} {l : List Int} (h : InB b l) (k : Nat) : srt (l ++ List.replicate k 0) = List.replicate k 0 ++ srt l := by
  refine (srt_eq ?_ ?_).symm
  · exact (List.perm_append_comm.trans (List.Perm.append_right _ (srt_perm l)))
  · rw [List.pairwise_append]
    refine ⟨?_, srt_sorted l, fun x hx y hy => ?_⟩
    · exact List.pairwise_replicate.mpr (.inr (Int.le_refl _))
    · rw [List.eq_of_mem_replicate hx]
      exact (h y ((srt_perm l).mem_iff.mp hy)).1
/-- sorted figures of what has lost noughts -/
theorem low_same {b : Int} {l : List Int} (h : InB b l) : ofs b (srt (nz (tz l))) = ofs b (srt l) := by
  obtain ⟨k, hk⟩ := tz_ends l
  have ht : InB b (tz l) := fun x hx => h x (by rw [hk]; exact List.mem_append_left _ hx)
  have e : srt l = List.replicate k 0 ++ srt (tz l) := by
    conv => lhs; rw [hk]
    exact srt_zeros ht k
  rw [e, ofs_zeros]
  unfold nz
  split
  · rename_i z
    rw [z, show srt [(0 : Int)] = [0] from (srt_eq (List.Perm.refl _) (by simp)).symm, show srt ([] : List Int) = [] from (srt_eq (List.Perm.refl _) (by simp)).symm]
    exact ofs_zeros b 1 []
  · rfl
/-- what is left if noughts at the end are cut off -/
def bare (b n : Int) : Int := if h : 2 ≤ b ∧ 0 < n ∧ n % b = 0 then bare b (n / b) else n
termination_by n.toNat
decreasing_by
  have hle : b ≤ n := by
    by_cases c : b ≤ n
    · exact c
    · have := Int.emod_eq_of_lt (a := n) (b := b) (by omega) (by omega)
      omega
  have h1 : n / b < n := Int.ediv_lt_self_of_pos_of_ne_one (by omega) (by omega)
  have h2 : 0 ≤ n / b := Int.ediv_nonneg (by omega) (by omega)
  omega
theorem bare_step {b n : Int} (hb : 2 ≤ b) (h : 0 < n) (m : n % b = 0) : bare b n = bare b (n / b) := by
  rw [bare, dif_pos ⟨hb, h, m⟩]
theorem bare_end {b n : Int} (h : ¬ (0 < n ∧ n % b = 0)) : bare b n = n := by
  rw [bare, dif_neg (fun z => h z.2)]
theorem bare_ofs {b : Int} (hb : 2 ≤ b) : ∀ (k : Nat) (l : List Int), l.length = k → InB b l → bare b (ofs b l) = ofs b (tz l) := by
  intro k
  induction k with
  | zero =>
    intro l e _
    rw [List.length_eq_zero_iff.mp e]
    exact bare_end (fun z => absurd z.1 (Int.lt_irrefl 0))
  | succ k ih =>
    intro l e h
    have hne : l ≠ [] := fun z => by rw [z] at e; cases e
    obtain ⟨ys, x, rfl⟩ : ∃ ys x, l = ys ++ [x] := ⟨l.dropLast, l.getLast hne, (List.dropLast_concat_getLast hne).symm⟩
    have hy : InB b ys := fun y q => h y (List.mem_append_left _ q)
    have hx := h x (by simp)
    have ry := (ofs_range hb ys hy).1
    have i := ih ys (by simpa using e) hy
    rw [ofs_snoc]
    have md : (ofs b ys * b + x) % b = x := by
      rw [Int.add_comm, Int.add_mul_emod_self_right, Int.emod_eq_of_lt hx.1 hx.2]
    by_cases c : x = 0
    · subst c
      rw [tz_snoc0, ← i, Int.add_zero]
      by_cases z : ofs b ys = 0
      · rw [z, Int.zero_mul]
      · have p : 1 * b ≤ ofs b ys * b := Int.mul_le_mul_of_nonneg_right (by omega) (by omega)
        rw [bare_step hb (by omega) (Int.mul_emod_left _ _), Int.mul_ediv_cancel _ (by omega)]
    · rw [tz_snoc x c, ofs_snoc]
      exact bare_end fun z => c (by rw [md] at z; exact z.2)
/-- a number turned about twice -/
theorem turned_twice {b n : Int} (hb : 2 ≤ b) (h0 : 0 ≤ n) : ofs b (digs b (ofs b (digs b n))) = bare b n := by
  have inr := (inB_digs hb h0).reverse
  have e1 : ofs b (digs b n) = val b (digs b n).reverse := ofs_val b _
  rw [e1, digs_val hb _ inr]
  have e2 := bare_ofs hb _ (digs b n).reverse rfl inr
  rw [ofs_digs hb h0] at e2
  rw [e2]
  unfold nz
  split
  · rename_i z
    rw [z]
    exact ofs_zeros b 1 []
  · rfl
theorem ofs_inj {b : Int} (hb : 2 ≤ b) : ∀ (k : Nat) (xs ys : List Int), xs.length = k → ys.length = k → InB b xs → InB b ys → ofs b xs = ofs b ys → xs = ys := by
  intro k
  induction k with
  | zero =>
    intro xs ys e1 e2 _ _ _
    rw [List.length_eq_zero_iff.mp e1, List.length_eq_zero_iff.mp e2]
  | succ k ih =>
    intro xs ys e1 e2 h1 h2 e
    cases xs with
    | nil => cases e1
    | cons x r =>
      cases ys with
      | nil => cases e2
      | cons y q =>
        have lr : r.length = k := by simpa using e1
        have lq : q.length = k := by simpa using e2
        have rr := ofs_range hb r fun z hz => h1 z (by simp [hz])
        have rq := ofs_range hb q fun z hz => h2 z (by simp [hz])
        rw [ofs_cons, ofs_cons, lr, lq] at e
        rw [lr] at rr
        rw [lq] at rq
        have p : 0 < b ^ k := Int.pow_pos (by omega)
        have xy : x = y := by
          rcases Int.lt_trichotomy x y with c | c | c
          · have m : (x + 1) * b ^ k ≤ y * b ^ k := Int.mul_le_mul_of_nonneg_right (by omega) (by omega)
            rw [Int.add_mul, Int.one_mul] at m
            omega
          · exact c
          · have m : (y + 1) * b ^ k ≤ x * b ^ k := Int.mul_le_mul_of_nonneg_right (by omega) (by omega)
            rw [Int.add_mul, Int.one_mul] at m
            omega
        subst xy
        rw [ih r q lr lq (fun z hz => h1 z (by simp [hz])) (fun z hz => h2 z (by simp [hz])) (by omega)]
theorem mirrored_iff {b n : Int} (hb : 2 ≤ b) (h0 : 0 ≤ n) : ((digs b n).reverse = digs b n ↔ ofs b (digs b n) = n) := by
  have inb := inB_digs hb h0
  constructor
  · intro e
    conv => lhs; rw [← e]
    exact ofs_digs hb h0
  · intro e
    refine ofs_inj hb (digs b n).length _ _ (by rw [List.length_reverse]) rfl inb.reverse inb ?_
    rw [ofs_digs hb h0, e]
/-! ### joined -/
theorem digs_joined {b n o : Int} (hb : 2 ≤ b) (hn : 1 ≤ n) (ho : 0 ≤ o) : digs b (n * b ^ (digs b o).length + o) = digs b o ++ digs b n := by
  have e : n * b ^ (digs b o).length + o = val b (digs b o ++ digs b n) := by
    rw [val_append, val_digs hb n (by omega), val_digs hb o ho, Int.mul_comm]
    omega
  have inb : InB b (digs b o ++ digs b n) := (inB_digs hb ho).append (inB_digs hb (by omega))
  have t := tz_app (xs := digs b o) (digs_tz hb hn) (digs_ne hb (by omega))
  rw [e, digs_val hb _ inb, t, nz_ne]
  intro z
  exact digs_ne hb ho (List.append_eq_nil_iff.mp z).1
theorem lt_pow {b n : Int} (hb : 2 ≤ b) (h0 : 0 ≤ n) : n < b ^ (digs b n).length := by
  have r := (val_range hb (inB_digs hb h0)).2
  rw [val_digs hb n h0] at r
  exact r
theorem ofs_one (b : Int) (k : Nat) : ofs b (1 :: List.replicate k 0) = b ^ k := by
  rw [ofs_cons, List.length_replicate, Int.one_mul]
  have := ofs_zeros b k []
  rw [List.append_nil] at this
  rw [this]
  show b ^ k + 0 = b ^ k
  omega
theorem head_div {b n : Int} (hb : 2 ≤ b) (h0 : 0 ≤ n) {k : Nat} (hk : k ≤ (digs b n).length) : ofs b ((digs b n).reverse.take ((digs b n).length - k)) = n / b ^ k := by
  rw [div_pow hb h0, ← ofs_rev]
  congr 1
  rw [List.take_reverse, show (digs b n).length - ((digs b n).length - k) = k by omega]
theorem sum_places (b : Int) (ds : List Int) : ∀ k : Nat, ((List.range k).map fun j => ds.getD j 0 * b ^ j).sum = val b (ds.take k)
  | 0 => by simp [val]
  | k + 1 => by
    rw [List.range_succ, List.map_append, List.sum_append, sum_places b ds k, List.take_add_one, val_append]
    by_cases c : k < ds.length
    · have e : ds[k]? = some ds[k] := List.getElem?_eq_getElem c
      rw [e, Option.toList_some]
      have g : ds.getD k 0 = ds[k] := by
        rw [List.getD_eq_getElem?_getD, e]
        rfl
      simp only [List.map_cons, List.map_nil, List.sum_cons, List.sum_nil, val, g, Int.mul_zero, Int.add_zero]
      rw [List.length_take, Nat.min_eq_left (by omega), Int.mul_comm]
    · have e : ds[k]? = none := List.getElem?_eq_none (by omega)
      rw [e]
      have g : ds.getD k 0 = 0 := by
        rw [List.getD_eq_getElem?_getD, e]
        rfl
      simp only [List.map_cons, List.map_nil, List.sum_cons, List.sum_nil, g, Int.zero_mul, Option.toList_none, val, Int.mul_zero, Int.add_zero]
theorem first_le {b n : Int} (hb : 2 ≤ b) (h0 : 0 ≤ n) (k : Nat) : 0 ≤ ofs b ((digs b n).reverse.take k) ∧ ofs b ((digs b n).reverse.take k) ≤ n := by
  have inr := (inB_digs hb h0).reverse
  have e := ofs_append b ((digs b n).reverse.drop k) ((digs b n).reverse.take k)
  rw [List.take_append_drop, ofs_digs hb h0] at e
  have r1 := (ofs_range hb _ (inr.take k)).1
  have r2 := (ofs_range hb _ (inr.drop k)).1
  have p : 1 ≤ b ^ ((digs b n).reverse.drop k).length := Int.pow_pos (by omega)
  have m : ofs b ((digs b n).reverse.take k) * 1 ≤ ofs b ((digs b n).reverse.take k) * b ^ ((digs b n).reverse.drop k).length := Int.mul_le_mul_of_nonneg_left p r1
  omega
end Eb
namespace Eb
/-- the power behind the figures of a number that is no giant -/
theorem lenB {b m : Int} (hb : 2 ≤ b) (hb2 : b ≤ 10 ^ 30) (h0 : 0 ≤ m) (h1 : m ≤ 10 ^ 200) : b ^ (digs b m).length ≤ 10 ^ 230 := by
  have hp : (10 : Int) ^ 200 * 10 ^ 30 = 10 ^ 230 := by decide +kernel
  by_cases c : m = 0
  · rw [c, digs_lt (by omega)]
    show b ^ 1 ≤ _
    rw [Int.pow_one]
    have : (10 : Int) ^ 30 ≤ 10 ^ 230 := by decide +kernel
    omega
  · have t := digs_top hb m (by omega)
    have ne : (digs b m).length ≠ 0 := fun z => digs_ne hb h0 (List.length_eq_zero_iff.mp z)
    rw [show (digs b m).length = ((digs b m).length - 1) + 1 by omega, Int.pow_succ]
    have m2 : b ^ ((digs b m).length - 1) * b ≤ 10 ^ 200 * 10 ^ 30 := Int.mul_le_mul (by omega) hb2 (by omega) (by decide +kernel)
    omega
theorem lenB2 {b m : Int} (hb : 2 ≤ b) (hb2 : b ≤ 10 ^ 30) (h0 : 0 ≤ m) (h1 : m ≤ 10 ^ 200) : b ^ (digs b m).length ≤ 10 ^ 250 := by
  have := lenB hb hb2 h0 h1
  have e : (10 : Int) ^ 230 ≤ 10 ^ 250 := by decide +kernel
  omega
/-- the greatest number by the least one -/
theorem high_low {b n : Int} (hb : 2 ≤ b) (h0 : 0 ≤ n) : (digs b (ofs b (srt (digs b n)))).length ≤ (digs b n).length ∧
    ofs b (srt (digs b (ofs b (srt (digs b n))))).reverse * b ^ ((digs b n).length - (digs b (ofs b (srt (digs b n)))).length) = ofs b (srt (digs b n)).reverse := by
  have inb : InB b (srt (digs b n)).reverse := fun x hx => inB_digs hb h0 x ((srt_perm _).mem_iff.mp (List.mem_reverse.mp hx))
  have ll : (srt (digs b n)).reverse.length = (digs b n).length := by
    rw [List.length_reverse, (srt_perm _).length_eq]
  have e1 : digs b (ofs b (srt (digs b n))) = nz (tz (srt (digs b n)).reverse) := by
    rw [ofs_val, digs_val hb _ inb]
  obtain ⟨k, hk⟩ := tz_ends (srt (digs b n)).reverse
  rw [e1]
  by_cases c : tz (srt (digs b n)).reverse = []
  · have n0 : n = 0 := by
      by_cases z : n = 0
      · exact z
      · have p := dsum_pos hb n h0 (by omega)
        unfold dsum at p
        have s1 := perm_sum ((List.reverse_perm (srt (digs b n))).trans (srt_perm (digs b n)))
        have s2 := tz_sum (srt (digs b n)).reverse
        rw [c] at s2
        have s3 : ([] : List Int).sum = 0 := rfl
        omega
    subst n0
    rw [c]
    have d0 : digs b 0 = [0] := digs_lt (by omega)
    rw [d0]
    have e : srt [(0 : Int)] = [0] := (srt_eq (List.Perm.refl _) (by simp)).symm
    rw [e]
    show 1 ≤ 1 ∧ ofs b (srt [0]).reverse * b ^ (1 - 1) = ofs b [0]
    rw [e]
    refine ⟨Nat.le_refl _, ?_⟩
    rw [Nat.sub_self, Int.pow_zero, Int.mul_one]
    rfl
  · rw [nz_ne c]
    have lk : (tz (srt (digs b n)).reverse).length + k = (digs b n).length := by
      have := congrArg List.length hk
      rw [ll, List.length_append, List.length_replicate] at this
      exact this.symm
    have pw : (tz (srt (digs b n)).reverse).Pairwise (fun x y => y ≤ x) := by
      have q := srt_desc (digs b n)
      rw [hk, List.pairwise_append] at q
      exact q.1
    have e2 : srt (tz (srt (digs b n)).reverse) = (tz (srt (digs b n)).reverse).reverse := (srt_eq (List.reverse_perm _) (List.pairwise_reverse.mpr pw)).symm
    refine ⟨by omega, ?_⟩
    rw [e2, List.reverse_reverse, show (digs b n).length - (tz (srt (digs b n)).reverse).length = k by omega, ← ofs_shift, ← hk]
end Eb

/-! ## repr of data: defs that are run where no repr is under way -/
namespace Eb
open PySem PySem.Spec PyProof.Rows L2
/-- no repr is under way around -/
def Grd (A : Around) : Prop := A.guards = some []
/-- a def's promise where no repr is under way -/
structure FnG (P : Program) (w : World) (K : PySem.W.Frag) (mg : Str → Option Value) (base : Heap) (CX : CXT) (k : Nat) (f : Addr) (fd : FuncData) (ps : List Str) (sp : Sp) : Prop where
  len : ∀ vs H Q E, sp vs H Q E → vs.length = ps.length
  go : ∀ (A : Around) (out : List Env) (s : Shared) (H : Hp) (args : Args) (us : List Value) (vs : List V) (Q : VK) (E : XK), Grd A → Room k A → Env0 P w K mg base A out s H → BindsTo s fd args (ps.zip us) →
    Vals vs us → sp vs H Q E → codeAny (model P w) A (.call (.ref f) args) (CR CX out P w H s Q E) s
theorem FnG.of {P : Program} {w : World} {K : PySem.W.Frag} {mg : Str → Option Value} {base : Heap} {CX : CXT} {k : Nat} {f : Addr} {fd : FuncData} {ps : List Str} {sp : Sp} (F : FnOk P w K mg base CX k f fd ps sp) : FnG P w K mg base CX k f fd ps sp :=
  ⟨F.len, fun A out s H args us vs Q E _ => F.run A out s H args us vs Q E⟩
section
variable {P : Program} {w : World} {K : PySem.W.Frag} {mg : Str → Option Value} {base : Heap} {CX : CXT}
/-- a def of the text, by its body, where no repr is under way -/
theorem fun_g {x qual : Str} {st : Stmt} {f : Addr} {fd : FuncData} {N ps : List Str} {k : Nat} {sp : Sp} (F : Fun K x qual st f fd) (S : FnScope N ps (defScope st)) (len : ∀ vs H Q E, sp vs H Q E → vs.length = ps.length)
    (body : ∀ (cdv : Value) (A : Around) (out : List Env) (s : Shared) (H : Hp) (vs : List V) (Q : VK) (E : XK), Grd A → Room k (A.deeper (envOfC qual (defScope st) s.heap.objs.size f cdv)) → sp vs H Q E →
      ∃ t, PSs (cxOf CX0 P w K mg base N qual (defScope st) f cdv A out s H E).nox (defBody st) t ∧ t { nx := fun _ H' => Q .non H', rt := Q } (start N vs) H) : FnG P w K mg base CX0 (k + 1) f fd ps sp := by
  obtain ⟨oc, od, kV, doc, pm, an, cdv, ct, osl, rfl, lk, hcd⟩ := F.ex
  refine ⟨len, fun A out s H args us vs Q E hg hr e0 hb rv hsp => ?_⟩
  have there : ∀ b o, base.get? b = some o → s.heap.get? b = some o := fun b o e => (e0.bs b o e).1
  have KX : K.In s.heap := e0.mod.kin.keeps there
  refine codeAny_call_function hr.depth (KX _ _ lk) rfl S.co S.gen rfl (PySem.W.codeRec_of KX hcd) (hb _ _ _ _ ?_)
  refine wpAny_newFunctionEnv_cells S.kind (fun y hy => (S.par y.1 (List.of_mem_zip hy).1).imp id fun q => ⟨q, PySem.W.cellsFrom_some _ _ _ (.inl q)⟩) fun env he s1 ic => ?_
  subst he
  refine ⟨(e0.mod.nolimit.keeps there).keeps ic.toInCall.keep, codeAny_func ?_⟩
  obtain ⟨t, ht, hq⟩ := body cdv A out s H vs Q E hg (hr.deeper _) hsp
  refine wpAny_mono (ht.nox.run [] s1 (start N vs) H _ (inv_start S hr.hd e0 (len _ _ _ _ hsp) rv ic) hq) (fun fl s' hs => ?_) fun _ _ z => z
  cases fl with
  | next =>
    obtain ⟨_, H', J, q⟩ := hs
    exact ⟨.non, H', J.os, J.bare, J.base, J.hok, rfl, q⟩
  | ret u =>
    obtain ⟨v, _, H', J, rv', q⟩ := hs
    exact ⟨v, H', J.os, J.bare, J.base, J.hok, rv', q⟩
  | brk =>
    obtain ⟨_, _, _, z⟩ := hs
    exact z.elim
  | cont =>
    obtain ⟨_, _, _, z⟩ := hs
    exact z.elim
end
section
variable {X : Cx}
/-- f(e, ..) of such a def -/
theorem pe_callG {CX : CXT} {k : Nat} {f : Addr} {fd : FuncData} {ps : List Str} {sp : Sp} {x : Str} {p pos : Pos} {e : Expr} {es : List Expr} {t : TA} {E : XK} (hG : Grd X.A) (F : FnG X.prog X.w X.K X.mg X.base CX k f fd ps sp) (hr : Room k X.A) (hg : Gl X x)
    (hm : X.mg x = some (.ref f)) (hk : PySem.W.keepIn X.K (.ref f) = true) (hb : Binds X.K fd ps []) (hx : Passes CX X E) (ha : PA X (e :: es) t) (hdb : (x == ("__debug__" : Str)) = false := by decide)
    (he : starEach (e :: es) X.env = (false, eval e X.env) :: starEach es X.env := by rfl) (hpl : (backTo pos (starEach es X.env)).any (·.1) = false := by rfl) :
    PE X (.Call (.Name x p) (e :: es) [] pos) (tCall sp [] E t) := by
  refine ⟨fun pins s σ H Q I h => wpAny_Call_Name_kw (ld_glob I hg hm ?_ hdb)⟩
  refine PySem.W.callWith_K (h₀ := X.base) I.ok.mod.kin hk (thn (ha.run pos pins s σ H _ I h) fun us s1 hh => ?_) he hpl
  obtain ⟨vs, H1, I1, rv, q⟩ := hh
  refine ⟨I1.kIn, ?_⟩
  rw [List.append_nil] at q
  have hl : us.length = ps.length := rv.length.symm.trans (F.len _ _ _ _ q)
  have bt := hb s1 us I1.kIn (by rw [List.append_nil]; exact hl)
  rw [List.append_nil] at bt
  refine wpAny_call (codeAny_mono (F.go X.A X.stack s1 H1 ⟨us, []⟩ us vs Q E hG hr I1.env0 bt rv q) fun r s' hq => ?_)
  cases r with
  | error e => exact hx pins σ H1 s1 e s' I1 hq
  | ok fl =>
    cases fl with
    | ret u => exact I1.after hq
    | next => exact hq.elim
    | brk => exact hq.elim
    | cont => exact hq.elim
/-- an upper bound of the text that repr gives -/
def bnd : PyData → Nat
  | .none => 8
  | .bool _ => 8
  | .int _ => 1921
  | .str x => (reprText x).length
  | .list xs => bndAll xs + 3
  | .tuple xs => bndAll xs + 3
  | .dict _ => 0
where bndAll : List PyData → Nat
  | [] => 0
  | x :: r => bnd x + 2 + bndAll r
def noDict : PyData → Bool
  | .none | .bool _ | .int _ | .str _ => true
  | .list xs => noDictAll xs
  | .tuple xs => noDictAll xs
  | .dict _ => false
where noDictAll : List PyData → Bool
  | [] => true
  | x :: r => noDict x && noDictAll r
mutual
theorem shown_bnd : ∀ d : PyData, d.showable = true → noDict d = true → d.shown.length ≤ bnd d
  | .none, _, _ => by simp only [PyData.shown, bnd]; decide
  | .bool b, _, _ => by cases b <;> simp only [PyData.shown, bnd] <;> decide
  | .int i, h, _ => by
    simp only [PyData.shown, bnd]
    exact PyProof.Rows.int_text_len_1921 (by simpa [PyData.showable] using h)
  | .str x, _, _ => by simp only [PyData.shown, bnd]; exact Nat.le_refl _
  | .list xs, h, g => by
    simp only [PyData.shown, bnd]
    have a := listText_len_le (PyData.shownAll xs)
    have b := shownAll_bnd xs (by simpa [PyData.showable] using h) (by simpa [noDict] using g)
    omega
  | .tuple xs, h, g => by
    simp only [PyData.shown, bnd]
    have a := tupleText_len_le (PyData.shownAll xs)
    have b := shownAll_bnd xs (by simpa [PyData.showable] using h) (by simpa [noDict] using g)
    omega
  | .dict _, _, g => by simp [noDict] at g
theorem shownAll_bnd : ∀ xs : List PyData, PyData.showableAll xs = true → noDict.noDictAll xs = true → ((PyData.shownAll xs).map (·.length)).sum + 2 * (PyData.shownAll xs).length ≤ bnd.bndAll xs
  | [], _, _ => by simp [PyData.shownAll, bnd.bndAll]
  | x :: r, h, g => by
    have h' : x.showable = true ∧ PyData.showableAll r = true := by simpa [PyData.showableAll] using h
    have g' : noDict x = true ∧ noDict.noDictAll r = true := by simpa [noDict.noDictAll] using g
    have a := shown_bnd x h'.1 g'.1
    have b := shownAll_bnd r h'.2 g'.2
    simp only [PyData.shownAll, bnd.bndAll, List.map_cons, List.sum_cons, List.length_cons]
    omega
end
mutual
theorem dp_noDict {K : PySem.W.Frag} {H : Hp} : ∀ (d : PyData) (x : V), Dp K H x d → noDict d = true ∧ d.hasDict = false
  | .none, _, _ => ⟨rfl, by simp [PyData.hasDict]⟩
  | .bool _, _, _ => ⟨rfl, by simp [PyData.hasDict]⟩
  | .int _, _, _ => ⟨rfl, by simp [PyData.hasDict]⟩
  | .str _, _, _ => ⟨rfl, by simp [PyData.hasDict]⟩
  | .list ds, _, h => by
    cases h with
    | lst _ ha =>
      have q := dp_noDictAll ds _ ha
      exact ⟨by simpa [noDict] using q.1, by simpa [PyData.hasDict] using q.2⟩
  | .tuple ds, _, h => by
    cases h with
    | tup _ ha =>
      have q := dp_noDictAll ds _ ha
      exact ⟨by simpa [noDict] using q.1, by simpa [PyData.hasDict] using q.2⟩
  | .dict _, _, h => by cases h
theorem dp_noDictAll {K : PySem.W.Frag} {H : Hp} : ∀ (ds : List PyData) (xs : List V), DpAll K H xs ds → noDict.noDictAll ds = true ∧ PyData.hasDictAll ds = false
  | [], _, _ => ⟨rfl, by simp [PyData.hasDictAll]⟩
  | d :: ds, _, h => by
    cases h with
    | cons h1 h2 =>
      have a := dp_noDict d _ h1
      have b := dp_noDictAll ds _ h2
      exact ⟨by simp [noDict.noDictAll, a.1, b.1], by simp [PyData.hasDictAll, a.2, b.2]⟩
end
/-- repr(x) of data -/
def rRepr (K : PySem.W.Frag) : List V → Hp → VK → Prop := fun xs H Q => ∃ x d, xs = [x] ∧ Dp K H x d ∧ d.showable = true ∧ bnd d ≤ 16000000 ∧ d.depth ≤ 60 ∧ Q (.str d.shown) H
theorem call_repr (hG : Grd X.A) (hu : X.A.units + 64 < cLine) : CallR X (.builtin "repr") (rRepr X.K) := by
  intro pins s σ H xs us Q I r h
  obtain ⟨x, d, rfl, hd, sh, hb, dp, q⟩ := h
  obtain ⟨u, rfl, rx⟩ := vals1 r
  obtain ⟨nd, nd2⟩ := dp_noDict d x hd
  have hz : d.shown.length ≤ sizeLine := Nat.le_trans (shown_bnd d sh nd) (Nat.le_trans hb (by decide))
  obtain ⟨as, rd⟩ := Dp.reads I d x u hd rx
  cases hd with
  | non =>
    cases rx
    exact PySem.P.repr_of_none ⟨.str _, H, I.tok _, ⟨_, rfl⟩, by simpa only [PyData.shown] using q⟩
  | bl b =>
    cases rx
    exact PySem.P.repr_of_bool ⟨.str _, H, I.tok _, ⟨_, rfl⟩, by simpa only [PyData.shown] using q⟩
  | int i =>
    obtain ⟨t, rfl⟩ := rx
    exact PySem.P.repr_of_int (by simpa [PyData.showable] using sh) ⟨.str _, H, I.tok _, ⟨_, rfl⟩, by simpa only [PyData.shown] using q⟩
  | str y =>
    obtain ⟨t, rfl⟩ := rx
    exact PySem.P.repr_of_str ⟨.str _, H, I.tok _, ⟨_, rfl⟩, by simpa only [PyData.shown] using q⟩ (by simpa only [PyData.shown] using hz)
  | lst _ _ =>
    cases rx
    exact repr_of_reads' rd sh (fun z => by rw [nd2] at z; cases z) hG (by omega) (fun _ _ e => e) (fun h' u tk hk => ⟨.str _, H, I.kept hk, ⟨_, rfl⟩, q⟩) hz
  | tup _ _ =>
    cases rx
    exact repr_of_reads' rd sh (fun z => by rw [nd2] at z; cases z) hG (by omega) (fun _ _ e => e) (fun h' u tk hk => ⟨.str _, H, I.kept hk, ⟨_, rfl⟩, q⟩) hz
end

theorem bnd_ints : ∀ ns : List Int, bnd.bndAll (ns.map PyData.int) = 1923 * ns.length
  | [] => rfl
  | n :: r => by
    show bnd (.int n) + 2 + bnd.bndAll (r.map PyData.int) = 1923 * (r.length + 1)
    rw [bnd_ints r]
    show 1921 + 2 + _ = _
    omega
theorem show_ints : ∀ ns : List Int, (∀ n ∈ ns, Sm n) → PyData.showableAll (ns.map PyData.int) = true
  | [], _ => by simp [PyData.showableAll]
  | n :: r, h => by
    have a := (h n (by simp)).log
    simp only [List.map_cons, PyData.showableAll, PyData.showable, show_ints r (fun x hx => h x (by simp [hx])), Bool.and_true, decide_eq_true_eq]
    omega
/-- what repr asks of a list, a tuple of ints -/
theorem repL {ns : List Int} (hs : ∀ n ∈ ns, Sm n) (hl : ns.length ≤ 8000) : (PyData.list (ns.map PyData.int)).showable = true ∧ bnd (.list (ns.map PyData.int)) ≤ 16000000 ∧ (PyData.list (ns.map PyData.int)).depth ≤ 60 := by
  refine ⟨by simpa [PyData.showable] using show_ints ns hs, ?_, by simp [PyData.depth, depth_ints]⟩
  show bnd.bndAll (ns.map PyData.int) + 3 ≤ 16000000
  rw [bnd_ints]
  omega
theorem repT {ns : List Int} (hs : ∀ n ∈ ns, Sm n) (hl : ns.length ≤ 8000) : (PyData.tuple (ns.map PyData.int)).showable = true ∧ bnd (.tuple (ns.map PyData.int)) ≤ 16000000 ∧ (PyData.tuple (ns.map PyData.int)).depth ≤ 60 := by
  refine ⟨by simpa [PyData.showable] using show_ints ns hs, ?_, by simp [PyData.depth, depth_ints]⟩
  show bnd.bndAll (ns.map PyData.int) + 3 ≤ 16000000
  rw [bnd_ints]
  omega
theorem ne_same {H : Hp} {x : V} {Q : VK} (hs : scal x x = true) (q : Q (.bl false) H) : rNe x x H Q := ⟨hs, by rw [decide_eq_true rfl]; exact q⟩

/-- the law's call, by a promise that asks that no repr is under way (none is, at the caller) -/
theorem law_g {P : Program} {w : World} {K : PySem.W.Frag} {mg mb : Str → Option Value} {k : Nat} {fa a : Addr} {fd : FuncData} {x : Str} {sp : Sp} {s : Shared} {vs : List Value} {ns : List Int} (KX : K.In s.heap) (hns : s.heap.Ns mainGlobals mg)
    (hb : s.heap.Ns builtinsNs mb) (hbb : ∀ y : Str, y ≠ "__name__" → mb y = bootBuiltins y) (hlim : s.heap.NoLimit) (hg : s.gens = #[]) (ha : s.heap.get? a = some { cls := .type "list", data := .seq vs.toArray }) (hi : IntsAre vs ns)
    (hl : ns.length ≤ sizeLine) (hr : Room k callerA) (F : ∀ base : Heap, K.In base → base.Ns mainGlobals mg → FnG P w K mg base CX0 k fa fd [x] sp) (bind : ∀ (t : Shared) (u : Value), BindsTo t fd ⟨[u], []⟩ [(x, u)])
    (hsp : ∀ H : Hp, SqL K H a (ns.map V.int) → sp [.ref a] H (fun v _ => v = .bl true) fun _ _ _ => False) :
    codeAny (model P w) callerA (.call (.ref fa) ⟨[.ref a], []⟩) (fun r s' => r = .ok (.ret (.bool true)) ∧ OldK s.heap s'.heap ∧ s'.os = s.os ∧ AllBare s'.gens) s := by
  obtain ⟨H, hS, hok, hO⟩ : ∃ H : Hp, SqL K H a (ns.map V.int) ∧ HOk P w H s.heap ∧ ∀ b, H b = none ∨ (b = a ∧ K.lookup a = none ∧ H b = some (.frz { cls := .type "list", data := .seq vs.toArray } (.lst (ns.map V.int)))) := by
    cases hk : K.lookup a with
    | none =>
      refine ⟨upd (fun _ => none) a (.frz { cls := .type "list", data := .seq vs.toArray } (.lst (ns.map V.int))), .inl (.inr ⟨_, upd_same⟩), fun b o e => ?_, fun b => ?_⟩
      · by_cases q : b = a
        · subst q
          rw [upd_same] at e
          cases e
          exact ⟨ha, by rw [List.length_map]; exact hl, vs, _, vals_ints hi, ha⟩
        · rw [upd_ne q] at e
          cases e
      · by_cases q : b = a
        · subst q
          exact .inr ⟨rfl, rfl, upd_same⟩
        · exact .inl (upd_ne q)
    | some o =>
      have e := KX a o hk
      rw [ha] at e
      cases e
      exact ⟨fun _ => none, .inr ⟨_, vs.toArray, _, hk, rfl, rfl, rfl, by rw [List.size_toArray, hi.length]; exact hl, by simpa using vals_ints hi⟩, (fun b o e => by cases e), fun _ => .inl rfl⟩
  have free : ∀ {b : Addr} {o : Obj}, s.heap.get? b = some o → (b = a → K.lookup a = none → False) → H b = none := fun {b o} e n => by
    rcases hO b with z | ⟨z, zk, _⟩
    · exact z
    · exact (n z zk).elim
  have nsB : ∀ {b : Addr} {m : Str → Option Value}, s.heap.Ns b m → (hidT s.heap H).Ns b m := fun {b m} z => by
    obtain ⟨o, es, ep, e, d, r⟩ := z
    refine ⟨o, es, ep, hidT_get e (free e fun q _ => ?_), d, r⟩
    subst q
    rw [ha] at e
    cases e
    cases (show Data.seq vs.toArray _ = Data.dict es ep from d)
  have kB : K.In (hidT s.heap H) := fun b o e => hidT_get (KX b o e) (free (KX b o e) fun q z => by
    subst q
    rw [z] at e
    cases e)
  have M : Mod K mg (hidT s.heap H) := by
    obtain ⟨mc, h1, h2⟩ := hlim
    exact ⟨kB, nsB hns, ⟨mb, nsB hb, hbb⟩, ⟨mc, nsB h1, h2⟩⟩
  have e0 : Env0 P w K mg (hidT s.heap H) callerA [] s H := ⟨rfl, M, fun b o e => of_hidT e, Nat.le_of_eq (hidT_size _ _), trivial, (fun b z => nomatch (show b ∈ ([] : List Addr) from z)), hok, .of_eq hg⟩
  refine codeAny_mono ((F _ kB (nsB hns)).go callerA [] s H ⟨[.ref a], []⟩ [.ref a] [.ref a] _ _ rfl hr e0 (bind s (.ref a)) (.cons rfl .nil) (hsp H hS)) fun r s' h => ?_
  cases r with
  | error e => exact (show False from h).elim
  | ok fl =>
    cases fl with
    | next => exact (show False from h).elim
    | brk => exact (show False from h).elim
    | cont => exact (show False from h).elim
    | ret u =>
      obtain ⟨v, H', os, bare, un, hok', rv, q⟩ := h
      obtain rfl : v = .bl true := q
      obtain rfl : u = Value.bool true := rv
      refine ⟨rfl, OldK.of_keep fun b o e => ?_, os, bare⟩
      rcases hO b with z | ⟨z, zk, z3⟩
      · exact un.keep b o e z (fun y => nomatch (show b ∈ ([] : List Addr) from y)) (by simp)
      · have e1 := (hok' b _ (un.frzs b _ _ z3)).1
        have e2 := (hok b _ z3).1
        rw [e] at e2
        cases e2
        exact e1
/-- the end of a law's row by such a promise -/
theorem walk_g {l : PySem.W.OpenLaw} {n k : Nat} {q : Program} {loose : List Str} {XP : (Str → Option Value) → Heap → Prop} {YP : World → Heap → Prop} {d : DefRec} {K : Params → PySem.W.Frag} {sp : World → Sp} {x : Str} (hn : l.most = some n)
    (hn2 : n ≤ sizeLine) (hdf : d.params.defaults = []) (hr : Room k callerA) (hY : ∀ (w : World) (h : Heap), YP w h → (K w.params).In h)
    (F : ∀ (w : World) (mg : Str → Option Value) (fa : Addr) (h : Heap), (K w.params).In h → h.Ns mainGlobals mg → mg d.name = some (.ref fa) → ∃ fd : FuncData, (∀ (s : Shared) (u : Value), BindsTo s fd ⟨[u], []⟩ [(x, u)]) ∧
      ∀ base : Heap, (K w.params).In base → base.Ns mainGlobals mg → FnG l.prog w (K w.params) mg base CX0 k fa fd [x] (sp w))
    (hsp : ∀ (w : World) (H : Hp) (a : Addr) (ns : List Int), ns.length ≤ n → SqL (K w.params) H a (ns.map V.int) → sp w [.ref a] H (fun v _ => v = .bl true) fun _ _ _ => False) :
    PySem.W.WalkO q loose XP YP l.row.toRowW d [] (fun f vs => PySem.call f vs) :=
  Att.attach_call hn hdf fun w s₀ s₁ mg mb fa o pm cd doc a vs ns G Y ho hd hcd hmg hobj hints hlen hg => by
    have KX := hY w _ Y
    obtain ⟨fd, hb, hF⟩ := F w mg fa _ KX G.T.g hmg
    exact law_g KX G.T.g G.T.b G.T.builtins G.T.nolimit hg hobj hints (Nat.le_trans hlen hn2) hr hF hb fun H hS => hsp w H a ns hlen hS
end Eb

/-! ## tuples turned about; len(set(t)) -/
namespace Eb
open PySem PySem.Spec PyProof.Rows L2
section
variable {prog : Program} {w : World} {A : Around} {E : Value → Shared → Prop} {s : Shared}
theorem adjust_rev (n : Nat) : Builtin.Slice.sliceAdjust none none (-1) (n : Int) = ((n : Int) - 1, -1) := by
  unfold Builtin.Slice.sliceAdjust
  simp
theorem places_rev (n : Nat) : Builtin.Slice.slicePlaces ((n : Int) - 1) (-1) (-1) = n := by
  unfold Builtin.Slice.slicePlaces
  rw [if_neg (by decide)]
  by_cases c : (n : Int) - 1 > -1
  · rw [if_pos c]
    show (((n : Int) - 1 - (-1) - 1) / 1 + 1).toNat = n
    rw [Int.ediv_one]
    omega
  · rw [if_neg c]
    omega
theorem applied_rev {sl : Addr} {v3 : Value} {n : Nat} {Q : Int × Int × Nat → Shared → Prop} (hs : s.heap.IsSliceOf sl .none .none v3) (p3 : IsPart v3 (some (-1))) (h : Q ((n : Int) - 1, -1, n) s) :
    wpAny (model prog w) A (Builtin.Slice.sliceApplied (.ref sl) (pure (n : Int))) Q E s := by
  obtain ⟨os, hos, hcs, hds⟩ := id hs
  unfold Builtin.Slice.sliceApplied Builtin.Slice.sliceFields
  refine wpAny_bind (wpAny_bind (wpAny_field hos hds (x := .none) rfl (wpAny_bind (wpAny_field hos hds (x := .none) rfl (wpAny_bind (wpAny_field hos hds (x := v3) rfl (wpAny_pure ?_)))))))
  refine wpAny_bind (HT.slicePart_ p3 ?_)
  show wpAny _ _ (if ((-1 : Int) == 0) = true then _ else _) _ _ s
  rw [if_neg (by decide)]
  refine wpAny_bind (HT.slicePart_ .none (wpAny_bind (HT.slicePart_ .none (wpAny_bind (wpAny_pure ?_)))))
  show wpAny _ _ (match Builtin.Slice.sliceAdjust none none (-1) (n : Int) with | (lo, hi) => pure (lo, (-1 : Int), Builtin.Slice.slicePlaces lo hi (-1))) _ _ s
  rw [adjust_rev]
  show wpAny _ _ (pure ((n : Int) - 1, (-1 : Int), Builtin.Slice.slicePlaces ((n : Int) - 1) (-1) (-1))) _ _ s
  rw [places_rev]
  exact wpAny_pure h
theorem fm_some {α β : Type} {f : α → Option β} {g : α → β} : ∀ {l : List α}, (∀ m ∈ l, f m = some (g m)) → l.filterMap f = l.map g
  | [], _ => rfl
  | x :: r, h => by
    rw [List.filterMap_cons, h x (by simp), List.map_cons, fm_some fun m hm => h m (by simp [hm])]
theorem pick_rev (xs : Array Value) : ((List.range xs.size).filterMap fun (m : Nat) => xs[(((xs.size : Nat) : Int) - 1 + (m : Int) * (-1)).toNat]?) = xs.toList.reverse := by
  apply List.ext_getElem?
  intro i
  have e1 : (List.range xs.size).filterMap (fun (m : Nat) => xs[(((xs.size : Nat) : Int) - 1 + (m : Int) * (-1)).toNat]?) = (List.range xs.size).map (fun m => xs.toList.reverse.getD m .none) := by
    refine fm_some fun m hm => ?_
    have hm' := List.mem_range.mp hm
    have hz : (((xs.size : Nat) : Int) - 1 + (m : Int) * (-1)).toNat = xs.size - 1 - m := by omega
    rw [hz]
    have h1 : xs.size - 1 - m < xs.size := by omega
    rw [Array.getElem?_eq_getElem h1]
    show _ = some (xs.toList.reverse.getD m .none)
    rw [List.getD_eq_getElem?_getD, List.getElem?_reverse (by rw [Array.length_toList]; exact hm'), Array.length_toList, Array.getElem?_toList, Array.getElem?_eq_getElem h1]
    rfl
  rw [e1, List.getElem?_map]
  by_cases c : i < xs.size
  · rw [List.getElem?_range c]
    have h2 : i < xs.toList.reverse.length := by
      rw [List.length_reverse, Array.length_toList]
      exact c
    show some (xs.toList.reverse.getD i .none) = _
    rw [List.getD_eq_getElem?_getD, List.getElem?_eq_getElem h2]
    rfl
  · rw [List.getElem?_eq_none (by rw [List.length_range]; omega), List.getElem?_eq_none (by rw [List.length_reverse, Array.length_toList]; omega)]
    rfl
theorem item_rev {t sl : Addr} {items : Array Value} {v3 : Value} {Q : Value → Shared → Prop} (ht : IsTup s.heap t items) (hs : s.heap.IsSliceOf sl .none .none v3) (p3 : IsPart v3 (some (-1)))
    (h : Q (.ref s.heap.objs.size) { s with heap := s.heap.push { cls := .type "tuple", data := .seq items.toList.reverse.toArray } }) (hsz : items.size ≤ sizeLine) : wpAny (model prog w) A (getItem (.ref t) (.ref sl)) Q E s := by
  have hok : sizeOk (.seq items.toList.reverse.toArray) := by
    show items.toList.reverse.toArray.size ≤ sizeLine
    rw [List.size_toArray, List.length_reverse, Array.length_toList]
    exact hsz
  obtain ⟨os, hos, hcs, hds⟩ := id hs
  have hTs : s.TypeIs (.ref sl) "slice" := ⟨os, hos, hcs⟩
  unfold getItem
  try with_reducible refine wpAny_holding ?_
  first | refine wpAny_bind (wpAny_pure ?_) | skip
  refine wpAny_bind (wpAny_sequenceKey ht.typeIs (by decide) ?_)
  refine wpAny_bind (wpAny_callSpecial?_slot (name := Str.ofString "__getitem__") ht.typeIs PyProof.Rows.slot_tuple_getitem (wpAny_call_entry PyProof.Rows.slot_tuple_getitem ht.typeIs entry_tuple_getitem ?_ (args_tuple_getitem _ _)))
  show wpAny _ _ (Builtin.Tuple.tupleItemsOf (.ref t) >>= _) _ _ s
  refine wpAny_bind (tupleItemsOf_ ht (wpAny_bind (wpAny_typeOf hTs ?_)))
  rw [if_pos (by decide)]
  refine wpAny_bind (applied_rev hs p3 ?_)
  have hno : ¬ (((((items.size : Nat) : Int) - 1) == 0 && (-1 : Int) == 1 && items.size == items.size) = true) := by
    rw [show ((-1 : Int) == 1) = false from rfl, Bool.and_false, Bool.false_and]
    exact Bool.false_ne_true
  show wpAny _ _ (if ((((items.size : Nat) : Int) - 1) == 0 && (-1 : Int) == 1 && items.size == items.size) = true then _ else _) _ _ s
  rw [if_neg hno, pick_rev]
  first
    | exact wpAny_bind (m := Builtin.Tuple.tupleExact _) (wpAny_newObj_type (wpAny_pure ⟨_, rfl, wpAny_pure h⟩) hok)
    | exact wpAny_bind (m := Builtin.Tuple.tupleExact _) (wpAny_newObj_type (wpAny_bind (wpAny_pure (wpAny_pure ⟨_, rfl, wpAny_pure h⟩))) hok)
    | exact wpAny_bind (wpAny_bind (m := Builtin.Tuple.tupleExact _) (wpAny_newObj_type (wpAny_pure (wpAny_pure ⟨_, rfl, wpAny_pure h⟩)) hok))
    | exact wpAny_bind (wpAny_bind (m := Builtin.Tuple.tupleExact _) (wpAny_newObj_type (wpAny_pure ⟨_, rfl, wpAny_pure h⟩) hok))
end
section
variable {X : Cx}
/-- t[::-1], t a tuple: a new one -/
def tRevT (K : PySem.W.Frag) (te : TE) : TE := fun σ H Q => te σ H fun x H1 => ∃ a xs, x = .ref a ∧ SqT K H1 a xs ∧ ∀ p, H1 p = none → Q (.ref p) (upd H1 p (.tup xs.reverse))
theorem pe_revT {e : Expr} {te : TE} {k : Nat} {p1 p2 p3 pos : Pos} (he : PE X e te) : PE X (.Subscript e (.Slice none none (some (.UnaryOp .USub (.Constant (.int 1) k p1) p2)) p3) pos) (tRevT X.K te) := by
  refine ⟨fun pins s σ H Q I h => Subscript_ (thn (he.run pins s σ H _ I h) fun v s1 hh => ?_)⟩
  obtain ⟨x, H1, I1, r1, a, xs, rfl, hx, q⟩ := hh
  cases r1
  refine wpAny_Slice (thn (po_none.run pins s1 σ H1 (fun o H2 => o = none ∧ H2 = H1) I1 ⟨rfl, rfl⟩) fun vl s2 hl => ?_)
  obtain ⟨_, _, I2, pl, rfl, rfl⟩ := hl
  refine thn (po_none.run pins s2 σ _ (fun o H3 => o = none ∧ H3 = _) I2 ⟨rfl, rfl⟩) fun vu s3 hu => ?_
  obtain ⟨_, _, I3, pu, rfl, rfl⟩ := hu
  refine thn ((po_some (pe_un un_neg pe_int) : PO X (some (.UnaryOp .USub (.Constant (.int 1) k p1) p2)) _).run pins s3 σ _ (fun o H4 => o = some (-1) ∧ H4 = _) I3 ⟨1, rfl, -1, rfl, rfl, rfl⟩) fun vs s4 hv => ?_
  obtain ⟨_, H4, I4, ps, rfl, rfl⟩ := hv
  cases pl
  cases pu
  have I5 : Inv X pins σ H4 { s4 with heap := s4.heap.push { cls := .type "slice", data := .fields #[.none, .none, vs] } } := I4.kept (t' := s4.toks) fun b ob z => Heap.get?_push_of_some _ z
  obtain ⟨its, r, ht, hz⟩ := I5.tuple hx
  have hlen := r.length
  refine tail_any (ops := [.ref a, .ref s4.heap.objs.size]) ht.typeIs (PyProof.Rows.slot_tuple_getitem.lookup) ?_ (by with_unfolding_all rfl)
  refine item_rev ht (Heap.IsSliceOf.new _ .none .none vs) ps ?_ (by rw [List.size_toArray]; omega)
  refine ⟨.ref _, _, I5.laid (t' := s4.toks) (o := .tup xs.reverse) (fun b ob z => Heap.get?_push_of_some _ z) (Nat.le_refl _) ?_, rfl, q _ (I5.hok.fresh (Nat.le_refl _))⟩
  exact ⟨by rw [List.length_reverse]; exact hz, its.reverse, r.reverse, IsTup.new _ _⟩
/-- len(set(t)), t a tuple of ints: how many unlike ones -/
def tLenSetT (K : PySem.W.Frag) (ta : TE) : TE := fun σ H Q => ta σ H fun x H1 => ∃ (l : Addr) (ns : List Int), x = .ref l ∧ SqT K H1 l (ns.map V.int) ∧ ns.length ≤ 4000 ∧ ∀ ks : List Int, ks.Nodup → (∀ z, z ∈ ks ↔ z ∈ ns) → Q (.int (ks.length : Nat)) H1
theorem pe_lenSetT {a : Expr} {ta : TE} {p p2 q pos : Pos} (hg : Gl X "len") (hm : X.mg "len" = none) (hg2 : Gl X "set") (hm2 : X.mg "set" = none) (ha : PE X a ta) (hc : X.calm = true := by rfl)
    (na : starEach [a] X.env = (false, eval a X.env) :: starEach [] X.env := by rfl) : PE X (.Call (.Name "len" p) [.Call (.Name "set" p2) [a] [] q] [] pos) (tLenSetT X.K ta) := by
  refine ⟨fun pins s σ H Q I h => Call_ (ld_blt I hg hm boot_len ?_)⟩
  refine PyProof.Rows.callWith_builtin1 (PyProof.Rows.args_cons (Call_ (ld_blt I hg2 hm2 boot_set ?_)) rfl) rfl rfl
  refine PyProof.Rows.callWith_type1 (PyProof.Rows.args_cons (thn (ha.run pins s σ H _ I h) fun v s1 hh => PyProof.Rows.args_nil ?_) na) na rfl
  obtain ⟨x, H1, I1, r1, l, ns, rfl, hq, hl, k⟩ := hh
  cases r1
  obtain ⟨its, r, pt, hz⟩ := I1.tuple hq
  refine call_set_tupI ns (I1.ok.hd hc) (show s1.heap.IsTuple l its.toArray from pt) (by simpa using r.ints) (by unfold scanBound; omega) fun h' tk c R1 hcn keep => PyProof.Rows.args_nil ?_
  obtain ⟨o, es, ep, t, ho, hex, hd, _, nd, mem, hsz, hf, hn, _⟩ := R1
  have I2 : Inv X pins σ H1 { s1 with heap := h', toks := tk } := I1.kept keep
  have kl : (es.toList.map keyOf).length = es.size := by rw [List.length_map, Array.length_toList]
  refine call_len_set ho hex hd hf (by have : scanBound = 4096 := rfl; omega) ⟨.int (es.toList.map keyOf).length, H1, I2.tok _, ⟨_, by rw [kl]⟩, k _ nd fun z => ?_⟩
  rw [← mem z]
  exact decide_eq_true_iff
end
end Eb

/-! ## enumerate(t), t a tuple -/
namespace Eb
open PySem PySem.Spec PyProof.Rows L2
set_option maxRecDepth 100000
theorem meets_enum1 {v : Value} {o : Obj} {G : Heap → Prop} (B : Begins v o G) :
    Meets (Builtin.«enumerate.__new__» ⟨[.type "enumerate", v], []⟩) (fun _ R s => G s.heap ∧
      R (.ok (.ret (.ref (s.heap.push o).objs.size))) { s with heap := (s.heap.push o).push { cls := .type "enumerate", data := .fields #[.none, .bool false, .ref s.heap.objs.size, rawInt 0, .none, .none] } }) :=
  .of_wp fun prog w A R s h => by
    obtain ⟨hp, g, d, tk, os⟩ := s
    obtain ⟨h1, h⟩ := h
    have hsub := sub_enumerate
    have it : ∀ {A' : Around} {E : Value → Shared → Prop} {Q : Value → Shared → Prop}, Q (.ref hp.objs.size) ⟨hp.push o, g, d, tk, os⟩ → wpAny (model prog w) A' (pyIter v) Q E ⟨hp, g, d, tk, os⟩ :=
      fun q => B.iter prog w _ _ ⟨hp, g, d, tk, os⟩ _ h1 q
    wp_walk using it
    refine wpAny_stack_any fun st => wpAny_pure ?_
    split
    · rename_i c _ _ _ _ _
      cases (c == Value.type "enumerate") <;> (wp_walk using it; exact ⟨_, rfl, h⟩)
    · wp_walk using it
      exact ⟨_, rfl, h⟩
theorem call_enum1 {prog : Program} {w : World} {A : Around} {E : Value → Shared → Prop} {s : Shared} {v : Value} {o : Obj} {G : Heap → Prop} {Q : Value → Shared → Prop} (B : Begins v o G) (h1 : G s.heap)
    (h : ∀ h', IsEnum h' (s.heap.objs.size + 1) s.heap.objs.size 0 .none → h'.get? s.heap.objs.size = some o → (∀ b o, s.heap.get? b = some o → h'.get? b = some o) → Q (.ref (s.heap.objs.size + 1)) { s with heap := h' }) :
    wpAny (model prog w) A (call (.type "enumerate") [v]) Q E s := by
  refine callType_new F.called_enumerate (by decide) (F.typeCall_enumerate_1 _) (F.newCall_enumerate_1 _) (fun obj => F.args_object_init_2 obj _) F.entry_enumerate_new (meets_enum1 B) ⟨h1, ?_⟩
  have hz : (s.heap.push o).objs.size = s.heap.objs.size + 1 := Heap.size_push ..
  show _ ∧ _
  rw [hz]
  have he : IsEnum ((s.heap.push o).push { cls := .type "enumerate", data := .fields #[.none, .bool false, .ref s.heap.objs.size, rawInt 0, .none, .none] }) (s.heap.objs.size + 1) s.heap.objs.size 0 .none := by
    have z := Heap.get?_push_size (s.heap.push o) (o := { cls := .type "enumerate", data := .fields #[.none, .bool false, .ref s.heap.objs.size, rawInt 0, .none, .none] }) rfl
    rw [hz] at z
    exact z
  exact ⟨⟨_, he, rfl⟩, h _ he (Heap.get?_push_of_some _ (Heap.get?_push_size _ B.free)) fun b o x => Heap.get?_push_of_some _ (Heap.get?_push_of_some _ x)⟩
theorem enumT_end {prog : Program} {w : World} {A : Around} {E : Value → Shared → Prop} {s : Shared} {e it t : Addr} {i : Nat} {items : Array Value} {old : Value} {k : Int} {Q : Option Value → Shared → Prop} (hh : A.handled = none) (he : IsEnum s.heap e it k old)
    (hit : s.heap.IsTupleIter it t i) (ht : IsTup s.heap t items) (hi : items.size ≤ i) (hQ : ∀ h', Heap.ExtBut it s.heap h' → Q none { s with heap := h' }) : wpAny (model prog w) A (pyNext (.ref e)) Q E s := by
  have hT : s.TypeIs (.ref e) "enumerate" := ⟨_, he, rfl⟩
  unfold pyNext
  refine wpAny_bind (wpAny_attempt (wpAny_callSpecial?_slot (name := Str.ofString "__next__") hT F.slot_enumerate_next (wpAny_call_entry F.slot_enumerate_next hT F.entry_enumerate_next ?_ (F.args_enumerate_next_1 _))))
  show wpAny _ _ (field (.ref e) 2 >>= _) _ _ _
  refine wpAny_bind (wpAny_field he rfl (x := .ref it) rfl (wpAny_bind (wpAny_nextOf_tuple_end (by exact hh) hit (show s.heap.IsTuple t items from ht) (by simpa using hi) fun h' x hx hs => ?_)))
  obtain ⟨o, ho, hc⟩ := hs
  exact wpAny_bind (wpAny_isInstance (T := "StopIteration") (b := true) ⟨o, ho, hc⟩ isSubtype_stop (wpAny_pure (hQ _ hx)))
/-- the tuple at a as it stands at each turn, each item in a new pair -/
def IteT (K : PySem.W.Frag) (a : Addr) : It :=
  ⟨fun i H => ∃ (xs : List V) (x : V), SqT K H a xs ∧ xs[i]? = some x, fun i H v H' => ∃ T x, v = .ref T ∧ H T = none ∧ H' = upd H T (.tup [.int (i : Nat), x]) ∧ ∀ xs, SqT K H a xs → xs[i]? = some x, fun i H => ∃ xs : List V, SqT K H a xs ∧ xs.length ≤ i⟩
theorem turn_enumT {P : Program} {w : World} {K : PySem.W.Frag} {elts : List Expr} {kk : Nat} {tpos : Pos} (a e it : Addr) :
    Turn P w K (.Tuple elts kk tpos) (IteT K a) [e, it] e (fun i h => (∃ old, IsEnum h e it ((i : Nat) : Int) old) ∧ h.IsTupleIter it a i ∧ e ≠ it) where
  mem := by simp
  obj := fun i h st b hb => by
    obtain ⟨⟨old, he⟩, ⟨o, ho, hc, hd⟩, _⟩ := st
    have e' : b = e ∨ b = it := by simpa using hb
    rcases e' with rfl | rfl
    · exact ⟨_, he, fun v q => nomatch q⟩
    · exact ⟨o, ho, fun v q => by rw [hd] at q; cases q⟩
  keep := fun i h h' st k => by
    obtain ⟨⟨old, he⟩, hi, hne⟩ := st
    exact ⟨⟨old, k e (by simp) _ he⟩, hi.at fun o q => k it (by simp) o q, hne⟩
  item := by
    intro X hP hw hK hc i pins s σ H E I hf st hg
    subst hP hw hK
    obtain ⟨⟨old, he⟩, hit, hne⟩ := st
    obtain ⟨xs, x, hq, hx⟩ := hg
    obtain ⟨its, rv, p, hz⟩ := I.tuple hq
    obtain ⟨u, hu, ru⟩ := rv.get hx
    have hel : e < s.heap.objs.size := Heap.lt_size he
    have hil : it < s.heap.objs.size := by
      obtain ⟨_, q, _⟩ := hit
      exact Heap.lt_size q
    have nit : a ≠ it := fun z => by
      obtain ⟨o1, q1, c1, _⟩ := hit
      obtain ⟨o2, q2, c2, _⟩ := p
      rw [z, q1] at q2
      cases q2
      rw [c1] at c2
      exact absurd (Value.type.inj c2) (by decide)
    have nea : e ≠ a := fun z => by
      obtain ⟨o2, q2, c2, _⟩ := p
      have he' : s.heap.get? e = _ := he
      rw [z, q2] at he'
      cases he'
      exact absurd (Value.type.inj c2) (by decide)
    have hi : i < its.toArray.size := by
      rw [List.size_toArray]
      exact (List.getElem?_eq_some_iff.mp hu).1
    refine wpAny_pyNext_enum_itemC (Draws.tuple (by exact I.ok.hd hc) it a nit its.toArray) he ⟨hit, p⟩ hi hne (by simp [hne, nea]) fun y h' tk hy ho hst hT hsz hk => ?_
    have ey : y = u := by
      have z : its[i]? = some y := by simpa using hy
      rw [hu] at z
      exact (Option.some.inj z).symm
    subst ey
    refine ⟨_, rfl, wpAny_letOwnedTupleGo_enum (s := { s with heap := h', toks := tk + 1 }) ho fun h'' he' sb => ?_⟩
    have hT2 : h''.get? s.heap.objs.size = some { cls := .type "tuple", data := .seq #[.int i tk, y] } := (sb.2 _ (Nat.ne_of_gt hel)).trans hT
    have new : ObjOk X.prog X.w (upd H s.heap.objs.size (.tup [.int (i : Nat), x])) h'' s.heap.objs.size (.tup [.int (i : Nat), x]) :=
      ⟨by show 2 ≤ sizeLine; decide, [.int i tk, y], .cons ⟨_, rfl⟩ (.cons ru .nil), ⟨_, hT2, rfl, _, rfl⟩⟩
    have I1 : Inv X pins σ (upd H s.heap.objs.size (.tup [.int (i : Nat), x])) { s with heap := h'', toks := tk + 1 } :=
      I.turnedNew (ch := [e, it]) (fun b ob hb q => (sb.2 b (fun z => hb (by simp [z]))).trans (hk b ob (fun z => hb (by simp [z])) (fun z => hb (by simp [z])) q)) hf (Nat.le_refl _) new
    refine ⟨.ref s.heap.objs.size, _, I1, rfl, ⟨_, x, rfl, I.hok.fresh (Nat.le_refl _), rfl, fun ys hy' => by rw [I.tuple_inj hy' hq]; exact hx⟩, ⟨⟨y, ?_⟩, hst.1.at fun o q => (sb.2 it (Ne.symm hne)).trans q, hne⟩, fun b hb => ?_⟩
    · have e1 : ((i + 1 : Nat) : Int) = (i : Int) + 1 := by omega
      rw [e1]
      exact he'
    · have hb' : b < s.heap.objs.size := by
        have e' : b = e ∨ b = it := by simpa using hb
        rcases e' with rfl | rfl
        · exact hel
        · exact hil
      rw [upd_ne (Nat.ne_of_lt hb')]
      exact (hf b hb).1
  done := by
    intro X hP hw hK hc i pins s σ H E I hf st hg
    subst hP hw hK
    obtain ⟨⟨old, he⟩, hit, hne⟩ := st
    obtain ⟨xs, hq, hx⟩ := hg
    obtain ⟨its, rv, p, hz⟩ := I.tuple hq
    obtain ⟨f0, f1, f2, f3, f4, f5⟩ := hf it (by simp)
    have hl := rv.length
    exact enumT_end (I.ok.hd hc) he hit p (by rw [List.size_toArray]; omega) fun h' eb => ⟨rfl, I.turned (t' := s.toks) (fun b o hb q => eb b o hb q) f0 f1 f3 f4 f5⟩
  self := fun A i s Q E st h => by
    obtain ⟨⟨_, he⟩, _⟩ := st
    exact wpAny_pyIter_enum he h
def iEnumT (K : PySem.W.Frag) (ta : TA) : TI := fun σ H R => ta σ H fun vs H1 => ∃ a xs, vs = [.ref a] ∧ SqT K H1 a xs ∧ R (IteT K a) H1
theorem pi_enumT {X : Cx} {e : Expr} {ta : TA} {p pos tpos : Pos} {elts : List Expr} {kk : Nat} (hg : Gl X "enumerate") (hm : X.mg "enumerate" = none) (ha : PA X [e] ta) (hs : starEach [e] X.env = [(false, eval e X.env)] := by rfl) :
    PI X (.Tuple elts kk tpos) (.Call (.Name "enumerate" p) [e] [] pos) (iEnumT X.K ta) := by
  refine ⟨fun pins s σ H R I h => Call_ (ld_blt I hg hm boot_enumerate (PyProof.Rows.callWith_type1 (thn (ha.run pos pins s σ H _ I h) fun us s1 hh => ?_) hs rfl))⟩
  obtain ⟨vs, H1, I1, r1, a, xs, rfl, hq, q⟩ := hh
  rw [Vals.ref1 r1]
  obtain ⟨its, rv, pt, hz⟩ := I1.tuple hq
  refine call_enum1 (begins_tuple a its.toArray) pt fun h' he hit hk => wpAny_pyIter_enum he ?_
  have I2 : Inv X pins σ H1 { s1 with heap := h' } := I1.kept (t' := s1.toks) hk
  refine ⟨s1.heap.objs.size + 1, [s1.heap.objs.size + 1, s1.heap.objs.size], _, _, H1, rfl, I2, turn_enumT a (s1.heap.objs.size + 1) s1.heap.objs.size, ⟨⟨.none, he⟩, ⟨_, hit, rfl, rfl⟩, Nat.succ_ne_self _⟩, fun b hb => ?_, q⟩
  have e' : b = s1.heap.objs.size + 1 ∨ b = s1.heap.objs.size := by simpa using hb
  have hle : s1.heap.objs.size ≤ b := by
    rcases e' with z | z
    · rw [z]; exact Nat.le_add_right _ _
    · rw [z]; exact Nat.le_refl _
  exact I1.fpOk hle (I1.hok.fresh hle)
theorem walk_enumT {K : PySem.W.Frag} {a : Addr} {xs : List V} : Walk (IteT K a) xs.length (fun H => SqT K H a xs) (YPair (fun i => some (.int (i : Nat))) (fun i => xs[i]?)) := by
  refine ⟨fun i _ hi q => ⟨xs, xs[i], q, by simp [hi]⟩, fun _ q => ⟨xs, q, Nat.le_refl _⟩, fun i H v H' _ q y => ?_⟩
  obtain ⟨T, x, h1, h2, h3, h4⟩ := y
  exact ⟨T, .int (i : Nat), x, h1, h2, h3, rfl, h4 xs q⟩
end Eb

/-! ## own layer: an own error whose __init__ says super().__init__(x) and then self.f = x (over ValueError) -/
namespace PySem
namespace SupX
open PySem.W PySem.Calls PyProof.Rows PySem.HandSPX
def iB (fld : Str) (p0 p1 p2 p3 p4 p5 p6 p7 p8 p9 : Pos) : List Stmt :=
  [.Expr (.Call (.Attribute (.Call (.Name "super" p0) [] [] p1) "__init__" p2) [.Name fld p3] [] p4) p5, .Assign [.Attribute (.Name "self" p6) fld p7] (.Name fld p8) p9]
/-- the text of such an __init__: its def's parts -/
abbrev iS (names : List (Str × NameKind)) (more : List (Str × Const)) : Scope := { kind := .function, names := names, isGenerator := false, isCoroutine := false, more := more }
structure SupDef (fld : Str) (params : Arguments) (body : List Stmt) (names : List (Str × NameKind)) (more : List (Str × Const)) : Prop where
  bod : ∃ p0 p1 p2 p3 p4 p5 p6 p7 p8 p9, body = iB fld p0 p1 p2 p3 p4 p5 p6 p7 p8 p9 ∧ (p2.endLine == p4.line) = true
  par : ∃ ar : Arg, (params.posonlyargs ++ params.args).head? = some ar ∧ ar.arg = "self"
  bnd : ∀ (s : Shared) (qual : Str) (doc pm : Value) (an : Option Addr) (cdv ct : Value) (cc : Addr) (x v : Value), BindsTo s (ksFn "__init__" qual params body (iS names more) .none .none doc pm an cdv ct cc) ⟨[x, v], []⟩ [("self", x), (fld, v)]
  nc : ∀ x ∈ names, x.2 ≠ .cell
  ls : names.lookup ("self" : Str) = some .local
  lf : names.lookup fld = some .local
  lu : names.lookup ("super" : Str) = some .globalImplicit
  lc : names.lookup ("__class__" : Str) = some .free
  nf : fld ≠ "self"
  nd : (fld == ("__debug__" : Str)) = false
/-- what the written part says of the class cn, at C, and of its __init__, at fI -/
structure SupTxt (P : Program) (K : Frag) (mg : Str → Option Value) (cn fld : Str) (C fI : Addr) : Prop where
  gC : mg cn = some (.ref C)
  cls : ∃ nm q N bs bm sn sub ab col dd k0 k1 k2 k3 k5, K.lookup C = some (excClassObj nm q C N bs bm true sn sub ab col dd k0 k1 k2 k3 k5 "ValueError.__new__") ∧ refsVE bm = true
  sa : findIn K (.ref C) "__setattr__" = some (some (.builtin "object.__setattr__"))
  ga : findIn K (.ref C) "__getattribute__" = some (some (.builtin "BaseException.__getattribute__"))
  gg : findIn K (.ref C) "__getattr__" = some none
  noN : findIn K (.ref C) fld = some none
  iC : findIn K (.ref C) "__init__" = some (some (.ref fI))
  tC : typeIn K (.ref fI) = some (.type "function")
  kC : keepIn K (.ref C) = true
  exC : subIn K (.ref C) (.type "BaseException") = some true
  veC : subIn K (.ref C) (.type "ValueError") = some true
  slf : mroIn K C (.ref C) = some true
  tyC : typeIn K (.ref C) = some (.type "type")
  hdC : hasDictIn K C = true
  te : exmOne K (.ref C) (.ref C) = some true
  opq : nsIn K cStatics "thirdparty.any" = some none
  sup : ks_superIn K C C "__init__" = some (some (.builtin "ValueError.__init__"))
  nsu : mg "super" = none
  top : (P.main.scope.names.lookup ("super" : Str)).isSome = false
  fn : ∃ (qual : Str) (params : Arguments) (body : List Stmt) (names : List (Str × NameKind)) (more : List (Str × Const)) (oc : Value) (od : Option Addr) (doc pm : Value) (an : Option Addr) (cda : Addr) (ct : Value) (cc : Addr) (osl : Array (Option Value)) (ccl : Value) (cdd : Option Addr) (vs : Array Value) (ccs : Array (Option Value)) (file : Str) (tf : Tok) (cl : Value) (cld : Option Addr) (csl : Array (Option Value)),
    SupDef fld params body names more ∧ K.lookup fI = some ⟨oc, od, .func (ksFn "__init__" qual params body (iS names more) .none .none doc pm an (.ref cda) ct cc), osl⟩ ∧ codeIn K (.ref cda) qual = true ∧
    K.lookup cda = some ⟨ccl, cdd, .fields vs, ccs⟩ ∧ vs[2]? = some (.str file tf) ∧ ((P.main.file : Str) == file) = true ∧ K.lookup cc = some ⟨cl, cld, .cell (some (.ref C)), csl⟩
theorem meth_eval {o a : Expr} {name : Str} {apos pos : Pos} {env : Env} (ha : starEach [a] env = (false, eval a env) :: starEach [] env) (hl : (apos.endLine == pos.line) = true) :
    eval (.Call (.Attribute o name apos) [a] [] pos) env = (do
      let ov ← attributeBase o name env (eval o env)
      standAt apos.atName
      let (f, first) ← holding [ov] (getMethod ov name (do return (← importBound o env).getD true))
      callWith pos f first (backTo pos (starEach [a] env)) []) := by
  rw [arm_eval_Call]
  unfold methodCall methodCallPos calleeOf
  have few : methodCallForm ([a].length + ([] : List Keyword).length) (backTo pos (starEach [a] env)) (backToKw pos (keywordEach [] env)) = true := by
    rw [ha]
    rfl
  rw [few]
  simp only [hl, Bool.not_true, Bool.false_or, if_true, pure_bind]
  rfl
theorem one_size (v : Value) : [v].length ≤ sizeLine := by
  rw [sizeLine_eq]
  exact (by decide : 1 ≤ 16777216)
/-- what __init__ leaves of a fresh exception at x -/
structure InitEnd (h h' : Heap) (x C dx : Addr) (fld : Str) (v : Value) : Prop where
  keep : ∀ b o, b ≠ x → h.get? b = some o → h'.get? b = some o
  obj : ∃ t1 : Addr, h'.get? x = some { cls := .ref C, dict := some dx, data := .fields #[.ref t1, .none, .none, .none, .bool false, .none] }
  dbig : h.objs.size ≤ dx
  dne : dx ≠ x
  ns : h'.Ns1 dx (fun y => if y = fld then some v else none)
structure OwnMade (h h' : Heap) (e C d : Addr) (fld : Str) (v : Value) : Prop where
  keep : ∀ b o, h.get? b = some o → h'.get? b = some o
  new : h.objs.size ≤ e
  obj : ∃ oe vs, h'.get? e = some oe ∧ oe.cls = .ref C ∧ oe.dict = some d ∧ oe.data = .fields vs ∧ vs[1]? = some .none
  dbig : h.objs.size ≤ d
  dne : d ≠ e
  ns : h'.Ns1 d (fun y => if y = fld then some v else none)
section
variable {prog : Program} {w : World} {A : Around} {E : Value → Shared → Prop} {R : Result → Shared → Prop} {s : Shared} {K : Frag} {mg : Str → Option Value} {cn fld : Str} {C fI : Addr} {base : Heap}
theorem sup_init (T : SupTxt prog K mg cn fld C fI) (Md : L2.Mod K mg base) (kb : ∀ b o, base.get? b = some o → s.heap.get? b = some o) {x t0 : Addr} {v : Value} (hx : s.heap.get? x = some (excO C t0)) (hnx : K.lookup x = none) (hroom : A.depth < recursionLimit)
    (hq : ∀ h' tk dx, InitEnd s.heap h' x C dx fld v → R (.ok (.ret .none)) { s with heap := h', toks := tk }) :
    codeAny (model prog w) A (.call (.ref fI) ⟨[.ref x, v], []⟩) R s := by
  obtain ⟨qual, params, body, names, more, oc, od, doc, pm, an, cda, ct, cc, osl, ccl, cdd, vs, ccs, file, tf, cl, cld, csl, D, ho, hcd, hcode, hvs, hfile, hcell⟩ := T.fn
  obtain ⟨nm, q, N, bs, bm, sn, sub, ab, col, dd, k0, k1, k2, k3, k5, hC, hbm⟩ := T.cls
  obtain ⟨p0, p1, p2, p3, p4, p5, p6, p7, p8, p9, rfl, hline⟩ := D.bod
  obtain ⟨ar, har, hself⟩ := D.par
  have X : K.In s.heap := Md.kin.keeps kb
  have hcl : clsIn K C = some { name := nm, bases := bs, mro := .ref C :: bm, ns := N, qualname := q, hasDict := true, slotNames := sn, subclasses := sub, abstract := ab, collection := col, hasDel := false } := by unfold clsIn; rw [hC] <;> rfl
  refine ks_codeAny_call_defAt (fd := ksFn "__init__" qual params (iB fld p0 p1 p2 p3 p4 p5 p6 p7 p8 p9) (iS names more) .none .none doc pm an (.ref cda) ct cc) (body := iB fld p0 p1 p2 p3 p4 p5 p6 p7 p8 p9) (binds := [("self", .ref x), (fld, v)]) hroom (X _ _ ho) rfl (Md.nolimit.keeps kb) (codeRec_of X hcd) rfl (D.bnd s qual doc pm an (.ref cda) ct cc (.ref x) v) D.nc ?_ (fun h₁ hns hk₁ => ?_) rfl rfl rfl
  · intro y hy
    rcases List.mem_cons.mp hy with rfl | hy
    · exact D.ls
    · rcases List.mem_cons.mp hy with rfl | hy
      · exact D.lf
      · cases hy
  obtain ⟨hp, g, d, tk, os⟩ := s
  dsimp only at hns hk₁ hx X kb ⊢
  have X₁ : K.In h₁ := X.keeps hk₁
  have kb₁ : ∀ b o, base.get? b = some o → h₁.get? b = some o := fun b o e => hk₁ b o (kb b o e)
  have hx₁ := hk₁ _ _ hx
  obtain ⟨m0, hns, vself, vfld⟩ : ∃ m0 : Str → Option Value, h₁.Ns hp.objs.size m0 ∧ m0 "self" = some (.ref x) ∧ m0 fld = some v := by
    refine ⟨_, hns, ?_, ?_⟩
    · have e : ((("self" : Str)) == fld) = false := beq_eq_false_iff_ne.mpr fun e => D.nf e.symm
      show List.lookup ("self" : Str) [(fld, v), ("self", .ref x)] = _
      rw [List.lookup_cons, e]
      rfl
    · show List.lookup fld [(fld, v), ("self", .ref x)] = _
      rw [List.lookup_cons, beq_self_eq_true]
  refine ks_wpAt_execs_cons (ks_wpAt_Expr_any (ks_wpAt_MethodCall ?_ (meth_eval rfl hline)))
  refine ks_wpAt_super_base (env := ksEnv qual (iS names more) hp.objs.size fI (.ref cda) cc) D.lu D.lc (by decide) rfl (hk₁ _ _ (X _ _ ho)) rfl har rfl (hk₁ _ _ (X _ _ hcode)) rfl hvs hfile T.top ?_
  obtain ⟨mb, b1, b2⟩ := Md.blt
  refine ks_loadName_global rfl D.lu (loadGlobal_builtin (env := ksEnv qual (iS names more) hp.objs.size fI (.ref cda) cc) (Md.glob.keeps kb₁) T.nsu (b1.keeps kb₁) ((b2 _ (by decide +kernel)).trans (by decide +kernel)) ⟨rfl, ?_⟩)
  refine wpAny_loadName_free rfl D.lc rfl ⟨_, hk₁ _ _ (X _ _ hcell), rfl⟩ ?_
  refine wpAny_loadName_local rfl (by rw [hself]; exact D.ls) hns (by rw [hself]; exact vself) ?_
  have hC₁ := X₁ _ _ hC
  refine ks_wpAny_isType_cls hC₁ rfl ⟨rfl, ?_⟩
  refine ks_wpAny_call_super hC₁ rfl hx₁ rfl (fun c e => by cases e) (looks_mroIn X₁ T.slf) (fun h₂ e2 kk2 => ?_)
  have X₂ : K.In h₂ := X₁.keeps kk2
  have hx₂ := kk2 _ _ hx₁
  have hxC : x ≠ C := fun z => by
    rw [z, hC₁] at hx₁
    cases hx₁
  have I₂ : InstAt h₂ x (excO C t0) C none := ⟨hx₂, rfl, rfl, trivial⟩
  have hI : Looks (model prog w) h₂ (isInstance (.ref x) (.type "ValueError")) true := I₂.type.andThen (looks_subIn X₂ T.veC)
  have hsup := T.sup
  unfold ks_superIn at hsup
  rw [hcl] at hsup
  refine kxs_getMethod kxs_ValueError e2 (looks_opaque X₂ T.opq) (l₀ := .ref C :: bm) ?_ rfl X₂ hsup hI hxC (by decide) ?_
  · exact fun A Q E s k q => wpAny_bind ((looks_clsIn X₂ hcl) A _ E s k (wpAny_pure q))
  have kk3 : ∀ b o, h₂.get? b = some o → (h₂.push (kxs_mw "ValueError.__init__" x)).get? b = some o := fun b o e => Heap.get?_push_of_some _ e
  have hu : (h₂.push (kxs_mw "ValueError.__init__" x)).get? h₂.objs.size = some (kxs_mw "ValueError.__init__" x) := Heap.get?_push_at rfl rfl
  generalize hh3 : h₂.push (kxs_mw "ValueError.__init__" x) = h₃ at kk3 hu ⊢
  refine kxs_callWith (i := "ValueError.__init__") (x := x) rfl (evalArgs_plain ?_)
  refine spliced_more (wpAny_Name (wpAny_loadName_local (env := ksEnv qual (iS names more) hp.objs.size fI (.ref cda) cc) rfl D.lf ?ns vfld ?_) D.nd)
  case ns => exact (hns.keeps kk2).keeps kk3
  refine spliced_none ⟨hu, ?_⟩
  have X₃ : K.In h₃ := X₂.keeps kk3
  have hx₃ := kk3 _ _ hx₂
  have hC₃ := X₃ _ _ hC
  refine wpAny_call (codeAny_of_tree ?_)
  show wpAny _ _ (callAny (.ref h₂.objs.size) ⟨[v], []⟩) _ _ _
  simp only [callAny]
  refine wpAny_bind (wpAny_load hu ?_)
  simp only [kxs_mw, show (Value.type "method-wrapper" == Value.type "method" || Value.type "method-wrapper" == Value.type "builtin_function_or_method" || Value.type "method-wrapper" == Value.type "method-wrapper") = true by decide, if_true]
  refine KFB.if_so (by decide) ?_
  refine wpAny_bind (check_bound_init F.excBase_ValueError.toExcCallFacts hC₃ hx₃ rfl ?_)
  refine wpAny_bind (wpAny_pure (wpAny_pure ?_))
  refine ⟨plainId_quiet F.excBase_ValueError.init.plain _, codeAny_builtin F.excBase_ValueError.initEntry ?_⟩
  refine exc_init_tree (cls := .ref C) (t0 := t0) (dv := none) (c2 := .none) (c3 := .none) (b4 := .bool false) hx₃ (one_size v) (fun h₄ k4 hx₄ _ => ?_)
  -- self.fld = fld
  have k14 : ∀ b o, b ≠ x → h₁.get? b = some o → h₄.get? b = some o := fun b o hb e => k4 b o hb (kk3 _ _ (kk2 _ _ e))
  have X₄ : K.In h₄ := fun b o e => k14 b o (fun z => by rw [z, hnx] at e; cases e) (X₁ _ _ e)
  have hns4 : h₄.Ns hp.objs.size m0 := by
    obtain ⟨oL, es, ep, hL, r⟩ := hns
    exact ⟨oL, es, ep, k14 _ _ (fun z => absurd (Heap.lt_size hx) (by rw [← z]; exact Nat.lt_irrefl _)) hL, r⟩
  refine ks_wpAt_execs_cons (ks_wpAt_Assign_Attr (wpAt_of_wpAny (wpAny_Name (wpAny_loadName_local (env := ksEnv qual (iS names more) hp.objs.size fI (.ref cda) cc) rfl D.lf hns4 vfld ?_) D.nd)))
  refine wpAny_Name (wpAny_loadName_local (env := ksEnv qual (iS names more) hp.objs.size fI (.ref cda) cc) rfl D.ls hns4 vself ?_) (by decide)
  refine set_plain X₄ (ox := excO C _) (od := none) ⟨hx₄, rfl, rfl, trivial⟩ T.sa ?_
  refine exc_osa X₄ hx₄ hcl (show refsVE (.ref C :: bm) = true from hbm) rfl T.noN (fun h₅ tk₅ dx k₅ dn dne hx₅ hn₅ => ?_)
  have z : hp.objs.size < h₁.objs.size := hns.lt
  have z4 : hp.objs.size ≤ dx := by
    have y : hp.objs.size < h₄.objs.size := hns4.lt
    exact Nat.le_of_lt (Nat.lt_of_lt_of_le y dn)
  exact wpAt_of_wpAny (wpAny_execs_nil (hq h₅ tk₅ dx ⟨fun b o hb e => k₅ b o hb (k14 b o hb (hk₁ b o e)), ⟨_, hx₅⟩, z4, dne, hn₅⟩))
theorem sup_made (T : SupTxt prog K mg cn fld C fI) (Md : L2.Mod K mg base) (kb : ∀ b o, base.get? b = some o → s.heap.get? b = some o) {v : Value} (hroom : A.depth + 1 < recursionLimit)
    (hq : ∀ h' tk e d, OwnMade s.heap h' e C d fld v → R (.ok (.ret (.ref e))) { s with heap := h', toks := tk }) :
    codeAny (model prog w) A (.call (.ref C) ⟨[v], []⟩) R s := by
  obtain ⟨nm, q, N, bs, bm, sn, sub, ab, col, dd, k0, k1, k2, k3, k5, hC, hbm⟩ := T.cls
  have X : K.In s.heap := Md.kin.keeps kb
  obtain ⟨hp, g, dr, tk, os⟩ := s
  have k : ∀ b o, hp.get? b = some o → ((hp.push (kdv_tup [v])).push (excO C hp.objs.size)).get? b = some o := fun b o e => Heap.get?_push_of_some _ (Heap.get?_push_of_some _ e)
  have hget : ((hp.push (kdv_tup [v])).push (excO C hp.objs.size)).get? (hp.objs.size + 1) = some (excO C hp.objs.size) := by heap_get
  have hnx : K.lookup (hp.objs.size + 1) = none := by
    cases e : K.lookup (hp.objs.size + 1) with
    | none => rfl
    | some o =>
      have z : hp.get? (hp.objs.size + 1) = some o := X _ _ e
      exact absurd (Nat.lt_of_succ_lt (Heap.lt_size z)) (Nat.lt_irrefl _)
  refine call_own F.excBase_ValueError (fun X => refsVE_contains X bm hbm) (X _ _ hC) (looks_findIn X T.iC) (fun self => bind_fn X self T.tC) (one_size v) ?_
  refine sup_init (s := ⟨(hp.push (kdv_tup [v])).push (excO C hp.objs.size), g, dr, tk, os⟩) T Md (fun b o e => k b o (kb b o e)) hget hnx ?_ fun h' tk' dx ⟨k', ⟨t1, hx⟩, dn, dne, hns⟩ => ?_
  · show A.depth + 1 < recursionLimit
    exact hroom
  · have old : ∀ b o, hp.get? b = some o → h'.get? b = some o := fun b o e => k' b o (Nat.ne_of_lt (Nat.lt_succ_of_lt (Heap.lt_size e))) (k b o e)
    have z : hp.objs.size + 1 + 1 ≤ dx := by
      first
        | (simpa only [Heap.size_push] using dn)
        | exact dn
        | (have q := dn; rw [Heap.size_push, Heap.size_push] at q; exact q)
    exact ⟨rfl, hq h' tk' (hp.objs.size + 1) dx ⟨old, Nat.le_succ _, ⟨_, _, hx, rfl, rfl, rfl, rfl⟩, Nat.le_trans (Nat.le_trans (Nat.le_succ _) (Nat.le_succ _)) z, dne, hns⟩⟩
end
end SupX
end PySem
namespace Eb
open PySem PySem.Spec PyProof.Rows L2
theorem relO_fld {v : V} {v' : Value} {fld : Str} (r : RelV v v') (f : Str) : RelO (List.lookup f [(fld, v)]) (if f = fld then some v' else none) := by
  by_cases hw : f = fld
  · subst hw
    rw [if_pos rfl]
    have q : List.lookup f [(f, v)] = some v := by simp [List.lookup]
    rw [q]
    exact r
  · rw [if_neg hw]
    have qw : (f == fld) = false := by simpa using hw
    have q2 : List.lookup f [(fld, v)] = none := by simp [List.lookup, qw]
    rw [q2]
    trivial
section
variable {X : Cx} {C fI : Addr} {cn fld : Str}
/-- cn(e): the error, its dict at d -/
def tMkS (C : Addr) (fld : Str) (ta : TA) : L2.St → Hp → XK → Prop := fun σ H Q => ta σ H fun vs H1 => ∃ v, vs = [v] ∧ ∀ d, H1 d = none → Q (.ref C) (some d) (upd H1 d (.xd [(fld, v)]))
theorem pmk_sup {a : Expr} {ta : TA} {p pos : Pos} {k : Nat} (T : PySem.SupX.SupTxt X.prog X.K X.mg cn fld C fI) (hr : Room k X.A) (ha : PA X [a] ta) (hg : Gl X cn) (hdb : (cn == ("__debug__" : Str)) = false := by decide)
    (he : starEach (a :: []) X.env = (false, eval a X.env) :: starEach [] X.env := by rfl) (hpl : (backTo pos (starEach [] X.env)).any (·.1) = false := by rfl) :
    PMk X (.Call (.Name cn p) [a] [] pos) (tMkS C fld ta) := by
  intro pins s σ H Q I h
  refine wpAny_Call_Name_kw (ld_glob I hg T.gC ?_ hdb)
  refine PySem.W.callWith_K (h₀ := X.base) I.ok.mod.kin T.kC (thn (ha.run pos pins s σ H _ I h) fun us s1 hh => ?_) he hpl
  obtain ⟨vs, H1, I1, r1, v, ev, q1⟩ := hh
  subst ev
  refine ⟨I1.kIn, ?_⟩
  cases r1 with
  | cons rv rn =>
    rename_i v' us'
    cases rn
    show wpAny _ _ (call (.ref C) [v']) _ _ _
    have Md := I1.ok.mod
    have kb := I1.bk
    obtain ⟨hp, g, dr, tk, os⟩ := s1
    refine wpAny_call (PySem.SupX.sup_made T Md kb (by have := hr.dp; omega) fun h' tk' e d M => ?_)
    show MkP X pins σ Q (.ref e) ⟨h', g, dr, tk', os⟩
    obtain ⟨oe, fv, hoe, hc, hd, hdat, h1⟩ := M.obj
    have hns := M.ns
    obtain ⟨G', g1, g2⟩ := restrict h' fun b => decide (b ≠ e)
    have gk : ∀ b, b ≠ e → G'.get? b = h'.get? b := fun b hb => g1 b (decide_eq_true hb)
    have ge : G'.get? e = none := g2 e (by simp)
    have old : ∀ b o, hp.get? b = some o → G'.get? b = some o := fun b o q => (gk b (Nat.ne_of_lt (Nat.lt_of_lt_of_le (Heap.lt_size q) M.new))).trans (M.keep b o q)
    have ob : ObjOk X.prog X.w (upd H1 d (.xd [(fld, v)])) G' d (.xd [(fld, v)]) :=
      ⟨_, hns.at (fun o q => (gk d M.dne).trans q), fun f => relO_fld rv f⟩
    have J : Inv X pins σ (upd H1 d (.xd [(fld, v)])) ⟨G', g, dr, tk', os⟩ := I1.laid (t' := tk') old M.dbig ob
    refine ⟨e, oe, fv, ⟨G', g, dr, tk', os⟩, _, .ref C, some d, rfl, J, fun b o q => ?_, ge, hoe, ⟨hc, hd⟩, hdat, h1, ?_, rfl, I1.bare, raises_own T.exC T.tyC, q1 d (I1.hok.fresh M.dbig)⟩
    · by_cases hb : b = e
      · have q' : G'.get? b = some o := q
        rw [hb, ge] at q'; cases q'
      · exact (gk b hb).symm.trans q
    · rw [upd_ne (Ne.symm M.dne)]
      exact I1.hok.fresh M.new
/-- raise cn(e) -/
def tRaiseS (C : Addr) (fld : Str) (W : WX) (ta : TA) : TS := fun _ σ H => tMkS C fld ta σ H fun cls d H' => W cls d σ H'
theorem ps_raiseS {a : Expr} {ta : TA} {W : WX} {p pos pos2 : Pos} {k : Nat} (hc : X.calm = true) (T : PySem.SupX.SupTxt X.prog X.K X.mg cn fld C fI) (hr : Room k X.A) (tk : Takes X W) (ha : PA X [a] ta) (hg : Gl X cn) (hdb : (cn == ("__debug__" : Str)) = false := by decide)
    (he : starEach (a :: []) X.env = (false, eval a X.env) :: starEach [] X.env := by rfl) (hpl : (backTo pos (starEach [] X.env)).any (·.1) = false := by rfl) :
    PS X (.Raise (some (.Call (.Name cn p) [a] [] pos)) none pos2) (tRaiseS C fld W ta) := ps_raise hc tk (pmk_sup T hr ha hg hdb he hpl)
end
end Eb
namespace PySem.W
open PySem PySem.Spec PySem.Calls PyProof.Rows
section
variable {prog : Program} {w : World} {A : Around} {E : Value → Shared → Prop} {s : Shared} {K : Frag} {x D : Addr} {ox : Obj}
theorem kin_classD {od : Option Obj} {Q : Option Value → Shared → Prop} (hga : findIn K (.ref D) "__getattribute__" = some (some (.builtin "BaseException.__getattribute__"))) (hgt : findIn K (.ref D) "__getattr__" = some none) (hsub : subIn K (.ref D) (.type "BaseException") = some true)
    (hdct : hasDictIn K D = true) (ha : findIn K (.ref D) "__class__" = some (some (.builtin "object.__class__")))
    (hn : specialIn K (.builtin "object.__class__") "__get__" = some (some (.builtin "getset_descriptor.__get__"))) (htk : takesIn K (.builtin "object.__class__") = some true) (hm : mroIn K D (.type "object") = some true)
    (X : K.In s.heap) (I : InstAt s.heap x ox D od) (h : Q (some (.ref D)) { s with toks := s.toks + 1 }) : wpAny (model prog w) A (getAttr? (.ref x) "__class__") Q E s := by
  have hf : findObj K D od "__class__" = some (.bind (.builtin "getset_descriptor.__get__") (.builtin "object.__class__")) := by
    have z : (clsIn K D).isSome = true := by obtain ⟨cd, hc, _⟩ := any_some hdct; rw [hc]; rfl
    cases od with
    | none => exact findObj_dataN z ha hn htk
    | some o => exact findObj_data z ha hn htk
  obtain ⟨hp, g, d, t, os⟩ := s
  have L0 := I.type (M := model prog w)
  have L1 := looks_findIn (M := model prog w) X hga
  have L2 := looks_findIn (M := model prog w) X hgt
  have L3 := looks_find (M := model prog w) X I hf
  have sub : Looks (model prog w) hp (isInstance (.ref x) (.type "BaseException")) true := L0.andThen (looks_subIn X hsub)
  have hx0 : (false && onTheHeap (Value.builtin "BaseException.__getattribute__")) = false := rfl
  have hx2 : (Value.builtin "BaseException.__getattribute__" == Value.builtin "object.__getattribute__") = false := by decide +kernel
  have hx1 : (onTheHeap (Value.ref D) && Value.builtin "BaseException.__getattribute__" == Value.builtin "object.__getattribute__") = false := by rw [hx2]; rfl
  unfold getAttr? getAttrBy? getAttrBy
  refine wpAny_bind (wpAny_mkText (wpAny_bind (wpAny_attempt (wpAny_holding (wpAny_bind (L0.at (wpAny_bind (L1.at ?_))))))))
  show wpAny _ _ (if (onTheHeap (Value.ref D) && Value.builtin "BaseException.__getattribute__" == Value.builtin "object.__getattribute__") = true then _ else _) _ _ _
  rw [hx1, if_neg Bool.false_ne_true]
  unfold getAttrByItsOwn hookBefore
  refine wpAny_bind ?_
  rw [if_pos (show onTheHeap (Value.ref D) = true from rfl)]
  refine L2.at ?_
  refine wpAny_bind (wpAny_attempt (wpAny_holding ?_))
  unfold callGetattribute
  rw [hx0, if_neg Bool.false_ne_true]
  unfold boundAndCalled
  rw [PySem.F.excAttr_ValueError.ga.bind (.ref x)]
  refine wpAny_bind (wpAny_pure ?_)
  show wpAny _ _ (call (.builtin "BaseException.__getattribute__") [.ref x, .str "__class__" t]) _ _ _
  refine wpAny_call (codeAny_call_builtin PySem.F.excAttr_ValueError.ga.plain PySem.F.entry_bexc_ga ?_)
  refine @check_slot (model prog w) _ _ ⟨hp, g, d, t + 1, os⟩ "BaseException.__getattribute__" "BaseException" "__getattribute__" (.ref x) [.str "__class__" t] [] _ (by decide +kernel) (by decide +kernel) sub (PySem.F.args_bexc_ga (.ref x) (.str "__class__" t)) ?_
  unfold Builtin.«object.__getattribute__»
  refine wpAny_bind (wpAny_of_eq (a := ((Value.ref x : Value), [Value.str "__class__" t])) (by first | rfl | (simp only [slotArgs]; rfl)) ?_)
  refine wpAny_bind (wpAny_pure (wpAny_bind (L0.at (wpAny_bind (L3.at ?_)))))
  show wpAny _ _ (holding [Value.builtin "object.__class__"] (call (.builtin "getset_descriptor.__get__") [.builtin "object.__class__", .ref x, .ref D]) >>= ret) _ _ _
  refine wpAny_bind (wpAny_holding (wpAny_call (class_get (s := ⟨hp, g, d, t + 1, os⟩) (ox := ox) (od := od) X I hm ?_)))
  refine wpAny_pure ?_
  show wpAny _ _ (handedOut (.ref D)) _ _ _
  rw [handedOut_of (v := .ref D) rfl]
  first
    | exact wpAny_pure (wpAny_pure h)
    | exact wpAny_pure h
    | exact wpAny_pure (wpAny_bind (wpAny_pure (wpAny_pure h)))
theorem kitx_excD {od : Option Obj} (hga : findIn K (.ref D) "__getattribute__" = some (some (.builtin "BaseException.__getattribute__"))) (hgt : findIn K (.ref D) "__getattr__" = some none) (hsub : subIn K (.ref D) (.type "BaseException") = some true) (hdct : hasDictIn K D = true) (ha : findIn K (.ref D) "__class__" = some (some (.builtin "object.__class__")))
    (hn : specialIn K (.builtin "object.__class__") "__get__" = some (some (.builtin "getset_descriptor.__get__"))) (htk : takesIn K (.builtin "object.__class__") = some true) (hm : mroIn K D (.type "object") = some true) :
    KitX K (.ref x) (.ref D) (fun h => InstAt h x ox D od) where
  ty := fun _ _ _ I => I.type
  it := fun _ _ X _ => by
    obtain ⟨cdD, hcD, _⟩ := any_some hdct
    unfold clsIn at hcD
    split at hcD
    · rename_i c' d' cd' sl' ho
      intro A' Q' E' s' k q
      unfold isType loadHead
      exact wpAny_bind (wpAny_loadPart (k _ _ (X _ _ ho)) (wpAny_pure q))
    · cases hcD
  ne := fun h tp dd its n sl X htp => by
    obtain ⟨cdD, hcD, _⟩ := any_some hdct
    refine Bool.eq_false_iff.mpr fun q => ?_
    have e : D = tp := Value.ref.inj (beq_iff_eq.mp q)
    subst e
    unfold clsIn at hcD
    split at hcD
    · rename_i c' d' cd' sl' ho
      have z := (X _ _ ho).symm.trans htp
      cases z
    · cases hcD
  ca := fun X I k => kin_classD hga hgt hsub hdct ha hn htk hm X I k
end
end PySem.W
namespace Eb
open PySem PySem.Spec PyProof.Rows L2
/-- isinstance(e, (c1, c2, ..)), e the caught error at a, of the class at D, its dict laid -/
def rIsET (K : PySem.W.Frag) (a D : Addr) (cls : Value) (d : Option Addr) : List V → Hp → VK → Prop := fun xs H Q => cls = .ref D ∧ (∃ dd fs, d = some dd ∧ H dd = some (.xd fs)) ∧ ∃ (tp : Addr) (cs : List V) (us : List Value) (b : Bool),
  xs = [.ref a, .ref tp] ∧ H tp = some (.tup cs) ∧ Paired ClsV cs us ∧ PySem.W.kitAny K (.ref D) us = some b ∧ Q (.bl b) H
theorem call_isET {X : Cx} {a D : Addr} {oe : Obj} {cls : Value} {d : Option Addr} {pn : List (Addr × Obj)} (C : ExcC X.K D) (hz : Zc cls d oe) (hf : ∃ vs, oe.data = .fields vs) : CallR (X.suite a ((a, oe) :: pn)) (.builtin "isinstance") (rIsET X.K a D cls d) := by
  intro pins s σ H xs us Q I r h
  obtain ⟨ec, ⟨dd, fs, ed, hdd⟩, tp, cs, ws, b, rfl, hT, k, e, q⟩ := h
  subst ec
  subst ed
  obtain ⟨u1, u2, rfl, r1, r2⟩ := vals2 r
  cases (show u1 = Value.ref a from r1)
  cases (show u2 = Value.ref tp from r2)
  obtain ⟨hget, _⟩ := I.pin (a, oe) (List.mem_append.mpr (.inl List.mem_cons_self))
  obtain ⟨vs, hv⟩ := hf
  obtain ⟨mA, hns, _⟩ := (show ObjOk X.prog X.w H s.heap dd (.xd fs) from I.hok dd _ hdd)
  obtain ⟨od, ho, _⟩ := lookIn_ns hns
  have J : PySem.W.InstAt s.heap a oe D (some od) := ⟨hget, hz.1, by unfold PySem.W.notCls; rw [hv] <;> rfl, by rw [hz.2]; exact ho⟩
  obtain ⟨_, its, rv, o, h1, h2, n, h3⟩ := (show ObjOk X.prog X.w H s.heap tp (.tup cs) from I.hok tp _ hT)
  have e3 := ClsV.all k rv
  subst e3
  obtain ⟨oc, od', dt, sl⟩ := o
  simp only at h2 h3
  subst h2 h3
  exact PySem.W.kia_tup (PySem.W.kitx_excD C.hg C.hk C.hs C.hd C.ha C.hn C.ht C.hm) I.kIn J h1 e (fun z => nomatch z) fun tk => ⟨.bl b, H, I.tok tk, rfl, q⟩
end Eb

local macro_rules | `(tactic| walk_at "go") => `(tactic| repeat (first | refine ⟨_, rfl, ?_⟩ | refine ⟨_, _, rfl, rfl, ?_⟩ | refine ⟨rfl, ?_⟩ | refine ⟨_, _, rfl, rfl, ⟨by decide, by decide, by decide⟩, ?_⟩))
namespace K02
open PySem PySem.Spec PyProof.Rows L2 Eb
def topS (i : Nat) : Stmt := PySem.Challenge.pw_everybase_k02_figures_and_numbers.main.body.getD i (.Pass ⟨0, 0, 0, 0⟩)
abbrev s_is_integer : Stmt := topS 7
theorem sc_is_integer : FnScope ["value"] ["value"] (defScope s_is_integer) := ⟨rfl, rfl, rfl, by decide +kernel, rfl, by decide +kernel, by decide +kernel⟩
abbrev s_is_number : Stmt := topS 8
theorem sc_is_number : FnScope ["value"] ["value"] (defScope s_is_number) := ⟨rfl, rfl, rfl, by decide +kernel, rfl, by decide +kernel, by decide +kernel⟩
abbrev s_is_base : Stmt := topS 9
theorem sc_is_base : FnScope ["value"] ["value"] (defScope s_is_base) := ⟨rfl, rfl, rfl, by decide +kernel, rfl, by decide +kernel, by decide +kernel⟩
abbrev s_need_base : Stmt := topS 11
theorem sc_need_base : FnScope ["base"] ["base"] (defScope s_need_base) := ⟨rfl, rfl, rfl, by decide +kernel, rfl, by decide +kernel, by decide +kernel⟩
abbrev s_need_numbers : Stmt := topS 12
theorem sc_need_numbers : FnScope ["numbers", "base", "number"] ["numbers", "base"] (defScope s_need_numbers) := ⟨rfl, rfl, rfl, by decide +kernel, rfl, by decide +kernel, by decide +kernel⟩
abbrev s_figures_of : Stmt := topS 13
theorem sc_figures_of : FnScope ["number", "base", "found", "left"] ["number", "base"] (defScope s_figures_of) := ⟨rfl, rfl, rfl, by decide +kernel, rfl, by decide +kernel, by decide +kernel⟩
abbrev s_put_together : Stmt := topS 14
theorem sc_put_together : FnScope ["figures", "base", "found", "one"] ["figures", "base"] (defScope s_put_together) := ⟨rfl, rfl, rfl, by decide +kernel, rfl, by decide +kernel, by decide +kernel⟩
abbrev s_number_of : Stmt := topS 15
theorem sc_number_of : FnScope ["figures", "base", "at", "one"] ["figures", "base"] (defScope s_number_of) := ⟨rfl, rfl, rfl, by decide +kernel, rfl, by decide +kernel, by decide +kernel⟩
abbrev s_many : Stmt := topS 16
theorem sc_many : FnScope ["number", "base"] ["number", "base"] (defScope s_many) := ⟨rfl, rfl, rfl, by decide +kernel, rfl, by decide +kernel, by decide +kernel⟩
abbrev s__law_deal : Stmt := topS 18
theorem sc__law_deal : FnScope ["_law_script", "_law_base_here", "_law_cell", "_law_cells", "_law_blend"] ["_law_script", "_law_base_here"] (defScope s__law_deal) := ⟨rfl, rfl, rfl, by decide +kernel, rfl, by decide +kernel, by decide +kernel⟩
abbrev s__law_draw : Stmt := topS 19
theorem sc__law_draw : FnScope ["_law_deal_here", "_law_span", "_law_left"] ["_law_deal_here", "_law_span"] (defScope s__law_draw) := ⟨rfl, rfl, rfl, by decide +kernel, rfl, by decide +kernel, by decide +kernel⟩
abbrev s__law_pick : Stmt := topS 20
theorem sc__law_pick : FnScope ["_law_deal_here", "_law_some"] ["_law_deal_here", "_law_some"] (defScope s__law_pick) := ⟨rfl, rfl, rfl, by decide +kernel, rfl, by decide +kernel, by decide +kernel⟩
abbrev s__law_base : Stmt := topS 21
theorem sc__law_base : FnScope ["_law_deal_here", "_law_some"] ["_law_deal_here"] (defScope s__law_base) := ⟨rfl, rfl, rfl, by decide +kernel, rfl, by decide +kernel, by decide +kernel⟩
abbrev s__law_written : Stmt := topS 22
theorem sc__law_written : FnScope ["_law_figures_here", "_law_base_here", "_law_found", "_law_one"] ["_law_figures_here", "_law_base_here"] (defScope s__law_written) := ⟨rfl, rfl, rfl, by decide +kernel, rfl, by decide +kernel, by decide +kernel⟩
abbrev s__law_figures : Stmt := topS 23
theorem sc__law_figures : FnScope ["_law_number_here", "_law_base_here", "_law_found"] ["_law_number_here", "_law_base_here"] (defScope s__law_figures) := ⟨rfl, rfl, rfl, by decide +kernel, rfl, by decide +kernel, by decide +kernel⟩
abbrev s__law_number : Stmt := topS 24
theorem sc__law_number : FnScope ["_law_deal_here", "_law_base_here", "_law_span", "_law_room", "_law_some", "_law_found", "_law_k"] ["_law_deal_here", "_law_base_here"] (defScope s__law_number) := ⟨rfl, rfl, rfl, by decide +kernel, rfl, by decide +kernel, by decide +kernel⟩
abbrev s__law_refused : Stmt := topS 25
theorem sc__law_refused : FnScope ["_law_figures_here", "_law_base_here", "_law_found", "e"] ["_law_figures_here", "_law_base_here"] (defScope s__law_refused) := ⟨rfl, rfl, rfl, by decide +kernel, rfl, by decide +kernel, by decide +kernel⟩
abbrev s__law_bad_right : Stmt := topS 26
theorem sc__law_bad_right : FnScope ["_law_deal_here", "_law_figures_here", "_law_base_here", "_law_bad", "_law_at", "_law_spoilt", "_law_value"] ["_law_deal_here", "_law_figures_here", "_law_base_here"] (defScope s__law_bad_right) := ⟨rfl, rfl, rfl, by decide +kernel, rfl, by decide +kernel, by decide +kernel⟩
abbrev s_law : Stmt := topS 27
theorem sc_law : FnScope ["_law_script", "_law_deal_here", "_law_turn", "_law_base_here", "_law_number_here", "_law_due", "_law_ahead", "_law_wide", "_law_kept"] ["_law_script"] (defScope s_law) := ⟨rfl, rfl, rfl, by decide +kernel, rfl, by decide +kernel, by decide +kernel⟩
abbrev s_NoFigure_init : Stmt := inClass (topS 4) 0
structure Txt (K : PySem.W.Frag) (mg : Str → Option Value) (F : Nat → Addr) (D : Nat → FuncData) (C : Nat → Addr) : Prop where
  f_is_integer : Fun K "is_integer" "is_integer" s_is_integer (F 0) (D 0)
  b_is_integer : Binds K (D 0) ["value"] []
  g_is_integer : mg "is_integer" = some (.ref (F 0))
  f_is_number : Fun K "is_number" "is_number" s_is_number (F 1) (D 1)
  b_is_number : Binds K (D 1) ["value"] []
  g_is_number : mg "is_number" = some (.ref (F 1))
  f_is_base : Fun K "is_base" "is_base" s_is_base (F 2) (D 2)
  b_is_base : Binds K (D 2) ["value"] []
  g_is_base : mg "is_base" = some (.ref (F 2))
  f_need_base : Fun K "need_base" "need_base" s_need_base (F 3) (D 3)
  b_need_base : Binds K (D 3) ["base"] []
  g_need_base : mg "need_base" = some (.ref (F 3))
  f_need_numbers : Fun K "need_numbers" "need_numbers" s_need_numbers (F 4) (D 4)
  b_need_numbers : Binds K (D 4) ["numbers", "base"] []
  g_need_numbers : mg "need_numbers" = some (.ref (F 4))
  f_figures_of : Fun K "figures_of" "figures_of" s_figures_of (F 5) (D 5)
  b_figures_of : Binds K (D 5) ["number", "base"] []
  g_figures_of : mg "figures_of" = some (.ref (F 5))
  f_put_together : Fun K "put_together" "put_together" s_put_together (F 6) (D 6)
  b_put_together : Binds K (D 6) ["figures", "base"] []
  g_put_together : mg "put_together" = some (.ref (F 6))
  f_number_of : Fun K "number_of" "number_of" s_number_of (F 7) (D 7)
  b_number_of : Binds K (D 7) ["figures", "base"] []
  g_number_of : mg "number_of" = some (.ref (F 7))
  f_many : Fun K "many" "many" s_many (F 8) (D 8)
  b_many : Binds K (D 8) ["number", "base"] []
  g_many : mg "many" = some (.ref (F 8))
  f__law_deal : Fun K "_law_deal" "_law_deal" s__law_deal (F 9) (D 9)
  b__law_deal : Binds K (D 9) ["_law_script", "_law_base_here"] []
  g__law_deal : mg "_law_deal" = some (.ref (F 9))
  f__law_draw : Fun K "_law_draw" "_law_draw" s__law_draw (F 10) (D 10)
  b__law_draw : Binds K (D 10) ["_law_deal_here", "_law_span"] []
  g__law_draw : mg "_law_draw" = some (.ref (F 10))
  f__law_pick : Fun K "_law_pick" "_law_pick" s__law_pick (F 11) (D 11)
  b__law_pick : Binds K (D 11) ["_law_deal_here", "_law_some"] []
  g__law_pick : mg "_law_pick" = some (.ref (F 11))
  f__law_base : Fun K "_law_base" "_law_base" s__law_base (F 12) (D 12)
  b__law_base : Binds K (D 12) ["_law_deal_here"] []
  g__law_base : mg "_law_base" = some (.ref (F 12))
  f__law_written : Fun K "_law_written" "_law_written" s__law_written (F 13) (D 13)
  b__law_written : Binds K (D 13) ["_law_figures_here", "_law_base_here"] []
  g__law_written : mg "_law_written" = some (.ref (F 13))
  f__law_figures : Fun K "_law_figures" "_law_figures" s__law_figures (F 14) (D 14)
  b__law_figures : Binds K (D 14) ["_law_number_here", "_law_base_here"] []
  g__law_figures : mg "_law_figures" = some (.ref (F 14))
  f__law_number : Fun K "_law_number" "_law_number" s__law_number (F 15) (D 15)
  b__law_number : Binds K (D 15) ["_law_deal_here", "_law_base_here"] []
  g__law_number : mg "_law_number" = some (.ref (F 15))
  f__law_refused : Fun K "_law_refused" "_law_refused" s__law_refused (F 16) (D 16)
  b__law_refused : Binds K (D 16) ["_law_figures_here", "_law_base_here"] []
  g__law_refused : mg "_law_refused" = some (.ref (F 16))
  f__law_bad_right : Fun K "_law_bad_right" "_law_bad_right" s__law_bad_right (F 17) (D 17)
  b__law_bad_right : Binds K (D 17) ["_law_deal_here", "_law_figures_here", "_law_base_here"] []
  g__law_bad_right : mg "_law_bad_right" = some (.ref (F 17))
  f_law : Fun K "law" "law" s_law (F 18) (D 18)
  b_law : Binds K (D 18) ["_law_script"] []
  g_law : mg "law" = some (.ref (F 18))
  n_isinstance : mg "isinstance" = none
  n_int : mg "int" = none
  n_bool : mg "bool" = none
  n_tuple : mg "tuple" = none
  n_list : mg "list" = none
  n_len : mg "len" = none
  n_enumerate : mg "enumerate" = none
  n_range : mg "range" = none
  n_min : mg "min" = none
  n_max : mg "max" = none
  n_repr : mg "repr" = none
  v_LEAST_BASE : ∃ u, mg "LEAST_BASE" = some u ∧ RelV (.int 2) u
theorem sd_NoFigure : PySem.SupX.SupDef "at" (defArgs s_NoFigure_init) (defBody s_NoFigure_init) (defScope s_NoFigure_init).names (defScope s_NoFigure_init).more := ⟨⟨_, _, _, _, _, _, _, _, _, _, rfl, rfl⟩, ⟨_, rfl, rfl⟩, fun _ _ _ _ _ _ _ _ _ _ => BindsTo.of_eq rfl, by decide +kernel, rfl, rfl, rfl, rfl, by decide, by decide⟩
structure Exs (P : Program) (K : PySem.W.Frag) (mg : Str → Option Value) (C I : Nat → Addr) : Prop where
  g_FigureError : mg "FigureError" = some (.ref (C 0))
  g_InvalidBase : mg "InvalidBase" = some (.ref (C 1))
  g_InvalidNumber : mg "InvalidNumber" = some (.ref (C 2))
  g_NoFigure : mg "NoFigure" = some (.ref (C 3))
  x_NoFigure : PySem.SupX.SupTxt P K mg "NoFigure" "at" (C 3) (I 3)
  i_NoFigure : ExcC K (C 3)
  t_NoFigure_FigureError : PySem.W.kitOne K (.ref (C 3)) (.ref (C 0)) = some true
  t_NoFigure_InvalidBase : PySem.W.kitOne K (.ref (C 3)) (.ref (C 1)) = some false
  t_NoFigure_InvalidNumber : PySem.W.kitOne K (.ref (C 3)) (.ref (C 2)) = some false
  t_NoFigure_NoFigure : PySem.W.kitOne K (.ref (C 3)) (.ref (C 3)) = some true
section
variable {P : Program} {w : World} {K : PySem.W.Frag} {mg : Str → Option Value} {base : Heap} {F : Nat → Addr} {D : Nat → FuncData} {C I : Nat → Addr}
def sp_is_integer : Sp := fun vs H Q _ => ∃ i, vs = [V.int i] ∧ Q (.bl true) H
theorem ok_is_integer (T : Txt K mg F D C) : FnOk P w K mg base CX0 1 (F 0) (D 0) ["value"] (sp_is_integer) := by
  refine T.f_is_integer.ok sc_is_integer (fun vs H Q E h => ?_) (fun cdv A outer s H vs Q E hr h => ?_)
  · obtain ⟨i, rfl, q⟩ := h
    rfl
  · obtain ⟨i, rfl, q⟩ := h
    refine ⟨_, (pss_one (ps_ret (pe_and (pe_callB call_isi (by rfl) T.n_isinstance Eb.bb_isinstance (pa_cons (pv 0) (pa_cons (pe_bltn (v := .ty "int") (by rfl) T.n_int Eb.bb_int rfl) pa_nil))) (pe_one (pe_not (pe_callB call_isi (by rfl) T.n_isinstance Eb.bb_isinstance (pa_cons (pv 0) (pa_cons (pe_bltn (v := .ty "bool") (by rfl) T.n_bool Eb.bb_bool rfl) pa_nil)))))))), ?_⟩
    refine ⟨_, rfl, _, _, _, _, true, rfl, .ty "int", .base (.int i), kit_ty (by decide +kernel), true, rfl, iteT ?_⟩
    refine ⟨_, rfl, _, _, _, _, false, rfl, .ty "bool", .base (.int i), kit_ty (by decide +kernel), false, rfl, ?_⟩
    exact q
def sp_is_number : Sp := fun vs H Q _ => ∃ i, vs = [V.int i] ∧ Q (.bl (decide (0 ≤ i))) H
theorem ok_is_number (T : Txt K mg F D C) : FnOk P w K mg base CX0 2 (F 1) (D 1) ["value"] (sp_is_number) := by
  refine T.f_is_number.ok sc_is_number (fun vs H Q E h => ?_) (fun cdv A outer s H vs Q E hr h => ?_)
  · obtain ⟨i, rfl, q⟩ := h
    rfl
  · obtain ⟨i, rfl, q⟩ := h
    refine ⟨_, (pss_one (ps_ret (pe_and (pe_call (ok_is_integer T) (hr.mono (by decide)) (by rfl) T.g_is_integer T.f_is_integer.kp T.b_is_integer .nil pass0 (pa_cons (pv 0) pa_nil)) (pe_one (pe_cmpR op_ge (pv 0) pe_int (nomark _)))))), ?_⟩
    refine ⟨_, rfl, i, rfl, true, rfl, iteT ?_⟩
    refine ⟨_, rfl, _, _, rfl, rfl, ?_⟩
    exact q
def sp_is_base : Sp := fun vs H Q _ => ∃ i, vs = [V.int i] ∧ Q (.bl (decide (2 ≤ i))) H
theorem ok_is_base (T : Txt K mg F D C) : FnOk P w K mg base CX0 2 (F 2) (D 2) ["value"] (sp_is_base) := by
  refine T.f_is_base.ok sc_is_base (fun vs H Q E h => ?_) (fun cdv A outer s H vs Q E hr h => ?_)
  · obtain ⟨i, rfl, q⟩ := h
    rfl
  · obtain ⟨i, rfl, q⟩ := h
    refine ⟨_, (pss_one (ps_ret (pe_and (pe_call (ok_is_integer T) (hr.mono (by decide)) (by rfl) T.g_is_integer T.f_is_integer.kp T.b_is_integer .nil pass0 (pa_cons (pv 0) pa_nil)) (pe_one (pe_cmpR op_ge (pv 0) (C8.pe_gc (by rfl) T.v_LEAST_BASE) (nomark _)))))), ?_⟩
    refine ⟨_, rfl, i, rfl, true, rfl, iteT ?_⟩
    refine ⟨_, rfl, _, _, rfl, rfl, ?_⟩
    exact q
def sp_need_base : Sp := fun vs H Q _ => ∃ i, vs = [V.int i] ∧ 2 ≤ i ∧ Q .non H
theorem ok_need_base (T : Txt K mg F D C) : FnOk P w K mg base CX0 3 (F 3) (D 3) ["base"] (sp_need_base) := by
  refine T.f_need_base.ok sc_need_base (fun vs H Q E h => ?_) (fun cdv A outer s H vs Q E hr h => ?_)
  · obtain ⟨i, rfl, hi, q⟩ := h
    rfl
  · obtain ⟨i, rfl, hi, q⟩ := h
    refine ⟨_, (pss_one (ps_if (pt_not (pt_val (pe_call (ok_is_base T) (hr.mono (by decide)) (by rfl) T.g_is_base T.f_is_base.kp T.b_is_base .nil pass0 (pa_cons (pv 0) pa_nil)))) (pss_one ps_never) pss_nil)), ?_⟩
    refine ⟨_, rfl, i, rfl, _, rfl, ?_⟩
    rw [decide_eq_true hi]
    exact iteF q
def sp_need_numbers (K : PySem.W.Frag) : Sp := fun vs H Q _ => ∃ (a : Addr) (ns : List Int) (b : Int), vs = [V.ref a, .int b] ∧ SqL K H a (ns.map V.int) ∧ (∀ n ∈ ns, 0 ≤ n) ∧ 2 ≤ b ∧ Q .non H
theorem ok_need_numbers (T : Txt K mg F D C) : FnOk P w K mg base CX0 4 (F 4) (D 4) ["numbers", "base"] (sp_need_numbers K) := by
  refine T.f_need_numbers.ok sc_need_numbers (fun vs H Q E h => ?_) (fun cdv A outer s H vs Q E hr h => ?_)
  · obtain ⟨a, ns, b, rfl, hs, hn, hb, q⟩ := h
    rfl
  · obtain ⟨a, ns, b, rfl, hs, hn, hb, q⟩ := h
    refine ⟨_, (pss_cons (ps_expr (pe_call (ok_need_base T) (hr.mono (by decide)) (by rfl) T.g_need_base T.f_need_base.kp T.b_need_base .nil pass0 (pa_cons (pv 1) pa_nil))) (pss_one (ps_for PassesOwn.never rfl (pi_list (pv 0)) (pg_name (i := 2) sc_need_numbers.nd rfl (.inl rfl)) (pss_one (ps_if (pt_not (pt_val (pe_call (ok_is_number T) (hr.mono (by decide)) (by rfl) T.g_is_number T.f_is_number.kp T.b_is_number .nil pass0 (pa_cons (pv 2) pa_nil)))) (pss_one ps_never) pss_nil))))), ?_⟩
    refine ⟨_, rfl, b, rfl, hb, ?_⟩
    refine ⟨_, rfl, a, rfl, ⟨_, hs⟩, for_list (K := K) (a := a) (xs := ns.map V.int) (fun i σ H' => ∃ v, σ = [some (.ref a), some (.int b), v] ∧ H' = H) ⟨none, rfl, rfl⟩ ?_ ?_ ?_⟩
    · rintro i σ H' _ ⟨v, rfl, rfl⟩
      exact hs
    · rintro i x σ H' hx ⟨v, rfl, rfl⟩
      rw [List.getElem?_map] at hx
      obtain ⟨z, hz, rfl⟩ := Option.map_eq_some_iff.mp hx
      refine ⟨_, rfl, z, rfl, _, rfl, ?_⟩
      rw [decide_eq_true (hn z (List.mem_of_getElem? hz))]
      exact iteF ⟨_, rfl, rfl⟩
    · rintro σ H' ⟨v, rfl, rfl⟩
      exact q

/-- values that a row may hold here -/
def Pl (H : Hp) : V → Prop
  | .non => True
  | .bl _ => True
  | .int _ => True
  | .str _ => True
  | .ref a => ∃ xs, H a = some (.lst xs) ∨ H a = some (.tup xs)
  | _ => False
def isI : V → Bool
  | .int _ => true
  | _ => false
theorem Pl.same {H H' : Hp} {y : V} (h : Pl H y) (s : Same H H') : Pl H' y := by
  cases y with
  | ref a =>
    obtain ⟨xs, e | e⟩ := h
    · exact ⟨xs, .inl (s _ _ e)⟩
    · exact ⟨xs, .inr (s _ _ e)⟩
  | _ => exact h
def sp_isiv : Sp := fun vs H Q _ => ∃ y, vs = [y] ∧ Pl H y ∧ Q (.bl (isI y)) H
theorem ok_is_integer_v (T : Txt K mg F D C) : FnOk P w K mg base CX0 1 (F 0) (D 0) ["value"] (sp_isiv) := by
  refine T.f_is_integer.ok sc_is_integer (fun vs H Q E h => ?_) (fun cdv A outer s H vs Q E hr h => ?_)
  · obtain ⟨y, rfl, hy, q⟩ := h
    rfl
  · obtain ⟨y, rfl, hy, q⟩ := h
    refine ⟨_, (pss_one (ps_ret (pe_and (pe_callB call_isi (by rfl) T.n_isinstance Eb.bb_isinstance (pa_cons (pv 0) (pa_cons (pe_bltn (v := .ty "int") (by rfl) T.n_int Eb.bb_int rfl) pa_nil))) (pe_one (pe_not (pe_callB call_isi (by rfl) T.n_isinstance Eb.bb_isinstance (pa_cons (pv 0) (pa_cons (pe_bltn (v := .ty "bool") (by rfl) T.n_bool Eb.bb_bool rfl) pa_nil)))))))), ?_⟩
    cases y with
    | int i =>
      refine ⟨_, rfl, _, _, _, _, true, rfl, .ty "int", .base (.int i), kit_ty (by decide +kernel), true, rfl, iteT ?_⟩
      exact ⟨_, rfl, _, _, _, _, false, rfl, .ty "bool", .base (.int i), kit_ty (by decide +kernel), false, rfl, q⟩
    | bl i =>
      refine ⟨_, rfl, _, _, _, _, true, rfl, .ty "int", .base (.bl i), kit_ty (by decide +kernel), true, rfl, iteT ?_⟩
      exact ⟨_, rfl, _, _, _, _, true, rfl, .ty "bool", .base (.bl i), kit_ty (by decide +kernel), true, rfl, q⟩
    | non => exact ⟨_, rfl, _, _, _, _, false, rfl, .ty "int", .base .non, kit_ty (by decide +kernel), false, rfl, iteF q⟩
    | str i => exact ⟨_, rfl, _, _, _, _, false, rfl, .ty "int", .base (.str i), kit_ty (by decide +kernel), false, rfl, iteF q⟩
    | ref a =>
      obtain ⟨xs, e | e⟩ := hy
      · exact ⟨_, rfl, _, _, _, _, false, rfl, .ty "int", .base (.lst e), kit_ty (by decide +kernel), false, rfl, iteF q⟩
      · exact ⟨_, rfl, _, _, _, _, false, rfl, .ty "int", .base (.tup e), kit_ty (by decide +kernel), false, rfl, iteF q⟩
    | _ => exact hy.elim

/-- figures_of: a new tuple of the figures -/
def sp_figures_of : Sp := fun vs H Q _ => ∃ n b : Int, vs = [V.int n, .int b] ∧ 0 ≤ n ∧ 2 ≤ b ∧ Sm n ∧ Sm b ∧ ∀ p H', Same H H' → H p = none → H' p = some (.tup ((digs b n).reverse.map V.int)) → Q (.ref p) H'
theorem ok_figures_of (T : Txt K mg F D C) : FnOk P w K mg base CX0 5 (F 5) (D 5) ["number", "base"] (sp_figures_of) := by
  refine T.f_figures_of.ok sc_figures_of (fun vs H Q E h => ?_) (fun cdv A outer s H vs Q E hr h => ?_)
  · obtain ⟨n, b, rfl, hn, hb, sn, sb, q⟩ := h
    rfl
  · obtain ⟨n, b, rfl, hn, hb, sn, sb, q⟩ := h
    refine ⟨_, (pss_cons (ps_expr (pe_call (ok_need_numbers T) (hr.mono (by decide)) (by rfl) T.g_need_numbers T.f_need_numbers.kp T.b_need_numbers .nil pass0 (pa_cons (pe_lst (pa_cons (pv 0) pa_nil)) (pa_cons (pv 1) pa_nil)))) (pss_cons (ps_set (i := 2) sc_figures_of.nd rfl (.inl rfl) (pe_lst (pa_cons (pe_op op_mod (pv 0) (pv 1)) pa_nil))) (pss_cons (ps_set (i := 3) sc_figures_of.nd rfl (.inl rfl) (pe_op op_fdivX (pv 0) (pv 1))) (pss_cons (ps_while PassesOwn.never (pt_cmpR op_gt (pv 3) pe_int (nomark _)) (pss_cons (ps_expr (pe_bm PySem.F.plainAttrs_list PySem.F.slot_list_append PySem.F.type_list_append mt_append (pv 2) (pa_cons (pe_op op_mod (pv 3) (pv 1)) pa_nil))) (pss_one (ps_set (i := 3) sc_figures_of.nd rfl (.inl rfl) (pe_op op_fdivX (pv 3) (pv 1)))))) (pss_one (ps_ret (pe_callTy call_tuple_of (by rfl) T.n_tuple Eb.bb_tuple (pa_cons (pe_revL (pv 2)) pa_nil)))))))), ?_⟩
    -- need_numbers([number], base)
    refine ⟨_, rfl, szr rfl, fun t ht => ⟨_, rfl, t, [n], b, rfl, sqL_new, ?_, hb, ?_⟩⟩
    · intro z hz
      rw [List.mem_singleton.mp hz]
      exact hn
    -- found = [number % base], left = number // base
    refine ⟨_, rfl, _, rfl, _, _, rfl, rfl, (show 0 < b by omega), szr rfl, fun p hp => ?_⟩
    refine ⟨_, rfl, _, rfl, _, _, rfl, rfl, divW (by omega) sb, ?_⟩
    have hp0 : H p = none := by
      cases e : H p with
      | none => rfl
      | some o =>
        rw [same_new ht _ _ e] at hp
        cases hp
    refine whl (fun m σ H' => ∃ (c : List Int) (l : Int), σ = [some (.int n), some (.int b), some (.ref p), some (.int l)] ∧ 0 ≤ l ∧ l ≤ n ∧ m = l.toNat ∧ c ++ rest b l = digs b n ∧ H' p = some (.lst (c.map V.int)) ∧ Same H H') (n / b).toNat
      ⟨[n % b], n / b, rfl, div_nn hb hn, Int.ediv_le_self _ hn, rfl, (digs_rest hb hn).symm, upd_same, same_mut (same_new ht) hp0⟩ ?_
    rintro m σ H' ⟨c, l, rfl, h0, h1, rfl, hc, hH, sm⟩
    have hlen : c.length ≤ 1900 := by
      have := congrArg List.length hc
      rw [List.length_append] at this
      have := digs_small hb hn sn
      omega
    refine ⟨_, rfl, _, _, rfl, rfl, _, rfl, ?_⟩
    by_cases hl : 0 < l
    · rw [decide_eq_true hl]
      refine iteT (turn_of ?_)
      refine ⟨_, rfl, .inl ⟨rfl, _, sqL_of hH⟩, _, rfl, _, rfl, _, _, rfl, rfl, (show 0 < b by omega), p, _, _, rfl, rfl, hH, ?_, ?_⟩
      · rw [List.length_map]
        exact szl (by omega)
      · refine ⟨_, rfl, _, rfl, _, _, rfl, rfl, divW (by omega) sb, ?_⟩
        refine ⟨(l / b).toNat, ?_, c ++ [l % b], l / b, rfl, div_nn hb h0, ?_, rfl, ?_, ?_, same_mut sm hp0⟩
        · by_cases z : l < b
          · rw [div_zero h0 z]
            show 0 < l.toNat
            omega
          · have z1 := div_lt hb (Int.not_lt.mp z)
            have z2 := div_nn hb h0
            omega
        · exact Int.le_trans (Int.ediv_le_self _ h0) h1
        · rw [← hc, rest_step hb hl, List.append_assoc]
          rfl
        · rw [upd_same, List.map_append]
          rfl
    · rw [decide_eq_false hl]
      refine iteF ?_
      rw [rest_zero (by omega), List.append_nil] at hc
      -- return tuple(found[::-1])
      refine ⟨_, rfl, p, _, rfl, sqL_of hH, fun r hr' => ⟨r, _, rfl, .inl ⟨sqL_new, fun t2 ht2 => ?_⟩⟩⟩
      have e1 : Same H' (upd H' r (.lst ((c.map V.int).reverse))) := same_new hr'
      refine q t2 _ ((sm.trans e1).trans (same_new ht2)) (sm.free (e1.free ht2)) ?_
      rw [upd_same, hc, List.map_reverse]

/-- put_together: of a list or a tuple -/
def sp_put_together (K : PySem.W.Frag) : Sp := fun vs H Q _ => ∃ (a : Addr) (xs : List Int) (b : Int), vs = [V.ref a, .int b] ∧ (SqL K H a (xs.map V.int) ∨ SqT K H a (xs.map V.int)) ∧ Sm b ∧ (∀ i, i ≤ xs.length → Sm (ofs b (xs.take i))) ∧ Q (.int (ofs b xs)) H
theorem ok_put_together (T : Txt K mg F D C) : FnOk P w K mg base CX0 1 (F 6) (D 6) ["figures", "base"] (sp_put_together K) := by
  refine T.f_put_together.ok sc_put_together (fun vs H Q E h => ?_) (fun cdv A outer s H vs Q E hr h => ?_)
  · obtain ⟨a, xs, b, rfl, _⟩ := h
    rfl
  · obtain ⟨a, xs, b, rfl, hs | hs, sb, hx, q⟩ := h
    · refine ⟨_, (pss_cons (ps_set (i := 2) sc_put_together.nd rfl (.inl rfl) pe_int) (pss_cons (ps_for PassesOwn.never rfl (pi_list (pv 0)) (pg_name (i := 3) sc_put_together.nd rfl (.inl rfl)) (pss_one (ps_set (i := 2) sc_put_together.nd rfl (.inl rfl) (pe_op op_add (pe_op op_mulW (pv 2) (pv 1)) (pv 3))))) (pss_one (ps_ret (pv 2))))), ?_⟩
      refine ⟨_, rfl, a, rfl, ⟨_, hs⟩, for_list (K := K) (a := a) (xs := xs.map V.int) (fun i σ H' => ∃ v, σ = [some (.ref a), some (.int b), some (.int (ofs b (xs.take i))), v] ∧ H' = H) ⟨none, rfl, rfl⟩ ?_ ?_ ?_⟩
      · rintro i σ H' _ ⟨v, rfl, rfl⟩
        exact hs
      · rintro i x σ H' hi ⟨v, rfl, rfl⟩
        rw [List.getElem?_map] at hi
        obtain ⟨z, hz, rfl⟩ := Option.map_eq_some_iff.mp hi
        have hl : i < xs.length := (List.getElem?_eq_some_iff.mp hz).1
        refine ⟨_, rfl, _, rfl, _, _, rfl, rfl, mulW (hx i (by omega)) sb, _, rfl, _, _, rfl, rfl, ?_⟩
        refine ⟨some (.int z), ?_, rfl⟩
        rw [ofs_take hz]
        rfl
      · rintro σ H' ⟨v, rfl, rfl⟩
        rw [List.length_map, List.take_length]
        exact ⟨_, rfl, q⟩
    · refine ⟨_, (pss_cons (ps_set (i := 2) sc_put_together.nd rfl (.inl rfl) pe_int) (pss_cons (ps_for PassesOwn.never rfl (pi_tup (pv 0)) (pg_name (i := 3) sc_put_together.nd rfl (.inl rfl)) (pss_one (ps_set (i := 2) sc_put_together.nd rfl (.inl rfl) (pe_op op_add (pe_op op_mulW (pv 2) (pv 1)) (pv 3))))) (pss_one (ps_ret (pv 2))))), ?_⟩
      refine ⟨_, rfl, a, rfl, ⟨_, hs⟩, for_tup (K := K) (a := a) (xs := xs.map V.int) (fun i σ H' => ∃ v, σ = [some (.ref a), some (.int b), some (.int (ofs b (xs.take i))), v] ∧ H' = H) ⟨none, rfl, rfl⟩ ?_ ?_ ?_⟩
      · rintro i σ H' _ ⟨v, rfl, rfl⟩
        exact hs
      · rintro i x σ H' hi ⟨v, rfl, rfl⟩
        rw [List.getElem?_map] at hi
        obtain ⟨z, hz, rfl⟩ := Option.map_eq_some_iff.mp hi
        have hl : i < xs.length := (List.getElem?_eq_some_iff.mp hz).1
        refine ⟨_, rfl, _, rfl, _, _, rfl, rfl, mulW (hx i (by omega)) sb, _, rfl, _, _, rfl, rfl, ?_⟩
        refine ⟨some (.int z), ?_, rfl⟩
        rw [ofs_take hz]
        rfl
      · rintro σ H' ⟨v, rfl, rfl⟩
        rw [List.length_map, List.take_length]
        exact ⟨_, rfl, q⟩
def sp_many : Sp := fun vs H Q _ => ∃ n b : Int, vs = [V.int n, .int b] ∧ 0 ≤ n ∧ 2 ≤ b ∧ Sm n ∧ Sm b ∧ ∀ H', Same H H' → Q (.int ((digs b n).length : Int)) H'
theorem ok_many (T : Txt K mg F D C) : FnOk P w K mg base CX0 6 (F 8) (D 8) ["number", "base"] (sp_many) := by
  refine T.f_many.ok sc_many (fun vs H Q E h => ?_) (fun cdv A outer s H vs Q E hr h => ?_)
  · obtain ⟨n, b, rfl, hn, hb, sn, sb, q⟩ := h
    rfl
  · obtain ⟨n, b, rfl, hn, hb, sn, sb, q⟩ := h
    refine ⟨_, (pss_one (ps_ret (pe_callB call_len_seq (by rfl) T.n_len Eb.bb_len (pa_cons (pe_call (ok_figures_of T) (hr.mono (by decide)) (by rfl) T.g_figures_of T.f_figures_of.kp T.b_figures_of .nil pass0 (pa_cons (pv 0) (pa_cons (pv 1) pa_nil))) pa_nil)))), ?_⟩
    refine ⟨_, rfl, _, rfl, n, b, rfl, hn, hb, sn, sb, fun p H' sm hp e => ?_⟩
    refine ⟨p, _, rfl, .inr (sqT_of e), ?_⟩
    rw [List.length_map, List.length_reverse]
    exact q _ sm

theorem kit_list {K : PySem.W.Frag} : PySem.W.kitAny K (.type "list") [.type "list", .type "tuple"] = some true := kitAny_cons (b := true) (kit_ty (by decide +kernel)) (fun h => nomatch h) (fun _ => rfl)
theorem kit_tuple {K : PySem.W.Frag} : PySem.W.kitAny K (.type "tuple") [.type "list", .type "tuple"] = some true := kitAny_cons (b := false) (kit_ty (by decide +kernel)) (fun _ => kitAny_cons (b := true) (kit_ty (by decide +kernel)) (fun h => nomatch h) (fun _ => rfl)) (fun h => nomatch h)
/-- number_of: of a list or a tuple of figures -/
def sp_number_of : Sp := fun vs H Q _ => ∃ (a : Addr) (xs : List Int) (b : Int), vs = [V.ref a, .int b] ∧ (H a = some (.lst (xs.map V.int)) ∨ H a = some (.tup (xs.map V.int))) ∧ xs ≠ [] ∧ InB b xs ∧ 2 ≤ b ∧ Sm b ∧ (∀ i, i ≤ xs.length → Sm (ofs b (xs.take i))) ∧ ∀ H', Same H H' → Q (.int (ofs b xs)) H'
theorem ok_number_of (T : Txt K mg F D C) : FnOk P w K mg base CX0 4 (F 7) (D 7) ["figures", "base"] sp_number_of := by
  refine T.f_number_of.ok sc_number_of (fun vs H Q E h => ?_) (fun cdv A outer s H vs Q E hr h => ?_)
  · obtain ⟨a, xs, b, rfl, _⟩ := h
    rfl
  · obtain ⟨a, xs, b, rfl, hs | hs, hne, inb, hb, sb, hl, q⟩ := h
    · refine ⟨_, (pss_cons (ps_expr (pe_call (ok_need_base T) (hr.mono (by decide)) (by rfl) T.g_need_base T.f_need_base.kp T.b_need_base .nil pass0 (pa_cons (pv 1) pa_nil))) (pss_cons (ps_if (PW.pt (pw_or (pt_not (pt_val (pe_callB call_isiT (by rfl) T.n_isinstance Eb.bb_isinstance (pa_cons (pv 0) (pa_cons (pe_tup (pa_cons (pe_bltn (v := .ty "list") (by rfl) T.n_list Eb.bb_list rfl) (pa_cons (pe_bltn (v := .ty "tuple") (by rfl) T.n_tuple Eb.bb_tuple rfl) pa_nil))) pa_nil))))) (pw_or1 (pt_cmpR op_eq (pe_callB call_len_seq (by rfl) T.n_len Eb.bb_len (pa_cons (pv 0) pa_nil)) pe_int (nomark _))))) (pss_one ps_never) pss_nil) (pss_cons (ps_for PassesOwn.never rfl (pi_enum (by rfl) T.n_enumerate (pa_cons (pv 0) pa_nil)) (pg_tup rfl (pgs_cons (pg_name (i := 2) sc_number_of.nd rfl (.inl rfl)) (pgs_cons (pg_name (i := 3) sc_number_of.nd rfl (.inl rfl)) pgs_nil))) (pss_one (ps_if (PW.pt (pw_or (pt_not (pt_val (pe_call (ok_is_integer T) (hr.mono (by decide)) (by rfl) T.g_is_integer T.f_is_integer.kp T.b_is_integer .nil pass0 (pa_cons (pv 3) pa_nil)))) (pw_or1 (pt_not (pt_chain op_le op_lt pe_int (pv 3) (pv 1)))))) (pss_one ps_never) pss_nil))) (pss_one (ps_ret (pe_call (ok_put_together T) (hr.mono (by decide)) (by rfl) T.g_put_together T.f_put_together.kp T.b_put_together .nil pass0 (pa_cons (pv 0) (pa_cons (pv 1) pa_nil)))))))), ?_⟩
      refine ⟨_, rfl, b, rfl, hb, ?_⟩
      -- isinstance(figures, (list, tuple)), len(figures) == 0
      refine ⟨_, rfl, szr rfl, fun t ht => ?_⟩
      have s1 := same_new (o := .tup [.ty "list", .ty "tuple"]) ht
      refine ⟨_, t, _, _, [.type "list", .type "tuple"], true, rfl, upd_same, .cons (.ty _) (.cons (.ty _) .nil), .base (.lst (s1 _ _ hs)), kit_list, true, rfl, iteF ?_⟩
      refine ⟨_, rfl, a, _, rfl, .inl (sqL_of (s1 _ _ hs)), rfl, _, rfl, ?_⟩
      have ne0 : ¬ (V.int (((xs.map V.int).length : Nat) : Int) = V.int 0) := fun z => by
        have z' := V.int.inj z
        rw [List.length_map] at z'
        exact hne (List.length_eq_zero_iff.mp (by omega))
      show (if decide (V.int (((xs.map V.int).length : Nat) : Int) = V.int 0) = true then _ else _)
      rw [decide_eq_false ne0]
      refine iteF ?_
      refine ⟨_, rfl, a, _, rfl, sqL_of (s1 _ _ hs), for_it (walk_enum (K := K) (a := a) (xs := xs.map V.int)) (fun i σ H' => ∃ v w, σ = [some (.ref a), some (.int b), v, w] ∧ Same H H') ⟨none, none, rfl, s1⟩ ?_ ?_ ?_⟩
      · rintro i σ H' _ ⟨v, w, rfl, sm⟩
        exact sqL_of (sm _ _ hs)
      · rintro i x σ H1 H2 hi ⟨v, w, rfl, sm⟩ ⟨t2, x1, x2, rfl, ht2, rfl, e1, e2⟩
        cases Option.some.inj e1
        replace e2 : (xs.map V.int)[i]? = some x2 := e2
        rw [List.getElem?_map] at e2
        obtain ⟨z, hz, rfl⟩ := Option.map_eq_some_iff.mp e2
        have hz2 := inb z (List.mem_of_getElem? hz)
        refine ⟨t2, _, rfl, sqT_new, rfl, _, _, rfl, _, _, rfl, rfl, ?_⟩
        refine ⟨_, rfl, z, rfl, true, rfl, iteF ?_⟩
        refine ⟨_, rfl, _, _, rfl, rfl, _, rfl, ?_⟩
        rw [decide_eq_true hz2.1]
        refine iteT ?_
        refine ⟨_, rfl, _, _, rfl, rfl, _, rfl, ?_⟩
        rw [decide_eq_true hz2.2]
        exact iteF ⟨_, _, rfl, sm.trans (same_new ht2)⟩
      · rintro σ H' ⟨v, w, rfl, sm⟩
        exact ⟨_, rfl, _, rfl, a, xs, b, rfl, .inl (sqL_of (sm _ _ hs)), sb, hl, q _ sm⟩
    · refine ⟨_, (pss_cons (ps_expr (pe_call (ok_need_base T) (hr.mono (by decide)) (by rfl) T.g_need_base T.f_need_base.kp T.b_need_base .nil pass0 (pa_cons (pv 1) pa_nil))) (pss_cons (ps_if (PW.pt (pw_or (pt_not (pt_val (pe_callB call_isiT (by rfl) T.n_isinstance Eb.bb_isinstance (pa_cons (pv 0) (pa_cons (pe_tup (pa_cons (pe_bltn (v := .ty "list") (by rfl) T.n_list Eb.bb_list rfl) (pa_cons (pe_bltn (v := .ty "tuple") (by rfl) T.n_tuple Eb.bb_tuple rfl) pa_nil))) pa_nil))))) (pw_or1 (pt_cmpR op_eq (pe_callB call_len_seq (by rfl) T.n_len Eb.bb_len (pa_cons (pv 0) pa_nil)) pe_int (nomark _))))) (pss_one ps_never) pss_nil) (pss_cons (ps_for PassesOwn.never rfl (pi_enumT (by rfl) T.n_enumerate (pa_cons (pv 0) pa_nil)) (pg_tup rfl (pgs_cons (pg_name (i := 2) sc_number_of.nd rfl (.inl rfl)) (pgs_cons (pg_name (i := 3) sc_number_of.nd rfl (.inl rfl)) pgs_nil))) (pss_one (ps_if (PW.pt (pw_or (pt_not (pt_val (pe_call (ok_is_integer T) (hr.mono (by decide)) (by rfl) T.g_is_integer T.f_is_integer.kp T.b_is_integer .nil pass0 (pa_cons (pv 3) pa_nil)))) (pw_or1 (pt_not (pt_chain op_le op_lt pe_int (pv 3) (pv 1)))))) (pss_one ps_never) pss_nil))) (pss_one (ps_ret (pe_call (ok_put_together T) (hr.mono (by decide)) (by rfl) T.g_put_together T.f_put_together.kp T.b_put_together .nil pass0 (pa_cons (pv 0) (pa_cons (pv 1) pa_nil)))))))), ?_⟩
      refine ⟨_, rfl, b, rfl, hb, ?_⟩
      refine ⟨_, rfl, szr rfl, fun t ht => ?_⟩
      have s1 := same_new (o := .tup [.ty "list", .ty "tuple"]) ht
      refine ⟨_, t, _, _, [.type "list", .type "tuple"], true, rfl, upd_same, .cons (.ty _) (.cons (.ty _) .nil), .base (.tup (s1 _ _ hs)), kit_tuple, true, rfl, iteF ?_⟩
      refine ⟨_, rfl, a, _, rfl, .inr (sqT_of (s1 _ _ hs)), rfl, _, rfl, ?_⟩
      have ne0 : ¬ (V.int (((xs.map V.int).length : Nat) : Int) = V.int 0) := fun z => by
        have z' := V.int.inj z
        rw [List.length_map] at z'
        exact hne (List.length_eq_zero_iff.mp (by omega))
      show (if decide (V.int (((xs.map V.int).length : Nat) : Int) = V.int 0) = true then _ else _)
      rw [decide_eq_false ne0]
      refine iteF ?_
      refine ⟨_, rfl, a, _, rfl, sqT_of (s1 _ _ hs), for_it (walk_enumT (K := K) (a := a) (xs := xs.map V.int)) (fun i σ H' => ∃ v w, σ = [some (.ref a), some (.int b), v, w] ∧ Same H H') ⟨none, none, rfl, s1⟩ ?_ ?_ ?_⟩
      · rintro i σ H' _ ⟨v, w, rfl, sm⟩
        exact sqT_of (sm _ _ hs)
      · rintro i x σ H1 H2 hi ⟨v, w, rfl, sm⟩ ⟨t2, x1, x2, rfl, ht2, rfl, e1, e2⟩
        cases Option.some.inj e1
        replace e2 : (xs.map V.int)[i]? = some x2 := e2
        rw [List.getElem?_map] at e2
        obtain ⟨z, hz, rfl⟩ := Option.map_eq_some_iff.mp e2
        have hz2 := inb z (List.mem_of_getElem? hz)
        refine ⟨t2, _, rfl, sqT_new, rfl, _, _, rfl, _, _, rfl, rfl, ?_⟩
        refine ⟨_, rfl, z, rfl, true, rfl, iteF ?_⟩
        refine ⟨_, rfl, _, _, rfl, rfl, _, rfl, ?_⟩
        rw [decide_eq_true hz2.1]
        refine iteT ?_
        refine ⟨_, rfl, _, _, rfl, rfl, _, rfl, ?_⟩
        rw [decide_eq_true hz2.2]
        exact iteF ⟨_, _, rfl, sm.trans (same_new ht2)⟩
      · rintro σ H' ⟨v, w, rfl, sm⟩
        exact ⟨_, rfl, _, rfl, a, xs, b, rfl, .inr (sqT_of (sm _ _ hs)), sb, hl, q _ sm⟩

theorem kit_seqN {K : PySem.W.Frag} {t : String} (h1 : kitB t "list" = some false) (h2 : kitB t "tuple" = some false) : PySem.W.kitAny K (.type t) [.type "list", .type "tuple"] = some false := kitAny_cons (b := false) (kit_ty h1) (fun _ => kitAny_cons (b := false) (kit_ty h2) (fun _ => kitAny_nil) (fun h => nomatch h)) (fun h => nomatch h)
/-- the first that is no figure stands at i -/
def NoFig (H : Hp) (b : Int) (xs : List V) (i : Nat) : Prop := (∀ j, j < i → ∃ z, xs[j]? = some (.int z) ∧ 0 ≤ z ∧ z < b) ∧ ∃ y, xs[i]? = some y ∧ Pl H y ∧ ∀ z, y = .int z → ¬ (0 ≤ z ∧ z < b)
inductive Wrong (H : Hp) (b : Int) : V → Nat → Prop
  | lst {a : Addr} {xs : List V} {i : Nat} (e : H a = some (.lst xs)) (h : NoFig H b xs i) : Wrong H b (.ref a) i
  | tup {a : Addr} {xs : List V} {i : Nat} (e : H a = some (.tup xs)) (h : NoFig H b xs i) : Wrong H b (.ref a) i
  | lst0 {a : Addr} (e : H a = some (.lst [])) : Wrong H b (.ref a) 0
  | tup0 {a : Addr} (e : H a = some (.tup [])) : Wrong H b (.ref a) 0
  | non : Wrong H b .non 0
  | int (i : Int) : Wrong H b (.int i) 0
  | str (x : Str) : Wrong H b (.str x) 0
  | bl (x : Bool) : Wrong H b (.bl x) 0
theorem NoFig.lt {H : Hp} {b : Int} {xs : List V} {i : Nat} (h : NoFig H b xs i) : i < xs.length := by
  obtain ⟨_, y, hy, _⟩ := h
  exact (List.getElem?_eq_some_iff.mp hy).1
def sp_number_ofx (C : Addr) : Sp := fun vs H Q E => ∃ (v : V) (b : Int) (i : Nat), vs = [v, .int b] ∧ 2 ≤ b ∧ Wrong H b v i ∧ ∀ (d : Addr) (H1 : Hp), Same H H1 → H1 d = none → E (.ref C) (some d) (upd H1 d (.xd [(("at" : Str), .int i)]))
theorem okx_number_of (T : Txt K mg F D C) (Z : Exs P K mg C I) : FnOk P w K mg base (L2.CX P w) 4 (F 7) (D 7) ["figures", "base"] (sp_number_ofx (C 3)) := by
  refine T.f_number_of.okX sc_number_of (fun vs H Q E h => ?_) (fun cdv A outer s H vs Q E hr h => ?_)
  · obtain ⟨v, b, i, rfl, hb, hw, q⟩ := h
    rfl
  · obtain ⟨v, b, i, rfl, hb, hw, q⟩ := h
    cases hw with
    | lst hs hn =>
      rename_i a xs
      refine ⟨_, (pss_cons (ps_expr (pe_call (ok_need_base T) (hr.mono (by decide)) (by rfl) T.g_need_base T.f_need_base.kp T.b_need_base .nil pass0 (pa_cons (pv 1) pa_nil))) (pss_cons (ps_if (PW.pt (pw_or (pt_not (pt_val (pe_callB call_isiT (by rfl) T.n_isinstance Eb.bb_isinstance (pa_cons (pv 0) (pa_cons (pe_tup (pa_cons (pe_bltn (v := .ty "list") (by rfl) T.n_list Eb.bb_list rfl) (pa_cons (pe_bltn (v := .ty "tuple") (by rfl) T.n_tuple Eb.bb_tuple rfl) pa_nil))) pa_nil))))) (pw_or1 (pt_cmpR op_eq (pe_callB call_len_seq (by rfl) T.n_len Eb.bb_len (pa_cons (pv 0) pa_nil)) pe_int (nomark _))))) (pss_one (ps_raiseS rfl Z.x_NoFigure hr (takes_of rfl rfl rfl rfl) (by exact (pa_cons pe_int pa_nil)) (by rfl))) pss_nil) (pss_cons (ps_for (passes_of rfl) rfl (pi_enum (by rfl) T.n_enumerate (pa_cons (pv 0) pa_nil)) (pg_tup rfl (pgs_cons (pg_name (i := 2) sc_number_of.nd rfl (.inl rfl)) (pgs_cons (pg_name (i := 3) sc_number_of.nd rfl (.inl rfl)) pgs_nil))) (pss_one (ps_if (PW.pt (pw_or (pt_not (pt_val (pe_call (ok_is_integer_v T) (hr.mono (by decide)) (by rfl) T.g_is_integer T.f_is_integer.kp T.b_is_integer .nil pass0 (pa_cons (pv 3) pa_nil)))) (pw_or1 (pt_not (pt_chain op_le op_lt pe_int (pv 3) (pv 1)))))) (pss_one (ps_raiseS rfl Z.x_NoFigure hr (takes_of rfl rfl rfl rfl) (by exact (pa_cons (pv 2) pa_nil)) (by rfl))) pss_nil))) (pss_one (ps_ret (pe_call (ok_put_together T) (hr.mono (by decide)) (by rfl) T.g_put_together T.f_put_together.kp T.b_put_together .nil pass0 (pa_cons (pv 0) (pa_cons (pv 1) pa_nil)))))))), ?_⟩
      refine ⟨_, rfl, b, rfl, hb, ?_⟩
      refine ⟨_, rfl, szr rfl, fun t ht => ?_⟩
      have s1 := same_new (o := .tup [.ty "list", .ty "tuple"]) ht
      refine ⟨_, t, _, _, [.type "list", .type "tuple"], true, rfl, upd_same, .cons (.ty _) (.cons (.ty _) .nil), .base (.lst (s1 _ _ hs)), kit_list, true, rfl, iteF ?_⟩
      refine ⟨_, rfl, a, _, rfl, .inl (sqL_of (s1 _ _ hs)), rfl, _, rfl, ?_⟩
      have ne0 : ¬ (V.int ((xs.length : Nat) : Int) = V.int 0) := fun z => by
        have z' := V.int.inj z
        have := hn.lt
        omega
      show (if decide (V.int ((xs.length : Nat) : Int) = V.int 0) = true then _ else _)
      rw [decide_eq_false ne0]
      refine iteF ?_
      refine ⟨_, rfl, a, _, rfl, sqL_of (s1 _ _ hs), for_it (walk_enum (K := K) (a := a) (xs := xs)) (fun j σ H' => ∃ v w, σ = [some (.ref a), some (.int b), v, w] ∧ Same H H' ∧ j ≤ i) ⟨none, none, rfl, s1, Nat.zero_le _⟩ ?_ ?_ ?_⟩
      · rintro j σ H' _ ⟨v, w, rfl, sm, _⟩
        exact sqL_of (sm _ _ hs)
      · rintro j x σ H1 H2 hi ⟨v, w, rfl, sm, hj⟩ ⟨t2, x1, x2, rfl, ht2, rfl, e1, e2⟩
        cases Option.some.inj e1
        replace e2 : xs[j]? = some x2 := e2
        have s2 := sm.trans (same_new (o := .tup [.int (j : Int), x2]) ht2)
        refine ⟨t2, _, rfl, sqT_new, rfl, _, _, rfl, _, _, rfl, rfl, ?_⟩
        by_cases c : j < i
        · obtain ⟨z, hz, z0, z1⟩ := hn.1 j c
          rw [hz] at e2
          cases Option.some.inj e2
          refine ⟨_, rfl, _, rfl, trivial, true, rfl, iteF ?_⟩
          refine ⟨_, rfl, _, _, rfl, rfl, _, rfl, ?_⟩
          rw [decide_eq_true z0]
          refine iteT ?_
          refine ⟨_, rfl, _, _, rfl, rfl, _, rfl, ?_⟩
          rw [decide_eq_true z1]
          exact iteF ⟨_, _, rfl, s2, c⟩
        · have e : j = i := by omega
          subst e
          obtain ⟨y, hy, py, ny⟩ := hn.2
          rw [hy] at e2
          cases Option.some.inj e2
          have bad : ∀ d, upd H1 t2 (.tup [.int (j : Int), x2]) d = none → E (.ref (C 3)) (some d) (upd (upd H1 t2 (.tup [.int (j : Int), x2])) d (.xd [(("at" : Str), .int (j : Int))])) := fun d hd => q d _ s2 hd
          by_cases hI : isI x2 = true
          · cases x2 with
            | int z =>
              refine ⟨_, rfl, _, rfl, trivial, true, rfl, iteF ?_⟩
              refine ⟨_, rfl, _, _, rfl, rfl, _, rfl, ?_⟩
              by_cases z0 : 0 ≤ z
              · rw [decide_eq_true z0]
                refine iteT ?_
                refine ⟨_, rfl, _, _, rfl, rfl, _, rfl, ?_⟩
                rw [decide_eq_false (fun z1 => ny z rfl ⟨z0, z1⟩)]
                exact iteT ⟨_, rfl, _, rfl, bad⟩
              · rw [decide_eq_false z0]
                exact iteF ⟨_, rfl, iteT ⟨_, rfl, _, rfl, bad⟩⟩
            | _ => cases hI
          · refine ⟨_, rfl, _, rfl, py.same s2, isI x2, rfl, ?_⟩
            rw [Bool.eq_false_iff.mpr hI]
            exact iteT ⟨_, rfl, _, rfl, bad⟩
      · rintro σ H' ⟨v, w, rfl, sm, hj⟩
        have := hn.lt
        omega
    | tup hs hn =>
      rename_i a xs
      refine ⟨_, (pss_cons (ps_expr (pe_call (ok_need_base T) (hr.mono (by decide)) (by rfl) T.g_need_base T.f_need_base.kp T.b_need_base .nil pass0 (pa_cons (pv 1) pa_nil))) (pss_cons (ps_if (PW.pt (pw_or (pt_not (pt_val (pe_callB call_isiT (by rfl) T.n_isinstance Eb.bb_isinstance (pa_cons (pv 0) (pa_cons (pe_tup (pa_cons (pe_bltn (v := .ty "list") (by rfl) T.n_list Eb.bb_list rfl) (pa_cons (pe_bltn (v := .ty "tuple") (by rfl) T.n_tuple Eb.bb_tuple rfl) pa_nil))) pa_nil))))) (pw_or1 (pt_cmpR op_eq (pe_callB call_len_seq (by rfl) T.n_len Eb.bb_len (pa_cons (pv 0) pa_nil)) pe_int (nomark _))))) (pss_one (ps_raiseS rfl Z.x_NoFigure hr (takes_of rfl rfl rfl rfl) (by exact (pa_cons pe_int pa_nil)) (by rfl))) pss_nil) (pss_cons (ps_for (passes_of rfl) rfl (pi_enumT (by rfl) T.n_enumerate (pa_cons (pv 0) pa_nil)) (pg_tup rfl (pgs_cons (pg_name (i := 2) sc_number_of.nd rfl (.inl rfl)) (pgs_cons (pg_name (i := 3) sc_number_of.nd rfl (.inl rfl)) pgs_nil))) (pss_one (ps_if (PW.pt (pw_or (pt_not (pt_val (pe_call (ok_is_integer_v T) (hr.mono (by decide)) (by rfl) T.g_is_integer T.f_is_integer.kp T.b_is_integer .nil pass0 (pa_cons (pv 3) pa_nil)))) (pw_or1 (pt_not (pt_chain op_le op_lt pe_int (pv 3) (pv 1)))))) (pss_one (ps_raiseS rfl Z.x_NoFigure hr (takes_of rfl rfl rfl rfl) (by exact (pa_cons (pv 2) pa_nil)) (by rfl))) pss_nil))) (pss_one (ps_ret (pe_call (ok_put_together T) (hr.mono (by decide)) (by rfl) T.g_put_together T.f_put_together.kp T.b_put_together .nil pass0 (pa_cons (pv 0) (pa_cons (pv 1) pa_nil)))))))), ?_⟩
      refine ⟨_, rfl, b, rfl, hb, ?_⟩
      refine ⟨_, rfl, szr rfl, fun t ht => ?_⟩
      have s1 := same_new (o := .tup [.ty "list", .ty "tuple"]) ht
      refine ⟨_, t, _, _, [.type "list", .type "tuple"], true, rfl, upd_same, .cons (.ty _) (.cons (.ty _) .nil), .base (.tup (s1 _ _ hs)), kit_tuple, true, rfl, iteF ?_⟩
      refine ⟨_, rfl, a, _, rfl, .inr (sqT_of (s1 _ _ hs)), rfl, _, rfl, ?_⟩
      have ne0 : ¬ (V.int ((xs.length : Nat) : Int) = V.int 0) := fun z => by
        have z' := V.int.inj z
        have := hn.lt
        omega
      show (if decide (V.int ((xs.length : Nat) : Int) = V.int 0) = true then _ else _)
      rw [decide_eq_false ne0]
      refine iteF ?_
      refine ⟨_, rfl, a, _, rfl, sqT_of (s1 _ _ hs), for_it (walk_enumT (K := K) (a := a) (xs := xs)) (fun j σ H' => ∃ v w, σ = [some (.ref a), some (.int b), v, w] ∧ Same H H' ∧ j ≤ i) ⟨none, none, rfl, s1, Nat.zero_le _⟩ ?_ ?_ ?_⟩
      · rintro j σ H' _ ⟨v, w, rfl, sm, _⟩
        exact sqT_of (sm _ _ hs)
      · rintro j x σ H1 H2 hi ⟨v, w, rfl, sm, hj⟩ ⟨t2, x1, x2, rfl, ht2, rfl, e1, e2⟩
        cases Option.some.inj e1
        replace e2 : xs[j]? = some x2 := e2
        have s2 := sm.trans (same_new (o := .tup [.int (j : Int), x2]) ht2)
        refine ⟨t2, _, rfl, sqT_new, rfl, _, _, rfl, _, _, rfl, rfl, ?_⟩
        by_cases c : j < i
        · obtain ⟨z, hz, z0, z1⟩ := hn.1 j c
          rw [hz] at e2
          cases Option.some.inj e2
          refine ⟨_, rfl, _, rfl, trivial, true, rfl, iteF ?_⟩
          refine ⟨_, rfl, _, _, rfl, rfl, _, rfl, ?_⟩
          rw [decide_eq_true z0]
          refine iteT ?_
          refine ⟨_, rfl, _, _, rfl, rfl, _, rfl, ?_⟩
          rw [decide_eq_true z1]
          exact iteF ⟨_, _, rfl, s2, c⟩
        · have e : j = i := by omega
          subst e
          obtain ⟨y, hy, py, ny⟩ := hn.2
          rw [hy] at e2
          cases Option.some.inj e2
          have bad : ∀ d, upd H1 t2 (.tup [.int (j : Int), x2]) d = none → E (.ref (C 3)) (some d) (upd (upd H1 t2 (.tup [.int (j : Int), x2])) d (.xd [(("at" : Str), .int (j : Int))])) := fun d hd => q d _ s2 hd
          by_cases hI : isI x2 = true
          · cases x2 with
            | int z =>
              refine ⟨_, rfl, _, rfl, trivial, true, rfl, iteF ?_⟩
              refine ⟨_, rfl, _, _, rfl, rfl, _, rfl, ?_⟩
              by_cases z0 : 0 ≤ z
              · rw [decide_eq_true z0]
                refine iteT ?_
                refine ⟨_, rfl, _, _, rfl, rfl, _, rfl, ?_⟩
                rw [decide_eq_false (fun z1 => ny z rfl ⟨z0, z1⟩)]
                exact iteT ⟨_, rfl, _, rfl, bad⟩
              · rw [decide_eq_false z0]
                exact iteF ⟨_, rfl, iteT ⟨_, rfl, _, rfl, bad⟩⟩
            | _ => cases hI
          · refine ⟨_, rfl, _, rfl, py.same s2, isI x2, rfl, ?_⟩
            rw [Bool.eq_false_iff.mpr hI]
            exact iteT ⟨_, rfl, _, rfl, bad⟩
      · rintro σ H' ⟨v, w, rfl, sm, hj⟩
        have := hn.lt
        omega
    | lst0 hs =>
      rename_i a
      refine ⟨_, (pss_cons (ps_expr (pe_call (ok_need_base T) (hr.mono (by decide)) (by rfl) T.g_need_base T.f_need_base.kp T.b_need_base .nil pass0 (pa_cons (pv 1) pa_nil))) (pss_cons (ps_if (PW.pt (pw_or (pt_not (pt_val (pe_callB call_isiT (by rfl) T.n_isinstance Eb.bb_isinstance (pa_cons (pv 0) (pa_cons (pe_tup (pa_cons (pe_bltn (v := .ty "list") (by rfl) T.n_list Eb.bb_list rfl) (pa_cons (pe_bltn (v := .ty "tuple") (by rfl) T.n_tuple Eb.bb_tuple rfl) pa_nil))) pa_nil))))) (pw_or1 (pt_cmpR op_eq (pe_callB call_len_seq (by rfl) T.n_len Eb.bb_len (pa_cons (pv 0) pa_nil)) pe_int (nomark _))))) (pss_one (ps_raiseS rfl Z.x_NoFigure hr (takes_of rfl rfl rfl rfl) (by exact (pa_cons pe_int pa_nil)) (by rfl))) pss_nil) (pss_cons (ps_for (passes_of rfl) rfl (pi_enum (by rfl) T.n_enumerate (pa_cons (pv 0) pa_nil)) (pg_tup rfl (pgs_cons (pg_name (i := 2) sc_number_of.nd rfl (.inl rfl)) (pgs_cons (pg_name (i := 3) sc_number_of.nd rfl (.inl rfl)) pgs_nil))) (pss_one (ps_if (PW.pt (pw_or (pt_not (pt_val (pe_call (ok_is_integer_v T) (hr.mono (by decide)) (by rfl) T.g_is_integer T.f_is_integer.kp T.b_is_integer .nil pass0 (pa_cons (pv 3) pa_nil)))) (pw_or1 (pt_not (pt_chain op_le op_lt pe_int (pv 3) (pv 1)))))) (pss_one (ps_raiseS rfl Z.x_NoFigure hr (takes_of rfl rfl rfl rfl) (by exact (pa_cons (pv 2) pa_nil)) (by rfl))) pss_nil))) (pss_one (ps_ret (pe_call (ok_put_together T) (hr.mono (by decide)) (by rfl) T.g_put_together T.f_put_together.kp T.b_put_together .nil pass0 (pa_cons (pv 0) (pa_cons (pv 1) pa_nil)))))))), ?_⟩
      refine ⟨_, rfl, b, rfl, hb, ?_⟩
      refine ⟨_, rfl, szr rfl, fun t ht => ?_⟩
      have s1 := same_new (o := .tup [.ty "list", .ty "tuple"]) ht
      refine ⟨_, t, _, _, [.type "list", .type "tuple"], true, rfl, upd_same, .cons (.ty _) (.cons (.ty _) .nil), .base (.lst (s1 _ _ hs)), kit_list, true, rfl, iteF ?_⟩
      refine ⟨_, rfl, a, _, rfl, .inl (sqL_of (s1 _ _ hs)), rfl, _, rfl, ?_⟩
      exact iteT ⟨_, rfl, fun d hd => q d _ s1 hd⟩
    | tup0 hs =>
      rename_i a
      refine ⟨_, (pss_cons (ps_expr (pe_call (ok_need_base T) (hr.mono (by decide)) (by rfl) T.g_need_base T.f_need_base.kp T.b_need_base .nil pass0 (pa_cons (pv 1) pa_nil))) (pss_cons (ps_if (PW.pt (pw_or (pt_not (pt_val (pe_callB call_isiT (by rfl) T.n_isinstance Eb.bb_isinstance (pa_cons (pv 0) (pa_cons (pe_tup (pa_cons (pe_bltn (v := .ty "list") (by rfl) T.n_list Eb.bb_list rfl) (pa_cons (pe_bltn (v := .ty "tuple") (by rfl) T.n_tuple Eb.bb_tuple rfl) pa_nil))) pa_nil))))) (pw_or1 (pt_cmpR op_eq (pe_callB call_len_seq (by rfl) T.n_len Eb.bb_len (pa_cons (pv 0) pa_nil)) pe_int (nomark _))))) (pss_one (ps_raiseS rfl Z.x_NoFigure hr (takes_of rfl rfl rfl rfl) (by exact (pa_cons pe_int pa_nil)) (by rfl))) pss_nil) (pss_cons (ps_for (passes_of rfl) rfl (pi_enum (by rfl) T.n_enumerate (pa_cons (pv 0) pa_nil)) (pg_tup rfl (pgs_cons (pg_name (i := 2) sc_number_of.nd rfl (.inl rfl)) (pgs_cons (pg_name (i := 3) sc_number_of.nd rfl (.inl rfl)) pgs_nil))) (pss_one (ps_if (PW.pt (pw_or (pt_not (pt_val (pe_call (ok_is_integer_v T) (hr.mono (by decide)) (by rfl) T.g_is_integer T.f_is_integer.kp T.b_is_integer .nil pass0 (pa_cons (pv 3) pa_nil)))) (pw_or1 (pt_not (pt_chain op_le op_lt pe_int (pv 3) (pv 1)))))) (pss_one (ps_raiseS rfl Z.x_NoFigure hr (takes_of rfl rfl rfl rfl) (by exact (pa_cons (pv 2) pa_nil)) (by rfl))) pss_nil))) (pss_one (ps_ret (pe_call (ok_put_together T) (hr.mono (by decide)) (by rfl) T.g_put_together T.f_put_together.kp T.b_put_together .nil pass0 (pa_cons (pv 0) (pa_cons (pv 1) pa_nil)))))))), ?_⟩
      refine ⟨_, rfl, b, rfl, hb, ?_⟩
      refine ⟨_, rfl, szr rfl, fun t ht => ?_⟩
      have s1 := same_new (o := .tup [.ty "list", .ty "tuple"]) ht
      refine ⟨_, t, _, _, [.type "list", .type "tuple"], true, rfl, upd_same, .cons (.ty _) (.cons (.ty _) .nil), .base (.tup (s1 _ _ hs)), kit_tuple, true, rfl, iteF ?_⟩
      refine ⟨_, rfl, a, _, rfl, .inr (sqT_of (s1 _ _ hs)), rfl, _, rfl, ?_⟩
      exact iteT ⟨_, rfl, fun d hd => q d _ s1 hd⟩
    | non =>
      refine ⟨_, (pss_cons (ps_expr (pe_call (ok_need_base T) (hr.mono (by decide)) (by rfl) T.g_need_base T.f_need_base.kp T.b_need_base .nil pass0 (pa_cons (pv 1) pa_nil))) (pss_cons (ps_if (PW.pt (pw_or (pt_not (pt_val (pe_callB call_isiT (by rfl) T.n_isinstance Eb.bb_isinstance (pa_cons (pv 0) (pa_cons (pe_tup (pa_cons (pe_bltn (v := .ty "list") (by rfl) T.n_list Eb.bb_list rfl) (pa_cons (pe_bltn (v := .ty "tuple") (by rfl) T.n_tuple Eb.bb_tuple rfl) pa_nil))) pa_nil))))) (pw_or1 (pt_cmpR op_eq (pe_callB call_len_seq (by rfl) T.n_len Eb.bb_len (pa_cons (pv 0) pa_nil)) pe_int (nomark _))))) (pss_one (ps_raiseS rfl Z.x_NoFigure hr (takes_of rfl rfl rfl rfl) (by exact (pa_cons pe_int pa_nil)) (by rfl))) pss_nil) (pss_cons (ps_for (passes_of rfl) rfl (pi_enum (by rfl) T.n_enumerate (pa_cons (pv 0) pa_nil)) (pg_tup rfl (pgs_cons (pg_name (i := 2) sc_number_of.nd rfl (.inl rfl)) (pgs_cons (pg_name (i := 3) sc_number_of.nd rfl (.inl rfl)) pgs_nil))) (pss_one (ps_if (PW.pt (pw_or (pt_not (pt_val (pe_call (ok_is_integer_v T) (hr.mono (by decide)) (by rfl) T.g_is_integer T.f_is_integer.kp T.b_is_integer .nil pass0 (pa_cons (pv 3) pa_nil)))) (pw_or1 (pt_not (pt_chain op_le op_lt pe_int (pv 3) (pv 1)))))) (pss_one (ps_raiseS rfl Z.x_NoFigure hr (takes_of rfl rfl rfl rfl) (by exact (pa_cons (pv 2) pa_nil)) (by rfl))) pss_nil))) (pss_one (ps_ret (pe_call (ok_put_together T) (hr.mono (by decide)) (by rfl) T.g_put_together T.f_put_together.kp T.b_put_together .nil pass0 (pa_cons (pv 0) (pa_cons (pv 1) pa_nil)))))))), ?_⟩
      refine ⟨_, rfl, b, rfl, hb, ?_⟩
      refine ⟨_, rfl, szr rfl, fun t ht => ?_⟩
      have s1 := same_new (o := .tup [.ty "list", .ty "tuple"]) ht
      exact ⟨_, t, _, _, [.type "list", .type "tuple"], false, rfl, upd_same, .cons (.ty _) (.cons (.ty _) .nil), .base .non, kit_seqN (by decide +kernel) (by decide +kernel), false, rfl, iteT ⟨_, rfl, fun d hd => q d _ s1 hd⟩⟩
    | int i =>
      refine ⟨_, (pss_cons (ps_expr (pe_call (ok_need_base T) (hr.mono (by decide)) (by rfl) T.g_need_base T.f_need_base.kp T.b_need_base .nil pass0 (pa_cons (pv 1) pa_nil))) (pss_cons (ps_if (PW.pt (pw_or (pt_not (pt_val (pe_callB call_isiT (by rfl) T.n_isinstance Eb.bb_isinstance (pa_cons (pv 0) (pa_cons (pe_tup (pa_cons (pe_bltn (v := .ty "list") (by rfl) T.n_list Eb.bb_list rfl) (pa_cons (pe_bltn (v := .ty "tuple") (by rfl) T.n_tuple Eb.bb_tuple rfl) pa_nil))) pa_nil))))) (pw_or1 (pt_cmpR op_eq (pe_callB call_len_seq (by rfl) T.n_len Eb.bb_len (pa_cons (pv 0) pa_nil)) pe_int (nomark _))))) (pss_one (ps_raiseS rfl Z.x_NoFigure hr (takes_of rfl rfl rfl rfl) (by exact (pa_cons pe_int pa_nil)) (by rfl))) pss_nil) (pss_cons (ps_for (passes_of rfl) rfl (pi_enum (by rfl) T.n_enumerate (pa_cons (pv 0) pa_nil)) (pg_tup rfl (pgs_cons (pg_name (i := 2) sc_number_of.nd rfl (.inl rfl)) (pgs_cons (pg_name (i := 3) sc_number_of.nd rfl (.inl rfl)) pgs_nil))) (pss_one (ps_if (PW.pt (pw_or (pt_not (pt_val (pe_call (ok_is_integer_v T) (hr.mono (by decide)) (by rfl) T.g_is_integer T.f_is_integer.kp T.b_is_integer .nil pass0 (pa_cons (pv 3) pa_nil)))) (pw_or1 (pt_not (pt_chain op_le op_lt pe_int (pv 3) (pv 1)))))) (pss_one (ps_raiseS rfl Z.x_NoFigure hr (takes_of rfl rfl rfl rfl) (by exact (pa_cons (pv 2) pa_nil)) (by rfl))) pss_nil))) (pss_one (ps_ret (pe_call (ok_put_together T) (hr.mono (by decide)) (by rfl) T.g_put_together T.f_put_together.kp T.b_put_together .nil pass0 (pa_cons (pv 0) (pa_cons (pv 1) pa_nil)))))))), ?_⟩
      refine ⟨_, rfl, b, rfl, hb, ?_⟩
      refine ⟨_, rfl, szr rfl, fun t ht => ?_⟩
      have s1 := same_new (o := .tup [.ty "list", .ty "tuple"]) ht
      exact ⟨_, t, _, _, [.type "list", .type "tuple"], false, rfl, upd_same, .cons (.ty _) (.cons (.ty _) .nil), .base (.int i), kit_seqN (by decide +kernel) (by decide +kernel), false, rfl, iteT ⟨_, rfl, fun d hd => q d _ s1 hd⟩⟩
    | str x =>
      refine ⟨_, (pss_cons (ps_expr (pe_call (ok_need_base T) (hr.mono (by decide)) (by rfl) T.g_need_base T.f_need_base.kp T.b_need_base .nil pass0 (pa_cons (pv 1) pa_nil))) (pss_cons (ps_if (PW.pt (pw_or (pt_not (pt_val (pe_callB call_isiT (by rfl) T.n_isinstance Eb.bb_isinstance (pa_cons (pv 0) (pa_cons (pe_tup (pa_cons (pe_bltn (v := .ty "list") (by rfl) T.n_list Eb.bb_list rfl) (pa_cons (pe_bltn (v := .ty "tuple") (by rfl) T.n_tuple Eb.bb_tuple rfl) pa_nil))) pa_nil))))) (pw_or1 (pt_cmpR op_eq (pe_callB call_len_seq (by rfl) T.n_len Eb.bb_len (pa_cons (pv 0) pa_nil)) pe_int (nomark _))))) (pss_one (ps_raiseS rfl Z.x_NoFigure hr (takes_of rfl rfl rfl rfl) (by exact (pa_cons pe_int pa_nil)) (by rfl))) pss_nil) (pss_cons (ps_for (passes_of rfl) rfl (pi_enum (by rfl) T.n_enumerate (pa_cons (pv 0) pa_nil)) (pg_tup rfl (pgs_cons (pg_name (i := 2) sc_number_of.nd rfl (.inl rfl)) (pgs_cons (pg_name (i := 3) sc_number_of.nd rfl (.inl rfl)) pgs_nil))) (pss_one (ps_if (PW.pt (pw_or (pt_not (pt_val (pe_call (ok_is_integer_v T) (hr.mono (by decide)) (by rfl) T.g_is_integer T.f_is_integer.kp T.b_is_integer .nil pass0 (pa_cons (pv 3) pa_nil)))) (pw_or1 (pt_not (pt_chain op_le op_lt pe_int (pv 3) (pv 1)))))) (pss_one (ps_raiseS rfl Z.x_NoFigure hr (takes_of rfl rfl rfl rfl) (by exact (pa_cons (pv 2) pa_nil)) (by rfl))) pss_nil))) (pss_one (ps_ret (pe_call (ok_put_together T) (hr.mono (by decide)) (by rfl) T.g_put_together T.f_put_together.kp T.b_put_together .nil pass0 (pa_cons (pv 0) (pa_cons (pv 1) pa_nil)))))))), ?_⟩
      refine ⟨_, rfl, b, rfl, hb, ?_⟩
      refine ⟨_, rfl, szr rfl, fun t ht => ?_⟩
      have s1 := same_new (o := .tup [.ty "list", .ty "tuple"]) ht
      exact ⟨_, t, _, _, [.type "list", .type "tuple"], false, rfl, upd_same, .cons (.ty _) (.cons (.ty _) .nil), .base (.str x), kit_seqN (by decide +kernel) (by decide +kernel), false, rfl, iteT ⟨_, rfl, fun d hd => q d _ s1 hd⟩⟩
    | bl x =>
      refine ⟨_, (pss_cons (ps_expr (pe_call (ok_need_base T) (hr.mono (by decide)) (by rfl) T.g_need_base T.f_need_base.kp T.b_need_base .nil pass0 (pa_cons (pv 1) pa_nil))) (pss_cons (ps_if (PW.pt (pw_or (pt_not (pt_val (pe_callB call_isiT (by rfl) T.n_isinstance Eb.bb_isinstance (pa_cons (pv 0) (pa_cons (pe_tup (pa_cons (pe_bltn (v := .ty "list") (by rfl) T.n_list Eb.bb_list rfl) (pa_cons (pe_bltn (v := .ty "tuple") (by rfl) T.n_tuple Eb.bb_tuple rfl) pa_nil))) pa_nil))))) (pw_or1 (pt_cmpR op_eq (pe_callB call_len_seq (by rfl) T.n_len Eb.bb_len (pa_cons (pv 0) pa_nil)) pe_int (nomark _))))) (pss_one (ps_raiseS rfl Z.x_NoFigure hr (takes_of rfl rfl rfl rfl) (by exact (pa_cons pe_int pa_nil)) (by rfl))) pss_nil) (pss_cons (ps_for (passes_of rfl) rfl (pi_enum (by rfl) T.n_enumerate (pa_cons (pv 0) pa_nil)) (pg_tup rfl (pgs_cons (pg_name (i := 2) sc_number_of.nd rfl (.inl rfl)) (pgs_cons (pg_name (i := 3) sc_number_of.nd rfl (.inl rfl)) pgs_nil))) (pss_one (ps_if (PW.pt (pw_or (pt_not (pt_val (pe_call (ok_is_integer_v T) (hr.mono (by decide)) (by rfl) T.g_is_integer T.f_is_integer.kp T.b_is_integer .nil pass0 (pa_cons (pv 3) pa_nil)))) (pw_or1 (pt_not (pt_chain op_le op_lt pe_int (pv 3) (pv 1)))))) (pss_one (ps_raiseS rfl Z.x_NoFigure hr (takes_of rfl rfl rfl rfl) (by exact (pa_cons (pv 2) pa_nil)) (by rfl))) pss_nil))) (pss_one (ps_ret (pe_call (ok_put_together T) (hr.mono (by decide)) (by rfl) T.g_put_together T.f_put_together.kp T.b_put_together .nil pass0 (pa_cons (pv 0) (pa_cons (pv 1) pa_nil)))))))), ?_⟩
      refine ⟨_, rfl, b, rfl, hb, ?_⟩
      refine ⟨_, rfl, szr rfl, fun t ht => ?_⟩
      have s1 := same_new (o := .tup [.ty "list", .ty "tuple"]) ht
      exact ⟨_, t, _, _, [.type "list", .type "tuple"], false, rfl, upd_same, .cons (.ty _) (.cons (.ty _) .nil), .base (.bl x), kit_seqN (by decide +kernel) (by decide +kernel), false, rfl, iteT ⟨_, rfl, fun d hd => q d _ s1 hd⟩⟩

theorem last_split {xs : List Int} {z : Int} (h : xs.getLast? = some z) : xs = xs.dropLast ++ [z] := by
  obtain ⟨ys, rfl⟩ := List.getLast?_eq_some_iff.mp h
  simp
theorem last_at {xs : List Int} {z : Int} (h : xs.getLast? = some z) : atI (xs.map V.int) (-1) = some (.int z) := by
  rw [last_split h, List.map_append]
  exact atI_last _ _
theorem last_get {xs : List Int} {z : Int} (h : xs.getLast? = some z) : (xs.map V.int)[(xs.map V.int).length - 1]? = some (.int z) := by
  rw [← List.getLast?_eq_getElem?, List.getLast?_map, h]
  rfl
theorem last_none {xs : List Int} (h : xs ≠ []) : ∃ z, xs.getLast? = some z := ⟨xs.getLast h, List.getLast?_eq_getLast h⟩
def sp_draw : Sp := fun vs H Q _ => ∃ (d l : Addr) (n : Int), vs = [V.ref d, .int n] ∧ Deal H d l ∧ 0 < n ∧ Sm n ∧ ∀ r H', 0 ≤ r → r < n → Drew d l H H' → Q (.int r) H'
theorem ok__law_draw (T : Txt K mg F D C) : FnOk P w K mg base CX0 1 (F 10) (D 10) ["_law_deal_here", "_law_span"] (sp_draw) := by
  refine T.f__law_draw.ok sc__law_draw (fun vs H Q E h => ?_) (fun cdv A outer s H vs Q E hr h => ?_)
  · obtain ⟨d, l, n, rfl, D0, hn, sn, q⟩ := h
    rfl
  · obtain ⟨d, l, n, rfl, D0, hn, sn, q⟩ := h
    refine ⟨_, (pss_cons (ps_while PassesOwn.never (PW.pt (pw_and (pt_cmpR (op_neL hr.units) (pe_ix ix_list (pv 0) pe_int (fun _ _ => rfl)) (pe_lst pa_nil) (nomark _)) (pw_and1 (pt_cmpR op_eq (pe_ix ix_list (pe_ix ix_list (pv 0) pe_int (fun _ _ => rfl)) (pe_un un_neg pe_int) (fun _ _ => rfl)) pe_int (nomark _))))) (pss_one (ps_expr (pe_bm0 PySem.F.plainAttrs_list PySem.F.slot_list_pop PySem.F.type_list_pop mt_pop (pe_ix ix_list (pv 0) pe_int (fun _ _ => rfl)))))) (pss_cons (ps_if (pt_cmpR (op_neL hr.units) (pe_ix ix_list (pv 0) pe_int (fun _ _ => rfl)) (pe_lst pa_nil) (nomark _)) (pss_cons (ps_set (i := 2) sc__law_draw.nd rfl (.inl rfl) (pe_bm0 PySem.F.plainAttrs_list PySem.F.slot_list_pop PySem.F.type_list_pop mt_pop (pe_ix ix_list (pv 0) pe_int (fun _ _ => rfl)))) (pss_cons (ps_expr (pe_bm PySem.F.plainAttrs_list PySem.F.slot_list_append PySem.F.type_list_append mt_append (pe_ix ix_list (pv 0) pe_int (fun _ _ => rfl)) (pa_cons (pe_op op_fdivX (pv 2) (pv 1)) pa_nil))) (pss_one (ps_ret (pe_op op_mod (pe_callTy call_int1 (by rfl) T.n_int Eb.bb_int (pa_cons (pv 2) pa_nil)) (pv 1)))))) pss_nil) (pss_cons (ps_asg (pe_op op_mod (pe_callTy call_int1 (by rfl) T.n_int Eb.bb_int (pa_cons (pe_op op_mulW (pe_ix ix_list (pv 0) pe_int (fun _ _ => rfl)) pe_int) pa_nil)) pe_int) (pg_sub (pv 0) pe_int set_list)) (pss_one (ps_ret (pe_op op_mod (pe_callTy call_int1 (by rfl) T.n_int Eb.bb_int (pa_cons (pe_op op_fdivX (pe_ix ix_list (pv 0) pe_int (fun _ _ => rfl)) pe_int) pa_nil)) (pv 1))))))), ?_⟩
    have ne : d ≠ l := D0.ne
    -- while deal[0] != [] and deal[0][-1] == 0: deal[0].pop()
    refine whl (fun m σ H' => ∃ (xs : List Int) (k : Int), σ = [some (.ref d), some (.int n), none] ∧ m = xs.length ∧ xs.length ≤ 63 ∧ H' d = some (.lst [.ref l, .int k]) ∧ H' l = some (.lst (xs.map V.int)) ∧ 0 ≤ k ∧ k < 2147483647 ∧ Grow [d, l] H H')
      (Classical.choose D0.ex).length ?_ ?_
    · obtain ⟨k, h1, h2, h3, h4, h5⟩ := Classical.choose_spec D0.ex
      exact ⟨_, k, rfl, rfl, h3, h1, h2, h4, h5, Grow.refl _ _⟩
    rintro m σ H' ⟨xs, k, rfl, rfl, hx, h1, h2, hk, hk2, g⟩
    refine by_ans (decide (xs.getLast? = some 0)) (fun Q' k' => ?_) (fun H1 s1 => ?_)
    · refine ⟨_, rfl, d, _, _, .ref l, rfl, rfl, sqL_of h1, rfl, szr rfl, fun p hp => ?_⟩
      have s1 : Same H' (upd H' p (.lst [])) := same_new hp
      refine ⟨l, p, xs, [], rfl, rfl, s1.seq (sqL_of h2), sqL_new, _, rfl, ?_⟩
      by_cases e : xs = []
      · subst e
        exact iteF (k' _ s1)
      · obtain ⟨z, hz⟩ := last_none e
        rw [decide_eq_false e]
        refine iteT ?_
        refine ⟨_, rfl, d, _, _, .ref l, rfl, rfl, sqL_of (s1 _ _ h1), rfl, 1, rfl, l, _, _, _, rfl, rfl, sqL_of (s1 _ _ h2), last_at hz, rfl, _, rfl, ?_⟩
        have e3 : decide (V.int z = V.int 0) = decide (xs.getLast? = some 0) := by
          rw [hz]
          by_cases c : z = 0
          · subst c; rfl
          · rw [decide_eq_false (fun y => c (V.int.inj y)), decide_eq_false (fun y => c (Option.some.inj y))]
        show Q' (decide (V.int z = V.int 0)) _
        rw [e3]
        exact k' _ s1
    replace h1 := s1 _ _ h1
    replace h2 := s1 _ _ h2
    replace g := g.same s1
    by_cases e : xs.getLast? = some 0
    · rw [decide_eq_true e]
      refine iteT (turn_of ?_)
      refine ⟨_, rfl, d, _, _, .ref l, rfl, rfl, sqL_of h1, rfl, .inl ⟨rfl, _, sqL_of h2⟩, l, _, _, rfl, rfl, h2, last_get e, ?_⟩
      have hl : 0 < xs.length := List.length_pos_iff.mpr (fun z => by subst z; cases e)
      refine ⟨xs.length - 1, by omega, xs.dropLast, k, rfl, by simp, by simp; omega, ?_, ?_, hk, hk2, g.at (by simp)⟩
      · rw [upd_ne ne]
        exact h1
      · rw [upd_same, List.map_dropLast]
    · rw [decide_eq_false e]
      refine iteF ?_
      have D1 : Deal H1 d l := ⟨xs, k, h1, h2, hx, hk, hk2⟩
      -- if deal[0] != []
      refine ⟨_, rfl, d, _, _, .ref l, rfl, rfl, sqL_of h1, rfl, szr rfl, fun p hp => ?_⟩
      have s2 : Same H1 (upd H1 p (.lst [])) := same_new hp
      generalize hH2 : upd H1 p (.lst []) = H2 at s2
      have hp2 : H2 p = some (.lst []) := by rw [← hH2]; exact upd_same
      replace h1 := s2 _ _ h1
      replace h2 := s2 _ _ h2
      replace g := g.same s2
      refine ⟨l, p, xs, [], rfl, rfl, sqL_of h2, sqL_of hp2, _, rfl, ?_⟩
      by_cases e2 : xs = []
      · subst e2
        refine iteF ?_
        -- deal[1] = int(deal[1] * 48271) % 2147483647
        refine ⟨_, rfl, d, _, _, .int k, rfl, rfl, sqL_of h1, rfl, _, _, rfl, rfl, mulW (sm_of hk (by omega)) (sm_of (by decide) (by decide)), .inl ⟨_, rfl, ?_⟩⟩
        refine ⟨_, _, rfl, rfl, (show (0 : Int) < 2147483647 by decide), ?_⟩
        refine ⟨_, rfl, d, _, _, 1, rfl, rfl, h1, rfl, ?_⟩
        have b0 : 0 ≤ k * 48271 % 2147483647 := by omega
        have b1 : k * 48271 % 2147483647 < 2147483647 := by omega
        -- return int(deal[1] // 8) % span
        refine ⟨_, rfl, d, _, _, _, rfl, rfl, sqL_of upd_same, rfl, _, _, rfl, rfl, divW (by decide) (sm_of (by decide) (by decide)), .inl ⟨_, rfl, ?_⟩⟩
        refine ⟨_, rfl, _, _, rfl, rfl, hn, ?_⟩
        refine q _ _ (Int.emod_nonneg _ (by omega)) (Int.emod_lt_of_pos _ hn) ⟨⟨[], _, upd_same, ?_, hx, b0, b1⟩, g.at (by simp)⟩
        rw [upd_ne ne.symm]
        exact h2
      · rw [decide_eq_false e2]
        refine iteT ?_
        obtain ⟨z, hz⟩ := last_none e2
        have hl : 0 < xs.length := List.length_pos_iff.mpr e2
        -- left = deal[0].pop()
        refine ⟨_, rfl, d, _, _, .ref l, rfl, rfl, sqL_of h1, rfl, .inl ⟨rfl, _, sqL_of h2⟩, l, _, _, rfl, rfl, h2, last_get hz, ?_⟩
        have h1' : upd H2 l (.lst ((xs.map V.int).dropLast)) d = some (.lst [.ref l, .int k]) := by rw [upd_ne ne]; exact h1
        -- deal[0].append(left // span)
        refine ⟨_, rfl, d, _, _, .ref l, rfl, rfl, sqL_of h1', rfl, .inl ⟨rfl, _, sqL_of upd_same⟩, _, rfl, _, rfl, _, _, rfl, rfl, divW hn sn, l, _, _, rfl, rfl, upd_same, ?_, ?_⟩
        · rw [List.length_dropLast, List.length_map]
          exact szl (by omega)
        -- return int(left) % span
        refine ⟨_, rfl, .inl ⟨_, rfl, ?_⟩⟩
        refine ⟨_, rfl, _, _, rfl, rfl, hn, ?_⟩
        refine q _ _ (Int.emod_nonneg _ (by omega)) (Int.emod_lt_of_pos _ hn) ⟨⟨xs.dropLast ++ [z / n], k, ?_, ?_, ?_, hk, hk2⟩, (g.at (by simp)).at (by simp)⟩
        · rw [upd_ne ne]
          exact h1'
        · rw [upd_same, List.map_append, List.map_dropLast]
          rfl
        · rw [List.length_append, List.length_dropLast]
          simp
          omega
/-- one of some things -/
def sp_pick (K : PySem.W.Frag) : Sp := fun vs H Q _ => ∃ (d l a : Addr) (xs : List V), vs = [V.ref d, .ref a] ∧ Deal H d l ∧ SqL K H a xs ∧ a ∉ [d, l] ∧ 0 < xs.length ∧ xs.length ≤ 100000 ∧ ∀ v H', v ∈ xs → Drew d l H H' → Q v H'
theorem ok__law_pick (T : Txt K mg F D C) : FnOk P w K mg base CX0 2 (F 11) (D 11) ["_law_deal_here", "_law_some"] (sp_pick K) := by
  refine T.f__law_pick.ok sc__law_pick (fun vs H Q E h => ?_) (fun cdv A outer s H vs Q E hr h => ?_)
  · obtain ⟨d, l, a, xs, rfl, D0, hs, na, h0, h1, q⟩ := h
    rfl
  · obtain ⟨d, l, a, xs, rfl, D0, hs, na, h0, h1, q⟩ := h
    refine ⟨_, (pss_one (ps_ret (pe_ix ix_list (pv 1) (pe_call (ok__law_draw T) (hr.mono (by decide)) (by rfl) T.g__law_draw T.f__law_draw.kp T.b__law_draw .nil pass0 (pa_cons (pv 0) (pa_cons (pe_callB call_len_seq (by rfl) T.n_len Eb.bb_len (pa_cons (pv 1) pa_nil)) pa_nil))) (fun _ _ => rfl)))), ?_⟩
    refine ⟨_, rfl, _, rfl, _, rfl, a, _, rfl, .inl hs, d, l, _, rfl, D0, (show (0 : Int) < (xs.length : Int) by omega), sm_of (by omega) (by omega), fun r H' r0 r1 dr => ?_⟩
    have hr : r.toNat < xs.length := by omega
    refine ⟨a, _, _, xs[r.toNat], rfl, rfl, dr.seqL na hs, at_of (j := r.toNat) (by omega) (List.getElem?_eq_getElem hr), ?_⟩
    exact q _ _ (List.getElem_mem hr) dr
theorem cut_ints (ns : List Int) (l h : Option Int) : ∃ ms : List Int, cutV (ns.map V.int) l h = ms.map V.int ∧ ms.length ≤ ns.length := by
  unfold cutV
  refine ⟨(ns.drop (HT.sIx (ns.map V.int).length 0 l)).take (HT.sIx (ns.map V.int).length (ns.map V.int).length h - HT.sIx (ns.map V.int).length 0 l), ?_, ?_⟩
  · rw [List.map_take, List.map_drop]
  · rw [List.length_take, List.length_drop]
    omega
/-- the source of draws: new -/
def sp_deal (K : PySem.W.Frag) : Sp := fun vs H Q _ => ∃ (a : Addr) (ns : List Int) (k : Int), vs = [V.ref a, .int k] ∧ SqL K H a (ns.map V.int) ∧ ns.length ≤ 63 ∧ 0 ≤ k ∧ k ≤ 1000 ∧ ∀ d l H', Same H H' → H d = none → H l = none → Deal H' d l → Q (.ref d) H'
theorem ok__law_deal (T : Txt K mg F D C) : FnOk P w K mg base CX0 1 (F 9) (D 9) ["_law_script", "_law_base_here"] (sp_deal K) := by
  refine T.f__law_deal.ok sc__law_deal (fun vs H Q E h => ?_) (fun cdv A outer s H vs Q E hr h => ?_)
  · obtain ⟨a, ns, k, rfl, hs, hn, k0, k1, q⟩ := h
    rfl
  · obtain ⟨a, ns, k, rfl, hs, hn, k0, k1, q⟩ := h
    refine ⟨_, (pss_cons (ps_setLc (i := 3) (own := [("_law_cell", 2)]) rfl sc__law_deal.nd rfl rfl (sw_true rfl rfl rfl (by decide +kernel)) (pi_list (pe_slice sl_list (pv 0) (po_some (pv 1)) (po_some pe_int))) (blkOk_by (N := ["_law_script", "_law_base_here", "_law_cell", "_law_cells", "_law_blend"]) (sc := defScope s__law_deal) (by decide +kernel)) (fun _ _ _ _ _ => (pg_name (i := 2) sc__law_deal.nd rfl (.inl rfl))) (fun _ _ _ _ _ => pts_nil) (fun _ _ _ _ _ => (pe_ifExp (pt_cmpR op_gt (pv 2) pe_int (nomark _)) (pv 2) (pe_op op_sub pe_int (pv 2))))) (pss_cons (ps_set (i := 4) sc__law_deal.nd rfl (.inl rfl) (pe_op op_add pe_int (pe_op op_mulW pe_int (pv 1)))) (pss_cons (ps_for PassesOwn.never rfl (pi_list (pv 3)) (pg_name (i := 2) sc__law_deal.nd rfl (.inl rfl)) (pss_one (ps_set (i := 4) sc__law_deal.nd rfl (.inl rfl) (pe_op op_mod (pe_callTy call_int1 (by rfl) T.n_int Eb.bb_int (pa_cons (pe_op op_add (pe_op op_mulW (pv 4) pe_int) (pe_op op_mod (pe_callTy call_int1 (by rfl) T.n_int Eb.bb_int (pa_cons (pv 2) pa_nil)) pe_int)) pa_nil)) pe_int)))) (pss_one (ps_ret (pe_lst (pa_cons (pe_revL (pe_lc (own := [("_law_cell", 2)]) rfl sc__law_deal.nd (pi_list (pv 3)) (blkOk_by (N := ["_law_script", "_law_base_here", "_law_cell", "_law_cells", "_law_blend"]) (sc := defScope s__law_deal) (by decide +kernel)) (fun _ _ _ _ _ => (pg_name (i := 2) sc__law_deal.nd rfl (.inl rfl))) (fun _ _ _ _ _ => (pts_one (pt_cmpR op_ge (pv 2) (pe_op op_pow pe_int pe_int) (nomark _)))) (fun _ _ _ _ _ => (pv 2)))) (pa_cons (pv 4) pa_nil)))))))), ?_⟩
    obtain ⟨ms, em, hm⟩ := cut_ints ns (some k) (some 63)
    -- cells = [.. for cell in script[base:63]]
    refine ⟨_, rfl, _, rfl, _, rfl, _, rfl, a, _, rfl, hs, fun c hc => ?_⟩
    refine ⟨c, rfl, ⟨_, sqL_new⟩, fun D hD => ?_⟩
    rw [em] at hD ⊢
    have s1 : Same H (upd H c (.lst (ms.map V.int))) := same_new hc
    generalize hH1 : upd H c (.lst (ms.map V.int)) = H1 at hD s1 ⊢
    have hc1 : H1 c = some (.lst (ms.map V.int)) := by rw [← hH1]; exact upd_same
    refine lc_list (K := K) (a := c) (xs := ms.map V.int) (fun i H' => ∃ zs : List Int, zs.length = i ∧ H' D = some (.lst (zs.map V.int)) ∧ Same H1 H') ⟨[], rfl, upd_same, same_new hD⟩ (fun i H' _ ⟨zs, _, _, sm⟩ => sqL_of (sm _ _ hc1)) ?_ ?_
    · rintro i x H' hx ⟨zs, ez, hz, sm⟩
      rw [List.getElem?_map] at hx
      obtain ⟨z, hz', rfl⟩ := Option.map_eq_some_iff.mp hx
      have hi : i < ms.length := (List.getElem?_eq_some_iff.mp hz').1
      refine ⟨rfl, ?_⟩
      refine ⟨_, rfl, _, _, rfl, rfl, _, rfl, ?_⟩
      have fin : ∀ y : Int, ∃ acc, H' D = some (.lst acc) ∧ acc.length < sizeLine ∧ ∃ zs : List Int, zs.length = i + 1 ∧ upd H' D (.lst (acc ++ [V.int y])) D = some (.lst (zs.map V.int)) ∧ Same H1 (upd H' D (.lst (acc ++ [V.int y]))) := fun y =>
        ⟨_, hz, by rw [List.length_map]; exact szl (by omega), zs ++ [y], by simp [ez], by rw [upd_same, List.map_append]; rfl, same_mut sm hD⟩
      exact ite2 (fun _ => ⟨_, rfl, fin z⟩) (fun _ => ⟨_, rfl, _, _, rfl, rfl, fin _⟩)
    · rintro H2 ⟨zs, ez, hz, sm⟩
      rw [List.length_map] at ez
      have s2 : Same H H2 := s1.trans sm
      -- blend = 40960001 + 19 * base
      refine ⟨_, rfl, _, _, rfl, rfl, mulW (sm_of (by decide) (by decide)) (sm_of k0 (by omega)), _, _, rfl, rfl, ?_⟩
      -- for cell in cells
      refine ⟨_, rfl, D, rfl, ⟨_, sqL_of hz⟩, for_list (K := K) (a := D) (xs := zs.map V.int) (fun i σ H' => ∃ (v : Option V) (b : Int), σ = [some (.ref a), some (.int k), v, some (.ref D), some (.int b)] ∧ H' = H2 ∧ 0 ≤ b ∧ b < 2147483647) ⟨none, _, rfl, rfl, by omega, by omega⟩ ?_ ?_ ?_⟩
      · rintro i σ H' _ ⟨v, b, rfl, rfl, _⟩
        exact sqL_of hz
      · rintro i x σ H' hx ⟨v, b, rfl, rfl, b0, b1⟩
        rw [List.getElem?_map] at hx
        obtain ⟨z, hz', rfl⟩ := Option.map_eq_some_iff.mp hx
        refine ⟨_, rfl, _, _, rfl, rfl, mulW (sm_of b0 (by omega)) (sm_of (by decide) (by decide)), _, rfl, .inl ⟨_, rfl, ?_⟩⟩
        refine ⟨_, _, rfl, rfl, (show (0 : Int) < 2147483629 by decide), _, _, rfl, rfl, .inl ⟨_, rfl, ?_⟩⟩
        refine ⟨_, _, rfl, rfl, (show (0 : Int) < 2147483647 by decide), ?_⟩
        exact ⟨_, _, rfl, rfl, Int.emod_nonneg _ (by decide), Int.emod_lt_of_pos _ (by decide)⟩
      · rintro σ H' ⟨v, b, rfl, rfl, b0, b1⟩
        -- [cell for cell in cells if cell >= 10 ** 18][::-1]
        refine ⟨_, rfl, D, rfl, ⟨_, sqL_of hz⟩, fun D2 hD2 => ?_⟩
        refine lc_list (K := K) (a := D) (xs := zs.map V.int) (fun i H3 => ∃ ys : List Int, ys.length ≤ i ∧ H3 D2 = some (.lst (ys.map V.int)) ∧ Same H' H3) ⟨[], Nat.le_refl _, upd_same, same_new hD2⟩ (fun i H3 _ ⟨ys, _, _, sm'⟩ => sqL_of (sm' _ _ hz)) ?_ ?_
        · rintro i x H3 hx ⟨ys, ey, hy, sm'⟩
          rw [List.getElem?_map] at hx
          obtain ⟨z, hz', rfl⟩ := Option.map_eq_some_iff.mp hx
          have hi : i < zs.length := (List.getElem?_eq_some_iff.mp hz').1
          refine ⟨rfl, _, rfl, _, _, rfl, rfl, ⟨by decide, by decide, by decide⟩, _, _, rfl, rfl, _, rfl, ite2 (fun _ => ?_) (fun _ => ?_)⟩
          · refine ⟨_, rfl, _, hy, by rw [List.length_map]; exact szl (by omega), ys ++ [z], by simp; omega, by rw [upd_same, List.map_append]; rfl, same_mut sm' hD2⟩
          · exact ⟨ys, by omega, hy, sm'⟩
        · rintro H3 ⟨ys, ey, hy, sm'⟩
          rw [List.length_map] at ey
          refine ⟨D2, _, rfl, sqL_of hy, fun l hl => ?_⟩
          refine ⟨_, rfl, szr rfl, fun d hd => ?_⟩
          have s3 : Same H3 (upd H3 l (.lst (ys.map V.int).reverse)) := same_new hl
          have s4 := same_new (o := .lst [V.ref l, .int b]) hd
          have sA : Same H H3 := s2.trans sm'
          refine q d l _ ((sA.trans s3).trans s4) (sA.free (s3.free hd)) (sA.free hl) ⟨ys.reverse, b, upd_same, ?_, by rw [List.length_reverse]; omega, b0, b1⟩
          refine s4 _ _ ?_
          rw [upd_same, List.map_reverse]

/-- a base -/
def sp_base : Sp := fun vs H Q _ => ∃ (d l : Addr), vs = [V.ref d] ∧ Deal H d l ∧ ∀ b H', 2 ≤ b → b ≤ 10 ^ 30 → Drew d l H H' → Q (.int b) H'
theorem ok__law_base (T : Txt K mg F D C) : FnOk P w K mg base CX0 3 (F 12) (D 12) ["_law_deal_here"] (sp_base) := by
  refine T.f__law_base.ok sc__law_base (fun vs H Q E h => ?_) (fun cdv A outer s H vs Q E hr h => ?_)
  · obtain ⟨d, l, rfl, D0, q⟩ := h
    rfl
  · obtain ⟨d, l, rfl, D0, q⟩ := h
    refine ⟨_, (pss_cons (ps_set (i := 1) sc__law_base.nd rfl (.inl rfl) (pe_lst (pa_cons pe_int (pa_cons pe_int (pa_cons pe_int (pa_cons pe_int (pa_cons (pe_op op_add pe_int (pe_call (ok__law_draw T) (hr.mono (by decide)) (by rfl) T.g__law_draw T.f__law_draw.kp T.b__law_draw .nil pass0 (pa_cons (pv 0) (pa_cons pe_int pa_nil)))) (pa_cons (pe_op op_add pe_int (pe_call (ok__law_draw T) (hr.mono (by decide)) (by rfl) T.g__law_draw T.f__law_draw.kp T.b__law_draw .nil pass0 (pa_cons (pv 0) (pa_cons (pe_op op_pow pe_int pe_int) pa_nil)))) (pa_cons (pe_op op_sub (pe_op op_pow pe_int pe_int) (pe_call (ok__law_draw T) (hr.mono (by decide)) (by rfl) T.g__law_draw T.f__law_draw.kp T.b__law_draw .nil pass0 (pa_cons (pv 0) (pa_cons pe_int pa_nil)))) pa_nil))))))))) (pss_one (ps_ret (pe_call (ok__law_pick T) (hr.mono (by decide)) (by rfl) T.g__law_pick T.f__law_pick.kp T.b__law_pick .nil pass0 (pa_cons (pv 0) (pa_cons (pv 1) pa_nil)))))), ?_⟩
    refine ⟨_, rfl, d, l, _, rfl, D0, (by decide), sm_of (by decide) (by decide), fun r1 H1 a1 b1 w1 => ⟨_, _, rfl, rfl, ?_⟩⟩
    refine ⟨_, rfl, _, _, rfl, rfl, ⟨by decide, by decide, by decide⟩, d, l, _, rfl, w1.deal, (by decide), sm_of (by decide) (by decide), fun r2 H2 a2 b2 w2 => ⟨_, _, rfl, rfl, ?_⟩⟩
    replace b2 : r2 < 1000000 := b2
    refine ⟨_, _, rfl, rfl, ⟨by decide, by decide, by decide⟩, _, rfl, d, l, _, rfl, w2.deal, (by decide), sm_of (by decide) (by decide), fun r3 H3 a3 b3 w3 => ⟨_, _, rfl, rfl, ?_⟩⟩
    refine ⟨szr rfl, fun p hp => ?_⟩
    have w : Drew d l H H3 := (w1.trans w2).trans w3
    refine ⟨_, rfl, _, rfl, d, l, p, _, rfl, (w.new hp).deal, sqL_new, w.deal.fresh hp, Nat.le_of_ble_eq_true rfl, Nat.le_of_ble_eq_true rfl, fun v H4 hv w4 => ?_⟩
    have fin : ∀ b : Int, 2 ≤ b → b ≤ 10 ^ 30 → v = .int b → Q v H4 := fun b h1 h2 e => by
      subst e
      exact q b H4 h1 h2 ((w.new hp).trans w4)
    simp only [List.mem_cons, List.not_mem_nil, or_false] at hv
    rcases hv with e | e | e | e | e | e | e
    · exact fin 2 (by decide) (by decide) e
    · exact fin 3 (by decide) (by decide) e
    · exact fin 10 (by decide) (by decide) e
    · exact fin 16 (by decide) (by decide) e
    · exact fin _ (by omega) (by omega) e
    · exact fin _ (by omega) (by omega) e
    · have e30 : (10 : Int) ^ (30 : Int).toNat = 10 ^ 30 := rfl
      exact fin _ (by rw [e30]; omega) (by rw [e30]; omega) e
def sp_written (K : PySem.W.Frag) : Sp := fun vs H Q _ => ∃ (a : Addr) (xs : List Int) (b : Int), vs = [V.ref a, .int b] ∧ SqL K H a (xs.map V.int) ∧ Sm b ∧ (∀ i, i ≤ xs.length → Sm (ofs b (xs.take i))) ∧ Q (.int (ofs b xs)) H
theorem ok__law_written (T : Txt K mg F D C) : FnOk P w K mg base CX0 1 (F 13) (D 13) ["_law_figures_here", "_law_base_here"] (sp_written K) := by
  refine T.f__law_written.ok sc__law_written (fun vs H Q E h => ?_) (fun cdv A outer s H vs Q E hr h => ?_)
  · obtain ⟨a, xs, b, rfl, hs, sb, hx, q⟩ := h
    rfl
  · obtain ⟨a, xs, b, rfl, hs, sb, hx, q⟩ := h
    refine ⟨_, (pss_cons (ps_set (i := 2) sc__law_written.nd rfl (.inl rfl) pe_int) (pss_cons (ps_for PassesOwn.never rfl (pi_list (pv 0)) (pg_name (i := 3) sc__law_written.nd rfl (.inl rfl)) (pss_one (ps_set (i := 2) sc__law_written.nd rfl (.inl rfl) (pe_op op_add (pe_op op_mulW (pv 2) (pv 1)) (pv 3))))) (pss_one (ps_ret (pv 2))))), ?_⟩
    refine ⟨_, rfl, a, rfl, ⟨_, hs⟩, for_list (K := K) (a := a) (xs := xs.map V.int) (fun i σ H' => ∃ v, σ = [some (.ref a), some (.int b), some (.int (ofs b (xs.take i))), v] ∧ H' = H) ⟨none, rfl, rfl⟩ ?_ ?_ ?_⟩
    · rintro i σ H' _ ⟨v, rfl, rfl⟩
      exact hs
    · rintro i x σ H' hi ⟨v, rfl, rfl⟩
      rw [List.getElem?_map] at hi
      obtain ⟨z, hz, rfl⟩ := Option.map_eq_some_iff.mp hi
      have hl : i < xs.length := (List.getElem?_eq_some_iff.mp hz).1
      refine ⟨_, rfl, _, rfl, _, _, rfl, rfl, mulW (hx i (by omega)) sb, _, rfl, _, _, rfl, rfl, ?_⟩
      refine ⟨some (.int z), ?_, rfl⟩
      rw [ofs_take hz]
      rfl
    · rintro σ H' ⟨v, rfl, rfl⟩
      rw [List.length_map, List.take_length]
      exact ⟨_, rfl, q⟩
def sp_lfigures : Sp := fun vs H Q _ => ∃ n b : Int, vs = [V.int n, .int b] ∧ 0 ≤ n ∧ 2 ≤ b ∧ Sm n ∧ Sm b ∧ ∀ p H', Same H H' → H p = none → H' p = some (.lst ((digs b n).reverse.map V.int)) → Q (.ref p) H'
theorem ok__law_figures (T : Txt K mg F D C) : FnOk P w K mg base CX0 1 (F 14) (D 14) ["_law_number_here", "_law_base_here"] (sp_lfigures) := by
  refine T.f__law_figures.ok sc__law_figures (fun vs H Q E h => ?_) (fun cdv A outer s H vs Q E hr h => ?_)
  · obtain ⟨n, b, rfl, hn, hb, sn, sb, q⟩ := h
    rfl
  · obtain ⟨n, b, rfl, hn, hb, sn, sb, q⟩ := h
    refine ⟨_, (pss_cons (ps_set (i := 2) sc__law_figures.nd rfl (.inl rfl) (pe_lst (pa_cons (pe_op op_mod (pe_callTy call_int1 (by rfl) T.n_int Eb.bb_int (pa_cons (pv 0) pa_nil)) (pv 1)) pa_nil))) (pss_cons (ps_while PassesOwn.never (pt_cmpR op_ge (pv 0) (pv 1) (nomark _)) (pss_cons (ps_set (i := 0) sc__law_figures.nd rfl (.inl rfl) (pe_op op_fdivX (pv 0) (pv 1))) (pss_one (ps_expr (pe_bm PySem.F.plainAttrs_list PySem.F.slot_list_append PySem.F.type_list_append mt_append (pv 2) (pa_cons (pe_op op_mod (pe_callTy call_int1 (by rfl) T.n_int Eb.bb_int (pa_cons (pv 0) pa_nil)) (pv 1)) pa_nil)))))) (pss_one (ps_ret (pe_revL (pv 2)))))), ?_⟩
    refine ⟨_, rfl, .inl ⟨_, rfl, _, rfl, _, _, rfl, rfl, (show 0 < b by omega), szr rfl, fun p hp => ?_⟩⟩
    refine whl (fun m σ H' => ∃ (c : List Int) (l : Int), σ = [some (.int l), some (.int b), some (.ref p)] ∧ 0 ≤ l ∧ l ≤ n ∧ m = l.toNat ∧ c ++ rest b (l / b) = digs b n ∧ H' p = some (.lst (c.map V.int)) ∧ Same H H') n.toNat
      ⟨[n % b], n, rfl, hn, Int.le_refl _, rfl, (digs_rest hb hn).symm, upd_same, same_new hp⟩ ?_
    rintro m σ H' ⟨c, l, rfl, h0, h1, rfl, hc, hH, sm⟩
    have hlen : c.length ≤ 1900 := by
      have := congrArg List.length hc
      rw [List.length_append] at this
      have := digs_small hb hn sn
      omega
    refine ⟨_, rfl, _, rfl, _, _, rfl, rfl, _, rfl, ?_⟩
    by_cases hl : b ≤ l
    · rw [decide_eq_true hl]
      refine iteT (turn_of ?_)
      refine ⟨_, rfl, _, rfl, _, _, rfl, rfl, divW (by omega) sb, ?_⟩
      refine ⟨_, rfl, .inl ⟨rfl, _, sqL_of hH⟩, _, rfl, .inl ⟨_, rfl, _, rfl, _, _, rfl, rfl, (show 0 < b by omega), p, _, _, rfl, rfl, hH, ?_, ?_⟩⟩
      · rw [List.length_map]
        exact szl (by omega)
      · have z1 := div_lt hb hl
        have z2 := div_pos hb hl
        refine ⟨(l / b).toNat, by omega, c ++ [l / b % b], l / b, rfl, by omega, by omega, rfl, ?_, ?_, same_mut sm hp⟩
        · rw [← hc, rest_step hb (show 0 < l / b by omega), List.append_assoc]
          rfl
        · rw [upd_same, List.map_append]
          rfl
    · rw [decide_eq_false hl]
      refine iteF ?_
      rw [div_zero h0 (by omega), rest_zero (Int.le_refl _), List.append_nil] at hc
      refine ⟨_, rfl, p, _, rfl, sqL_of hH, fun r hr' => ?_⟩
      refine q r _ (sm.trans (same_new hr')) (sm.free hr') ?_
      rw [upd_same, hc, List.map_reverse]
/-- a number of few unlike figures -/
def sp_number : Sp := fun vs H Q _ => ∃ (d l : Addr) (b : Int), vs = [V.ref d, .int b] ∧ Deal H d l ∧ 2 ≤ b ∧ b ≤ 10 ^ 30 ∧ ∀ n H', 0 ≤ n → n < 10 ^ 60 → Drew d l H H' → Q (.int n) H'
theorem cut_to (zs : List Int) (k : Int) (h : 0 ≤ k) : cutV (zs.map V.int) none (some k) = (zs.take k.toNat).map V.int := by
  unfold cutV
  rw [HT.sIx_none, show HT.sIx (zs.map V.int).length (zs.map V.int).length (some k) = min k.toNat (zs.map V.int).length from by
    obtain ⟨n, rfl⟩ : ∃ n : Nat, k = n := ⟨k.toNat, by omega⟩
    exact HT.sIx_nat _ _ n]
  rw [List.drop_zero, Nat.sub_zero, List.map_take]
  exact (List.take_eq_take_min ..).symm
theorem cut_from (zs : List Int) (k : Int) (h : 0 ≤ k) : cutV (zs.map V.int) (some k) none = (zs.drop k.toNat).map V.int := by
  unfold cutV
  obtain ⟨n, rfl⟩ : ∃ n : Nat, k = n := ⟨k.toNat, by omega⟩
  rw [HT.sIx_none, show HT.sIx (zs.map V.int).length 0 (some (n : Int)) = min n (zs.map V.int).length from HT.sIx_nat _ _ n]
  rw [List.map_drop]
  show ((zs.map V.int).drop (min n (zs.map V.int).length)).take ((zs.map V.int).length - min n (zs.map V.int).length) = (zs.map V.int).drop n
  rw [List.take_of_length_le (by rw [List.length_drop]; omega)]
  by_cases c : n ≤ (zs.map V.int).length
  · rw [Nat.min_eq_left c]
  · rw [Nat.min_eq_right (by omega), List.drop_of_length_le (by omega), List.drop_of_length_le (by omega)]
theorem ok__law_number (T : Txt K mg F D C) : FnOk P w K mg base CX0 3 (F 15) (D 15) ["_law_deal_here", "_law_base_here"] (sp_number) := by
  refine T.f__law_number.ok sc__law_number (fun vs H Q E h => ?_) (fun cdv A outer s H vs Q E hr h => ?_)
  · obtain ⟨d, l, b, rfl, D0, hb, hb2, q⟩ := h
    rfl
  · obtain ⟨d, l, b, rfl, D0, hb, hb2, q⟩ := h
    refine ⟨_, (pss_cons (ps_par (i := 2) (j := 3) (by rfl) sc__law_number.nd rfl rfl (by decide) rfl rfl (pa_cons pe_int (pa_cons (pv 1) pa_nil)) (by rfl)) (pss_cons (ps_while PassesOwn.never (pt_cmpR op_lt (pe_op op_mulW (pv 3) (pv 1)) (pe_op op_pow pe_int pe_int) (nomark _)) (pss_one (ps_par (i := 2) (j := 3) (by rfl) sc__law_number.nd rfl rfl (by decide) rfl rfl (pa_cons (pe_op op_add (pv 2) pe_int) (pa_cons (pe_op op_mulW (pv 3) (pv 1)) pa_nil)) (by rfl)))) (pss_cons (ps_set (i := 4) sc__law_number.nd rfl (.inr rfl) (pe_lst (pa_cons pe_int (pa_cons pe_int (pa_cons (pe_op op_sub (pv 1) pe_int) (pa_cons (pe_call (ok__law_draw T) (hr.mono (by decide)) (by rfl) T.g__law_draw T.f__law_draw.kp T.b__law_draw .nil pass0 (pa_cons (pv 0) (pa_cons (pv 1) pa_nil))) (pa_cons (pe_call (ok__law_draw T) (hr.mono (by decide)) (by rfl) T.g__law_draw T.f__law_draw.kp T.b__law_draw .nil pass0 (pa_cons (pv 0) (pa_cons (pv 1) pa_nil))) pa_nil))))))) (pss_cons (ps_setLc (i := 5) (own := [("_law_k", 6)]) rfl sc__law_number.nd rfl rfl (sw_true rfl rfl rfl (by decide +kernel)) (pi_range1 (by rfl) T.n_range (pa_cons (pe_op op_add pe_int (pe_call (ok__law_draw T) (hr.mono (by decide)) (by rfl) T.g__law_draw T.f__law_draw.kp T.b__law_draw .nil pass0 (pa_cons (pv 0) (pa_cons (pe_call (ok__law_pick T) (hr.mono (by decide)) (by rfl) T.g__law_pick T.f__law_pick.kp T.b__law_pick .nil pass0 (pa_cons (pv 0) (pa_cons (pe_lst (pa_cons (pv 2) (pa_cons (pe_callB (call_min2 rfl) (by rfl) T.n_min Eb.bb_min (pa_cons (pv 2) (pa_cons pe_int pa_nil))) pa_nil))) pa_nil))) pa_nil)))) pa_nil)) (blkOk_by (N := ["_law_deal_here", "_law_base_here", "_law_span", "_law_room", "_law_some", "_law_found", "_law_k"]) (sc := defScope s__law_number) (by decide +kernel)) (fun _ _ _ _ _ => (pg_name (i := 6) sc__law_number.nd rfl (.inl rfl))) (fun _ _ _ _ _ => pts_nil) (fun _ _ _ _ _ => (pe_call (ok__law_pick T) (hr.mono (by decide)) (by rfl) T.g__law_pick T.f__law_pick.kp T.b__law_pick .nil pass0 (pa_cons (pv 0) (pa_cons (pv 4) pa_nil))))) (pss_cons (ps_if (pt_cmpR op_eq (pe_call (ok__law_draw T) (hr.mono (by decide)) (by rfl) T.g__law_draw T.f__law_draw.kp T.b__law_draw .nil pass0 (pa_cons (pv 0) (pa_cons pe_int pa_nil))) pe_int (nomark _)) (pss_cons (ps_set (i := 5) sc__law_number.nd rfl (.inl rfl) (pe_slice sl_list (pv 5) po_none (po_some (pe_callB (call_max2 rfl) (by rfl) T.n_max Eb.bb_max (pa_cons pe_int (pa_cons (pe_op op_fdivX (pe_callB call_len_seq (by rfl) T.n_len Eb.bb_len (pa_cons (pv 5) pa_nil)) pe_int) pa_nil)))))) (pss_one (ps_set (i := 5) sc__law_number.nd rfl (.inl rfl) (pe_op op_cat (pv 5) (pe_slice sl_list (pe_revL (pv 5)) (po_some (pe_call (ok__law_draw T) (hr.mono (by decide)) (by rfl) T.g__law_draw T.f__law_draw.kp T.b__law_draw .nil pass0 (pa_cons (pv 0) (pa_cons pe_int pa_nil)))) po_none))))) pss_nil) (pss_one (ps_ret (pe_call (ok__law_written T) (hr.mono (by decide)) (by rfl) T.g__law_written T.f__law_written.kp T.b__law_written .nil pass0 (pa_cons (pe_slice sl_list (pv 5) po_none (po_some (pv 2))) (pa_cons (pv 1) pa_nil)))))))))), ?_⟩
    have sb : Sm b := sm_of (by omega) (by omega)
    -- span, room = 1, base
    refine ⟨_, rfl, _, _, rfl, ?_⟩
    refine whl (fun m σ H' => ∃ (k : Nat), σ = [some (.ref d), some (.int b), some (.int (k : Int)), some (.int (b ^ k)), none, none, none] ∧ 1 ≤ k ∧ b ^ k < 10 ^ 60 ∧ m = (10 ^ 60 - b ^ k).toNat ∧ H = H') (10 ^ 60 - b).toNat
      ⟨1, by rw [Int.pow_one]; rfl, by omega, by rw [Int.pow_one]; omega, by rw [Int.pow_one], rfl⟩ ?_
    rintro m σ H' ⟨k, rfl, k1, hk, rfl, rfl⟩
    have hk0 : 0 < b ^ k := Int.pow_pos (by omega)
    have e60 : (10 : Int) ^ (60 : Int).toNat = 10 ^ 60 := rfl
    refine ⟨_, rfl, _, rfl, _, _, rfl, rfl, mulW (sm_of (by omega) (by omega)) sb, _, _, rfl, rfl, ⟨by decide, by decide, by decide⟩, _, _, rfl, rfl, _, rfl, ?_⟩
    rw [e60]
    by_cases hl : b ^ k * b < 10 ^ 60
    · rw [decide_eq_true hl]
      refine iteT (turn_of ?_)
      refine ⟨_, rfl, _, _, rfl, rfl, _, rfl, _, rfl, _, _, rfl, rfl, mulW (sm_of (by omega) (by omega)) sb, _, _, rfl, ?_⟩
      have e : b ^ (k + 1) = b ^ k * b := Int.pow_succ _ _
      have gr : b ^ k * 2 ≤ b ^ k * b := Int.mul_le_mul_of_nonneg_left hb (by omega)
      refine ⟨(10 ^ 60 - b ^ (k + 1)).toNat, by rw [e]; omega, k + 1, ?_, by omega, by rw [e]; exact hl, rfl, rfl⟩
      rw [e]
      rfl
    · rw [decide_eq_false hl]
      refine iteF ?_
      have k2 := span_le hb hk
      -- some = [0, 1, base - 1, draw, draw]
      refine ⟨_, rfl, _, _, rfl, rfl, ?_⟩
      refine ⟨_, rfl, _, rfl, d, l, b, rfl, D0, by omega, sb, fun r1 H1 a1 b1 w1 => ?_⟩
      refine ⟨_, rfl, _, rfl, d, l, b, rfl, w1.deal, by omega, sb, fun r2 H2 a2 b2 w2 => ?_⟩
      refine ⟨szr rfl, fun p hp => ?_⟩
      have w3 := (w1.trans w2).new (o := .lst [.int 0, .int 1, .int (b - 1), .int r1, .int r2]) hp
      have np : p ∉ [d, l] := w2.deal.fresh hp
      have hp3 : upd H2 p (.lst [.int 0, .int 1, .int (b - 1), .int r1, .int r2]) p = some (.lst [.int 0, .int 1, .int (b - 1), .int r1, .int r2]) := upd_same
      generalize hH3 : upd H2 p (.lst [.int 0, .int 1, .int (b - 1), .int r1, .int r2]) = H3 at w3 hp3 ⊢
      have some_in : ∀ v ∈ [V.int 0, .int 1, .int (b - 1), .int r1, .int r2], ∃ z : Int, v = .int z ∧ 0 ≤ z ∧ z < b := by
        intro v hv
        simp only [List.mem_cons, List.not_mem_nil, or_false] at hv
        rcases hv with e | e | e | e | e
        · exact ⟨_, e, by omega, by omega⟩
        · exact ⟨_, e, by omega, by omega⟩
        · exact ⟨_, e, by omega, by omega⟩
        · exact ⟨_, e, a1, b1⟩
        · exact ⟨_, e, a2, b2⟩
      -- range(1 + draw(deal, pick(deal, [span, min(span, 5)])))
      refine ⟨_, rfl, _, rfl, _, rfl, _, rfl, _, _, rfl, szr rfl, fun t ht => ?_⟩
      refine ⟨d, l, t, _, rfl, (w3.new ht).deal, sqL_new, w3.deal.fresh ht, Nat.le_of_ble_eq_true rfl, Nat.le_of_ble_eq_true rfl, fun v H4 hv w4 => ?_⟩
      obtain ⟨u, rfl, u0, u1⟩ : ∃ u : Int, v = .int u ∧ 0 < u ∧ u ≤ 200 := by
        simp only [List.mem_cons, List.not_mem_nil, or_false] at hv
        rcases hv with e | e
        · exact ⟨_, e, by omega, by omega⟩
        · refine ⟨_, e, ?_, ?_⟩ <;> split <;> omega
      refine ⟨d, l, u, rfl, w4.deal, u0, sm_of (by omega) (by omega), fun r3 H5 a3 b3 w5 => ⟨_, _, rfl, rfl, ?_⟩⟩
      have wt := (w3.new (o := .lst [.int (k : Int), .int (if (5 : Int) < (k : Int) then 5 else (k : Int))]) ht)
      have w6 := (wt.trans w4).trans w5
      have hp5 : H5 p = some (.lst [.int 0, .int 1, .int (b - 1), .int r1, .int r2]) := w5.get np (w4.get np (same_new ht _ _ hp3))
      refine ⟨1 + r3, rfl, by omega, by omega, fun D hD => ?_⟩
      have nD : D ∉ [d, l] := w5.deal.fresh hD
      have pD : p ≠ D := ne_of_none hp5 hD
      refine lc_range (lo := 0) (n := (1 + r3).toNat) (fun i H' => ∃ zs : List Int, zs.length = i ∧ InB b zs ∧ H' D = some (.lst (zs.map V.int)) ∧ Drew d l H H' ∧ H' p = some (.lst [.int 0, .int 1, .int (b - 1), .int r1, .int r2])) ?_ ?_ ?_
      · exact ⟨[], rfl, fun x hx => absurd hx (by simp), upd_same, w6.new hD, by rw [upd_ne pD]; exact hp5⟩
      · rintro i H' hi ⟨zs, ez, hz, hD', w7, hp7⟩
        refine ⟨rfl, ?_⟩
        refine ⟨_, rfl, _, rfl, d, l, p, _, rfl, w7.deal, sqL_of hp7, np, Nat.le_of_ble_eq_true rfl, Nat.le_of_ble_eq_true rfl, fun v H8 hv w8 => ?_⟩
        obtain ⟨z, rfl, z0, z1⟩ := some_in v hv
        refine ⟨_, w8.get nD hD', by rw [List.length_map]; exact szl (by omega), zs ++ [z], by simp [ez], hz.append fun x hx => by rw [List.mem_singleton.mp hx]; exact ⟨z0, z1⟩, by rw [upd_same, List.map_append]; rfl, ⟨(w7.trans w8).deal.upd nD, fun b' x nb hb' => ?_⟩, ?_⟩
        · have e1 := (w7.trans w8).grow b' x nb hb'
          have nbD : b' ≠ D := fun e => by
            subst e
            have := w6.free hD
            rw [this] at hb'
            cases hb'
          rw [upd_ne nbD]
          exact e1
        · rw [upd_ne pD]
          exact w8.get np hp7
      · rintro H6 ⟨zs, ez, hz, hD6, w7, hp7⟩
        -- if draw(deal, 3) == 0
        dsimp only [gName]
        refine by_st (fun σ H' => ∃ (ys : List Int) (y : Addr), σ = [some (.ref d), some (.int b), some (.int (k : Int)), some (.int (b ^ k)), some (.ref p), some (.ref y), none] ∧ InB b ys ∧ ys.length ≤ 1000 ∧ H' y = some (.lst (ys.map V.int)) ∧ Drew d l H H') (fun D' _ kk => ?_) ?_
        · refine ⟨_, rfl, d, l, _, rfl, w7.deal, (by decide), sm_of (by decide) (by decide), fun r4 H7 a4 b4 w8 => ⟨rfl, _, rfl, ite2 (fun _ => ?_) (fun _ => ?_)⟩⟩
          · have hD7 := w8.get nD hD6
            -- found = found[:max(1, len(found) // 2)]
            refine ⟨_, rfl, _, rfl, D, _, rfl, .inl (sqL_of hD7), _, _, rfl, rfl, divW (by decide) (sm_of (by decide) (by decide)), _, _, rfl, _, rfl, D, _, rfl, sqL_of hD7, fun f hf => ?_⟩
            rw [cut_to zs _ (by split <;> omega)]
            generalize (if (((zs.map V.int).length : Nat) : Int) / 2 > 1 then (((zs.map V.int).length : Nat) : Int) / 2 else 1).toNat = c
            have w9 := (w7.trans w8).new (o := .lst ((zs.take c).map V.int)) hf
            have nf : f ∉ [d, l] := w8.deal.fresh hf
            have hf9 : upd H7 f (.lst ((zs.take c).map V.int)) f = some (.lst ((zs.take c).map V.int)) := upd_same
            generalize upd H7 f (.lst ((zs.take c).map V.int)) = H9 at w9 hf9 ⊢
            -- found = found + found[::-1][draw(deal, 2):]
            refine ⟨_, rfl, _, rfl, f, _, rfl, sqL_of hf9, fun g hg => ?_⟩
            have w10 := w9.new (o := .lst ((zs.take c).map V.int).reverse) hg
            have ng : g ∉ [d, l] := w9.deal.fresh hg
            have hg10 : upd H9 g (.lst ((zs.take c).map V.int).reverse) g = some (.lst (((zs.take c).reverse).map V.int)) := by rw [upd_same, List.map_reverse]
            have hf10 := same_new (o := .lst ((zs.take c).map V.int).reverse) hg _ _ hf9
            generalize upd H9 g (.lst ((zs.take c).map V.int).reverse) = H10 at w10 hg10 hf10 ⊢
            refine ⟨_, rfl, d, l, _, rfl, w10.deal, (by decide), sm_of (by decide) (by decide), fun r5 H11 a5 b5 w11 => ⟨r5, rfl, ?_⟩⟩
            refine ⟨g, _, rfl, sqL_of (w11.get ng hg10), fun e he => ?_⟩
            rw [cut_from _ _ a5]
            have hf12 := same_new (o := .lst (((zs.take c).reverse.drop r5.toNat).map V.int)) he _ _ (w11.get nf hf10)
            have w12 := (w10.trans w11).new (o := .lst (((zs.take c).reverse.drop r5.toNat).map V.int)) he
            have lz : (zs.take c).length ≤ 201 := by
              rw [List.length_take]
              omega
            refine ⟨f, e, _, _, rfl, rfl, hf12, upd_same, ?_, fun y hy => ?_⟩
            · rw [List.length_map, List.length_map, List.length_drop, List.length_reverse]
              exact sz (by omega)
            · refine kk _ _ ⟨zs.take c ++ (zs.take c).reverse.drop r5.toNat, y, rfl, (hz.take c).append ((hz.take c).reverse.drop _), ?_, ?_, w12.new hy⟩
              · rw [List.length_append, List.length_drop, List.length_reverse]
                omega
              · rw [upd_same, List.map_append]
          · exact kk _ _ ⟨zs, D, rfl, hz, by omega, w8.get nD hD6, w7.trans w8⟩
        · rintro σ H' ⟨ys, y, rfl, hy, ly, hH, w8⟩
          refine ⟨_, rfl, _, rfl, _, rfl, y, _, rfl, sqL_of hH, fun f hf => ?_⟩
          rw [cut_to ys _ (by omega)]
          have e : (ys.take (k : Int).toNat).length ≤ k := by
            rw [List.length_take]
            omega
          have m := pow_mono hb e
          have rg := ofs_range hb _ (hy.take (k : Int).toNat)
          refine ⟨_, rfl, f, _, b, rfl, sqL_new, sb, ofs_sm hb (hy.take _) (by omega), ?_⟩
          exact q _ _ rg.1 (by omega) (w8.new hf)

def sp_refused : Sp := fun vs H Q _ => ∃ (v : V) (b : Int) (i : Nat), vs = [v, .int b] ∧ 2 ≤ b ∧ Wrong H b v i ∧ ∀ (H1 : Hp), Same H H1 → Q (.int i) H1
theorem ok__law_refused (T : Txt K mg F D C) (Z : Exs P K mg C I) : FnOk P w K mg base CX0 5 (F 16) (D 16) ["_law_figures_here", "_law_base_here"] (sp_refused) := by
  refine T.f__law_refused.ok sc__law_refused (fun vs H Q E h => ?_) (fun cdv A outer s H vs Q E hr h => ?_)
  · obtain ⟨v, b, i, rfl, hb, hw, q⟩ := h
    rfl
  · obtain ⟨v, b, i, rfl, hb, hw, q⟩ := h
    refine ⟨_, (pss_cons (ps_set (i := 2) sc__law_refused.nd rfl (.inl rfl) pe_non) (pss_cons (ps_try_as (i := 3) (Wout := fun _ _ _ _ => False) rfl rfl sc__law_refused.nd rfl rfl ⟨rfl, by decide, Or.inl Z.g_NoFigure⟩ takes0 (fun W pn xe tk ps => (pss_one (ps_set (i := 2) sc__law_refused.nd rfl (.inl rfl) (pe_slice (sl_list : SlR _ (rSlL K)) (pe_lst (pa_cons (pe_callS (okx_number_of T Z) (hr.mono (by decide)) (by rfl) T.g_number_of T.f_number_of.kp T.b_number_of (fun σ => passAt tk σ) (by exact (pa_cons (pv 0) (pa_cons (pv 1) pa_nil)))) pa_nil)) (po_some pe_int) po_none)))) (fun a oe cls d pn hz hf => (pss_one (ps_set (i := 2) sc__law_refused.nd rfl (.inl rfl) (pe_ifExp (pt_not (pt_val (pe_callB (call_isET Z.i_NoFigure hz hf) (by rfl) T.n_isinstance Eb.bb_isinstance (pa_cons (pv 3) (pa_cons (pe_tup (pa_cons (pe_glob (v := .ref (C 1)) (by rfl) Z.g_InvalidBase rfl) (pa_cons (pe_glob (v := .ref (C 2)) (by rfl) Z.g_InvalidNumber rfl) pa_nil))) pa_nil))))) (pe_xf ⟨Z.x_NoFigure.ga, Z.x_NoFigure.gg, Z.x_NoFigure.exC, Z.x_NoFigure.hdC⟩ Z.x_NoFigure.noN hz hf (pv 3)) pe_str))))) (pss_one (ps_ret (pv 2))))), ?_⟩
    refine ⟨_, rfl, _, rfl, v, b, i, rfl, hb, hw, fun d H1 s1 hd => ?_⟩
    refine ⟨true, Z.x_NoFigure.te, fun _ a0 ha0 => ?_, fun z => Bool.noConfusion z⟩
    -- isinstance(e, (InvalidBase, InvalidNumber))
    refine ⟨_, rfl, szr rfl, fun t ht => ?_⟩
    have s2 := same_new (o := .xd [(("at" : Str), V.int i)]) hd
    have s3 := same_new (o := .tup [.ref (C 1), .ref (C 2)]) ht
    have e2 : upd (upd H1 d (.xd [(("at" : Str), V.int i)])) t (.tup [.ref (C 1), .ref (C 2)]) d = some (.xd [(("at" : Str), V.int i)]) := s3 _ _ upd_same
    refine ⟨rfl, ⟨d, _, rfl, e2⟩, t, _, [.ref (C 1), .ref (C 2)], false, rfl, upd_same, .cons (.own _) (.cons (.own _) .nil), kitAny_cons (b := false) Z.t_NoFigure_InvalidBase (fun _ => kitAny_cons (b := false) Z.t_NoFigure_InvalidNumber (fun _ => kitAny_nil) (fun h => nomatch h)) (fun h => nomatch h), ?_⟩
    exact ⟨_, rfl, iteT ⟨_, rfl, rfl, rfl, d, _, _, rfl, e2, rfl, _, rfl, q _ ((s1.trans s2).trans s3)⟩⟩
theorem rNe0 {H : Hp} {x : V} {Q : VK} (e : x = V.str "0") (q : Q (.bl false) H) : rNe x (.str "0") H Q := by
  subst e
  exact ne_same rfl q
def badVs (b : Int) (t1 t2 : Addr) : List V := [.int b, .int (0 - 1), .bl true, .bl false, .non, .str "1", .ref t1, .ref t2, .int (b + 7), .int (10 ^ 30)]
/-- a value that is no figure, told of a heap where draws go on -/
def BadV (d l : Addr) (H : Hp) (b : Int) (y : V) : Prop := Pl H y ∧ (∀ a, y = .ref a → a ∉ [d, l]) ∧ ∀ z, y = .int z → ¬ (0 ≤ z ∧ z < b)
theorem badVs_ok {d l : Addr} {H : Hp} {b : Int} {t1 t2 : Addr} {x1 x2 : List V} (hb : b ≤ 10 ^ 30) (h1 : H t1 = some (.tup x1)) (h2 : H t2 = some (.lst x2)) (n1 : t1 ∉ [d, l]) (n2 : t2 ∉ [d, l]) : ∀ y ∈ badVs b t1 t2, BadV d l H b y := by
  intro y hy
  unfold badVs at hy
  simp only [List.mem_cons, List.not_mem_nil, or_false] at hy
  rcases hy with rfl | rfl | rfl | rfl | rfl | rfl | rfl | rfl | rfl | rfl
  · exact ⟨trivial, fun a e => (nomatch e), fun z e => by cases e; omega⟩
  · exact ⟨trivial, fun a e => (nomatch e), fun z e => by cases e; omega⟩
  · exact ⟨trivial, fun a e => (nomatch e), fun z e => (nomatch e)⟩
  · exact ⟨trivial, fun a e => (nomatch e), fun z e => (nomatch e)⟩
  · exact ⟨trivial, fun a e => (nomatch e), fun z e => (nomatch e)⟩
  · exact ⟨trivial, fun a e => (nomatch e), fun z e => (nomatch e)⟩
  · exact ⟨⟨_, .inr h1⟩, fun a e => by cases e; exact n1, fun z e => (nomatch e)⟩
  · exact ⟨⟨_, .inl h2⟩, fun a e => by cases e; exact n2, fun z e => (nomatch e)⟩
  · exact ⟨trivial, fun a e => (nomatch e), fun z e => by cases e; omega⟩
  · exact ⟨trivial, fun a e => (nomatch e), fun z e => by cases e; omega⟩
theorem BadV.drew {d l : Addr} {H H' : Hp} {b : Int} {y : V} (h : BadV d l H b y) (w : Drew d l H H') : BadV d l H' b y := by
  refine ⟨?_, h.2⟩
  cases y with
  | ref a =>
    obtain ⟨xs, e | e⟩ := h.1
    · exact ⟨xs, .inl (w.get (h.2.1 a rfl) e)⟩
    · exact ⟨xs, .inr (w.get (h.2.1 a rfl) e)⟩
  | _ => exact h.1
theorem BadV.noFig {d l : Addr} {H : Hp} {b : Int} {y : V} {ds : List Int} {i : Nat} {r : List V} (h : BadV d l H b y) (hd : InB b ds) (hi : i < ds.length) : NoFig H b ((ds.take i).map V.int ++ [y] ++ r) i := by
  have l1 : ((ds.take i).map V.int).length = i := by rw [List.length_map, List.length_take]; omega
  refine ⟨fun j hj => ?_, y, ?_, h.1, h.2.2⟩
  · have hj' : j < ds.length := by omega
    have m := hd _ (List.getElem_mem hj')
    refine ⟨ds[j], ?_, m.1, m.2⟩
    rw [List.append_assoc, List.getElem?_append_left (by omega), List.getElem?_map, List.getElem?_take, if_pos hj, List.getElem?_eq_getElem hj']
    rfl
  · rw [List.append_assoc, List.getElem?_append_right (by omega), l1, Nat.sub_self]
    rfl
def sp_bad : Sp := fun vs H Q _ => ∃ (d l a : Addr) (ds : List Int) (b : Int), vs = [V.ref d, .ref a, .int b] ∧ Deal H d l ∧ H a = some (.lst (ds.map V.int)) ∧ a ∉ [d, l] ∧ InB b ds ∧ 0 < ds.length ∧ ds.length ≤ 1000 ∧ 2 ≤ b ∧ b ≤ 10 ^ 30 ∧ ∀ H', Drew d l H H' → Q (.bl true) H'
theorem ok__law_bad_right (T : Txt K mg F D C) (Z : Exs P K mg C I) : FnOk P w K mg base CX0 6 (F 17) (D 17) ["_law_deal_here", "_law_figures_here", "_law_base_here"] (sp_bad) := by
  refine T.f__law_bad_right.ok sc__law_bad_right (fun vs H Q E h => ?_) (fun cdv A outer s H vs Q E hr h => ?_)
  · obtain ⟨d, l, a, ds, b, rfl, D0, hs, na, inb, h0, h1, hb, hb2, q⟩ := h
    rfl
  · obtain ⟨d, l, a, ds, b, rfl, D0, hs, na, inb, h0, h1, hb, hb2, q⟩ := h
    refine ⟨_, (pss_cons (ps_set (i := 3) sc__law_bad_right.nd rfl (.inl rfl) (pe_lst (pa_cons (pv 2) (pa_cons (pe_op op_sub pe_int pe_int) (pa_cons pe_bl (pa_cons pe_bl (pa_cons pe_non (pa_cons pe_str (pa_cons (pe_tup (pa_cons pe_int pa_nil)) (pa_cons (pe_lst pa_nil) (pa_cons (pe_op op_add (pv 2) pe_int) (pa_cons (pe_op op_pow pe_int pe_int) pa_nil)))))))))))) (pss_cons (ps_set (i := 4) sc__law_bad_right.nd rfl (.inl rfl) (pe_call (ok__law_draw T) (hr.mono (by decide)) (by rfl) T.g__law_draw T.f__law_draw.kp T.b__law_draw .nil pass0 (pa_cons (pv 0) (pa_cons (pe_callB call_len_seq (by rfl) T.n_len Eb.bb_len (pa_cons (pv 1) pa_nil)) pa_nil)))) (pss_cons (ps_set (i := 5) sc__law_bad_right.nd rfl (.inl rfl) (pe_op op_cat (pe_op op_cat (pe_slice sl_list (pv 1) po_none (po_some (pv 4))) (pe_lst (pa_cons (pe_call (ok__law_pick T) (hr.mono (by decide)) (by rfl) T.g__law_pick T.f__law_pick.kp T.b__law_pick .nil pass0 (pa_cons (pv 0) (pa_cons (pv 3) pa_nil))) pa_nil))) (pe_slice sl_list (pv 1) (po_some (pe_op op_add (pv 4) pe_int)) po_none))) (pss_cons (ps_if (pt_cmpR op_eq (pe_call (ok__law_draw T) (hr.mono (by decide)) (by rfl) T.g__law_draw T.f__law_draw.kp T.b__law_draw .nil pass0 (pa_cons (pv 0) (pa_cons pe_int pa_nil))) pe_int (nomark _)) (pss_one (ps_set (i := 5) sc__law_bad_right.nd rfl (.inl rfl) (pe_op op_cat (pv 5) (pe_lst (pa_cons (pe_call (ok__law_pick T) (hr.mono (by decide)) (by rfl) T.g__law_pick T.f__law_pick.kp T.b__law_pick .nil pass0 (pa_cons (pv 0) (pa_cons (pv 3) pa_nil))) pa_nil))))) pss_nil) (pss_cons (ps_for PassesOwn.never rfl (pi_tup (pe_tup (pa_cons (pv 5) (pa_cons (pe_callTy call_tuple_of (by rfl) T.n_tuple Eb.bb_tuple (pa_cons (pv 5) pa_nil)) pa_nil)))) (pg_name (i := 6) sc__law_bad_right.nd rfl (.inl rfl)) (pss_one (ps_if (pt_cmpR op_ne (pe_callB SkE.call_repr_int (by rfl) T.n_repr Eb.bb_repr (pa_cons (pe_call (ok__law_refused T Z) (hr.mono (by decide)) (by rfl) T.g__law_refused T.f__law_refused.kp T.b__law_refused .nil pass0 (pa_cons (pv 6) (pa_cons (pv 2) pa_nil))) pa_nil)) (pe_callB SkE.call_repr_int (by rfl) T.n_repr Eb.bb_repr (pa_cons (pv 4) pa_nil)) (nomark _)) (pss_one (ps_ret pe_bl)) pss_nil))) (pss_cons (ps_for PassesOwn.never rfl (pi_tup (pe_tup (pa_cons (pe_lst pa_nil) (pa_cons (pe_tup pa_nil) (pa_cons pe_non (pa_cons pe_int (pa_cons pe_str (pa_cons pe_str (pa_cons pe_bl pa_nil))))))))) (pg_name (i := 6) sc__law_bad_right.nd rfl (.inl rfl)) (pss_one (ps_if (pt_cmpR op_ne (pe_callB SkE.call_repr_int (by rfl) T.n_repr Eb.bb_repr (pa_cons (pe_call (ok__law_refused T Z) (hr.mono (by decide)) (by rfl) T.g__law_refused T.f__law_refused.kp T.b__law_refused .nil pass0 (pa_cons (pv 6) (pa_cons (pv 2) pa_nil))) pa_nil)) pe_str (nomark _)) (pss_one (ps_ret pe_bl)) pss_nil))) (pss_one (ps_ret pe_bl)))))))), ?_⟩
    -- bad
    refine ⟨_, rfl, _, _, rfl, rfl, szr rfl, fun t1 ht1 => ?_⟩
    refine ⟨szr rfl, fun t2 ht2 => ?_⟩
    refine ⟨_, rfl, _, _, rfl, rfl, _, _, rfl, rfl, ⟨by decide, by decide, by decide⟩, szr rfl, fun t3 ht3 => ?_⟩
    have n1 : t1 ∉ [d, l] := D0.fresh ht1
    have w1 := (Drew.refl D0).new (o := .tup [V.int 1]) ht1
    have n2 : t2 ∉ [d, l] := w1.deal.fresh ht2
    have w2 := w1.new (o := .lst []) ht2
    have n3 : t3 ∉ [d, l] := w2.deal.fresh ht3
    have w3 := w2.new (o := .lst (badVs b t1 t2)) ht3
    have e1 := same_new (o := .lst (badVs b t1 t2)) ht3 _ _ (same_new (o := .lst []) ht2 _ _ (upd_same (H := H) (a := t1) (o := .tup [V.int 1])))
    have e2 := same_new (o := .lst (badVs b t1 t2)) ht3 _ _ (upd_same (H := upd H t1 (.tup [V.int 1])) (a := t2) (o := .lst []))
    have bads := badVs_ok (d := d) (l := l) (b := b) hb2 e1 e2 n1 n2
    have hb3 : upd (upd (upd H t1 (.tup [V.int 1])) t2 (.lst [])) t3 (.lst (badVs b t1 t2)) t3 = some (.lst (badVs b t1 t2)) := upd_same
    show gName 3 (.ref t3) _ (upd (upd (upd H t1 (.tup [V.int 1])) t2 (.lst [])) t3 (.lst (badVs b t1 t2))) _
    generalize upd (upd (upd H t1 (.tup [V.int 1])) t2 (.lst [])) t3 (.lst (badVs b t1 t2)) = H3 at w3 e1 e2 bads hb3 ⊢
    have hs3 := w3.get na hs
    -- at
    refine ⟨_, rfl, _, rfl, a, _, rfl, .inl (sqL_of hs3), d, l, _, rfl, w3.deal, by rw [List.length_map]; omega, sm_of (by omega) (by rw [List.length_map]; omega), fun k H4 k0 k1 w4 => ?_⟩
    rw [List.length_map] at k1
    have hs4 := w4.get na hs3
    -- spoilt = figures[:at] + [pick] + figures[at + 1:]
    refine ⟨_, rfl, _, rfl, k, rfl, a, _, rfl, sqL_of hs4, fun p1 hp1 => ?_⟩
    rw [cut_to _ _ k0]
    have np1 : p1 ∉ [d, l] := w4.deal.fresh hp1
    have w5 := (w3.trans w4).new (o := .lst ((ds.take k.toNat).map V.int)) hp1
    have w5' := w4.new (o := .lst ((ds.take k.toNat).map V.int)) hp1
    refine ⟨_, rfl, _, rfl, d, l, t3, _, rfl, w5.deal, sqL_of (w5'.get n3 hb3), n3, Nat.le_of_ble_eq_true rfl, Nat.le_of_ble_eq_true rfl, fun y H6 hy w6 => ?_⟩
    have by6 := ((bads y hy).drew w5').drew w6
    have hp6 := w6.get np1 (upd_same (H := H4) (a := p1) (o := .lst ((ds.take k.toNat).map V.int)))
    have w56 := w5.trans w6
    have w36 := w5'.trans w6
    generalize upd H4 p1 (.lst ((ds.take k.toNat).map V.int)) = H5 at w5 w5' w6 w56 w36
    refine ⟨szr rfl, fun p2 hp2 => ?_⟩
    have np2 : p2 ∉ [d, l] := w6.deal.fresh hp2
    have w7 := w56.new (o := .lst [y]) hp2
    have w37 := w36.new (o := .lst [y]) hp2
    have e7 := same_new (o := .lst [y]) hp2
    refine ⟨p1, p2, _, _, rfl, rfl, e7 _ _ hp6, upd_same, ?_, fun p3 hp3 => ?_⟩
    · rw [List.length_map, List.length_take]
      exact sz (by show _ + 1 ≤ _; omega)
    have by7 := by6.drew (Drew.new (o := .lst [y]) (Drew.refl w6.deal) hp2)
    generalize upd H6 p2 (.lst [y]) = H7 at w7 w37 e7 hp3 by7 ⊢
    have np3 : p3 ∉ [d, l] := w7.deal.fresh hp3
    have w8 := w7.new (o := .lst ((ds.take k.toNat).map V.int ++ [y])) hp3
    have w38 := w37.new (o := .lst ((ds.take k.toNat).map V.int ++ [y])) hp3
    have by8 := by7.drew (Drew.new (o := .lst ((ds.take k.toNat).map V.int ++ [y])) (Drew.refl w7.deal) hp3)
    have e8 : upd H7 p3 (.lst ((ds.take k.toNat).map V.int ++ [y])) p3 = some (.lst ((ds.take k.toNat).map V.int ++ [y])) := upd_same
    generalize upd H7 p3 (.lst ((ds.take k.toNat).map V.int ++ [y])) = H8 at w8 w38 by8 e8 ⊢
    refine ⟨_, rfl, _, rfl, _, _, rfl, rfl, k + 1, rfl, a, _, rfl, sqL_of (w38.get na hs3), fun p4 hp4 => ?_⟩
    rw [cut_from _ _ (show 0 ≤ k + 1 by omega)]
    have e9 := same_new (o := .lst ((ds.drop (k + 1).toNat).map V.int)) hp4
    have w9 := w8.new (o := .lst ((ds.drop (k + 1).toNat).map V.int)) hp4
    have w39 := w38.new (o := .lst ((ds.drop (k + 1).toNat).map V.int)) hp4
    have by9 := by8.drew (Drew.new (o := .lst ((ds.drop (k + 1).toNat).map V.int)) (Drew.refl w8.deal) hp4)
    refine ⟨p3, p4, _, _, rfl, rfl, e9 _ _ e8, upd_same, ?_, fun p5 hp5 => ?_⟩
    · rw [List.length_append, List.length_map, List.length_take, List.length_map, List.length_drop]
      exact sz (by show _ + 1 + _ ≤ _; omega)
    generalize upd H8 p4 (.lst ((ds.drop (k + 1).toNat).map V.int)) = H9 at w9 w39 by9 hp5 ⊢
    have w10 := w9.new (o := .lst ((ds.take k.toNat).map V.int ++ [y] ++ (ds.drop (k + 1).toNat).map V.int)) hp5
    have w310 := w39.new (o := .lst ((ds.take k.toNat).map V.int ++ [y] ++ (ds.drop (k + 1).toNat).map V.int)) hp5
    have by10 := by9.drew (Drew.new (o := .lst ((ds.take k.toNat).map V.int ++ [y] ++ (ds.drop (k + 1).toNat).map V.int)) (Drew.refl w9.deal) hp5)
    have e10 : upd H9 p5 (.lst ((ds.take k.toNat).map V.int ++ [y] ++ (ds.drop (k + 1).toNat).map V.int)) p5 = some (.lst ((ds.take k.toNat).map V.int ++ [y] ++ (ds.drop (k + 1).toNat).map V.int)) := upd_same
    have np5 : p5 ∉ [d, l] := w9.deal.fresh hp5
    generalize upd H9 p5 (.lst ((ds.take k.toNat).map V.int ++ [y] ++ (ds.drop (k + 1).toNat).map V.int)) = H10 at w10 w310 by10 e10 ⊢
    -- if draw == 0: one more behind
    dsimp only [gName]
    refine by_st (fun σ H' => ∃ (r : List V) (sp : Addr), σ = [some (.ref d), some (.ref a), some (.int b), some (.ref t3), some (.int k), some (.ref sp), none] ∧ BadV d l H' b y ∧ H' sp = some (.lst ((ds.take k.toNat).map V.int ++ [y] ++ r)) ∧ sp ∉ [d, l] ∧ r.length ≤ 1001 ∧ Drew d l H H') (fun D' _ kk => ?_) ?_
    · refine ⟨_, rfl, d, l, _, rfl, w10.deal, (by decide), sm_of (by decide) (by decide), fun r4 H11 a4 b4 w11 => ⟨rfl, _, rfl, ite2 (fun _ => ?_) (fun _ => ?_)⟩⟩
      · have e11 := w11.get np5 e10
        refine ⟨_, rfl, _, rfl, _, rfl, d, l, t3, _, rfl, w11.deal, sqL_of (w11.get n3 (w310.get n3 hb3)), n3, Nat.le_of_ble_eq_true rfl, Nat.le_of_ble_eq_true rfl, fun y2 H12 hy2 w12 => ?_⟩
        refine ⟨szr rfl, fun p6 hp6 => ?_⟩
        have w13 := ((w10.trans w11).trans w12).new (o := .lst [y2]) hp6
        have by13 := ((by10.drew w11).drew w12).drew (Drew.new (o := .lst [y2]) (Drew.refl w12.deal) hp6)
        have e13 := same_new (o := .lst [y2]) hp6 _ _ (w12.get np5 e11)
        refine ⟨p5, p6, _, _, rfl, rfl, e13, upd_same, ?_, fun p7 hp7 => ?_⟩
        · rw [List.length_append, List.length_append, List.length_map, List.length_take, List.length_map, List.length_drop]
          exact sz (by show _ + 1 + _ + 1 ≤ _; omega)
        · refine kk _ _ ⟨(ds.drop (k + 1).toNat).map V.int ++ [y2], p7, rfl, by13.drew (Drew.new (Drew.refl w13.deal) hp7), ?_, w13.deal.fresh hp7, ?_, w13.new hp7⟩
          · rw [upd_same, List.append_assoc _ _ [y2]]
          · rw [List.length_append, List.length_map, List.length_drop]
            show _ + 1 ≤ _
            omega
      · refine kk _ _ ⟨(ds.drop (k + 1).toNat).map V.int, p5, rfl, by10.drew w11, w11.get np5 e10, np5, ?_, w10.trans w11⟩
        rw [List.length_map, List.length_drop]
        omega
    clear w10 w310 by10 e10 w9 w39 by9 w8 w38 by8 e8 w7 w37 e7 by7 by6
    rintro σ H' ⟨r, sp, rfl, bv, hsp, nsp, lr, wz⟩
    have nofig := bv.noFig (r := r) inb (show k.toNat < ds.length by omega)
    -- for value in (spoilt, tuple(spoilt))
    refine ⟨_, rfl, _, rfl, sp, _, rfl, .inl ⟨sqL_of hsp, fun q1 hq1 => ?_⟩⟩
    have s1 := same_new (o := .tup ((ds.take k.toNat).map V.int ++ [y] ++ r)) hq1
    have eq1 : upd H' q1 (.tup ((ds.take k.toNat).map V.int ++ [y] ++ r)) q1 = some (.tup ((ds.take k.toNat).map V.int ++ [y] ++ r)) := upd_same
    generalize upd H' q1 (.tup ((ds.take k.toNat).map V.int ++ [y] ++ r)) = G1 at s1 eq1 ⊢
    refine ⟨szr rfl, fun q2 hq2 => ?_⟩
    have s2 := same_new (o := .tup [.ref sp, .ref q1]) hq2
    have eq2 : upd G1 q2 (.tup [.ref sp, .ref q1]) q2 = some (.tup [.ref sp, .ref q1]) := upd_same
    generalize upd G1 q2 (.tup [.ref sp, .ref q1]) = G2 at s2 eq2 ⊢
    have tk : ((k.toNat : Nat) : Int) = k := by omega
    refine ⟨q2, rfl, ⟨_, sqT_of eq2⟩, for_tup (K := K) (a := q2) (xs := [.ref sp, .ref q1]) (fun i σ G => ∃ v, σ = [some (.ref d), some (.ref a), some (.int b), some (.ref t3), some (.int k), some (.ref sp), v] ∧ Same G2 G) ⟨none, rfl, Same.refl _⟩ (fun i σ G _ ⟨v, _, sg⟩ => sqT_of (sg _ _ eq2)) ?_ ?_⟩
    · rintro i x σ G hx ⟨v, rfl, sg⟩
      have w : Wrong G b x k.toNat := by
        have pl : NoFig G b ((ds.take k.toNat).map V.int ++ [y] ++ r) k.toNat := by
          obtain ⟨g1, y', g2, g3, g4⟩ := nofig
          exact ⟨g1, y', g2, g3.same ((s1.trans s2).trans sg), g4⟩
        match i, hx with
        | 0, hx =>
          cases Option.some.inj hx
          exact .lst (sg _ _ (s2 _ _ (s1 _ _ hsp))) pl
        | 1, hx =>
          cases Option.some.inj hx
          exact .tup (sg _ _ (s2 _ _ eq1)) pl
      have lk : k.natAbs.log2 < 1920 := Nat.lt_trans (sm_of (n := k) k0 (by omega)).log (by decide)
      refine ⟨_, rfl, _, rfl, x, b, k.toNat, rfl, hb, w, fun G' sg' => ?_⟩
      rw [tk]
      exact ⟨_, rfl, lk, _, rfl, _, rfl, lk, ne_same rfl ⟨_, rfl, iteF ⟨_, rfl, sg.trans sg'⟩⟩⟩
    · rintro σ G ⟨v, rfl, sg⟩
      -- for value in ([], (), None, 7, '12', '', True)
      refine ⟨szr rfl, fun u1 hu1 => ⟨szr rfl, fun u2 hu2 => ⟨szr rfl, fun u3 hu3 => ?_⟩⟩⟩
      have z1 := same_new (o := .lst []) hu1
      have z2 := same_new (o := .tup []) hu2
      have z3 := same_new (o := .tup [.ref u1, .ref u2, .non, .int 7, .str "12", .str "", .bl true]) hu3
      have x1 := z3 _ _ (z2 _ _ (upd_same (H := G) (a := u1) (o := .lst [])))
      have x2 := z3 _ _ (upd_same (H := upd G u1 (.lst [])) (a := u2) (o := .tup []))
      have x3 : upd (upd (upd G u1 (.lst [])) u2 (.tup [])) u3 (.tup [.ref u1, .ref u2, .non, .int 7, .str "12", .str "", .bl true]) u3 = some (.tup [.ref u1, .ref u2, .non, .int 7, .str "12", .str "", .bl true]) := upd_same
      have z4 := (sg.trans z1).trans (z2.trans z3)
      generalize upd (upd (upd G u1 (.lst [])) u2 (.tup [])) u3 (.tup [.ref u1, .ref u2, .non, .int 7, .str "12", .str "", .bl true]) = G3 at z3 x1 x2 x3 z4 ⊢
      refine ⟨u3, rfl, ⟨_, sqT_of x3⟩, for_tup (K := K) (a := u3) (xs := [.ref u1, .ref u2, .non, .int 7, .str "12", .str "", .bl true]) (fun i σ G => ∃ v, σ = [some (.ref d), some (.ref a), some (.int b), some (.ref t3), some (.int k), some (.ref sp), v] ∧ Same G3 G) ⟨_, rfl, Same.refl _⟩ (fun i σ G _ ⟨v, _, sg⟩ => sqT_of (sg _ _ x3)) ?_ ?_⟩
      · rintro i x σ G' hx ⟨v, rfl, sg'⟩
        have w : Wrong G' b x 0 := by
          match i, hx with
          | 0, hx => cases Option.some.inj hx; exact .lst0 (sg' _ _ x1)
          | 1, hx => cases Option.some.inj hx; exact .tup0 (sg' _ _ x2)
          | 2, hx => cases Option.some.inj hx; exact .non
          | 3, hx => cases Option.some.inj hx; exact .int _
          | 4, hx => cases Option.some.inj hx; exact .str _
          | 5, hx => cases Option.some.inj hx; exact .str _
          | 6, hx => cases Option.some.inj hx; exact .bl _
        refine ⟨_, rfl, _, rfl, x, b, 0, rfl, hb, w, fun G'' sg'' => ⟨_, rfl, by decide, ?_⟩⟩
        dsimp only [tC]
        refine rNe0 ?_ ?_
        · decide +kernel
        exact ⟨_, rfl, iteF ⟨_, rfl, sg'.trans sg''⟩⟩
      · rintro σ G' ⟨v, rfl, sg'⟩
        exact q _ (wz.same (((s1.trans s2).trans z4).trans sg'))
theorem rep_zeros (k : Nat) (x : V) : (List.replicate k [x]).flatten = List.replicate k x := by
  induction k with
  | zero => rfl
  | succ k ih =>
    rw [List.replicate_succ, List.flatten_cons, ih]
    rfl
theorem ofs_zeros {b : Int} (k : Nat) : ofs b (List.replicate k 0) = 0 := by
  induction k with
  | zero => rfl
  | succ k ih =>
    rw [List.replicate_succ', ofs_snoc, ih]
    omega
theorem ofs_wide {b : Int} (k : Nat) (xs : List Int) : ofs b (List.replicate k 0 ++ xs) = ofs b xs := by
  unfold ofs
  rw [List.foldl_append]
  have := ofs_zeros (b := b) k
  unfold ofs at this
  rw [this]
theorem sm_wide {b : Int} (k : Nat) {xs : List Int} (h : ∀ i, i ≤ xs.length → Sm (ofs b (xs.take i))) : ∀ i, i ≤ (List.replicate k 0 ++ xs).length → Sm (ofs b ((List.replicate k 0 ++ xs).take i)) := by
  intro i hi
  rw [List.take_append, List.take_replicate, ofs_wide, List.length_replicate]
  refine h _ ?_
  rw [List.length_append, List.length_replicate] at hi
  omega
theorem eq_int {H : Hp} {x y : Int} {Q : VK} (h : x = y) (q : Q (.bl true) H) : rEq (.int x) (.int y) H Q := by
  subst h
  exact ⟨rfl, by rw [decide_eq_true rfl]; exact q⟩
def sp_law (K : PySem.W.Frag) : Sp := fun vs H Q _ => ∃ (a : Addr) (ns : List Int), vs = [V.ref a] ∧ SqL K H a (ns.map V.int) ∧ ns.length ≤ 63 ∧ ∀ H', Q (.bl true) H'
theorem okg_law (T : Txt K mg F D C) (Z : Exs P K mg C I) : FnG P w K mg base CX0 7 (F 18) (D 18) ["_law_script"] (sp_law K) := by
  refine fun_g T.f_law sc_law (fun vs H Q E h => ?_) (fun cdv A outer s H vs Q E hG hr h => ?_)
  · obtain ⟨a, ns, rfl, hs, hn, q⟩ := h
    rfl
  · obtain ⟨a, ns, rfl, hs, hn, q⟩ := h
    refine ⟨_, (pss_cons (ps_set (i := 1) sc_law.nd rfl (.inl rfl) (pe_call (ok__law_deal T) (hr.mono (by decide)) (by rfl) T.g__law_deal T.f__law_deal.kp T.b__law_deal .nil pass0 (pa_cons (pv 0) (pa_cons pe_int pa_nil)))) (pss_cons (ps_for PassesOwn.never rfl (pi_range1 (by rfl) T.n_range (pa_cons pe_int pa_nil)) (pg_name (i := 2) sc_law.nd rfl (.inl rfl)) (pss_cons (ps_set (i := 3) sc_law.nd rfl (.inl rfl) (pe_call (ok__law_base T) (hr.mono (by decide)) (by rfl) T.g__law_base T.f__law_base.kp T.b__law_base .nil pass0 (pa_cons (pv 1) pa_nil))) (pss_cons (ps_set (i := 4) sc_law.nd rfl (.inl rfl) (pe_call (ok__law_number T) (hr.mono (by decide)) (by rfl) T.g__law_number T.f__law_number.kp T.b__law_number .nil pass0 (pa_cons (pv 1) (pa_cons (pv 3) pa_nil)))) (pss_cons (ps_set (i := 5) sc_law.nd rfl (.inl rfl) (pe_call (ok__law_figures T) (hr.mono (by decide)) (by rfl) T.g__law_figures T.f__law_figures.kp T.b__law_figures .nil pass0 (pa_cons (pv 4) (pa_cons (pv 3) pa_nil)))) (pss_cons (ps_if (PW.pt (pw_or (pt_cmpR op_ne (pe_callB (call_repr hG hr.units) (by rfl) T.n_repr Eb.bb_repr (pa_cons (pe_call (ok_figures_of T) (hr.mono (by decide)) (by rfl) T.g_figures_of T.f_figures_of.kp T.b_figures_of .nil pass0 (pa_cons (pv 4) (pa_cons (pv 3) pa_nil))) pa_nil)) (pe_callB (call_repr hG hr.units) (by rfl) T.n_repr Eb.bb_repr (pa_cons (pe_callTy call_tuple_of (by rfl) T.n_tuple Eb.bb_tuple (pa_cons (pv 5) pa_nil)) pa_nil)) (nomark _)) (pw_or1 (pt_cmpR op_ne (pe_callB SkE.call_repr_int (by rfl) T.n_repr Eb.bb_repr (pa_cons (pe_call (ok_many T) (hr.mono (by decide)) (by rfl) T.g_many T.f_many.kp T.b_many .nil pass0 (pa_cons (pv 4) (pa_cons (pv 3) pa_nil))) pa_nil)) (pe_callB SkE.call_repr_int (by rfl) T.n_repr Eb.bb_repr (pa_cons (pe_callB call_len_seq (by rfl) T.n_len Eb.bb_len (pa_cons (pv 5) pa_nil)) pa_nil)) (nomark _))))) (pss_one (ps_ret pe_bl)) pss_nil) (pss_cons (ps_set (i := 6) sc_law.nd rfl (.inl rfl) (pe_ifExp (pt_cmpR op_gt (pe_call (ok__law_draw T) (hr.mono (by decide)) (by rfl) T.g__law_draw T.f__law_draw.kp T.b__law_draw .nil pass0 (pa_cons (pv 1) (pa_cons pe_int pa_nil))) pe_int (nomark _)) (pe_call (ok__law_draw T) (hr.mono (by decide)) (by rfl) T.g__law_draw T.f__law_draw.kp T.b__law_draw .nil pass0 (pa_cons (pv 1) (pa_cons pe_int pa_nil))) (pe_op op_sub pe_int (pe_callB call_len_seq (by rfl) T.n_len Eb.bb_len (pa_cons (pv 5) pa_nil))))) (pss_cons (ps_set (i := 7) sc_law.nd rfl (.inl rfl) (pe_op op_cat (pe_op op_rep (pe_lst (pa_cons pe_int pa_nil)) (pv 6)) (pv 5))) (pss_cons (ps_set (i := 8) sc_law.nd rfl (.inl rfl) (pe_callTy call_list_of (by rfl) T.n_list Eb.bb_list (pa_cons (pv 7) pa_nil))) (pss_cons (ps_if (PW.pt (pw_or (pt_cmpR op_ne (pe_callB SkE.call_repr_int (by rfl) T.n_repr Eb.bb_repr (pa_cons (pe_call (ok_number_of T) (hr.mono (by decide)) (by rfl) T.g_number_of T.f_number_of.kp T.b_number_of .nil pass0 (pa_cons (pv 7) (pa_cons (pv 3) pa_nil))) pa_nil)) (pe_callB SkE.call_repr_int (by rfl) T.n_repr Eb.bb_repr (pa_cons (pv 4) pa_nil)) (nomark _)) (pw_or1 (pt_cmpR op_ne (pe_callB SkE.call_repr_int (by rfl) T.n_repr Eb.bb_repr (pa_cons (pe_call (ok_number_of T) (hr.mono (by decide)) (by rfl) T.g_number_of T.f_number_of.kp T.b_number_of .nil pass0 (pa_cons (pe_callTy call_tuple_of (by rfl) T.n_tuple Eb.bb_tuple (pa_cons (pv 7) pa_nil)) (pa_cons (pv 3) pa_nil))) pa_nil)) (pe_callB SkE.call_repr_int (by rfl) T.n_repr Eb.bb_repr (pa_cons (pv 4) pa_nil)) (nomark _))))) (pss_one (ps_ret pe_bl)) pss_nil) (pss_one (ps_if (PW.pt (pw_or (pt_cmpR (op_neL hr.units) (pv 7) (pv 8) (nomark _)) (pw_or1 (pt_not (pt_val (pe_call (ok__law_bad_right T Z) (hr.mono (by decide)) (by rfl) T.g__law_bad_right T.f__law_bad_right.kp T.b__law_bad_right .nil pass0 (pa_cons (pv 1) (pa_cons (pv 7) (pa_cons (pv 3) pa_nil))))))))) (pss_one (ps_ret pe_bl)) pss_nil))))))))))) (pss_one (ps_ret (pe_and (pe_cmpR (op_eqT hr.units) (pe_call (ok_figures_of T) (hr.mono (by decide)) (by rfl) T.g_figures_of T.f_figures_of.kp T.b_figures_of .nil pass0 (pa_cons pe_int (pa_cons pe_int pa_nil))) (pe_tup (pa_cons pe_int pa_nil)) (nomark _)) (pe_and (pe_cmpR op_eq (pe_call (ok_number_of T) (hr.mono (by decide)) (by rfl) T.g_number_of T.f_number_of.kp T.b_number_of .nil pass0 (pa_cons (pe_lst (pa_cons pe_int (pa_cons pe_int pa_nil))) (pa_cons pe_int pa_nil))) pe_int (nomark _)) (pe_one (pe_cmpR op_eq (pe_call (ok_many T) (hr.mono (by decide)) (by rfl) T.g_many T.f_many.kp T.b_many .nil pass0 (pa_cons pe_int (pa_cons (pe_op op_pow pe_int pe_int) pa_nil))) pe_int (nomark _))))))))), ?_⟩
    refine ⟨_, rfl, a, ns, 0, rfl, hs, hn, (by decide), (by decide), fun d l H0 s0 nd nl D0 => ?_⟩
    refine ⟨8, rfl, (by decide), (by decide), for_range (lo := 0) (n := (8 : Int).toNat) (fun i σ H' => ∃ v2 v3 v4 v5 v6 v7 v8 : Option V, σ = [some (.ref a), some (.ref d), v2, v3, v4, v5, v6, v7, v8] ∧ Deal H' d l) ⟨none, none, none, none, none, none, none, rfl, D0⟩ ?_ ?_⟩
    · rintro i σ H1 _ ⟨v2, v3, v4, v5, v6, v7, v8, rfl, D1⟩
      refine ⟨_, rfl, d, l, rfl, D1, fun b H2 hb hb2 w2 => ?_⟩
      have sb : Sm b := sm_of (by omega) (by omega)
      refine ⟨_, rfl, _, rfl, d, l, b, rfl, w2.deal, hb, hb2, fun n H3 n0 n1 w3 => ?_⟩
      have sn : Sm n := sm_of n0 (by omega)
      have lp := len_pow hb hb2 n0 n1
      have ll := len_two hb lp
      have inb := inB_digs hb n0
      have inr := inb.reverse
      refine ⟨_, rfl, _, rfl, n, b, rfl, n0, hb, sn, sb, fun p H4 s4 hp e4 => ?_⟩
      have D4 := w3.deal.same s4
      -- repr(figures_of) != repr(tuple(due))
      have hdsm : ∀ z ∈ (digs b n).reverse, Sm z := fun z hz => by
        have := inr z hz
        exact sm_of this.1 (by omega)
      have rp := repT hdsm (by rw [List.length_reverse]; omega)
      refine ⟨_, rfl, _, rfl, n, b, rfl, n0, hb, sn, sb, fun f H5 s5 hf e5 => ?_⟩
      refine ⟨_, _, rfl, dp_tuple (sqT_of e5), rp.1, rp.2.1, rp.2.2, ?_⟩
      refine ⟨_, rfl, p, _, rfl, .inl ⟨sqL_of (s5 _ _ e4), fun t ht => ?_⟩⟩
      refine ⟨_, _, rfl, dp_tuple sqT_new, rp.1, rp.2.1, rp.2.2, ne_same rfl ⟨_, rfl, iteF ?_⟩⟩
      have s6 := same_new (o := .tup ((digs b n).reverse.map V.int)) ht
      generalize upd H5 t (.tup ((digs b n).reverse.map V.int)) = H6 at s6 ⊢
      -- repr(many) != repr(len(due))
      have lgN : (((digs b n).length : Nat) : Int).natAbs.log2 < 1920 := Nat.lt_trans (sm_of (n := (((digs b n).length : Nat) : Int)) (by omega) (by omega)).log (by decide)
      refine ⟨_, rfl, _, rfl, n, b, rfl, n0, hb, sn, sb, fun H7 s7 => ⟨_, rfl, lgN, ?_⟩⟩
      have e7 := s7 _ _ (s6 _ _ (s5 _ _ e4))
      have D7 := ((D4.same s5).same s6).same s7
      refine ⟨_, rfl, p, _, rfl, .inl (sqL_of e7), ?_⟩
      have el : ((((digs b n).reverse.map V.int).length : Nat) : Int) = (((digs b n).length : Nat) : Int) := by rw [List.length_map, List.length_reverse]
      rw [el]
      refine ⟨_, rfl, lgN, ne_same rfl ⟨_, rfl, iteF ?_⟩⟩
      have np : p ∉ [d, l] := w3.deal.fresh hp
      -- ahead
      dsimp only [tNext]
      refine by_set (fun v H' => ∃ k : Int, v = .int k ∧ 0 ≤ k ∧ k ≤ 299 ∧ Drew d l H7 H') (fun Q' kk => ?_) ?_
      · refine ⟨_, rfl, d, l, _, rfl, D7, (by decide), sm_of (by decide) (by decide), fun r H8 r0 r1 w8 => ⟨_, _, rfl, rfl, _, rfl, ite2 (fun _ => ?_) (fun _ => ?_)⟩⟩
        · exact ⟨_, rfl, d, l, _, rfl, w8.deal, (by decide), sm_of (by decide) (by decide), fun k H9 k0 k1 w9 => kk _ _ ⟨k, rfl, k0, by omega, w8.trans w9⟩⟩
        · refine ⟨_, rfl, p, _, rfl, .inl (sqL_of (w8.get np e7)), _, _, rfl, rfl, kk _ _ ⟨_, rfl, ?_, ?_, w8⟩⟩
          · rw [el]; omega
          · rw [el]; omega
      rintro v H8 ⟨k, rfl, k0, k1, w8⟩
      have e8 := w8.get np e7
      -- wide = [0] * ahead + due
      refine ⟨szr rfl, fun y hy => ⟨_, rfl, ?_⟩⟩
      have sw := same_new (o := .lst [.int 0]) hy
      refine ⟨y, k, _, rfl, rfl, upd_same, by omega, by omega, ?_, fun x hx => ?_⟩
      · refine sz ?_
        show 1 * k.toNat ≤ 100000
        omega
      rw [rep_zeros]
      have sx := same_new (o := .lst (List.replicate k.toNat (V.int 0))) hx
      refine ⟨_, rfl, x, p, _, _, rfl, rfl, upd_same, sx _ _ (sw _ _ e8), ?_, fun g hg => ?_⟩
      · rw [List.length_replicate, List.length_map, List.length_reverse]
        exact sz (by omega)
      have D9 := w8.deal.same (sw.trans sx)
      generalize upd (upd H8 y (.lst [.int 0])) x (.lst (List.replicate k.toNat (V.int 0))) = H9 at sx hg D9 ⊢
      have ng : g ∉ [d, l] := D9.fresh hg
      have ew : (List.replicate k.toNat (V.int 0) ++ (digs b n).reverse.map V.int) = (List.replicate k.toNat 0 ++ (digs b n).reverse).map V.int := by rw [List.map_append, List.map_replicate]
      rw [ew]
      have inw : InB b (List.replicate k.toNat 0 ++ (digs b n).reverse) := by
        refine InB.append (fun z hz => ?_) inr
        rw [List.eq_of_mem_replicate hz]
        omega
      have lw : 0 < (List.replicate k.toNat 0 ++ (digs b n).reverse).length ∧ (List.replicate k.toNat 0 ++ (digs b n).reverse).length ≤ 1000 := by
        have : (digs b n).length ≠ 0 := fun z => digs_ne hb n0 (List.length_eq_zero_iff.mp z)
        rw [List.length_append, List.length_replicate, List.length_reverse]
        omega
      have nz : List.replicate k.toNat 0 ++ (digs b n).reverse ≠ [] := fun z => by
        rw [z] at lw
        exact absurd lw.1 (by decide)
      have ov : ofs b (List.replicate k.toNat 0 ++ (digs b n).reverse) = n := by rw [ofs_wide, ofs_digs hb n0]
      have smw := sm_wide k.toNat (ofs_smB hb inr (by
        rw [List.length_reverse]
        have : (10 : Int) ^ 90 ≤ 10 ^ 250 := by decide +kernel
        omega))
      have sg := same_new (o := .lst ((List.replicate k.toNat 0 ++ (digs b n).reverse).map V.int)) hg
      have eg : upd H9 g (.lst ((List.replicate k.toNat 0 ++ (digs b n).reverse).map V.int)) g = some (.lst ((List.replicate k.toNat 0 ++ (digs b n).reverse).map V.int)) := upd_same
      have D10 := D9.same sg
      generalize upd H9 g (.lst ((List.replicate k.toNat 0 ++ (digs b n).reverse).map V.int)) = H10 at sg eg D10 ⊢
      generalize List.replicate k.toNat 0 ++ (digs b n).reverse = ws at inw lw nz ov smw eg sg ⊢
      -- kept = list(wide)
      refine ⟨_, rfl, g, _, rfl, .inl (sqL_of eg), fun c hc => ?_⟩
      have sc := same_new (o := .lst (ws.map V.int)) hc
      have ec : upd H10 c (.lst (ws.map V.int)) c = some (.lst (ws.map V.int)) := upd_same
      have D11 := D10.same sc
      have eg1 := sc _ _ eg
      generalize upd H10 c (.lst (ws.map V.int)) = H11 at sc ec D11 eg1 ⊢
      -- repr(number_of(wide)) != repr(number) or repr(number_of(tuple(wide))) != repr(number)
      have lgn : n.natAbs.log2 < 1920 := Nat.lt_trans sn.log (by decide)
      refine ⟨_, rfl, _, rfl, g, ws, b, rfl, .inl eg1, nz, inw, hb, sb, smw, fun H12 s12 => ?_⟩
      rw [ov]
      refine ⟨_, rfl, lgn, _, rfl, _, rfl, lgn, ne_same rfl ⟨_, rfl, iteF ?_⟩⟩
      have eg2 := s12 _ _ eg1
      refine ⟨_, rfl, g, _, rfl, .inl ⟨sqL_of eg2, fun t2 ht2 => ?_⟩⟩
      have st := same_new (o := .tup (ws.map V.int)) ht2
      refine ⟨_, rfl, t2, ws, b, rfl, .inr upd_same, nz, inw, hb, sb, smw, fun H13 s13 => ?_⟩
      rw [ov]
      refine ⟨_, rfl, lgn, _, rfl, _, rfl, lgn, ne_same rfl ⟨_, rfl, iteF ?_⟩⟩
      have eg3 := s13 _ _ (st _ _ eg2)
      have ec3 := s13 _ _ (st _ _ (s12 _ _ ec))
      have D13 := ((D11.same s12).same st).same s13
      -- wide != kept or not bad_right
      refine ⟨_, rfl, _, rfl, g, c, ws, ws, rfl, rfl, sqL_of eg3, sqL_of ec3, _, rfl, ?_⟩
      rw [decide_eq_true (rfl : ws = ws)]
      refine iteF ?_
      refine ⟨_, rfl, _, rfl, _, rfl, d, l, g, ws, b, rfl, D13, eg3, ng, inw, lw.1, lw.2, hb, hb2, fun H14 w14 => ?_⟩
      exact ⟨_, rfl, iteF ⟨_, _, _, _, _, _, _, rfl, w14.deal⟩⟩
    · rintro σ H' ⟨v2, v3, v4, v5, v6, v7, v8, rfl, D1⟩
      have s2 : Sm 2 := sm_of (by decide) (by decide)
      have s0 : Sm 0 := sm_of (by decide) (by decide)
      have d2 : digs 2 0 = [0] := by decide +kernel
      -- figures_of(0, 2) == (0,)
      refine ⟨0, 2, rfl, by decide, by decide, s0, s2, fun p H1 s1 hp e1 => ?_⟩
      rw [d2] at e1
      refine ⟨szr rfl, fun t ht => ⟨p, t, [0], [0], rfl, rfl, sqT_of (same_new ht _ _ e1), sqT_new, _, rfl, ?_⟩⟩
      rw [decide_eq_true (rfl : ([0] : List Int) = [0])]
      refine iteT ?_
      -- number_of([0, 0], 2) == 0
      refine ⟨szr rfl, fun u hu => ⟨u, [0, 0], 2, rfl, .inl upd_same, by decide, ?_, by decide, s2, ?_, fun H2 s2 => ?_⟩⟩
      · intro z hz
        simp only [List.mem_cons, List.not_mem_nil, or_false, or_self] at hz
        subst hz
        decide
      · intro i hi
        match i, hi with
        | 0, _ => exact s0
        | 1, _ => exact s0
        | 2, _ => exact s0
      dsimp only [tC]
      refine eq_int ?_ ⟨_, rfl, iteT ?_⟩
      · decide +kernel
      -- many(0, 10 ** 30) == 1
      have d3 : digs (10 ^ 30) 0 = [0] := by decide +kernel
      refine ⟨_, _, rfl, rfl, ⟨by decide, by decide, by decide⟩, 0, _, rfl, by decide, by decide, s0, sm_of (by decide) (by decide), fun H3 s3 => ?_⟩
      dsimp only [tC]
      refine eq_int ?_ (q _)
      show (((digs (10 ^ 30) 0).length : Nat) : Int) = 1
      rw [d3]
      rfl

end
theorem all_mk {l : PySem.W.OpenLaw} {w : World} {K : PySem.W.Frag} {h : Heap} {mg : Str → Option Value} {fa : Addr} (X : K.In h) (G : h.Ns mainGlobals mg) (hfa : mg "law" = some (.ref fa))
    {f0 : Addr} {od0 an0 : Option Addr} {sl0 : Array (Option Value)} {oc0 kV0 dc0 pm0 cd0 ct0 : Value}
    {f1 : Addr} {od1 an1 : Option Addr} {sl1 : Array (Option Value)} {oc1 kV1 dc1 pm1 cd1 ct1 : Value}
    {f2 : Addr} {od2 an2 : Option Addr} {sl2 : Array (Option Value)} {oc2 kV2 dc2 pm2 cd2 ct2 : Value}
    {f3 : Addr} {od3 an3 : Option Addr} {sl3 : Array (Option Value)} {oc3 kV3 dc3 pm3 cd3 ct3 : Value}
    {f4 : Addr} {od4 an4 : Option Addr} {sl4 : Array (Option Value)} {oc4 kV4 dc4 pm4 cd4 ct4 : Value}
    {f5 : Addr} {od5 an5 : Option Addr} {sl5 : Array (Option Value)} {oc5 kV5 dc5 pm5 cd5 ct5 : Value}
    {f6 : Addr} {od6 an6 : Option Addr} {sl6 : Array (Option Value)} {oc6 kV6 dc6 pm6 cd6 ct6 : Value}
    {f7 : Addr} {od7 an7 : Option Addr} {sl7 : Array (Option Value)} {oc7 kV7 dc7 pm7 cd7 ct7 : Value}
    {f8 : Addr} {od8 an8 : Option Addr} {sl8 : Array (Option Value)} {oc8 kV8 dc8 pm8 cd8 ct8 : Value}
    {f9 : Addr} {od9 an9 : Option Addr} {sl9 : Array (Option Value)} {oc9 kV9 dc9 pm9 cd9 ct9 : Value}
    {f10 : Addr} {od10 an10 : Option Addr} {sl10 : Array (Option Value)} {oc10 kV10 dc10 pm10 cd10 ct10 : Value}
    {f11 : Addr} {od11 an11 : Option Addr} {sl11 : Array (Option Value)} {oc11 kV11 dc11 pm11 cd11 ct11 : Value}
    {f12 : Addr} {od12 an12 : Option Addr} {sl12 : Array (Option Value)} {oc12 kV12 dc12 pm12 cd12 ct12 : Value}
    {f13 : Addr} {od13 an13 : Option Addr} {sl13 : Array (Option Value)} {oc13 kV13 dc13 pm13 cd13 ct13 : Value}
    {f14 : Addr} {od14 an14 : Option Addr} {sl14 : Array (Option Value)} {oc14 kV14 dc14 pm14 cd14 ct14 : Value}
    {f15 : Addr} {od15 an15 : Option Addr} {sl15 : Array (Option Value)} {oc15 kV15 dc15 pm15 cd15 ct15 : Value}
    {f16 : Addr} {od16 an16 : Option Addr} {sl16 : Array (Option Value)} {oc16 kV16 dc16 pm16 cd16 ct16 : Value}
    {f17 : Addr} {od17 an17 : Option Addr} {sl17 : Array (Option Value)} {oc17 kV17 dc17 pm17 cd17 ct17 : Value}
    {f18 : Addr} {od18 an18 : Option Addr} {sl18 : Array (Option Value)} {oc18 kV18 dc18 pm18 cd18 ct18 : Value}
    {tk0 : Tok}
    {C0 : Addr}
    {C1 : Addr}
    {C2 : Addr}
    {C3 : Addr}
    {I3 : Addr} {nm3 q3 : Str} {N3 : Addr} {bs3 bm3 : List Value} {sn3 : List Str} {su3 : List Value} {ab3 : Bool} {col3 : Option Bool} {dd3 : Option Addr} {m03 m13 m23 m33 m53 : Option Value} {xoc3 : Value} {xod3 : Option Addr} {xdc3 xpm3 : Value} {xan3 : Option Addr} {cda3 : Addr} {xct3 : Value} {cc3 : Addr} {xsl3 : Array (Option Value)} {ccl3 : Value} {cdd3 : Option Addr} {vs3 : Array Value} {ccs3 : Array (Option Value)} {file3 : Str} {tf3 : Tok} {cl3 : Value} {cld3 : Option Addr} {csl3 : Array (Option Value)}
    (a0 : PySem.W.nsIn K mainGlobals "is_integer" = some (some (.ref f0)))
    (l0 : K.lookup f0 = some ⟨oc0, od0, .func (PySem.W.fnOf "is_integer" "is_integer" (defArgs s_is_integer) (defBody s_is_integer) (defScope s_is_integer) .none kV0 dc0 pm0 an0 cd0 ct0), sl0⟩)
    (c0 : PySem.W.codeIn K cd0 "is_integer" = true)
    (k0 : PySem.W.keepIn K (.ref f0) = true)
    (a1 : PySem.W.nsIn K mainGlobals "is_number" = some (some (.ref f1)))
    (l1 : K.lookup f1 = some ⟨oc1, od1, .func (PySem.W.fnOf "is_number" "is_number" (defArgs s_is_number) (defBody s_is_number) (defScope s_is_number) .none kV1 dc1 pm1 an1 cd1 ct1), sl1⟩)
    (c1 : PySem.W.codeIn K cd1 "is_number" = true)
    (k1 : PySem.W.keepIn K (.ref f1) = true)
    (a2 : PySem.W.nsIn K mainGlobals "is_base" = some (some (.ref f2)))
    (l2 : K.lookup f2 = some ⟨oc2, od2, .func (PySem.W.fnOf "is_base" "is_base" (defArgs s_is_base) (defBody s_is_base) (defScope s_is_base) .none kV2 dc2 pm2 an2 cd2 ct2), sl2⟩)
    (c2 : PySem.W.codeIn K cd2 "is_base" = true)
    (k2 : PySem.W.keepIn K (.ref f2) = true)
    (a3 : PySem.W.nsIn K mainGlobals "need_base" = some (some (.ref f3)))
    (l3 : K.lookup f3 = some ⟨oc3, od3, .func (PySem.W.fnOf "need_base" "need_base" (defArgs s_need_base) (defBody s_need_base) (defScope s_need_base) .none kV3 dc3 pm3 an3 cd3 ct3), sl3⟩)
    (c3 : PySem.W.codeIn K cd3 "need_base" = true)
    (k3 : PySem.W.keepIn K (.ref f3) = true)
    (a4 : PySem.W.nsIn K mainGlobals "need_numbers" = some (some (.ref f4)))
    (l4 : K.lookup f4 = some ⟨oc4, od4, .func (PySem.W.fnOf "need_numbers" "need_numbers" (defArgs s_need_numbers) (defBody s_need_numbers) (defScope s_need_numbers) .none kV4 dc4 pm4 an4 cd4 ct4), sl4⟩)
    (c4 : PySem.W.codeIn K cd4 "need_numbers" = true)
    (k4 : PySem.W.keepIn K (.ref f4) = true)
    (a5 : PySem.W.nsIn K mainGlobals "figures_of" = some (some (.ref f5)))
    (l5 : K.lookup f5 = some ⟨oc5, od5, .func (PySem.W.fnOf "figures_of" "figures_of" (defArgs s_figures_of) (defBody s_figures_of) (defScope s_figures_of) .none kV5 dc5 pm5 an5 cd5 ct5), sl5⟩)
    (c5 : PySem.W.codeIn K cd5 "figures_of" = true)
    (k5 : PySem.W.keepIn K (.ref f5) = true)
    (a6 : PySem.W.nsIn K mainGlobals "put_together" = some (some (.ref f6)))
    (l6 : K.lookup f6 = some ⟨oc6, od6, .func (PySem.W.fnOf "put_together" "put_together" (defArgs s_put_together) (defBody s_put_together) (defScope s_put_together) .none kV6 dc6 pm6 an6 cd6 ct6), sl6⟩)
    (c6 : PySem.W.codeIn K cd6 "put_together" = true)
    (k6 : PySem.W.keepIn K (.ref f6) = true)
    (a7 : PySem.W.nsIn K mainGlobals "number_of" = some (some (.ref f7)))
    (l7 : K.lookup f7 = some ⟨oc7, od7, .func (PySem.W.fnOf "number_of" "number_of" (defArgs s_number_of) (defBody s_number_of) (defScope s_number_of) .none kV7 dc7 pm7 an7 cd7 ct7), sl7⟩)
    (c7 : PySem.W.codeIn K cd7 "number_of" = true)
    (k7 : PySem.W.keepIn K (.ref f7) = true)
    (a8 : PySem.W.nsIn K mainGlobals "many" = some (some (.ref f8)))
    (l8 : K.lookup f8 = some ⟨oc8, od8, .func (PySem.W.fnOf "many" "many" (defArgs s_many) (defBody s_many) (defScope s_many) .none kV8 dc8 pm8 an8 cd8 ct8), sl8⟩)
    (c8 : PySem.W.codeIn K cd8 "many" = true)
    (k8 : PySem.W.keepIn K (.ref f8) = true)
    (a9 : PySem.W.nsIn K mainGlobals "_law_deal" = some (some (.ref f9)))
    (l9 : K.lookup f9 = some ⟨oc9, od9, .func (PySem.W.fnOf "_law_deal" "_law_deal" (defArgs s__law_deal) (defBody s__law_deal) (defScope s__law_deal) .none kV9 dc9 pm9 an9 cd9 ct9), sl9⟩)
    (c9 : PySem.W.codeIn K cd9 "_law_deal" = true)
    (k9 : PySem.W.keepIn K (.ref f9) = true)
    (a10 : PySem.W.nsIn K mainGlobals "_law_draw" = some (some (.ref f10)))
    (l10 : K.lookup f10 = some ⟨oc10, od10, .func (PySem.W.fnOf "_law_draw" "_law_draw" (defArgs s__law_draw) (defBody s__law_draw) (defScope s__law_draw) .none kV10 dc10 pm10 an10 cd10 ct10), sl10⟩)
    (c10 : PySem.W.codeIn K cd10 "_law_draw" = true)
    (k10 : PySem.W.keepIn K (.ref f10) = true)
    (a11 : PySem.W.nsIn K mainGlobals "_law_pick" = some (some (.ref f11)))
    (l11 : K.lookup f11 = some ⟨oc11, od11, .func (PySem.W.fnOf "_law_pick" "_law_pick" (defArgs s__law_pick) (defBody s__law_pick) (defScope s__law_pick) .none kV11 dc11 pm11 an11 cd11 ct11), sl11⟩)
    (c11 : PySem.W.codeIn K cd11 "_law_pick" = true)
    (k11 : PySem.W.keepIn K (.ref f11) = true)
    (a12 : PySem.W.nsIn K mainGlobals "_law_base" = some (some (.ref f12)))
    (l12 : K.lookup f12 = some ⟨oc12, od12, .func (PySem.W.fnOf "_law_base" "_law_base" (defArgs s__law_base) (defBody s__law_base) (defScope s__law_base) .none kV12 dc12 pm12 an12 cd12 ct12), sl12⟩)
    (c12 : PySem.W.codeIn K cd12 "_law_base" = true)
    (k12 : PySem.W.keepIn K (.ref f12) = true)
    (a13 : PySem.W.nsIn K mainGlobals "_law_written" = some (some (.ref f13)))
    (l13 : K.lookup f13 = some ⟨oc13, od13, .func (PySem.W.fnOf "_law_written" "_law_written" (defArgs s__law_written) (defBody s__law_written) (defScope s__law_written) .none kV13 dc13 pm13 an13 cd13 ct13), sl13⟩)
    (c13 : PySem.W.codeIn K cd13 "_law_written" = true)
    (k13 : PySem.W.keepIn K (.ref f13) = true)
    (a14 : PySem.W.nsIn K mainGlobals "_law_figures" = some (some (.ref f14)))
    (l14 : K.lookup f14 = some ⟨oc14, od14, .func (PySem.W.fnOf "_law_figures" "_law_figures" (defArgs s__law_figures) (defBody s__law_figures) (defScope s__law_figures) .none kV14 dc14 pm14 an14 cd14 ct14), sl14⟩)
    (c14 : PySem.W.codeIn K cd14 "_law_figures" = true)
    (k14 : PySem.W.keepIn K (.ref f14) = true)
    (a15 : PySem.W.nsIn K mainGlobals "_law_number" = some (some (.ref f15)))
    (l15 : K.lookup f15 = some ⟨oc15, od15, .func (PySem.W.fnOf "_law_number" "_law_number" (defArgs s__law_number) (defBody s__law_number) (defScope s__law_number) .none kV15 dc15 pm15 an15 cd15 ct15), sl15⟩)
    (c15 : PySem.W.codeIn K cd15 "_law_number" = true)
    (k15 : PySem.W.keepIn K (.ref f15) = true)
    (a16 : PySem.W.nsIn K mainGlobals "_law_refused" = some (some (.ref f16)))
    (l16 : K.lookup f16 = some ⟨oc16, od16, .func (PySem.W.fnOf "_law_refused" "_law_refused" (defArgs s__law_refused) (defBody s__law_refused) (defScope s__law_refused) .none kV16 dc16 pm16 an16 cd16 ct16), sl16⟩)
    (c16 : PySem.W.codeIn K cd16 "_law_refused" = true)
    (k16 : PySem.W.keepIn K (.ref f16) = true)
    (a17 : PySem.W.nsIn K mainGlobals "_law_bad_right" = some (some (.ref f17)))
    (l17 : K.lookup f17 = some ⟨oc17, od17, .func (PySem.W.fnOf "_law_bad_right" "_law_bad_right" (defArgs s__law_bad_right) (defBody s__law_bad_right) (defScope s__law_bad_right) .none kV17 dc17 pm17 an17 cd17 ct17), sl17⟩)
    (c17 : PySem.W.codeIn K cd17 "_law_bad_right" = true)
    (k17 : PySem.W.keepIn K (.ref f17) = true)
    (a18 : PySem.W.nsIn K mainGlobals "law" = some (some (.ref f18)))
    (l18 : K.lookup f18 = some ⟨oc18, od18, .func (PySem.W.fnOf "law" "law" (defArgs s_law) (defBody s_law) (defScope s_law) .none kV18 dc18 pm18 an18 cd18 ct18), sl18⟩)
    (c18 : PySem.W.codeIn K cd18 "law" = true)
    (k18 : PySem.W.keepIn K (.ref f18) = true)
    (z0 : PySem.W.nsIn K mainGlobals "isinstance" = some none)
    (z1 : PySem.W.nsIn K mainGlobals "int" = some none)
    (z2 : PySem.W.nsIn K mainGlobals "bool" = some none)
    (z3 : PySem.W.nsIn K mainGlobals "tuple" = some none)
    (z4 : PySem.W.nsIn K mainGlobals "list" = some none)
    (z5 : PySem.W.nsIn K mainGlobals "len" = some none)
    (z6 : PySem.W.nsIn K mainGlobals "enumerate" = some none)
    (z7 : PySem.W.nsIn K mainGlobals "range" = some none)
    (z8 : PySem.W.nsIn K mainGlobals "min" = some none)
    (z9 : PySem.W.nsIn K mainGlobals "max" = some none)
    (z10 : PySem.W.nsIn K mainGlobals "repr" = some none)
    (y0 : PySem.W.nsIn K mainGlobals "LEAST_BASE" = some (some (.int 2 tk0)))
    (gC0 : PySem.W.nsIn K mainGlobals "FigureError" = some (some (.ref C0)))
    (gC1 : PySem.W.nsIn K mainGlobals "InvalidBase" = some (some (.ref C1)))
    (gC2 : PySem.W.nsIn K mainGlobals "InvalidNumber" = some (some (.ref C2)))
    (gC3 : PySem.W.nsIn K mainGlobals "NoFigure" = some (some (.ref C3)))
    (xL3 : K.lookup C3 = some (excClassObj nm3 q3 C3 N3 bs3 bm3 true sn3 su3 ab3 col3 dd3 m03 m13 m23 m33 m53 "ValueError.__new__"))
    (xB3 : HandSPX.refsVE bm3 = true)
    (sa3 : PySem.W.findIn K (.ref C3) "__setattr__" = some (some (.builtin "object.__setattr__")))
    (ga3 : PySem.W.findIn K (.ref C3) "__getattribute__" = some (some (.builtin "BaseException.__getattribute__")))
    (gg3 : PySem.W.findIn K (.ref C3) "__getattr__" = some none)
    (nb3 : PySem.W.findIn K (.ref C3) "at" = some none)
    (iC3 : PySem.W.findIn K (.ref C3) "__init__" = some (some (.ref I3)))
    (ti3 : PySem.W.typeIn K (.ref I3) = some (.type "function"))
    (kC3 : PySem.W.keepIn K (.ref C3) = true)
    (eC3 : PySem.W.subIn K (.ref C3) (.type "BaseException") = some true)
    (vC3 : PySem.W.subIn K (.ref C3) (.type "ValueError") = some true)
    (mC3 : PySem.W.mroIn K C3 (.ref C3) = some true)
    (tC3 : PySem.W.typeIn K (.ref C3) = some (.type "type"))
    (hC3 : PySem.W.hasDictIn K C3 = true)
    (sC3 : PySem.W.subIn K (.ref C3) (.ref C3) = some true)
    (op3 : PySem.W.nsIn K cStatics "thirdparty.any" = some none)
    (up3 : PySem.W.ks_superIn K C3 C3 "__init__" = some (some (.builtin "ValueError.__init__")))
    (zs3 : PySem.W.nsIn K mainGlobals "super" = some none)
    (tp3 : (l.prog.main.scope.names.lookup ("super" : Str)).isSome = false)
    (xl3 : K.lookup I3 = some ⟨xoc3, xod3, .func (PySem.W.ksFn "__init__" "NoFigure.__init__" (defArgs s_NoFigure_init) (defBody s_NoFigure_init) (defScope s_NoFigure_init) .none .none xdc3 xpm3 xan3 (.ref cda3) xct3 cc3), xsl3⟩)
    (xc3 : PySem.W.codeIn K (.ref cda3) "NoFigure.__init__" = true)
    (xd3 : K.lookup cda3 = some ⟨ccl3, cdd3, .fields vs3, ccs3⟩)
    (xv3 : vs3[2]? = some (.str file3 tf3))
    (xf3 : ((l.prog.main.file : Str) == file3) = true)
    (xk3 : K.lookup cc3 = some ⟨cl3, cld3, .cell (some (.ref C3)), csl3⟩)
    (ca3 : PySem.W.findIn K (.ref C3) "__class__" = some (some (.builtin "object.__class__")))
    (cn3 : PySem.W.specialIn K (.builtin "object.__class__") "__get__" = some (some (.builtin "getset_descriptor.__get__")))
    (ctk3 : PySem.W.takesIn K (.builtin "object.__class__") = some true)
    (cm3 : PySem.W.mroIn K C3 (.type "object") = some true)
    (t3_0 : PySem.W.kitOne K (.ref C3) (.ref C0) = some true)
    (t3_1 : PySem.W.kitOne K (.ref C3) (.ref C1) = some false)
    (t3_2 : PySem.W.kitOne K (.ref C3) (.ref C2) = some false)
    (t3_3 : PySem.W.kitOne K (.ref C3) (.ref C3) = some true) :
    ∃ fd : FuncData, (∀ (s : Shared) (v : Value), BindsTo s fd ⟨[v], []⟩ [("_law_script", v)]) ∧ ∀ base : Heap, K.In base → base.Ns mainGlobals mg → Eb.FnG l.prog w K mg base CX0 7 fa fd ["_law_script"] (sp_law K) := by
  obtain rfl : f18 = fa := by
    have e := hfa.symm.trans (PySem.W.mg_of X G a18)
    cases e
    rfl
  have F0 := fun_mk (st := s_is_integer) l0 c0 k0
  have B0 := F0.binds (ps := ["value"]) fun _ _ _ _ _ _ us hl => match us, hl with | [_], _ => rfl
  have F1 := fun_mk (st := s_is_number) l1 c1 k1
  have B1 := F1.binds (ps := ["value"]) fun _ _ _ _ _ _ us hl => match us, hl with | [_], _ => rfl
  have F2 := fun_mk (st := s_is_base) l2 c2 k2
  have B2 := F2.binds (ps := ["value"]) fun _ _ _ _ _ _ us hl => match us, hl with | [_], _ => rfl
  have F3 := fun_mk (st := s_need_base) l3 c3 k3
  have B3 := F3.binds (ps := ["base"]) fun _ _ _ _ _ _ us hl => match us, hl with | [_], _ => rfl
  have F4 := fun_mk (st := s_need_numbers) l4 c4 k4
  have B4 := F4.binds (ps := ["numbers", "base"]) fun _ _ _ _ _ _ us hl => match us, hl with | [_, _], _ => rfl
  have F5 := fun_mk (st := s_figures_of) l5 c5 k5
  have B5 := F5.binds (ps := ["number", "base"]) fun _ _ _ _ _ _ us hl => match us, hl with | [_, _], _ => rfl
  have F6 := fun_mk (st := s_put_together) l6 c6 k6
  have B6 := F6.binds (ps := ["figures", "base"]) fun _ _ _ _ _ _ us hl => match us, hl with | [_, _], _ => rfl
  have F7 := fun_mk (st := s_number_of) l7 c7 k7
  have B7 := F7.binds (ps := ["figures", "base"]) fun _ _ _ _ _ _ us hl => match us, hl with | [_, _], _ => rfl
  have F8 := fun_mk (st := s_many) l8 c8 k8
  have B8 := F8.binds (ps := ["number", "base"]) fun _ _ _ _ _ _ us hl => match us, hl with | [_, _], _ => rfl
  have F9 := fun_mk (st := s__law_deal) l9 c9 k9
  have B9 := F9.binds (ps := ["_law_script", "_law_base_here"]) fun _ _ _ _ _ _ us hl => match us, hl with | [_, _], _ => rfl
  have F10 := fun_mk (st := s__law_draw) l10 c10 k10
  have B10 := F10.binds (ps := ["_law_deal_here", "_law_span"]) fun _ _ _ _ _ _ us hl => match us, hl with | [_, _], _ => rfl
  have F11 := fun_mk (st := s__law_pick) l11 c11 k11
  have B11 := F11.binds (ps := ["_law_deal_here", "_law_some"]) fun _ _ _ _ _ _ us hl => match us, hl with | [_, _], _ => rfl
  have F12 := fun_mk (st := s__law_base) l12 c12 k12
  have B12 := F12.binds (ps := ["_law_deal_here"]) fun _ _ _ _ _ _ us hl => match us, hl with | [_], _ => rfl
  have F13 := fun_mk (st := s__law_written) l13 c13 k13
  have B13 := F13.binds (ps := ["_law_figures_here", "_law_base_here"]) fun _ _ _ _ _ _ us hl => match us, hl with | [_, _], _ => rfl
  have F14 := fun_mk (st := s__law_figures) l14 c14 k14
  have B14 := F14.binds (ps := ["_law_number_here", "_law_base_here"]) fun _ _ _ _ _ _ us hl => match us, hl with | [_, _], _ => rfl
  have F15 := fun_mk (st := s__law_number) l15 c15 k15
  have B15 := F15.binds (ps := ["_law_deal_here", "_law_base_here"]) fun _ _ _ _ _ _ us hl => match us, hl with | [_, _], _ => rfl
  have F16 := fun_mk (st := s__law_refused) l16 c16 k16
  have B16 := F16.binds (ps := ["_law_figures_here", "_law_base_here"]) fun _ _ _ _ _ _ us hl => match us, hl with | [_, _], _ => rfl
  have F17 := fun_mk (st := s__law_bad_right) l17 c17 k17
  have B17 := F17.binds (ps := ["_law_deal_here", "_law_figures_here", "_law_base_here"]) fun _ _ _ _ _ _ us hl => match us, hl with | [_, _, _], _ => rfl
  have F18 := fun_mk (st := s_law) l18 c18 k18
  have B18 := F18.binds (ps := ["_law_script"]) fun _ _ _ _ _ _ us hl => match us, hl with | [_], _ => rfl
  have T : Txt K mg (fun i => match i with | 0 => f0 | 1 => f1 | 2 => f2 | 3 => f3 | 4 => f4 | 5 => f5 | 6 => f6 | 7 => f7 | 8 => f8 | 9 => f9 | 10 => f10 | 11 => f11 | 12 => f12 | 13 => f13 | 14 => f14 | 15 => f15 | 16 => f16 | 17 => f17 | 18 => f18 | _ => 0) (fun i => match i with | 0 => (PySem.W.fnOf "is_integer" "is_integer" (defArgs s_is_integer) (defBody s_is_integer) (defScope s_is_integer) .none kV0 dc0 pm0 an0 cd0 ct0) | 1 => (PySem.W.fnOf "is_number" "is_number" (defArgs s_is_number) (defBody s_is_number) (defScope s_is_number) .none kV1 dc1 pm1 an1 cd1 ct1) | 2 => (PySem.W.fnOf "is_base" "is_base" (defArgs s_is_base) (defBody s_is_base) (defScope s_is_base) .none kV2 dc2 pm2 an2 cd2 ct2) | 3 => (PySem.W.fnOf "need_base" "need_base" (defArgs s_need_base) (defBody s_need_base) (defScope s_need_base) .none kV3 dc3 pm3 an3 cd3 ct3) | 4 => (PySem.W.fnOf "need_numbers" "need_numbers" (defArgs s_need_numbers) (defBody s_need_numbers) (defScope s_need_numbers) .none kV4 dc4 pm4 an4 cd4 ct4) | 5 => (PySem.W.fnOf "figures_of" "figures_of" (defArgs s_figures_of) (defBody s_figures_of) (defScope s_figures_of) .none kV5 dc5 pm5 an5 cd5 ct5) | 6 => (PySem.W.fnOf "put_together" "put_together" (defArgs s_put_together) (defBody s_put_together) (defScope s_put_together) .none kV6 dc6 pm6 an6 cd6 ct6) | 7 => (PySem.W.fnOf "number_of" "number_of" (defArgs s_number_of) (defBody s_number_of) (defScope s_number_of) .none kV7 dc7 pm7 an7 cd7 ct7) | 8 => (PySem.W.fnOf "many" "many" (defArgs s_many) (defBody s_many) (defScope s_many) .none kV8 dc8 pm8 an8 cd8 ct8) | 9 => (PySem.W.fnOf "_law_deal" "_law_deal" (defArgs s__law_deal) (defBody s__law_deal) (defScope s__law_deal) .none kV9 dc9 pm9 an9 cd9 ct9) | 10 => (PySem.W.fnOf "_law_draw" "_law_draw" (defArgs s__law_draw) (defBody s__law_draw) (defScope s__law_draw) .none kV10 dc10 pm10 an10 cd10 ct10) | 11 => (PySem.W.fnOf "_law_pick" "_law_pick" (defArgs s__law_pick) (defBody s__law_pick) (defScope s__law_pick) .none kV11 dc11 pm11 an11 cd11 ct11) | 12 => (PySem.W.fnOf "_law_base" "_law_base" (defArgs s__law_base) (defBody s__law_base) (defScope s__law_base) .none kV12 dc12 pm12 an12 cd12 ct12) | 13 => (PySem.W.fnOf "_law_written" "_law_written" (defArgs s__law_written) (defBody s__law_written) (defScope s__law_written) .none kV13 dc13 pm13 an13 cd13 ct13) | 14 => (PySem.W.fnOf "_law_figures" "_law_figures" (defArgs s__law_figures) (defBody s__law_figures) (defScope s__law_figures) .none kV14 dc14 pm14 an14 cd14 ct14) | 15 => (PySem.W.fnOf "_law_number" "_law_number" (defArgs s__law_number) (defBody s__law_number) (defScope s__law_number) .none kV15 dc15 pm15 an15 cd15 ct15) | 16 => (PySem.W.fnOf "_law_refused" "_law_refused" (defArgs s__law_refused) (defBody s__law_refused) (defScope s__law_refused) .none kV16 dc16 pm16 an16 cd16 ct16) | 17 => (PySem.W.fnOf "_law_bad_right" "_law_bad_right" (defArgs s__law_bad_right) (defBody s__law_bad_right) (defScope s__law_bad_right) .none kV17 dc17 pm17 an17 cd17 ct17) | 18 => (PySem.W.fnOf "law" "law" (defArgs s_law) (defBody s_law) (defScope s_law) .none kV18 dc18 pm18 an18 cd18 ct18) | _ => (PySem.W.fnOf "" "" (defArgs s_law) (defBody s_law) (defScope s_law) .none kV0 dc0 pm0 an0 cd0 ct0)) (fun i => match i with | 0 => C0 | 1 => C1 | 2 => C2 | 3 => C3 | _ => 0) := ⟨F0, B0, (PySem.W.mg_of X G a0), F1, B1, (PySem.W.mg_of X G a1), F2, B2, (PySem.W.mg_of X G a2), F3, B3, (PySem.W.mg_of X G a3), F4, B4, (PySem.W.mg_of X G a4), F5, B5, (PySem.W.mg_of X G a5), F6, B6, (PySem.W.mg_of X G a6), F7, B7, (PySem.W.mg_of X G a7), F8, B8, (PySem.W.mg_of X G a8), F9, B9, (PySem.W.mg_of X G a9), F10, B10, (PySem.W.mg_of X G a10), F11, B11, (PySem.W.mg_of X G a11), F12, B12, (PySem.W.mg_of X G a12), F13, B13, (PySem.W.mg_of X G a13), F14, B14, (PySem.W.mg_of X G a14), F15, B15, (PySem.W.mg_of X G a15), F16, B16, (PySem.W.mg_of X G a16), F17, B17, (PySem.W.mg_of X G a17), F18, B18, (PySem.W.mg_of X G a18), (PySem.W.mg_none_of X G z0), (PySem.W.mg_none_of X G z1), (PySem.W.mg_none_of X G z2), (PySem.W.mg_none_of X G z3), (PySem.W.mg_none_of X G z4), (PySem.W.mg_none_of X G z5), (PySem.W.mg_none_of X G z6), (PySem.W.mg_none_of X G z7), (PySem.W.mg_none_of X G z8), (PySem.W.mg_none_of X G z9), (PySem.W.mg_none_of X G z10), ⟨_, PySem.W.mg_of X G y0, ⟨_, rfl⟩⟩⟩
  have Z : Exs l.prog K mg (fun i => match i with | 0 => C0 | 1 => C1 | 2 => C2 | 3 => C3 | _ => 0) (fun i => match i with | 3 => I3 | _ => 0) := ⟨(PySem.W.mg_of X G gC0), (PySem.W.mg_of X G gC1), (PySem.W.mg_of X G gC2), (PySem.W.mg_of X G gC3), { gC := PySem.W.mg_of X G gC3, cls := ⟨nm3, q3, N3, bs3, bm3, sn3, su3, ab3, col3, dd3, m03, m13, m23, m33, m53, xL3, xB3⟩, sa := sa3, ga := ga3, gg := gg3, noN := nb3, iC := iC3, tC := ti3, kC := kC3, exC := eC3, veC := vC3, slf := mC3, tyC := tC3, hdC := hC3, te := PySem.W.exm_ref eC3 hC3 tC3 sC3, opq := op3, sup := up3, nsu := PySem.W.mg_none_of X G zs3, top := tp3, fn := ⟨"NoFigure.__init__", defArgs s_NoFigure_init, defBody s_NoFigure_init, (defScope s_NoFigure_init).names, (defScope s_NoFigure_init).more, xoc3, xod3, xdc3, xpm3, xan3, cda3, xct3, cc3, xsl3, ccl3, cdd3, vs3, ccs3, file3, tf3, cl3, cld3, csl3, sd_NoFigure, xl3, xc3, xd3, xv3, xf3, xk3⟩ }, ⟨ga3, gg3, eC3, hC3, ca3, cn3, ctk3, cm3⟩, t3_0, t3_1, t3_2, t3_3⟩
  exact ⟨_, fun s v => .of_eq rfl, fun base _ _ => okg_law T Z⟩
end K02
open PySem PySem.W PyProof.Rows
set_option maxRecDepth 100000 in
set_option maxHeartbeats 0 in
theorem PySem.Challenge.cw_everybase_k02_figures_and_numbers_holds : PySem.Challenge.rw_everybase_k02_figures_and_numbers.Holds := by
  w_on; o_law; k_head; (case hw => w_witness2)
  k_fill
  refine Eb.walk_g (l := PySem.Challenge.rw_everybase_k02_figures_and_numbers) (n := 63) (k := 7) (x := "_law_script") (sp := fun w => K02.sp_law _) rfl (by decide) rfl ⟨rfl, by decide, by decide⟩ (fun w h Y => PySem.W.kIn_of Y) ?F (fun _ _ a ns hl hS => ⟨a, ns, rfl, hS, hl, fun _ => rfl⟩)
  case F =>
    intro w mg fa h KX G hmg
    refine' K02.all_mk KX G hmg ?a0 ?l0 ?c0 ?k0 ?a1 ?l1 ?c1 ?k1 ?a2 ?l2 ?c2 ?k2 ?a3 ?l3 ?c3 ?k3 ?a4 ?l4 ?c4 ?k4 ?a5 ?l5 ?c5 ?k5 ?a6 ?l6 ?c6 ?k6 ?a7 ?l7 ?c7 ?k7 ?a8 ?l8 ?c8 ?k8 ?a9 ?l9 ?c9 ?k9 ?a10 ?l10 ?c10 ?k10 ?a11 ?l11 ?c11 ?k11 ?a12 ?l12 ?c12 ?k12 ?a13 ?l13 ?c13 ?k13 ?a14 ?l14 ?c14 ?k14 ?a15 ?l15 ?c15 ?k15 ?a16 ?l16 ?c16 ?k16 ?a17 ?l17 ?c17 ?k17 ?a18 ?l18 ?c18 ?k18 ?z0 ?z1 ?z2 ?z3 ?z4 ?z5 ?z6 ?z7 ?z8 ?z9 ?z10 ?y0 ?gC0 ?gC1 ?gC2 ?gC3 ?xL3 ?xB3 ?sa3 ?ga3 ?gg3 ?nb3 ?iC3 ?ti3 ?kC3 ?eC3 ?vC3 ?mC3 ?tC3 ?hC3 ?sC3 ?op3 ?up3 ?zs3 ?tp3 ?xl3 ?xc3 ?xd3 ?xv3 ?xf3 ?xk3 ?ca3 ?cn3 ?ctk3 ?cm3 ?t3_0 ?t3_1 ?t3_2 ?t3_3
    (case a0 => k_is)
    (case l0 => k_is)
    (case c0 => k_is)
    (case k0 => k_is)
    (case a1 => k_is)
    (case l1 => k_is)
    (case c1 => k_is)
    (case k1 => k_is)
    (case a2 => k_is)
    (case l2 => k_is)
    (case c2 => k_is)
    (case k2 => k_is)
    (case a3 => k_is)
    (case l3 => k_is)
    (case c3 => k_is)
    (case k3 => k_is)
    (case a4 => k_is)
    (case l4 => k_is)
    (case c4 => k_is)
    (case k4 => k_is)
    (case a5 => k_is)
    (case l5 => k_is)
    (case c5 => k_is)
    (case k5 => k_is)
    (case a6 => k_is)
    (case l6 => k_is)
    (case c6 => k_is)
    (case k6 => k_is)
    (case a7 => k_is)
    (case l7 => k_is)
    (case c7 => k_is)
    (case k7 => k_is)
    (case a8 => k_is)
    (case l8 => k_is)
    (case c8 => k_is)
    (case k8 => k_is)
    (case a9 => k_is)
    (case l9 => k_is)
    (case c9 => k_is)
    (case k9 => k_is)
    (case a10 => k_is)
    (case l10 => k_is)
    (case c10 => k_is)
    (case k10 => k_is)
    (case a11 => k_is)
    (case l11 => k_is)
    (case c11 => k_is)
    (case k11 => k_is)
    (case a12 => k_is)
    (case l12 => k_is)
    (case c12 => k_is)
    (case k12 => k_is)
    (case a13 => k_is)
    (case l13 => k_is)
    (case c13 => k_is)
    (case k13 => k_is)
    (case a14 => k_is)
    (case l14 => k_is)
    (case c14 => k_is)
    (case k14 => k_is)
    (case a15 => k_is)
    (case l15 => k_is)
    (case c15 => k_is)
    (case k15 => k_is)
    (case a16 => k_is)
    (case l16 => k_is)
    (case c16 => k_is)
    (case k16 => k_is)
    (case a17 => k_is)
    (case l17 => k_is)
    (case c17 => k_is)
    (case k17 => k_is)
    (case a18 => k_is)
    (case l18 => k_is)
    (case c18 => k_is)
    (case k18 => k_is)
    (case z0 => k_is)
    (case z1 => k_is)
    (case z2 => k_is)
    (case z3 => k_is)
    (case z4 => k_is)
    (case z5 => k_is)
    (case z6 => k_is)
    (case z7 => k_is)
    (case z8 => k_is)
    (case z9 => k_is)
    (case z10 => k_is)
    (case y0 => k_is)
    (case gC0 => k_is)
    (case gC1 => k_is)
    (case gC2 => k_is)
    (case gC3 => k_is)
    (case xL3 => k_is)
    (case xB3 => decide +kernel)
    (case sa3 => k_is)
    (case ga3 => k_is)
    (case gg3 => k_is)
    (case nb3 => k_is)
    (case iC3 => k_is)
    (case ti3 => k_is)
    (case kC3 => k_is)
    (case eC3 => k_is)
    (case vC3 => k_is)
    (case mC3 => k_is)
    (case tC3 => k_is)
    (case hC3 => k_is)
    (case sC3 => first | rfl | k_is)
    (case op3 => k_is)
    (case up3 => ks_is)
    (case zs3 => k_is)
    (case tp3 => decide +kernel)
    (case xl3 => k_is)
    (case xc3 => k_is)
    (case xd3 => k_is)
    (case xv3 => rfl)
    (case xf3 => decide +kernel)
    (case xk3 => k_is)
    (case ca3 => k_is)
    (case cn3 => k_is)
    (case ctk3 => k_is)
    (case cm3 => k_is)
    (case t3_0 => kit_is)
    (case t3_1 => kit_is)
    (case t3_2 => kit_is)
    (case t3_3 => kit_is)
