import PyProof.Rows.All
import Wide.All
import OpenK.AllK
import Wide.FinOn
import HandS.ForMost
import HandS.Zip
import HandS.TupLe
import HandS.Evl
import KE.KEqDeep
import PySem.Challenge.RW_ebbkeep_k10_whole_shares_are_checked
set_option Elab.async false
set_option linter.all false
set_option maxRecDepth 100000
set_option maxHeartbeats 4000000
/-! The mathematics of shares: what is accepted is one list alone, and the giving machine by machine ends in an accepted one. Plain Lean. -/
namespace Eb

/-- the item at a place (0 beyond the end) -/
def at' (l : List Int) (i : Nat) : Int := l.getD i 0

theorem at_get {l : List Int} {i : Nat} (h : i < l.length) : l[i]? = some (at' l i) := by
  unfold at'
  rw [List.getD_eq_getElem?_getD, List.getElem?_eq_getElem h]
  rfl
theorem at_some {l : List Int} {i : Nat} {x : Int} (h : l[i]? = some x) : at' l i = x := by
  unfold at'
  rw [List.getD_eq_getElem?_getD, h]
  rfl
theorem at_zero (x : Int) (l : List Int) : at' (x :: l) 0 = x := rfl
theorem at_succ (x : Int) (l : List Int) (i : Nat) : at' (x :: l) (i + 1) = at' l i := by
  simp [at']

theorem ext_at : ∀ {g h : List Int}, g.length = h.length → (∀ i, i < g.length → at' g i = at' h i) → g = h
  | [], [], _, _ => rfl
  | [], y :: h, e, _ => by simp at e
  | x :: g, [], e, _ => by simp at e
  | x :: g, y :: h, e, k => by
    have e0 : x = y := k 0 (by simp)
    have e1 : g = h := ext_at (by simpa using e) (fun i hi => by
      have := k (i + 1) (by simpa using hi)
      rwa [at_succ, at_succ] at this)
    rw [e0, e1]

theorem sum_le : ∀ {g h : List Int}, g.length = h.length → (∀ i, i < g.length → at' g i ≤ at' h i) → g.sum ≤ h.sum ∧ (g.sum = h.sum → g = h)
  | [], [], _, _ => ⟨Int.le_refl _, fun _ => rfl⟩
  | [], y :: h, e, _ => by simp at e
  | x :: g, [], e, _ => by simp at e
  | x :: g, y :: h, e, k => by
    have e0 : x ≤ y := k 0 (by simp)
    obtain ⟨i1, i2⟩ := sum_le (g := g) (h := h) (by simpa using e) (fun i hi => by
      have := k (i + 1) (by simpa using hi)
      rwa [at_succ, at_succ] at this)
    rw [List.sum_cons, List.sum_cons]
    refine ⟨by omega, fun q => ?_⟩
    have a : x = y := by omega
    rw [a, i2 (by omega)]

theorem some_less {g h : List Int} (e : g.length = h.length) (s : g.sum = h.sum) (n : g ≠ h) : ∃ a, a < g.length ∧ at' g a < at' h a := by
  refine Classical.byContradiction fun q => n ?_
  have k : ∀ i, i < h.length → at' h i ≤ at' g i := fun i hi => by
    refine Classical.byContradiction fun z => q ⟨i, by omega, by omega⟩
  exact ((sum_le e.symm k).2 s.symm).symm

/-- no claim of a to a machine of b -/
def Fair (w u g : List Int) (a b : Nat) : Prop :=
  a ≠ b → at' g a < at' w a → 1 ≤ at' g b → ((at' g b - 1) * at' u a < at' g a * at' u b ∨ ((at' g b - 1) * at' u a = at' g a * at' u b ∧ b < a))

structure Acc (q : Int) (w u g : List Int) : Prop where
  len : g.length = w.length
  rng : ∀ i, i < w.length → 0 ≤ at' g i ∧ at' g i ≤ at' w i
  le : g.sum ≤ q
  full : g.sum < q → g = w
  fair : ∀ a b, a < w.length → b < w.length → Fair w u g a b

theorem acc_sum {q : Int} {w u g h : List Int} (A : Acc q w u g) (B : Acc q w u h) : g.sum = h.sum := by
  have l1 := (sum_le (A.len) (fun i hi => (A.rng i (by rw [← A.len]; exact hi)).2)).1
  have l2 := (sum_le (B.len) (fun i hi => (B.rng i (by rw [← B.len]; exact hi)).2)).1
  have a1 := A.le
  have b1 := B.le
  by_cases ha : g.sum < q
  · have e := A.full ha
    by_cases hb : h.sum < q
    · rw [e, B.full hb]
    · rw [e] at ha
      omega
  · by_cases hb : h.sum < q
    · have e := B.full hb
      rw [e] at hb
      omega
    · omega

/-- what is accepted is one list alone -/
theorem acc_unique {q : Int} {w u g h : List Int} (hu : ∀ i, i < w.length → 0 < at' u i) (A : Acc q w u g) (B : Acc q w u h) : g = h := by
  refine Classical.byContradiction fun n => ?_
  have le : g.length = h.length := A.len.trans B.len.symm
  have s := acc_sum A B
  obtain ⟨a, ha, la⟩ := some_less le s n
  obtain ⟨b, hb, lb⟩ := some_less le.symm s.symm (Ne.symm n)
  have haw : a < w.length := by rw [← A.len]; exact ha
  have hbw : b < w.length := by rw [← B.len]; exact hb
  have nab : a ≠ b := fun e => by
    subst e
    omega
  have ua := hu a haw
  have ub := hu b hbw
  have f1 := A.fair a b haw hbw nab (by have := (B.rng a haw).2; omega) (by have := (B.rng b hbw).1; omega)
  have f2 := B.fair b a hbw haw (Ne.symm nab) (by have := (A.rng b hbw).2; omega) (by have := (A.rng a haw).1; omega)
  -- h_b ≤ g_b - 1, g_a ≤ h_a - 1
  have m1 : at' h b * at' u a ≤ (at' g b - 1) * at' u a := Int.mul_le_mul_of_nonneg_right (by omega) (by omega)
  have m2 : at' g a * at' u b ≤ (at' h a - 1) * at' u b := Int.mul_le_mul_of_nonneg_right (by omega) (by omega)
  rcases f1 with f1 | ⟨f1, o1⟩
  · rcases f2 with f2 | ⟨f2, o2⟩ <;> omega
  · rcases f2 with f2 | ⟨f2, o2⟩ <;> omega

/-- b comes before a -/
def Before (g u : List Int) (b a : Nat) : Prop := at' g b * at' u a < at' g a * at' u b ∨ (at' g b * at' u a = at' g a * at' u b ∧ b < a)

/-- the best among the first i: none yet (-1), or the place of one that comes before all others that want -/
def Best (w u g : List Int) (i : Nat) (z : Int) : Prop :=
  (z = -1 ∧ ∀ a, a < i → at' w a ≤ at' g a) ∨ ∃ b : Nat, z = (b : Int) ∧ b < i ∧ at' g b < at' w b ∧ ∀ a, a < i → at' g a < at' w a → a ≠ b → Before g u b a

theorem best_zero (w u g : List Int) : Best w u g 0 (-1) := .inl ⟨rfl, fun a h => by omega⟩
theorem best_full {w u g : List Int} {i : Nat} {z : Int} (h : Best w u g i z) (k : at' w i ≤ at' g i) : Best w u g (i + 1) z := by
  rcases h with ⟨e, f⟩ | ⟨b, e, l, wb, f⟩
  · refine .inl ⟨e, fun a ha => ?_⟩
    by_cases q : a = i
    · rw [q]; exact k
    · exact f a (by omega)
  · refine .inr ⟨b, e, by omega, wb, fun a ha wa n => ?_⟩
    by_cases q : a = i
    · rw [q] at wa; omega
    · exact f a (by omega) wa n
theorem best_first {w u g : List Int} {i : Nat} {z : Int} (h : Best w u g i z) (hz : z < 0) (k : at' g i < at' w i) : Best w u g (i + 1) (i : Int) := by
  rcases h with ⟨e, f⟩ | ⟨b, e, l, wb, f⟩
  · refine .inr ⟨i, rfl, by omega, k, fun a ha wa n => ?_⟩
    have := f a (by omega)
    omega
  · omega
/-- fractions: x/p < y/r, y/r ≤ z/s: x/p < z/s -/
theorem frac_lt {x y z p r s : Int} (hp : 0 < p) (hr : 0 < r) (hs : 0 < s) (h1 : x * r < y * p) (h2 : y * s ≤ z * r) : x * s < z * p := by
  have a1 : x * r * s < y * p * s := Int.mul_lt_mul_of_pos_right h1 hs
  have a2 : y * s * p ≤ z * r * p := Int.mul_le_mul_of_nonneg_right h2 (by omega)
  have e1 : x * r * s = (x * s) * r := by rw [Int.mul_assoc, Int.mul_comm r s, ← Int.mul_assoc]
  have e2 : y * p * s = y * s * p := by rw [Int.mul_assoc, Int.mul_comm p s, ← Int.mul_assoc]
  have e3 : z * r * p = (z * p) * r := by rw [Int.mul_assoc, Int.mul_comm r p, ← Int.mul_assoc]
  have a3 : (x * s) * r < (z * p) * r := by omega
  exact Int.lt_of_mul_lt_mul_right a3 (by omega)
theorem best_new {w u g : List Int} {i b : Nat} (hu : ∀ j, j ≤ i → 0 < at' u j) (h : Best w u g i (b : Int)) (k : at' g i < at' w i) (c : at' g i * at' u b < at' g b * at' u i) : Best w u g (i + 1) (i : Int) := by
  rcases h with ⟨e, f⟩ | ⟨b', e, l, wb, f⟩
  · omega
  · have eb : b = b' := by omega
    subst eb
    refine .inr ⟨i, rfl, by omega, k, fun a ha wa n => ?_⟩
    by_cases q : a = b
    · rw [q]; exact .inl c
    · have bf := f a (by omega) wa q
      refine .inl (frac_lt (hu i (Nat.le_refl _)) (hu b (by omega)) (hu a (by omega)) c ?_)
      rcases bf with bf | ⟨bf, _⟩ <;> omega
theorem best_old {w u g : List Int} {i b : Nat} (h : Best w u g i (b : Int)) (c : ¬ at' g i * at' u b < at' g b * at' u i) : Best w u g (i + 1) (b : Int) := by
  rcases h with ⟨e, f⟩ | ⟨b', e, l, wb, f⟩
  · omega
  · have eb : b = b' := by omega
    subst eb
    refine .inr ⟨b, rfl, by omega, wb, fun a ha wa n => ?_⟩
    by_cases q : a = i
    · rw [q]
      by_cases z : at' g b * at' u i = at' g i * at' u b
      · exact .inr ⟨z, l⟩
      · exact .inl (by omega)
    · exact f a (by omega) wa n

/-- behind k turns of the giving -/
structure Giv (k : Int) (w u g : List Int) : Prop where
  len : g.length = w.length
  rng : ∀ i, i < w.length → 0 ≤ at' g i ∧ at' g i ≤ at' w i
  sum : g.sum = k
  fair : ∀ a b, a < w.length → b < w.length → Fair w u g a b

theorem at_set_same {g : List Int} {b : Nat} {x : Int} (h : b < g.length) : at' (g.set b x) b = x := by
  refine at_some ?_
  rw [List.getElem?_set_self h]
theorem at_set_ne {g : List Int} {a b : Nat} {x : Int} (h : a ≠ b) : at' (g.set b x) a = at' g a := by
  unfold at'
  rw [List.getD_eq_getElem?_getD, List.getD_eq_getElem?_getD, List.getElem?_set_ne (Ne.symm h)]
theorem sum_set' : ∀ {l : List Int} {j : Nat} {y : Int}, j < l.length → (l.set j y).sum = l.sum - at' l j + y
  | [], j, y, h => by simp at h
  | a :: r, 0, y, h => by
    show (y :: r).sum = (a :: r).sum - a + y
    rw [List.sum_cons, List.sum_cons]
    omega
  | a :: r, j + 1, y, h => by
    have ih := sum_set' (l := r) (j := j) (y := y) (by simpa using h)
    rw [at_succ]
    show (a :: r.set j y).sum = (a :: r).sum - at' r j + y
    rw [List.sum_cons, List.sum_cons, ih]
    omega

theorem giv_zero {w u : List Int} (hw : ∀ i, i < w.length → 0 ≤ at' w i) : Giv 0 w u (w.map fun _ => 0) := by
  have a0 : ∀ i, at' (w.map fun _ => (0 : Int)) i = 0 := fun i => by
    unfold at'
    rw [List.getD_eq_getElem?_getD, List.getElem?_map]
    cases w[i]? <;> rfl
  refine ⟨List.length_map _, fun i hi => ?_, ?_, fun a b _ _ _ _ h => ?_⟩
  · rw [a0]; exact ⟨Int.le_refl _, hw i hi⟩
  · induction w with
    | nil => rfl
    | cons x r ih =>
      rw [List.map_cons, List.sum_cons, ih (fun i hi => by
        have := hw (i + 1) (by simpa using hi)
        rwa [at_succ] at this) (fun i => by
        have := a0 (i + 1)
        rw [List.map_cons, at_succ] at this
        exact this)]
      rfl
  · rw [a0] at h
    omega

theorem giv_step {k : Int} {w u g : List Int} {b : Nat} (hu : ∀ i, i < w.length → 0 < at' u i) (G : Giv k w u g) (h : Best w u g w.length (b : Int)) : b < w.length ∧ Giv (k + 1) w u (g.set b (at' g b + 1)) := by
  rcases h with ⟨e, f⟩ | ⟨b', e, l, wb, f⟩
  · omega
  have eb : b = b' := by omega
  subst eb
  have lg : b < g.length := by rw [G.len]; exact l
  refine ⟨l, ?_, fun i hi => ?_, ?_, fun a c ha hc n wa gc => ?_⟩
  · rw [List.length_set]; exact G.len
  · by_cases q : i = b
    · rw [q, at_set_same lg]
      have := (G.rng b l).1
      omega
    · rw [at_set_ne q]; exact G.rng i hi
  · rw [sum_set' lg, G.sum]
    omega
  · by_cases q : c = b
    · subst q
      rw [at_set_same lg, at_set_ne n] at *
      rw [show at' g c + 1 - 1 = at' g c by omega]
      exact f a ha wa n
    · rw [at_set_ne q] at gc ⊢
      by_cases z : a = b
      · subst z
        rw [at_set_same lg] at wa ⊢
        have o := G.fair a c ha hc n (by omega) gc
        have uc := hu c hc
        have e1 : (at' g a + 1) * at' u c = at' g a * at' u c + at' u c := by rw [Int.add_mul, Int.one_mul]
        rw [e1]
        rcases o with o | ⟨o, _⟩ <;> exact .inl (by omega)
      · rw [at_set_ne z] at wa ⊢
        exact G.fair a c ha hc n wa gc

theorem giv_full {k q : Int} {w u g : List Int} {z : Int} (G : Giv k w u g) (hk : k ≤ q) (h : Best w u g w.length z) (hz : z < 0) : Acc q w u g := by
  rcases h with ⟨e, f⟩ | ⟨b', e, l, wb, _⟩
  · refine ⟨G.len, G.rng, by rw [G.sum]; exact hk, fun _ => ext_at G.len fun i hi => ?_, G.fair⟩
    rw [G.len] at hi
    have a := f i hi
    have b := (G.rng i hi).2
    omega
  · omega
theorem giv_end {q : Int} {w u g : List Int} (G : Giv q w u g) : Acc q w u g :=
  ⟨G.len, G.rng, by rw [G.sum]; exact Int.le_refl _, fun h => by rw [G.sum] at h; omega, G.fair⟩
end Eb
namespace Eb
open PySem PySem.Spec PyProof.Rows L2
/-! ### the text by places -/
def topS (i : Nat) : Stmt := PySem.Challenge.pw_ebbkeep_k10_whole_shares_are_checked.main.body.getD i (.Pass ⟨0, 0, 0, 0⟩)
abbrev sFair : Stmt := topS 1
abbrev sAcc : Stmt := topS 2
abbrev sCell : Stmt := topS 4
abbrev sDraw : Stmt := topS 5
abbrev sFlag : Stmt := topS 6
abbrev sShares : Stmt := topS 7
abbrev sWants : Stmt := topS 8
abbrev sMoved : Stmt := topS 9
abbrev sLaw : Stmt := topS 10
theorem scFair : FnScope ["wants", "weights", "given", "a", "b", "one", "two"] ["wants", "weights", "given", "a", "b"] (defScope sFair) := ⟨rfl, rfl, rfl, by decide +kernel, rfl, by decide +kernel, by decide +kernel⟩
theorem scCell : FnScope ["_law_script", "_law_k"] ["_law_script", "_law_k"] (defScope sCell) := ⟨rfl, rfl, rfl, by decide +kernel, rfl, by decide +kernel, by decide +kernel⟩
theorem scDraw : FnScope ["_law_cell_here", "_law_k", "_law_many", "_law_rest", "_law_j"] ["_law_cell_here", "_law_k", "_law_many"] (defScope sDraw) := ⟨rfl, rfl, rfl, by decide +kernel, rfl, by decide +kernel, by decide +kernel⟩
theorem scFlag : FnScope ["_law_actual"] ["_law_actual"] (defScope sFlag) := ⟨rfl, rfl, rfl, by decide +kernel, rfl, by decide +kernel, by decide +kernel⟩
/-! ### heaps, places -/
theorem same_upd {H : Hp} {p : Addr} {o : HO} (h : H p = none) : Same H (upd H p o) := fun b x e => by
  rw [upd_ne (ne_of_none e h)]
  exact e
/-- a store at an object that is newer than H0 -/
theorem same_put {H0 H : Hp} {p : Addr} {o : HO} (s : Same H0 H) (h : H0 p = none) : Same H0 (upd H p o) := fun b x e => by
  rw [upd_ne (ne_of_none e h)]
  exact s b x e
theorem ixI {ns : List Int} {i : Nat} (h : i < ns.length) : atI (ns.map V.int) (i : Int) = some (V.int (at' ns i)) := atI_nat (by rw [List.getElem?_map, at_get h]; rfl)
theorem getI {ns : List Int} {i : Nat} {y : V} (h : (ns.map V.int)[i]? = some y) : i < ns.length ∧ y = V.int (at' ns i) := by
  have q := (List.getElem?_eq_some_iff.mp h).1
  rw [List.length_map] at q
  refine ⟨q, ?_⟩
  rw [List.getElem?_map, at_get q] at h
  exact (Option.some.inj h).symm
theorem z0 (i : Nat) : V.int (0 + (i : Int)) = V.int (i : Int) := by rw [Int.zero_add]
section
variable {P : Program} {w : World} {K : PySem.W.Frag} {mg : Str → Option Value} {base : Heap}
/-! ### _law_cell -/
def spCell (K : PySem.W.Frag) : Sp := fun vs H Q _ => ∃ (a : Addr) (ns : List Int) (k : Nat), vs = [.ref a, .int k] ∧ SqL K H a (ns.map V.int) ∧ ∀ z : Int, Q (.int z) H
theorem ok_cell {f : Addr} {fd : FuncData} (F : Fun K "_law_cell" "_law_cell" sCell f fd) (ml : mg "len" = none) (mi : mg "int" = none) : FnOk P w K mg base CX0 1 f fd ["_law_script", "_law_k"] (spCell K) := by
  refine F.ok scCell (fun vs H Q E h => ?_) (fun cdv A outer s H vs Q E hr h => ?_)
  · obtain ⟨a, ns, k, rfl, _⟩ := h
    rfl
  · obtain ⟨a, ns, k, rfl, hS, q⟩ := h
    refine ⟨_, pss_cons (ps_if (pt_cmpR op_lt (pv 1) (pe_callB call_len_seq (by rfl) ml PySem.boot_len (pa_cons (pv 0) pa_nil)) (nomark _))
        (pss_one (ps_ret (pe_callTy call_int1 (by rfl) mi (by decide +kernel) (pa_cons (pe_ix ix_list (pv 0) (pv 1) (fun _ _ => rfl)) pa_nil)))) pss_nil)
      (pss_one (ps_ret pe_int)), ?_⟩
    refine ⟨.int k, rfl, .ref a, rfl, a, ns.map V.int, rfl, .inl hS, _, _, rfl, rfl, _, rfl, ite2 (fun e => ?_) (fun e => ?_)⟩
    · have e1 : (k : Int) < ((ns.map V.int).length : Int) := of_decide_eq_true e
      rw [List.length_map] at e1
      exact ⟨.ref a, rfl, .int k, rfl, a, _, k, _, rfl, rfl, hS, ixI (by omega), .inl ⟨_, rfl, q _⟩⟩
    · exact q 0
/-! ### _law_draw -/
def spDraw : Sp := fun vs H Q _ => ∃ (c : Int) (k : Nat) (m : Int), vs = [.int c, .int k, .int m] ∧ k ≤ 1000 ∧ 0 < m ∧ ∀ z : Int, 0 ≤ z → z < m → Q (.int z) H
theorem ok_draw {f : Addr} {fd : FuncData} (F : Fun K "_law_draw" "_law_draw" sDraw f fd) (ma : mg "abs" = none) (mi : mg "int" = none) (mr : mg "range" = none) : FnOk P w K mg base CX0 1 f fd ["_law_cell_here", "_law_k", "_law_many"] spDraw := by
  refine F.ok scDraw (fun vs H Q E h => ?_) (fun cdv A outer s H vs Q E hr h => ?_)
  · obtain ⟨c, k, m, rfl, _⟩ := h
    rfl
  · obtain ⟨c, k, m, rfl, hk, hm, q⟩ := h
    refine ⟨_, pss_cons (ps_set (i := 3) scDraw.nd rfl (.inl rfl) (pe_callB call_abs (by rfl) ma (by decide +kernel) (pa_cons (pe_callTy call_int1 (by rfl) mi (by decide +kernel) (pa_cons (pv 0) pa_nil)) pa_nil)))
      (pss_cons (ps_if (pt_cmpR op_lt (pv 3) pe_int (nomark _))
        (pss_cons (ps_set (i := 3) scDraw.nd rfl (.inl rfl) (pe_op op_mod (pe_callTy call_int1 (by rfl) mi (by decide +kernel) (pa_cons (pe_op op_add (pe_op op_add (pe_op op_mul (pv 3) pe_int) (pe_op op_mul (pv 1) pe_int)) pe_int) pa_nil)) pe_int))
        (pss_cons (ps_set (i := 3) scDraw.nd rfl (.inl rfl) (pe_op op_mod (pe_callTy call_int1 (by rfl) mi (by decide +kernel) (pa_cons (pe_op op_add (pe_op op_add (pe_op op_mul (pv 3) pe_int) (pe_op op_mul (pv 1) pe_int)) pe_int) pa_nil)) pe_int))
        (pss_one (ps_ret (pe_op op_mod (pe_callTy call_int1 (by rfl) mi (by decide +kernel) (pa_cons (pv 3) pa_nil)) (pv 2)))))) pss_nil)
      (pss_cons (ps_for PassesOwn.never rfl (pi_range1 (by rfl) mr (pa_cons (pv 1) pa_nil)) (pg_name (i := 4) scDraw.nd rfl (.inl rfl)) (pss_one (ps_set (i := 3) scDraw.nd rfl (.inl rfl) (pe_op op_fdiv (pv 3) pe_int))))
      (pss_one (ps_ret (pe_op op_mod (pe_op op_mod (pe_callTy call_int1 (by rfl) mi (by decide +kernel) (pa_cons (pv 3) pa_nil)) pe_int) (pv 2)))))), ?_⟩
    have fin : ∀ x : Int, Q (.int (x % m)) H := fun x => q _ (Int.emod_nonneg _ (by omega)) (Int.emod_lt_of_pos _ hm)
    refine ⟨.int c, rfl, .inl ⟨c, rfl, c, rfl, ?_⟩⟩
    refine ⟨_, rfl, _, _, rfl, rfl, _, rfl, ite2 (fun e => ?_) (fun e => ?_)⟩
    · refine ⟨_, rfl, _, _, rfl, rfl, .inr ⟨by decide, by decide⟩, _, rfl, _, _, rfl, rfl, .inr ⟨by decide, by decide⟩, _, _, rfl, rfl, _, _, rfl, rfl, .inl ⟨_, rfl, _, _, rfl, rfl, (by show (0 : Int) < 2147483647; decide), ?_⟩⟩
      refine ⟨_, rfl, _, _, rfl, rfl, .inr ⟨by decide, by decide⟩, _, rfl, _, _, rfl, rfl, .inr ⟨by decide, by decide⟩, _, _, rfl, rfl, _, _, rfl, rfl, .inl ⟨_, rfl, _, _, rfl, rfl, (by show (0 : Int) < 2147483629; decide), ?_⟩⟩
      exact ⟨_, rfl, .inl ⟨_, rfl, _, rfl, _, _, rfl, rfl, hm, fin _⟩⟩
    · refine ⟨_, rfl, k, rfl, by omega, by omega, for_range (lo := 0) (n := (k : Int).toNat) (fun i σ H' => ∃ (r : Int) (y4 : Option V), σ = [some (.int c), some (.int k), some (.int m), some (.int r), y4] ∧ H' = H)
        ⟨_, _, rfl, rfl⟩ ?_ ?_⟩
      · rintro i σ H' hi ⟨r, y4, rfl, rfl⟩
        exact ⟨_, rfl, _, _, rfl, rfl, ⟨by decide, by decide⟩, _, _, rfl, rfl⟩
      · rintro σ H' ⟨r, y4, rfl, rfl⟩
        exact ⟨_, rfl, .inl ⟨_, rfl, _, _, rfl, rfl, (by show (0 : Int) < 1000; decide), _, rfl, _, _, rfl, rfl, hm, fin _⟩⟩
/-! ### _law_is_flag -/
def spFlag : Sp := fun vs H Q _ => ∃ b : Bool, vs = [.bl b] ∧ Q (.bl true) H
theorem ok_flag {f : Addr} {fd : FuncData} (F : Fun K "_law_is_flag" "_law_is_flag" sFlag f fd) : FnOk P w K mg base CX0 1 f fd ["_law_actual"] spFlag := by
  refine F.ok scFlag (fun vs H Q E h => ?_) (fun cdv A outer s H vs Q E hr h => ?_)
  · obtain ⟨b, rfl, _⟩ := h
    rfl
  · obtain ⟨b, rfl, q⟩ := h
    refine ⟨_, pss_one (ps_ret (pe_or (pe_cmpR op_is_bl (pv 0) pe_bl (nomark _)) (pe_one (pe_cmpR op_is_bl (pv 0) pe_bl (nomark _))))), ?_⟩
    refine ⟨_, rfl, b, true, rfl, rfl, _, rfl, ite2 (fun e => q) (fun e => ?_)⟩
    refine ⟨_, rfl, b, false, rfl, rfl, ?_⟩
    cases b with
    | true => exact absurd rfl e
    | false => exact q
/-! ### is_fair -/
def spFair (K : PySem.W.Frag) : Sp := fun vs H Q _ => ∃ (wA uA gA : Addr) (ws us gs : List Int) (a b : Nat), vs = [.ref wA, .ref uA, .ref gA, .int a, .int b] ∧ SqL K H wA (ws.map V.int) ∧ SqL K H uA (us.map V.int) ∧ SqL K H gA (gs.map V.int) ∧
  us.length = ws.length ∧ gs.length = ws.length ∧ a < ws.length ∧ b < ws.length ∧ (∀ i, i < ws.length → 0 < at' us i ∧ at' us i ≤ 100) ∧ ∀ r : Bool, (r = true ↔ Fair ws us gs a b) → Q (.bl r) H
theorem ok_fair {f : Addr} {fd : FuncData} (F : Fun K "is_fair" "is_fair" sFair f fd) : FnOk P w K mg base CX0 1 f fd ["wants", "weights", "given", "a", "b"] (spFair K) := by
  refine F.ok scFair (fun vs H Q E h => ?_) (fun cdv A outer s H vs Q E hr h => ?_)
  · obtain ⟨_, _, _, _, _, _, _, _, rfl, _⟩ := h
    rfl
  · obtain ⟨wA, uA, gA, ws, us, gs, a, b, rfl, hW, hU, hG, lu, lg, ha, hb, hu, q⟩ := h
    refine ⟨_, pss_cons (ps_if (PW.pt (pw_or (pt_cmpR op_eq (pv 3) (pv 4) (nomark _)) (pw_or (pt_cmpR op_ge (pe_ix ix_list (pv 2) (pv 3) (fun _ _ => rfl)) (pe_ix ix_list (pv 0) (pv 3) (fun _ _ => rfl)) (nomark _))
          (pw_or1 (pt_cmpR op_lt (pe_ix ix_list (pv 2) (pv 4) (fun _ _ => rfl)) pe_int (nomark _)))))) (pss_one (ps_ret pe_bl)) pss_nil)
      (pss_cons (ps_set (i := 5) scFair.nd rfl (.inl rfl) (pe_op op_mul (pe_op op_sub (pe_ix ix_list (pv 2) (pv 4) (fun _ _ => rfl)) pe_int) (pe_ix ix_list (pv 1) (pv 3) (fun _ _ => rfl))))
      (pss_cons (ps_set (i := 6) scFair.nd rfl (.inl rfl) (pe_op op_mul (pe_ix ix_list (pv 2) (pv 3) (fun _ _ => rfl)) (pe_ix ix_list (pv 1) (pv 4) (fun _ _ => rfl))))
      (pss_one (ps_ret (pe_or (pe_cmpR op_lt (pv 5) (pv 6) (nomark _)) (pe_one (pe_and (pe_cmpR op_eq (pv 5) (pv 6) (nomark _)) (pe_one (pe_cmpR op_lt (pv 4) (pv 3) (nomark _)))))))))), ?_⟩
    have ua := hu a ha
    have ub := hu b hb
    -- a == b
    refine ⟨_, rfl, _, rfl, rfl, _, rfl, ite2 (fun e => ?_) (fun e => ?_)⟩
    · have e1 : (a : Int) = (b : Int) := V.int.inj (of_decide_eq_true e)
      exact q true ⟨fun _ n => absurd (by omega) n, fun _ => rfl⟩
    have nab : a ≠ b := fun z => e (decide_eq_true (by rw [z]))
    -- given[a] >= wants[a]
    refine ⟨_, rfl, _, rfl, gA, _, a, _, rfl, rfl, hG, ixI (by omega), _, rfl, _, rfl, wA, _, a, _, rfl, rfl, hW, ixI ha, _, _, rfl, rfl, _, rfl, ite2 (fun e => ?_) (fun e => ?_)⟩
    · have e1 : at' ws a ≤ at' gs a := of_decide_eq_true e
      exact q true ⟨fun _ _ l => by omega, fun _ => rfl⟩
    have l1 : at' gs a < at' ws a := by
      have e1 : ¬ at' ws a ≤ at' gs a := fun z => e (decide_eq_true z)
      omega
    -- given[b] < 1
    refine ⟨_, rfl, _, rfl, gA, _, b, _, rfl, rfl, hG, ixI (by omega), _, _, rfl, rfl, _, rfl, ite2 (fun e => ?_) (fun e => ?_)⟩
    · have e1 : at' gs b < 1 := of_decide_eq_true e
      exact q true ⟨fun _ _ _ g => by omega, fun _ => rfl⟩
    have l2 : 1 ≤ at' gs b := by
      have e1 : ¬ at' gs b < 1 := fun z => e (decide_eq_true z)
      omega
    -- one, two
    refine ⟨_, rfl, _, rfl, gA, _, b, _, rfl, rfl, hG, ixI (by omega), _, _, rfl, rfl, _, rfl, _, rfl, uA, _, a, _, rfl, rfl, hU, ixI (by omega), _, _, rfl, rfl, .inr ⟨by omega, by omega⟩, ?_⟩
    refine ⟨_, rfl, _, rfl, gA, _, a, _, rfl, rfl, hG, ixI (by omega), _, rfl, _, rfl, uA, _, b, _, rfl, rfl, hU, ixI (by omega), _, _, rfl, rfl, .inr ⟨by omega, by omega⟩, ?_⟩
    -- one < two or one == two and b < a
    refine ⟨_, rfl, _, rfl, _, _, rfl, rfl, _, rfl, ite2 (fun e => ?_) (fun e => ?_)⟩
    · have e1 : (at' gs b - 1) * at' us a < at' gs a * at' us b := of_decide_eq_true e
      exact q true ⟨fun _ _ _ _ => .inl e1, fun _ => rfl⟩
    have n1 : ¬ (at' gs b - 1) * at' us a < at' gs a * at' us b := fun z => e (decide_eq_true z)
    refine ⟨_, rfl, _, rfl, rfl, _, rfl, ite2 (fun e => ?_) (fun e => ?_)⟩
    · have e1 : (at' gs b - 1) * at' us a = at' gs a * at' us b := V.int.inj (of_decide_eq_true e)
      refine ⟨_, rfl, _, rfl, _, _, rfl, rfl, q _ ⟨fun z _ _ _ => .inr ⟨e1, ?_⟩, fun z => ?_⟩⟩
      · have z1 : (b : Int) < (a : Int) := of_decide_eq_true z
        omega
      · rcases z nab l1 l2 with z | ⟨_, z⟩
        · exact absurd z n1
        · exact decide_eq_true (by omega)
    · have n2 : ¬ (at' gs b - 1) * at' us a = at' gs a * at' us b := fun z => e (decide_eq_true (congrArg V.int z))
      refine q false ⟨fun z => absurd z Bool.false_ne_true, fun z => ?_⟩
      rcases z nab l1 l2 with z | ⟨z, _⟩
      · exact absurd z n1
      · exact absurd z n2
end
end Eb
namespace Eb
open PySem PySem.Spec PyProof.Rows L2
theorem scAcc : FnScope ["quota", "wants", "weights", "given", "number", "want", "together", "a", "b"] ["quota", "wants", "weights", "given"] (defScope sAcc) := ⟨rfl, rfl, rfl, by decide +kernel, rfl, by decide +kernel, by decide +kernel⟩
/-- a comprehension without a test goes on to its element -/
theorem yes_go {σ : L2.St} {H : Hp} {A B : Hp → Prop} (h : A H) : tYes σ H fun b H3 => if b = true then A H3 else B H3 := by
  show if true = true then A H else B H
  rw [if_pos rfl]
  exact h
/-! ### lists of ints as data -/
theorem dp_ints {K : PySem.W.Frag} {H : Hp} : ∀ ns : List Int, DpAll K H (ns.map V.int) (ns.map PyData.int)
  | [] => .nil
  | n :: r => .cons (.int n) (dp_ints r)
theorem lay_ints : ∀ ns : List Int, PyData.canLayAll0 (ns.map PyData.int) = true
  | [] => rfl
  | n :: r => by
    rw [List.map_cons, PyData.canLayAll0, lay_ints r]
    rfl
theorem dep_ints : ∀ ns : List Int, PyData.depthAll (ns.map PyData.int) ≤ 1
  | [] => by simp [PyData.depthAll]
  | n :: r => by
    have ih := dep_ints r
    simp only [List.map_cons, PyData.depthAll, PyData.depth]
    omega
theorem sh_ints (ns : List Int) : SeqAt.shaped (.list (ns.map PyData.int)) = true := by
  have h := dep_ints ns
  unfold SeqAt.shaped
  rw [PyData.canLay0, lay_ints, PyData.depth]
  simp
  omega
theorem eqv_ints (ns ms : List Int) : PyData.eqv (.list (ns.map PyData.int)) (.list (ms.map PyData.int)) = decide (ns = ms) := by
  rw [PyData.eqv]
  exact PySem.W.ked_eqvAll ns ms
section
variable {P : Program} {w : World} {K : PySem.W.Frag} {mg : Str → Option Value} {base : Heap}
/-- the promise of accepts_shares: wants and weights as they are asked for; given any list of ints -/
def spAcc (K : PySem.W.Frag) : Sp := fun vs H Q _ => ∃ (q : Int) (wA uA gA : Addr) (ws us gs : List Int), vs = [.int q, .ref wA, .ref uA, .ref gA] ∧ SqL K H wA (ws.map V.int) ∧ SqL K H uA (us.map V.int) ∧ SqL K H gA (gs.map V.int) ∧
  us.length = ws.length ∧ ws.length ≤ 100 ∧ (∀ i, i < ws.length → 0 < at' us i ∧ at' us i ≤ 100) ∧ ∀ (r : Bool) (H' : Hp), Same H H' → (r = true ↔ Acc q ws us gs) → Q (.bl r) H'
theorem ok_acc {f fF : Addr} {fd fdF : FuncData} (F : Fun K "accepts_shares" "accepts_shares" sAcc f fd) (FF : Fun K "is_fair" "is_fair" sFair fF fdF) (bF : Binds K fdF ["wants", "weights", "given", "a", "b"] []) (gF : mg "is_fair" = some (.ref fF))
    (ml : mg "len" = none) (mz : mg "zip" = none) (ms : mg "sum" = none) (mL : mg "list" = none) (mr : mg "range" = none) (mall : mg "all" = none) : FnOk P w K mg base CX0 2 f fd ["quota", "wants", "weights", "given"] (spAcc K) := by
  have GF : FnOk P w K mg base CX0 1 fF fdF ["wants", "weights", "given", "a", "b"] (spFair K) := ok_fair FF
  refine F.ok scAcc (fun vs H Q E h => ?_) (fun cdv A outer s H vs Q E hr h => ?_)
  · obtain ⟨_, _, _, _, _, _, _, rfl, _⟩ := h
    rfl
  · obtain ⟨q, wA, uA, gA, ws, us, gs, rfl, hW, hU, hG, lu, lw, hu, k⟩ := h
    refine ⟨_, pss_cons (ps_if (pt_cmpR op_ne (pe_callB call_len_seq (by rfl) ml PySem.boot_len (pa_cons (pv 3) pa_nil)) (pe_callB call_len_seq (by rfl) ml PySem.boot_len (pa_cons (pv 1) pa_nil)) (nomark _)) (pss_one (ps_ret pe_bl)) pss_nil)
      (pss_cons (ps_for PassesOwn.never rfl (pi_zip (by rfl) mz (pa_cons (pv 3) (pa_cons (pv 1) pa_nil))) (pg_tup rfl (pgs_cons (pg_name (i := 4) scAcc.nd rfl (.inl rfl)) (pgs_cons (pg_name (i := 5) scAcc.nd rfl (.inl rfl)) pgs_nil)))
        (pss_one (ps_if (PW.pt (pw_or (pt_cmpR op_lt (pv 4) pe_int (nomark _)) (pw_or1 (pt_cmpR op_gt (pv 4) (pv 5) (nomark _))))) (pss_one (ps_ret pe_bl)) pss_nil)))
      (pss_cons (ps_set (i := 6) scAcc.nd rfl (.inl rfl) (pe_callB (cr_sum rfl) (by rfl) ms (by decide +kernel) (pa_cons (pv 3) pa_nil)))
      (Evl.pss_cut (ps_if (PW.pt (pw_or (pt_cmpR op_gt (pv 6) (pv 0) (nomark _)) (pw_or1 (PW.pt (pw_and (pt_cmpR op_lt (pv 6) (pv 0) (nomark _))
          (pw_and1 (pt_cmpR (op_neD hr.units) (pe_callTy call_list_of (by rfl) mL (by decide +kernel) (pa_cons (pv 3) pa_nil)) (pe_callTy call_list_of (by rfl) mL (by decide +kernel) (pa_cons (pv 1) pa_nil)) (nomark _)))))))) (pss_one (ps_ret pe_bl)) pss_nil)
      (pss_cons (ps_for PassesOwn.never rfl (pi_range1 (by rfl) mr (pa_cons (pe_callB call_len_seq (by rfl) ml PySem.boot_len (pa_cons (pv 1) pa_nil)) pa_nil)) (pg_name (i := 7) scAcc.nd rfl (.inr rfl))
        (pss_one (ps_if (pt_not (pt_val (pe_callB (cr_all rfl) (by rfl) mall (by decide +kernel) (pa_cons
            (pe_lc (own := [("b", 8)]) (g := gName 8) (tt := tYes) rfl scAcc.nd (pi_range1 (by rfl) mr (pa_cons (pe_callB call_len_seq (by rfl) ml PySem.boot_len (pa_cons (pv 1) pa_nil)) pa_nil))
              (blkOk_by (N := ["quota", "wants", "weights", "given", "number", "want", "together", "a", "b"]) (sc := defScope sAcc) (by decide +kernel))
              (fun _ _ _ _ _ => pg_name (i := 8) scAcc.nd rfl (Or.inl rfl)) (fun _ _ _ _ _ => pts_nil)
              (fun _ _ _ _ _ => pe_call GF hr (by rfl) gF FF.kp bF .nil pass0 (pa_cons (pv 1) (pa_cons (pv 2) (pa_cons (pv 3) (pa_cons (pv 7) (pa_cons (pv 8) pa_nil))))))) pa_nil)))) (pss_one (ps_ret pe_bl)) pss_nil)))
      (pss_one (ps_ret pe_bl)))))), ?_⟩
    -- if len(given) != len(wants)
    refine ⟨_, rfl, gA, _, rfl, .inl hG, _, rfl, wA, _, rfl, .inl hW, rfl, _, rfl, ?_⟩
    by_cases hl : gs.length = ws.length
    case neg =>
      have e : (!decide (V.int (((gs.map V.int).length : Nat) : Int) = V.int (((ws.map V.int).length : Nat) : Int))) = true := by
        rw [decide_eq_false]
        · rfl
        · intro z
          have z1 := V.int.inj z
          rw [List.length_map, List.length_map] at z1
          exact hl (by omega)
      show if (!decide (V.int (((gs.map V.int).length : Nat) : Int) = V.int (((ws.map V.int).length : Nat) : Int))) = true then _ else _
      rw [e]
      exact iteT (k false H (Same.refl H) ⟨fun z => absurd z Bool.false_ne_true, fun z => absurd z.len hl⟩)
    have hlen : (((gs.map V.int).length : Nat) : Int) = (((ws.map V.int).length : Nat) : Int) := by
      rw [List.length_map, List.length_map, hl]
    refine iteNS (congrArg V.int hlen) ?_
    -- for number, want in zip(given, wants)
    refine ⟨_, rfl, _, rfl, gA, wA, _, _, rfl, hG, hW, RZ.for_zipL (xs := gs.map V.int) (ys := ws.map V.int) (by rw [List.length_map, List.length_map, hl]) (fun i σ H' => ∃ y4 y5, σ = [some (.int q), some (.ref wA), some (.ref uA), some (.ref gA), y4, y5, none, none, none] ∧ Same H H' ∧ ∀ j, j < i → 0 ≤ at' gs j ∧ at' gs j ≤ at' ws j)
      ⟨none, none, rfl, Same.refl H, fun j h => by omega⟩ (fun i σ H' ⟨_, _, _, sm, _⟩ => ⟨sm.seq hG, sm.seq hW⟩) ?_ ?_⟩
    · rintro i x y T σ H' hx hy ⟨y4, y5, rfl, sm, hd⟩ nT
      obtain ⟨_, rfl⟩ := getI hx
      obtain ⟨_, rfl⟩ := getI hy
      have smT : Same H (upd H' T (.tup [V.int (at' gs i), V.int (at' ws i)])) := sm.trans (same_upd nT)
      refine ⟨T, _, rfl, .inl (.inl upd_same), rfl, _, _, rfl, _, _, rfl, rfl, ?_⟩
      refine ⟨_, rfl, _, _, rfl, rfl, _, rfl, ite2 (fun e => ?_) (fun e => ?_)⟩
      · have e1 : at' gs i < 0 := of_decide_eq_true e
        exact k false _ smT ⟨fun z => absurd z Bool.false_ne_true, fun z => by have := (z.rng i (by rw [List.length_map] at *; omega)).1; omega⟩
      have e1 : ¬ at' gs i < 0 := fun z => e (decide_eq_true z)
      refine ⟨_, rfl, _, rfl, _, _, rfl, rfl, _, rfl, ite2 (fun e => ?_) (fun e => ?_)⟩
      · have e2 : at' ws i < at' gs i := of_decide_eq_true e
        exact k false _ smT ⟨fun z => absurd z Bool.false_ne_true, fun z => by have := (z.rng i (by rw [List.length_map] at *; omega)).2; omega⟩
      have e2 : ¬ at' ws i < at' gs i := fun z => e (decide_eq_true z)
      refine ⟨_, _, rfl, smT, fun j hj => ?_⟩
      by_cases ej : j = i
      · subst ej
        exact ⟨by omega, by omega⟩
      · exact hd j (by omega)
    · rintro σ H1 ⟨y4, y5, rfl, s1, hd⟩
      rw [List.length_map] at hd
      have rng : ∀ i, i < ws.length → 0 ≤ at' gs i ∧ at' gs i ≤ at' ws i := fun i hi => hd i (by omega)
      -- together = sum(given)
      refine ⟨_, rfl, gA, gs, rfl, s1.seq hG, ?_⟩
      -- if together > quota or together < quota and list(given) != list(wants)
      refine ⟨fun σ' H' => σ' = [some (.int q), some (.ref wA), some (.ref uA), some (.ref gA), y4, y5, some (.int gs.sum), none, none] ∧ Same H H' ∧ gs.sum ≤ q ∧ (gs.sum < q → gs = ws), ?_, ?_⟩
      · refine ⟨_, rfl, _, rfl, _, _, rfl, rfl, _, rfl, ite2 (fun e => ?_) (fun e => ?_)⟩
        · have e1 : q < gs.sum := of_decide_eq_true e
          exact k false _ s1 ⟨fun z => absurd z Bool.false_ne_true, fun z => by have := z.le; omega⟩
        have le : gs.sum ≤ q := by
          have e1 : ¬ q < gs.sum := fun z => e (decide_eq_true z)
          omega
        refine ⟨_, rfl, _, rfl, _, _, rfl, rfl, _, rfl, ite2 (fun e => ?_) (fun e => ?_)⟩
        · have lt : gs.sum < q := of_decide_eq_true e
          refine ⟨_, rfl, gA, _, rfl, .inl (s1.seq hG), fun l1 n1 => ?_⟩
          have s2 := s1.trans (same_upd (o := .lst (gs.map V.int)) n1)
          refine ⟨_, rfl, wA, _, rfl, .inl (s2.seq hW), fun l2 n2 => ?_⟩
          have s3 := s2.trans (same_upd (o := .lst (ws.map V.int)) n2)
          have n12 : l1 ≠ l2 := fun z => by
            rw [← z, upd_same] at n2
            cases n2
          refine ⟨.list (gs.map PyData.int), .list (ws.map PyData.int), .lst (SqL.of (by rw [upd_ne n12, upd_same])) (dp_ints gs), .lst (SqL.of upd_same) (dp_ints ws), sh_ints _, sh_ints _, _, rfl, ?_⟩
          rw [eqv_ints]
          by_cases e3 : gs = ws
          · rw [decide_eq_true e3]
            exact iteF ⟨rfl, s3, le, fun _ => e3⟩
          · rw [decide_eq_false e3]
            exact iteT (k false _ s3 ⟨fun z => absurd z Bool.false_ne_true, fun z => absurd (z.full lt) e3⟩)
        · have nlt : ¬ gs.sum < q := fun z => e (decide_eq_true z)
          exact iteF ⟨rfl, s1, le, fun z => absurd z nlt⟩
      · rintro σ H2 ⟨rfl, s2, le, full⟩
        -- for a in range(len(wants))
        refine ⟨_, rfl, wA, _, rfl, .inl (s2.seq hW), _, rfl, ?_, ?_, for_range (lo := 0) (n := (((ws.map V.int).length : Nat) : Int).toNat) (fun i σ' H' => ∃ y7, σ' = [some (.int q), some (.ref wA), some (.ref uA), some (.ref gA), y4, y5, some (.int gs.sum), y7, none] ∧ Same H H' ∧ ∀ a, a < i → ∀ b, b < ws.length → Fair ws us gs a b)
          ⟨none, rfl, s2, fun a ha => by omega⟩ ?_ ?_⟩
        · rw [List.length_map]; omega
        · rw [List.length_map]; omega
        · rintro i σ' H3 hi ⟨y7, rfl, s3, hd3⟩
          have hi' : i < ws.length := by rw [List.length_map] at hi; omega
          refine ⟨_, rfl, wA, _, rfl, .inl (s3.seq hW), _, rfl, ?_, ?_, fun D nD => ?_⟩
          · rw [List.length_map]; omega
          · rw [List.length_map]; omega
          have nD0 : H D = none := s3.free nD
          refine lc_range (lo := 0) (n := (((ws.map V.int).length : Nat) : Int).toNat) (fun j H' => ∃ bs : List Bool, Same H H' ∧ H' D = some (.lst (bs.map V.bl)) ∧ bs.length = j ∧ (bs.all id = true ↔ ∀ b, b < j → Fair ws us gs i b))
            ⟨[], same_put s3 nD0, upd_same, rfl, fun _ b hb => by omega, fun _ => rfl⟩ ?_ ?_
          · rintro j H4 hj ⟨bs, s4, hD, lb, iff⟩
            have hj' : j < ws.length := by rw [List.length_map] at hj; omega
            refine ⟨rfl, yes_go ?_⟩
            refine ⟨_, rfl, _, rfl, _, rfl, _, rfl, _, rfl, wA, uA, gA, ws, us, gs, i, j, ?_, s4.seq hW, s4.seq hU, s4.seq hG, lu, hl, hi', hj', hu, fun r hr => ?_⟩
            · rw [Int.zero_add, Int.zero_add]
              rfl
            · refine ⟨bs.map V.bl, hD, by rw [List.length_map]; exact small1000 (by omega), bs ++ [r], same_put s4 nD0, by rw [upd_same, List.map_append]; rfl, by rw [List.length_append, lb]; rfl, ?_⟩
              rw [List.all_append, Bool.and_eq_true, iff]
              have e1 : ([r] : List Bool).all id = r := by simp
              rw [e1, hr]
              refine ⟨fun z b hb => ?_, fun z => ⟨fun b hb => z b (by omega), z j (by omega)⟩⟩
              by_cases q : b = j
              · rw [q]; exact z.2
              · exact z.1 b (by omega)
          · rintro H4 ⟨bs, s4, hD, lb, iff⟩
            rw [List.length_map, Int.toNat_natCast] at iff
            refine ⟨D, bs, rfl, SqL.of hD, _, rfl, ?_⟩
            cases e : bs.all id with
            | true =>
              refine iteF ⟨_, rfl, s4, fun a ha b hb => ?_⟩
              by_cases q : a = i
              · rw [q]; exact iff.mp e b hb
              · exact hd3 a (by omega) b hb
            | false =>
              refine iteT (k false _ s4 ⟨fun z => absurd z Bool.false_ne_true, fun z => ?_⟩)
              have t := iff.mpr fun b hb => z.fair i b hi' hb
              rw [e] at t
              exact absurd t Bool.false_ne_true
        · rintro σ' H3 ⟨y7, rfl, s3, hd3⟩
          rw [List.length_map, Int.toNat_natCast] at hd3
          exact k true _ s3 ⟨fun _ => ⟨hl, rng, le, full, fun a b ha hb => hd3 a ha b hb⟩, fun _ => rfl⟩
end
end Eb
namespace Eb
open PySem PySem.Spec PyProof.Rows L2
theorem scShares : FnScope ["_law_quota", "_law_wants_here", "_law_weights", "_law_given", "_law_k", "_law_best", "_law_a", "_law_want"] ["_law_quota", "_law_wants_here", "_law_weights"] (defScope sShares) := ⟨rfl, rfl, rfl, by decide +kernel, rfl, by decide +kernel, by decide +kernel⟩
theorem ixN_at {n j : Nat} (hj : j < n) : ixN n (j : Int) = some j := by
  unfold ixN
  rw [if_pos (by omega), if_pos (by omega)]
  simp
theorem set_ints (ns : List Int) (j : Nat) (x : Int) : (ns.map V.int).set j (V.int x) = (ns.set j x).map V.int := by
  rw [List.map_set]
section
variable {P : Program} {w : World} {K : PySem.W.Frag} {mg : Str → Option Value} {base : Heap}
/-- the promise of _law_shares: a new list that is accepted -/
def spShares (K : PySem.W.Frag) : Sp := fun vs H Q _ => ∃ (q : Int) (wA uA : Addr) (ws us : List Int), vs = [.int q, .ref wA, .ref uA] ∧ SqL K H wA (ws.map V.int) ∧ SqL K H uA (us.map V.int) ∧
  us.length = ws.length ∧ ws.length ≤ 100 ∧ 0 ≤ q ∧ q ≤ 1000 ∧ (∀ i, i < ws.length → 0 ≤ at' ws i) ∧ (∀ i, i < ws.length → 0 < at' us i ∧ at' us i ≤ 100) ∧
  ∀ (p : Addr) (gs : List Int) (H' : Hp), Same H H' → H p = none → H' p = some (.lst (gs.map V.int)) → Acc q ws us gs → Q (.ref p) H'
theorem ok_shares {f : Addr} {fd : FuncData} (F : Fun K "_law_shares" "_law_shares" sShares f fd) (ml : mg "len" = none) (mr : mg "range" = none) : FnOk P w K mg base CX0 1 f fd ["_law_quota", "_law_wants_here", "_law_weights"] (spShares K) := by
  refine F.ok scShares (fun vs H Q E h => ?_) (fun cdv A outer s H vs Q E hr h => ?_)
  · obtain ⟨_, _, _, _, _, rfl, _⟩ := h
    rfl
  · obtain ⟨q, wA, uA, ws, us, rfl, hW, hU, lu, lw, q0, q1, hw, hu, k⟩ := h
    refine ⟨_, pss_cons (ps_setLc (i := 3) (own := [("_law_want", 7)]) (g := gName 7) (tt := tYes) rfl scShares.nd rfl rfl (sw_true rfl rfl rfl (by decide +kernel)) (pi_list (pv 1))
          (blkOk_by (N := ["_law_quota", "_law_wants_here", "_law_weights", "_law_given", "_law_k", "_law_best", "_law_a", "_law_want"]) (sc := defScope sShares) (by decide +kernel))
          (fun _ _ _ _ _ => pg_name (i := 7) scShares.nd rfl (Or.inl rfl)) (fun _ _ _ _ _ => pts_nil) (fun _ _ _ _ _ => pe_int))
      (pss_cons (ps_for PassesOwn.never rfl (pi_range1 (by rfl) mr (pa_cons (pv 0) pa_nil)) (pg_name (i := 4) scShares.nd rfl (.inl rfl))
        (pss_cons (ps_set (i := 5) scShares.nd rfl (.inl rfl) (pe_un un_neg pe_int))
        (pss_cons (ps_for PassesOwn.never rfl (pi_range1 (by rfl) mr (pa_cons (pe_callB call_len_seq (by rfl) ml PySem.boot_len (pa_cons (pv 1) pa_nil)) pa_nil)) (pg_name (i := 6) scShares.nd rfl (.inl rfl))
          (pss_one (ps_if (pt_cmpR op_lt (pe_ix ix_list (pv 3) (pv 6) (fun _ _ => rfl)) (pe_ix ix_list (pv 1) (pv 6) (fun _ _ => rfl)) (nomark _))
            (pss_one (ps_if (PW.pt (pw_or (pt_cmpR op_lt (pv 5) pe_int (nomark _))
                (pw_or1 (pt_cmpR op_lt (pe_op op_mul (pe_ix ix_list (pv 3) (pv 6) (fun _ _ => rfl)) (pe_ix ix_list (pv 2) (pv 5) (fun _ _ => rfl))) (pe_op op_mul (pe_ix ix_list (pv 3) (pv 5) (fun _ _ => rfl)) (pe_ix ix_list (pv 2) (pv 6) (fun _ _ => rfl))) (nomark _)))))
              (pss_one (ps_set (i := 5) scShares.nd rfl (.inl rfl) (pv 6))) pss_nil)) pss_nil)))
        (pss_cons (ps_if (pt_cmpR op_lt (pv 5) pe_int (nomark _)) (pss_one ps_break) pss_nil)
        (pss_one (ps_asg (pe_op op_add (pe_ix ix_list (pv 3) (pv 5) (fun _ _ => rfl)) pe_int) (pg_sub (pv 3) (pv 5) set_list)))))))
      (pss_one (ps_ret (pv 3)))), ?_⟩
    -- given = [0 for want in wants]
    refine ⟨_, rfl, wA, rfl, ⟨_, hW⟩, fun p np => ?_⟩
    refine lc_list (K := K) (a := wA) (xs := ws.map V.int) (fun i H' => Same H H' ∧ H' p = some (.lst ((ws.take i).map fun _ => V.int 0)))
      ⟨same_upd np, upd_same⟩ (fun i H' _ ⟨sm, _⟩ => sm.seq hW) ?_ ?_
    · rintro i x H' hi ⟨sm, hp⟩
      obtain ⟨il, rfl⟩ := getI hi
      refine ⟨rfl, yes_go ?_⟩
      refine ⟨_, hp, ?_, same_put sm np, ?_⟩
      · rw [List.length_map, List.length_take]
        exact small1000 (by omega)
      · rw [upd_same, List.take_add_one, at_get il, List.map_append]
        rfl
    · rintro H1 ⟨s1, hp1⟩
      have e0 : (ws.take (ws.map V.int).length).map (fun _ => V.int 0) = (ws.map fun _ => (0 : Int)).map V.int := by
        rw [List.length_map, List.take_length, List.map_map]
        rfl
      rw [e0] at hp1
      -- for k in range(quota)
      refine ⟨_, rfl, q, rfl, by omega, by omega, for_range (lo := 0) (n := q.toNat) (fun i σ H' => ∃ (gs : List Int) (y4 y5 y6 : Option V), σ = [some (.int q), some (.ref wA), some (.ref uA), some (.ref p), y4, y5, y6, none] ∧ Same H H' ∧ H' p = some (.lst (gs.map V.int)) ∧ Giv (i : Int) ws us gs)
        ⟨_, none, none, none, rfl, s1, hp1, giv_zero hw⟩ ?_ ?_⟩
      · rintro i σ H2 hi ⟨gs, y4, y5, y6, rfl, s2, hp2, G⟩
        -- best = -1
        refine ⟨1, rfl, ?_⟩
        -- for a in range(len(wants))
        refine ⟨_, rfl, wA, _, rfl, .inl (s2.seq hW), _, rfl, ?_, ?_, for_range (lo := 0) (n := (((ws.map V.int).length : Nat) : Int).toNat) (fun j σ' H' => ∃ (z : Int) (y6 : Option V), σ' = [some (.int q), some (.ref wA), some (.ref uA), some (.ref p), some (.int (0 + (i : Int))), some (.int z), y6, none] ∧ H' = H2 ∧ Best ws us gs j z)
          ⟨-1, y6, rfl, rfl, best_zero ws us gs⟩ ?_ ?_⟩
        · rw [List.length_map]; omega
        · rw [List.length_map]; omega
        · rintro j σ' H' hj ⟨z, y6, rfl, rfl, B⟩
          have hj' : j < ws.length := by rw [List.length_map] at hj; omega
          have lg := G.len
          have ixj : ∀ (ns : List Int), ns.length = ws.length → atI (ns.map V.int) (0 + (j : Int)) = some (V.int (at' ns j)) := fun ns h => by
            rw [Int.zero_add]
            exact ixI (by omega)
          -- if given[a] < wants[a]
          refine ⟨_, rfl, _, rfl, p, _, _, _, rfl, rfl, SqL.of hp2, ixj gs lg, _, rfl, _, rfl, wA, _, _, _, rfl, rfl, s2.seq hW, ixj ws rfl, _, _, rfl, rfl, _, rfl, ite2 (fun e => ?_) (fun e => ?_)⟩
          · have wj : at' gs j < at' ws j := of_decide_eq_true e
            -- best < 0
            refine ⟨_, rfl, _, _, rfl, rfl, _, rfl, ite2 (fun e => ?_) (fun e => ?_)⟩
            · have zn : z < 0 := of_decide_eq_true e
              refine ⟨_, rfl, 0 + (j : Int), _, rfl, rfl, ?_⟩
              rw [Int.zero_add]
              exact best_first B zn wj
            · have zn : ¬ z < 0 := fun q => e (decide_eq_true q)
              obtain ⟨b, rfl⟩ : ∃ b : Nat, z = (b : Int) := ⟨z.toNat, by omega⟩
              have lb : b < ws.length := by
                rcases B with ⟨e, _⟩ | ⟨b', e, l, _⟩ <;> omega
              have ub := hu b lb
              have uj := hu j hj'
              refine ⟨_, rfl, _, rfl, p, _, _, _, rfl, rfl, SqL.of hp2, ixj gs lg, _, rfl, _, rfl, uA, _, _, _, rfl, rfl, s2.seq hU, ixI (by omega), _, _, rfl, rfl, .inr ⟨by omega, by omega⟩, ?_⟩
              refine ⟨_, rfl, _, rfl, p, _, _, _, rfl, rfl, SqL.of hp2, ixI (by omega), _, rfl, _, rfl, uA, _, _, _, rfl, rfl, s2.seq hU, ixj us lu, _, _, rfl, rfl, .inr ⟨by omega, by omega⟩, ?_⟩
              refine ⟨_, _, rfl, rfl, _, rfl, ite2 (fun e => ?_) (fun e => ?_)⟩
              · have c : at' gs j * at' us b < at' gs b * at' us j := of_decide_eq_true e
                refine ⟨_, rfl, 0 + (j : Int), _, rfl, rfl, ?_⟩
                rw [Int.zero_add]
                exact best_new (fun i hi => (hu i (by omega)).1) B wj c
              · have c : ¬ at' gs j * at' us b < at' gs b * at' us j := fun q => e (decide_eq_true q)
                exact ⟨_, _, rfl, rfl, best_old B c⟩
          · have wj : at' ws j ≤ at' gs j := by
              have e1 : ¬ at' gs j < at' ws j := fun q => e (decide_eq_true q)
              omega
            exact ⟨_, _, rfl, rfl, best_full B wj⟩
        · rintro σ' H' ⟨z, y6, rfl, rfl, B⟩
          rw [List.length_map, Int.toNat_natCast] at B
          -- if best < 0: break
          refine ⟨_, rfl, _, _, rfl, rfl, _, rfl, ite2 (fun e => ?_) (fun e => ?_)⟩
          · have zn : z < 0 := of_decide_eq_true e
            exact ⟨_, rfl, k p gs _ s2 np hp2 (giv_full G (by omega) B zn)⟩
          · have zn : ¬ z < 0 := fun q => e (decide_eq_true q)
            obtain ⟨b, rfl⟩ : ∃ b : Nat, z = (b : Int) := ⟨z.toNat, by omega⟩
            obtain ⟨lb, G'⟩ := giv_step (fun i hi => (hu i hi).1) G B
            have lg := G.len
            -- given[best] = given[best] + 1
            refine ⟨_, rfl, _, rfl, p, _, _, _, rfl, rfl, SqL.of hp2, ixI (by omega), _, _, rfl, rfl, ?_⟩
            refine ⟨_, rfl, _, rfl, p, _, _, b, rfl, rfl, hp2, ixN_at (by rw [List.length_map]; omega), ?_⟩
            exact ⟨gs.set b (at' gs b + 1), _, _, _, rfl, same_put s2 np, by rw [upd_same, set_ints], G'⟩
      · rintro σ H2 ⟨gs, y4, y5, y6, rfl, s2, hp2, G⟩
        have e : ((q.toNat : Nat) : Int) = q := by omega
        rw [e] at G
        exact ⟨_, rfl, k p gs _ s2 np hp2 (giv_end G)⟩
end
end Eb
namespace Eb
open PySem PySem.Spec PyProof.Rows L2
theorem scWants : FnScope ["_law_script", "_law_many", "_law_wants_here", "_law_k"] ["_law_script"] (defScope sWants) := ⟨rfl, rfl, rfl, by decide +kernel, rfl, by decide +kernel, by decide +kernel⟩
theorem scMoved : FnScope ["_law_given", "_law_cell_here", "_law_rows", "_law_pick", "_law_a", "_law_b"] ["_law_given", "_law_cell_here"] (defScope sMoved) := ⟨rfl, rfl, rfl, by decide +kernel, rfl, by decide +kernel, by decide +kernel⟩
theorem cut_ints (ns : List Int) (lo hi : Option Int) : ∃ ms : List Int, cutV (ns.map V.int) lo hi = ms.map V.int :=
  ⟨(ns.drop (HT.sIx (ns.map V.int).length 0 lo)).take (HT.sIx (ns.map V.int).length (ns.map V.int).length hi - HT.sIx (ns.map V.int).length 0 lo), by unfold cutV; rw [List.map_take, List.map_drop]⟩
/-- a new item at the end -/
theorem all_snoc {P : Int → Prop} {l : List Int} {z : Int} (h : ∀ i, i < l.length → P (at' l i)) (hz : P z) : ∀ i, i < (l ++ [z]).length → P (at' (l ++ [z]) i) := fun i hi => by
  rw [List.length_append, List.length_singleton] at hi
  by_cases q : i < l.length
  · have e : at' (l ++ [z]) i = at' l i := at_some (by rw [List.getElem?_append_left q, at_get q])
    rw [e]
    exact h i q
  · have e0 : i = l.length := by omega
    have e : at' (l ++ [z]) i = z := at_some (by rw [e0, List.getElem?_concat_length])
    rw [e]
    exact hz
section
variable {P : Program} {w : World} {K : PySem.W.Frag} {mg : Str → Option Value} {base : Heap}
/-- the promise of _law_wants: a new tuple of two new lists of one length -/
def spWants (K : PySem.W.Frag) : Sp := fun vs H Q _ => ∃ (a : Addr) (ns : List Int), vs = [.ref a] ∧ SqL K H a (ns.map V.int) ∧
  ∀ (t wA uA : Addr) (ws us : List Int) (H' : Hp), Same H H' → H' t = some (.tup [.ref wA, .ref uA]) → H' wA = some (.lst (ws.map V.int)) → H' uA = some (.lst (us.map V.int)) → us.length = ws.length → ws.length ≤ 100 →
    (∀ i, i < ws.length → 0 ≤ at' ws i) → (∀ i, i < ws.length → 0 < at' us i ∧ at' us i ≤ 100) → Q (.ref t) H'
theorem ok_wants {f fC fD : Addr} {fd fdC fdD : FuncData} (F : Fun K "_law_wants" "_law_wants" sWants f fd) (FC : Fun K "_law_cell" "_law_cell" sCell fC fdC) (bC : Binds K fdC ["_law_script", "_law_k"] []) (gC : mg "_law_cell" = some (.ref fC))
    (FD : Fun K "_law_draw" "_law_draw" sDraw fD fdD) (bD : Binds K fdD ["_law_cell_here", "_law_k", "_law_many"] []) (gD : mg "_law_draw" = some (.ref fD))
    (ml : mg "len" = none) (mi : mg "int" = none) (ma : mg "abs" = none) (mr : mg "range" = none) : FnOk P w K mg base CX0 2 f fd ["_law_script"] (spWants K) := by
  have GC : FnOk P w K mg base CX0 1 fC fdC ["_law_script", "_law_k"] (spCell K) := ok_cell FC ml mi
  have GD : FnOk P w K mg base CX0 1 fD fdD ["_law_cell_here", "_law_k", "_law_many"] spDraw := ok_draw FD ma mi mr
  refine F.ok scWants (fun vs H Q E h => ?_) (fun cdv A outer s H vs Q E hr h => ?_)
  · obtain ⟨a, ns, rfl, _⟩ := h
    rfl
  · obtain ⟨a, ns, rfl, hS, k⟩ := h
    refine ⟨_, pss_cons (ps_set (i := 1) scWants.nd rfl (.inl rfl) (pe_call GD hr (by rfl) gD FD.kp bD .nil pass0 (pa_cons (pe_call GC hr (by rfl) gC FC.kp bC .nil pass0 (pa_cons (pv 0) (pa_cons pe_int pa_nil))) (pa_cons pe_int (pa_cons pe_int pa_nil)))))
      (pss_cons (ps_setLc (i := 2) (own := [("_law_k", 3)]) (g := gName 3) (tt := tYes) rfl scWants.nd rfl rfl (sw_true rfl rfl rfl (by decide +kernel)) (pi_range1 (by rfl) mr (pa_cons (pv 1) pa_nil))
          (blkOk_by (N := ["_law_script", "_law_many", "_law_wants_here", "_law_k"]) (sc := defScope sWants) (by decide +kernel))
          (fun _ _ _ _ _ => pg_name (i := 3) scWants.nd rfl (Or.inl rfl)) (fun _ _ _ _ _ => pts_nil)
          (fun _ _ _ _ _ => pe_call GD hr (by rfl) gD FD.kp bD .nil pass0 (pa_cons (pe_op op_add (pe_call GC hr (by rfl) gC FC.kp bC .nil pass0 (pa_cons (pv 0) (pa_cons pe_int pa_nil))) (pe_op op_mul pe_int (pv 3))) (pa_cons pe_int (pa_cons pe_int pa_nil)))))
      (Evl.pss_cut (ps_if (PW.pt (pw_and (pt_cmpR op_eq (pe_call GD hr (by rfl) gD FD.kp bD .nil pass0 (pa_cons (pe_call GC hr (by rfl) gC FC.kp bC .nil pass0 (pa_cons (pv 0) (pa_cons pe_int pa_nil))) (pa_cons pe_int (pa_cons pe_int pa_nil)))) pe_int (nomark _))
            (pw_and1 (pt_cmpR op_gt (pv 1) pe_int (nomark _))))) (pss_one (ps_asg pe_int (pg_sub (pv 2) pe_int set_list))) pss_nil)
      (pss_one (ps_ret (pe_tup (pa_cons (pv 2) (pa_cons
        (pe_lc (own := [("_law_k", 3)]) (g := gName 3) (tt := tYes) rfl scWants.nd (pi_range1 (by rfl) mr (pa_cons (pv 1) pa_nil))
          (blkOk_by (N := ["_law_script", "_law_many", "_law_wants_here", "_law_k"]) (sc := defScope sWants) (by decide +kernel))
          (fun _ _ _ _ _ => pg_name (i := 3) scWants.nd rfl (Or.inl rfl)) (fun _ _ _ _ _ => pts_nil)
          (fun _ _ _ _ _ => pe_op op_add pe_int (pe_call GD hr (by rfl) gD FD.kp bD .nil pass0 (pa_cons (pe_op op_add (pe_call GC hr (by rfl) gC FC.kp bC .nil pass0 (pa_cons (pv 0) (pa_cons pe_int pa_nil))) (pe_op op_mul pe_int (pv 3))) (pa_cons pe_int (pa_cons pe_int pa_nil)))))) pa_nil))))))), ?_⟩
    -- many
    refine ⟨_, rfl, a, ns, 0, rfl, hS, fun z0 => ⟨z0, 0, 9, rfl, by decide, by decide, fun m m0 m1 => ?_⟩⟩
    -- wants
    refine ⟨_, rfl, m, rfl, by omega, by omega, fun wA nW => ?_⟩
    refine lc_range (lo := 0) (n := m.toNat) (fun j H' => ∃ ws : List Int, Same H H' ∧ H' wA = some (.lst (ws.map V.int)) ∧ ws.length = j ∧ ∀ i, i < ws.length → 0 ≤ at' ws i)
      ⟨[], same_upd nW, upd_same, rfl, fun i hi => by simp at hi⟩ ?_ ?_
    · rintro j H' hj ⟨ws, sm, hw, lw, pw⟩
      refine ⟨rfl, yes_go ?_⟩
      refine ⟨_, rfl, a, ns, 1, rfl, sm.seq hS, fun z1 => ?_⟩
      refine ⟨_, rfl, _, _, rfl, rfl, .inl ⟨by decide, by decide⟩, _, _, rfl, rfl, ?_⟩
      refine ⟨_, 1, 12, rfl, by decide, by decide, fun z2 z20 z21 => ?_⟩
      refine ⟨ws.map V.int, hw, by rw [List.length_map]; exact small1000 (by omega), ws ++ [z2], same_put sm nW, by rw [upd_same, List.map_append]; rfl, by rw [List.length_append, lw]; rfl, all_snoc pw z20⟩
    · rintro H1 ⟨ws, s1, hw1, lw, pw⟩
      -- the first one 40
      refine ⟨fun σ' H' => σ' = [some (.ref a), some (.int m), some (.ref wA), none] ∧ ∃ vs : List Int, Same H H' ∧ H' wA = some (.lst (vs.map V.int)) ∧ vs.length = m.toNat ∧ ∀ i, i < vs.length → 0 ≤ at' vs i, ?_, ?_⟩
      · refine ⟨_, rfl, a, ns, 0, rfl, s1.seq hS, fun z1 => ⟨z1, 1, 6, rfl, by decide, by decide, fun z2 z20 z21 => ?_⟩⟩
        refine ⟨rfl, _, rfl, ite2 (fun e => ?_) (fun e => ?_)⟩
        · refine ⟨_, rfl, _, _, rfl, rfl, _, rfl, ite2 (fun e => ?_) (fun e => ?_)⟩
          · have mp : 0 < m := of_decide_eq_true e
            refine ⟨_, rfl, wA, _, _, 0, rfl, rfl, hw1, ixN_at (n := (ws.map V.int).length) (j := 0) (by rw [List.length_map]; omega), ?_⟩
            refine ⟨rfl, ws.set 0 40, same_put s1 nW, by rw [upd_same, set_ints], by rw [List.length_set, lw], fun i hi => ?_⟩
            rw [List.length_set] at hi
            by_cases q : i = 0
            · rw [q, at_set_same (by omega)]
              decide
            · rw [at_set_ne q]
              exact pw i hi
          · exact ⟨rfl, ws, s1, hw1, lw, pw⟩
        · exact iteF ⟨rfl, ws, s1, hw1, lw, pw⟩
      · rintro σ H2 ⟨rfl, vs, s2, hw2, lv, pv2⟩
        refine ⟨_, rfl, _, rfl, m, rfl, by omega, by omega, fun uA nU => ?_⟩
        have nwu : wA ≠ uA := ne_of_none hw2 nU
        have nU0 : H uA = none := s2.free nU
        refine lc_range (lo := 0) (n := m.toNat) (fun j H' => ∃ us : List Int, Same H H' ∧ H' wA = some (.lst (vs.map V.int)) ∧ H' uA = some (.lst (us.map V.int)) ∧ us.length = j ∧ ∀ i, i < us.length → 0 < at' us i ∧ at' us i ≤ 100)
          ⟨[], same_put s2 nU0, by rw [upd_ne nwu]; exact hw2, upd_same, rfl, fun i hi => by simp at hi⟩ ?_ ?_
        · rintro j H' hj ⟨us, sm, hw', hu', lu, pu⟩
          refine ⟨rfl, yes_go ?_⟩
          refine ⟨_, rfl, a, ns, 2, rfl, sm.seq hS, fun z1 => ?_⟩
          refine ⟨_, rfl, _, _, rfl, rfl, .inl ⟨by decide, by decide⟩, _, _, rfl, rfl, ?_⟩
          refine ⟨_, 2, 9, rfl, by decide, by decide, fun z2 z20 z21 => ?_⟩
          refine ⟨_, _, rfl, rfl, us.map V.int, hu', by rw [List.length_map]; exact small1000 (by omega), us ++ [1 + z2], same_put sm nU0, by rw [upd_ne nwu]; exact hw', by rw [upd_same, List.map_append]; rfl, by rw [List.length_append, lu]; rfl, all_snoc (P := fun x => 0 < x ∧ x ≤ 100) pu ⟨by omega, by omega⟩⟩
        · rintro H3 ⟨us, s3, hw3, hu3, lu, pu⟩
          refine ⟨by show 2 ≤ sizeLine; decide, fun t nT => ?_⟩
          exact k t wA uA vs us _ (s3.trans (same_upd nT)) upd_same (by rw [upd_ne (ne_of_none hw3 nT)]; exact hw3) (by rw [upd_ne (ne_of_none hu3 nT)]; exact hu3) (by omega) (by omega) pv2 (fun i hi => pu i (by omega))
end
end Eb
namespace Eb
open PySem PySem.Spec PyProof.Rows L2
section
variable {P : Program} {w : World} {K : PySem.W.Frag} {mg : Str → Option Value} {base : Heap}
/-- the promise of _law_moved: some list of ints -/
def spMoved (K : PySem.W.Frag) : Sp := fun vs H Q _ => ∃ (gA : Addr) (gs : List Int) (c : Int), vs = [.ref gA, .int c] ∧ SqL K H gA (gs.map V.int) ∧ ∀ (p : Addr) (rs : List Int) (H' : Hp), Same H H' → H' p = some (.lst (rs.map V.int)) → Q (.ref p) H'
theorem ok_moved {f fD : Addr} {fd fdD : FuncData} (F : Fun K "_law_moved" "_law_moved" sMoved f fd)
    (FD : Fun K "_law_draw" "_law_draw" sDraw fD fdD) (bD : Binds K fdD ["_law_cell_here", "_law_k", "_law_many"] []) (gD : mg "_law_draw" = some (.ref fD))
    (ml : mg "len" = none) (mi : mg "int" = none) (ma : mg "abs" = none) (mr : mg "range" = none) (mL : mg "list" = none) : FnOk P w K mg base CX0 2 f fd ["_law_given", "_law_cell_here"] (spMoved K) := by
  have GD : FnOk P w K mg base CX0 1 fD fdD ["_law_cell_here", "_law_k", "_law_many"] spDraw := ok_draw FD ma mi mr
  refine F.ok scMoved (fun vs H Q E h => ?_) (fun cdv A outer s H vs Q E hr h => ?_)
  · obtain ⟨gA, gs, c, rfl, _⟩ := h
    rfl
  · obtain ⟨gA, gs, c, rfl, hG, k⟩ := h
    refine ⟨_, pss_cons (ps_set (i := 2) scMoved.nd rfl (.inl rfl) (pe_callTy call_list_of (by rfl) mL (by decide +kernel) (pa_cons (pv 0) pa_nil)))
      (pss_cons (ps_set (i := 3) scMoved.nd rfl (.inl rfl) (pe_call GD hr (by rfl) gD FD.kp bD .nil pass0 (pa_cons (pv 1) (pa_cons pe_int (pa_cons pe_int pa_nil)))))
      (pss_cons (ps_if (pt_cmpR op_eq (pe_callB call_len_seq (by rfl) ml PySem.boot_len (pa_cons (pv 2) pa_nil)) pe_int (nomark _))
        (pss_one (ps_ret (pe_ix ix_list (pe_lst (pa_cons (pe_lst pa_nil) (pa_cons (pe_lst (pa_cons pe_int pa_nil)) (pa_cons (pe_lst (pa_cons pe_int pa_nil)) pa_nil)))) (pe_op op_mod (pe_callTy call_int1 (by rfl) mi (by decide +kernel) (pa_cons (pv 3) pa_nil)) pe_int) (fun _ _ => rfl)))) pss_nil)
      (pss_cons (ps_set (i := 4) scMoved.nd rfl (.inl rfl) (pe_call GD hr (by rfl) gD FD.kp bD .nil pass0 (pa_cons (pv 1) (pa_cons pe_int (pa_cons (pe_callB call_len_seq (by rfl) ml PySem.boot_len (pa_cons (pv 2) pa_nil)) pa_nil)))))
      (pss_cons (ps_set (i := 5) scMoved.nd rfl (.inl rfl) (pe_call GD hr (by rfl) gD FD.kp bD .nil pass0 (pa_cons (pv 1) (pa_cons pe_int (pa_cons (pe_callB call_len_seq (by rfl) ml PySem.boot_len (pa_cons (pv 2) pa_nil)) pa_nil)))))
      (Evl.pss_cut (ps_if (pt_cmpR op_lt (pv 3) pe_int (nomark _))
        (pss_cons (ps_asg (pe_op op_sub (pe_ix ix_list (pv 2) (pv 4) (fun _ _ => rfl)) pe_int) (pg_sub (pv 2) (pv 4) set_list))
          (pss_one (ps_asg (pe_op op_add (pe_ix ix_list (pv 2) (pv 5) (fun _ _ => rfl)) pe_int) (pg_sub (pv 2) (pv 5) set_list)))) pss_nil)
      (Evl.pss_cut (ps_if (pt_cmpR op_eq (pv 3) pe_int (nomark _))
        (pss_one (ps_asg (pe_op op_sub (pe_op op_add (pe_ix ix_list (pv 2) (pv 4) (fun _ _ => rfl)) pe_int) (pe_op op_mul pe_int (pe_call GD hr (by rfl) gD FD.kp bD .nil pass0 (pa_cons (pv 1) (pa_cons pe_int (pa_cons pe_int pa_nil)))))) (pg_sub (pv 2) (pv 4) set_list))) pss_nil)
      (pss_cons (ps_if (pt_cmpR op_eq (pv 3) pe_int (nomark _)) (pss_one (ps_ret (pe_slice sl_list (pv 2) (po_some pe_int) po_none))) pss_nil)
      (Evl.pss_cut (ps_if (pt_cmpR op_eq (pv 3) pe_int (nomark _))
        (pss_one (ps_asg (pe_tup (pa_cons (pe_ix ix_list (pv 2) (pv 5) (fun _ _ => rfl)) (pa_cons (pe_ix ix_list (pv 2) (pv 4) (fun _ _ => rfl)) pa_nil)))
          (pg_tup rfl (pgs_cons (pg_sub (pv 2) (pv 4) set_list) (pgs_cons (pg_sub (pv 2) (pv 5) set_list) pgs_nil))))) pss_nil)
      (pss_one (ps_ret (pv 2))))))))))), ?_⟩
    -- rows = list(given), pick
    refine ⟨_, rfl, gA, _, rfl, .inl hG, fun p np => ?_⟩
    have s1 : Same H (upd H p (.lst (gs.map V.int))) := same_upd np
    refine ⟨_, rfl, c, 20, 6, rfl, by decide, by decide, fun z _ _ => ?_⟩
    -- if len(rows) == 0
    refine ⟨_, rfl, p, _, rfl, .inl (SqL.of upd_same), rfl, _, rfl, ite2 (fun e => ?_) (fun e => ?_)⟩
    · refine ⟨Nat.zero_le _, fun l1 n1 => ?_⟩
      refine ⟨by show 1 ≤ sizeLine; decide, fun l2 n2 => ?_⟩
      refine ⟨by show 1 ≤ sizeLine; decide, fun l3 n3 => ?_⟩
      refine ⟨by show 3 ≤ sizeLine; decide, fun l4 n4 => ?_⟩
      refine ⟨_, rfl, .inl ⟨_, rfl, _, _, rfl, rfl, (by show (0 : Int) < 3; decide), ?_⟩⟩
      have t1 := s1.trans (same_upd (o := .lst []) n1)
      have t2 := t1.trans (same_upd (o := .lst [V.int 0]) n2)
      have t3 := t2.trans (same_upd (o := .lst [V.int 1]) n3)
      have t4 := t3.trans (same_upd (o := .lst [V.ref l1, V.ref l2, V.ref l3]) n4)
      have h1 := upd_same (H := upd H p (.lst (gs.map V.int))) (a := l1) (o := .lst [])
      have h1' := same_upd (o := .lst [V.int 0]) n2 _ _ h1
      have h1'' := same_upd (o := .lst [V.int 1]) n3 _ _ h1'
      have h14 := same_upd (o := .lst [V.ref l1, V.ref l2, V.ref l3]) n4 _ _ h1''
      have h2' := same_upd (o := .lst [V.int 1]) n3 _ _ upd_same
      have h24 := same_upd (o := .lst [V.ref l1, V.ref l2, V.ref l3]) n4 _ _ h2'
      have h34 := same_upd (o := .lst [V.ref l1, V.ref l2, V.ref l3]) n4 _ _ upd_same
      have r0 : 0 ≤ z % 3 := Int.emod_nonneg _ (by decide)
      have r1 : z % 3 < 3 := Int.emod_lt_of_pos _ (by decide)
      have h : z % 3 = 0 ∨ z % 3 = 1 ∨ z % 3 = 2 := by omega
      rcases h with h | h | h
      · exact ⟨l4, _, 0, .ref l1, rfl, congrArg V.int h, SqL.of upd_same, rfl, k l1 [] _ t4 h14⟩
      · exact ⟨l4, _, 1, .ref l2, rfl, congrArg V.int h, SqL.of upd_same, rfl, k l2 [0] _ t4 h24⟩
      · exact ⟨l4, _, 2, .ref l3, rfl, congrArg V.int h, SqL.of upd_same, rfl, k l3 [1] _ t4 h34⟩
    · have pos : 0 < gs.length := by
        have e1 : ¬ (((gs.map V.int).length : Nat) : Int) = 0 := fun q => e (decide_eq_true (congrArg V.int q))
        rw [List.length_map] at e1
        omega
      have elen : (((gs.map V.int).length : Nat) : Int) = (gs.length : Int) := by rw [List.length_map]
      -- a, b
      refine ⟨_, rfl, _, rfl, p, _, rfl, .inl (SqL.of upd_same), c, 21, _, rfl, by decide, by rw [elen]; omega, fun za za0 za1 => ?_⟩
      refine ⟨_, rfl, _, rfl, p, _, rfl, .inl (SqL.of upd_same), c, 22, _, rfl, by decide, by rw [elen]; omega, fun zb zb0 zb1 => ?_⟩
      rw [elen] at za1 zb1
      obtain ⟨a, rfl⟩ : ∃ a : Nat, za = (a : Int) := ⟨za.toNat, by omega⟩
      obtain ⟨b, rfl⟩ : ∃ b : Nat, zb = (b : Int) := ⟨zb.toNat, by omega⟩
      -- if pick < 3
      refine ⟨fun σ' H' => σ' = [some (.ref gA), some (.int c), some (.ref p), some (.int z), some (.int a), some (.int b)] ∧ ∃ rs : List Int, Same H H' ∧ H' p = some (.lst (rs.map V.int)) ∧ rs.length = gs.length, ?_, ?_⟩
      · refine ⟨_, rfl, _, _, rfl, rfl, _, rfl, ite2 (fun e => ?_) (fun e => ?_)⟩
        · have hp : (upd H p (.lst (gs.map V.int))) p = some (.lst (gs.map V.int)) := upd_same
          refine ⟨_, rfl, _, rfl, p, _, a, _, rfl, rfl, SqL.of hp, ixI (by omega), _, _, rfl, rfl, _, rfl, _, rfl, p, _, a, a, rfl, rfl, hp, ixN_at (by rw [List.length_map]; omega), ?_⟩
          have s2 : Same H (upd (upd H p (.lst (gs.map V.int))) p (.lst ((gs.map V.int).set a (V.int (at' gs a - 1))))) := same_put s1 np
          have hp2 : (upd (upd H p (.lst (gs.map V.int))) p (.lst ((gs.map V.int).set a (V.int (at' gs a - 1))))) p = some (.lst ((gs.set a (at' gs a - 1)).map V.int)) := by rw [upd_same, set_ints]
          have l2 : (gs.set a (at' gs a - 1)).length = gs.length := List.length_set
          refine ⟨_, rfl, _, rfl, p, _, b, _, rfl, rfl, SqL.of hp2, ixI (by omega), _, _, rfl, rfl, _, rfl, _, rfl, p, _, b, b, rfl, rfl, hp2, ixN_at (by rw [List.length_map]; omega), ?_⟩
          exact ⟨rfl, (gs.set a (at' gs a - 1)).set b (at' (gs.set a (at' gs a - 1)) b + 1), same_put s2 np, by rw [upd_same, set_ints], by rw [List.length_set, l2]⟩
        · exact ⟨rfl, gs, s1, upd_same, rfl⟩
      · rintro σ H2 ⟨rfl, rs, s2, hp2, lr⟩
        -- if pick == 3
        refine ⟨fun σ' H' => σ' = [some (.ref gA), some (.int c), some (.ref p), some (.int z), some (.int a), some (.int b)] ∧ ∃ rs : List Int, Same H H' ∧ H' p = some (.lst (rs.map V.int)) ∧ rs.length = gs.length, ?_, ?_⟩
        · refine ⟨_, rfl, rfl, _, rfl, ite2 (fun e => ?_) (fun e => ?_)⟩
          · refine ⟨_, rfl, _, rfl, p, _, a, _, rfl, rfl, SqL.of hp2, ixI (by omega), _, _, rfl, rfl, _, rfl, c, 23, 2, rfl, by decide, by decide, fun y y0 y1 => ?_⟩
            refine ⟨2, y, rfl, rfl, .inl ⟨by decide, by decide⟩, _, _, rfl, rfl, ?_⟩
            refine ⟨_, rfl, _, rfl, p, _, a, a, rfl, rfl, hp2, ixN_at (by rw [List.length_map]; omega), ?_⟩
            exact ⟨rfl, rs.set a (at' rs a + 1 - 2 * y), same_put s2 np, by rw [upd_same, set_ints], by rw [List.length_set, lr]⟩
          · exact ⟨rfl, rs, s2, hp2, lr⟩
        · rintro σ H3 ⟨rfl, rs, s3, hp3, lr⟩
          -- if pick == 4
          refine ⟨_, rfl, rfl, _, rfl, ite2 (fun e => ?_) (fun e => ?_)⟩
          · refine ⟨_, rfl, 1, rfl, p, _, rfl, SqL.of hp3, fun l nl => ?_⟩
            obtain ⟨ms, em⟩ := cut_ints rs (some 1) none
            exact k l ms _ (s3.trans (same_upd nl)) (by rw [upd_same, em])
          · -- if pick == 5
            refine ⟨fun σ' H' => σ' = [some (.ref gA), some (.int c), some (.ref p), some (.int z), some (.int a), some (.int b)] ∧ ∃ rs : List Int, Same H H' ∧ H' p = some (.lst (rs.map V.int)) ∧ rs.length = gs.length, ?_, ?_⟩
            · refine ⟨_, rfl, rfl, _, rfl, ite2 (fun e => ?_) (fun e => ?_)⟩
              · refine ⟨_, rfl, _, rfl, p, _, b, _, rfl, rfl, SqL.of hp3, ixI (by omega), _, rfl, _, rfl, p, _, a, _, rfl, rfl, SqL.of hp3, ixI (by omega), by show 2 ≤ sizeLine; decide, fun t nt => ?_⟩
                have npt : p ≠ t := ne_of_none hp3 nt
                have s4 := s3.trans (same_upd (o := .tup [V.int (at' rs b), V.int (at' rs a)]) nt)
                have hp4 : (upd H3 t (.tup [V.int (at' rs b), V.int (at' rs a)])) p = some (.lst (rs.map V.int)) := by rw [upd_ne npt]; exact hp3
                refine ⟨t, _, rfl, .inl (.inl upd_same), rfl, _, _, rfl, _, rfl, _, rfl, p, _, a, a, rfl, rfl, hp4, ixN_at (by rw [List.length_map]; omega), ?_⟩
                have s5 := same_put (p := p) (o := .lst ((rs.map V.int).set a (V.int (at' rs b)))) s4 np
                have hp5 : (upd (upd H3 t (.tup [V.int (at' rs b), V.int (at' rs a)])) p (.lst ((rs.map V.int).set a (V.int (at' rs b))))) p = some (.lst ((rs.set a (at' rs b)).map V.int)) := by rw [upd_same, set_ints]
                refine ⟨_, _, rfl, _, rfl, _, rfl, p, _, b, b, rfl, rfl, hp5, ixN_at (by rw [List.length_map, List.length_set]; omega), rfl, ?_⟩
                exact ⟨rfl, (rs.set a (at' rs b)).set b (at' rs a), same_put s5 np, by rw [upd_same, set_ints], by rw [List.length_set, List.length_set, lr]⟩
              · exact ⟨rfl, rs, s3, hp3, lr⟩
            · rintro σ H4 ⟨rfl, rs, s4, hp4, lr⟩
              exact ⟨_, rfl, k p rs _ s4 hp4⟩
end
end Eb
namespace Eb
open PySem PySem.Spec PyProof.Rows L2
theorem scLaw : FnScope ["_law_script", "_law_wants_here", "_law_weights", "_law_cell_here", "_law_quota", "_law_due", "_law_rows", "_law_actual"] ["_law_script"] (defScope sLaw) := ⟨rfl, rfl, rfl, by decide +kernel, rfl, by decide +kernel, by decide +kernel⟩
/-- the built-ins that the text calls are still the built-ins -/
structure Bu (mg : Str → Option Value) : Prop where
  len : mg "len" = none
  int : mg "int" = none
  abs : mg "abs" = none
  range : mg "range" = none
  list : mg "list" = none
  zip : mg "zip" = none
  sum : mg "sum" = none
  all : mg "all" = none
section
variable {P : Program} {w : World} {K : PySem.W.Frag} {mg : Str → Option Value} {base : Heap}
def spLaw (K : PySem.W.Frag) : Sp := fun vs H Q _ => ∃ (a : Addr) (ns : List Int), vs = [.ref a] ∧ SqL K H a (ns.map V.int) ∧ ns.length ≤ 63 ∧ ∀ H', Q (.bl true) H'
theorem ok_law {f fF fA fC fD fG fS fW fM : Addr} {fd fdF fdA fdC fdD fdG fdS fdW fdM : FuncData} (F : Fun K "law" "law" sLaw f fd) (B : Bu mg)
    (FF : Fun K "is_fair" "is_fair" sFair fF fdF) (bF : Binds K fdF ["wants", "weights", "given", "a", "b"] []) (gF : mg "is_fair" = some (.ref fF))
    (FA : Fun K "accepts_shares" "accepts_shares" sAcc fA fdA) (bA : Binds K fdA ["quota", "wants", "weights", "given"] []) (gA : mg "accepts_shares" = some (.ref fA))
    (FC : Fun K "_law_cell" "_law_cell" sCell fC fdC) (bC : Binds K fdC ["_law_script", "_law_k"] []) (gC : mg "_law_cell" = some (.ref fC))
    (FD : Fun K "_law_draw" "_law_draw" sDraw fD fdD) (bD : Binds K fdD ["_law_cell_here", "_law_k", "_law_many"] []) (gD : mg "_law_draw" = some (.ref fD))
    (FG : Fun K "_law_is_flag" "_law_is_flag" sFlag fG fdG) (bG : Binds K fdG ["_law_actual"] []) (gG : mg "_law_is_flag" = some (.ref fG))
    (FS : Fun K "_law_shares" "_law_shares" sShares fS fdS) (bS : Binds K fdS ["_law_quota", "_law_wants_here", "_law_weights"] []) (gS : mg "_law_shares" = some (.ref fS))
    (FW : Fun K "_law_wants" "_law_wants" sWants fW fdW) (bW : Binds K fdW ["_law_script"] []) (gW : mg "_law_wants" = some (.ref fW))
    (FM : Fun K "_law_moved" "_law_moved" sMoved fM fdM) (bM : Binds K fdM ["_law_given", "_law_cell_here"] []) (gM : mg "_law_moved" = some (.ref fM)) :
    FnOk P w K mg base CX0 3 f fd ["_law_script"] (spLaw K) := by
  have GA : FnOk P w K mg base CX0 2 fA fdA ["quota", "wants", "weights", "given"] (spAcc K) := ok_acc FA FF bF gF B.len B.zip B.sum B.list B.range B.all
  have GD : FnOk P w K mg base CX0 1 fD fdD ["_law_cell_here", "_law_k", "_law_many"] spDraw := ok_draw FD B.abs B.int B.range
  have GG : FnOk P w K mg base CX0 1 fG fdG ["_law_actual"] spFlag := ok_flag FG
  have GS : FnOk P w K mg base CX0 1 fS fdS ["_law_quota", "_law_wants_here", "_law_weights"] (spShares K) := ok_shares FS B.len B.range
  have GW : FnOk P w K mg base CX0 2 fW fdW ["_law_script"] (spWants K) := ok_wants FW FC bC gC FD bD gD B.len B.int B.abs B.range
  have GM : FnOk P w K mg base CX0 2 fM fdM ["_law_given", "_law_cell_here"] (spMoved K) := ok_moved FM FD bD gD B.len B.int B.abs B.range B.list
  refine F.ok scLaw (fun vs H Q E h => ?_) (fun cdv A outer s H vs Q E hr h => ?_)
  · obtain ⟨a, ns, rfl, _⟩ := h
    rfl
  · obtain ⟨a, ns, rfl, hS, hlen, k⟩ := h
    have hr1 : Room 1 _ := hr.mono (by decide)
    refine ⟨_, pss_cons (ps_asg (pe_call GW hr (by rfl) gW FW.kp bW .nil pass0 (pa_cons (pv 0) pa_nil)) (pg_tup rfl (pgs_cons (pg_name (i := 1) scLaw.nd rfl (.inl rfl)) (pgs_cons (pg_name (i := 2) scLaw.nd rfl (.inl rfl)) pgs_nil))))
      (pss_cons (ps_for PassesOwn.never rfl (pi_list (pe_slice sl_list (pv 0) po_none (po_some pe_int))) (pg_name (i := 3) scLaw.nd rfl (.inl rfl))
        (pss_cons (ps_set (i := 4) scLaw.nd rfl (.inl rfl) (pe_call GD hr1 (by rfl) gD FD.kp bD .nil pass0 (pa_cons (pe_callTy call_int1 (by rfl) B.int (by decide +kernel) (pa_cons (pv 3) pa_nil)) (pa_cons pe_int (pa_cons pe_int pa_nil)))))
        (pss_cons (ps_set (i := 5) scLaw.nd rfl (.inl rfl) (pe_call GS hr1 (by rfl) gS FS.kp bS .nil pass0 (pa_cons (pv 4) (pa_cons (pv 1) (pa_cons (pv 2) pa_nil)))))
        (pss_cons (ps_set (i := 6) scLaw.nd rfl (.inl rfl) (pe_call GM hr (by rfl) gM FM.kp bM .nil pass0 (pa_cons (pv 5) (pa_cons (pe_callTy call_int1 (by rfl) B.int (by decide +kernel) (pa_cons (pv 3) pa_nil)) pa_nil))))
        (pss_cons (ps_set (i := 7) scLaw.nd rfl (.inl rfl) (pe_call GA hr (by rfl) gA FA.kp bA .nil pass0 (pa_cons (pv 4) (pa_cons (pe_callTy call_list_of (by rfl) B.list (by decide +kernel) (pa_cons (pv 1) pa_nil))
            (pa_cons (pe_callTy call_list_of (by rfl) B.list (by decide +kernel) (pa_cons (pv 2) pa_nil)) (pa_cons (pe_callTy call_list_of (by rfl) B.list (by decide +kernel) (pa_cons (pv 6) pa_nil)) pa_nil))))))
        (pss_one (ps_if (PW.pt (pw_or (pt_not (pt_val (pe_call GG hr1 (by rfl) gG FG.kp bG .nil pass0 (pa_cons (pv 7) pa_nil)))) (pw_or1 (pt_cmpR op_ne (pv 7) (pe_cmpR (op_eqD hr.units) (pv 6) (pv 5) (nomark _)) (nomark _)))))
          (pss_one (ps_ret pe_bl)) pss_nil)))))))
      (pss_one (ps_ret pe_bl))), ?_⟩
    -- wants, weights
    refine ⟨_, rfl, a, ns, rfl, hS, fun t wA uA ws us H1 s1 ht hw hu lu lw pw pu => ?_⟩
    refine ⟨t, _, rfl, SqT.of ht, rfl, _, _, rfl, _, _, rfl, rfl, ?_⟩
    -- script[:40]
    refine ⟨_, rfl, 40, rfl, a, _, rfl, s1.seq hS, fun l nl => ?_⟩
    obtain ⟨ms, em⟩ := cut_ints ns none (some 40)
    rw [em]
    have s2 : Same H1 (upd H1 l (.lst (ms.map V.int))) := same_upd nl
    refine ⟨l, rfl, ⟨_, SqL.of upd_same⟩, for_list (K := K) (a := l) (xs := ms.map V.int) (fun i σ' H' => ∃ y3 y4 y5 y6 y7 : Option V, σ' = [some (.ref a), some (.ref wA), some (.ref uA), y3, y4, y5, y6, y7] ∧ Same (upd H1 l (.lst (ms.map V.int))) H')
      ⟨none, none, none, none, none, rfl, Same.refl _⟩ (fun i σ' H' _ ⟨_, _, _, _, _, _, sm⟩ => SqL.of (sm _ _ upd_same)) ?_ ?_⟩
    · rintro i x σ' H3 hi ⟨y3, y4, y5, y6, y7, rfl, s3⟩
      obtain ⟨_, rfl⟩ := getI hi
      have hw3 : H3 wA = some (.lst (ws.map V.int)) := s3 _ _ (s2 _ _ hw)
      have hu3 : H3 uA = some (.lst (us.map V.int)) := s3 _ _ (s2 _ _ hu)
      -- quota
      refine ⟨_, rfl, .inl ⟨_, rfl, _, 5, 60, rfl, by decide, by decide, fun q q0 q1 => ?_⟩⟩
      -- due
      refine ⟨_, rfl, _, rfl, _, rfl, q, wA, uA, ws, us, rfl, SqL.of hw3, SqL.of hu3, lu, lw, q0, by omega, pw, pu, fun pD due H4 s4 _ hD G => ?_⟩
      -- rows
      refine ⟨_, rfl, _, rfl, .inl ⟨_, rfl, pD, due, _, rfl, SqL.of hD, fun pR rows H5 s5 hR => ?_⟩⟩
      have hw5 := s5 _ _ (s4 _ _ hw3)
      have hu5 := s5 _ _ (s4 _ _ hu3)
      have hD5 := s5 _ _ hD
      -- actual
      refine ⟨_, rfl, _, rfl, wA, _, rfl, .inl (SqL.of hw5), fun l1 n1 => ?_⟩
      have t1 : Same H5 (upd H5 l1 (.lst (ws.map V.int))) := same_upd n1
      refine ⟨_, rfl, uA, _, rfl, .inl (SqL.of (t1 _ _ hu5)), fun l2 n2 => ?_⟩
      have t2 := t1.trans (same_upd (o := .lst (us.map V.int)) n2)
      refine ⟨_, rfl, pR, _, rfl, .inl (SqL.of (t2 _ _ hR)), fun l3 n3 => ?_⟩
      have t3 := t2.trans (same_upd (o := .lst (rows.map V.int)) n3)
      have e1 := same_upd (o := .lst (rows.map V.int)) n3 _ _ (same_upd (o := .lst (us.map V.int)) n2 _ _ (upd_same (H := H5) (a := l1) (o := .lst (ws.map V.int))))
      have e2 := same_upd (o := .lst (rows.map V.int)) n3 _ _ (upd_same (H := upd H5 l1 (.lst (ws.map V.int))) (a := l2) (o := .lst (us.map V.int)))
      refine ⟨q, l1, l2, l3, ws, us, rows, rfl, SqL.of e1, SqL.of e2, SqL.of upd_same, lu, lw, pu, fun r H6 s6 hr => ?_⟩
      have u6 := t3.trans s6
      have ans : r = decide (rows = due) := by
        rw [Bool.eq_iff_iff, hr, decide_eq_true_eq]
        exact ⟨fun z => acc_unique (fun i hi => (pu i hi).1) z G, fun z => by rw [z]; exact G⟩
      -- not flag(actual) or actual != (rows == due)
      refine ⟨_, rfl, r, rfl, true, rfl, iteF ?_⟩
      refine ⟨_, rfl, _, rfl, _, rfl, .list (rows.map PyData.int), .list (due.map PyData.int), .lst (SqL.of (u6 _ _ hR)) (dp_ints rows), .lst (SqL.of (u6 _ _ hD5)) (dp_ints due), sh_ints _, sh_ints _, ?_⟩
      rw [eqv_ints, ← ans]
      refine ⟨rfl, _, rfl, iteNS rfl ?_⟩
      exact ⟨_, _, _, _, _, rfl, s3.trans (s4.trans (s5.trans u6))⟩
    · rintro σ' H3 ⟨y3, y4, y5, y6, y7, rfl, s3⟩
      exact k _
end
end Eb
namespace Eb
open PySem PySem.Spec PyProof.Rows L2
/-! ### what the top has written -/
theorem all_mk {l : PySem.W.OpenLaw} {w : World} {K : PySem.W.Frag} {h : Heap} {mg : Str → Option Value} {fa f1 f2 f3 f4 f5 f6 f7 f8 f9 : Addr} (X : K.In h) (G : h.Ns mainGlobals mg) (hfa : mg "law" = some (.ref fa))
    {od1 an1 od2 an2 od3 an3 od4 an4 od5 an5 od6 an6 od7 an7 od8 an8 od9 an9 : Option Addr} {sl1 sl2 sl3 sl4 sl5 sl6 sl7 sl8 sl9 : Array (Option Value)} {oc1 kV1 dc1 pm1 cd1 ct1 oc2 kV2 dc2 pm2 cd2 ct2 oc3 kV3 dc3 pm3 cd3 ct3 oc4 kV4 dc4 pm4 cd4 ct4 oc5 kV5 dc5 pm5 cd5 ct5 oc6 kV6 dc6 pm6 cd6 ct6 oc7 kV7 dc7 pm7 cd7 ct7 oc8 kV8 dc8 pm8 cd8 ct8 oc9 kV9 dc9 pm9 cd9 ct9 : Value}
    (a1 : PySem.W.nsIn K mainGlobals "is_fair" = some (some (.ref f1))) (l1 : K.lookup f1 = some ⟨oc1, od1, .func (PySem.W.fnOf "is_fair" "is_fair" (defArgs sFair) (defBody sFair) (defScope sFair) .none kV1 dc1 pm1 an1 cd1 ct1), sl1⟩) (c1 : PySem.W.codeIn K cd1 "is_fair" = true) (k1 : PySem.W.keepIn K (.ref f1) = true)
    (a2 : PySem.W.nsIn K mainGlobals "accepts_shares" = some (some (.ref f2))) (l2 : K.lookup f2 = some ⟨oc2, od2, .func (PySem.W.fnOf "accepts_shares" "accepts_shares" (defArgs sAcc) (defBody sAcc) (defScope sAcc) .none kV2 dc2 pm2 an2 cd2 ct2), sl2⟩) (c2 : PySem.W.codeIn K cd2 "accepts_shares" = true) (k2 : PySem.W.keepIn K (.ref f2) = true)
    (a3 : PySem.W.nsIn K mainGlobals "_law_cell" = some (some (.ref f3))) (l3 : K.lookup f3 = some ⟨oc3, od3, .func (PySem.W.fnOf "_law_cell" "_law_cell" (defArgs sCell) (defBody sCell) (defScope sCell) .none kV3 dc3 pm3 an3 cd3 ct3), sl3⟩) (c3 : PySem.W.codeIn K cd3 "_law_cell" = true) (k3 : PySem.W.keepIn K (.ref f3) = true)
    (a4 : PySem.W.nsIn K mainGlobals "_law_draw" = some (some (.ref f4))) (l4 : K.lookup f4 = some ⟨oc4, od4, .func (PySem.W.fnOf "_law_draw" "_law_draw" (defArgs sDraw) (defBody sDraw) (defScope sDraw) .none kV4 dc4 pm4 an4 cd4 ct4), sl4⟩) (c4 : PySem.W.codeIn K cd4 "_law_draw" = true) (k4 : PySem.W.keepIn K (.ref f4) = true)
    (a5 : PySem.W.nsIn K mainGlobals "_law_is_flag" = some (some (.ref f5))) (l5 : K.lookup f5 = some ⟨oc5, od5, .func (PySem.W.fnOf "_law_is_flag" "_law_is_flag" (defArgs sFlag) (defBody sFlag) (defScope sFlag) .none kV5 dc5 pm5 an5 cd5 ct5), sl5⟩) (c5 : PySem.W.codeIn K cd5 "_law_is_flag" = true) (k5 : PySem.W.keepIn K (.ref f5) = true)
    (a6 : PySem.W.nsIn K mainGlobals "_law_shares" = some (some (.ref f6))) (l6 : K.lookup f6 = some ⟨oc6, od6, .func (PySem.W.fnOf "_law_shares" "_law_shares" (defArgs sShares) (defBody sShares) (defScope sShares) .none kV6 dc6 pm6 an6 cd6 ct6), sl6⟩) (c6 : PySem.W.codeIn K cd6 "_law_shares" = true) (k6 : PySem.W.keepIn K (.ref f6) = true)
    (a7 : PySem.W.nsIn K mainGlobals "_law_wants" = some (some (.ref f7))) (l7 : K.lookup f7 = some ⟨oc7, od7, .func (PySem.W.fnOf "_law_wants" "_law_wants" (defArgs sWants) (defBody sWants) (defScope sWants) .none kV7 dc7 pm7 an7 cd7 ct7), sl7⟩) (c7 : PySem.W.codeIn K cd7 "_law_wants" = true) (k7 : PySem.W.keepIn K (.ref f7) = true)
    (a8 : PySem.W.nsIn K mainGlobals "_law_moved" = some (some (.ref f8))) (l8 : K.lookup f8 = some ⟨oc8, od8, .func (PySem.W.fnOf "_law_moved" "_law_moved" (defArgs sMoved) (defBody sMoved) (defScope sMoved) .none kV8 dc8 pm8 an8 cd8 ct8), sl8⟩) (c8 : PySem.W.codeIn K cd8 "_law_moved" = true) (k8 : PySem.W.keepIn K (.ref f8) = true)
    (a9 : PySem.W.nsIn K mainGlobals "law" = some (some (.ref f9))) (l9 : K.lookup f9 = some ⟨oc9, od9, .func (PySem.W.fnOf "law" "law" (defArgs sLaw) (defBody sLaw) (defScope sLaw) .none kV9 dc9 pm9 an9 cd9 ct9), sl9⟩) (c9 : PySem.W.codeIn K cd9 "law" = true) (k9 : PySem.W.keepIn K (.ref f9) = true)
    (z1 : PySem.W.nsIn K mainGlobals "len" = some none)
    (z2 : PySem.W.nsIn K mainGlobals "int" = some none)
    (z3 : PySem.W.nsIn K mainGlobals "abs" = some none)
    (z4 : PySem.W.nsIn K mainGlobals "range" = some none)
    (z5 : PySem.W.nsIn K mainGlobals "list" = some none)
    (z6 : PySem.W.nsIn K mainGlobals "zip" = some none)
    (z7 : PySem.W.nsIn K mainGlobals "sum" = some none)
    (z8 : PySem.W.nsIn K mainGlobals "all" = some none)
    : ∃ fd : FuncData, (∀ (s : Shared) (v : Value), BindsTo s fd ⟨[v], []⟩ [("_law_script", v)]) ∧ ∀ base : Heap, K.In base → base.Ns mainGlobals mg → FnOk l.prog w K mg base CX0 3 fa fd ["_law_script"] (spLaw K) := by
  have e := hfa.symm.trans (PySem.W.mg_of X G a9)
  cases e
  have F1 := fun_mk (st := sFair) l1 c1 k1
  have F2 := fun_mk (st := sAcc) l2 c2 k2
  have F3 := fun_mk (st := sCell) l3 c3 k3
  have F4 := fun_mk (st := sDraw) l4 c4 k4
  have F5 := fun_mk (st := sFlag) l5 c5 k5
  have F6 := fun_mk (st := sShares) l6 c6 k6
  have F7 := fun_mk (st := sWants) l7 c7 k7
  have F8 := fun_mk (st := sMoved) l8 c8 k8
  have F9 := fun_mk (st := sLaw) l9 c9 k9
  have b1 := F1.binds (ps := ["wants", "weights", "given", "a", "b"]) fun _ _ _ _ _ _ us hl => match us, hl with | [_, _, _, _, _], _ => rfl
  have b2 := F2.binds (ps := ["quota", "wants", "weights", "given"]) fun _ _ _ _ _ _ us hl => match us, hl with | [_, _, _, _], _ => rfl
  have b3 := F3.binds (ps := ["_law_script", "_law_k"]) fun _ _ _ _ _ _ us hl => match us, hl with | [_, _], _ => rfl
  have b4 := F4.binds (ps := ["_law_cell_here", "_law_k", "_law_many"]) fun _ _ _ _ _ _ us hl => match us, hl with | [_, _, _], _ => rfl
  have b5 := F5.binds (ps := ["_law_actual"]) fun _ _ _ _ _ _ us hl => match us, hl with | [_], _ => rfl
  have b6 := F6.binds (ps := ["_law_quota", "_law_wants_here", "_law_weights"]) fun _ _ _ _ _ _ us hl => match us, hl with | [_, _, _], _ => rfl
  have b7 := F7.binds (ps := ["_law_script"]) fun _ _ _ _ _ _ us hl => match us, hl with | [_], _ => rfl
  have b8 := F8.binds (ps := ["_law_given", "_law_cell_here"]) fun _ _ _ _ _ _ us hl => match us, hl with | [_, _], _ => rfl
  have B : Bu mg := ⟨PySem.W.mg_none_of X G z1, PySem.W.mg_none_of X G z2, PySem.W.mg_none_of X G z3, PySem.W.mg_none_of X G z4, PySem.W.mg_none_of X G z5, PySem.W.mg_none_of X G z6, PySem.W.mg_none_of X G z7, PySem.W.mg_none_of X G z8⟩
  exact ⟨PySem.W.fnOf "law" "law" (defArgs sLaw) (defBody sLaw) (defScope sLaw) .none kV9 dc9 pm9 an9 cd9 ct9, fun s v => .of_eq rfl, fun base _ _ =>
    ok_law F9 B F1 b1 (PySem.W.mg_of X G a1) F2 b2 (PySem.W.mg_of X G a2) F3 b3 (PySem.W.mg_of X G a3) F4 b4 (PySem.W.mg_of X G a4) F5 b5 (PySem.W.mg_of X G a5) F6 b6 (PySem.W.mg_of X G a6) F7 b7 (PySem.W.mg_of X G a7) F8 b8 (PySem.W.mg_of X G a8)⟩
end Eb
open PySem PySem.W PyProof.Rows in
set_option maxRecDepth 100000 in
set_option maxHeartbeats 0 in
theorem PySem.Challenge.cw_ebbkeep_k10_whole_shares_are_checked_holds : PySem.Challenge.rw_ebbkeep_k10_whole_shares_are_checked.Holds := by
  w_on; o_law; k_head; (case hw => w_witness2)
  k_fill
  refine L2.walk_of (l := PySem.Challenge.rw_ebbkeep_k10_whole_shares_are_checked) (n := 63) (k := 3) (x := "_law_script") (CX := fun _ => L2.CX0) (sp := fun w => Eb.spLaw _) rfl (by decide) rfl ⟨rfl, by decide, by decide⟩ (fun w h Y => PySem.W.kIn_of Y) ?F (fun _ _ a ns hl _ hS => ⟨a, ns, rfl, hS, hl, fun _ => rfl⟩) (fun _ _ _ _ _ h => h)
  case F =>
    intro w mg fa h KX G hmg
    refine' Eb.all_mk KX G hmg ?a1 ?l1 ?c1 ?k1 ?a2 ?l2 ?c2 ?k2 ?a3 ?l3 ?c3 ?k3 ?a4 ?l4 ?c4 ?k4 ?a5 ?l5 ?c5 ?k5 ?a6 ?l6 ?c6 ?k6 ?a7 ?l7 ?c7 ?k7 ?a8 ?l8 ?c8 ?k8 ?a9 ?l9 ?c9 ?k9 ?z1 ?z2 ?z3 ?z4 ?z5 ?z6 ?z7 ?z8
    (case a1 => k_is)
    (case l1 => k_is)
    (case c1 => k_is)
    (case k1 => k_is)
    (case a2 => k_is)
    (case l2 => k_is)
    (case c2 => k_is)
    (case k2 => k_is)
    (case a3 => k_is)
    (case l3 => k_is)
    (case c3 => k_is)
    (case k3 => k_is)
    (case a4 => k_is)
    (case l4 => k_is)
    (case c4 => k_is)
    (case k4 => k_is)
    (case a5 => k_is)
    (case l5 => k_is)
    (case c5 => k_is)
    (case k5 => k_is)
    (case a6 => k_is)
    (case l6 => k_is)
    (case c6 => k_is)
    (case k6 => k_is)
    (case a7 => k_is)
    (case l7 => k_is)
    (case c7 => k_is)
    (case k7 => k_is)
    (case a8 => k_is)
    (case l8 => k_is)
    (case c8 => k_is)
    (case k8 => k_is)
    (case a9 => k_is)
    (case l9 => k_is)
    (case c9 => k_is)
    (case k9 => k_is)
    (case z1 => k_is)
    (case z2 => k_is)
    (case z3 => k_is)
    (case z4 => k_is)
    (case z5 => k_is)
    (case z6 => k_is)
    (case z7 => k_is)
    (case z8 => k_is)
