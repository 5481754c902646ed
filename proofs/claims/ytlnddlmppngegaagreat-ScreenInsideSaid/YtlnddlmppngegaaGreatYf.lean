/- For every input the law ScreenInside returns true, and its arguments read as before: every list in the box whose elements have the sum 0 in each island lies between the two values. No conditions. (Texts joined by program.) -/
import Derived.Test.YtlnddlmppngegaaGreatRows
import Derived.ProofKit
import Derived.OpenShut
import Derived.ChangeOld
import Derived.Below
import Derived.Carry
import Derived.SizedLaws
import Derived.Test.YtlnddlmppngegaaGreatYe
/- The screen's law: the sanity check. -/
set_option linter.unusedVariables false
set_option linter.unusedSimpArgs false
set_option maxRecDepth 100000
namespace Go.Ev.S
open Go Go.Ev Go.Proofs NumA
theorem cR_t (q : Rat) : (cR q).t = tc q := rfl
theorem fit_small {v u : Int} (hv : -4294967296 < v ∧ v < 4294967296) (hu : 0 < u ∧ u < 4294967296) : Fit 1 (Rat.divInt v u) := fit_div hu.1 (by rw [P_one]; omega) (by rw [P_one]; omega)
theorem cc11 {n : Nat} {xs : List Rr} {lo hi is : List Int} (w : ∀ x ∈ xs, x.ok n) (hn0 : 0 < n) (hn : n ≤ 1000000) (hx : xs.length ≤ 1000000) (g1 : lo.length ≤ 1000000) (g2 : hi.length ≤ 1000000) (g3 : is.length ≤ 1000000) {E : Option (Rat × Rat)} (hE : exP xs lo hi is = E) :
    g11 [tl xs, ti lo, ti hi, ti is] = some (.ts [oT (E.map (·.1)), oT (E.map (·.2)), .v (.bool E.isSome)]) := by
  rw [c11 w hn0 hn hx g1 g2 g3, hE]; rfl
theorem fitL_bound (l : List Int) {n : Int} (hn : 0 < n) (k i : Nat) : 0 ≤ (fitL l n k).getD i 0 ∧ (fitL l n k).getD i 0 < n := by
  rw [List.getD_eq_getElem?_getD]
  unfold fitL
  rw [List.getElem?_map]
  by_cases h : i < k
  · rw [List.getElem?_range h]
    simp only [Option.map_some, Option.getD_some]
    split
    · exact modI_lt hn
    · omega
  · rw [List.getElem?_eq_none (by simpa using h)]
    simpa using hn
theorem raw_ok {xs : List Rr} (hU : ∀ x ∈ xs, U32 x.l ∧ U32 x.k) (h : rawP xs) : ∀ x ∈ xs, x.ok 4 := fun x hx => ⟨(hU x hx).1, (hU x hx).2, (h.2 x hx).1, (h.2 x hx).2⟩
def pt2 (a b : Int) (i : Nat) : Int := if i = 0 then a else b
theorem two_cases {p : Nat → Prop} (h0 : p 0) (h1 : p 1) : ∀ i, i < 2 → p i := fun i hi => by
  have : i = 0 ∨ i = 1 := by omega
  rcases this with rfl | rfl
  · exact h0
  · exact h1
theorem awk1 : g11 [tl [cR (Rat.divInt 1 2), cR (Rat.divInt (-1) 4)], ti [0, -6], ti [10, 4], ti [0, 0]] = some (.ts [tc 0, tc (Rat.divInt 9 2), .v (.bool true)]) := by
  have w : ∀ x ∈ [cR (Rat.divInt 1 2), cR (Rat.divInt (-1) 4)], x.ok 1 := by
    intro x hx
    simp only [List.mem_cons, List.not_mem_nil, or_false] at hx
    rcases hx with rfl | rfl
    · exact cR_ok (fit_small (by omega) (by omega))
    · exact cR_ok (fit_small (by omega) (by omega))
  have t0 : tF [cR (Rat.divInt 1 2), cR (Rat.divInt (-1) 4)] 0 = Rat.divInt 1 2 := cR_v _
  have t1 : tF [cR (Rat.divInt 1 2), cR (Rat.divInt (-1) 4)] 1 = Rat.divInt (-1) 4 := cR_v _
  have s0 : tF ([cR (Rat.divInt 1 2), cR (Rat.divInt (-1) 4)].map negR) 0 = -Rat.divInt 1 2 := by rw [map_negR_tF _ (by decide), t0]
  have s1 : tF ([cR (Rat.divInt 1 2), cR (Rat.divInt (-1) 4)].map negR) 1 = -Rat.divInt (-1) 4 := by rw [map_negR_tF _ (by decide), t1]
  have hin : inE [cR (Rat.divInt 1 2), cR (Rat.divInt (-1) 4)] [0, -6] [10, 4] [0, 0] := ⟨by decide, rfl, rfl, rfl, two_cases (by decide) (by decide)⟩
  have hy : Feas (iF [0, -6]) (iF [10, 4]) (iF [0, 0]) 2 (pt2 6 (-6)) := ⟨two_cases (by decide) (by decide), two_cases (by decide) (by decide), two_cases (by decide) (by decide)⟩
  have hz : Feas (iF [0, -6]) (iF [10, 4]) (iF [0, 0]) 2 (pt2 0 0) := ⟨two_cases (by decide) (by decide), two_cases (by decide) (by decide), two_cases (by decide) (by decide)⟩
  have oy : Opt (tF [cR (Rat.divInt 1 2), cR (Rat.divInt (-1) 4)]) (iF [0, -6]) (iF [10, 4]) (iF [0, 0]) 2 (pt2 6 (-6)) :=
    ⟨fun _ => Rat.divInt 1 2, two_cases ⟨fun h => absurd h (by rw [t0]; exact Rat.lt_irrefl), fun h => absurd h (by rw [t0]; exact Rat.lt_irrefl)⟩ ⟨fun h => absurd h (by rw [t1]; decide +kernel), fun _ => rfl⟩⟩
  have oz : Opt (tF ([cR (Rat.divInt 1 2), cR (Rat.divInt (-1) 4)].map negR)) (iF [0, -6]) (iF [10, 4]) (iF [0, 0]) 2 (pt2 0 0) :=
    ⟨fun _ => -Rat.divInt (-1) 4, two_cases ⟨fun h => absurd h (by rw [s0]; decide +kernel), fun _ => rfl⟩ ⟨fun h => absurd h (by rw [s1]; exact Rat.lt_irrefl), fun h => absurd h (by rw [s1]; exact Rat.lt_irrefl)⟩⟩
  have hv := exP_val (y := pt2 6 (-6)) (z := pt2 0 0) hin hy oy hz oz
  have v1 : valQ (tF [cR (Rat.divInt 1 2), cR (Rat.divInt (-1) 4)]) 2 (pt2 6 (-6)) = Rat.divInt 9 2 := by
    simp only [valQ, sumQ, t0, t1]; decide +kernel
  have v2 : -(valQ (tF ([cR (Rat.divInt 1 2), cR (Rat.divInt (-1) 4)].map negR)) 2 (pt2 0 0)) = 0 := by
    simp only [valQ, sumQ, s0, s1]; decide +kernel
  rw [c11 w (by decide) (by decide) (by decide) (by decide) (by decide) (by decide), hv]
  simp only [List.length_cons, List.length_nil, Nat.zero_add, Nat.reduceAdd]
  rw [v1, v2]
  rfl
theorem awk2 : g11 [tl [cR 0, cR 0], ti [1, 0], ti [2, 3], ti [0, 0]] = some (.ts [zT, zT, .v (.bool false)]) := by
  have w : ∀ x ∈ [cR 0, cR 0], x.ok 1 := by
    intro x hx
    simp only [List.mem_cons, List.not_mem_nil, or_false] at hx
    rcases hx with rfl | rfl <;> exact cR_ok (fit_zero (by omega))
  have hno : ¬ ∃ y, Feas (iF [1, 0]) (iF [2, 3]) (iF [0, 0]) 2 y := no_lo (k := 0) (by decide)
  rw [c11 w (by decide) (by decide) (by decide) (by decide) (by decide) (by decide), exP_none hno]
  rfl
theorem cmpQ_refl (q : Rat) : cmpQ q q = 0 := by unfold cmpQ; rw [if_neg Rat.lt_irrefl, if_pos rfl]
def keep13 : Nat → List Nat := fun _ => []
noncomputable def sp13 : Nat → Option Spec := (more 26 (viewSpec g26) (more 11 (viewSpec g11) (more 15 (viewSpec g15) (more 30 (viewSpec g30) (more 14 (viewSpec g14) noneS)))))
theorem hs13 : ∀ f s, sp13 f = some s → SpecOk Tryz.prog f s := (more_ok s26 (more_ok s11 (more_ok s15 (more_ok s30 (more_ok s14 none_ok)))))
noncomputable def fu13 : List T → Nat := fun _ => 4398046511104
noncomputable def g13 : List T → Option Ret := fun ts => if ts.length = 0 then pureRun ty sp13 keep13 (fu13 ts) false Tryz.f13.results (Tryz.f13.body.getD .skip) ts else none
theorem s13 : SpecOk Tryz.prog 13 (viewSpec g13) := pure_ok mixed ty_ok hs13 Tryz.func13 rfl (by kernel_rfl) (enters_of Tryz.func13 (by kernel_rfl) rfl) keep13 fu13 false 0 (by decide)
set_option maxHeartbeats 4000000 in
theorem c13  : g13 [] = some (.ts [.v (.bool true)]) := by
  have run : ∀ (fuel : Nat) (hf : 1099511627776 < fuel) (c : Code) (hc : Tryz.f13.body = some c), pureRun ty sp13 keep13 fuel false Tryz.f13.results c [] = some (.ts [.v (.bool true)]) := by
   intro fuel hf c hc
   injection hc with hc
   subst hc
   refine pure_wc ?_
   refine wsr ?_
   refine xa rfl rfl rfl rfl ?_
   refine X_endS ?_
   try dsimp only [St.put, szA, List.length, Nat.reduceAdd]
   refine wsr ?_
   refine X_op' rfl (A_callV rfl rfl rfl rfl (.cons (V_t rfl) (K_t rfl) (.cons (V_t rfl) (K_t rfl) .nil)) (c26 (by omega) (by omega) (by omega) (by omega))) ?_
   refine X_op' rfl (A_callV rfl rfl rfl rfl (.cons (V_t rfl) (K_t rfl) (.cons (V_t rfl) (K_t rfl) .nil)) (c26 (by omega) (by omega) (by omega) (by omega))) ?_
   refine X_op' rfl (A_bs rfl rfl rfl rfl rfl (.cons (V_t rfl) (K_t rfl) (.cons (V_t rfl) (K_t rfl) .nil)) rfl rfl (by decide)) ?_
   refine X_op' rfl (A_bs rfl rfl rfl rfl rfl (.cons (V_t rfl) (K_t rfl) (.cons (V_t rfl) (K_t rfl) .nil)) rfl rfl (by decide)) ?_
   refine X_op' rfl (A_bs rfl rfl rfl rfl rfl (.cons (V_t rfl) (K_t rfl) (.cons (V_t rfl) (K_t rfl) .nil)) rfl rfl (by decide)) ?_
   refine X_op' rfl (A_bs rfl rfl rfl rfl rfl (.cons (V_t rfl) (K_t rfl) (.cons (V_t rfl) (K_t rfl) .nil)) rfl rfl (by decide)) ?_
   refine X_op' rfl (A_callV rfl rfl rfl rfl (.cons (V_m rfl rfl rfl rfl) (K_m rfl) (.cons (V_m rfl rfl rfl rfl) (K_m rfl) (.cons (V_m rfl rfl rfl rfl) (K_m rfl) (.cons (V_m rfl rfl rfl rfl) (K_m rfl) .nil)))) awk1) ?_
   refine X_op' rfl (A_mvU (.inl rfl) rfl) ?_
   refine X_op' rfl (A_ext rfl rfl rfl) ?_
   refine X_op' rfl (A_ext rfl rfl rfl) ?_
   refine X_op' rfl (A_ext rfl rfl rfl) ?_
   refine X_op' rfl (A_alloc rfl rfl) ?_
   refine X_op' rfl (A_alloc rfl rfl) ?_
   refine X_op' rfl (A_stV rfl rfl rfl (V_t rfl) (K_t rfl) rfl rfl rfl rfl rfl rfl rfl) ?_
   refine X_op' rfl (A_stV rfl rfl rfl (V_t rfl) (K_t rfl) rfl rfl rfl rfl rfl rfl rfl) ?_
   refine xa rfl rfl rfl rfl ?_
   refine X_endS ?_
   try dsimp only [St.put, szA, List.length, Nat.reduceAdd]
   refine wsr ?_
   refine X_op' rfl (A_callV rfl rfl rfl rfl .nil c15) ?_
   refine X_op' rfl (A_callV rfl rfl rfl rfl .nil c15) ?_
   refine X_op' rfl (A_bs rfl rfl rfl rfl rfl (.cons (V_t rfl) (K_t rfl) (.cons (V_t rfl) (K_t rfl) .nil)) rfl rfl (by decide)) ?_
   refine X_op' rfl (A_bs rfl rfl rfl rfl rfl (.cons (V_t rfl) (K_t rfl) (.cons (V_t rfl) (K_t rfl) .nil)) rfl rfl (by decide)) ?_
   refine X_op' rfl (A_bs rfl rfl rfl rfl rfl (.cons (V_t rfl) (K_t rfl) (.cons (V_t rfl) (K_t rfl) .nil)) rfl rfl (by decide)) ?_
   refine X_op' rfl (A_bs rfl rfl rfl rfl rfl (.cons (V_t rfl) (K_t rfl) (.cons (V_t rfl) (K_t rfl) .nil)) rfl rfl (by decide)) ?_
   refine X_op' rfl (A_callV rfl rfl rfl rfl (.cons (V_m rfl rfl rfl rfl) (K_m rfl) (.cons (V_m rfl rfl rfl rfl) (K_m rfl) (.cons (V_m rfl rfl rfl rfl) (K_m rfl) (.cons (V_m rfl rfl rfl rfl) (K_m rfl) .nil)))) awk2) ?_
   refine X_op' rfl (A_mvU (.inl rfl) rfl) ?_
   refine X_op' rfl (A_ext rfl rfl rfl) ?_
   refine X_op' rfl (A_ext rfl rfl rfl) ?_
   refine X_op' rfl (A_ext rfl rfl rfl) ?_
   refine X_op' rfl (A_alloc rfl rfl) ?_
   refine X_op' rfl (A_alloc rfl rfl) ?_
   refine X_op' rfl (A_stV rfl rfl rfl (V_t rfl) (K_t rfl) rfl rfl rfl rfl rfl rfl rfl) ?_
   refine X_op' rfl (A_stV rfl rfl rfl (V_t rfl) (K_t rfl) rfl rfl rfl rfl rfl rfl rfl) ?_
   refine xa rfl rfl rfl rfl ?_
   refine X_endS ?_
   try dsimp only [St.put, szA, List.length, Nat.reduceAdd]
   refine wsr ?_
   refine xm rfl rfl rfl rfl ?_
   refine xm rfl rfl rfl rfl ?_
   refine X_yes' rfl rfl rfl rfl (A_mvT (.inl rfl) rfl rfl) ?_
   refine X_yes' rfl rfl rfl rfl (A_not rfl rfl) ?_
   refine X_op' rfl (A_pickT rfl rfl rfl rfl) ?_
   refine xm rfl rfl rfl rfl ?_
   refine X_yes' rfl rfl rfl rfl (A_ld rfl rfl rfl (ld_mp rfl rfl rfl rfl rfl rfl)) ?_
   refine X_yes' rfl rfl rfl rfl (A_callV rfl rfl rfl rfl (.cons (V_t rfl) (K_t rfl) .nil) ((c30 (Rw.can (NumA.fit_zero (m := 1) (by omega))) (by omega) (by omega)).trans (show some (Ret.ts [ii (sgQ (rv (decide ((0 : Rat).num < 0)) (en ((0 : Rat).num.natAbs : Int)) (en ((0 : Rat).den : Int))))]) = some (Ret.ts [ii 0]) by rw [tc_rv]; rfl))) ?_
   refine X_yes' rfl rfl rfl rfl (A_int rfl rfl rfl ⟨by decide, by decide⟩ rfl) ?_
   refine X_op' rfl (A_pickT rfl rfl rfl rfl) ?_
   refine xm rfl rfl rfl rfl ?_
   refine X_yes' rfl rfl rfl rfl (A_ld rfl rfl rfl (ld_mp rfl rfl rfl rfl rfl rfl)) ?_
   refine X_yes' rfl rfl rfl rfl (A_callV rfl rfl rfl rfl (.cons (V_t rfl) (K_t rfl) (.cons (V_t rfl) (K_t rfl) .nil)) (c26 (by omega) (by omega) (by omega) (by omega))) ?_
   refine X_yes' rfl rfl rfl rfl (A_callV rfl rfl rfl rfl (.cons (V_t rfl) (K_t rfl) (.cons (V_t rfl) (K_t rfl) .nil)) ((c14 (Rw.can (fit_small (v := 9) (u := 2) (by omega) (by omega))) (Rw.can (fit_small (v := 9) (u := 2) (by omega) (by omega))) (by omega) (by omega)).trans (show some (Ret.ts [ii (cmpQ (rv (decide ((Rat.divInt 9 2).num < 0)) (en ((Rat.divInt 9 2).num.natAbs : Int)) (en ((Rat.divInt 9 2).den : Int))) (rv (decide ((Rat.divInt 9 2).num < 0)) (en ((Rat.divInt 9 2).num.natAbs : Int)) (en ((Rat.divInt 9 2).den : Int))))]) = some (Ret.ts [ii 0]) by rw [tc_rv, cmpQ_refl]))) ?_
   refine X_yes' rfl rfl rfl rfl (A_int rfl rfl rfl ⟨by decide, by decide⟩ rfl) ?_
   refine X_op' rfl (A_pickT rfl rfl rfl rfl) ?_
   refine xa rfl rfl rfl rfl ?_
   refine X_endDS (by kernel_rfl) (by kernel_rfl) ?_
   try dsimp only [St.put, szA, List.length, Nat.reduceAdd]
   refine W_ret ?_
   exact end_R rfl (.t rfl .nil)
  exact (if_pos rfl).trans (run _ (by simp only [fu13]; omega) _ rfl)
end Go.Ev.S
/- ScreenInside: the law's walk. -/
set_option linter.unusedVariables false
set_option linter.unusedSimpArgs false
set_option maxRecDepth 100000
namespace Go.Ev.S
open Go Go.Ev Go.Proofs NumA
theorem cmpQ_le {p q : Rat} : cmpQ p q ≤ 0 ↔ p ≤ q := by
  have h := cmpQ_pos (p := p) (q := q)
  constructor
  · intro h1
    exact Rat.not_lt.1 fun h2 => absurd (h.2 h2) (by omega)
  · intro h1
    have : ¬ 0 < cmpQ p q := fun h2 => absurd (h.1 h2) (Rat.not_lt.2 h1)
    omega
theorem islZ_bound {isl : Nat → Int} {z : Int} {f : Nat → Int} {B : Int} (hB : 0 ≤ B) : ∀ n : Nat, (∀ j, j < n → -B ≤ f j ∧ f j ≤ B) → -(B * n) ≤ islZ isl n z f ∧ islZ isl n z f ≤ B * n
  | 0, _ => by simp [islZ, sumZ]
  | n + 1, h => by
    have h1 := islZ_bound (isl := isl) (z := z) hB n fun j hj => h j (by omega)
    have h2 := h n (by omega)
    rw [islZ_succ, Int.natCast_add, Int.mul_add]
    split <;> omega
theorem iF_set {l : List Int} {i : Nat} {v : Int} {j : Nat} : iF (l.set i v) j = if i = j ∧ j < l.length then v else iF l j := by
  unfold iF
  by_cases h : i = j
  · subst h
    by_cases h2 : i < l.length
    · rw [if_pos ⟨rfl, h2⟩, NumA.getD_set_self _ _ _ h2]
    · rw [if_neg (fun h => h2 h.2), List.getD_eq_getElem?_getD, List.getD_eq_getElem?_getD, List.getElem?_eq_none (by simpa using h2), List.getElem?_eq_none (by simpa using h2)]
  · rw [if_neg (fun h2 => h h2.1), NumA.getD_set_ne _ _ _ _ h]
theorem A_ixA3 {tt : Nat → Option TE} {sp : Nat → Option Spec} {nid : Nat} {o : Oper} {ev : Operand → A} {m : Nat → Option O} {t : TypeId} {x ix : Operand} {e ee : TE} {el n id sz row : Nat} {k : IntKind} {i : Int} (ho : o.op = .indexAddr t x ix) (hi : ev ix = .t (.v (.int k i))) (hx : ev x = .mp id sz row 0) (h1 : tt t = some e) (he : e.elem = none) (ha : e.arr = some (el, n)) (h3 : tt el = some ee) (hs : ee.sz = 1)
    (h0 : 0 ≤ i) (hl : i < n) : aop tt sp nid o ev m = some (.mp id sz row i.toNat, []) := by
  have h := A_ixArr (sp := sp) (nid := nid) (m := m) ho hi hx h1 he ha h3 h0 hl
  rw [hs, Nat.zero_add, Nat.mul_one] at h
  exact h
theorem getD_all {l : List Int} {B : Int} (hB : 0 ≤ B) (h : ∀ j, j < l.length → -B ≤ l.getD j 0 ∧ l.getD j 0 ≤ B) (j : Nat) : -B ≤ l.getD j 0 ∧ l.getD j 0 ≤ B := by
  by_cases hj : j < l.length
  · exact h j hj
  · rw [List.getD_eq_getElem?_getD, List.getElem?_eq_none (by omega)]
    show -B ≤ (0 : Int) ∧ (0 : Int) ≤ B
    omega
def st4a (xs : List Rr) (be ab AT V S : List Int) (k1 k2 : Nat) (i : Int) : St := { tm := [(0, .t (tl xs)), (2, .t (ti be)), (3, .t (ti ab)), (10, .t (.v (.bool false))), (11, .ms 0 1 0 k1), (12, .ms 1 1 0 k2), (13, .mp 2 3 0 0), (14, .t (ii i))], mm := [(0, some ⟨3, 1, AT.map ii⟩), (1, some ⟨3, 1, V.map ii⟩), (2, some ⟨36, 3, [.agg (S.map i64T)]⟩)], nx := 3 }
def st4b (xs : List Rr) (be ab AT V S : List Int) (k1 k2 : Nat) (i : Int) : St := { tm := [(0, .t (tl xs)), (2, .t (ti be)), (3, .t (ti ab)), (10, .t (.v (.bool false))), (11, .ms 0 1 0 k1), (12, .ms 1 1 0 k2), (13, .mp 2 3 0 0), (15, .t (ii i))], mm := [(0, some ⟨3, 1, AT.map ii⟩), (1, some ⟨3, 1, V.map ii⟩), (2, some ⟨36, 3, [.agg (S.map i64T)]⟩)], nx := 3 }
def st4c (xs : List Rr) (AT V LO HI : List Int) (k1 k2 k3 k4 : Nat) (q : Rat) (i : Int) : St := { tm := [(0, .t (tl xs)), (10, .t (.v (.bool false))), (11, .ms 0 1 0 k1), (12, .ms 1 1 0 k2), (16, .ms 2 1 0 k3), (17, .ms 3 1 0 k4), (18, .mp 4 3 0 0), (19, .t (ii i))], mm := [(0, some ⟨3, 1, AT.map ii⟩), (1, some ⟨3, 1, V.map ii⟩), (2, some ⟨3, 1, LO.map ii⟩), (3, some ⟨3, 1, HI.map ii⟩), (4, some ⟨30, 3, [tc q]⟩)], nx := 5 }
/-- Sums of the islands so far. -/
def Sums (S AT V : List Int) (i : Nat) : Prop := ∀ z : Nat, z < 3 → S.getD z 0 = islZ (iF AT) i z (iF V)
theorem Sums.step {S AT V : List Int} {i : Nat} (h : Sums S AT V i) (hS : S.length = 3) (hi : i < V.length) (h0 : 0 ≤ AT.getD i 0) (h3 : AT.getD i 0 < 3) (v : Int) :
    Sums (S.set (AT.getD i 0).toNat (S.getD (AT.getD i 0).toNat 0 + v)) AT (V.set i v) (i + 1) := by
  intro z hz
  have h1 : islZ (iF AT) i z (iF (V.set i v)) = islZ (iF AT) i z (iF V) := islZ_congr fun j hj _ => by rw [iF_set, if_neg (by omega)]
  have h2 : iF (V.set i v) i = v := by rw [iF_set, if_pos ⟨rfl, hi⟩]
  rw [islZ_succ, h1, h2]
  by_cases e : (AT.getD i 0).toNat = z
  · subst e
    rw [NumA.getD_set_self _ _ _ (by omega), if_pos (show iF AT i = ((AT.getD i 0).toNat : Int) by unfold iF; omega), h _ hz]
  · rw [NumA.getD_set_ne _ _ _ _ e, if_neg (show ¬ iF AT i = (z : Int) by unfold iF; omega), h z hz]; omega
theorem Sums.bal {S AT V : List Int} {i N : Nat} (h : Sums S AT V N) (hS : S.length = 3) (hN : V.length = N) (hi : i < N) (h0 : 0 ≤ AT.getD i 0) (h3 : AT.getD i 0 < 3) :
    Sums (S.set (AT.getD i 0).toNat 0) AT (V.set i (V.getD i 0 - S.getD (AT.getD i 0).toNat 0)) N := by
  intro z hz
  have h1 : islZ (iF AT) N z (iF (V.set i (V.getD i 0 - S.getD (AT.getD i 0).toNat 0))) = islZ (iF AT) N z (upd (iF V) i (V.getD i 0 - S.getD (AT.getD i 0).toNat 0)) := islZ_congr fun j hj _ => by
    rw [iF_set]; unfold upd
    by_cases e : i = j
    · subst e; rw [if_pos ⟨rfl, by omega⟩, if_pos rfl]
    · rw [if_neg (fun h => e h.1), if_neg (fun h => e h.symm)]
  rw [h1, islZ_upd hi, ← h z hz]
  by_cases e : (AT.getD i 0).toNat = z
  · subst e
    rw [NumA.getD_set_self _ _ _ (by omega), if_pos (show iF AT i = ((AT.getD i 0).toNat : Int) by unfold iF; omega)]
    unfold iF; omega
  · rw [NumA.getD_set_ne _ _ _ _ e, if_neg (show ¬ iF AT i = (z : Int) by unfold iF; omega)]; omega
def keep4 : Nat → List Nat := fun b => if b = 0 then [0, 2, 3, 10, 11, 12, 13, 14] else if b = 2 then [0, 2, 3, 10, 11, 12, 13, 15] else [0, 10, 11, 12, 16, 17, 18, 19]
noncomputable def sp4 : Nat → Option Spec := (more 9 (viewSpec g9) (more 10 (viewSpec g10) (more 15 (viewSpec g15) (more 18 (viewSpec g18) (more 17 (viewSpec g17) (more 16 (viewSpec g16) (more 11 (viewSpec g11) (more 13 (viewSpec g13) (more 14 (viewSpec g14) noneS)))))))))
theorem hs4 : ∀ f s, sp4 f = some s → SpecOk Tryz.prog f s := (more_ok s9 (more_ok s10 (more_ok s15 (more_ok s18 (more_ok s17 (more_ok s16 (more_ok s11 (more_ok s13 (more_ok s14 none_ok)))))))))
set_option maxHeartbeats 8000000 in
theorem run4b {x be ab is : List Int} (fuel : Nat) (hf : 1099511627776 < fuel) (c : Code) (hc : Tryz.f4.body = some c) :
    WC ty sp4 0 keep4 fuel c 0 { tm := [tl [], ti x, ti be, ti ab, ti is].zipIdx.map fun p => (p.2, .t p.1), mm := [], nx := 0 } (EndQ ty false Tryz.f4.results (.ts [.v (.bool true)])) := by
  injection hc with hc
  subst hc
  have e1 : (x.map ii).length = x.length := List.length_map _
  have e2 : (be.map ii).length = be.length := List.length_map _
  have e3 : (ab.map ii).length = ab.length := List.length_map _
  have e4 : (is.map ii).length = is.length := List.length_map _
  have el : (([] : List Rr).map Rr.t).length = ([] : List Rr).length := List.length_map _
  refine wsr ?_
  refine xa rfl rfl rfl rfl ?_
  refine X_endS ?_
  try dsimp only [St.put, szA, List.length, Nat.reduceAdd]
  refine W_seq ?_
  refine wsr ?_
  refine xm rfl rfl rfl rfl ?_
  refine X_op' rfl (A_callV rfl rfl rfl rfl (.cons (V_t rfl) (K_t rfl) .nil) c9) ?_
  refine X_op' rfl (A_not rfl rfl) ?_
  refine xm rfl rfl rfl rfl ?_
  refine X_both (d := 26) rfl (fun hb2 => ?_) (fun hb2 => ?_)
  ·have khb2 := hb2; (try simp only [kb] at khb2)
   refine X_no1 rfl rfl rfl hb2 ?_
   refine X_no1 rfl rfl rfl hb2 ?_
   refine X_no1 rfl rfl rfl hb2 ?_
   refine X_op' rfl (A_pickT rfl rfl hb2 rfl) ?_
   refine xm rfl rfl rfl rfl ?_
   refine X_no1 rfl rfl rfl rfl ?_
   refine X_no1 rfl rfl rfl rfl ?_
   refine X_no1 rfl rfl rfl rfl ?_
   refine X_op' rfl (A_pickT rfl rfl rfl rfl) ?_
   refine xm rfl rfl rfl rfl ?_
   refine X_no1 rfl rfl rfl rfl ?_
   refine X_no1 rfl rfl rfl rfl ?_
   refine X_no1 rfl rfl rfl rfl ?_
   refine X_op' rfl (A_pickT rfl rfl rfl rfl) ?_
   refine xm rfl rfl rfl rfl ?_
   refine X_no1 rfl rfl rfl rfl ?_
   refine X_no1 rfl rfl rfl rfl ?_
   refine X_no1 rfl rfl rfl rfl ?_
   refine X_op' rfl (A_pickT rfl rfl rfl rfl) ?_
   refine X_endS ?_
   try dsimp only [St.put, szA, List.length, Nat.reduceAdd]
   refine W_condT rfl rfl ?_
   refine wsr ?_
   refine xa rfl rfl rfl rfl ?_
   refine X_endS ?_
   try dsimp only [St.put, szA, List.length, Nat.reduceAdd]
   refine W_ret ?_
   refine Q_seqX ?_
   exact end_R rfl (.t rfl .nil)
  ·have khb2 := hb2; (try simp only [kb] at khb2)
   refine X_yes' rfl rfl rfl hb2 (A_mvT (.inl rfl) rfl rfl) ?_
   refine X_yes' rfl rfl rfl hb2 (A_lenT rfl rfl rfl rfl rfl rfl rfl) ?_
   refine X_yes' rfl rfl rfl hb2 (A_int rfl rfl rfl ⟨by decide, by decide⟩ rfl) ?_
   refine X_op' rfl (A_pickF rfl rfl hb2 rfl) ?_
   refine xm rfl rfl rfl rfl ?_
   refine X_both (d := 31) rfl (fun hb3 => ?_) (fun hb3 => ?_)
   ·have khb3 := hb3; (try simp only [kb] at khb3)
    refine X_no1 rfl rfl rfl hb3 ?_
    refine X_no1 rfl rfl rfl hb3 ?_
    refine X_no1 rfl rfl rfl hb3 ?_
    refine X_op' rfl (A_pickT rfl rfl hb3 rfl) ?_
    refine xm rfl rfl rfl rfl ?_
    refine X_no1 rfl rfl rfl rfl ?_
    refine X_no1 rfl rfl rfl rfl ?_
    refine X_no1 rfl rfl rfl rfl ?_
    refine X_op' rfl (A_pickT rfl rfl rfl rfl) ?_
    refine xm rfl rfl rfl rfl ?_
    refine X_no1 rfl rfl rfl rfl ?_
    refine X_no1 rfl rfl rfl rfl ?_
    refine X_no1 rfl rfl rfl rfl ?_
    refine X_op' rfl (A_pickT rfl rfl rfl rfl) ?_
    refine X_endS ?_
    try dsimp only [St.put, szA, List.length, Nat.reduceAdd]
    refine W_condT rfl rfl ?_
    refine wsr ?_
    refine xa rfl rfl rfl rfl ?_
    refine X_endS ?_
    try dsimp only [St.put, szA, List.length, Nat.reduceAdd]
    refine W_ret ?_
    refine Q_seqX ?_
    exact end_R rfl (.t rfl .nil)
   ·have khb3 := hb3; (try simp only [kb] at khb3)
    refine X_yes' rfl rfl rfl hb3 (A_mvT (.inl rfl) rfl rfl) ?_
    refine X_yes' rfl rfl rfl hb3 (A_lenT rfl rfl rfl rfl rfl rfl rfl) ?_
    refine X_yes' rfl rfl rfl hb3 (A_int rfl rfl rfl ⟨by decide, by decide⟩ rfl) ?_
    refine X_op' rfl (A_pickF rfl rfl hb3 rfl) ?_
    refine xm rfl rfl rfl rfl ?_
    refine X_both (d := 36) rfl (fun hb4 => ?_) (fun hb4 => ?_)
    ·have khb4 := hb4; (try simp only [kb] at khb4)
     refine X_no1 rfl rfl rfl hb4 ?_
     refine X_no1 rfl rfl rfl hb4 ?_
     refine X_no1 rfl rfl rfl hb4 ?_
     refine X_op' rfl (A_pickT rfl rfl hb4 rfl) ?_
     refine xm rfl rfl rfl rfl ?_
     refine X_no1 rfl rfl rfl rfl ?_
     refine X_no1 rfl rfl rfl rfl ?_
     refine X_no1 rfl rfl rfl rfl ?_
     refine X_op' rfl (A_pickT rfl rfl rfl rfl) ?_
     refine X_endS ?_
     try dsimp only [St.put, szA, List.length, Nat.reduceAdd]
     refine W_condT rfl rfl ?_
     refine wsr ?_
     refine xa rfl rfl rfl rfl ?_
     refine X_endS ?_
     try dsimp only [St.put, szA, List.length, Nat.reduceAdd]
     refine W_ret ?_
     refine Q_seqX ?_
     exact end_R rfl (.t rfl .nil)
    ·have khb4 := hb4; (try simp only [kb] at khb4)
     refine X_yes' rfl rfl rfl hb4 (A_mvT (.inl rfl) rfl rfl) ?_
     refine X_yes' rfl rfl rfl hb4 (A_lenT rfl rfl rfl rfl rfl rfl rfl) ?_
     refine X_yes' rfl rfl rfl hb4 (A_int rfl rfl rfl ⟨by decide, by decide⟩ rfl) ?_
     refine X_op' rfl (A_pickF rfl rfl hb4 rfl) ?_
     refine xm rfl rfl rfl rfl ?_
     refine X_both (d := 41) rfl (fun hb5 => ?_) (fun hb5 => ?_)
     ·have khb5 := hb5; (try simp only [kb] at khb5)
      refine X_no1 rfl rfl rfl hb5 ?_
      refine X_no1 rfl rfl rfl hb5 ?_
      refine X_no1 rfl rfl rfl hb5 ?_
      refine X_op' rfl (A_pickT rfl rfl hb5 rfl) ?_
      refine X_endS ?_
      try dsimp only [St.put, szA, List.length, Nat.reduceAdd]
      refine W_condT rfl rfl ?_
      refine wsr ?_
      refine xa rfl rfl rfl rfl ?_
      refine X_endS ?_
      try dsimp only [St.put, szA, List.length, Nat.reduceAdd]
      refine W_ret ?_
      refine Q_seqX ?_
      exact end_R rfl (.t rfl .nil)
     ·have khb5 := hb5; (try simp only [kb] at khb5)
      refine X_yes' rfl rfl rfl hb5 (A_mvT (.inl rfl) rfl rfl) ?_
      refine X_yes' rfl rfl rfl hb5 (A_lenT rfl rfl rfl rfl rfl rfl rfl) ?_
      refine X_yes' rfl rfl rfl hb5 (A_int rfl rfl rfl ⟨by decide, by decide⟩ rfl) ?_
      refine X_op' rfl (A_pickF rfl rfl hb5 rfl) ?_
      refine X_endS ?_
      try dsimp only [St.put, szA, List.length, Nat.reduceAdd]
      refine W_condB rfl (fun hb6 => ?_) (fun hb6 => ?_)
      ·have khb6 := hb6; (try simp only [kb] at khb6)
       refine wsr ?_
       refine xa rfl rfl rfl rfl ?_
       refine X_endS ?_
       try dsimp only [St.put, szA, List.length, Nat.reduceAdd]
       refine W_ret ?_
       refine Q_seqX ?_
       exact end_R rfl (.t rfl .nil)
      ·have khb6 := hb6; (try simp only [kb] at khb6)
       refine W_skip ?_
       refine Q_seq ?_
       refine wsr ?_
       refine xm rfl rfl rfl rfl ?_
       refine xm rfl rfl rfl rfl ?_
       refine X_op' rfl (A_callV rfl rfl rfl rfl (.cons (V_t rfl) (K_t rfl) (.cons (V_t rfl) (K_t rfl) (.cons (V_t rfl) (K_t rfl) .nil))) (c10n (by omega) (by omega) (by omega))) ?_
       refine xa rfl rfl rfl rfl ?_
       refine X_endS ?_
       try dsimp only [St.put, szA, List.length, Nat.reduceAdd]
       refine wsr ?_
       refine xm rfl rfl rfl rfl ?_
       refine xm rfl rfl rfl rfl ?_
       refine X_op' rfl (A_callV rfl rfl rfl rfl (.cons (V_t rfl) (K_t rfl) (.cons (V_t rfl) (K_t rfl) (.cons (V_t rfl) (K_t rfl) .nil))) (c10n (by omega) (by omega) (by omega))) ?_
       refine xa rfl rfl rfl rfl ?_
       refine X_endS ?_
       try dsimp only [St.put, szA, List.length, Nat.reduceAdd]
       refine wsr ?_
       refine X_op' rfl (A_alloc rfl rfl) ?_
       refine X_endS ?_
       try dsimp only [St.put, szA, List.length, Nat.reduceAdd]
       refine W_seq ?_
       refine wsr ?_
       refine xa rfl rfl rfl rfl ?_
       refine X_endS ?_
       try dsimp only [St.put, szA, List.length, Nat.reduceAdd]
       refine W_blk ?_
       refine W_loop (fun nn σ => σ = { tm := [(0, .t (tl [])), (2, .t (ti be)), (3, .t (ti ab)), (10, .t (.v (.bool false))), (11, .t (ti [])), (12, .t (ti [])), (13, .mp 0 3 0 0), (14, .t (ii 0))], mm := [(0, some ⟨36, 3, [.agg [ii 0, ii 0, ii 0]]⟩)], nx := 1 }) (0) ?_ (by kernel_rfl) (by omega)
       rintro nn _ rfl
       refine W_seq ?_
       refine wsr ?_
       refine xm rfl rfl rfl rfl ?_
       refine xm rfl rfl rfl rfl ?_
       refine X_op' rfl (A_lenT rfl rfl rfl rfl rfl rfl rfl) ?_
       refine X_op' rfl (A_int rfl rfl rfl ⟨by decide, by decide⟩ rfl) ?_
       refine X_endS ?_
       try dsimp only [St.put, szA, List.length, Nat.reduceAdd]
       refine W_condB rfl (fun hb7 => ?_) (fun hb7 => ?_)
       ·have khb7 := hb7; (try simp only [kb] at khb7)
        exact absurd khb7 (by decide)
       ·have khb7 := hb7; (try simp only [kb] at khb7)
        refine W_exit ?_
        refine Q_seqX ?_
        refine Q_rndX ?_
        refine Q_blkE ?_
        refine Q_seq ?_
        refine W_seq ?_
        refine wsr ?_
        refine xa rfl rfl rfl rfl ?_
        refine X_endS ?_
        try dsimp only [St.put, szA, List.length, Nat.reduceAdd]
        refine W_blk ?_
        refine W_loop (fun nn σ => σ = { tm := [(0, .t (tl [])), (2, .t (ti be)), (3, .t (ti ab)), (10, .t (.v (.bool false))), (11, .t (ti [])), (12, .t (ti [])), (13, .mp 0 3 0 0), (15, .t (ii 0))], mm := [(0, some ⟨36, 3, [.agg [ii 0, ii 0, ii 0]]⟩)], nx := 1 }) (0) ?_ (by kernel_rfl) (by omega)
        rintro nn _ rfl
        refine W_seq ?_
        refine wsr ?_
        refine xm rfl rfl rfl rfl ?_
        refine xm rfl rfl rfl rfl ?_
        refine X_op' rfl (A_lenT rfl rfl rfl rfl rfl rfl rfl) ?_
        refine X_op' rfl (A_int rfl rfl rfl ⟨by decide, by decide⟩ rfl) ?_
        refine X_endS ?_
        try dsimp only [St.put, szA, List.length, Nat.reduceAdd]
        refine W_condB rfl (fun hb8 => ?_) (fun hb8 => ?_)
        ·have khb8 := hb8; (try simp only [kb] at khb8)
         exact absurd khb8 (by decide)
        ·have khb8 := hb8; (try simp only [kb] at khb8)
         refine W_exit ?_
         refine Q_seqX ?_
         refine Q_rndX ?_
         refine Q_blkE ?_
         refine Q_seq ?_
         refine wsr ?_
         refine xm rfl rfl rfl rfl ?_
         refine xm rfl rfl rfl rfl ?_
         refine X_op' rfl (A_callV rfl rfl rfl rfl (.cons (V_t rfl) (K_t rfl) (.cons (V_t rfl) (K_t rfl) (.cons (V_t rfl) (K_t rfl) .nil))) (c10n (by omega) (by omega) (by omega))) ?_
         refine xm rfl rfl rfl rfl ?_
         refine xm rfl rfl rfl rfl ?_
         refine X_op' rfl (A_callV rfl rfl rfl rfl (.cons (V_t rfl) (K_t rfl) (.cons (V_t rfl) (K_t rfl) (.cons (V_t rfl) (K_t rfl) .nil))) (c10n (by omega) (by omega) (by omega))) ?_
         refine xa rfl rfl rfl rfl ?_
         refine xa rfl rfl rfl rfl ?_
         refine X_endS ?_
         try dsimp only [St.put, szA, List.length, Nat.reduceAdd]
         refine wsr ?_
         refine X_op' rfl (A_callV rfl rfl rfl rfl .nil c15) ?_
         refine X_op' rfl (A_alloc rfl rfl) ?_
         refine X_op' rfl (A_stV rfl rfl rfl (V_t rfl) (K_t rfl) rfl rfl rfl rfl rfl rfl rfl) ?_
         refine X_endS ?_
         try dsimp only [St.put, szA, List.length, Nat.reduceAdd]
         refine W_seq ?_
         refine wsr ?_
         refine xa rfl rfl rfl rfl ?_
         refine X_endS ?_
         try dsimp only [St.put, szA, List.length, Nat.reduceAdd]
         refine W_blk ?_
         refine W_loop (fun nn σ => σ = { tm := [(0, .t (tl [])), (10, .t (.v (.bool false))), (11, .t (ti [])), (12, .t (ti [])), (16, .t (ti [])), (17, .t (ti [])), (18, .mp 0 3 0 0), (19, .t (ii 0))], mm := [(0, some ⟨30, 3, [tc 0]⟩)], nx := 1 }) (0) ?_ (by kernel_rfl) (by omega)
         rintro nn _ rfl
         refine W_seq ?_
         refine wsr ?_
         refine xm rfl rfl rfl rfl ?_
         refine xm rfl rfl rfl rfl ?_
         refine X_op' rfl (A_lenT rfl rfl rfl rfl rfl rfl rfl) ?_
         refine X_op' rfl (A_int rfl rfl rfl ⟨by decide, by decide⟩ rfl) ?_
         refine X_endS ?_
         try dsimp only [St.put, szA, List.length, Nat.reduceAdd]
         refine W_condB rfl (fun hb9 => ?_) (fun hb9 => ?_)
         ·have khb9 := hb9; (try simp only [kb] at khb9)
          exact absurd khb9 (by decide)
         ·have khb9 := hb9; (try simp only [kb] at khb9)
          refine W_exit ?_
          refine Q_seqX ?_
          refine Q_rndX ?_
          refine Q_blkE ?_
          refine Q_seq ?_
          refine wsr ?_
          refine xm rfl rfl rfl rfl ?_
          refine xm rfl rfl rfl rfl ?_
          refine xm rfl rfl rfl rfl ?_
          refine xm rfl rfl rfl rfl ?_
          have hin : inE [] [] [] [] := by decide
          obtain ⟨le, mo, hE, hle, hmo⟩ := exP_inside (xs := []) (lo := []) (hi := []) (is := []) hin (y := fun _ => 0) ⟨fun i hi => absurd hi (by simp), fun i hi => absurd hi (by simp), fun i hi => absurd hi (by simp)⟩
          have hf9 := exP_fit (n := 4) (fun x hx => by cases hx) (by decide) (by decide) hE
          have hq9 : Fit (1 + 64 * (4 + 2)) (0 : Rat) := NumA.fit_zero (by decide)
          obtain ⟨q, hq⟩ : ∃ q : Rat, q = 0 := ⟨0, rfl⟩
          rw [← hq] at hq9
          have hle : le ≤ q := by rw [hq]; exact hle
          have hmo : q ≤ mo := by rw [hq]; exact hmo
          rw [← hq]
          refine X_op' rfl (A_callV rfl rfl rfl rfl (.cons (V_t rfl) (K_t rfl) (.cons (V_t rfl) (K_t rfl) (.cons (V_t rfl) (K_t rfl) (.cons (V_t rfl) (K_t rfl) .nil)))) (cc11 (n := 4) (fun x hx => by cases hx) (by decide) (by decide) (by decide) (by decide) (by decide) (by decide) hE)) ?_
          refine X_op' rfl (A_mvU (.inl rfl) rfl) ?_
          refine X_op' rfl (A_ext rfl rfl rfl) ?_
          refine X_op' rfl (A_ext rfl rfl rfl) ?_
          refine X_op' rfl (A_ext rfl rfl rfl) ?_
          refine X_op' rfl (A_alloc rfl rfl) ?_
          refine X_op' rfl (A_alloc rfl rfl) ?_
          refine X_op' rfl (A_stV rfl rfl rfl (V_t rfl) (K_t rfl) rfl rfl rfl rfl rfl rfl rfl) ?_
          refine X_op' rfl (A_stV rfl rfl rfl (V_t rfl) (K_t rfl) rfl rfl rfl rfl rfl rfl rfl) ?_
          refine xa rfl rfl rfl rfl ?_
          refine X_endS ?_
          try dsimp only [St.put, szA, List.length, Nat.reduceAdd]
          refine wsr ?_
          refine X_op' rfl (A_callV rfl rfl rfl rfl .nil c13) ?_
          refine xm rfl rfl rfl rfl ?_
          refine X_yes' rfl rfl rfl rfl (A_mvT (.inl rfl) rfl rfl) ?_
          refine X_op' rfl (A_pickT rfl rfl rfl rfl) ?_
          refine xm rfl rfl rfl rfl ?_
          refine X_yes' rfl rfl rfl rfl (A_ld rfl rfl rfl (ld_mp rfl rfl rfl rfl rfl rfl)) ?_
          refine X_yes' rfl rfl rfl rfl (A_ld rfl rfl rfl (ld_mp rfl rfl rfl rfl rfl rfl)) ?_
          refine X_yes' rfl rfl rfl rfl (A_callV rfl rfl rfl rfl (.cons (V_t rfl) (K_t rfl) (.cons (V_t rfl) (K_t rfl) .nil)) ((c14 (Rw.can hf9.1) (Rw.can hq9) (by decide) (by decide)).trans (show some (Ret.ts [ii (cmpQ (rv (decide (le.num < 0)) (en (le.num.natAbs : Int)) (en (le.den : Int))) (rv (decide (q.num < 0)) (en (q.num.natAbs : Int)) (en (q.den : Int))))]) = some (Ret.ts [ii (cmpQ le q)]) by rw [tc_rv, tc_rv]))) ?_
          refine X_yes' rfl rfl rfl rfl (A_int rfl rfl rfl ⟨by decide, by decide⟩ rfl) ?_
          refine X_op' rfl (A_pickT rfl rfl rfl rfl) ?_
          refine xm rfl rfl rfl rfl ?_
          refine X_both (d := 167) rfl (fun hb10 => ?_) (fun hb10 => ?_)
          ·have khb10 := hb10; (try simp only [kb] at khb10)
           refine X_yes' rfl rfl rfl hb10 (A_ld rfl rfl rfl (ld_mp rfl rfl rfl rfl rfl rfl)) ?_
           refine X_yes' rfl rfl rfl hb10 (A_ld rfl rfl rfl (ld_mp rfl rfl rfl rfl rfl rfl)) ?_
           refine X_yes' rfl rfl rfl hb10 (A_callV rfl rfl rfl rfl (.cons (V_t rfl) (K_t rfl) (.cons (V_t rfl) (K_t rfl) .nil)) ((c14 (Rw.can hq9) (Rw.can hf9.2) (by decide) (by decide)).trans (show some (Ret.ts [ii (cmpQ (rv (decide (q.num < 0)) (en (q.num.natAbs : Int)) (en (q.den : Int))) (rv (decide (mo.num < 0)) (en (mo.num.natAbs : Int)) (en (mo.den : Int))))]) = some (Ret.ts [ii (cmpQ q mo)]) by rw [tc_rv, tc_rv]))) ?_
           refine X_yes' rfl rfl rfl hb10 (A_int rfl rfl rfl ⟨by decide, by decide⟩ rfl) ?_
           refine X_op' rfl (A_pickT rfl rfl hb10 rfl) ?_
           refine xa rfl rfl rfl rfl ?_
           refine X_endS ?_
           try dsimp only [St.put, szA, List.length, Nat.reduceAdd]
           refine W_ret ?_
           rw [show Ret.ts [T.v (.bool true)] = .ts [T.v (.bool (decide (cmpQ q mo ≤ 0)))] by rw [decide_eq_true (cmpQ_le.2 hmo)]]
           exact end_R rfl (.t rfl .nil)
          ·have khb10 := hb10; (try simp only [kb] at khb10)
           exact absurd (cmpQ_le.2 hle) (Int.not_le.2 khb10)
set_option maxHeartbeats 8000000 in
theorem run4c {xs : List Rr} {x be ab is : List Int} (hU : ∀ x ∈ xs, U32 x.l ∧ U32 x.k) (hx0 : 0 < xs.length) (fuel : Nat) (hf : 1099511627776 < fuel) (c : Code) (hc : Tryz.f4.body = some c) :
    WC ty sp4 0 keep4 fuel c 0 { tm := [tl xs, ti x, ti be, ti ab, ti is].zipIdx.map fun p => (p.2, .t p.1), mm := [], nx := 0 } (EndQ ty false Tryz.f4.results (.ts [.v (.bool true)])) := by
  injection hc with hc
  subst hc
  have e1 : (x.map ii).length = x.length := List.length_map _
  have e2 : (be.map ii).length = be.length := List.length_map _
  have e3 : (ab.map ii).length = ab.length := List.length_map _
  have e4 : (is.map ii).length = is.length := List.length_map _
  have el : ((xs : List Rr).map Rr.t).length = (xs : List Rr).length := List.length_map _
  refine wsr ?_
  refine xa rfl rfl rfl rfl ?_
  refine X_endS ?_
  try dsimp only [St.put, szA, List.length, Nat.reduceAdd]
  refine W_seq ?_
  refine wsr ?_
  refine xm rfl rfl rfl rfl ?_
  refine X_op' rfl (A_callV rfl rfl rfl rfl (.cons (V_t rfl) (K_t rfl) .nil) c9) ?_
  refine X_op' rfl (A_not rfl rfl) ?_
  refine xm rfl rfl rfl rfl ?_
  refine X_both (d := 26) rfl (fun hb2 => ?_) (fun hb2 => ?_)
  ·have khb2 := hb2; (try simp only [kb] at khb2)
   refine X_no1 rfl rfl rfl hb2 ?_
   refine X_no1 rfl rfl rfl hb2 ?_
   refine X_no1 rfl rfl rfl hb2 ?_
   refine X_op' rfl (A_pickT rfl rfl hb2 rfl) ?_
   refine xm rfl rfl rfl rfl ?_
   refine X_no1 rfl rfl rfl rfl ?_
   refine X_no1 rfl rfl rfl rfl ?_
   refine X_no1 rfl rfl rfl rfl ?_
   refine X_op' rfl (A_pickT rfl rfl rfl rfl) ?_
   refine xm rfl rfl rfl rfl ?_
   refine X_no1 rfl rfl rfl rfl ?_
   refine X_no1 rfl rfl rfl rfl ?_
   refine X_no1 rfl rfl rfl rfl ?_
   refine X_op' rfl (A_pickT rfl rfl rfl rfl) ?_
   refine xm rfl rfl rfl rfl ?_
   refine X_no1 rfl rfl rfl rfl ?_
   refine X_no1 rfl rfl rfl rfl ?_
   refine X_no1 rfl rfl rfl rfl ?_
   refine X_op' rfl (A_pickT rfl rfl rfl rfl) ?_
   refine X_endS ?_
   try dsimp only [St.put, szA, List.length, Nat.reduceAdd]
   refine W_condT rfl rfl ?_
   refine wsr ?_
   refine xa rfl rfl rfl rfl ?_
   refine X_endS ?_
   try dsimp only [St.put, szA, List.length, Nat.reduceAdd]
   refine W_ret ?_
   refine Q_seqX ?_
   exact end_R rfl (.t rfl .nil)
  ·have khb2 := hb2; (try simp only [kb] at khb2)
   refine X_yes' rfl rfl rfl hb2 (A_mvT (.inl rfl) rfl rfl) ?_
   refine X_yes' rfl rfl rfl hb2 (A_lenT rfl rfl rfl rfl rfl rfl rfl) ?_
   refine X_yes' rfl rfl rfl hb2 (A_int rfl rfl rfl ⟨by decide, by decide⟩ rfl) ?_
   refine X_op' rfl (A_pickF rfl rfl hb2 rfl) ?_
   refine xm rfl rfl rfl rfl ?_
   refine X_both (d := 31) rfl (fun hb3 => ?_) (fun hb3 => ?_)
   ·have khb3 := hb3; (try simp only [kb] at khb3)
    refine X_no1 rfl rfl rfl hb3 ?_
    refine X_no1 rfl rfl rfl hb3 ?_
    refine X_no1 rfl rfl rfl hb3 ?_
    refine X_op' rfl (A_pickT rfl rfl hb3 rfl) ?_
    refine xm rfl rfl rfl rfl ?_
    refine X_no1 rfl rfl rfl rfl ?_
    refine X_no1 rfl rfl rfl rfl ?_
    refine X_no1 rfl rfl rfl rfl ?_
    refine X_op' rfl (A_pickT rfl rfl rfl rfl) ?_
    refine xm rfl rfl rfl rfl ?_
    refine X_no1 rfl rfl rfl rfl ?_
    refine X_no1 rfl rfl rfl rfl ?_
    refine X_no1 rfl rfl rfl rfl ?_
    refine X_op' rfl (A_pickT rfl rfl rfl rfl) ?_
    refine X_endS ?_
    try dsimp only [St.put, szA, List.length, Nat.reduceAdd]
    refine W_condT rfl rfl ?_
    refine wsr ?_
    refine xa rfl rfl rfl rfl ?_
    refine X_endS ?_
    try dsimp only [St.put, szA, List.length, Nat.reduceAdd]
    refine W_ret ?_
    refine Q_seqX ?_
    exact end_R rfl (.t rfl .nil)
   ·have khb3 := hb3; (try simp only [kb] at khb3)
    refine X_yes' rfl rfl rfl hb3 (A_mvT (.inl rfl) rfl rfl) ?_
    refine X_yes' rfl rfl rfl hb3 (A_lenT rfl rfl rfl rfl rfl rfl rfl) ?_
    refine X_yes' rfl rfl rfl hb3 (A_int rfl rfl rfl ⟨by decide, by decide⟩ rfl) ?_
    refine X_op' rfl (A_pickF rfl rfl hb3 rfl) ?_
    refine xm rfl rfl rfl rfl ?_
    refine X_both (d := 36) rfl (fun hb4 => ?_) (fun hb4 => ?_)
    ·have khb4 := hb4; (try simp only [kb] at khb4)
     refine X_no1 rfl rfl rfl hb4 ?_
     refine X_no1 rfl rfl rfl hb4 ?_
     refine X_no1 rfl rfl rfl hb4 ?_
     refine X_op' rfl (A_pickT rfl rfl hb4 rfl) ?_
     refine xm rfl rfl rfl rfl ?_
     refine X_no1 rfl rfl rfl rfl ?_
     refine X_no1 rfl rfl rfl rfl ?_
     refine X_no1 rfl rfl rfl rfl ?_
     refine X_op' rfl (A_pickT rfl rfl rfl rfl) ?_
     refine X_endS ?_
     try dsimp only [St.put, szA, List.length, Nat.reduceAdd]
     refine W_condT rfl rfl ?_
     refine wsr ?_
     refine xa rfl rfl rfl rfl ?_
     refine X_endS ?_
     try dsimp only [St.put, szA, List.length, Nat.reduceAdd]
     refine W_ret ?_
     refine Q_seqX ?_
     exact end_R rfl (.t rfl .nil)
    ·have khb4 := hb4; (try simp only [kb] at khb4)
     refine X_yes' rfl rfl rfl hb4 (A_mvT (.inl rfl) rfl rfl) ?_
     refine X_yes' rfl rfl rfl hb4 (A_lenT rfl rfl rfl rfl rfl rfl rfl) ?_
     refine X_yes' rfl rfl rfl hb4 (A_int rfl rfl rfl ⟨by decide, by decide⟩ rfl) ?_
     refine X_op' rfl (A_pickF rfl rfl hb4 rfl) ?_
     refine xm rfl rfl rfl rfl ?_
     refine X_both (d := 41) rfl (fun hb5 => ?_) (fun hb5 => ?_)
     ·have khb5 := hb5; (try simp only [kb] at khb5)
      refine X_no1 rfl rfl rfl hb5 ?_
      refine X_no1 rfl rfl rfl hb5 ?_
      refine X_no1 rfl rfl rfl hb5 ?_
      refine X_op' rfl (A_pickT rfl rfl hb5 rfl) ?_
      refine X_endS ?_
      try dsimp only [St.put, szA, List.length, Nat.reduceAdd]
      refine W_condT rfl rfl ?_
      refine wsr ?_
      refine xa rfl rfl rfl rfl ?_
      refine X_endS ?_
      try dsimp only [St.put, szA, List.length, Nat.reduceAdd]
      refine W_ret ?_
      refine Q_seqX ?_
      exact end_R rfl (.t rfl .nil)
     ·have khb5 := hb5; (try simp only [kb] at khb5)
      refine X_yes' rfl rfl rfl hb5 (A_mvT (.inl rfl) rfl rfl) ?_
      refine X_yes' rfl rfl rfl hb5 (A_lenT rfl rfl rfl rfl rfl rfl rfl) ?_
      refine X_yes' rfl rfl rfl hb5 (A_int rfl rfl rfl ⟨by decide, by decide⟩ rfl) ?_
      refine X_op' rfl (A_pickF rfl rfl hb5 rfl) ?_
      refine X_endS ?_
      try dsimp only [St.put, szA, List.length, Nat.reduceAdd]
      refine W_condB rfl (fun hb6 => ?_) (fun hb6 => ?_)
      ·have khb6 := hb6; (try simp only [kb] at khb6)
       refine wsr ?_
       refine xa rfl rfl rfl rfl ?_
       refine X_endS ?_
       try dsimp only [St.put, szA, List.length, Nat.reduceAdd]
       refine W_ret ?_
       refine Q_seqX ?_
       exact end_R rfl (.t rfl .nil)
      ·have khb6 := hb6; (try simp only [kb] at khb6)
       refine W_skip ?_
       refine Q_seq ?_
       refine wsr ?_
       have hraw : rawP xs := by simpa using khb2
       have hN := hraw.1
       have hx : xs.length ≤ 1099511627776 := by omega
       have w := raw_ok hU hraw
       refine xm rfl rfl rfl rfl ?_
       refine xm rfl rfl rfl rfl ?_
       refine X_op' rfl (A_callO rfl rfl rfl rfl (.cons (V_t rfl) (K_t rfl) (.cons (V_t rfl) (K_t rfl) (.cons (V_t rfl) (K_t rfl) .nil))) (c10 hx hx0 (by omega) (by omega) (by omega))) ?_
       refine X_op' rfl (A_mvM (.inr rfl) rfl) ?_
       refine X_endS ?_
       try dsimp only [St.put, szA, List.length, Nat.reduceAdd]
       refine wsr ?_
       refine xm rfl rfl rfl rfl ?_
       refine xm rfl rfl rfl rfl ?_
       refine X_op' rfl (A_callO rfl rfl rfl rfl (.cons (V_t rfl) (K_t rfl) (.cons (V_t rfl) (K_t rfl) (.cons (V_t rfl) (K_t rfl) .nil))) (c10 hx hx0 (by omega) (by omega) (by omega))) ?_
       refine X_op' rfl (A_mvM (.inr rfl) rfl) ?_
       refine X_endS ?_
       try dsimp only [St.put, szA, List.length, Nat.reduceAdd]
       refine wsr ?_
       refine X_op' rfl (A_alloc rfl rfl) ?_
       refine X_endS ?_
       try dsimp only [St.put, szA, List.length, Nat.reduceAdd]
       refine W_seq ?_
       refine wsr ?_
       refine xa rfl rfl rfl rfl ?_
       refine X_endS ?_
       try dsimp only [St.put, szA, List.length, Nat.reduceAdd]
       refine W_blk ?_
       refine W_loop (fun nn σ => ∃ (i : Nat) (AT V S : List Int) (k1 k2 : Nat), k1 = xs.length ∧ k2 = xs.length ∧ AT.length = xs.length ∧ V.length = xs.length ∧ S.length = 3 ∧ (∀ j, 0 ≤ AT.getD j 0 ∧ AT.getD j 0 < 3) ∧ (∀ j, i ≤ j → 0 ≤ V.getD j 0 ∧ V.getD j 0 < 41) ∧ (∀ j, j < i → -20 ≤ V.getD j 0 ∧ V.getD j 0 ≤ 20) ∧ Sums S AT V i ∧ σ = st4a xs be ab AT V S k1 k2 i ∧ nn + i = xs.length) (xs.length) ?_ ⟨0, fitL is 3 xs.length, fitL x 41 xs.length, [0, 0, 0], _, _, (by rw [List.length_map, fitL_len]), (by rw [List.length_map, fitL_len]), fitL_len _ _ _, fitL_len _ _ _, rfl, (fun j => fitL_bound _ (by omega) _ _), (fun j _ => fitL_bound _ (by omega) _ _), (fun j h => absurd h (by omega)), (fun z hz => by have h : z = 0 ∨ z = 1 ∨ z = 2 := (by omega); rcases h with rfl | rfl | rfl <;> rfl), (show _ = st4a xs be ab (fitL is 3 xs.length) (fitL x 41 xs.length) [0, 0, 0] ((fitL is 3 xs.length).map ii).length ((fitL x 41 xs.length).map ii).length (0 : Nat) by kernel_rfl), rfl⟩ (by omega)
       rintro nn _ ⟨i, AT, V, S, k1, k2, hk1, hk2, hAT, hV, hS, hat, hv1, hv2, hs, rfl, hnn⟩
       refine W_seq ?_
       refine wsr ?_
       refine xm rfl rfl rfl rfl ?_
       refine xm rfl rfl rfl rfl ?_
       refine X_op' rfl (A_lenT rfl rfl rfl rfl rfl rfl rfl) ?_
       refine X_op' rfl (A_int rfl rfl rfl ⟨by decide, by decide⟩ rfl) ?_
       refine X_endS ?_
       try dsimp only [St.put, szA, List.length, Nat.reduceAdd]
       refine W_condB rfl (fun hb7 => ?_) (fun hb7 => ?_)
       ·have khb7 := hb7; (try simp only [kb] at khb7)
        refine W_skip ?_
        refine Q_seq ?_
        refine W_seq ?_
        refine W_blk ?_
        refine wsr ?_
        refine X_op' rfl (A_mvM (.inl rfl) rfl) ?_
        refine xm rfl rfl rfl rfl ?_
        refine X_op' rfl (A_ixO rfl rfl rfl rfl rfl rfl rfl (by omega) (by omega)) ?_
        refine X_op' rfl (A_ld rfl rfl rfl (ld_row (0 : Int) rfl (by first | omega | (simp only [List.length_set]; omega)) rfl rfl rfl)) ?_
        refine X_op' rfl (A_int rfl rfl rfl ⟨by decide, by decide⟩ (subI (by have h1 := hv1 (0 + ((i : Int)).toNat) (by omega); omega))) ?_
        refine X_op' rfl (A_ixO rfl rfl rfl rfl rfl rfl rfl (by omega) (by omega)) ?_
        refine X_op' rfl (A_stR (0 : Int) rfl rfl rfl (V_t rfl) (K_t rfl) rfl rfl (by first | omega | (simp only [List.length_set]; omega)) rfl rfl rfl rfl rfl rfl) ?_
        refine X_endS ?_
        try dsimp only [St.put, szA, List.length, Nat.reduceAdd]
        refine W_reg ?_
        have hset : (V.set (0 + ((i : Int)).toNat) (V.getD (0 + ((i : Int)).toNat) 0 - 20)).getD (0 + ((i : Int)).toNat) 0 = V.getD (0 + ((i : Int)).toNat) 0 - 20 := NumA.getD_set_self _ _ _ (by omega)
        have hw9 := hv1 (0 + ((i : Int)).toNat) (by omega)
        refine X_op' rfl (A_mvM (.inl rfl) rfl) ?_
        refine xm rfl rfl rfl rfl ?_
        refine X_op' rfl (A_ixO rfl rfl rfl rfl rfl rfl rfl (by omega) (by omega)) ?_
        refine X_op' rfl (A_ld rfl rfl rfl (ld_row (0 : Int) rfl (by first | omega | (simp only [List.length_set]; omega)) rfl rfl rfl)) ?_
        have haz := hat (0 + ((i : Int)).toNat)
        obtain ⟨az, heq⟩ : ∃ az, az = AT.getD (0 + ((i : Int)).toNat) 0 := ⟨_, rfl⟩
        rw [← heq] at haz
        rw [← heq]
        have hb9 : -600 ≤ S.getD az.toNat 0 ∧ S.getD az.toNat 0 ≤ 600 := by
          have h1 := hs az.toNat (by omega)
          have h2 := islZ_bound (isl := iF AT) (z := (az.toNat : Int)) (f := iF V) (B := 20) (by omega) i (fun j hj => hv2 j hj)
          rw [h1]; omega
        refine X_op' rfl (A_ixA3 rfl rfl rfl rfl rfl rfl rfl rfl (by omega) (by omega)) ?_
        refine X_op' rfl (A_ld rfl rfl rfl (ld_arr rfl (by omega) rfl rfl)) ?_
        refine X_op' rfl (A_mvM (.inl rfl) rfl) ?_
        refine xm rfl rfl rfl rfl ?_
        refine X_op' rfl (A_ixO rfl rfl rfl rfl rfl rfl rfl (by omega) (by omega)) ?_
        refine X_op' rfl (A_ld rfl rfl rfl (ld_row (0 : Int) rfl (by rw [List.length_set]; omega) rfl rfl rfl)) ?_
        refine X_op' rfl (A_int rfl rfl rfl ⟨by decide, by decide⟩ (addI (by omega))) ?_
        refine X_op' rfl (A_ixA3 rfl rfl rfl rfl rfl rfl rfl rfl (by omega) (by omega)) ?_
        refine X_op' rfl (A_stArr rfl rfl rfl rfl rfl hS (by omega) rfl) ?_
        refine X_endD (by kernel_rfl) (by kernel_rfl) ?_
        try dsimp only [St.put, szA, List.length, Nat.reduceAdd]
        refine Q_blkN ?_
        refine Q_seq ?_
        refine W_reg ?_
        refine xm rfl rfl rfl rfl ?_
        refine X_op' rfl (A_int rfl rfl rfl ⟨by decide, by decide⟩ (addI (by omega))) ?_
        refine xa rfl rfl rfl rfl ?_
        refine X_end ?_
        try dsimp only [St.put, szA, List.length, Nat.reduceAdd]
        simp only [Int.toNat_natCast, Nat.zero_add] at *
        subst heq
        refine ⟨nn - 1, by omega, i + 1, AT, V.set i (V.getD i 0 - 20), S.set (AT.getD i 0).toNat (S.getD (AT.getD i 0).toNat 0 + (V.getD i 0 - 20)), k1, k2, hk1, hk2, hAT, by rw [List.length_set]; exact hV, by rw [List.length_set]; exact hS, hat, fun j hj => ?_, fun j hj => ?_, hs.step hS (by omega) haz.1 haz.2 _, Eq.trans (b := st4a xs be ab AT (V.set i (V.getD i 0 - 20)) (S.set (AT.getD i 0).toNat (S.getD (AT.getD i 0).toNat 0 + (V.set i (V.getD i 0 - 20)).getD i 0)) k1 k2 ((i : Int) + 1)) (by kernel_rfl) (by rw [hset]; rfl), by omega⟩
        ·rw [NumA.getD_set_ne _ _ _ _ (by omega)]
         exact hv1 j (by omega)
        ·by_cases e : j = i
         ·subst e; rw [hset]; omega
         ·rw [NumA.getD_set_ne _ _ _ _ (fun h => e h.symm)]
          exact hv2 j (by omega)
       ·have khb7 := hb7; (try simp only [kb] at khb7)
        refine W_exit ?_
        refine Q_seqX ?_
        refine Q_rndX ?_
        refine Q_blkE ?_
        refine Q_seq ?_
        refine W_seq ?_
        refine wsr ?_
        obtain rfl : i = xs.length := by omega
        have hVb : ∀ j, -20 ≤ V.getD j 0 ∧ V.getD j 0 ≤ 20 := getD_all (by omega) fun j hj => hv2 j (by omega)
        have hSb0 : ∀ z, -600 ≤ S.getD z 0 ∧ S.getD z 0 ≤ 600 := getD_all (by omega) fun z hz => by
          have h1 := hs z (by omega)
          have h2 := islZ_bound (isl := iF AT) (z := (z : Int)) (f := iF V) (B := 20) (by omega) xs.length (fun j hj => hVb j)
          rw [h1]; omega
        clear hv1 hv2 khb7 hb7 hnn
        refine xa rfl rfl rfl rfl ?_
        refine X_endS ?_
        try dsimp only [St.put, szA, List.length, Nat.reduceAdd]
        refine W_blk ?_
        refine W_loop (fun nn σ => ∃ (i : Nat) (V S : List Int), V.length = xs.length ∧ S.length = 3 ∧ Sums S AT V xs.length ∧ (∀ j, j < i → S.getD (AT.getD j 0).toNat 0 = 0) ∧ (∀ j, -620 ≤ V.getD j 0 ∧ V.getD j 0 ≤ 620) ∧ (∀ j, i ≤ j → -20 ≤ V.getD j 0 ∧ V.getD j 0 ≤ 20) ∧ (∀ z, -600 ≤ S.getD z 0 ∧ S.getD z 0 ≤ 600) ∧ σ = st4b xs be ab AT V S k1 k2 i ∧ nn + i = xs.length) (xs.length) ?_ ⟨0, V, S, hV, hS, hs, (fun j h => absurd h (by omega)), (fun j => by have := hVb j; omega), (fun j _ => hVb j), hSb0, by kernel_rfl, rfl⟩ (by omega)
        clear hs hV hS hVb hSb0
        rintro nn _ ⟨i, V, S, hV, hS, hs, hz0, hV1, hV2, hSb, rfl, hnn⟩
        refine W_seq ?_
        refine wsr ?_
        refine xm rfl rfl rfl rfl ?_
        refine xm rfl rfl rfl rfl ?_
        refine X_op' rfl (A_lenT rfl rfl rfl rfl rfl rfl rfl) ?_
        refine X_op' rfl (A_int rfl rfl rfl ⟨by decide, by decide⟩ rfl) ?_
        refine X_endS ?_
        try dsimp only [St.put, szA, List.length, Nat.reduceAdd]
        refine W_condB rfl (fun hb8 => ?_) (fun hb8 => ?_)
        ·have khb8 := hb8; (try simp only [kb] at khb8)
         refine W_skip ?_
         refine Q_seq ?_
         refine W_seq ?_
         refine W_blk ?_
         refine wsr ?_
         refine X_op' rfl (A_mvM (.inl rfl) rfl) ?_
         refine xm rfl rfl rfl rfl ?_
         refine X_op' rfl (A_ixO rfl rfl rfl rfl rfl rfl rfl (by omega) (by omega)) ?_
         refine X_op' rfl (A_ld rfl rfl rfl (ld_row (0 : Int) rfl (by first | omega | (simp only [List.length_set]; omega)) rfl rfl rfl)) ?_
         refine X_op' rfl (A_mvM (.inl rfl) rfl) ?_
         refine xm rfl rfl rfl rfl ?_
         refine X_op' rfl (A_ixO rfl rfl rfl rfl rfl rfl rfl (by omega) (by omega)) ?_
         refine X_op' rfl (A_ld rfl rfl rfl (ld_row (0 : Int) rfl (by first | omega | (simp only [List.length_set]; omega)) rfl rfl rfl)) ?_
         have haz := hat (0 + ((i : Int)).toNat)
         obtain ⟨az, heq⟩ : ∃ az, az = AT.getD (0 + ((i : Int)).toNat) 0 := ⟨_, rfl⟩
         rw [← heq] at haz
         rw [← heq]
         refine X_op' rfl (A_ixA3 rfl rfl rfl rfl rfl rfl rfl rfl (by omega) (by omega)) ?_
         refine X_op' rfl (A_ld rfl rfl rfl (ld_arr rfl (by omega) rfl rfl)) ?_
         refine X_op' rfl (A_int rfl rfl rfl ⟨by decide, by decide⟩ (subI (by have h1 := hV1 (0 + ((i : Int)).toNat); have h2 := hSb az.toNat; omega))) ?_
         refine X_op' rfl (A_ixO rfl rfl rfl rfl rfl rfl rfl (by omega) (by omega)) ?_
         refine X_op' rfl (A_stR (0 : Int) rfl rfl rfl (V_t rfl) (K_t rfl) rfl rfl (by first | omega | (simp only [List.length_set]; omega)) rfl rfl rfl rfl rfl rfl) ?_
         refine X_endDS (by kernel_rfl) (by kernel_rfl) ?_
         try dsimp only [St.put, szA, List.length, Nat.reduceAdd]
         refine W_reg ?_
         refine X_op' rfl (A_mvM (.inl rfl) rfl) ?_
         refine xm rfl rfl rfl rfl ?_
         refine X_op' rfl (A_ixO rfl rfl rfl rfl rfl rfl rfl (by omega) (by omega)) ?_
         refine X_op' rfl (A_ld rfl rfl rfl (ld_row (0 : Int) rfl (by first | omega | (simp only [List.length_set]; omega)) rfl rfl rfl)) ?_
         rw [← heq]
         refine X_op' rfl (A_ixA3 rfl rfl rfl rfl rfl rfl rfl rfl (by omega) (by omega)) ?_
         refine X_op' rfl (A_stArr rfl rfl rfl rfl rfl hS (by omega) rfl) ?_
         refine X_end ?_
         try dsimp only [St.put, szA, List.length, Nat.reduceAdd]
         refine Q_blkN ?_
         refine Q_seq ?_
         refine W_reg ?_
         refine xm rfl rfl rfl rfl ?_
         refine X_op' rfl (A_int rfl rfl rfl ⟨by decide, by decide⟩ (addI (by omega))) ?_
         refine xa rfl rfl rfl rfl ?_
         refine X_end ?_
         try dsimp only [St.put, szA, List.length, Nat.reduceAdd]
         simp only [Int.toNat_natCast, Nat.zero_add] at *
         subst heq
         have h1 := hV2 i (Nat.le_refl _)
         have h2 := hSb (AT.getD i 0).toNat
         refine ⟨nn - 1, by omega, i + 1, V.set i (V.getD i 0 - S.getD (AT.getD i 0).toNat 0), S.set (AT.getD i 0).toNat 0, by rw [List.length_set]; exact hV, by rw [List.length_set]; exact hS, hs.bal hS hV (by omega) haz.1 haz.2, fun j hj => ?_, fun j => ?_, fun j hj => ?_, fun z => ?_, Eq.trans (b := st4b xs be ab AT (V.set i (V.getD i 0 - S.getD (AT.getD i 0).toNat 0)) (S.set (AT.getD i 0).toNat 0) k1 k2 ((i : Int) + 1)) (by kernel_rfl) rfl, by omega⟩
         ·by_cases e : (AT.getD i 0).toNat = (AT.getD j 0).toNat
          ·rw [e]
           exact NumA.getD_set_self _ _ _ (by have := hat j; omega)
          ·rw [NumA.getD_set_ne _ _ _ _ e]
           by_cases e2 : j = i
           ·subst e2; exact absurd rfl e
           ·exact hz0 j (by omega)
         ·by_cases e : j = i
          ·subst e; rw [NumA.getD_set_self _ _ _ (by omega)]; omega
          ·rw [NumA.getD_set_ne _ _ _ _ (fun h => e h.symm)]
           exact hV1 j
         ·rw [NumA.getD_set_ne _ _ _ _ (by omega)]
          exact hV2 j (by omega)
         ·by_cases e : z = (AT.getD i 0).toNat
          ·subst e; rw [NumA.getD_set_self _ _ _ (by omega)]; omega
          ·rw [NumA.getD_set_ne _ _ _ _ (fun h => e h.symm)]
           exact hSb z
        ·have khb8 := hb8; (try simp only [kb] at khb8)
         refine W_exit ?_
         refine Q_seqX ?_
         refine Q_rndX ?_
         refine Q_blkE ?_
         refine Q_seq ?_
         refine wsr ?_
         obtain rfl : i = xs.length := by omega
         have hbal : ∀ j, j < xs.length → islZ (iF AT) xs.length (iF AT j) (iF V) = 0 := fun j hj => by
           have h1 := hat j
           have h2 := hs (AT.getD j 0).toNat (by omega)
           rw [hz0 j hj] at h2
           rw [show iF AT j = (((AT.getD j 0).toNat : Nat) : Int) by unfold iF; omega]
           exact h2.symm
         clear hV2 hSb hz0 hs khb8 hb8 hnn
         refine xm rfl rfl rfl rfl ?_
         refine xm rfl rfl rfl rfl ?_
         refine X_op' rfl (A_callO rfl rfl rfl rfl (.cons (V_t rfl) (K_t rfl) (.cons (V_t rfl) (K_t rfl) (.cons (V_t rfl) (K_t rfl) .nil))) (c10 hx hx0 (by omega) (by omega) (by omega))) ?_
         refine xm rfl rfl rfl rfl ?_
         refine xm rfl rfl rfl rfl ?_
         refine X_op' rfl (A_callO rfl rfl rfl rfl (.cons (V_t rfl) (K_t rfl) (.cons (V_t rfl) (K_t rfl) (.cons (V_t rfl) (K_t rfl) .nil))) (c10 hx hx0 (by omega) (by omega) (by omega))) ?_
         refine X_op' rfl (A_mvM (.inr rfl) rfl) ?_
         refine X_op' rfl (A_mvM (.inr rfl) rfl) ?_
         refine X_endS ?_
         try dsimp only [St.put, szA, List.length, Nat.reduceAdd]
         refine wsr ?_
         refine X_op' rfl (A_callV rfl rfl rfl rfl .nil c15) ?_
         refine X_op' rfl (A_alloc rfl rfl) ?_
         refine X_op' rfl (A_stV rfl rfl rfl (V_t rfl) (K_t rfl) rfl rfl rfl rfl rfl rfl rfl) ?_
         refine X_endS ?_
         try dsimp only [St.put, szA, List.length, Nat.reduceAdd]
         refine W_seq ?_
         refine wsr ?_
         obtain ⟨k3, hk3, hk3'⟩ : ∃ k, k = xs.length ∧ ((fitL be 9 xs.length).map ii).length = k := ⟨_, rfl, by rw [List.length_map, fitL_len]⟩
         obtain ⟨k4, hk4, hk4'⟩ : ∃ k, k = xs.length ∧ ((fitL ab 9 xs.length).map ii).length = k := ⟨_, rfl, by rw [List.length_map, fitL_len]⟩
         rw [hk3', hk4']
         refine xa rfl rfl rfl rfl ?_
         refine X_endS ?_
         try dsimp only [St.put, szA, List.length, Nat.reduceAdd]
         refine W_blk ?_
         refine W_loop (fun nn σ => ∃ (i : Nat) (LO HI : List Int) (q : Rat), LO.length = xs.length ∧ HI.length = xs.length ∧ (∀ j, j < i → LO.getD j 0 ≤ V.getD j 0 ∧ V.getD j 0 ≤ HI.getD j 0) ∧ (∀ j, (-700 ≤ LO.getD j 0 ∧ LO.getD j 0 ≤ 700) ∧ -700 ≤ HI.getD j 0 ∧ HI.getD j 0 ≤ 700) ∧ (∀ j, i ≤ j → (0 ≤ LO.getD j 0 ∧ LO.getD j 0 < 9) ∧ 0 ≤ HI.getD j 0 ∧ HI.getD j 0 < 9) ∧ q = valQ (tF xs) i (iF V) ∧ Fit (1 + i * (4 + 2)) q ∧ σ = st4c xs AT V LO HI k1 k2 k3 k4 q i ∧ nn + i = xs.length) (xs.length) ?_ ⟨0, fitL be 9 xs.length, fitL ab 9 xs.length, 0, fitL_len _ _ _, fitL_len _ _ _, (fun j h => absurd h (by omega)), (fun j => by have h1 := fitL_bound be (n := 9) (by omega) xs.length j; have h2 := fitL_bound ab (n := 9) (by omega) xs.length j; omega), (fun j _ => ⟨fitL_bound _ (by omega) _ _, fitL_bound _ (by omega) _ _⟩), rfl, NumA.fit_zero (by decide), (show _ = st4c xs AT V (fitL be 9 xs.length) (fitL ab 9 xs.length) k1 k2 k3 k4 0 (0 : Nat) by kernel_rfl), rfl⟩ (by omega)
         rintro nn _ ⟨i, LO, HI, q, hLO, hHI, hin1, hLH, hLH2, hqv, hq, rfl, hnn⟩
         refine W_seq ?_
         refine wsr ?_
         refine xm rfl rfl rfl rfl ?_
         refine xm rfl rfl rfl rfl ?_
         refine X_op' rfl (A_lenT rfl rfl rfl rfl rfl rfl rfl) ?_
         refine X_op' rfl (A_int rfl rfl rfl ⟨by decide, by decide⟩ rfl) ?_
         refine X_endS ?_
         try dsimp only [St.put, szA, List.length, Nat.reduceAdd]
         refine W_condB rfl (fun hb9 => ?_) (fun hb9 => ?_)
         ·have khb9 := hb9; (try simp only [kb] at khb9)
          refine W_skip ?_
          refine Q_seq ?_
          refine W_seq ?_
          refine W_blk ?_
          refine wsr ?_
          refine X_op' rfl (A_mvM (.inl rfl) rfl) ?_
          refine xm rfl rfl rfl rfl ?_
          refine X_op' rfl (A_mvM (.inl rfl) rfl) ?_
          refine xm rfl rfl rfl rfl ?_
          refine X_op' rfl (A_mvM (.inl rfl) rfl) ?_
          refine xm rfl rfl rfl rfl ?_
          refine X_op' rfl (A_ixO rfl rfl rfl rfl rfl rfl rfl (by omega) (by omega)) ?_
          refine X_op' rfl (A_ld rfl rfl rfl (ld_row (0 : Int) rfl (by first | omega | (simp only [List.length_set]; omega)) rfl rfl rfl)) ?_
          refine X_op' rfl (A_mvM (.inl rfl) rfl) ?_
          refine xm rfl rfl rfl rfl ?_
          refine X_op' rfl (A_ixO rfl rfl rfl rfl rfl rfl rfl (by omega) (by omega)) ?_
          refine X_op' rfl (A_ld rfl rfl rfl (ld_row (0 : Int) rfl (by first | omega | (simp only [List.length_set]; omega)) rfl rfl rfl)) ?_
          refine X_op' rfl (A_int rfl rfl rfl ⟨by decide, by decide⟩ (subI (by have h1 := hV1 (0 + ((i : Int)).toNat); have h2 := hLH (0 + ((i : Int)).toNat); omega))) ?_
          refine X_op' rfl (A_mvM (.inl rfl) rfl) ?_
          refine xm rfl rfl rfl rfl ?_
          refine X_op' rfl (A_ixO rfl rfl rfl rfl rfl rfl rfl (by omega) (by omega)) ?_
          refine X_op' rfl (A_ld rfl rfl rfl (ld_row (0 : Int) rfl (by first | omega | (simp only [List.length_set]; omega)) rfl rfl rfl)) ?_
          refine X_op' rfl (A_mvM (.inl rfl) rfl) ?_
          refine xm rfl rfl rfl rfl ?_
          refine X_op' rfl (A_ixO rfl rfl rfl rfl rfl rfl rfl (by omega) (by omega)) ?_
          refine X_op' rfl (A_ld rfl rfl rfl (ld_row (0 : Int) rfl (by first | omega | (simp only [List.length_set]; omega)) rfl rfl rfl)) ?_
          refine X_op' rfl (A_int rfl rfl rfl ⟨by decide, by decide⟩ (addI (by have h1 := hV1 (0 + ((i : Int)).toNat); have h2 := hLH (0 + ((i : Int)).toNat); omega))) ?_
          refine X_op' rfl (A_ixO rfl rfl rfl rfl rfl rfl rfl (by omega) (by omega)) ?_
          refine X_op' rfl (A_stR (0 : Int) rfl rfl rfl (V_t rfl) (K_t rfl) rfl rfl (by first | omega | (simp only [List.length_set]; omega)) rfl rfl rfl rfl rfl rfl) ?_
          refine X_op' rfl (A_ixO rfl rfl rfl rfl rfl rfl rfl (by omega) (by omega)) ?_
          refine X_op' rfl (A_stR (0 : Int) rfl rfl rfl (V_t rfl) (K_t rfl) rfl rfl (by first | omega | (simp only [List.length_set]; omega)) rfl rfl rfl rfl rfl rfl) ?_
          refine X_endDS (by kernel_rfl) (by kernel_rfl) ?_
          try dsimp only [St.put, szA, List.length, Nat.reduceAdd]
          refine W_reg ?_
          refine X_op' rfl (A_ld rfl rfl rfl (ld_mp rfl rfl rfl rfl rfl rfl)) ?_
          refine xm rfl rfl rfl rfl ?_
          refine xm rfl rfl rfl rfl ?_
          refine X_op' rfl (A_ixA r0 rfl rfl rfl rfl rfl rfl rfl (by omega) (by omega) rfl rfl) ?_
          refine X_op' rfl (A_ld rfl rfl rfl (ld_ip3 rfl rfl rfl rfl rfl)) ?_
          refine X_op' rfl (A_mvM (.inl rfl) rfl) ?_
          refine xm rfl rfl rfl rfl ?_
          refine X_op' rfl (A_ixO rfl rfl rfl rfl rfl rfl rfl (by omega) (by omega)) ?_
          refine X_op' rfl (A_ld rfl rfl rfl (ld_row (0 : Int) rfl (by first | omega | (simp only [List.length_set]; omega)) rfl rfl rfl)) ?_
          refine X_op' rfl (A_callV rfl rfl rfl rfl (.cons (V_t rfl) (K_t rfl) .nil) (c18 (by have h1 := hV1 (0 + ((i : Int)).toNat); omega) (by have h1 := hV1 (0 + ((i : Int)).toNat); omega))) ?_
          refine X_op' rfl (A_callV rfl rfl rfl rfl (.cons (V_t rfl) (K_t rfl) (.cons (V_t rfl) (K_t rfl) .nil)) (mul17 (getD_ok w _) (by decide) (by decide) (by have h1 := hV1 (0 + ((i : Int)).toNat); omega))) ?_
          refine X_op' rfl (A_callV rfl rfl rfl rfl (.cons (V_t rfl) (K_t rfl) (.cons (V_t rfl) (K_t rfl) .nil)) (step16 hq (by omega) (getD_ok w _) (by decide) (by decide) (by have h1 := hV1 (0 + ((i : Int)).toNat); omega))) ?_
          refine X_op' rfl (A_stV rfl rfl rfl (V_t rfl) (K_t rfl) rfl rfl rfl rfl rfl rfl rfl) ?_
          refine X_endD (by kernel_rfl) (by kernel_rfl) ?_
          try dsimp only [St.put, szA, List.length, Nat.reduceAdd]
          refine Q_blkN ?_
          refine Q_seq ?_
          refine W_reg ?_
          refine xm rfl rfl rfl rfl ?_
          refine X_op' rfl (A_int rfl rfl rfl ⟨by decide, by decide⟩ (addI (by omega))) ?_
          refine xa rfl rfl rfl rfl ?_
          refine X_end ?_
          try dsimp only [St.put, szA, List.length, Nat.reduceAdd]
          simp only [Int.toNat_natCast, Nat.zero_add] at *
          have h1 := hV1 i
          have h2 := hLH2 i (Nat.le_refl _)
          refine ⟨nn - 1, by omega, i + 1, LO.set i (V.getD i 0 - LO.getD i 0), HI.set i (V.getD i 0 + HI.getD i 0), q + tF xs i * ((iF V i : Int) : Rat), by rw [List.length_set]; exact hLO, by rw [List.length_set]; exact hHI, fun j hj => ?_, fun j => ?_, fun j hj => ?_, by rw [hqv]; rfl, fit_step hq (Rw.fit (getD_ok w _) (by decide)) (by unfold iF; omega), Eq.trans (b := st4c xs AT V (LO.set i (V.getD i 0 - LO.getD i 0)) (HI.set i (V.getD i 0 + HI.getD i 0)) k1 k2 k3 k4 (q + tF xs i * ((iF V i : Int) : Rat)) ((i : Int) + 1)) (by kernel_rfl) rfl, by omega⟩
          ·by_cases e : j = i
           ·subst e; rw [NumA.getD_set_self _ _ _ (by omega), NumA.getD_set_self _ _ _ (by omega)]; omega
           ·rw [NumA.getD_set_ne _ _ _ _ (fun h => e h.symm), NumA.getD_set_ne _ _ _ _ (fun h => e h.symm)]
            exact hin1 j (by omega)
          ·by_cases e : j = i
           ·subst e; rw [NumA.getD_set_self _ _ _ (by omega), NumA.getD_set_self _ _ _ (by omega)]; omega
           ·rw [NumA.getD_set_ne _ _ _ _ (fun h => e h.symm), NumA.getD_set_ne _ _ _ _ (fun h => e h.symm)]
            exact hLH j
          ·rw [NumA.getD_set_ne _ _ _ _ (by omega), NumA.getD_set_ne _ _ _ _ (by omega)]
           exact hLH2 j (by omega)
         ·have khb9 := hb9; (try simp only [kb] at khb9)
          refine W_exit ?_
          refine Q_seqX ?_
          refine Q_rndX ?_
          refine Q_blkE ?_
          refine Q_seq ?_
          refine wsr ?_
          refine xm rfl rfl rfl rfl ?_
          refine X_op' rfl (A_mvM (.inl rfl) rfl) ?_
          refine X_op' rfl (A_mvM (.inl rfl) rfl) ?_
          refine X_op' rfl (A_mvM (.inl rfl) rfl) ?_
          obtain rfl : i = xs.length := by omega
          have hin : inE xs LO HI AT := ⟨by omega, hLO, hHI, hAT, fun j hj => by have := hLH j; unfold inB; omega⟩
          obtain ⟨le, mo, hE, hle, hmo⟩ := exP_inside hin (y := iF V) ⟨fun j hj => (hin1 j hj).1, fun j hj => (hin1 j hj).2, hbal⟩
          have hf9 := exP_fit w (by decide) (by decide) hE
          have hq9 : Fit (1 + 64 * (4 + 2)) q := fit_lim hq (by omega)
          rw [← hqv] at hle hmo
          refine X_op' rfl (A_callV rfl rfl rfl rfl (.cons (V_t rfl) (K_t rfl) (.cons (V_m rfl rfl rfl (by rw [List.length_map]; omega)) (K_m rfl) (.cons (V_m rfl rfl rfl (by rw [List.length_map]; omega)) (K_m rfl) (.cons (V_m rfl rfl rfl (by rw [List.length_map]; omega)) (K_m rfl) .nil)))) (cc11 w (by decide) (by decide) (by omega) (by omega) (by omega) (by omega) hE)) ?_
          refine X_op' rfl (A_mvU (.inl rfl) rfl) ?_
          refine X_op' rfl (A_ext rfl rfl rfl) ?_
          refine X_op' rfl (A_ext rfl rfl rfl) ?_
          refine X_op' rfl (A_ext rfl rfl rfl) ?_
          refine X_op' rfl (A_alloc rfl rfl) ?_
          refine X_op' rfl (A_alloc rfl rfl) ?_
          refine X_op' rfl (A_stV rfl rfl rfl (V_t rfl) (K_t rfl) rfl rfl rfl rfl rfl rfl rfl) ?_
          refine X_op' rfl (A_stV rfl rfl rfl (V_t rfl) (K_t rfl) rfl rfl rfl rfl rfl rfl rfl) ?_
          refine xa rfl rfl rfl rfl ?_
          refine X_endS ?_
          try dsimp only [St.put, szA, List.length, Nat.reduceAdd]
          refine wsr ?_
          refine X_op' rfl (A_callV rfl rfl rfl rfl .nil c13) ?_
          refine xm rfl rfl rfl rfl ?_
          refine X_yes' rfl rfl rfl rfl (A_mvT (.inl rfl) rfl rfl) ?_
          refine X_op' rfl (A_pickT rfl rfl rfl rfl) ?_
          refine xm rfl rfl rfl rfl ?_
          refine X_yes' rfl rfl rfl rfl (A_ld rfl rfl rfl (ld_mp rfl rfl rfl rfl rfl rfl)) ?_
          refine X_yes' rfl rfl rfl rfl (A_ld rfl rfl rfl (ld_mp rfl rfl rfl rfl rfl rfl)) ?_
          refine X_yes' rfl rfl rfl rfl (A_callV rfl rfl rfl rfl (.cons (V_t rfl) (K_t rfl) (.cons (V_t rfl) (K_t rfl) .nil)) ((c14 (Rw.can hf9.1) (Rw.can hq9) (by decide) (by decide)).trans (show some (Ret.ts [ii (cmpQ (rv (decide (le.num < 0)) (en (le.num.natAbs : Int)) (en (le.den : Int))) (rv (decide (q.num < 0)) (en (q.num.natAbs : Int)) (en (q.den : Int))))]) = some (Ret.ts [ii (cmpQ le q)]) by rw [tc_rv, tc_rv]))) ?_
          refine X_yes' rfl rfl rfl rfl (A_int rfl rfl rfl ⟨by decide, by decide⟩ rfl) ?_
          refine X_op' rfl (A_pickT rfl rfl rfl rfl) ?_
          refine xm rfl rfl rfl rfl ?_
          refine X_both (d := 167) rfl (fun hb10 => ?_) (fun hb10 => ?_)
          ·have khb10 := hb10; (try simp only [kb] at khb10)
           refine X_yes' rfl rfl rfl hb10 (A_ld rfl rfl rfl (ld_mp rfl rfl rfl rfl rfl rfl)) ?_
           refine X_yes' rfl rfl rfl hb10 (A_ld rfl rfl rfl (ld_mp rfl rfl rfl rfl rfl rfl)) ?_
           refine X_yes' rfl rfl rfl hb10 (A_callV rfl rfl rfl rfl (.cons (V_t rfl) (K_t rfl) (.cons (V_t rfl) (K_t rfl) .nil)) ((c14 (Rw.can hq9) (Rw.can hf9.2) (by decide) (by decide)).trans (show some (Ret.ts [ii (cmpQ (rv (decide (q.num < 0)) (en (q.num.natAbs : Int)) (en (q.den : Int))) (rv (decide (mo.num < 0)) (en (mo.num.natAbs : Int)) (en (mo.den : Int))))]) = some (Ret.ts [ii (cmpQ q mo)]) by rw [tc_rv, tc_rv]))) ?_
           refine X_yes' rfl rfl rfl hb10 (A_int rfl rfl rfl ⟨by decide, by decide⟩ rfl) ?_
           refine X_op' rfl (A_pickT rfl rfl hb10 rfl) ?_
           refine xa rfl rfl rfl rfl ?_
           refine X_endS ?_
           try dsimp only [St.put, szA, List.length, Nat.reduceAdd]
           refine W_ret ?_
           rw [show Ret.ts [T.v (.bool true)] = .ts [T.v (.bool (decide (cmpQ q mo ≤ 0)))] by rw [decide_eq_true (cmpQ_le.2 hmo)]]
           exact end_R rfl (.t rfl .nil)
          ·have khb10 := hb10; (try simp only [kb] at khb10)
           exact absurd (cmpQ_le.2 hle) (Int.not_le.2 khb10)
theorem fin4 {xs : List Rr} {x be ab is : List Int} (hU : ∀ x ∈ xs, U32 x.l ∧ U32 x.k) {w0 : World} {okA : Nat → Prop} {ρ0 : Nat → Nat} {a : Act} {w' : World}
    (hr : RelS w0 okA ⟨0, ρ0⟩ Tryz.f4.ntmps { tm := [tl xs, ti x, ti be, ti ab, ti is].zipIdx.map fun p => (p.2, .t p.1), mm := [], nx := 0 } a w') :
    (Tryz.f4.body.getD .skip).wp Tryz.prog (FinQ ty w0 okA ⟨0, ρ0⟩ Tryz.f4.ntmps Tryz.f4.results (.ts [.v (.bool true)])) a w' := by
  have hpre : WC ty sp4 0 keep4 4398046511104 (Tryz.f4.body.getD .skip) 0 { tm := [tl xs, ti x, ti be, ti ab, ti is].zipIdx.map fun p => (p.2, .t p.1), mm := [], nx := 0 } (EndQ ty false Tryz.f4.results (.ts [.v (.bool true)])) := by
    cases xs with
    | nil => exact run4b 4398046511104 (by decide) _ rfl
    | cons y xs => exact run4c hU (by simp) 4398046511104 (by decide) _ rfl
  exact fin_wc (F := ⟨0, ρ0⟩) mixed ty_ok hs4 hpre (by kernel_rfl) hr
end Go.Ev.S
/- Laws' arguments: what trees they are. -/
set_option linter.unusedVariables false
set_option maxRecDepth 100000
namespace Go.Ev
open Go
theorem list_of {α : Type} {f : α → T} {Q : α → Prop} : ∀ {l : List T}, (∀ y ∈ l, ∃ z, y = f z ∧ Q z) → ∃ zs : List α, l = zs.map f ∧ ∀ z ∈ zs, Q z
  | [], _ => ⟨[], rfl, by simp⟩
  | y :: l, h => by
    obtain ⟨z, rfl, hz⟩ := h y (by simp)
    obtain ⟨zs, rfl, h2⟩ := list_of (l := l) fun y hy => h y (List.mem_cons_of_mem _ hy)
    exact ⟨z :: zs, rfl, fun q hq => (List.mem_cons.1 hq).elim (fun e => e ▸ hz) (h2 q)⟩
theorem ofTy_int {P : Program} {n t : Nat} {y : T} {k : IntKind} (hu : P.underlying t = some (.int k)) (h : OfTy P (n + 1) t y) : ∃ z, y = .v (.int k z) ∧ (Lit.int k z).wf = true := by
  simpa only [OfTy, hu] using h
theorem ofTy_bool {P : Program} {n t : Nat} {y : T} (hu : P.underlying t = some .bool) (h : OfTy P (n + 1) t y) : ∃ b, y = .v (.bool b) := by
  simpa only [OfTy, hu] using h
theorem ofTy_slice {P : Program} {n t e : Nat} {y : T} (hu : P.underlying t = some (.slice e)) (h : OfTy P (n + 1) t y) : ∃ l, y = .sl (P.cellsOf e) l ∧ l.length ≤ maxLen ∧ ∀ y ∈ l, OfTy P n e y := by
  simpa only [OfTy, hu] using h
def fieldTypes : Option TypeDesc → List Nat
  | some (.struct fs) => fs.toList.map (·.type)
  | _ => []
theorem ofTy_struct2 {P : Program} {n t a b : Nat} {y : T} (hm : fieldTypes (P.underlying t) = [a, b]) (h : OfTy P (n + 1) t y) : ∃ ya yb, OfTy P n a ya ∧ OfTy P n b yb ∧ y = .agg (ya.cells ++ yb.cells) := by
  unfold fieldTypes at hm
  split at hm
  · rename_i fs hu
    simp only [OfTy, hu] at h
    obtain ⟨ys, h1, h2, rfl⟩ := h
    have hl : fs.toList.length = 2 := by rw [← List.length_map (f := fun x : Field => x.type), hm]; rfl
    match ys, h1 with
    | [ya, yb], h1 =>
      have e0 : (fs.toList.map (·.type))[0]? = some a := by rw [hm]; rfl
      have e1 : (fs.toList.map (·.type))[1]? = some b := by rw [hm]; rfl
      rw [List.getElem?_map] at e0 e1
      obtain ⟨f0, g0, rfl⟩ := Option.map_eq_some_iff.1 e0
      obtain ⟨f1, g1, rfl⟩ := Option.map_eq_some_iff.1 e1
      exact ⟨ya, yb, h2 0 f0 ya (by simpa using g0) rfl, h2 1 f1 yb (by simpa using g1) rfl, by simp⟩
    | [], h1 => simp at h1; simp [← h1] at hl
    | [_], h1 => simp at h1; simp [← h1] at hl
    | _ :: _ :: _ :: _, h1 => simp at h1; simp [← h1] at hl
  · cases hm
theorem wf_i64 {z : Int} (h : (Lit.int .i64 z).wf = true) : -9223372036854775808 ≤ z ∧ z < 9223372036854775808 := by
  simp [Lit.wf, IntKind.min, IntKind.max, IntKind.signed, IntKind.bits] at h; omega
theorem wf_u32 {z : Int} (h : (Lit.int .u32 z).wf = true) : 0 ≤ z ∧ z < 4294967296 := by
  simp [Lit.wf, IntKind.min, IntKind.max, IntKind.signed, IntKind.bits] at h; omega
namespace S
open Go.Proofs NumA
theorem ofTy_ints {n : Nat} {y : T} (h : OfTy Tryz.prog (n + 2) 23 y) : ∃ l : List Int, y = ti l ∧ l.length ≤ maxLen ∧ ∀ z ∈ l, -9223372036854775808 ≤ z ∧ z < 9223372036854775808 := by
  obtain ⟨l, rfl, hl, h1⟩ := ofTy_slice (e := 3) (by kernel_rfl) h
  obtain ⟨zs, rfl, hz⟩ := list_of (f := ii) (Q := fun z => (Lit.int .i64 z).wf = true) fun y hy => ofTy_int (by kernel_rfl) (h1 y hy)
  exact ⟨zs, by rw [show Tryz.prog.cellsOf 3 = 1 by kernel_rfl], by simpa using hl, fun z hz' => wf_i64 (hz z hz')⟩
theorem ofTy_nat {n : Nat} {y : T} (h : OfTy Tryz.prog (n + 2) 26 y) : ∃ l : List Int, y = tn l ∧ U32 l := by
  obtain ⟨l, rfl, _, h1⟩ := ofTy_slice (e := 61) (by kernel_rfl) h
  obtain ⟨zs, rfl, hz⟩ := list_of (f := lim) (Q := fun z => (Lit.int .u32 z).wf = true) fun y hy => ofTy_int (by kernel_rfl) (h1 y hy)
  exact ⟨zs, by rw [show Tryz.prog.cellsOf 61 = 1 by kernel_rfl], fun z hz' => wf_u32 (hz z hz')⟩
theorem ofTy_rat {n : Nat} {y : T} (h : OfTy Tryz.prog (n + 4) 30 y) : ∃ x : Rr, y = x.t ∧ U32 x.l ∧ U32 x.k := by
  obtain ⟨ya, yb, ha, hb, rfl⟩ := ofTy_struct2 (a := 28) (b := 26) (by kernel_rfl) h
  obtain ⟨y0, y1, h0, h1, rfl⟩ := ofTy_struct2 (a := 4) (b := 26) (by kernel_rfl) ha
  obtain ⟨b, rfl⟩ := ofTy_bool (by kernel_rfl) h0
  obtain ⟨l, rfl, hl⟩ := ofTy_nat h1
  obtain ⟨k, rfl, hk⟩ := ofTy_nat hb
  exact ⟨⟨b, l, k⟩, rfl, hl, hk⟩
theorem ofTy_rats {n : Nat} {y : T} (h : OfTy Tryz.prog (n + 5) 22 y) : ∃ xs : List Rr, y = tl xs ∧ xs.length ≤ maxLen ∧ ∀ x ∈ xs, U32 x.l ∧ U32 x.k := by
  obtain ⟨l, rfl, hl, h1⟩ := ofTy_slice (e := 30) (by kernel_rfl) h
  obtain ⟨zs, rfl, hz⟩ := list_of (f := Rr.t) (Q := fun x => U32 x.l ∧ U32 x.k) fun y hy => ofTy_rat (h1 y hy)
  exact ⟨zs, by rw [show Tryz.prog.cellsOf 30 = 3 by kernel_rfl], by simpa using hl, hz⟩
theorem sup22 : supp Tryz.prog 5 22 = true := by kernel_rfl
theorem sup23 : supp Tryz.prog 5 23 = true := by kernel_rfl
end S
end Go.Ev
/- For every input the law ScreenInside returns true, and its arguments read as before: every list in the box whose elements have the sum 0 in each island lies between the two values. No conditions. -/
set_option linter.unusedVariables false
set_option maxRecDepth 100000
namespace Go.Proofs.YtlnddlmppngegaaGreat.screenInside
open Go.ChangeShapes Go.WideShapes Go.ChangeAt Go.RowKit Go.Ev Go.Ev.S
open Go Go.Proofs
theorem own : ownKnob Tryz.prog.godebug = none := by kernel_rfl
theorem laidOut : laidOutB Tryz.prog = true := by kernel_rfl
theorem walk {W : World} {ok : Nat → Prop} {x0 : List Rr} {x1 : List Int} {x2 : List Int} {x3 : List Int} {x4 : List Int} (h0 : ∀ x ∈ x0, NumA.U32 x.l ∧ NumA.U32 x.k) (h1 : ∀ z ∈ x1, -9223372036854775808 ≤ z ∧ z < 9223372036854775808) (h2 : ∀ z ∈ x2, -9223372036854775808 ≤ z ∧ z < 9223372036854775808) (h3 : ∀ z ∈ x3, -9223372036854775808 ≤ z ∧ z < 9223372036854775808) (h4 : ∀ z ∈ x4, -9223372036854775808 ≤ z ∧ z < 9223372036854775808) {vals : List Value} (hr : RelL W ok [tl x0, ti x1, ti x2, ti x3, ti x4] vals) :
    Calls Tryz.prog 4 vals.toArray W fun e w' => e = .returned (.bool true) ∧ Below W.heap.size W w' :=
  law_calls ty_ok (c := Tryz.f4.body.getD .skip) Tryz.func4 rfl (enters_of Tryz.func4 (by kernel_rfl) rfl) [tl x0, ti x1, ti x2, ti x3, ti x4] (show 5 ≤ Tryz.f4.ntmps by decide) (fun okA ρ0 w a h => fin4 h0 h) hr
theorem lifted (os : Os) (started : os.Started) (H : Type) (enc : TypeId × Value → H) :
    ReturnsInHanded {} Tryz.checked os 4 .any (Rows.screenInsideSpec.pre6 enc Tryz.prog Tryz.f4 Rows.screenInsideRow.domain false) (Rows.screenInsideSpec.post enc Tryz.prog Tryz.f4 false true false false) := by
  refine returnsInHanded_of_change_sized (C := Tryz.checked) own started (by kernel_rfl) Tryz.func4
    (ChangeSpec.witness6 (enc := enc) (C := Tryz.checked) false ⟨#[], #[.slice none 0 0, .slice none 0 0, .slice none 0 0, .slice none 0 0, .slice none 0 0], []⟩ 8 (by kernel_rfl) (by kernel_rfl) (by kernel_rfl) (by kernel_rfl)) ?_
  intro W base args ds gs before hval0 hW hcnd hsz0 _
  have hval : ∀ (j : Nat) t v, Tryz.f4.params[j]? = some t → args[j]? = some v → Value.okWide Tryz.prog W .any base t v := hval0
  have hW' := hW
  obtain ⟨p, q, hA0, hV, rfl, hfz, hnd⟩ := hW
  have hA : DataW.TrodAll enc Tryz.prog W 0 (fun _ => true) true Tryz.f4.params.toList args.toList ds p := hA0
  rw [Tryz.params4] at hA hval
  obtain ⟨v0, vs0, d0, ds0, p0, q0, hargs, rfl, rfl, h0, r0⟩ := trodAll_cons hA
  obtain ⟨v1, vs1, d1, ds1, p1, q1, rfl, rfl, rfl, h1, r1⟩ := trodAll_cons r0
  obtain ⟨v2, vs2, d2, ds2, p2, q2, rfl, rfl, rfl, h2, r2⟩ := trodAll_cons r1
  obtain ⟨v3, vs3, d3, ds3, p3, q3, rfl, rfl, rfl, h3, r3⟩ := trodAll_cons r2
  obtain ⟨v4, vs4, d4, ds4, p4, q4, rfl, rfl, rfl, h4, r4⟩ := trodAll_cons r3
  obtain ⟨rfl, rfl, rfl⟩ := trodAll_nil r4
  obtain rfl : args = #[v0, v1, v2, v3, v4] := by cases args; simp_all
  obtain ⟨rfl, rfl⟩ := trodVars_none hV
  have lt : ∀ {t v d ps}, DataW.Trod enc Tryz.prog W 0 (fun _ => true) true t v d ps → ∀ x ∈ ps, x.block < W.heap.size := fun ⟨m, hm⟩ => DataW.trod_lt m _ _ _ hm
  obtain ⟨a0, b0, c0, rfl⟩ := okWide_slice (e := 30) (by kernel_rfl) (hval 0 22 v0 rfl rfl)
  obtain ⟨y0, o0, R0⟩ := tree_one (n := 5) sup22 h0 rfl (fun fs e => by rw [show Tryz.prog.underlying 22 = some (.slice 30) by kernel_rfl] at e; cases e)
  obtain ⟨x0, rfl, _, g0⟩ := ofTy_rats o0
  obtain ⟨a1, b1, c1, rfl⟩ := okWide_slice (e := 3) (by kernel_rfl) (hval 1 23 v1 rfl rfl)
  obtain ⟨y1, o1, R1⟩ := tree_one (n := 5) sup23 h1 rfl (fun fs e => by rw [show Tryz.prog.underlying 23 = some (.slice 3) by kernel_rfl] at e; cases e)
  obtain ⟨x1, rfl, _, g1⟩ := ofTy_ints o1
  obtain ⟨a2, b2, c2, rfl⟩ := okWide_slice (e := 3) (by kernel_rfl) (hval 2 23 v2 rfl rfl)
  obtain ⟨y2, o2, R2⟩ := tree_one (n := 5) sup23 h2 rfl (fun fs e => by rw [show Tryz.prog.underlying 23 = some (.slice 3) by kernel_rfl] at e; cases e)
  obtain ⟨x2, rfl, _, g2⟩ := ofTy_ints o2
  obtain ⟨a3, b3, c3, rfl⟩ := okWide_slice (e := 3) (by kernel_rfl) (hval 3 23 v3 rfl rfl)
  obtain ⟨y3, o3, R3⟩ := tree_one (n := 5) sup23 h3 rfl (fun fs e => by rw [show Tryz.prog.underlying 23 = some (.slice 3) by kernel_rfl] at e; cases e)
  obtain ⟨x3, rfl, _, g3⟩ := ofTy_ints o3
  obtain ⟨a4, b4, c4, rfl⟩ := okWide_slice (e := 3) (by kernel_rfl) (hval 4 23 v4 rfl rfl)
  obtain ⟨y4, o4, R4⟩ := tree_one (n := 5) sup23 h4 rfl (fun fs e => by rw [show Tryz.prog.underlying 23 = some (.slice 3) by kernel_rfl] at e; cases e)
  obtain ⟨x4, rfl, _, g4⟩ := ofTy_ints o4
  have hr : RelL W (fun b => b < W.heap.size) [tl x0, ti x1, ti x2, ti x3, ti x4] [.slice a0 b0 c0, .slice a1 b1 c1, .slice a2 b2 c2, .slice a3 b3 c3, .slice a4 b4 c4] := by
    simp only [RelL]
    exact ⟨_, _, rfl, R0, _, _, rfl, R1, _, _, rfl, R2, _, _, rfl, R3, _, _, rfl, R4, rfl⟩
  refine (walk g0 g1 g2 g3 g4 hr).mono fun e W' ⟨he, bel⟩ => ?_
  subst he
  have bk : ∀ {t v d ps}, Tryz.prog.readableRec t = true → t < Tryz.prog.types.size → DataW.Trod enc Tryz.prog W 0 (fun _ => true) true t v d ps → DataW.Trod enc Tryz.prog W' 0 (fun b => decide (b < W.heap.size)) true t v d ps := fun hr hs h => Below.trod laidOut hr hs h bel (lt h)
  exact ⟨_, rfl, _, _, _, [], _, [], hW', trodAll_mk1 (shut_bool (t := 4) (by kernel_rfl) _), (trodAll_cons_mk (bk (by kernel_rfl) (of_decide_eq_true (by kernel_rfl)) h0) (trodAll_cons_mk (bk (by kernel_rfl) (of_decide_eq_true (by kernel_rfl)) h1) (trodAll_cons_mk (bk (by kernel_rfl) (of_decide_eq_true (by kernel_rfl)) h2) (trodAll_cons_mk (bk (by kernel_rfl) (of_decide_eq_true (by kernel_rfl)) h3) (trodAll_cons_mk (bk (by kernel_rfl) (of_decide_eq_true (by kernel_rfl)) h4) trodAll_mk0))))), rfl, bel.frame _, fun h => by cases h⟩
theorem over : Rows.screenInsideRow.holds Tryz.pinned (OpenSpec.ofChange Rows.screenInsideSpec) :=
  OpenClaim.holds_of_wide 4 Tryz.f4 rfl rfl rfl rfl rfl rfl rfl ⟨rfl, rfl, rfl, rfl, rfl⟩ rfl rfl rfl rfl rfl (by kernel_rfl) Tryz.func4 (by kernel_rfl)
    (of_decide_eq_true (by kernel_rfl)) (by unfold Func.isWrapper; first | (rw [if_pos (by decide +kernel)]; kernel_rfl) | (rw [if_neg (by decide +kernel)]; exact ⟨rfl, rfl⟩))
    (fun os started H enc _ => lifted os started H enc)
theorem proved : Rows.ScreenInsideSaid := over
end Go.Proofs.YtlnddlmppngegaaGreat.screenInside
namespace Go.Proofs.YtlnddlmppngegaaGreat
/-- The row, under a short name, for the claim. -/
theorem screenInside_holds : Rows.ScreenInsideSaid := screenInside.proved
#print axioms screenInside_holds
end Go.Proofs.YtlnddlmppngegaaGreat
