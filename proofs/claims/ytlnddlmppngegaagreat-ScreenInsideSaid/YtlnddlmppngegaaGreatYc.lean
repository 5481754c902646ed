/- Texts of this claim, joined by program: part 3. -/
import Derived.Test.YtlnddlmppngegaaGreatY0
import Derived.Lib.ItoaNum
import Derived.Test.YtlnddlmppngegaaGreatYb
/- The package natural: walks. -/
set_option linter.unusedVariables false
set_option linter.unusedSimpArgs false
set_option maxRecDepth 100000
namespace Go.Ev.S
open Go Go.Ev Go.Proofs NumA

def keep112 : Nat → List Nat := fun _ => [0, 3]
def st112 (l : List Int) (n : Int) : St := { tm := [(0, .t (tn l)), (3, .t (.v (.int .i64 n)))], mm := [], nx := 0 }
theorem run112 {sp : Nat → Option Spec} (l : List Int) (hl : l.length ≤ 1099511627776) (fuel : Nat) (hf : l.length < fuel) (c : Code) (hc : Tryz.f112.body = some c) :
    pureRun ty sp keep112 fuel false Tryz.f112.results c [tn l] = some (.ts [tn (tr l)]) := by
  injection hc with hc
  subst hc
  have hcl := cn_length l
  refine pure_wc ?_
  refine wsr ?_
  refine X_op' rfl (A_mv0 (.inr rfl) rfl rfl rfl rfl) ?_
  refine X_endS ?_
  try dsimp only [St.put, szA, List.length, Nat.reduceAdd]
  refine wsr ?_
  refine xm rfl rfl rfl rfl ?_
  refine X_op' rfl (A_lenT rfl rfl rfl rfl rfl rfl rfl) ?_
  refine xa rfl rfl rfl rfl ?_
  refine X_endS ?_
  try dsimp only [St.put, szA, List.length, Nat.reduceAdd]
  refine W_seq ?_
  refine W_blk ?_
  refine W_loop (fun n σ => ∃ j : Nat, j ≤ l.length ∧ (tr l).length ≤ j ∧ σ = st112 l j ∧ n = j) (l.length) ?_ ⟨l.length, Nat.le_refl _, tr_length l, (by rw [← cn_length l]; rfl), rfl⟩ (by omega)
  rintro n _ ⟨j, hj, hm, rfl, hn⟩
  refine W_seq ?_
  refine wsr ?_
  refine xm rfl rfl rfl rfl ?_
  refine X_op' rfl (A_int rfl rfl rfl ⟨by decide, by decide⟩ rfl) ?_
  refine xm rfl rfl rfl rfl ?_
  refine X_both (d := 8) rfl (fun hb1 => ?_) (fun hb1 => ?_)
  ·have khb1 := hb1; (try simp only [kb] at khb1)
   refine X_yes' rfl rfl rfl hb1 (A_mvT (.inl rfl) rfl rfl) ?_
   refine X_yes' rfl rfl rfl hb1 (A_mvT (.inl rfl) rfl rfl) ?_
   refine X_yes' rfl rfl rfl hb1 (A_int rfl rfl rfl ⟨by decide, by decide⟩ (subI (by omega))) ?_
   refine X_yes' rfl rfl rfl hb1 (A_ixA 0 rfl rfl rfl rfl rfl rfl rfl (by omega) (by omega) rfl rfl) ?_
   refine X_yes' rfl rfl rfl hb1 (A_ld rfl rfl rfl (ld_ip1 rfl rfl rfl)) ?_
   refine X_yes' rfl rfl rfl hb1 (A_int rfl rfl rfl ⟨by decide, by decide⟩ rfl) ?_
   refine X_op' rfl (A_pickT rfl rfl hb1 rfl) ?_
   refine X_endS ?_
   try dsimp only [St.put, szA, List.length, Nat.reduceAdd]
   refine W_condB rfl (fun hb2 => ?_) (fun hb2 => ?_)
   ·have khb2 := hb2; (try simp only [kb] at khb2)
    refine W_skip ?_
    refine Q_seq ?_
    refine W_blk ?_
    refine W_reg ?_
    refine xm rfl rfl rfl rfl ?_
    refine X_op' rfl (A_int rfl rfl rfl ⟨by decide, by decide⟩ (subI (by omega))) ?_
    refine xa rfl rfl rfl rfl ?_
    refine X_end ?_
    try dsimp only [St.put, szA, List.length, Nat.reduceAdd]
    refine Q_blkN ?_
    have e : ((j : Int) - 1).toNat = j - 1 := by omega
    have hm2 : (tr l).length ≤ j - 1 := by
      rcases Nat.lt_or_ge (j - 1) (tr l).length with h | h
      · exfalso
        have := tr_last l (by omega)
        rw [show (tr l).length - 1 = j - 1 by omega] at this
        exact this (e ▸ khb2)
      · exact h
    exact ⟨j - 1, by omega, j - 1, by omega, hm2, (by rw [show ((j - 1 : Nat) : Int) = (j : Int) - 1 by omega]; rfl), rfl⟩
   ·have khb2 := hb2; (try simp only [kb] at khb2)
    refine W_exit ?_
    refine Q_seqX ?_
    refine Q_rndX ?_
    refine Q_blkE ?_
    refine Q_seq ?_
    refine wsr ?_
    refine xm rfl rfl rfl rfl ?_
    refine xm rfl rfl rfl rfl ?_
    refine X_op' rfl (A_slT rfl rfl rfl rfl rfl rfl rfl rfl (by omega) (by omega) (by omega)) ?_
    refine xa rfl rfl rfl rfl ?_
    refine X_endS ?_
    try dsimp only [St.put, szA, List.length, Nat.reduceAdd]
    refine W_ret ?_
    have hj2 : j = (tr l).length := by
      rcases Nat.lt_or_ge (tr l).length j with h | h
      · exfalso
        have := tr_zeros l (j - 1) (by omega)
        have e : ((j : Int) - 1).toNat = j - 1 := by omega
        first | omega | exact (e ▸ khb2) this
      · omega
    refine (rfl : _ = some (Ret.ts [T.sl 1 (List.drop (0 : Int).toNat (List.take (j : Int).toNat (cn l)))])).trans ?_
    simp only [Int.toNat_natCast, hj2, Int.toNat_zero, List.drop_zero]
    rw [cn, ← List.map_take, ← tr_take]
  ·have khb1 := hb1; (try simp only [kb] at khb1)
   refine X_no1 rfl rfl rfl hb1 ?_
   refine X_no1 rfl rfl rfl hb1 ?_
   refine X_no1 rfl rfl rfl hb1 ?_
   refine X_no1 rfl rfl rfl hb1 ?_
   refine X_no1 rfl rfl rfl hb1 ?_
   refine X_no1 rfl rfl rfl hb1 ?_
   refine X_op' rfl (A_pickF rfl rfl hb1 rfl) ?_
   refine X_endS ?_
   try dsimp only [St.put, szA, List.length, Nat.reduceAdd]
   refine W_condF rfl rfl ?_
   refine W_exit ?_
   refine Q_seqX ?_
   refine Q_rndX ?_
   refine Q_blkE ?_
   refine Q_seq ?_
   refine wsr ?_
   refine xm rfl rfl rfl rfl ?_
   refine xm rfl rfl rfl rfl ?_
   refine X_op' rfl (A_slT rfl rfl rfl rfl rfl rfl rfl rfl (by omega) (by omega) (by omega)) ?_
   refine xa rfl rfl rfl rfl ?_
   refine X_endS ?_
   try dsimp only [St.put, szA, List.length, Nat.reduceAdd]
   refine W_ret ?_
   have hj2 : j = (tr l).length := by
     rcases Nat.lt_or_ge (tr l).length j with h | h
     · exfalso
       have := tr_zeros l (j - 1) (by omega)
       have e : ((j : Int) - 1).toNat = j - 1 := by omega
       first | omega | exact (e ▸ khb2) this
     · omega
   refine (rfl : _ = some (Ret.ts [T.sl 1 (List.drop (0 : Int).toNat (List.take (j : Int).toNat (cn l)))])).trans ?_
   simp only [Int.toNat_natCast, hj2, Int.toNat_zero, List.drop_zero]
   rw [cn, ← List.map_take, ← tr_take]
def g112 : List T → Option Ret := g1 fun l => some (.ts [tn (tr l)])
theorem ok112 {sp : Nat → Option Spec} (hS : ∀ f s, sp f = some s → SpecOk Tryz.prog f s) (hr : ∀ ts r, g112 ts = some r → ts.length = 1 ∧ pureRun ty sp keep112 4398046511104 false Tryz.f112.results (Tryz.f112.body.getD .skip) ts = some r) : SpecOk Tryz.prog 112 (viewSpec g112) := by
  refine SpecOk.view (pure_ok mixed ty_ok hS Tryz.func112 rfl (by kernel_rfl) (enters_of Tryz.func112 (by kernel_rfl) rfl) keep112 (fun _ => 4398046511104) false 1 (by decide)) fun ts r h => ?_
  rw [if_pos (hr ts r h).1]
  exact (hr ts r h).2
theorem c112 {l : List Int} (h : U32 l) (hl : l.length ≤ 1099511627776) : g112 [tn l] = some (.ts [tn (tr l)]) := g1_eq h hl
theorem s112 {sp : Nat → Option Spec} (hS : ∀ f s, sp f = some s → SpecOk Tryz.prog f s) : SpecOk Tryz.prog 112 (viewSpec g112) := ok112 hS fun ts r h => by
  obtain ⟨l, rfl, h1, h2, h3⟩ := g1_some h
  exact ⟨rfl, (run112 l h2 _ (by omega) _ rfl).trans h3⟩
abbrev spN1 : Nat → Option Spec := more 112 (viewSpec g112) noneS
theorem hN1 : ∀ f s, spN1 f = some s → SpecOk Tryz.prog f s := more_ok (s112 none_ok) none_ok

def keep105 : Nat → List Nat := fun _ => []
theorem one_cn (l : List Int) : (cn l).all (fun t => t.cells.all T.one) = true := by
  induction l with
  | nil => rfl
  | cons x l ih => simp only [cn, List.map_cons, List.all_cons] at ih ⊢; rw [ih]; rfl
theorem run105 (l : List Int) (h0 : U32 l) (hl : l.length ≤ 1099511627776) (fuel : Nat) (c : Code) (hc : Tryz.f105.body = some c) :
    pureRun ty spN1 keep105 fuel false Tryz.f105.results c [tn l] = some (.ts [tn (tr l)]) := by
  injection hc with hc
  subst hc
  have hcl := cn_length (tr l)
  have htl := tr_length l
  have h61 : (intE .u32 4).bytes = 4 := rfl
  rcases Nat.eq_zero_or_pos (cn (tr l)).length with ha | ha
  · refine pure_wc ?_
    refine wsr ?_
    refine X_op' rfl (A_mv0 (.inr rfl) rfl rfl rfl rfl) ?_
    refine X_endS ?_
    try dsimp only [St.put, szA, List.length, Nat.reduceAdd]
    refine wsr ?_
    refine xm rfl rfl rfl rfl ?_
    refine X_op' rfl (A_callV rfl rfl rfl rfl (.cons (V_t rfl) (K_t rfl) .nil) (c112 (by assumption) (by assumption))) ?_
    refine X_op' rfl ((A_apN rfl rfl rfl rfl rfl rfl rfl (V_t rfl) rfl rfl (one_cn _) rfl (by omega) (by first | omega | (simp only [intE, slE, boolE, integerE, rationalE]; omega))).trans (if_pos ha)) ?_
    refine X_op' rfl (A_mvN (.inr rfl) rfl) ?_
    refine X_endS ?_
    try dsimp only [St.put, szA, List.length, Nat.reduceAdd]
    refine W_ret ?_
    have he : tr l = [] := List.eq_nil_of_length_eq_zero (by omega)
    rw [he]
    exact end_R rfl (.n rfl .nil)
  · refine pure_wc ?_
    refine wsr ?_
    refine X_op' rfl (A_mv0 (.inr rfl) rfl rfl rfl rfl) ?_
    refine X_endS ?_
    try dsimp only [St.put, szA, List.length, Nat.reduceAdd]
    refine wsr ?_
    refine xm rfl rfl rfl rfl ?_
    refine X_op' rfl (A_callV rfl rfl rfl rfl (.cons (V_t rfl) (K_t rfl) .nil) (c112 (by assumption) (by assumption))) ?_
    refine X_op' rfl ((A_apN rfl rfl rfl rfl rfl rfl rfl (V_t rfl) rfl rfl (one_cn _) rfl (by omega) (by first | omega | (simp only [intE, slE, boolE, integerE, rationalE]; omega))).trans (if_neg (by omega))) ?_
    refine X_op' rfl (A_mvM (.inr rfl) rfl) ?_
    refine X_endS ?_
    try dsimp only [St.put, szA, List.length, Nat.reduceAdd]
    refine W_ret ?_
    exact end_R rfl (.m rfl rfl rfl .nil)
def g105 : List T → Option Ret := g1 fun l => some (.ts [tn (tr l)])
theorem ok105 {sp : Nat → Option Spec} (hS : ∀ f s, sp f = some s → SpecOk Tryz.prog f s) (hr : ∀ ts r, g105 ts = some r → ts.length = 1 ∧ pureRun ty sp keep105 4398046511104 false Tryz.f105.results (Tryz.f105.body.getD .skip) ts = some r) : SpecOk Tryz.prog 105 (viewSpec g105) := by
  refine SpecOk.view (pure_ok mixed ty_ok hS Tryz.func105 rfl (by kernel_rfl) (enters_of Tryz.func105 (by kernel_rfl) rfl) keep105 (fun _ => 4398046511104) false 1 (by decide)) fun ts r h => ?_
  rw [if_pos (hr ts r h).1]
  exact (hr ts r h).2
theorem c105 {l : List Int} (h : U32 l) (hl : l.length ≤ 1099511627776) : g105 [tn l] = some (.ts [tn (tr l)]) := g1_eq h hl
theorem s105 : SpecOk Tryz.prog 105 (viewSpec g105) := ok105 hN1 fun ts r h => by
  obtain ⟨l, rfl, h1, h2, h3⟩ := g1_some h
  exact ⟨rfl, (run105 l h1 h2 _ _ rfl).trans h3⟩

abbrev spN2 : Nat → Option Spec := more 105 (viewSpec g105) spN1
theorem hN2 : ∀ f s, spN2 f = some s → SpecOk Tryz.prog f s := more_ok s105 hN1
def keep102 : Nat → List Nat := fun _ => [0, 1, 5]
def st102 (a b : List Int) (n : Int) : St := { tm := [(0, .t (tn a)), (1, .t (tn b)), (5, .t (.v (.int .i64 n)))], mm := [], nx := 0 }
theorem run102 (l k : List Int) (hl : U32 l) (hll : l.length ≤ 1099511627776) (hk : U32 k) (hkl : k.length ≤ 1099511627776) (fuel : Nat) (hf : 1099511627776 < fuel) (c : Code) (hc : Tryz.f102.body = some c) :
    pureRun ty spN2 keep102 fuel false Tryz.f102.results c [tn l, tn k] = some (.ts [.v (.int .i64 (cmpI (nv l) (nv k)))]) := by
  injection hc with hc
  subst hc
  have e1 := cn_length (tr l)
  have e2 := cn_length (tr k)
  have b1 := tr_length l
  have b2 := tr_length k
  have u1 := U32_tr hl
  have u2 := U32_tr hk
  have v1 := nv_tr l
  have v2 := nv_tr k
  refine pure_wc ?_
  refine wsr ?_
  refine xa rfl rfl rfl rfl ?_
  refine X_endS ?_
  try dsimp only [St.put, szA, List.length, Nat.reduceAdd]
  refine wsr ?_
  refine xm rfl rfl rfl rfl ?_
  refine X_op' rfl (A_callV rfl rfl rfl rfl (.cons (V_t rfl) (K_t rfl) .nil) (c112 (by assumption) (by assumption))) ?_
  refine xm rfl rfl rfl rfl ?_
  refine X_op' rfl (A_callV rfl rfl rfl rfl (.cons (V_t rfl) (K_t rfl) .nil) (c112 (by assumption) (by assumption))) ?_
  refine xa rfl rfl rfl rfl ?_
  refine xa rfl rfl rfl rfl ?_
  refine X_endS ?_
  try dsimp only [St.put, szA, List.length, Nat.reduceAdd]
  refine W_seq ?_
  refine wsr ?_
  refine xm rfl rfl rfl rfl ?_
  refine X_op' rfl (A_lenT rfl rfl rfl rfl rfl rfl rfl) ?_
  refine xm rfl rfl rfl rfl ?_
  refine X_op' rfl (A_lenT rfl rfl rfl rfl rfl rfl rfl) ?_
  refine X_op' rfl (A_int rfl rfl rfl ⟨by decide, by decide⟩ rfl) ?_
  refine X_endS ?_
  try dsimp only [St.put, szA, List.length, Nat.reduceAdd]
  refine W_condB rfl (fun hb1 => ?_) (fun hb1 => ?_)
  ·have khb1 := hb1; (try simp only [kb] at khb1)
   refine W_seq ?_
   refine wsr ?_
   refine xm rfl rfl rfl rfl ?_
   refine X_op' rfl (A_lenT rfl rfl rfl rfl rfl rfl rfl) ?_
   refine xm rfl rfl rfl rfl ?_
   refine X_op' rfl (A_lenT rfl rfl rfl rfl rfl rfl rfl) ?_
   refine X_op' rfl (A_int rfl rfl rfl ⟨by decide, by decide⟩ rfl) ?_
   refine X_endS ?_
   try dsimp only [St.put, szA, List.length, Nat.reduceAdd]
   refine W_condB rfl (fun hb2 => ?_) (fun hb2 => ?_)
   ·have khb2 := hb2; (try simp only [kb] at khb2)
    refine wsr ?_
    refine xa rfl rfl rfl rfl ?_
    refine X_endS ?_
    try dsimp only [St.put, szA, List.length, Nat.reduceAdd]
    refine W_ret ?_
    refine Q_seqX ?_
    refine Q_seqX ?_
    rw [cmp_lt (tr_len_lt hl hk (by omega))]
    exact end_R rfl (.t rfl .nil)
   ·have khb2 := hb2; (try simp only [kb] at khb2)
    refine W_skip ?_
    refine Q_seq ?_
    refine wsr ?_
    refine xa rfl rfl rfl rfl ?_
    refine X_endS ?_
    try dsimp only [St.put, szA, List.length, Nat.reduceAdd]
    refine W_ret ?_
    refine Q_seqX ?_
    rw [cmp_gt (tr_len_lt hk hl (by omega))]
    exact end_R rfl (.t rfl .nil)
  ·have khb1 := hb1; (try simp only [kb] at khb1)
   refine W_skip ?_
   refine Q_seq ?_
   refine W_seq ?_
   refine wsr ?_
   refine xm rfl rfl rfl rfl ?_
   refine X_op' rfl (A_lenT rfl rfl rfl rfl rfl rfl rfl) ?_
   refine X_op' rfl (A_int rfl rfl rfl ⟨by decide, by decide⟩ (subI (by omega))) ?_
   refine xa rfl rfl rfl rfl ?_
   refine X_endS ?_
   try dsimp only [St.put, szA, List.length, Nat.reduceAdd]
   refine W_blk ?_
   refine W_loop (fun n σ => ∃ j : Nat, j ≤ (tr l).length ∧ (tr l).drop j = (tr k).drop j ∧ σ = st102 (tr l) (tr k) ((j : Int) - 1) ∧ n = j) ((tr l).length) ?_ ⟨(tr l).length, Nat.le_refl _, (by rw [List.drop_length, List.drop_eq_nil_of_le (by omega)]), (by rw [← e1]; rfl), rfl⟩ (by omega)
   rintro n _ ⟨j, hj, hd, rfl, hn⟩
   refine W_seq ?_
   refine wsr ?_
   refine xm rfl rfl rfl rfl ?_
   refine X_op' rfl (A_int rfl rfl rfl ⟨by decide, by decide⟩ rfl) ?_
   refine X_endS ?_
   try dsimp only [St.put, szA, List.length, Nat.reduceAdd]
   refine W_condB rfl (fun hb3 => ?_) (fun hb3 => ?_)
   ·have khb3 := hb3; (try simp only [kb] at khb3)
    refine W_skip ?_
    refine Q_seq ?_
    refine W_seq ?_
    refine W_blk ?_
    refine wsr ?_
    refine xm rfl rfl rfl rfl ?_
    refine xm rfl rfl rfl rfl ?_
    refine X_op' rfl (A_ixA 0 rfl rfl rfl rfl rfl rfl rfl (by omega) (by omega) rfl rfl) ?_
    refine X_op' rfl (A_ld rfl rfl rfl (ld_ip1 rfl rfl rfl)) ?_
    refine xm rfl rfl rfl rfl ?_
    refine xm rfl rfl rfl rfl ?_
    refine X_op' rfl (A_ixA 0 rfl rfl rfl rfl rfl rfl rfl (by omega) (by omega) rfl rfl) ?_
    refine X_op' rfl (A_ld rfl rfl rfl (ld_ip1 rfl rfl rfl)) ?_
    refine X_op' rfl (A_int rfl rfl rfl ⟨by decide, by decide⟩ rfl) ?_
    refine X_endDS (by kernel_rfl) (by kernel_rfl) ?_
    try dsimp only [St.put, szA, List.length, Nat.reduceAdd]
    refine W_condB rfl (fun hb4 => ?_) (fun hb4 => ?_)
    ·have khb4 := hb4; (try simp only [kb] at khb4)
     refine W_seq ?_
     refine wsr ?_
     refine xm rfl rfl rfl rfl ?_
     refine xm rfl rfl rfl rfl ?_
     refine X_op' rfl (A_ixA 0 rfl rfl rfl rfl rfl rfl rfl (by omega) (by omega) rfl rfl) ?_
     refine X_op' rfl (A_ld rfl rfl rfl (ld_ip1 rfl rfl rfl)) ?_
     refine xm rfl rfl rfl rfl ?_
     refine xm rfl rfl rfl rfl ?_
     refine X_op' rfl (A_ixA 0 rfl rfl rfl rfl rfl rfl rfl (by omega) (by omega) rfl rfl) ?_
     refine X_op' rfl (A_ld rfl rfl rfl (ld_ip1 rfl rfl rfl)) ?_
     refine X_op' rfl (A_int rfl rfl rfl ⟨by decide, by decide⟩ rfl) ?_
     refine X_endDS (by kernel_rfl) (by kernel_rfl) ?_
     try dsimp only [St.put, szA, List.length, Nat.reduceAdd]
     refine W_condB rfl (fun hb5 => ?_) (fun hb5 => ?_)
     ·have khb5 := hb5; (try simp only [kb] at khb5)
      refine wsr ?_
      refine xa rfl rfl rfl rfl ?_
      refine X_endS ?_
      try dsimp only [St.put, szA, List.length, Nat.reduceAdd]
      refine W_ret ?_
      refine Q_seqX ?_
      refine Q_blkR ?_
      refine Q_seqX ?_
      refine Q_rndR ?_
      refine Q_blkR ?_
      refine Q_seqX ?_
      have hlen : (tr l).length = (tr k).length := by omega
      have e : ((j : Int) - 1).toNat = j - 1 := by omega
      rw [e] at khb5
      have hd' : (tr l).drop (j - 1 + 1) = (tr k).drop (j - 1 + 1) := by rw [show j - 1 + 1 = j by omega]; exact hd
      have := nv_lt_at u1 u2 (j - 1) hlen (by omega) hd' khb5
      rw [cmp_lt (by omega)]
      exact end_R rfl (.t rfl .nil)
     ·have khb5 := hb5; (try simp only [kb] at khb5)
      refine W_skip ?_
      refine Q_seq ?_
      refine wsr ?_
      refine xa rfl rfl rfl rfl ?_
      refine X_endS ?_
      try dsimp only [St.put, szA, List.length, Nat.reduceAdd]
      refine W_ret ?_
      refine Q_blkR ?_
      refine Q_seqX ?_
      refine Q_rndR ?_
      refine Q_blkR ?_
      refine Q_seqX ?_
      have hlen : (tr l).length = (tr k).length := by omega
      have e : ((j : Int) - 1).toNat = j - 1 := by omega
      rw [e] at khb4 khb5
      have hd' : (tr k).drop (j - 1 + 1) = (tr l).drop (j - 1 + 1) := by rw [show j - 1 + 1 = j by omega]; exact hd.symm
      have := nv_lt_at u2 u1 (j - 1) hlen.symm (by omega) hd' (by omega)
      rw [cmp_gt (by omega)]
      exact end_R rfl (.t rfl .nil)
    ·have khb4 := hb4; (try simp only [kb] at khb4)
     refine W_skip ?_
     refine Q_blkN ?_
     refine Q_seq ?_
     refine W_reg ?_
     refine xm rfl rfl rfl rfl ?_
     refine X_op' rfl (A_int rfl rfl rfl ⟨by decide, by decide⟩ (subI (by omega))) ?_
     refine xa rfl rfl rfl rfl ?_
     refine X_end ?_
     try dsimp only [St.put, szA, List.length, Nat.reduceAdd]
     have hlen : (tr l).length = (tr k).length := by omega
     have e : ((j : Int) - 1).toNat = j - 1 := by omega
     rw [e] at khb4
     have hd' : (tr l).drop (j - 1 + 1) = (tr k).drop (j - 1 + 1) := by rw [show j - 1 + 1 = j by omega]; exact hd
     exact ⟨j - 1, by omega, j - 1, by omega, drop_step (by omega) (by omega) hd' khb4, (by rw [show ((j - 1 : Nat) : Int) - 1 = (j : Int) - 1 - 1 by omega]; rfl), rfl⟩
   ·have khb3 := hb3; (try simp only [kb] at khb3)
    refine W_exit ?_
    refine Q_seqX ?_
    refine Q_rndX ?_
    refine Q_blkE ?_
    refine Q_seq ?_
    refine wsr ?_
    refine xa rfl rfl rfl rfl ?_
    refine X_endS ?_
    try dsimp only [St.put, szA, List.length, Nat.reduceAdd]
    refine W_ret ?_
    have hj0 : j = 0 := by omega
    subst hj0
    rw [List.drop_zero, List.drop_zero] at hd
    rw [cmp_eq (by rw [← v1, ← v2, hd])]
    exact end_R rfl (.t rfl .nil)
def g102 : List T → Option Ret := g2 fun l k => some (.ts [.v (.int .i64 (cmpI (nv l) (nv k)))])
theorem ok102 {sp : Nat → Option Spec} (hS : ∀ f s, sp f = some s → SpecOk Tryz.prog f s) (hr : ∀ ts r, g102 ts = some r → ts.length = 2 ∧ pureRun ty sp keep102 4398046511104 false Tryz.f102.results (Tryz.f102.body.getD .skip) ts = some r) : SpecOk Tryz.prog 102 (viewSpec g102) := by
  refine SpecOk.view (pure_ok mixed ty_ok hS Tryz.func102 rfl (by kernel_rfl) (enters_of Tryz.func102 (by kernel_rfl) rfl) keep102 (fun _ => 4398046511104) false 2 (by decide)) fun ts r h => ?_
  rw [if_pos (hr ts r h).1]
  exact (hr ts r h).2
theorem c102 {l k : List Int} (h : U32 l) (hl : l.length ≤ 1099511627776) (h' : U32 k) (hk : k.length ≤ 1099511627776) : g102 [tn l, tn k] = some (.ts [.v (.int .i64 (cmpI (nv l) (nv k)))]) := g2_eq h hl h' hk
theorem s102 : SpecOk Tryz.prog 102 (viewSpec g102) := ok102 hN2 fun ts r h => by
  obtain ⟨l, k, rfl, h1, h2, h3, h4, h5⟩ := g2_some h
  exact ⟨rfl, (run102 l k h1 h2 h3 h4 _ (by omega) _ rfl).trans h5⟩
abbrev spN3 : Nat → Option Spec := more 102 (viewSpec g102) spN2
theorem hN3 : ∀ f s, spN3 f = some s → SpecOk Tryz.prog f s := more_ok s102 hN2

theorem U32_rep (n : Nat) : U32 (List.replicate n 0) := U32_replicate n
def keep110 : Nat → List Nat := fun _ => [0, 1, 5, 6, 25, 26, 27]
def st110 (a b z : List Int) (c i : Int) : St := { tm := [(0, .t (tn a)), (1, .t (tn b)), (5, .ms 0 1 0 (a.length + 1)), (6, .t (.v (.int .u64 c))), (25, .t (tn a)), (26, .t (.v (.int .i64 ((cn a).length : Int)))), (27, .t (.v (.int .i64 i)))], mm := [(0, some ⟨61, 1, cn z⟩)], nx := 1 }
set_option maxHeartbeats 4000000 in
theorem run110 (l k : List Int) (hl : U32 l) (hll : l.length ≤ 1099511627775) (hk : U32 k) (hkl : k.length ≤ 1099511627775) (fuel : Nat) (hf : 1099511627776 < fuel) (c : Code) (hc : Tryz.f110.body = some c) :
    pureRun ty spN3 keep110 fuel false Tryz.f110.results c [tn l, tn k] = some (.ts [tn (en (nv l + nv k))]) := by
  injection hc with hc
  subst hc
  have e1 := cn_length (tr l)
  have e2 := cn_length (tr k)
  have b1 := tr_length l
  have b2 := tr_length k
  have u1 := U32_tr hl
  have u2 := U32_tr hk
  have v1 := nv_tr l
  have v2 := nv_tr k
  have hll' : l.length ≤ 1099511627776 := by omega
  have hkl' : k.length ≤ 1099511627776 := by omega
  refine pure_wc ?_
  refine wsr ?_
  refine X_op' rfl (A_mv0 (.inr rfl) rfl rfl rfl rfl) ?_
  refine X_endS ?_
  try dsimp only [St.put, szA, List.length, Nat.reduceAdd]
  refine wsr ?_
  refine xm rfl rfl rfl rfl ?_
  refine X_op' rfl (A_callV rfl rfl rfl rfl (.cons (V_t rfl) (K_t rfl) .nil) (c112 (by assumption) (by assumption))) ?_
  refine xm rfl rfl rfl rfl ?_
  refine X_op' rfl (A_callV rfl rfl rfl rfl (.cons (V_t rfl) (K_t rfl) .nil) (c112 (by assumption) (by assumption))) ?_
  refine xa rfl rfl rfl rfl ?_
  refine xa rfl rfl rfl rfl ?_
  refine X_endS ?_
  try dsimp only [St.put, szA, List.length, Nat.reduceAdd]
  refine W_seq ?_
  refine wsr ?_
  refine xm rfl rfl rfl rfl ?_
  refine X_op' rfl (A_lenT rfl rfl rfl rfl rfl rfl rfl) ?_
  refine xm rfl rfl rfl rfl ?_
  refine X_op' rfl (A_lenT rfl rfl rfl rfl rfl rfl rfl) ?_
  refine X_op' rfl (A_int rfl rfl rfl ⟨by decide, by decide⟩ rfl) ?_
  refine X_endS ?_
  try dsimp only [St.put, szA, List.length, Nat.reduceAdd]
  refine W_condB rfl (fun hb1 => ?_) (fun hb1 => ?_)
  ·have khb1 := hb1; (try simp only [kb] at khb1)
   refine W_reg ?_
   refine xm rfl rfl rfl rfl ?_
   refine xm rfl rfl rfl rfl ?_
   refine xa rfl rfl rfl rfl ?_
   refine xa rfl rfl rfl rfl ?_
   refine X_endS ?_
   try dsimp only [St.put, szA, List.length, Nat.reduceAdd]
   refine wsr ?_
   refine xm rfl rfl rfl rfl ?_
   refine X_op' rfl (A_lenT rfl rfl rfl rfl rfl rfl rfl) ?_
   refine X_op' rfl (A_int rfl rfl rfl ⟨by decide, by decide⟩ (addI (by omega))) ?_
   refine X_op' rfl (A_make (j := (tr k).length + 1) rfl rfl rfl rfl rfl rfl (by omega) (by first | omega | (simp only [intE, slE, boolE, integerE, rationalE]; omega)) (by omega)) ?_
   refine X_op' rfl (A_mvM (.inr rfl) rfl) ?_
   refine X_endS ?_
   try dsimp only [St.put, szA, List.length, Nat.reduceAdd]
   refine wsr ?_
   refine xa rfl rfl rfl rfl ?_
   refine X_endS ?_
   try dsimp only [St.put, szA, List.length, Nat.reduceAdd]
   refine W_seq ?_
   refine wsr ?_
   refine xm rfl rfl rfl rfl ?_
   refine X_op' rfl (A_lenT rfl rfl rfl rfl rfl rfl rfl) ?_
   refine xm rfl rfl rfl rfl ?_
   refine X_endS ?_
   try dsimp only [St.put, szA, List.length, Nat.reduceAdd]
   refine W_blk ?_
   refine W_loop (fun n σ => ∃ (i : Nat) (z : List Int) (c : Int), i ≤ (tr k).length ∧ z.length = (tr k).length + 1 ∧ U32 z ∧ (c = 0 ∨ c = 1) ∧ nv (z.take i) + P i * c = nv ((tr k).take i) + nv ((tr l).take i) ∧ σ = st110 (tr k) (tr l) z c i ∧ n = (tr k).length - i) ((tr k).length) ?_ ⟨0, List.replicate ((tr k).length + 1) 0, 0, Nat.zero_le _, List.length_replicate, U32_rep _, .inl rfl, rfl, (by simp only [st110, cn, List.map_replicate]; rfl), rfl⟩ (by omega)
   rintro n _ ⟨i, z, c, hi, hz, uz, hc, hs, rfl, hn⟩
   have ha := U32_getD (show U32 (tr k) by assumption) ((i : Int)).toNat
   have hb := U32_getD (show U32 (tr l) by assumption) ((i : Int)).toNat
   have ei : ((i : Int)).toNat = i := by omega
   have ez := cn_length z
   refine wsr ?_
   refine X_op' rfl (A_int rfl rfl rfl ⟨by decide, by decide⟩ rfl) ?_
   refine X_endS ?_
   try dsimp only [St.put, szA, List.length, Nat.reduceAdd]
   refine W_seq ?_
   refine W_condB rfl (fun hb2 => ?_) (fun hb2 => ?_)
   ·have khb2 := hb2; (try simp only [kb] at khb2)
    refine W_skip ?_
    refine Q_seq ?_
    refine W_seq ?_
    refine W_blk ?_
    refine wsr ?_
    refine xm rfl rfl rfl rfl ?_
    refine X_op' rfl (A_ixA 0 rfl rfl rfl rfl rfl rfl rfl (by omega) (by omega) rfl rfl) ?_
    refine X_op' rfl (A_ld rfl rfl rfl (ld_ip1 rfl rfl rfl)) ?_
    refine xa rfl rfl rfl rfl ?_
    refine xa rfl rfl rfl rfl ?_
    refine X_endS ?_
    try dsimp only [St.put, szA, List.length, Nat.reduceAdd]
    refine wsr ?_
    refine xm rfl rfl rfl rfl ?_
    refine X_op' rfl (A_conv rfl rfl rfl rfl rfl (wU (by omega) (by omega))) ?_
    refine xm rfl rfl rfl rfl ?_
    refine X_op' rfl (A_int rfl rfl rfl ⟨by decide, by decide⟩ (addU (by omega))) ?_
    refine xa rfl rfl rfl rfl ?_
    refine X_endS ?_
    try dsimp only [St.put, szA, List.length, Nat.reduceAdd]
    refine W_seq ?_
    refine wsr ?_
    refine xm rfl rfl rfl rfl ?_
    refine xm rfl rfl rfl rfl ?_
    refine X_op' rfl (A_lenT rfl rfl rfl rfl rfl rfl rfl) ?_
    refine X_op' rfl (A_int rfl rfl rfl ⟨by decide, by decide⟩ rfl) ?_
    refine X_endS ?_
    try dsimp only [St.put, szA, List.length, Nat.reduceAdd]
    refine W_condB rfl (fun hb3 => ?_) (fun hb3 => ?_)
    ·have khb3 := hb3; (try simp only [kb] at khb3)
     refine W_reg ?_
     refine xm rfl rfl rfl rfl ?_
     refine xm rfl rfl rfl rfl ?_
     refine xm rfl rfl rfl rfl ?_
     refine X_op' rfl (A_ixA 0 rfl rfl rfl rfl rfl rfl rfl (by omega) (by omega) rfl rfl) ?_
     refine X_op' rfl (A_ld rfl rfl rfl (ld_ip1 rfl rfl rfl)) ?_
     refine X_op' rfl (A_conv rfl rfl rfl rfl rfl (wU (by omega) (by omega))) ?_
     refine X_op' rfl (A_int rfl rfl rfl ⟨by decide, by decide⟩ (addU (by omega))) ?_
     refine xa rfl rfl rfl rfl ?_
     refine X_endS ?_
     try dsimp only [St.put, szA, List.length, Nat.reduceAdd]
     refine wsr ?_
     refine X_op' rfl (A_mvM (.inl rfl) rfl) ?_
     refine xm rfl rfl rfl rfl ?_
     refine xm rfl rfl rfl rfl ?_
     refine X_op' rfl (A_conv rfl rfl rfl rfl rfl (wSm _)) ?_
     refine X_op' rfl (A_ixO rfl rfl rfl rfl rfl rfl rfl (by omega) (by omega)) ?_
     refine X_op' rfl (A_stR 0 rfl rfl rfl (V_t rfl) (K_t rfl) rfl rfl (by first | omega | (simp only [List.length_set]; omega)) rfl rfl rfl rfl rfl rfl) ?_
     refine X_endS ?_
     try dsimp only [St.put, szA, List.length, Nat.reduceAdd]
     refine W_reg ?_
     refine xm rfl rfl rfl rfl ?_
     refine X_op' rfl (A_sh rfl rfl rfl shr32) ?_
     refine xa rfl rfl rfl rfl ?_
     refine X_end ?_
     try dsimp only [St.put, szA, List.length, Nat.reduceAdd]
     refine Q_blkN ?_
     refine Q_seq ?_
     refine W_reg ?_
     refine X_op' rfl (A_int rfl rfl rfl ⟨by decide, by decide⟩ (addI (by omega))) ?_
     refine xm rfl rfl rfl rfl ?_
     refine X_end ?_
     try dsimp only [St.put, szA, List.length, Nat.reduceAdd]
     refine ⟨(tr k).length - (i + 1), by omega, i + 1, z.set (0 + ((i : Int)).toNat) (((tr k).getD ((i : Int)).toNat 0 + c + (tr l).getD ((i : Int)).toNat 0) % 4294967296), ((tr k).getD ((i : Int)).toNat 0 + c + (tr l).getD ((i : Int)).toNat 0) / 4294967296, by omega, by rw [List.length_set]; exact hz, U32_set uz _ (by omega) (by omega), by omega, ?_, Eq.trans (b := st110 (tr k) (tr l) (z.set (0 + ((i : Int)).toNat) (((tr k).getD ((i : Int)).toNat 0 + c + (tr l).getD ((i : Int)).toNat 0) % 4294967296)) (((tr k).getD ((i : Int)).toNat 0 + c + (tr l).getD ((i : Int)).toNat 0) / 4294967296) ((i : Int) + 1)) (by kernel_rfl) rfl, rfl⟩
     rw [Nat.zero_add]
     rw [ei] at ha hb ⊢
     exact add_step (by omega) hs (by first | omega | (have := getD_out (tr l) i (by omega); omega))
    ·have khb3 := hb3; (try simp only [kb] at khb3)
     refine W_skip ?_
     refine Q_seq ?_
     refine wsr ?_
     refine X_op' rfl (A_mvM (.inl rfl) rfl) ?_
     refine xm rfl rfl rfl rfl ?_
     refine xm rfl rfl rfl rfl ?_
     refine X_op' rfl (A_conv rfl rfl rfl rfl rfl (wSm _)) ?_
     refine X_op' rfl (A_ixO rfl rfl rfl rfl rfl rfl rfl (by omega) (by omega)) ?_
     refine X_op' rfl (A_stR 0 rfl rfl rfl (V_t rfl) (K_t rfl) rfl rfl (by first | omega | (simp only [List.length_set]; omega)) rfl rfl rfl rfl rfl rfl) ?_
     refine X_endS ?_
     try dsimp only [St.put, szA, List.length, Nat.reduceAdd]
     refine W_reg ?_
     refine xm rfl rfl rfl rfl ?_
     refine X_op' rfl (A_sh rfl rfl rfl shr32) ?_
     refine xa rfl rfl rfl rfl ?_
     refine X_end ?_
     try dsimp only [St.put, szA, List.length, Nat.reduceAdd]
     refine Q_blkN ?_
     refine Q_seq ?_
     refine W_reg ?_
     refine X_op' rfl (A_int rfl rfl rfl ⟨by decide, by decide⟩ (addI (by omega))) ?_
     refine xm rfl rfl rfl rfl ?_
     refine X_end ?_
     try dsimp only [St.put, szA, List.length, Nat.reduceAdd]
     refine ⟨(tr k).length - (i + 1), by omega, i + 1, z.set (0 + ((i : Int)).toNat) (((tr k).getD ((i : Int)).toNat 0 + c) % 4294967296), ((tr k).getD ((i : Int)).toNat 0 + c) / 4294967296, by omega, by rw [List.length_set]; exact hz, U32_set uz _ (by omega) (by omega), by omega, ?_, Eq.trans (b := st110 (tr k) (tr l) (z.set (0 + ((i : Int)).toNat) (((tr k).getD ((i : Int)).toNat 0 + c) % 4294967296)) (((tr k).getD ((i : Int)).toNat 0 + c) / 4294967296) ((i : Int) + 1)) (by kernel_rfl) rfl, rfl⟩
     rw [Nat.zero_add]
     rw [ei] at ha hb ⊢
     exact add_step (by omega) hs (by first | omega | (have := getD_out (tr l) i (by omega); omega))
   ·have khb2 := hb2; (try simp only [kb] at khb2)
    refine W_exit ?_
    refine Q_seqX ?_
    refine Q_rndX ?_
    refine Q_blkE ?_
    refine Q_seq ?_
    refine wsr ?_
    refine X_op' rfl (A_mvM (.inl rfl) rfl) ?_
    refine xm rfl rfl rfl rfl ?_
    refine X_op' rfl (A_lenT rfl rfl rfl rfl rfl rfl rfl) ?_
    refine xm rfl rfl rfl rfl ?_
    refine X_op' rfl (A_conv rfl rfl rfl rfl rfl (wSm _)) ?_
    refine X_op' rfl (A_ixO rfl rfl rfl rfl rfl rfl rfl (by omega) (by omega)) ?_
    refine X_op' rfl (A_stR 0 rfl rfl rfl (V_t rfl) (K_t rfl) rfl rfl (by first | omega | (simp only [List.length_set]; omega)) rfl rfl rfl rfl rfl rfl) ?_
    refine X_endS ?_
    try dsimp only [St.put, szA, List.length, Nat.reduceAdd]
    refine wsr ?_
    refine X_op' rfl (A_mvM (.inl rfl) rfl) ?_
    refine X_op' rfl (A_callV rfl rfl rfl rfl (.cons (V_m rfl rfl rfl (by rw [cn_length, List.length_set]; exact hz)) (K_m rfl) .nil) (c112 (U32_set uz _ (by omega) (by omega)) (by rw [List.length_set]; omega))) ?_
    refine xa rfl rfl rfl rfl ?_
    refine X_endS ?_
    try dsimp only [St.put, szA, List.length, Nat.reduceAdd]
    refine W_ret ?_
    have hi2 : i = (tr k).length := by omega
    subst hi2
    have hv : nv (z.set (tr k).length c) = nv l + nv k := by
      rw [set_last hz, hs, List.take_length, List.take_of_length_le (by omega)]
      omega
    have hU : U32 (z.set (tr k).length c) := U32_set uz _ (by omega) (by omega)
    have key : tr (z.set (0 + ((cn (tr k)).length : Int).toNat) (c % 4294967296)) = en (nv l + nv k) := by
      rw [show 0 + ((cn (tr k)).length : Int).toNat = (tr k).length by omega, show c % 4294967296 = c by omega, tr_eq_en hU, hv]
    rw [← key]
    exact end_R rfl (.t rfl .nil)
  ·have khb1 := hb1; (try simp only [kb] at khb1)
   refine W_skip ?_
   refine Q_seq ?_
   refine wsr ?_
   refine xm rfl rfl rfl rfl ?_
   refine X_op' rfl (A_lenT rfl rfl rfl rfl rfl rfl rfl) ?_
   refine X_op' rfl (A_int rfl rfl rfl ⟨by decide, by decide⟩ (addI (by omega))) ?_
   refine X_op' rfl (A_make (j := (tr l).length + 1) rfl rfl rfl rfl rfl rfl (by omega) (by first | omega | (simp only [intE, slE, boolE, integerE, rationalE]; omega)) (by omega)) ?_
   refine X_op' rfl (A_mvM (.inr rfl) rfl) ?_
   refine X_endS ?_
   try dsimp only [St.put, szA, List.length, Nat.reduceAdd]
   refine wsr ?_
   refine xa rfl rfl rfl rfl ?_
   refine X_endS ?_
   try dsimp only [St.put, szA, List.length, Nat.reduceAdd]
   refine W_seq ?_
   refine wsr ?_
   refine xm rfl rfl rfl rfl ?_
   refine X_op' rfl (A_lenT rfl rfl rfl rfl rfl rfl rfl) ?_
   refine xm rfl rfl rfl rfl ?_
   refine X_endS ?_
   try dsimp only [St.put, szA, List.length, Nat.reduceAdd]
   refine W_blk ?_
   refine W_loop (fun n σ => ∃ (i : Nat) (z : List Int) (c : Int), i ≤ (tr l).length ∧ z.length = (tr l).length + 1 ∧ U32 z ∧ (c = 0 ∨ c = 1) ∧ nv (z.take i) + P i * c = nv ((tr l).take i) + nv ((tr k).take i) ∧ σ = st110 (tr l) (tr k) z c i ∧ n = (tr l).length - i) ((tr l).length) ?_ ⟨0, List.replicate ((tr l).length + 1) 0, 0, Nat.zero_le _, List.length_replicate, U32_rep _, .inl rfl, rfl, (by simp only [st110, cn, List.map_replicate]; rfl), rfl⟩ (by omega)
   rintro n _ ⟨i, z, c, hi, hz, uz, hc, hs, rfl, hn⟩
   have ha := U32_getD (show U32 (tr l) by assumption) ((i : Int)).toNat
   have hb := U32_getD (show U32 (tr k) by assumption) ((i : Int)).toNat
   have ei : ((i : Int)).toNat = i := by omega
   have ez := cn_length z
   refine wsr ?_
   refine X_op' rfl (A_int rfl rfl rfl ⟨by decide, by decide⟩ rfl) ?_
   refine X_endS ?_
   try dsimp only [St.put, szA, List.length, Nat.reduceAdd]
   refine W_seq ?_
   refine W_condB rfl (fun hb4 => ?_) (fun hb4 => ?_)
   ·have khb4 := hb4; (try simp only [kb] at khb4)
    refine W_skip ?_
    refine Q_seq ?_
    refine W_seq ?_
    refine W_blk ?_
    refine wsr ?_
    refine xm rfl rfl rfl rfl ?_
    refine X_op' rfl (A_ixA 0 rfl rfl rfl rfl rfl rfl rfl (by omega) (by omega) rfl rfl) ?_
    refine X_op' rfl (A_ld rfl rfl rfl (ld_ip1 rfl rfl rfl)) ?_
    refine xa rfl rfl rfl rfl ?_
    refine xa rfl rfl rfl rfl ?_
    refine X_endS ?_
    try dsimp only [St.put, szA, List.length, Nat.reduceAdd]
    refine wsr ?_
    refine xm rfl rfl rfl rfl ?_
    refine X_op' rfl (A_conv rfl rfl rfl rfl rfl (wU (by omega) (by omega))) ?_
    refine xm rfl rfl rfl rfl ?_
    refine X_op' rfl (A_int rfl rfl rfl ⟨by decide, by decide⟩ (addU (by omega))) ?_
    refine xa rfl rfl rfl rfl ?_
    refine X_endS ?_
    try dsimp only [St.put, szA, List.length, Nat.reduceAdd]
    refine W_seq ?_
    refine wsr ?_
    refine xm rfl rfl rfl rfl ?_
    refine xm rfl rfl rfl rfl ?_
    refine X_op' rfl (A_lenT rfl rfl rfl rfl rfl rfl rfl) ?_
    refine X_op' rfl (A_int rfl rfl rfl ⟨by decide, by decide⟩ rfl) ?_
    refine X_endS ?_
    try dsimp only [St.put, szA, List.length, Nat.reduceAdd]
    refine W_condB rfl (fun hb5 => ?_) (fun hb5 => ?_)
    ·have khb5 := hb5; (try simp only [kb] at khb5)
     refine W_reg ?_
     refine xm rfl rfl rfl rfl ?_
     refine xm rfl rfl rfl rfl ?_
     refine xm rfl rfl rfl rfl ?_
     refine X_op' rfl (A_ixA 0 rfl rfl rfl rfl rfl rfl rfl (by omega) (by omega) rfl rfl) ?_
     refine X_op' rfl (A_ld rfl rfl rfl (ld_ip1 rfl rfl rfl)) ?_
     refine X_op' rfl (A_conv rfl rfl rfl rfl rfl (wU (by omega) (by omega))) ?_
     refine X_op' rfl (A_int rfl rfl rfl ⟨by decide, by decide⟩ (addU (by omega))) ?_
     refine xa rfl rfl rfl rfl ?_
     refine X_endS ?_
     try dsimp only [St.put, szA, List.length, Nat.reduceAdd]
     refine wsr ?_
     refine X_op' rfl (A_mvM (.inl rfl) rfl) ?_
     refine xm rfl rfl rfl rfl ?_
     refine xm rfl rfl rfl rfl ?_
     refine X_op' rfl (A_conv rfl rfl rfl rfl rfl (wSm _)) ?_
     refine X_op' rfl (A_ixO rfl rfl rfl rfl rfl rfl rfl (by omega) (by omega)) ?_
     refine X_op' rfl (A_stR 0 rfl rfl rfl (V_t rfl) (K_t rfl) rfl rfl (by first | omega | (simp only [List.length_set]; omega)) rfl rfl rfl rfl rfl rfl) ?_
     refine X_endS ?_
     try dsimp only [St.put, szA, List.length, Nat.reduceAdd]
     refine W_reg ?_
     refine xm rfl rfl rfl rfl ?_
     refine X_op' rfl (A_sh rfl rfl rfl shr32) ?_
     refine xa rfl rfl rfl rfl ?_
     refine X_end ?_
     try dsimp only [St.put, szA, List.length, Nat.reduceAdd]
     refine Q_blkN ?_
     refine Q_seq ?_
     refine W_reg ?_
     refine X_op' rfl (A_int rfl rfl rfl ⟨by decide, by decide⟩ (addI (by omega))) ?_
     refine xm rfl rfl rfl rfl ?_
     refine X_end ?_
     try dsimp only [St.put, szA, List.length, Nat.reduceAdd]
     refine ⟨(tr l).length - (i + 1), by omega, i + 1, z.set (0 + ((i : Int)).toNat) (((tr l).getD ((i : Int)).toNat 0 + c + (tr k).getD ((i : Int)).toNat 0) % 4294967296), ((tr l).getD ((i : Int)).toNat 0 + c + (tr k).getD ((i : Int)).toNat 0) / 4294967296, by omega, by rw [List.length_set]; exact hz, U32_set uz _ (by omega) (by omega), by omega, ?_, Eq.trans (b := st110 (tr l) (tr k) (z.set (0 + ((i : Int)).toNat) (((tr l).getD ((i : Int)).toNat 0 + c + (tr k).getD ((i : Int)).toNat 0) % 4294967296)) (((tr l).getD ((i : Int)).toNat 0 + c + (tr k).getD ((i : Int)).toNat 0) / 4294967296) ((i : Int) + 1)) (by kernel_rfl) rfl, rfl⟩
     rw [Nat.zero_add]
     rw [ei] at ha hb ⊢
     exact add_step (by omega) hs (by first | omega | (have := getD_out (tr k) i (by omega); omega))
    ·have khb5 := hb5; (try simp only [kb] at khb5)
     refine W_skip ?_
     refine Q_seq ?_
     refine wsr ?_
     refine X_op' rfl (A_mvM (.inl rfl) rfl) ?_
     refine xm rfl rfl rfl rfl ?_
     refine xm rfl rfl rfl rfl ?_
     refine X_op' rfl (A_conv rfl rfl rfl rfl rfl (wSm _)) ?_
     refine X_op' rfl (A_ixO rfl rfl rfl rfl rfl rfl rfl (by omega) (by omega)) ?_
     refine X_op' rfl (A_stR 0 rfl rfl rfl (V_t rfl) (K_t rfl) rfl rfl (by first | omega | (simp only [List.length_set]; omega)) rfl rfl rfl rfl rfl rfl) ?_
     refine X_endS ?_
     try dsimp only [St.put, szA, List.length, Nat.reduceAdd]
     refine W_reg ?_
     refine xm rfl rfl rfl rfl ?_
     refine X_op' rfl (A_sh rfl rfl rfl shr32) ?_
     refine xa rfl rfl rfl rfl ?_
     refine X_end ?_
     try dsimp only [St.put, szA, List.length, Nat.reduceAdd]
     refine Q_blkN ?_
     refine Q_seq ?_
     refine W_reg ?_
     refine X_op' rfl (A_int rfl rfl rfl ⟨by decide, by decide⟩ (addI (by omega))) ?_
     refine xm rfl rfl rfl rfl ?_
     refine X_end ?_
     try dsimp only [St.put, szA, List.length, Nat.reduceAdd]
     refine ⟨(tr l).length - (i + 1), by omega, i + 1, z.set (0 + ((i : Int)).toNat) (((tr l).getD ((i : Int)).toNat 0 + c) % 4294967296), ((tr l).getD ((i : Int)).toNat 0 + c) / 4294967296, by omega, by rw [List.length_set]; exact hz, U32_set uz _ (by omega) (by omega), by omega, ?_, Eq.trans (b := st110 (tr l) (tr k) (z.set (0 + ((i : Int)).toNat) (((tr l).getD ((i : Int)).toNat 0 + c) % 4294967296)) (((tr l).getD ((i : Int)).toNat 0 + c) / 4294967296) ((i : Int) + 1)) (by kernel_rfl) rfl, rfl⟩
     rw [Nat.zero_add]
     rw [ei] at ha hb ⊢
     exact add_step (by omega) hs (by first | omega | (have := getD_out (tr k) i (by omega); omega))
   ·have khb4 := hb4; (try simp only [kb] at khb4)
    refine W_exit ?_
    refine Q_seqX ?_
    refine Q_rndX ?_
    refine Q_blkE ?_
    refine Q_seq ?_
    refine wsr ?_
    refine X_op' rfl (A_mvM (.inl rfl) rfl) ?_
    refine xm rfl rfl rfl rfl ?_
    refine X_op' rfl (A_lenT rfl rfl rfl rfl rfl rfl rfl) ?_
    refine xm rfl rfl rfl rfl ?_
    refine X_op' rfl (A_conv rfl rfl rfl rfl rfl (wSm _)) ?_
    refine X_op' rfl (A_ixO rfl rfl rfl rfl rfl rfl rfl (by omega) (by omega)) ?_
    refine X_op' rfl (A_stR 0 rfl rfl rfl (V_t rfl) (K_t rfl) rfl rfl (by first | omega | (simp only [List.length_set]; omega)) rfl rfl rfl rfl rfl rfl) ?_
    refine X_endS ?_
    try dsimp only [St.put, szA, List.length, Nat.reduceAdd]
    refine wsr ?_
    refine X_op' rfl (A_mvM (.inl rfl) rfl) ?_
    refine X_op' rfl (A_callV rfl rfl rfl rfl (.cons (V_m rfl rfl rfl (by rw [cn_length, List.length_set]; exact hz)) (K_m rfl) .nil) (c112 (U32_set uz _ (by omega) (by omega)) (by rw [List.length_set]; omega))) ?_
    refine xa rfl rfl rfl rfl ?_
    refine X_endS ?_
    try dsimp only [St.put, szA, List.length, Nat.reduceAdd]
    refine W_ret ?_
    have hi2 : i = (tr l).length := by omega
    subst hi2
    have hv : nv (z.set (tr l).length c) = nv l + nv k := by
      rw [set_last hz, hs, List.take_length, List.take_of_length_le (by omega)]
      omega
    have hU : U32 (z.set (tr l).length c) := U32_set uz _ (by omega) (by omega)
    have key : tr (z.set (0 + ((cn (tr l)).length : Int).toNat) (c % 4294967296)) = en (nv l + nv k) := by
      rw [show 0 + ((cn (tr l)).length : Int).toNat = (tr l).length by omega, show c % 4294967296 = c by omega, tr_eq_en hU, hv]
    rw [← key]
    exact end_R rfl (.t rfl .nil)
def g110 : List T → Option Ret := g2 fun l k => if l.length ≤ 1099511627775 ∧ k.length ≤ 1099511627775 then some (.ts [tn (en (nv l + nv k))]) else none
theorem ok110 {sp : Nat → Option Spec} (hS : ∀ f s, sp f = some s → SpecOk Tryz.prog f s) (hr : ∀ ts r, g110 ts = some r → ts.length = 2 ∧ pureRun ty sp keep110 4398046511104 false Tryz.f110.results (Tryz.f110.body.getD .skip) ts = some r) : SpecOk Tryz.prog 110 (viewSpec g110) := by
  refine SpecOk.view (pure_ok mixed ty_ok hS Tryz.func110 rfl (by kernel_rfl) (enters_of Tryz.func110 (by kernel_rfl) rfl) keep110 (fun _ => 4398046511104) false 2 (by decide)) fun ts r h => ?_
  rw [if_pos (hr ts r h).1]
  exact (hr ts r h).2
theorem c110 {l k : List Int} (h : U32 l) (hl : l.length ≤ 1099511627775) (h' : U32 k) (hk : k.length ≤ 1099511627775) : g110 [tn l, tn k] = some (.ts [tn (en (nv l + nv k))]) := (g2_eq h (by omega) h' (by omega)).trans (if_pos ⟨hl, hk⟩)
theorem s110 : SpecOk Tryz.prog 110 (viewSpec g110) := ok110 hN3 fun ts r h => by
  obtain ⟨l, k, rfl, h1, h2, h3, h4, h5⟩ := g2_some h
  split at h5
  · rename_i hb
    exact ⟨rfl, (run110 l k h1 hb.1 h3 hb.2 _ (by omega) _ rfl).trans h5⟩
  · cases h5

def subR (l k : List Int) : Ret := if nv k ≤ nv l then .ts [tn (en (nv l - nv k)), .v (.bool true)] else .ts [tn [], .v (.bool false)]
def keep111 : Nat → List Nat := fun _ => [1, 6, 7, 22, 23, 24]
def st111 (a b z : List Int) (c i : Int) : St := { tm := [(1, .t (tn b)), (6, .ms 0 1 0 (cn a).length), (7, .t (.v (.int .u64 c))), (22, .t (tn a)), (23, .t (.v (.int .i64 ((cn a).length : Int)))), (24, .t (.v (.int .i64 i)))], mm := [(0, some ⟨61, 1, cn z⟩)], nx := 1 }
set_option maxHeartbeats 4000000 in
theorem run111 (l k : List Int) (hl : U32 l) (hll : l.length ≤ 1099511627776) (hk : U32 k) (hkl : k.length ≤ 1099511627776) (fuel : Nat) (hf : 1099511627776 < fuel) (c : Code) (hc : Tryz.f111.body = some c) :
    pureRun ty spN3 keep111 fuel false Tryz.f111.results c [tn l, tn k] = some (subR l k) := by
  injection hc with hc
  subst hc
  have e1 := cn_length (tr l)
  have e2 := cn_length (tr k)
  have b1 := tr_length l
  have b2 := tr_length k
  have u1 := U32_tr hl
  have u2 := U32_tr hk
  have v1 := nv_tr l
  have v2 := nv_tr k
  refine pure_wc ?_
  refine wsr ?_
  refine X_op' rfl (A_mv0 (.inr rfl) rfl rfl rfl rfl) ?_
  refine xa rfl rfl rfl rfl ?_
  refine X_endS ?_
  try dsimp only [St.put, szA, List.length, Nat.reduceAdd]
  refine W_seq ?_
  refine wsr ?_
  refine xm rfl rfl rfl rfl ?_
  refine xm rfl rfl rfl rfl ?_
  refine X_op' rfl (A_callV rfl rfl rfl rfl (.cons (V_t rfl) (K_t rfl) (.cons (V_t rfl) (K_t rfl) .nil)) (c102 (by assumption) (by assumption) (by assumption) (by assumption))) ?_
  refine X_op' rfl (A_int rfl rfl rfl ⟨by decide, by decide⟩ rfl) ?_
  refine X_endS ?_
  try dsimp only [St.put, szA, List.length, Nat.reduceAdd]
  refine W_condB rfl (fun hb1 => ?_) (fun hb1 => ?_)
  ·have khb1 := hb1; (try simp only [kb] at khb1)
   refine wsr ?_
   refine X_op' rfl (A_mv0 (.inr rfl) rfl rfl rfl rfl) ?_
   refine xa rfl rfl rfl rfl ?_
   refine X_endS ?_
   try dsimp only [St.put, szA, List.length, Nat.reduceAdd]
   refine W_ret ?_
   refine Q_seqX ?_
   have hlt := cmp_neg khb1
   have hr : subR l k = .ts [tn [], .v (.bool false)] := if_neg (by omega)
   rw [hr]
   exact end_R rfl (.n rfl (.t rfl .nil))
  ·have khb1 := hb1; (try simp only [kb] at khb1)
   refine W_skip ?_
   refine Q_seq ?_
   refine wsr ?_
   refine xm rfl rfl rfl rfl ?_
   refine X_op' rfl (A_callV rfl rfl rfl rfl (.cons (V_t rfl) (K_t rfl) .nil) (c112 (by assumption) (by assumption))) ?_
   refine xm rfl rfl rfl rfl ?_
   refine X_op' rfl (A_callV rfl rfl rfl rfl (.cons (V_t rfl) (K_t rfl) .nil) (c112 (by assumption) (by assumption))) ?_
   refine xa rfl rfl rfl rfl ?_
   refine xa rfl rfl rfl rfl ?_
   refine X_endS ?_
   try dsimp only [St.put, szA, List.length, Nat.reduceAdd]
   refine wsr ?_
   refine xm rfl rfl rfl rfl ?_
   refine X_op' rfl (A_lenT rfl rfl rfl rfl rfl rfl rfl) ?_
   refine X_op' rfl (A_make (j := (cn (tr l)).length) rfl rfl rfl rfl rfl rfl (by omega) (by first | omega | (simp only [intE, slE, boolE, integerE, rationalE]; omega)) (by omega)) ?_
   refine X_op' rfl (A_mvM (.inr rfl) rfl) ?_
   refine X_endS ?_
   try dsimp only [St.put, szA, List.length, Nat.reduceAdd]
   refine wsr ?_
   refine xa rfl rfl rfl rfl ?_
   refine X_endS ?_
   try dsimp only [St.put, szA, List.length, Nat.reduceAdd]
   refine W_seq ?_
   refine wsr ?_
   refine xm rfl rfl rfl rfl ?_
   refine X_op' rfl (A_lenT rfl rfl rfl rfl rfl rfl rfl) ?_
   refine xm rfl rfl rfl rfl ?_
   refine X_endS ?_
   try dsimp only [St.put, szA, List.length, Nat.reduceAdd]
   refine W_blk ?_
   refine W_loop (fun n σ => ∃ (i : Nat) (z : List Int) (c : Int), i ≤ (tr l).length ∧ z.length = (tr l).length ∧ U32 z ∧ (c = 0 ∨ c = 1) ∧ nv (z.take i) - P i * c = nv ((tr l).take i) - nv ((tr k).take i) ∧ σ = st111 (tr l) (tr k) z c i ∧ n = (tr l).length - i) ((tr l).length) ?_ ⟨0, List.replicate (cn (tr l)).length 0, 0, Nat.zero_le _, (by rw [List.length_replicate]; exact e1), U32_rep _, .inl rfl, rfl, (by simp only [st111, cn, List.map_replicate]; rfl), rfl⟩ (by omega)
   rintro n _ ⟨i, z, c, hi, hz, uz, hc, hs, rfl, hn⟩
   have ha := U32_getD u1 ((i : Int)).toNat
   have hb := U32_getD u2 ((i : Int)).toNat
   have ei : ((i : Int)).toNat = i := by omega
   have ez := cn_length z
   refine wsr ?_
   refine X_op' rfl (A_int rfl rfl rfl ⟨by decide, by decide⟩ rfl) ?_
   refine X_endS ?_
   try dsimp only [St.put, szA, List.length, Nat.reduceAdd]
   refine W_seq ?_
   refine W_condB rfl (fun hb2 => ?_) (fun hb2 => ?_)
   ·have khb2 := hb2; (try simp only [kb] at khb2)
    refine W_skip ?_
    refine Q_seq ?_
    refine W_seq ?_
    refine W_blk ?_
    refine wsr ?_
    refine xm rfl rfl rfl rfl ?_
    refine X_op' rfl (A_ixA 0 rfl rfl rfl rfl rfl rfl rfl (by omega) (by omega) rfl rfl) ?_
    refine X_op' rfl (A_ld rfl rfl rfl (ld_ip1 rfl rfl rfl)) ?_
    refine xa rfl rfl rfl rfl ?_
    refine xa rfl rfl rfl rfl ?_
    refine X_endS ?_
    try dsimp only [St.put, szA, List.length, Nat.reduceAdd]
    refine wsr ?_
    refine xm rfl rfl rfl rfl ?_
    refine X_op' rfl (A_conv rfl rfl rfl rfl rfl (wU (by omega) (by omega))) ?_
    refine xm rfl rfl rfl rfl ?_
    refine X_op' rfl (A_int rfl rfl rfl ⟨by decide, by decide⟩ (subUm _ _)) ?_
    refine xa rfl rfl rfl rfl ?_
    refine X_endS ?_
    try dsimp only [St.put, szA, List.length, Nat.reduceAdd]
    refine W_seq ?_
    refine wsr ?_
    refine xm rfl rfl rfl rfl ?_
    refine xm rfl rfl rfl rfl ?_
    refine X_op' rfl (A_lenT rfl rfl rfl rfl rfl rfl rfl) ?_
    refine X_op' rfl (A_int rfl rfl rfl ⟨by decide, by decide⟩ rfl) ?_
    refine X_endS ?_
    try dsimp only [St.put, szA, List.length, Nat.reduceAdd]
    refine W_condB rfl (fun hb3 => ?_) (fun hb3 => ?_)
    ·have khb3 := hb3; (try simp only [kb] at khb3)
     refine W_reg ?_
     refine xm rfl rfl rfl rfl ?_
     refine xm rfl rfl rfl rfl ?_
     refine xm rfl rfl rfl rfl ?_
     refine X_op' rfl (A_ixA 0 rfl rfl rfl rfl rfl rfl rfl (by omega) (by omega) rfl rfl) ?_
     refine X_op' rfl (A_ld rfl rfl rfl (ld_ip1 rfl rfl rfl)) ?_
     refine X_op' rfl (A_conv rfl rfl rfl rfl rfl (wU (by omega) (by omega))) ?_
     refine X_op' rfl (A_int rfl rfl rfl ⟨by decide, by decide⟩ (subUm _ _)) ?_
     refine xa rfl rfl rfl rfl ?_
     refine X_endS ?_
     try dsimp only [St.put, szA, List.length, Nat.reduceAdd]
     refine wsr ?_
     refine X_op' rfl (A_mvM (.inl rfl) rfl) ?_
     refine xm rfl rfl rfl rfl ?_
     refine xm rfl rfl rfl rfl ?_
     refine X_op' rfl (A_conv rfl rfl rfl rfl rfl (wSm _)) ?_
     refine X_op' rfl (A_ixO rfl rfl rfl rfl rfl rfl rfl (by omega) (by omega)) ?_
     refine X_op' rfl (A_stR 0 rfl rfl rfl (V_t rfl) (K_t rfl) rfl rfl (by first | omega | (simp only [List.length_set]; omega)) rfl rfl rfl rfl rfl rfl) ?_
     refine X_endS ?_
     try dsimp only [St.put, szA, List.length, Nat.reduceAdd]
     refine W_reg ?_
     refine xm rfl rfl rfl rfl ?_
     refine X_op' rfl (A_sh rfl rfl rfl shr63) ?_
     refine xa rfl rfl rfl rfl ?_
     refine X_end ?_
     try dsimp only [St.put, szA, List.length, Nat.reduceAdd]
     refine Q_blkN ?_
     refine Q_seq ?_
     refine W_reg ?_
     refine X_op' rfl (A_int rfl rfl rfl ⟨by decide, by decide⟩ (addI (by omega))) ?_
     refine xm rfl rfl rfl rfl ?_
     refine X_end ?_
     try dsimp only [St.put, szA, List.length, Nat.reduceAdd]
     refine ⟨(tr l).length - (i + 1), by omega, i + 1, z.set (0 + ((i : Int)).toNat) ((((((tr l).getD ((i : Int)).toNat 0 - c) % 18446744073709551616) - (tr k).getD ((i : Int)).toNat 0) % 18446744073709551616) % 4294967296), (((((tr l).getD ((i : Int)).toNat 0 - c) % 18446744073709551616) - (tr k).getD ((i : Int)).toNat 0) % 18446744073709551616) / 9223372036854775808, by omega, by rw [List.length_set]; exact hz, U32_set uz _ (by omega) (by omega), by omega, ?_, Eq.trans (b := st111 (tr l) (tr k) (z.set (0 + ((i : Int)).toNat) ((((((tr l).getD ((i : Int)).toNat 0 - c) % 18446744073709551616) - (tr k).getD ((i : Int)).toNat 0) % 18446744073709551616) % 4294967296)) ((((((tr l).getD ((i : Int)).toNat 0 - c) % 18446744073709551616) - (tr k).getD ((i : Int)).toNat 0) % 18446744073709551616) / 9223372036854775808) ((i : Int) + 1)) (by kernel_rfl) rfl, rfl⟩
     rw [Nat.zero_add]
     rw [ei] at ha hb ⊢
     exact sub_step (by omega) hs (by first | omega | (have := getD_out (tr k) i (by omega); omega))
    ·have khb3 := hb3; (try simp only [kb] at khb3)
     refine W_skip ?_
     refine Q_seq ?_
     refine wsr ?_
     refine X_op' rfl (A_mvM (.inl rfl) rfl) ?_
     refine xm rfl rfl rfl rfl ?_
     refine xm rfl rfl rfl rfl ?_
     refine X_op' rfl (A_conv rfl rfl rfl rfl rfl (wSm _)) ?_
     refine X_op' rfl (A_ixO rfl rfl rfl rfl rfl rfl rfl (by omega) (by omega)) ?_
     refine X_op' rfl (A_stR 0 rfl rfl rfl (V_t rfl) (K_t rfl) rfl rfl (by first | omega | (simp only [List.length_set]; omega)) rfl rfl rfl rfl rfl rfl) ?_
     refine X_endS ?_
     try dsimp only [St.put, szA, List.length, Nat.reduceAdd]
     refine W_reg ?_
     refine xm rfl rfl rfl rfl ?_
     refine X_op' rfl (A_sh rfl rfl rfl shr63) ?_
     refine xa rfl rfl rfl rfl ?_
     refine X_end ?_
     try dsimp only [St.put, szA, List.length, Nat.reduceAdd]
     refine Q_blkN ?_
     refine Q_seq ?_
     refine W_reg ?_
     refine X_op' rfl (A_int rfl rfl rfl ⟨by decide, by decide⟩ (addI (by omega))) ?_
     refine xm rfl rfl rfl rfl ?_
     refine X_end ?_
     try dsimp only [St.put, szA, List.length, Nat.reduceAdd]
     refine ⟨(tr l).length - (i + 1), by omega, i + 1, z.set (0 + ((i : Int)).toNat) ((((tr l).getD ((i : Int)).toNat 0 - c) % 18446744073709551616) % 4294967296), (((tr l).getD ((i : Int)).toNat 0 - c) % 18446744073709551616) / 9223372036854775808, by omega, by rw [List.length_set]; exact hz, U32_set uz _ (by omega) (by omega), by omega, ?_, Eq.trans (b := st111 (tr l) (tr k) (z.set (0 + ((i : Int)).toNat) ((((tr l).getD ((i : Int)).toNat 0 - c) % 18446744073709551616) % 4294967296)) ((((tr l).getD ((i : Int)).toNat 0 - c) % 18446744073709551616) / 9223372036854775808) ((i : Int) + 1)) (by kernel_rfl) rfl, rfl⟩
     rw [Nat.zero_add]
     rw [ei] at ha hb ⊢
     exact sub_step (by omega) hs (by first | omega | (have := getD_out (tr k) i (by omega); omega))
   ·have khb2 := hb2; (try simp only [kb] at khb2)
    refine W_exit ?_
    refine Q_seqX ?_
    refine Q_rndX ?_
    refine Q_blkE ?_
    refine Q_seq ?_
    refine wsr ?_
    refine X_op' rfl (A_mvM (.inl rfl) rfl) ?_
    refine X_op' rfl (A_callV rfl rfl rfl rfl (.cons (V_m rfl rfl rfl (by rw [cn_length, hz]; exact e1.symm)) (K_m rfl) .nil) (c112 uz (by omega))) ?_
    refine xa rfl rfl rfl rfl ?_
    refine xa rfl rfl rfl rfl ?_
    refine X_endS ?_
    try dsimp only [St.put, szA, List.length, Nat.reduceAdd]
    refine W_ret ?_
    have hi2 : i = (tr l).length := by omega
    have hle : nv k ≤ nv l := cmp_nneg khb1
    have hbl := tr_len_le hl hk hle
    have hs2 : nv z - P z.length * c = nv l - nv k := by
      rw [hi2, List.take_of_length_le (by omega), List.take_length, List.take_of_length_le (by omega), v1, v2] at hs
      rw [hz]; exact hs
    have hc0 := borrow_out uz hs2 (by omega) hc
    have key : tr z = en (nv l - nv k) := by rw [tr_eq_en uz, ← hs2, hc0, Int.mul_zero, Int.sub_zero]
    have hr : subR l k = .ts [tn (en (nv l - nv k)), .v (.bool true)] := if_pos hle
    rw [hr, ← key]
    exact end_R rfl (.t rfl (.t rfl .nil))
def g111 : List T → Option Ret := g2 fun l k => some (subR l k)
theorem ok111 {sp : Nat → Option Spec} (hS : ∀ f s, sp f = some s → SpecOk Tryz.prog f s) (hr : ∀ ts r, g111 ts = some r → ts.length = 2 ∧ pureRun ty sp keep111 4398046511104 false Tryz.f111.results (Tryz.f111.body.getD .skip) ts = some r) : SpecOk Tryz.prog 111 (viewSpec g111) := by
  refine SpecOk.view (pure_ok mixed ty_ok hS Tryz.func111 rfl (by kernel_rfl) (enters_of Tryz.func111 (by kernel_rfl) rfl) keep111 (fun _ => 4398046511104) false 2 (by decide)) fun ts r h => ?_
  rw [if_pos (hr ts r h).1]
  exact (hr ts r h).2
theorem c111 {l k : List Int} (h : U32 l) (hl : l.length ≤ 1099511627776) (h' : U32 k) (hk : k.length ≤ 1099511627776) : g111 [tn l, tn k] = some (subR l k) := g2_eq h hl h' hk
theorem s111 : SpecOk Tryz.prog 111 (viewSpec g111) := ok111 hN3 fun ts r h => by
  obtain ⟨l, k, rfl, h1, h2, h3, h4, h5⟩ := g2_some h
  exact ⟨rfl, (run111 l k h1 h2 h3 h4 _ (by omega) _ rfl).trans h5⟩

def keep98 : Nat → List Nat := fun b => if b = 0 then [1, 5, 30, 31, 32] else [1, 5, 6, 7, 8, 30, 31, 32, 37, 38, 39]
def st98 (a b z : List Int) (i : Int) : St := { tm := [(1, .t (tn b)), (5, .ms 0 1 0 (a.length + b.length)), (30, .t (tn a)), (31, .t (.v (.int .i64 ((cn a).length : Int)))), (32, .t (.v (.int .i64 i)))], mm := [(0, some ⟨61, 1, cn z⟩)], nx := 1 }
def st98b (a b z : List Int) (x c i j : Int) : St := { tm := [(1, .t (tn b)), (5, .ms 0 1 0 (a.length + b.length)), (6, .t (.v (.int .i64 i))), (7, .t (.v (.int .u32 x))), (8, .t (.v (.int .u64 c))), (30, .t (tn a)), (31, .t (.v (.int .i64 ((cn a).length : Int)))), (32, .t (.v (.int .i64 i))), (37, .t (tn b)), (38, .t (.v (.int .i64 ((cn b).length : Int)))), (39, .t (.v (.int .i64 j)))], mm := [(0, some ⟨61, 1, cn z⟩)], nx := 1 }
set_option maxHeartbeats 4000000 in
theorem run98 (l k : List Int) (hl : U32 l) (hll : l.length ≤ 549755813888) (hk : U32 k) (hkl : k.length ≤ 549755813888) (fuel : Nat) (hf : 1099511627776 < fuel) (c : Code) (hc : Tryz.f98.body = some c) :
    pureRun ty spN3 keep98 fuel false Tryz.f98.results c [tn l, tn k] = some (.ts [tn (en (nv l * nv k))]) := by
  injection hc with hc
  subst hc
  have e1 := cn_length (tr l)
  have e2 := cn_length (tr k)
  have b1 := tr_length l
  have b2 := tr_length k
  have u1 := U32_tr hl
  have u2 := U32_tr hk
  have v1 := nv_tr l
  have v2 := nv_tr k
  have hll' : l.length ≤ 1099511627776 := by omega
  have hkl' : k.length ≤ 1099511627776 := by omega
  refine pure_wc ?_
  refine wsr ?_
  refine X_op' rfl (A_mv0 (.inr rfl) rfl rfl rfl rfl) ?_
  refine X_endS ?_
  try dsimp only [St.put, szA, List.length, Nat.reduceAdd]
  refine wsr ?_
  refine xm rfl rfl rfl rfl ?_
  refine X_op' rfl (A_callV rfl rfl rfl rfl (.cons (V_t rfl) (K_t rfl) .nil) (c112 (by assumption) (by assumption))) ?_
  refine xm rfl rfl rfl rfl ?_
  refine X_op' rfl (A_callV rfl rfl rfl rfl (.cons (V_t rfl) (K_t rfl) .nil) (c112 (by assumption) (by assumption))) ?_
  refine xa rfl rfl rfl rfl ?_
  refine xa rfl rfl rfl rfl ?_
  refine X_endS ?_
  try dsimp only [St.put, szA, List.length, Nat.reduceAdd]
  refine W_seq ?_
  refine wsr ?_
  refine xm rfl rfl rfl rfl ?_
  refine X_op' rfl (A_lenT rfl rfl rfl rfl rfl rfl rfl) ?_
  refine X_op' rfl (A_int rfl rfl rfl ⟨by decide, by decide⟩ rfl) ?_
  refine xm rfl rfl rfl rfl ?_
  refine X_both (d := 19) rfl (fun hb1 => ?_) (fun hb1 => ?_)
  ·have khb1 := hb1; (try simp only [kb] at khb1)
   refine X_no1 rfl rfl rfl hb1 ?_
   refine X_no1 rfl rfl rfl hb1 ?_
   refine X_no1 rfl rfl rfl hb1 ?_
   refine X_op' rfl (A_pickT rfl rfl hb1 rfl) ?_
   refine X_endS ?_
   try dsimp only [St.put, szA, List.length, Nat.reduceAdd]
   refine W_condT rfl rfl ?_
   refine wsr ?_
   refine X_op' rfl (A_mv0 (.inr rfl) rfl rfl rfl rfl) ?_
   refine X_endS ?_
   try dsimp only [St.put, szA, List.length, Nat.reduceAdd]
   refine W_ret ?_
   refine Q_seqX ?_
   rw [nv_tr_nil (l := l) (by omega), Int.zero_mul, en_zero]
   exact end_R rfl (.n rfl .nil)
  ·have khb1 := hb1; (try simp only [kb] at khb1)
   refine X_yes' rfl rfl rfl hb1 (A_mvT (.inl rfl) rfl rfl) ?_
   refine X_yes' rfl rfl rfl hb1 (A_lenT rfl rfl rfl rfl rfl rfl rfl) ?_
   refine X_yes' rfl rfl rfl hb1 (A_int rfl rfl rfl ⟨by decide, by decide⟩ rfl) ?_
   refine X_op' rfl (A_pickF rfl rfl hb1 rfl) ?_
   refine X_endS ?_
   try dsimp only [St.put, szA, List.length, Nat.reduceAdd]
   refine W_condB rfl (fun hb2 => ?_) (fun hb2 => ?_)
   ·have khb2 := hb2; (try simp only [kb] at khb2)
    refine wsr ?_
    refine X_op' rfl (A_mv0 (.inr rfl) rfl rfl rfl rfl) ?_
    refine X_endS ?_
    try dsimp only [St.put, szA, List.length, Nat.reduceAdd]
    refine W_ret ?_
    refine Q_seqX ?_
    rw [nv_tr_nil (l := k) (by omega), Int.mul_zero, en_zero]
    exact end_R rfl (.n rfl .nil)
   ·have khb2 := hb2; (try simp only [kb] at khb2)
    refine W_skip ?_
    refine Q_seq ?_
    refine wsr ?_
    refine xm rfl rfl rfl rfl ?_
    refine X_op' rfl (A_lenT rfl rfl rfl rfl rfl rfl rfl) ?_
    refine xm rfl rfl rfl rfl ?_
    refine X_op' rfl (A_lenT rfl rfl rfl rfl rfl rfl rfl) ?_
    refine X_op' rfl (A_int rfl rfl rfl ⟨by decide, by decide⟩ (addI (by omega))) ?_
    refine X_op' rfl (A_make (j := (tr l).length + (tr k).length) rfl rfl rfl rfl rfl rfl (by omega) (by first | omega | (simp only [intE, slE, boolE, integerE, rationalE]; omega)) (by omega)) ?_
    refine X_op' rfl (A_mvM (.inr rfl) rfl) ?_
    refine X_endS ?_
    try dsimp only [St.put, szA, List.length, Nat.reduceAdd]
    refine W_seq ?_
    refine wsr ?_
    refine xm rfl rfl rfl rfl ?_
    refine X_op' rfl (A_lenT rfl rfl rfl rfl rfl rfl rfl) ?_
    refine xm rfl rfl rfl rfl ?_
    refine X_endS ?_
    try dsimp only [St.put, szA, List.length, Nat.reduceAdd]
    refine W_blk ?_
    refine W_loop (fun n σ => ∃ (i : Nat) (z : List Int), i ≤ (tr l).length ∧ z.length = (tr l).length + (tr k).length ∧ U32 z ∧ nv z = nv ((tr l).take i) * nv (tr k) ∧ (∀ t, i + (tr k).length ≤ t → z.getD t 0 = 0) ∧ σ = st98 (tr l) (tr k) z i ∧ n = (tr l).length - i) ((tr l).length) ?_ ⟨0, List.replicate ((tr l).length + (tr k).length) 0, Nat.zero_le _, List.length_replicate, U32_rep _, (by rw [nv_replicate, List.take_zero, nv_nil, Int.zero_mul]), (by intro t _; simp [List.getD_eq_getElem?_getD, List.getElem?_replicate]; split <;> rfl), (by simp only [st98, cn, List.map_replicate]; rfl), rfl⟩ (by omega)
    rintro n _ ⟨i, z0, hi, hz0, uz0, hs0, hzz0, rfl, hn⟩
    have ha := U32_getD u1 ((i : Int)).toNat
    have ei : ((i : Int)).toNat = i := by omega
    have ez := cn_length z0
    refine wsr ?_
    refine X_op' rfl (A_int rfl rfl rfl ⟨by decide, by decide⟩ rfl) ?_
    refine X_endS ?_
    try dsimp only [St.put, szA, List.length, Nat.reduceAdd]
    refine W_seq ?_
    refine W_condB rfl (fun hb3 => ?_) (fun hb3 => ?_)
    ·have khb3 := hb3; (try simp only [kb] at khb3)
     refine W_skip ?_
     refine Q_seq ?_
     refine W_seq ?_
     refine W_blk ?_
     refine wsr ?_
     refine xm rfl rfl rfl rfl ?_
     refine X_op' rfl (A_ixA 0 rfl rfl rfl rfl rfl rfl rfl (by omega) (by omega) rfl rfl) ?_
     refine X_op' rfl (A_ld rfl rfl rfl (ld_ip1 rfl rfl rfl)) ?_
     refine xa rfl rfl rfl rfl ?_
     refine xa rfl rfl rfl rfl ?_
     refine X_endS ?_
     try dsimp only [St.put, szA, List.length, Nat.reduceAdd]
     refine wsr ?_
     refine xa rfl rfl rfl rfl ?_
     refine X_endS ?_
     try dsimp only [St.put, szA, List.length, Nat.reduceAdd]
     refine W_seq ?_
     refine wsr ?_
     refine xm rfl rfl rfl rfl ?_
     refine X_op' rfl (A_lenT rfl rfl rfl rfl rfl rfl rfl) ?_
     refine xm rfl rfl rfl rfl ?_
     refine X_endS ?_
     try dsimp only [St.put, szA, List.length, Nat.reduceAdd]
     refine W_blk ?_
     refine W_loop (fun n σ => ∃ (j : Nat) (z : List Int) (c : Int), j ≤ (tr k).length ∧ z.length = (tr l).length + (tr k).length ∧ U32 z ∧ 0 ≤ c ∧ c < 4294967296 ∧ nv z + P (i + j) * c = nv ((tr l).take i) * nv (tr k) + P i * (((tr l).getD ((i : Int)).toNat 0) * nv ((tr k).take j)) ∧ (∀ t, i + (tr k).length ≤ t → z.getD t 0 = 0) ∧ σ = st98b (tr l) (tr k) z ((tr l).getD ((i : Int)).toNat 0) c i j ∧ n = (tr k).length - j) ((tr k).length) ?_ ⟨0, z0, 0, Nat.zero_le _, hz0, uz0, Int.le_refl _, (by decide), (by rw [Int.mul_zero, Int.add_zero, List.take_zero, nv_nil, Int.mul_zero, Int.mul_zero, Int.add_zero]; exact hs0), hzz0, (by kernel_rfl), rfl⟩ (by omega)
     rintro n2 _ ⟨j, z, c, hj, hz, uz, hc1, hc2, hs, h0, rfl, hn2⟩
     have hb := U32_getD u2 ((j : Int)).toNat
     have ej : ((j : Int)).toNat = j := by omega
     have eij : 0 + ((i : Int) + (j : Int)).toNat = i + j := by omega
     have hzz := U32_getD uz (0 + ((i : Int) + (j : Int)).toNat)
     have ez2 := cn_length z
     have hab := mul_bound ha hb
     refine wsr ?_
     refine X_op' rfl (A_int rfl rfl rfl ⟨by decide, by decide⟩ rfl) ?_
     refine X_endS ?_
     try dsimp only [St.put, szA, List.length, Nat.reduceAdd]
     refine W_seq ?_
     refine W_condB rfl (fun hb4 => ?_) (fun hb4 => ?_)
     ·have khb4 := hb4; (try simp only [kb] at khb4)
      refine W_skip ?_
      refine Q_seq ?_
      refine W_seq ?_
      refine W_blk ?_
      refine wsr ?_
      refine xm rfl rfl rfl rfl ?_
      refine X_op' rfl (A_ixA 0 rfl rfl rfl rfl rfl rfl rfl (by omega) (by omega) rfl rfl) ?_
      refine X_op' rfl (A_ld rfl rfl rfl (ld_ip1 rfl rfl rfl)) ?_
      refine xa rfl rfl rfl rfl ?_
      refine xa rfl rfl rfl rfl ?_
      refine X_endS ?_
      try dsimp only [St.put, szA, List.length, Nat.reduceAdd]
      refine wsr ?_
      refine xm rfl rfl rfl rfl ?_
      refine X_op' rfl (A_conv rfl rfl rfl rfl rfl (wU (by omega) (by omega))) ?_
      refine xm rfl rfl rfl rfl ?_
      refine X_op' rfl (A_conv rfl rfl rfl rfl rfl (wU (by omega) (by omega))) ?_
      refine X_op' rfl (A_int rfl rfl rfl ⟨by decide, by decide⟩ (mulU (by omega))) ?_
      refine X_op' rfl (A_mvM (.inl rfl) rfl) ?_
      refine xm rfl rfl rfl rfl ?_
      refine xm rfl rfl rfl rfl ?_
      refine X_op' rfl (A_int rfl rfl rfl ⟨by decide, by decide⟩ (addI (by omega))) ?_
      refine X_op' rfl (A_ixO rfl rfl rfl rfl rfl rfl rfl (by omega) (by omega)) ?_
      refine X_op' rfl (A_ld rfl rfl rfl (ld_row 0 rfl (by first | omega | (simp only [List.length_set]; omega)) rfl rfl rfl)) ?_
      refine X_op' rfl (A_conv rfl rfl rfl rfl rfl (wU (by omega) (by omega))) ?_
      refine X_op' rfl (A_int rfl rfl rfl ⟨by decide, by decide⟩ (addU (by omega))) ?_
      refine xm rfl rfl rfl rfl ?_
      refine X_op' rfl (A_int rfl rfl rfl ⟨by decide, by decide⟩ (addU (by omega))) ?_
      refine xa rfl rfl rfl rfl ?_
      refine X_endS ?_
      try dsimp only [St.put, szA, List.length, Nat.reduceAdd]
      refine wsr ?_
      refine X_op' rfl (A_mvM (.inl rfl) rfl) ?_
      refine xm rfl rfl rfl rfl ?_
      refine xm rfl rfl rfl rfl ?_
      refine X_op' rfl (A_int rfl rfl rfl ⟨by decide, by decide⟩ (addI (by omega))) ?_
      refine xm rfl rfl rfl rfl ?_
      refine X_op' rfl (A_conv rfl rfl rfl rfl rfl (wSm _)) ?_
      refine X_op' rfl (A_ixO rfl rfl rfl rfl rfl rfl rfl (by omega) (by omega)) ?_
      refine X_op' rfl (A_stR 0 rfl rfl rfl (V_t rfl) (K_t rfl) rfl rfl (by first | omega | (simp only [List.length_set]; omega)) rfl rfl rfl rfl rfl rfl) ?_
      refine X_endS ?_
      try dsimp only [St.put, szA, List.length, Nat.reduceAdd]
      refine W_reg ?_
      refine xm rfl rfl rfl rfl ?_
      refine X_op' rfl (A_sh rfl rfl rfl shr32) ?_
      refine xa rfl rfl rfl rfl ?_
      refine X_end ?_
      try dsimp only [St.put, szA, List.length, Nat.reduceAdd]
      refine Q_blkN ?_
      refine Q_seq ?_
      refine W_reg ?_
      refine X_op' rfl (A_int rfl rfl rfl ⟨by decide, by decide⟩ (addI (by omega))) ?_
      refine xm rfl rfl rfl rfl ?_
      refine X_end ?_
      try dsimp only [St.put, szA, List.length, Nat.reduceAdd]
      refine ⟨(tr k).length - (j + 1), by omega, j + 1, z.set (0 + ((i : Int) + (j : Int)).toNat) ((((tr l).getD ((i : Int)).toNat 0) * ((tr k).getD ((j : Int)).toNat 0) + (z.getD (0 + ((i : Int) + (j : Int)).toNat) 0) + c) % 4294967296), (((tr l).getD ((i : Int)).toNat 0) * ((tr k).getD ((j : Int)).toNat 0) + (z.getD (0 + ((i : Int) + (j : Int)).toNat) 0) + c) / 4294967296, by omega, by rw [List.length_set]; exact hz, U32_set uz _ (by omega) (by omega), by omega, by omega, ?_, ?_, Eq.trans (b := st98b (tr l) (tr k) (z.set (0 + ((i : Int) + (j : Int)).toNat) ((((tr l).getD ((i : Int)).toNat 0) * ((tr k).getD ((j : Int)).toNat 0) + (z.getD (0 + ((i : Int) + (j : Int)).toNat) 0) + c) % 4294967296)) ((tr l).getD ((i : Int)).toNat 0) ((((tr l).getD ((i : Int)).toNat 0) * ((tr k).getD ((j : Int)).toNat 0) + (z.getD (0 + ((i : Int) + (j : Int)).toNat) 0) + c) / 4294967296) (i : Int) ((j : Int) + 1)) (by kernel_rfl) rfl, rfl⟩
      · rw [eij]
        rw [ei] at *
        rw [ej] at *
        rw [eij] at *
        exact mul_step (by omega) hs rfl
      · intro t ht
        rw [eij, NumA.getD_set_ne _ _ _ _ (by omega)]
        exact h0 t ht
     ·have khb4 := hb4; (try simp only [kb] at khb4)
      refine W_exit ?_
      refine Q_seqX ?_
      refine Q_rndX ?_
      refine Q_blkE ?_
      refine Q_seq ?_
      refine W_reg ?_
      refine X_op' rfl (A_mvM (.inl rfl) rfl) ?_
      refine xm rfl rfl rfl rfl ?_
      refine xm rfl rfl rfl rfl ?_
      refine X_op' rfl (A_lenT rfl rfl rfl rfl rfl rfl rfl) ?_
      refine X_op' rfl (A_int rfl rfl rfl ⟨by decide, by decide⟩ (addI (by omega))) ?_
      refine xm rfl rfl rfl rfl ?_
      refine X_op' rfl (A_conv rfl rfl rfl rfl rfl (wSm _)) ?_
      refine X_op' rfl (A_ixO rfl rfl rfl rfl rfl rfl rfl (by omega) (by omega)) ?_
      refine X_op' rfl (A_stR 0 rfl rfl rfl (V_t rfl) (K_t rfl) rfl rfl (by first | omega | (simp only [List.length_set]; omega)) rfl rfl rfl rfl rfl rfl) ?_
      refine X_end ?_
      try dsimp only [St.put, szA, List.length, Nat.reduceAdd]
      refine Q_blkN ?_
      refine Q_seq ?_
      refine W_reg ?_
      refine X_op' rfl (A_int rfl rfl rfl ⟨by decide, by decide⟩ (addI (by omega))) ?_
      refine xm rfl rfl rfl rfl ?_
      refine X_end ?_
      try dsimp only [St.put, szA, List.length, Nat.reduceAdd]
      refine ⟨(tr l).length - (i + 1), by omega, i + 1, z.set (0 + ((i : Int) + ((cn (tr k)).length : Int)).toNat) (c % 4294967296), by omega, by rw [List.length_set]; exact hz, U32_set uz _ (by omega) (by omega), ?_, ?_, Eq.trans (b := st98 (tr l) (tr k) (z.set (0 + ((i : Int) + ((cn (tr k)).length : Int)).toNat) (c % 4294967296)) ((i : Int) + 1)) (by kernel_rfl) rfl, rfl⟩
      · rw [show 0 + ((i : Int) + ((cn (tr k)).length : Int)).toNat = i + (tr k).length by omega, show c % 4294967296 = c by omega]
        rw [show j = (tr k).length by omega] at hs
        rw [ei] at hs
        exact mul_end (by omega) hs (h0 _ (by omega))
      · intro t ht
        rw [show 0 + ((i : Int) + ((cn (tr k)).length : Int)).toNat = i + (tr k).length by omega, NumA.getD_set_ne _ _ _ _ (by omega)]
        exact h0 t (by omega)
    ·have khb3 := hb3; (try simp only [kb] at khb3)
     refine W_exit ?_
     refine Q_seqX ?_
     refine Q_rndX ?_
     refine Q_blkE ?_
     refine Q_seq ?_
     refine wsr ?_
     refine X_op' rfl (A_mvM (.inl rfl) rfl) ?_
     refine X_op' rfl (A_callV rfl rfl rfl rfl (.cons (V_m rfl rfl rfl (by rw [cn_length]; exact hz0)) (K_m rfl) .nil) (c112 uz0 (by omega))) ?_
     refine xa rfl rfl rfl rfl ?_
     refine X_endS ?_
     try dsimp only [St.put, szA, List.length, Nat.reduceAdd]
     refine W_ret ?_
     have key : tr z0 = en (nv l * nv k) := by
       rw [tr_eq_en uz0, hs0, List.take_of_length_le (by omega), v1, v2]
     rw [← key]
     exact end_R rfl (.t rfl .nil)
def g98 : List T → Option Ret := g2 fun l k => if l.length ≤ 549755813888 ∧ k.length ≤ 549755813888 then some (.ts [tn (en (nv l * nv k))]) else none
theorem ok98 {sp : Nat → Option Spec} (hS : ∀ f s, sp f = some s → SpecOk Tryz.prog f s) (hr : ∀ ts r, g98 ts = some r → ts.length = 2 ∧ pureRun ty sp keep98 4398046511104 false Tryz.f98.results (Tryz.f98.body.getD .skip) ts = some r) : SpecOk Tryz.prog 98 (viewSpec g98) := by
  refine SpecOk.view (pure_ok mixed ty_ok hS Tryz.func98 rfl (by kernel_rfl) (enters_of Tryz.func98 (by kernel_rfl) rfl) keep98 (fun _ => 4398046511104) false 2 (by decide)) fun ts r h => ?_
  rw [if_pos (hr ts r h).1]
  exact (hr ts r h).2
theorem c98 {l k : List Int} (h : U32 l) (hl : l.length ≤ 549755813888) (h' : U32 k) (hk : k.length ≤ 549755813888) : g98 [tn l, tn k] = some (.ts [tn (en (nv l * nv k))]) := (g2_eq h (by omega) h' (by omega)).trans (if_pos ⟨hl, hk⟩)
theorem s98 : SpecOk Tryz.prog 98 (viewSpec g98) := ok98 hN3 fun ts r h => by
  obtain ⟨l, k, rfl, h1, h2, h3, h4, h5⟩ := g2_some h
  split at h5
  · rename_i hb
    exact ⟨rfl, (run98 l k h1 hb.1 h3 hb.2 _ (by omega) _ rfl).trans h5⟩
  · cases h5

end Go.Ev.S
/- The package natural: walks, continued. -/
set_option linter.unusedVariables false
set_option linter.unusedSimpArgs false
set_option maxRecDepth 100000
namespace Go.Ev.S
open Go Go.Ev Go.Proofs NumA

def u64? : T → Option Int
  | .v (.int .u64 x) => if 0 ≤ x ∧ x < 18446744073709551616 then some x else none
  | _ => none
theorem u64_some {t : T} {x : Int} (h : u64? t = some x) : t = .v (.int .u64 x) ∧ 0 ≤ x ∧ x < 18446744073709551616 := by
  unfold u64? at h
  split at h
  · split at h
    · simp only [Option.some.injEq] at h; subst h; exact ⟨rfl, by omega, by omega⟩
    · cases h
  · cases h
def keep108 : Nat → List Nat := fun _ => []
set_option maxHeartbeats 4000000 in
theorem run108 (x : Int) (h0 : 0 ≤ x) (h1 : x < 18446744073709551616) (fuel : Nat) (c : Code) (hc : Tryz.f108.body = some c) :
    pureRun ty spN3 keep108 fuel false Tryz.f108.results c [.v (.int .u64 x)] = some (.ts [tn (en x)]) := by
  injection hc with hc
  subst hc
  have hU : U32 [x % 4294967296, x / 4294967296 % 4294967296] := U32_cons.2 ⟨by omega, U32_cons.2 ⟨by omega, U32_nil⟩⟩
  refine pure_wc ?_
  refine wsr ?_
  refine X_op' rfl (A_mv0 (.inr rfl) rfl rfl rfl rfl) ?_
  refine X_endS ?_
  try dsimp only [St.put, szA, List.length, Nat.reduceAdd]
  refine wsr ?_
  refine xm rfl rfl rfl rfl ?_
  refine X_op' rfl (A_conv rfl rfl rfl rfl rfl (wSm _)) ?_
  refine xm rfl rfl rfl rfl ?_
  refine X_op' rfl (A_sh rfl rfl rfl shr32) ?_
  refine X_op' rfl (A_conv rfl rfl rfl rfl rfl (wSm _)) ?_
  refine X_op' rfl (A_bs rfl rfl rfl rfl rfl (.cons (V_t rfl) (K_t rfl) (.cons (V_t rfl) (K_t rfl) .nil)) rfl rfl (by decide)) ?_
  refine X_op' rfl (A_callV rfl rfl rfl rfl (.cons (V_m rfl rfl rfl rfl) (K_m rfl) .nil) (c112 (l := [x % 4294967296, x / 4294967296 % 4294967296]) hU (by simp))) ?_
  refine xa rfl rfl rfl rfl ?_
  refine X_endS ?_
  try dsimp only [St.put, szA, List.length, Nat.reduceAdd]
  refine W_ret ?_
  have key : tr [x % 4294967296, x / 4294967296 % 4294967296] = en x := by
    rw [tr_eq_en hU, nv_pair]; congr 1; omega
  rw [← key]
  exact end_R rfl (.t rfl .nil)
def g108 : List T → Option Ret := fun ts => match ts with | [t] => (match u64? t with | some x => some (.ts [tn (en x)]) | none => none) | _ => none
theorem ok108 {sp : Nat → Option Spec} (hS : ∀ f s, sp f = some s → SpecOk Tryz.prog f s) (hr : ∀ ts r, g108 ts = some r → ts.length = 1 ∧ pureRun ty sp keep108 4398046511104 false Tryz.f108.results (Tryz.f108.body.getD .skip) ts = some r) : SpecOk Tryz.prog 108 (viewSpec g108) := by
  refine SpecOk.view (pure_ok mixed ty_ok hS Tryz.func108 rfl (by kernel_rfl) (enters_of Tryz.func108 (by kernel_rfl) rfl) keep108 (fun _ => 4398046511104) false 1 (by decide)) fun ts r h => ?_
  rw [if_pos (hr ts r h).1]
  exact (hr ts r h).2
theorem c108 {x : Int} (h0 : 0 ≤ x) (h1 : x < 18446744073709551616) : g108 [.v (.int .u64 x)] = some (.ts [tn (en x)]) := by
  simp only [g108, u64?, if_pos (And.intro h0 h1)]
theorem s108 : SpecOk Tryz.prog 108 (viewSpec g108) := ok108 hN3 fun ts r h => by
  unfold g108 at h
  split at h
  · split at h
    · rename_i x hx
      obtain ⟨rfl, h0, h1⟩ := u64_some hx
      exact ⟨rfl, (run108 x h0 h1 _ _ rfl).trans h⟩
    · cases h
  · cases h

def u64R (l : List Int) : Ret := if nv l < 18446744073709551616 then .ts [.v (.int .u64 (nv l)), .v (.bool true)] else .ts [.v (.int .u64 0), .v (.bool false)]
def keep84 : Nat → List Nat := fun _ => [0, 4, 5]
def st84 (a : List Int) (v j : Int) : St := { tm := [(0, .t (tn a)), (4, .t (.v (.int .u64 v))), (5, .t (.v (.int .i64 j)))], mm := [], nx := 0 }
theorem P2 : P 2 = 18446744073709551616 := by rw [show (2 : Nat) = 0 + 1 + 1 from rfl, P_succ, P_succ, P_zero]; rfl
theorem tr_two {l : List Int} (h : U32 l) : (tr l).length ≤ 2 ↔ nv l < 18446744073709551616 := by
  constructor
  · intro h1
    have h2 := nv_lt (U32_tr h)
    rw [nv_tr] at h2
    have := P_le h1
    rw [P2] at this
    omega
  · intro h1
    rw [tr_eq_en h]
    exact en_length (by rw [P2]; exact h1)
theorem drop_small {a : List Int} (h : U32 a) (j : Nat) (hl : a.length ≤ 2) (hj : 0 < j) : 0 ≤ nv (a.drop j) ∧ nv (a.drop j) < 4294967296 := by
  have h1 := nv_nonneg (U32_drop h j)
  have h2 := nv_lt (U32_drop h j)
  have h3 : (a.drop j).length ≤ 1 := by rw [List.length_drop]; omega
  have h4 := P_le h3
  rw [P_one] at h4
  omega
set_option maxHeartbeats 4000000 in
theorem run84 (l : List Int) (hl : U32 l) (hll : l.length ≤ 1099511627776) (fuel : Nat) (hf : 1099511627776 < fuel) (c : Code) (hc : Tryz.f84.body = some c) :
    pureRun ty spN3 keep84 fuel false Tryz.f84.results c [tn l] = some (u64R l) := by
  injection hc with hc
  subst hc
  have e1 := cn_length (tr l)
  have b1 := tr_length l
  have u1 := U32_tr hl
  have v1 := nv_tr l
  have ht := tr_two hl
  refine pure_wc ?_
  refine wsr ?_
  refine xa rfl rfl rfl rfl ?_
  refine xa rfl rfl rfl rfl ?_
  refine X_endS ?_
  try dsimp only [St.put, szA, List.length, Nat.reduceAdd]
  refine wsr ?_
  refine xm rfl rfl rfl rfl ?_
  refine X_op' rfl (A_callV rfl rfl rfl rfl (.cons (V_t rfl) (K_t rfl) .nil) (c112 (by assumption) (by assumption))) ?_
  refine xa rfl rfl rfl rfl ?_
  refine X_endS ?_
  try dsimp only [St.put, szA, List.length, Nat.reduceAdd]
  refine W_seq ?_
  refine wsr ?_
  refine xm rfl rfl rfl rfl ?_
  refine X_op' rfl (A_lenT rfl rfl rfl rfl rfl rfl rfl) ?_
  refine X_op' rfl (A_int rfl rfl rfl ⟨by decide, by decide⟩ rfl) ?_
  refine X_endS ?_
  try dsimp only [St.put, szA, List.length, Nat.reduceAdd]
  refine W_condB rfl (fun hb1 => ?_) (fun hb1 => ?_)
  ·have khb1 := hb1; (try simp only [kb] at khb1)
   refine wsr ?_
   refine xa rfl rfl rfl rfl ?_
   refine xa rfl rfl rfl rfl ?_
   refine X_endS ?_
   try dsimp only [St.put, szA, List.length, Nat.reduceAdd]
   refine W_ret ?_
   refine Q_seqX ?_
   have hr : u64R l = .ts [.v (.int .u64 0), .v (.bool false)] := if_neg (by omega)
   rw [hr]
   exact end_R rfl (.t rfl (.t rfl .nil))
  ·have khb1 := hb1; (try simp only [kb] at khb1)
   refine W_skip ?_
   refine Q_seq ?_
   refine wsr ?_
   refine xa rfl rfl rfl rfl ?_
   refine X_endS ?_
   try dsimp only [St.put, szA, List.length, Nat.reduceAdd]
   refine W_seq ?_
   refine wsr ?_
   refine xm rfl rfl rfl rfl ?_
   refine X_op' rfl (A_lenT rfl rfl rfl rfl rfl rfl rfl) ?_
   refine X_op' rfl (A_int rfl rfl rfl ⟨by decide, by decide⟩ (subI (by omega))) ?_
   refine xa rfl rfl rfl rfl ?_
   refine X_endS ?_
   try dsimp only [St.put, szA, List.length, Nat.reduceAdd]
   refine W_blk ?_
   refine W_loop (fun n σ => ∃ j : Nat, j ≤ (tr l).length ∧ σ = st84 (tr l) (nv ((tr l).drop j)) ((j : Int) - 1) ∧ n = j) ((tr l).length) ?_ ⟨(tr l).length, Nat.le_refl _, Eq.trans (b := st84 (tr l) 0 (((cn (tr l)).length : Int) - 1)) (by kernel_rfl) (by rw [List.drop_length, nv_nil, e1]), rfl⟩ (by omega)
   rintro n _ ⟨j, hj, rfl, hn⟩
   have ha := U32_getD u1 (((j : Int) - 1)).toNat
   refine W_seq ?_
   refine wsr ?_
   refine xm rfl rfl rfl rfl ?_
   refine X_op' rfl (A_int rfl rfl rfl ⟨by decide, by decide⟩ rfl) ?_
   refine X_endS ?_
   try dsimp only [St.put, szA, List.length, Nat.reduceAdd]
   refine W_condB rfl (fun hb2 => ?_) (fun hb2 => ?_)
   ·have khb2 := hb2; (try simp only [kb] at khb2)
    refine W_skip ?_
    refine Q_seq ?_
    refine W_seq ?_
    refine W_blk ?_
    refine W_reg ?_
    refine xm rfl rfl rfl rfl ?_
    refine X_op' rfl (A_sh rfl rfl rfl (shl32 (drop_small u1 j (by omega) (by omega)))) ?_
    refine xm rfl rfl rfl rfl ?_
    refine xm rfl rfl rfl rfl ?_
    refine X_op' rfl (A_ixA 0 rfl rfl rfl rfl rfl rfl rfl (by omega) (by omega) rfl rfl) ?_
    refine X_op' rfl (A_ld rfl rfl rfl (ld_ip1 rfl rfl rfl)) ?_
    refine X_op' rfl (A_conv rfl rfl rfl rfl rfl (wU (by omega) (by omega))) ?_
    refine X_op' rfl (A_int rfl rfl rfl ⟨by decide, by decide⟩ (or32 (drop_small u1 j (by omega) (by omega)) ha)) ?_
    refine xa rfl rfl rfl rfl ?_
    refine X_end ?_
    try dsimp only [St.put, szA, List.length, Nat.reduceAdd]
    refine Q_blkN ?_
    refine Q_seq ?_
    refine W_reg ?_
    refine xm rfl rfl rfl rfl ?_
    refine X_op' rfl (A_int rfl rfl rfl ⟨by decide, by decide⟩ (subI (by omega))) ?_
    refine xa rfl rfl rfl rfl ?_
    refine X_end ?_
    try dsimp only [St.put, szA, List.length, Nat.reduceAdd]
    have ej : ((j : Int) - 1).toNat = j - 1 := by omega
    have hv : (nv ((tr l).drop j) * 4294967296 + (tr l).getD ((j : Int) - 1).toNat 0) = nv ((tr l).drop (j - 1)) := by
      rw [ej, nv_drop_succ _ (j - 1) (by omega), show j - 1 + 1 = j by omega]; omega
    refine ⟨j - 1, by omega, j - 1, by omega, Eq.trans (b := st84 (tr l) (nv ((tr l).drop j) * 4294967296 + (tr l).getD ((j : Int) - 1).toNat 0) ((j : Int) - 1 - 1)) (by kernel_rfl) (by rw [hv, show (j : Int) - 1 - 1 = ((j - 1 : Nat) : Int) - 1 by omega]), rfl⟩
   ·have khb2 := hb2; (try simp only [kb] at khb2)
    refine W_exit ?_
    refine Q_seqX ?_
    refine Q_rndX ?_
    refine Q_blkE ?_
    refine Q_seq ?_
    refine wsr ?_
    refine xm rfl rfl rfl rfl ?_
    refine xa rfl rfl rfl rfl ?_
    refine xa rfl rfl rfl rfl ?_
    refine X_endS ?_
    try dsimp only [St.put, szA, List.length, Nat.reduceAdd]
    refine W_ret ?_
    have hj0 : j = 0 := by omega
    subst hj0
    have hr : u64R l = .ts [.v (.int .u64 (nv l)), .v (.bool true)] := if_pos (by omega)
    rw [hr, ← v1]
    exact end_R rfl (.t rfl (.t rfl .nil))
def g84 : List T → Option Ret := g1 fun l => some (u64R l)
theorem ok84 {sp : Nat → Option Spec} (hS : ∀ f s, sp f = some s → SpecOk Tryz.prog f s) (hr : ∀ ts r, g84 ts = some r → ts.length = 1 ∧ pureRun ty sp keep84 4398046511104 false Tryz.f84.results (Tryz.f84.body.getD .skip) ts = some r) : SpecOk Tryz.prog 84 (viewSpec g84) := by
  refine SpecOk.view (pure_ok mixed ty_ok hS Tryz.func84 rfl (by kernel_rfl) (enters_of Tryz.func84 (by kernel_rfl) rfl) keep84 (fun _ => 4398046511104) false 1 (by decide)) fun ts r h => ?_
  rw [if_pos (hr ts r h).1]
  exact (hr ts r h).2
theorem c84 {l : List Int} (h : U32 l) (hl : l.length ≤ 1099511627776) : g84 [tn l] = some (u64R l) := g1_eq h hl
theorem s84 : SpecOk Tryz.prog 84 (viewSpec g84) := ok84 hN3 fun ts r h => by
  obtain ⟨l, rfl, h1, h2, h3⟩ := g1_some h
  exact ⟨rfl, (run84 l h1 h2 _ (by omega) _ rfl).trans h3⟩

def u32? : T → Option Int
  | .v (.int .u32 x) => if 0 ≤ x ∧ x < 4294967296 then some x else none
  | _ => none
theorem u32_some {t : T} {x : Int} (h : u32? t = some x) : t = .v (.int .u32 x) ∧ 0 ≤ x ∧ x < 4294967296 := by
  unfold u32? at h
  split at h
  · split at h
    · simp only [Option.some.injEq] at h; subst h; exact ⟨rfl, by omega, by omega⟩
    · cases h
  · cases h
def keep146 : Nat → List Nat := fun _ => [0, 1, 6, 7, 8]
def st146 (l z : List Int) (d r j : Int) : St := { tm := [(0, .t (tn l)), (1, .t (.v (.int .u32 d))), (6, .ms 0 1 0 (cn l).length), (7, .t (.v (.int .u64 r))), (8, .t (.v (.int .i64 j)))], mm := [(0, some ⟨61, 1, cn z⟩)], nx := 1 }
set_option maxHeartbeats 4000000 in
theorem run146 (l : List Int) (hl : U32 l) (hll : l.length ≤ 1099511627776) (d : Int) (hd0 : 0 < d) (hd1 : d < 4294967296) (fuel : Nat) (hf : 1099511627776 < fuel) (c : Code) (hc : Tryz.f146.body = some c) :
    pureRun ty spN3 keep146 fuel false Tryz.f146.results c [tn l, .v (.int .u32 d)] = some (.ts [tn (en (nv l / d)), .v (.int .u32 (nv l % d))]) := by
  injection hc with hc
  subst hc
  have e1 := cn_length l
  refine pure_wc ?_
  refine wsr ?_
  refine X_op' rfl (A_mv0 (.inr rfl) rfl rfl rfl rfl) ?_
  refine xa rfl rfl rfl rfl ?_
  refine X_endS ?_
  try dsimp only [St.put, szA, List.length, Nat.reduceAdd]
  refine wsr ?_
  refine xm rfl rfl rfl rfl ?_
  refine X_op' rfl (A_lenT rfl rfl rfl rfl rfl rfl rfl) ?_
  refine X_op' rfl (A_make (j := (cn l).length) rfl rfl rfl rfl rfl rfl (by omega) (by first | omega | (simp only [intE, slE, boolE, integerE, rationalE]; omega)) (by omega)) ?_
  refine X_op' rfl (A_mvM (.inr rfl) rfl) ?_
  refine X_endS ?_
  try dsimp only [St.put, szA, List.length, Nat.reduceAdd]
  refine wsr ?_
  refine xa rfl rfl rfl rfl ?_
  refine X_endS ?_
  try dsimp only [St.put, szA, List.length, Nat.reduceAdd]
  refine W_seq ?_
  refine wsr ?_
  refine xm rfl rfl rfl rfl ?_
  refine X_op' rfl (A_lenT rfl rfl rfl rfl rfl rfl rfl) ?_
  refine X_op' rfl (A_int rfl rfl rfl ⟨by decide, by decide⟩ (subI (by omega))) ?_
  refine xa rfl rfl rfl rfl ?_
  refine X_endS ?_
  try dsimp only [St.put, szA, List.length, Nat.reduceAdd]
  refine W_blk ?_
  refine W_loop (fun n σ => ∃ (j : Nat) (z : List Int) (r : Int), j ≤ l.length ∧ z.length = l.length ∧ U32 z ∧ 0 ≤ r ∧ r < d ∧ nv (l.drop j) = d * nv (z.drop j) + r ∧ σ = st146 l z d r ((j : Int) - 1) ∧ n = j) (l.length) ?_ ⟨l.length, List.replicate (cn l).length 0, 0, Nat.le_refl _, (by rw [List.length_replicate]; exact e1), U32_rep _, Int.le_refl _, hd0, (by rw [List.drop_length, nv_drop_all _ _ (by rw [List.length_replicate]; omega), nv_nil]; simp), Eq.trans (b := st146 l (List.replicate (cn l).length 0) d 0 (((cn l).length : Int) - 1)) (by simp only [st146, cn, List.map_replicate]; rfl) (by rw [e1]), rfl⟩ (by omega)
  rintro n _ ⟨j, z, r, hj, hz, uz, hr0, hr1, hs, rfl, hn⟩
  have ha := U32_getD hl (((j : Int) - 1)).toNat
  have ez := cn_length z
  refine W_seq ?_
  refine wsr ?_
  refine xm rfl rfl rfl rfl ?_
  refine X_op' rfl (A_int rfl rfl rfl ⟨by decide, by decide⟩ rfl) ?_
  refine X_endS ?_
  try dsimp only [St.put, szA, List.length, Nat.reduceAdd]
  refine W_condB rfl (fun hb1 => ?_) (fun hb1 => ?_)
  ·have khb1 := hb1; (try simp only [kb] at khb1)
   refine W_skip ?_
   refine Q_seq ?_
   refine W_seq ?_
   refine W_blk ?_
   refine wsr ?_
   refine xm rfl rfl rfl rfl ?_
   refine X_op' rfl (A_sh rfl rfl rfl (shl32 (by omega))) ?_
   refine xm rfl rfl rfl rfl ?_
   refine xm rfl rfl rfl rfl ?_
   refine X_op' rfl (A_ixA 0 rfl rfl rfl rfl rfl rfl rfl (by omega) (by omega) rfl rfl) ?_
   refine X_op' rfl (A_ld rfl rfl rfl (ld_ip1 rfl rfl rfl)) ?_
   refine X_op' rfl (A_conv rfl rfl rfl rfl rfl (wU (by omega) (by omega))) ?_
   refine X_op' rfl (A_int rfl rfl rfl ⟨by decide, by decide⟩ (or32 (by omega) ha)) ?_
   refine xa rfl rfl rfl rfl ?_
   refine X_endS ?_
   try dsimp only [St.put, szA, List.length, Nat.reduceAdd]
   refine wsr ?_
   refine X_op' rfl (A_mvM (.inl rfl) rfl) ?_
   refine xm rfl rfl rfl rfl ?_
   refine xm rfl rfl rfl rfl ?_
   refine xm rfl rfl rfl rfl ?_
   refine X_op' rfl (A_conv rfl rfl rfl rfl rfl (wU (by omega) (by omega))) ?_
   have hq := div_lt_base hr0 hr1 ha
   refine X_op' rfl (A_int rfl rfl rfl ⟨by decide, by decide⟩ (quoU (by omega) (by omega) (by omega))) ?_
   refine X_op' rfl (A_conv rfl rfl rfl rfl rfl (wSm _)) ?_
   refine X_op' rfl (A_ixO rfl rfl rfl rfl rfl rfl rfl (by omega) (by omega)) ?_
   refine X_op' rfl (A_stR 0 rfl rfl rfl (V_t rfl) (K_t rfl) rfl rfl (by first | omega | (simp only [List.length_set]; omega)) rfl rfl rfl rfl rfl rfl) ?_
   refine X_endS ?_
   try dsimp only [St.put, szA, List.length, Nat.reduceAdd]
   refine W_reg ?_
   have hm0 : 0 ≤ (r * 4294967296 + l.getD ((j : Int) - 1).toNat 0) % d := Int.emod_nonneg _ (by omega)
   have hm1 : (r * 4294967296 + l.getD ((j : Int) - 1).toNat 0) % d < d := Int.emod_lt_of_pos _ (by omega)
   refine xm rfl rfl rfl rfl ?_
   refine xm rfl rfl rfl rfl ?_
   refine X_op' rfl (A_conv rfl rfl rfl rfl rfl (wU (by omega) (by omega))) ?_
   refine X_op' rfl (A_int rfl rfl rfl ⟨by decide, by decide⟩ (remU (by omega) (by omega))) ?_
   refine xa rfl rfl rfl rfl ?_
   refine X_end ?_
   try dsimp only [St.put, szA, List.length, Nat.reduceAdd]
   refine Q_blkN ?_
   refine Q_seq ?_
   refine W_reg ?_
   refine xm rfl rfl rfl rfl ?_
   refine X_op' rfl (A_int rfl rfl rfl ⟨by decide, by decide⟩ (subI (by omega))) ?_
   refine xa rfl rfl rfl rfl ?_
   refine X_end ?_
   try dsimp only [St.put, szA, List.length, Nat.reduceAdd]
   have ej : ((j : Int) - 1).toNat = j - 1 := by omega
   refine ⟨j - 1, by omega, j - 1, z.set (0 + ((j : Int) - 1).toNat) ((r * 4294967296 + l.getD ((j : Int) - 1).toNat 0) / d % 4294967296), (r * 4294967296 + l.getD ((j : Int) - 1).toNat 0) % d, by omega, by rw [List.length_set]; exact hz, U32_set uz _ (by omega) (by omega), hm0, hm1, ?_, Eq.trans (b := st146 l (z.set (0 + ((j : Int) - 1).toNat) ((r * 4294967296 + l.getD ((j : Int) - 1).toNat 0) / d % 4294967296)) d ((r * 4294967296 + l.getD ((j : Int) - 1).toNat 0) % d) ((j : Int) - 1 - 1)) (by kernel_rfl) (by rw [show (j : Int) - 1 - 1 = ((j - 1 : Nat) : Int) - 1 by omega]), rfl⟩
   rw [show (r * 4294967296 + l.getD ((j : Int) - 1).toNat 0) / d % 4294967296 = (r * 4294967296 + l.getD ((j : Int) - 1).toNat 0) / d by omega, Nat.zero_add, ej]
   exact short_step (by omega) (by omega) hz hs rfl rfl
  ·have khb1 := hb1; (try simp only [kb] at khb1)
   refine W_exit ?_
   refine Q_seqX ?_
   refine Q_rndX ?_
   refine Q_blkE ?_
   refine Q_seq ?_
   refine wsr ?_
   refine X_op' rfl (A_mvM (.inl rfl) rfl) ?_
   refine X_op' rfl (A_callV rfl rfl rfl rfl (.cons (V_m rfl rfl rfl (by rw [cn_length, hz]; exact e1.symm)) (K_m rfl) .nil) (c112 uz (by omega))) ?_
   refine xm rfl rfl rfl rfl ?_
   refine X_op' rfl (A_conv rfl rfl rfl rfl rfl (wSm _)) ?_
   refine xa rfl rfl rfl rfl ?_
   refine xa rfl rfl rfl rfl ?_
   refine X_endS ?_
   try dsimp only [St.put, szA, List.length, Nat.reduceAdd]
   refine W_ret ?_
   have hj0 : j = 0 := by omega
   subst hj0
   rw [List.drop_zero, List.drop_zero] at hs
   have k1 : nv l / d = nv z := by
     rw [hs, Int.add_comm, Int.add_mul_ediv_left _ _ (by omega), Int.ediv_eq_zero_of_lt hr0 hr1, Int.zero_add]
   have k2 : nv l % d = r := by
     rw [hs, Int.add_comm, Int.add_mul_emod_self_left, Int.emod_eq_of_lt hr0 hr1]
   rw [k1, k2, ← tr_eq_en uz]
   have k3 : r % 4294967296 = r := by omega
   have hr : (Ret.ts [tn (tr z), .v (.int .u32 r)]) = .ts [tn (tr z), .v (.int .u32 (r % 4294967296))] := by rw [k3]
   rw [hr]
   exact end_R rfl (.t rfl (.t rfl .nil))
def g146 : List T → Option Ret := fun ts => match ts with | [t, u] => (match decN t, u32? u with | some l, some d => if 0 < d then some (.ts [tn (en (nv l / d)), .v (.int .u32 (nv l % d))]) else none | _, _ => none) | _ => none
theorem ok146 {sp : Nat → Option Spec} (hS : ∀ f s, sp f = some s → SpecOk Tryz.prog f s) (hr : ∀ ts r, g146 ts = some r → ts.length = 2 ∧ pureRun ty sp keep146 4398046511104 false Tryz.f146.results (Tryz.f146.body.getD .skip) ts = some r) : SpecOk Tryz.prog 146 (viewSpec g146) := by
  refine SpecOk.view (pure_ok mixed ty_ok hS Tryz.func146 rfl (by kernel_rfl) (enters_of Tryz.func146 (by kernel_rfl) rfl) keep146 (fun _ => 4398046511104) false 2 (by decide)) fun ts r h => ?_
  rw [if_pos (hr ts r h).1]
  exact (hr ts r h).2
theorem c146 {l : List Int} {d : Int} (h : U32 l) (hl : l.length ≤ 1099511627776) (h0 : 0 < d) (h1 : d < 4294967296) : g146 [tn l, .v (.int .u32 d)] = some (.ts [tn (en (nv l / d)), .v (.int .u32 (nv l % d))]) := by
  simp only [g146, decN_tn h hl, u32?, if_pos (And.intro (Int.le_of_lt h0) h1), if_pos h0]
theorem s146 : SpecOk Tryz.prog 146 (viewSpec g146) := ok146 hN3 fun ts r h => by
  unfold g146 at h
  split at h
  · split at h
    · rename_i l d hl hd
      obtain ⟨rfl, h1, h2⟩ := decN_some hl
      obtain ⟨rfl, h3, h4⟩ := u32_some hd
      split at h
      · rename_i h5
        exact ⟨rfl, (run146 l h1 h2 d h5 h4 _ (by omega) _ rfl).trans h⟩
      · cases h
    · cases h
  · cases h

end Go.Ev.S
/- bits.Len32: its meaning. -/
set_option linter.unusedVariables false
namespace Go.Ev.S
open Go Go.Ev Go.Proofs
def g122 : List T → Option Ret
  | [.v (.int .u32 x)] => if 0 ≤ x ∧ x ≤ 4294967295 then some (.ts [.v (.int .i64 (Lib.bitLen x.toNat))]) else none
  | _ => none
theorem s122 : SpecOk Tryz.prog 122 (viewSpec g122) := plain_ok (enters_of Tryz.func122 (by kernel_rfl) rfl) fun ts r h => by
  unfold g122 at h
  split at h
  · rename_i x
    split at h
    · rename_i hx
      simp only [Option.some.injEq] at h
      subst h
      exact ⟨[.int .u32 x], _, rfl, rfl, fun w => len32 x w hx.1 hx.2⟩
    · cases h
  · cases h
theorem c122 {x : Int} (h0 : 0 ≤ x) (h1 : x ≤ 4294967295) : g122 [.v (.int .u32 x)] = some (.ts [.v (.int .i64 (Lib.bitLen x.toNat))]) := by
  simp only [g122, if_pos (And.intro h0 h1)]
end Go.Ev.S
/- Shifts of limb lists. -/
set_option linter.unusedVariables false
namespace Go.Ev.S
open NumA Go Go.Ev
/-- The digits of a number, so many. -/
def dig : Nat → Int → List Int
  | 0, _ => []
  | n + 1, v => v % 4294967296 :: dig n (v / 4294967296)
theorem dig_eq : ∀ (z : List Int), U32 z → z = dig z.length (nv z)
  | [], _ => rfl
  | x :: z, h => by
    obtain ⟨h1, h2⟩ := U32_cons.1 h
    simp only [List.length_cons, dig, nv]
    rw [show (x + 4294967296 * nv z) % 4294967296 = x by omega, show (x + 4294967296 * nv z) / 4294967296 = nv z by omega, ← dig_eq z h2]
theorem dig_length : ∀ (n : Nat) (v : Int), (dig n v).length = n
  | 0, _ => rfl
  | n + 1, v => by simp only [dig, List.length_cons, dig_length n]
theorem dig_U32 : ∀ (n : Nat) (v : Int), U32 (dig n v)
  | 0, _ => U32_nil
  | n + 1, v => U32_cons.2 ⟨⟨by omega, by omega⟩, dig_U32 n _⟩
theorem nv_dig : ∀ (n : Nat) (v : Int), 0 ≤ v → v < P n → nv (dig n v) = v
  | 0, v, h0, h1 => by simp only [dig, nv]; rw [P_zero] at h1; omega
  | n + 1, v, h0, h1 => by
    rw [P_succ] at h1
    simp only [dig, nv]
    rw [nv_dig n (v / 4294967296) (by omega) (by omega)]
    omega
theorem pow_pos' (s : Nat) : (0 : Int) < 2 ^ s := Int.pow_pos (by omega)
theorem pow_split {s : Nat} (hs : s < 32) : (2 : Int) ^ (32 - s) * 2 ^ s = 4294967296 := by
  rw [← Int.pow_add, show 32 - s + s = 32 by omega]; rfl
theorem shl_parts {x : Int} {s : Nat} (hx : 0 ≤ x ∧ x < 4294967296) (hs : s < 32) : (0 ≤ x * 2 ^ s ∧ x * 2 ^ s < 18446744073709551616) ∧ (0 ≤ x * 2 ^ s / 4294967296 ∧ x * 2 ^ s / 4294967296 < 2 ^ s) ∧ ∃ q, 0 ≤ q ∧ x * 2 ^ s % 4294967296 = q * 2 ^ s ∧ q + 1 ≤ 2 ^ (32 - s) := by
  have hp := pow_pos' s
  have hq := pow_pos' (32 - s)
  have hsp := pow_split hs
  have h1 : 0 ≤ x * 2 ^ s := Int.mul_nonneg hx.1 (by omega)
  have h2 : x * 2 ^ s < 4294967296 * 2 ^ s := Int.mul_lt_mul_of_pos_right hx.2 hp
  have h3 : (2 : Int) ^ s ≤ 4294967296 := by
    have : 1 * (2 : Int) ^ s ≤ 2 ^ (32 - s) * 2 ^ s := Int.mul_le_mul_of_nonneg_right (by omega) (by omega)
    omega
  refine ⟨⟨h1, by omega⟩, ⟨Int.ediv_nonneg h1 (by omega), Int.ediv_lt_of_lt_mul (by omega) (by rw [Int.mul_comm ((2 : Int) ^ s) 4294967296]; exact h2)⟩, x % 2 ^ (32 - s), Int.emod_nonneg _ (by omega), ?_, ?_⟩
  · rw [← hsp, Int.mul_comm x, Int.mul_comm (2 ^ (32 - s)), Int.mul_emod_mul_of_pos _ _ hp, Int.mul_comm]
  · have := Int.emod_lt_of_pos x hq
    omega
theorem shl_or {a x : Int} {s : Nat} (hx : 0 ≤ x ∧ x < 4294967296) (hs : s < 32) (ha : 0 ≤ a) (ha2 : a < 2 ^ s) : intBin .or .u32 a (x * 2 ^ s % 4294967296) = some (.int .u32 (a + x * 2 ^ s % 4294967296)) ∧ 0 ≤ a + x * 2 ^ s % 4294967296 ∧ a + x * 2 ^ s % 4294967296 < 4294967296 := by
  obtain ⟨_, _, q, hq0, hq, hq1⟩ := shl_parts hx hs
  have hp := pow_pos' s
  have hsp := pow_split hs
  have hb : q * 2 ^ s + 2 ^ s ≤ 4294967296 := by
    have : (q + 1) * 2 ^ s ≤ 2 ^ (32 - s) * 2 ^ s := Int.mul_le_mul_of_nonneg_right hq1 (by omega)
    rw [hsp, Int.add_mul, Int.one_mul] at this
    exact this
  rw [hq]
  have hq2 : 0 ≤ q * 2 ^ s := Int.mul_nonneg hq0 (by omega)
  refine ⟨?_, by omega, by omega⟩
  obtain ⟨a, rfl⟩ := Int.eq_ofNat_of_zero_le ha
  obtain ⟨q, rfl⟩ := Int.eq_ofNat_of_zero_le hq0
  have e : ((2 : Int) ^ s) = ((2 ^ s : Nat) : Int) := by rw [Int.natCast_pow]; rfl
  rw [e, ← Int.natCast_mul] at hb hq2 ⊢
  rw [e] at ha2
  have ha3 : a < 2 ^ s := by omega
  have hsum : q * 2 ^ s + a < 4294967296 := by omega
  have h2 : (BitVec.ofInt 32 (a : Int) ||| BitVec.ofInt 32 ((q * 2 ^ s : Nat) : Int)).toNat = q * 2 ^ s + a := by
    rw [BitVec.ofInt_natCast, BitVec.ofInt_natCast, BitVec.toNat_or, BitVec.toNat_ofNat, BitVec.toNat_ofNat, Nat.mod_eq_of_lt (by omega), Nat.mod_eq_of_lt (by omega), Nat.or_comm, or_nat _ _ _ ha3]
  simp only [intBin]
  show some (Value.int .u32 (IntKind.u32.wrap ((BitVec.ofInt 32 (a : Int) ||| BitVec.ofInt 32 ((q * 2 ^ s : Nat) : Int)).toNat))) = _
  rw [h2, wS (by omega) (by omega)]
  congr 2
  omega
theorem left_step {l z : List Int} {i : Nat} {c y : Int} (hz : i + 1 < z.length) (h : nv (z.take i) + P i * z.getD i 0 = nv (l.take i) * c) (hy : y = l.getD i 0 * c) :
    nv (((z.set i (z.getD i 0 + y % 4294967296)).set (i + 1) (y / 4294967296)).take (i + 1)) + P (i + 1) * (((z.set i (z.getD i 0 + y % 4294967296)).set (i + 1) (y / 4294967296)).getD (i + 1) 0) = nv (l.take (i + 1)) * c := by
  rw [NumA.getD_set_self _ _ _ (by rw [List.length_set]; exact hz), NumA.take_set_le _ _ _ _ (Nat.le_refl _), nv_take_set z i _ (by omega), nv_take_succ' l, P_succ, Int.add_mul, ← h]
  have e1 : P i * (z.getD i 0 + y % 4294967296) = P i * z.getD i 0 + P i * (y % 4294967296) := Int.mul_add _ _ _
  have e2 : 4294967296 * P i * (y / 4294967296) = P i * (4294967296 * (y / 4294967296)) := by rw [Int.mul_comm 4294967296, Int.mul_assoc]
  have e3 : P i * (y % 4294967296) + P i * (4294967296 * (y / 4294967296)) = P i * y := by rw [← Int.mul_add, Int.emod_add_mul_ediv]
  have e4 : P i * l.getD i 0 * c = P i * y := by rw [hy, Int.mul_assoc]
  omega
end Go.Ev.S
namespace Go.Ev.S
open NumA Go Go.Ev
theorem right_digit {l : List Int} {i s : Nat} (hl : U32 l) (hs : s < 32) (hi : i < l.length) : ((l.getD i 0 + l.getD (i + 1) 0 * 4294967296) / 2 ^ s) % 4294967296 = (nv (l.drop i) / 2 ^ s) % 4294967296 := by
  have hp := pow_pos' s
  have hsp := pow_split hs
  have h1 : nv (l.drop i) = (l.getD i 0 + l.getD (i + 1) 0 * 4294967296) + 2 ^ s * (2 ^ (32 - s) * 4294967296 * nv (l.drop (i + 2))) := by
    have e : (2 : Int) ^ s * (2 ^ (32 - s) * 4294967296 * nv (l.drop (i + 2))) = 4294967296 * (4294967296 * nv (l.drop (i + 2))) := by
      rw [← Int.mul_assoc, ← Int.mul_assoc, Int.mul_comm (2 ^ s), hsp, Int.mul_assoc]
    rw [e, nv_drop_succ l i hi]
    rcases Nat.lt_or_ge (i + 1) l.length with h | h
    · have h5 := nv_drop_succ l (i + 1) h
      rw [show i + 1 + 1 = i + 2 from rfl] at h5
      omega
    · rw [nv_drop_all l (i + 1) h, nv_drop_all l (i + 2) (by omega), getD_ge l (i + 1) h]; omega
  rw [h1, Int.add_mul_ediv_left _ _ (by omega), Int.mul_comm (2 ^ (32 - s)) 4294967296, Int.mul_assoc, Int.add_mul_emod_self_left]
theorem right_step {l z : List Int} {i s : Nat} {T v : Int} (hl : U32 l) (hs : s < 32) (hi : i < l.length) (hz : z.length = l.length) (h : nv (z.take i) + P i * (nv (l.drop i) / 2 ^ s) = T) (hv : v = (nv (l.drop i) / 2 ^ s) % 4294967296) :
    nv ((z.set i v).take (i + 1)) + P (i + 1) * (nv (l.drop (i + 1)) / 2 ^ s) = T := by
  have hp := pow_pos' s
  rw [nv_take_set z i _ (by omega), P_succ]
  have e1 : nv (l.drop i) / 2 ^ s / 4294967296 = nv (l.drop (i + 1)) / 2 ^ s := by
    rw [Int.ediv_ediv_of_nonneg (by omega), Int.mul_comm, ← Int.ediv_ediv_of_nonneg (by omega), nv_drop_succ l i hi]
    congr 1
    have := U32_getD hl i
    omega
  have e2 := Int.emod_add_mul_ediv (nv (l.drop i) / 2 ^ s) 4294967296
  rw [e1, ← hv] at e2
  have e3 : 4294967296 * P i * (nv (l.drop (i + 1)) / 2 ^ s) = P i * (4294967296 * (nv (l.drop (i + 1)) / 2 ^ s)) := by rw [Int.mul_comm 4294967296, Int.mul_assoc]
  rw [e3, ← h, ← e2, Int.mul_add]
  omega
end Go.Ev.S
namespace Go.Ev.S
open NumA Go Go.Ev
theorem win_get (H w Tl : List Int) (i : Nat) (hi : i < w.length) : (H ++ w ++ Tl).getD (H.length + i) 0 = w.getD i 0 := by
  simp only [List.getD_eq_getElem?_getD]
  rw [List.append_assoc, List.getElem?_append_right (by omega), Nat.add_sub_cancel_left, List.getElem?_append_left hi]
theorem win_set (H w Tl : List Int) (i : Nat) (hi : i < w.length) (x : Int) : (H ++ w ++ Tl).set (H.length + i) x = H ++ w.set i x ++ Tl := by
  rw [List.append_assoc, List.set_append_right _ _ (by omega), Nat.add_sub_cancel_left, List.set_append_left _ _ hi, List.append_assoc]
theorem win_len (H w Tl : List Int) : (H ++ w ++ Tl).length = H.length + w.length + Tl.length := by simp only [List.length_append]
theorem sm_step {w w0 v : List Int} {i : Nat} {q c b x d p t : Int} (hw : i < w.length) (h : nv (w.take i) - P i * (c + b) = nv (w0.take i) - q * nv (v.take i)) (hx : x = w.getD i 0) (hx0 : w0.getD i 0 = x) (hd : d = v.getD i 0) (hp : p = q * d + c) (hxr : 0 ≤ x ∧ x < 4294967296) (hb : b = 0 ∨ b = 1)
    (ht : t = ((x - p % 4294967296) % 18446744073709551616 - b) % 18446744073709551616) :
    nv ((w.set i (t % 4294967296)).take (i + 1)) - P (i + 1) * (p / 4294967296 + t / 9223372036854775808) = nv (w0.take (i + 1)) - q * nv (v.take (i + 1)) ∧ (t / 9223372036854775808 = 0 ∨ t / 9223372036854775808 = 1) := by
  have hu : t % 4294967296 = x - p % 4294967296 - b + 4294967296 * (t / 9223372036854775808) := by omega
  refine ⟨?_, by omega⟩
  rw [nv_take_set w i _ hw, nv_take_succ' w0, nv_take_succ' v, P_succ, hx0, ← hd, Int.mul_add q]
  have e1 : P i * (t % 4294967296) = P i * x - P i * (p % 4294967296) - P i * b + 4294967296 * P i * (t / 9223372036854775808) := by
    rw [hu, Int.mul_add, Int.mul_sub, Int.mul_sub, ← Int.mul_assoc, Int.mul_comm (P i) 4294967296]
  have e2 : P i * (p % 4294967296) + 4294967296 * P i * (p / 4294967296) = P i * p := by
    rw [Int.mul_comm 4294967296 (P i), Int.mul_assoc, ← Int.mul_add, Int.emod_add_mul_ediv]
  have e3 : P i * p = q * (P i * d) + P i * c := by
    rw [hp, Int.mul_add, ← Int.mul_assoc, ← Int.mul_assoc, Int.mul_comm (P i) q]
  have e4 : 4294967296 * P i * (p / 4294967296 + t / 9223372036854775808) = 4294967296 * P i * (p / 4294967296) + 4294967296 * P i * (t / 9223372036854775808) := Int.mul_add _ _ _
  have e5 : P i * (c + b) = P i * c + P i * b := Int.mul_add _ _ _
  omega
end Go.Ev.S
namespace Go.Ev.S
open NumA Go Go.Ev
theorem sm_end {w w0 v : List Int} {n : Nat} {q c b t : Int} (hw : w.length = n + 1) (hw0 : w0.length = n + 1) (uw : U32 w) (h : nv (w.take n) - P n * (c + b) = nv (w0.take n) - q * nv (v.take n)) (hx0 : w0.getD n 0 = w.getD n 0) (hc : 0 ≤ c ∧ c < 4294967296) (hb : b = 0 ∨ b = 1)
    (ht : t = ((w.getD n 0 - c) % 18446744073709551616 - b) % 18446744073709551616) :
    w.set n (t % 4294967296) = dig (n + 1) ((nv w0 - q * nv (v.take n)) % P (n + 1)) ∧ (t / 9223372036854775808 != 0) = decide (nv w0 < q * nv (v.take n)) := by
  have hxr := U32_getD uw n
  have hu : t % 4294967296 = w.getD n 0 - c - b + 4294967296 * (t / 9223372036854775808) := by omega
  have hb2 : t / 9223372036854775808 = 0 ∨ t / 9223372036854775808 = 1 := by omega
  have U : U32 (w.set n (t % 4294967296)) := U32_set uw _ (by omega) (by omega)
  have e0 := set_last (z := w) (n := n) (c := t % 4294967296) hw
  have e1 := nv_take_succ' w0 n
  rw [List.take_of_length_le (by omega), hx0] at e1
  have e2 : P n * (t % 4294967296) = P n * w.getD n 0 - P n * c - P n * b + 4294967296 * P n * (t / 9223372036854775808) := by
    rw [hu, Int.mul_add, Int.mul_sub, Int.mul_sub, ← Int.mul_assoc, Int.mul_comm (P n) 4294967296]
  have e3 : P n * (c + b) = P n * c + P n * b := Int.mul_add _ _ _
  have hP := P_succ n
  have hval : nv (w.set n (t % 4294967296)) = nv w0 - q * nv (v.take n) + P (n + 1) * (t / 9223372036854775808) := by
    rw [hP]; omega
  have l1 := nv_nonneg U
  have l2 := nv_lt U
  rw [List.length_set, hw] at l2
  have hPp := P_pos (n + 1)
  constructor
  · have key : (nv w0 - q * nv (v.take n)) % P (n + 1) = nv (w.set n (t % 4294967296)) := by
      rw [← Int.emod_eq_of_lt l1 l2, hval, Int.add_mul_emod_self_left]
    rw [key]
    have := dig_eq _ U
    rw [List.length_set, hw] at this
    exact this
  · rcases hb2 with h0 | h0
    · rw [h0, Int.mul_zero, Int.add_zero] at hval
      rw [h0, decide_eq_false (by omega)]; rfl
    · rw [h0, Int.mul_one] at hval
      rw [h0, decide_eq_true (by omega)]; rfl
theorem take_win {v : List Int} {n : Nat} : (v.take n).take n = v.take n := by rw [List.take_take, Nat.min_self]
end Go.Ev.S
namespace Go.Ev.S
open NumA Go Go.Ev
theorem rs_step {w w0 v : List Int} {i : Nat} {c s : Int} (hw : i < w.length) (h : nv (w.take i) + P i * c = nv (w0.take i) + nv (v.take i)) (hx0 : w0.getD i 0 = w.getD i 0) (hs : s = w.getD i 0 + v.getD i 0 + c) :
    nv ((w.set i (s % 4294967296)).take (i + 1)) + P (i + 1) * (s / 4294967296) = nv (w0.take (i + 1)) + nv (v.take (i + 1)) := by
  exact add_step hw h (by rw [hs, hx0])
theorem rs_end {w w0 v : List Int} {n : Nat} {c : Int} (hw : w.length = n + 1) (hw0 : w0.length = n + 1) (uw : U32 w) (h : nv (w.take n) + P n * c = nv (w0.take n) + nv (v.take n)) (hx0 : w0.getD n 0 = w.getD n 0) (hc : 0 ≤ c ∧ c < 4294967296) :
    w.set n ((w.getD n 0 + c) % 4294967296) = dig (n + 1) ((nv w0 + nv (v.take n)) % P (n + 1)) := by
  have hxr := U32_getD uw n
  have U : U32 (w.set n ((w.getD n 0 + c) % 4294967296)) := U32_set uw _ (by omega) (by omega)
  have e0 := set_last (z := w) (n := n) (c := (w.getD n 0 + c) % 4294967296) hw
  have e1 := nv_take_succ' w0 n
  rw [List.take_of_length_le (by omega), hx0] at e1
  have hP := P_succ n
  have d := Int.emod_add_mul_ediv (w.getD n 0 + c) 4294967296
  have e2 : P n * ((w.getD n 0 + c) % 4294967296) + P n * (4294967296 * ((w.getD n 0 + c) / 4294967296)) = P n * w.getD n 0 + P n * c := by
    rw [← Int.mul_add, d, Int.mul_add]
  have e3 : P n * (4294967296 * ((w.getD n 0 + c) / 4294967296)) = P (n + 1) * ((w.getD n 0 + c) / 4294967296) := by
    rw [hP, ← Int.mul_assoc, Int.mul_comm (P n) 4294967296]
  have hval : nv w0 + nv (v.take n) = nv (w.set n ((w.getD n 0 + c) % 4294967296)) + P (n + 1) * ((w.getD n 0 + c) / 4294967296) := by omega
  have l1 := nv_nonneg U
  have l2 := nv_lt U
  rw [List.length_set, hw] at l2
  have key : (nv w0 + nv (v.take n)) % P (n + 1) = nv (w.set n ((w.getD n 0 + c) % 4294967296)) := by
    rw [hval, Int.add_mul_emod_self_left, Int.emod_eq_of_lt l1 l2]
  rw [key]
  have := dig_eq _ U
  rw [List.length_set, hw] at this
  exact this
end Go.Ev.S
namespace NumK
set_option linter.unusedVariables false
/-! The estimate of a quotient's digit: V = (v1*B + v2)*H + vl, U = ((u0*B + u1)*B + u2)*H + ul. -/
theorem guess_init {H v1 v2 vl num u2 ul g r : Int} (hH : 0 < H) (hv2 : 0 ≤ v2) (hvl : 0 ≤ vl) (hu2 : u2 < 4294967296) (hul : ul < H) (hg : 0 ≤ g) (hr : r < v1) (he : g * v1 + r = num) :
    (num * 4294967296 + u2) * H + ul < (g + 1) * ((v1 * 4294967296 + v2) * H + vl) := by
  have h1 : num + 1 ≤ (g + 1) * v1 := by grind
  have h2 : (num * 4294967296 + u2 + 1) * H ≤ ((g + 1) * v1 * 4294967296) * H := Int.mul_le_mul_of_nonneg_right (by omega) (by omega)
  have h3 : 0 ≤ (g + 1) * v2 * H := Int.mul_nonneg (Int.mul_nonneg (by omega) hv2) (by omega)
  have h4 : 0 ≤ (g + 1) * vl := Int.mul_nonneg (by omega) hvl
  grind
theorem guess_big {V U g : Int} (hV : 0 ≤ V) (h : U < 4294967296 * V) (hg : 4294967296 ≤ g) : U < (g - 1 + 1) * V := by
  have : 4294967296 * V ≤ g * V := Int.mul_le_mul_of_nonneg_right hg hV
  grind
theorem guess_step {H v1 v2 vl num u2 ul g r : Int} (hH : 0 < H) (hvl : 0 ≤ vl) (hul : ul < H) (hg : 0 ≤ g) (he : g * v1 + r = num) (h : r * 4294967296 + u2 < g * v2) :
    (num * 4294967296 + u2) * H + ul < (g - 1 + 1) * ((v1 * 4294967296 + v2) * H + vl) := by
  have h2 : (num * 4294967296 + u2 + 1) * H ≤ (g * (v1 * 4294967296 + v2)) * H := Int.mul_le_mul_of_nonneg_right (by grind) (by omega)
  have h4 : 0 ≤ g * vl := Int.mul_nonneg (by omega) hvl
  grind
theorem guess_exit {H v1 v2 vl num u2 ul g r : Int} (hH : 0 < H) (hvl : vl < H) (hvl0 : 0 ≤ vl) (hul : 0 ≤ ul) (hg : 0 ≤ g) (hgB : g < 4294967296) (hv1 : 1 ≤ v1) (hv2 : 0 ≤ v2) (he : g * v1 + r = num) (h : g * v2 ≤ r * 4294967296 + u2) :
    (g - 1) * ((v1 * 4294967296 + v2) * H + vl) ≤ (num * 4294967296 + u2) * H + ul := by
  have h2 : (g * (v1 * 4294967296 + v2)) * H ≤ (num * 4294967296 + u2) * H := Int.mul_le_mul_of_nonneg_right (by grind) (by omega)
  have h4 : g * vl ≤ g * H := Int.mul_le_mul_of_nonneg_left (by omega) hg
  have h5 : g * H ≤ 4294967296 * H := Int.mul_le_mul_of_nonneg_right (by omega) (by omega)
  have h6 : 4294967296 * H ≤ (v1 * 4294967296 + v2) * H := Int.mul_le_mul_of_nonneg_right (by omega) (by omega)
  grind
/-- Behind the break: the rest is a limb too large, so the other two tests fail. -/
theorem guess_break {v1 v2 num u2 g r : Int} (hg : 0 ≤ g) (hv1 : 1 ≤ v1) (hv2 : v2 < 4294967296) (hv20 : 0 ≤ v2) (hu2 : 0 ≤ u2) (he : g * v1 + r = num) (hn : num < (v1 + 1) * 4294967296) (hr : 4294967296 ≤ r) :
    g < 4294967296 ∧ g * v2 ≤ r * 4294967296 + u2 := by
  have h1 : g * v1 < 4294967296 * v1 := by grind
  have h2 : g < 4294967296 := Int.lt_of_mul_lt_mul_right h1 (by omega)
  refine ⟨h2, ?_⟩
  have h3 : g * v2 ≤ g * 4294967296 := Int.mul_le_mul_of_nonneg_left (by omega) hg
  omega
end NumK
/- The package natural: walks, the long division. -/
set_option linter.unusedVariables false
set_option linter.unusedSimpArgs false
set_option maxRecDepth 100000
namespace Go.Ev.S
open Go Go.Ev Go.Proofs NumA

def keep159 : Nat → List Nat := fun _ => [1, 5, 13, 14, 15]
def st159 (l z : List Int) (s i : Int) : St := { tm := [(1, .t (.v (.int .u64 s))), (5, .ms 0 1 0 ((cn l).length + 1)), (13, .t (tn l)), (14, .t (.v (.int .i64 ((cn l).length : Int)))), (15, .t (.v (.int .i64 i)))], mm := [(0, some ⟨61, 1, cn z⟩)], nx := 1 }
set_option maxHeartbeats 4000000 in
theorem run159 {sp : Nat → Option Spec} (l : List Int) (hl : U32 l) (hll : l.length ≤ 1099511627775) (s : Nat) (hs : s < 32) (fuel : Nat) (hf : 1099511627776 < fuel) (c : Code) (hc : Tryz.f159.body = some c) :
    pureRun ty sp keep159 fuel true Tryz.f159.results c [tn l, .v (.int .u64 (s : Int))] = some (.own 61 1 (cn (dig (l.length + 1) (nv l * 2 ^ s)))) := by
  injection hc with hc
  subst hc
  have e1 := cn_length l
  refine pure_wc ?_
  refine wsr ?_
  refine X_op' rfl (A_mv0 (.inr rfl) rfl rfl rfl rfl) ?_
  refine X_endS ?_
  try dsimp only [St.put, szA, List.length, Nat.reduceAdd]
  refine wsr ?_
  refine xm rfl rfl rfl rfl ?_
  refine X_op' rfl (A_lenT rfl rfl rfl rfl rfl rfl rfl) ?_
  refine X_op' rfl (A_int rfl rfl rfl ⟨by decide, by decide⟩ (addI (by omega))) ?_
  refine X_op' rfl (A_make (j := (cn l).length + 1) rfl rfl rfl rfl rfl rfl (by omega) (by first | omega | (simp only [intE, slE, boolE, integerE, rationalE]; omega)) (by omega)) ?_
  refine X_op' rfl (A_mvM (.inr rfl) rfl) ?_
  refine X_endS ?_
  try dsimp only [St.put, szA, List.length, Nat.reduceAdd]
  refine W_seq ?_
  refine wsr ?_
  refine xm rfl rfl rfl rfl ?_
  refine X_op' rfl (A_lenT rfl rfl rfl rfl rfl rfl rfl) ?_
  refine xm rfl rfl rfl rfl ?_
  refine X_endS ?_
  try dsimp only [St.put, szA, List.length, Nat.reduceAdd]
  refine W_blk ?_
  refine W_loop (fun n σ => ∃ (i : Nat) (z : List Int), i ≤ l.length ∧ z.length = l.length + 1 ∧ U32 z ∧ nv (z.take i) + P i * z.getD i 0 = nv (l.take i) * 2 ^ s ∧ 0 ≤ z.getD i 0 ∧ z.getD i 0 < 2 ^ s ∧ σ = st159 l z s i ∧ n = l.length - i) (l.length) ?_ ⟨0, List.replicate ((cn l).length + 1) 0, Nat.zero_le _, (by rw [List.length_replicate, e1]), U32_rep _, (by simp [nv_nil, nv]), (by simp), (by simp; exact pow_pos' s), (by simp only [st159, cn, List.map_replicate]; rfl), rfl⟩ (by omega)
  rintro n _ ⟨i, z, hi, hz, uz, hs2, hz0', hz1', rfl, hn⟩
  have ha := U32_getD hl ((i : Int)).toNat
  have ei : ((i : Int)).toNat = i := by omega
  have ez := cn_length z
  have hz0 : 0 ≤ z.getD (0 + ((i : Int)).toNat) 0 := by rw [ei, Nat.zero_add]; exact hz0'
  have hz1 : z.getD (0 + ((i : Int)).toNat) 0 < 2 ^ s := by rw [ei, Nat.zero_add]; exact hz1'
  obtain ⟨hy, hp2, _⟩ := shl_parts ha hs
  refine wsr ?_
  refine X_op' rfl (A_int rfl rfl rfl ⟨by decide, by decide⟩ rfl) ?_
  refine X_endS ?_
  try dsimp only [St.put, szA, List.length, Nat.reduceAdd]
  refine W_seq ?_
  refine W_condB rfl (fun hb1 => ?_) (fun hb1 => ?_)
  ·have khb1 := hb1; (try simp only [kb] at khb1)
   refine W_skip ?_
   refine Q_seq ?_
   refine W_seq ?_
   refine W_blk ?_
   refine wsr ?_
   refine xm rfl rfl rfl rfl ?_
   refine X_op' rfl (A_ixA 0 rfl rfl rfl rfl rfl rfl rfl (by omega) (by omega) rfl rfl) ?_
   refine X_op' rfl (A_ld rfl rfl rfl (ld_ip1 rfl rfl rfl)) ?_
   refine xa rfl rfl rfl rfl ?_
   refine xa rfl rfl rfl rfl ?_
   refine X_endS ?_
   try dsimp only [St.put, szA, List.length, Nat.reduceAdd]
   refine wsr ?_
   refine xm rfl rfl rfl rfl ?_
   refine X_op' rfl (A_conv rfl rfl rfl rfl rfl (wU (by omega) (by omega))) ?_
   refine xm rfl rfl rfl rfl ?_
   refine X_op' rfl (A_sh rfl rfl rfl (shlU (by omega) hy)) ?_
   refine xa rfl rfl rfl rfl ?_
   refine X_endS ?_
   try dsimp only [St.put, szA, List.length, Nat.reduceAdd]
   refine wsr ?_
   refine X_op' rfl (A_mvM (.inl rfl) rfl) ?_
   refine xm rfl rfl rfl rfl ?_
   refine X_op' rfl (A_ixO rfl rfl rfl rfl rfl rfl rfl (by omega) (by omega)) ?_
   refine X_op' rfl (A_ld rfl rfl rfl (ld_row 0 rfl (by first | omega | (simp only [List.length_set]; omega)) rfl rfl rfl)) ?_
   refine xm rfl rfl rfl rfl ?_
   refine X_op' rfl (A_conv rfl rfl rfl rfl rfl (wSm _)) ?_
   refine X_op' rfl (A_int rfl rfl rfl ⟨by decide, by decide⟩ (shl_or ha hs hz0 hz1).1) ?_
   refine X_op' rfl (A_ixO rfl rfl rfl rfl rfl rfl rfl (by omega) (by omega)) ?_
   refine X_op' rfl (A_stR 0 rfl rfl rfl (V_t rfl) (K_t rfl) rfl rfl (by first | omega | (simp only [List.length_set]; omega)) rfl rfl rfl rfl rfl rfl) ?_
   refine X_endS ?_
   try dsimp only [St.put, szA, List.length, Nat.reduceAdd]
   refine W_reg ?_
   refine X_op' rfl (A_mvM (.inl rfl) rfl) ?_
   refine xm rfl rfl rfl rfl ?_
   refine X_op' rfl (A_int rfl rfl rfl ⟨by decide, by decide⟩ (addI (by omega))) ?_
   refine xm rfl rfl rfl rfl ?_
   refine X_op' rfl (A_sh rfl rfl rfl shr32) ?_
   refine X_op' rfl (A_conv rfl rfl rfl rfl rfl (wSm _)) ?_
   refine X_op' rfl (A_ixO rfl rfl rfl rfl rfl rfl rfl (by omega) (by omega)) ?_
   refine X_op' rfl (A_stR 0 rfl rfl rfl (V_t rfl) (K_t rfl) rfl rfl (by first | omega | (simp only [List.length_set]; omega)) rfl rfl rfl rfl rfl rfl) ?_
   refine X_end ?_
   try dsimp only [St.put, szA, List.length, Nat.reduceAdd]
   refine Q_blkN ?_
   refine Q_seq ?_
   refine W_reg ?_
   refine X_op' rfl (A_int rfl rfl rfl ⟨by decide, by decide⟩ (addI (by omega))) ?_
   refine xm rfl rfl rfl rfl ?_
   refine X_end ?_
   try dsimp only [St.put, szA, List.length, Nat.reduceAdd]
   have hor := (shl_or ha hs hz0 hz1).2
   have hlt : (l.getD ((i : Int)).toNat 0 * 2 ^ s) / 4294967296 < 4294967296 := by
     have := hp2.2
     have hp := pow_pos' s
     have h3 : (2 : Int) ^ s ≤ 4294967296 := by
       have hsp := pow_split hs
       have hq := pow_pos' (32 - s)
       have : 1 * (2 : Int) ^ s ≤ 2 ^ (32 - s) * 2 ^ s := Int.mul_le_mul_of_nonneg_right (by omega) (by omega)
       omega
     omega
   refine ⟨l.length - (i + 1), by omega, i + 1, ((z.set (0 + ((i : Int)).toNat) (z.getD (0 + ((i : Int)).toNat) 0 + (l.getD ((i : Int)).toNat 0 * 2 ^ s) % 4294967296)).set (0 + ((i : Int) + 1).toNat) ((l.getD ((i : Int)).toNat 0 * 2 ^ s) / 4294967296 % 4294967296)), by omega, by rw [List.length_set, List.length_set]; exact hz, U32_set (U32_set uz _ hor.1 hor.2) _ (by omega) (by omega), ?_, ?_, ?_, Eq.trans (b := st159 l ((z.set (0 + ((i : Int)).toNat) (z.getD (0 + ((i : Int)).toNat) 0 + (l.getD ((i : Int)).toNat 0 * 2 ^ s) % 4294967296)).set (0 + ((i : Int) + 1).toNat) ((l.getD ((i : Int)).toNat 0 * 2 ^ s) / 4294967296 % 4294967296)) s ((i : Int) + 1)) (by kernel_rfl) rfl, rfl⟩
   · have hst := left_step (l := l) (z := z) (i := i) (c := 2 ^ s) (y := (l.getD ((i : Int)).toNat 0 * 2 ^ s)) (by omega) hs2 (by rw [ei])
     rw [show 0 + ((i : Int)).toNat = i by omega, show 0 + ((i : Int) + 1).toNat = i + 1 by omega, show (l.getD ((i : Int)).toNat 0 * 2 ^ s) / 4294967296 % 4294967296 = (l.getD ((i : Int)).toNat 0 * 2 ^ s) / 4294967296 by omega]
     exact hst
   · rw [show 0 + ((i : Int) + 1).toNat = i + 1 by omega, NumA.getD_set_self _ _ _ (show i + 1 < List.length (z.set (0 + ((i : Int)).toNat) _) by rw [List.length_set]; omega)]; omega
   · rw [show 0 + ((i : Int) + 1).toNat = i + 1 by omega, NumA.getD_set_self _ _ _ (show i + 1 < List.length (z.set (0 + ((i : Int)).toNat) _) by rw [List.length_set]; omega)]; omega
  ·have khb1 := hb1; (try simp only [kb] at khb1)
   refine W_exit ?_
   refine Q_seqX ?_
   refine Q_rndX ?_
   refine Q_blkE ?_
   refine Q_seq ?_
   refine wsr ?_
   refine X_op' rfl (A_mvM (.inl rfl) rfl) ?_
   refine X_op' rfl (A_mvM (.inr rfl) rfl) ?_
   refine X_endS ?_
   try dsimp only [St.put, szA, List.length, Nat.reduceAdd]
   refine W_ret ?_
   have hi2 : i = l.length := by omega
   have hv : nv z = nv l * 2 ^ s := by
     have h9 := nv_take_succ' z l.length
     rw [List.take_of_length_le (by omega)] at h9
     rw [h9, ← hi2, hs2, hi2, List.take_length]
   have key : z = dig (l.length + 1) (nv l * 2 ^ s) := by
     have := dig_eq z uz
     rw [hz, hv] at this
     exact this
   rw [← key]
   exact end_own rfl rfl rfl (by rw [cn_length, hz, e1])
def shs? : T → Option Nat
  | .v (.int .u64 s) => if 0 ≤ s ∧ s < 32 then some s.toNat else none
  | _ => none
theorem shs_some {t : T} {s : Nat} (h : shs? t = some s) : t = .v (.int .u64 (s : Int)) ∧ s < 32 := by
  unfold shs? at h
  split at h
  · split at h
    · simp only [Option.some.injEq] at h; subst h
      exact ⟨by congr 2; omega, by omega⟩
    · cases h
  · cases h
theorem shs_eq {s : Nat} (hs : s < 32) : shs? (.v (.int .u64 (s : Int))) = some s := by
  simp only [shs?]
  rw [if_pos ⟨by omega, by omega⟩, Int.toNat_natCast]
def gls (B : Nat) (f : List Int → Nat → Ret) : List T → Option Ret
  | [t, u] => match decN t, shs? u with
    | some l, some s => if l.length ≤ B then some (f l s) else none
    | _, _ => none
  | _ => none
theorem gls_some {B : Nat} {f : List Int → Nat → Ret} {ts : List T} {r : Ret} (h : gls B f ts = some r) : ∃ l s, ts = [tn l, .v (.int .u64 ((s : Nat) : Int))] ∧ U32 l ∧ l.length ≤ 1099511627776 ∧ s < 32 ∧ l.length ≤ B ∧ r = f l s := by
  unfold gls at h
  split at h
  · split at h
    · rename_i l s hl hs
      obtain ⟨rfl, h1, h2⟩ := decN_some hl
      obtain ⟨rfl, h3⟩ := shs_some hs
      split at h
      · simp only [Option.some.injEq] at h
        exact ⟨l, s, rfl, h1, h2, h3, ‹_›, h.symm⟩
      · cases h
    · cases h
  · cases h
theorem gls_eq {B : Nat} {f : List Int → Nat → Ret} {l : List Int} {s : Nat} (h : U32 l) (h1 : l.length ≤ 1099511627776) (h2 : l.length ≤ B) (hs : s < 32) : gls B f [tn l, .v (.int .u64 (s : Int))] = some (f l s) := by
  simp only [gls, decN_tn h h1, shs_eq hs, if_pos h2]

def g159 : List T → Option Ret := gls 1099511627775 fun l s => .own 61 1 (cn (dig (l.length + 1) (nv l * 2 ^ s)))
theorem ok159 {sp : Nat → Option Spec} (hS : ∀ f s, sp f = some s → SpecOk Tryz.prog f s) (hr : ∀ ts r, g159 ts = some r → ts.length = 2 ∧ pureRun ty sp keep159 4398046511104 true Tryz.f159.results (Tryz.f159.body.getD .skip) ts = some r) : SpecOk Tryz.prog 159 (viewSpec g159) := by
  refine SpecOk.view (pure_ok mixed ty_ok hS Tryz.func159 rfl (by kernel_rfl) (enters_of Tryz.func159 (by kernel_rfl) rfl) keep159 (fun _ => 4398046511104) true 2 (by decide)) fun ts r h => ?_
  rw [if_pos (hr ts r h).1]
  exact (hr ts r h).2
theorem s159 : SpecOk Tryz.prog 159 (viewSpec g159) := ok159 none_ok fun ts r h => by
  obtain ⟨l, s, rfl, h1, h2, h3, h4, rfl⟩ := gls_some h
  exact ⟨rfl, run159 l h1 h4 s h3 _ (by omega) _ rfl⟩
def keep163 : Nat → List Nat := fun _ => [0, 1, 5, 12, 13, 14]
def st163 (l z : List Int) (s i : Int) : St := { tm := [(0, .t (tn l)), (1, .t (.v (.int .u64 s))), (5, .ms 0 1 0 (cn l).length), (12, .t (tn l)), (13, .t (.v (.int .i64 ((cn l).length : Int)))), (14, .t (.v (.int .i64 i)))], mm := [(0, some ⟨61, 1, cn z⟩)], nx := 1 }
theorem or32r {a b : Int} (ha : 0 ≤ a ∧ a < 4294967296) (hb : 0 ≤ b ∧ b < 4294967296) : intBin .or .u64 b (a * 4294967296) = some (.int .u64 (b + a * 4294967296)) := by
  have h := or32 ha hb
  simp only [intBin] at h ⊢
  rw [BitVec.or_comm, h, Int.add_comm]
set_option maxHeartbeats 4000000 in
theorem run163 (l : List Int) (hl : U32 l) (hll : l.length ≤ 1099511627776) (s : Nat) (hs : s < 32) (fuel : Nat) (hf : 1099511627776 < fuel) (c : Code) (hc : Tryz.f163.body = some c) :
    pureRun ty spN3 keep163 fuel false Tryz.f163.results c [tn l, .v (.int .u64 (s : Int))] = some (.ts [tn (en (nv l / 2 ^ s))]) := by
  injection hc with hc
  subst hc
  have e1 := cn_length l
  refine pure_wc ?_
  refine wsr ?_
  refine X_op' rfl (A_mv0 (.inr rfl) rfl rfl rfl rfl) ?_
  refine X_endS ?_
  try dsimp only [St.put, szA, List.length, Nat.reduceAdd]
  refine wsr ?_
  refine xm rfl rfl rfl rfl ?_
  refine X_op' rfl (A_lenT rfl rfl rfl rfl rfl rfl rfl) ?_
  refine X_op' rfl (A_make (j := (cn l).length) rfl rfl rfl rfl rfl rfl (by omega) (by first | omega | (simp only [intE, slE, boolE, integerE, rationalE]; omega)) (by omega)) ?_
  refine X_op' rfl (A_mvM (.inr rfl) rfl) ?_
  refine X_endS ?_
  try dsimp only [St.put, szA, List.length, Nat.reduceAdd]
  refine W_seq ?_
  refine wsr ?_
  refine xm rfl rfl rfl rfl ?_
  refine X_op' rfl (A_lenT rfl rfl rfl rfl rfl rfl rfl) ?_
  refine xm rfl rfl rfl rfl ?_
  refine X_endS ?_
  try dsimp only [St.put, szA, List.length, Nat.reduceAdd]
  refine W_blk ?_
  refine W_loop (fun n σ => ∃ (i : Nat) (z : List Int), i ≤ l.length ∧ z.length = l.length ∧ U32 z ∧ nv (z.take i) + P i * (nv (l.drop i) / 2 ^ s) = nv l / 2 ^ s ∧ σ = st163 l z s i ∧ n = l.length - i) (l.length) ?_ ⟨0, List.replicate (cn l).length 0, Nat.zero_le _, (by rw [List.length_replicate, e1]), U32_rep _, (by rw [List.take_zero, nv_nil, P_zero, List.drop_zero]; omega), (by simp only [st163, cn, List.map_replicate]; rfl), rfl⟩ (by omega)
  rintro n _ ⟨i, z, hi, hz, uz, hs2, rfl, hn⟩
  have ha := U32_getD hl ((i : Int)).toNat
  have hb := U32_getD hl ((i : Int) + 1).toNat
  have ei : ((i : Int)).toNat = i := by omega
  have ez := cn_length z
  refine wsr ?_
  refine X_op' rfl (A_int rfl rfl rfl ⟨by decide, by decide⟩ rfl) ?_
  refine X_endS ?_
  try dsimp only [St.put, szA, List.length, Nat.reduceAdd]
  refine W_seq ?_
  refine W_condB rfl (fun hb1 => ?_) (fun hb1 => ?_)
  ·have khb1 := hb1; (try simp only [kb] at khb1)
   refine W_skip ?_
   refine Q_seq ?_
   refine W_seq ?_
   refine W_blk ?_
   refine wsr ?_
   refine xm rfl rfl rfl rfl ?_
   refine X_op' rfl (A_ixA 0 rfl rfl rfl rfl rfl rfl rfl (by omega) (by omega) rfl rfl) ?_
   refine X_op' rfl (A_ld rfl rfl rfl (ld_ip1 rfl rfl rfl)) ?_
   refine xa rfl rfl rfl rfl ?_
   refine xa rfl rfl rfl rfl ?_
   refine X_endS ?_
   try dsimp only [St.put, szA, List.length, Nat.reduceAdd]
   refine wsr ?_
   refine xm rfl rfl rfl rfl ?_
   refine X_op' rfl (A_conv rfl rfl rfl rfl rfl (wU (by omega) (by omega))) ?_
   refine xa rfl rfl rfl rfl ?_
   refine X_endS ?_
   try dsimp only [St.put, szA, List.length, Nat.reduceAdd]
   refine W_seq ?_
   refine wsr ?_
   refine xm rfl rfl rfl rfl ?_
   refine X_op' rfl (A_int rfl rfl rfl ⟨by decide, by decide⟩ (addI (by omega))) ?_
   refine xm rfl rfl rfl rfl ?_
   refine X_op' rfl (A_lenT rfl rfl rfl rfl rfl rfl rfl) ?_
   refine X_op' rfl (A_int rfl rfl rfl ⟨by decide, by decide⟩ rfl) ?_
   refine X_endS ?_
   try dsimp only [St.put, szA, List.length, Nat.reduceAdd]
   refine W_condB rfl (fun hb2 => ?_) (fun hb2 => ?_)
   ·have khb2 := hb2; (try simp only [kb] at khb2)
    refine W_reg ?_
    refine xm rfl rfl rfl rfl ?_
    refine xm rfl rfl rfl rfl ?_
    refine xm rfl rfl rfl rfl ?_
    refine X_op' rfl (A_int rfl rfl rfl ⟨by decide, by decide⟩ (addI (by omega))) ?_
    refine X_op' rfl (A_ixA 0 rfl rfl rfl rfl rfl rfl rfl (by omega) (by omega) rfl rfl) ?_
    refine X_op' rfl (A_ld rfl rfl rfl (ld_ip1 rfl rfl rfl)) ?_
    refine X_op' rfl (A_conv rfl rfl rfl rfl rfl (wU (by omega) (by omega))) ?_
    refine X_op' rfl (A_sh rfl rfl rfl (shl32 hb)) ?_
    refine X_op' rfl (A_int rfl rfl rfl ⟨by decide, by decide⟩ (or32r hb ha)) ?_
    refine xa rfl rfl rfl rfl ?_
    refine X_endS ?_
    try dsimp only [St.put, szA, List.length, Nat.reduceAdd]
    refine W_reg ?_
    refine X_op' rfl (A_mvM (.inl rfl) rfl) ?_
    refine xm rfl rfl rfl rfl ?_
    refine xm rfl rfl rfl rfl ?_
    refine xm rfl rfl rfl rfl ?_
    refine X_op' rfl (A_sh rfl rfl rfl (shrU (by omega))) ?_
    refine X_op' rfl (A_conv rfl rfl rfl rfl rfl (wSm _)) ?_
    refine X_op' rfl (A_ixO rfl rfl rfl rfl rfl rfl rfl (by omega) (by omega)) ?_
    refine X_op' rfl (A_stR 0 rfl rfl rfl (V_t rfl) (K_t rfl) rfl rfl (by first | omega | (simp only [List.length_set]; omega)) rfl rfl rfl rfl rfl rfl) ?_
    refine X_end ?_
    try dsimp only [St.put, szA, List.length, Nat.reduceAdd]
    refine Q_blkN ?_
    refine Q_seq ?_
    refine W_reg ?_
    refine X_op' rfl (A_int rfl rfl rfl ⟨by decide, by decide⟩ (addI (by omega))) ?_
    refine xm rfl rfl rfl rfl ?_
    refine X_end ?_
    try dsimp only [St.put, szA, List.length, Nat.reduceAdd]
    refine ⟨l.length - (i + 1), by omega, i + 1, z.set (0 + ((i : Int)).toNat) ((l.getD ((i : Int)).toNat 0 + l.getD ((i : Int) + 1).toNat 0 * 4294967296) / 2 ^ s % 4294967296), by omega, by rw [List.length_set]; exact hz, U32_set uz _ (by omega) (by omega), ?_, Eq.trans (b := st163 l (z.set (0 + ((i : Int)).toNat) ((l.getD ((i : Int)).toNat 0 + l.getD ((i : Int) + 1).toNat 0 * 4294967296) / 2 ^ s % 4294967296)) s ((i : Int) + 1)) (by kernel_rfl) rfl, rfl⟩
    rw [show 0 + ((i : Int)).toNat = i by omega]
    refine right_step hl hs (by omega) hz hs2 ?_
    rw [← right_digit hl hs (by omega), ei, show ((i : Int) + 1).toNat = i + 1 by omega]
   ·have khb2 := hb2; (try simp only [kb] at khb2)
    refine W_skip ?_
    refine Q_seq ?_
    refine W_reg ?_
    refine X_op' rfl (A_mvM (.inl rfl) rfl) ?_
    refine xm rfl rfl rfl rfl ?_
    refine xm rfl rfl rfl rfl ?_
    refine xm rfl rfl rfl rfl ?_
    refine X_op' rfl (A_sh rfl rfl rfl (shrU (by omega))) ?_
    refine X_op' rfl (A_conv rfl rfl rfl rfl rfl (wSm _)) ?_
    refine X_op' rfl (A_ixO rfl rfl rfl rfl rfl rfl rfl (by omega) (by omega)) ?_
    refine X_op' rfl (A_stR 0 rfl rfl rfl (V_t rfl) (K_t rfl) rfl rfl (by first | omega | (simp only [List.length_set]; omega)) rfl rfl rfl rfl rfl rfl) ?_
    refine X_end ?_
    try dsimp only [St.put, szA, List.length, Nat.reduceAdd]
    refine Q_blkN ?_
    refine Q_seq ?_
    refine W_reg ?_
    refine X_op' rfl (A_int rfl rfl rfl ⟨by decide, by decide⟩ (addI (by omega))) ?_
    refine xm rfl rfl rfl rfl ?_
    refine X_end ?_
    try dsimp only [St.put, szA, List.length, Nat.reduceAdd]
    refine ⟨l.length - (i + 1), by omega, i + 1, z.set (0 + ((i : Int)).toNat) (l.getD ((i : Int)).toNat 0 / 2 ^ s % 4294967296), by omega, by rw [List.length_set]; exact hz, U32_set uz _ (by omega) (by omega), ?_, Eq.trans (b := st163 l (z.set (0 + ((i : Int)).toNat) (l.getD ((i : Int)).toNat 0 / 2 ^ s % 4294967296)) s ((i : Int) + 1)) (by kernel_rfl) rfl, rfl⟩
    rw [show 0 + ((i : Int)).toNat = i by omega]
    refine right_step hl hs (by omega) hz hs2 ?_
    rw [← right_digit hl hs (by omega), ei, getD_ge l (i + 1) (by omega), Int.zero_mul, Int.add_zero]
  ·have khb1 := hb1; (try simp only [kb] at khb1)
   refine W_exit ?_
   refine Q_seqX ?_
   refine Q_rndX ?_
   refine Q_blkE ?_
   refine Q_seq ?_
   refine wsr ?_
   refine X_op' rfl (A_mvM (.inl rfl) rfl) ?_
   refine X_op' rfl (A_callV rfl rfl rfl rfl (.cons (V_m rfl rfl rfl (by rw [cn_length, hz]; exact e1.symm)) (K_m rfl) .nil) (c112 uz (by omega))) ?_
   refine xa rfl rfl rfl rfl ?_
   refine X_endS ?_
   try dsimp only [St.put, szA, List.length, Nat.reduceAdd]
   refine W_ret ?_
   have hi2 : i = l.length := by omega
   have hv : nv z = nv l / 2 ^ s := by
     rw [hi2, nv_drop_all l _ (Nat.le_refl _), Int.zero_ediv, Int.mul_zero, Int.add_zero, List.take_of_length_le (by omega)] at hs2
     exact hs2
   rw [← hv, ← tr_eq_en uz]
   exact end_R rfl (.t rfl .nil)
def g163 : List T → Option Ret := gls 1099511627776 fun l s => .ts [tn (en (nv l / 2 ^ s))]
theorem ok163 {sp : Nat → Option Spec} (hS : ∀ f s, sp f = some s → SpecOk Tryz.prog f s) (hr : ∀ ts r, g163 ts = some r → ts.length = 2 ∧ pureRun ty sp keep163 4398046511104 false Tryz.f163.results (Tryz.f163.body.getD .skip) ts = some r) : SpecOk Tryz.prog 163 (viewSpec g163) := by
  refine SpecOk.view (pure_ok mixed ty_ok hS Tryz.func163 rfl (by kernel_rfl) (enters_of Tryz.func163 (by kernel_rfl) rfl) keep163 (fun _ => 4398046511104) false 2 (by decide)) fun ts r h => ?_
  rw [if_pos (hr ts r h).1]
  exact (hr ts r h).2
theorem s163 : SpecOk Tryz.prog 163 (viewSpec g163) := ok163 hN3 fun ts r h => by
  obtain ⟨l, s, rfl, h1, h2, h3, h4, rfl⟩ := gls_some h
  exact ⟨rfl, run163 l h1 h4 s h3 _ (by omega) _ rfl⟩

abbrev spN4 : Nat → Option Spec := more 122 (viewSpec g122) spN3
theorem hN4 : ∀ f s, spN4 f = some s → SpecOk Tryz.prog f s := more_ok s122 hN3
theorem bl32 {x : Int} (h0 : 0 ≤ x) (h1 : x < 4294967296) : (Lib.bitLen x.toNat : Int) ≤ 32 := by
  have := Lib.bitLen_le x.toNat 32 (by omega)
  omega
def keep158 : Nat → List Nat := fun _ => []
set_option maxHeartbeats 4000000 in
theorem run158 (x : Int) (h0 : 0 ≤ x) (h1 : x < 4294967296) (fuel : Nat) (c : Code) (hc : Tryz.f158.body = some c) :
    pureRun ty spN4 keep158 fuel false Tryz.f158.results c [.v (.int .u32 x)] = some (.ts [.v (.int .i64 (32 - (Lib.bitLen x.toNat : Int)))]) := by
  injection hc with hc
  subst hc
  have hb := bl32 h0 h1
  refine pure_wc ?_
  refine wsr ?_
  refine xa rfl rfl rfl rfl ?_
  refine X_endS ?_
  try dsimp only [St.put, szA, List.length, Nat.reduceAdd]
  refine wsr ?_
  refine xm rfl rfl rfl rfl ?_
  refine X_op' rfl (A_callV rfl rfl rfl rfl (.cons (V_t rfl) (K_t rfl) .nil) (c122 (by omega) (by omega))) ?_
  refine X_op' rfl (A_int rfl rfl rfl ⟨by decide, by decide⟩ (subI (by omega))) ?_
  refine xa rfl rfl rfl rfl ?_
  refine X_endS ?_
  try dsimp only [St.put, szA, List.length, Nat.reduceAdd]
  refine W_ret ?_
  exact end_R rfl (.t rfl .nil)
def g158 : List T → Option Ret := fun ts => match ts with | [t] => (match u32? t with | some x => some (.ts [.v (.int .i64 (32 - (Lib.bitLen x.toNat : Int)))]) | none => none) | _ => none
theorem ok158 {sp : Nat → Option Spec} (hS : ∀ f s, sp f = some s → SpecOk Tryz.prog f s) (hr : ∀ ts r, g158 ts = some r → ts.length = 1 ∧ pureRun ty sp keep158 4398046511104 false Tryz.f158.results (Tryz.f158.body.getD .skip) ts = some r) : SpecOk Tryz.prog 158 (viewSpec g158) := by
  refine SpecOk.view (pure_ok mixed ty_ok hS Tryz.func158 rfl (by kernel_rfl) (enters_of Tryz.func158 (by kernel_rfl) rfl) keep158 (fun _ => 4398046511104) false 1 (by decide)) fun ts r h => ?_
  rw [if_pos (hr ts r h).1]
  exact (hr ts r h).2
theorem c158 {x : Int} (h0 : 0 ≤ x) (h1 : x < 4294967296) : g158 [.v (.int .u32 x)] = some (.ts [.v (.int .i64 (32 - (Lib.bitLen x.toNat : Int)))]) := by
  simp only [g158, u32?, if_pos (And.intro h0 h1)]
theorem s158 : SpecOk Tryz.prog 158 (viewSpec g158) := ok158 hN4 fun ts r h => by
  unfold g158 at h
  split at h
  · split at h
    · rename_i x hx
      obtain ⟨rfl, h0, h1⟩ := u32_some hx
      exact ⟨rfl, (run158 x h0 h1 _ _ rfl).trans h⟩
    · cases h
  · cases h

def bitsN (l : List Int) : Int := if (tr l).length = 0 then 0 else 32 * (((tr l).length : Int) - 1) + (Lib.bitLen ((tr l).getD ((tr l).length - 1) 0).toNat : Int)
def keep94 : Nat → List Nat := fun _ => []
set_option maxHeartbeats 4000000 in
theorem run94 (l : List Int) (hl : U32 l) (hll : l.length ≤ 1099511627776) (fuel : Nat) (c : Code) (hc : Tryz.f94.body = some c) :
    pureRun ty spN4 keep94 fuel false Tryz.f94.results c [tn l] = some (.ts [.v (.int .i64 (bitsN l))]) := by
  injection hc with hc
  subst hc
  have e1 := cn_length (tr l)
  have b1 := tr_length l
  have u1 := U32_tr hl
  have ha := U32_getD u1 (((cn (tr l)).length : Int) - 1).toNat
  have hb := bl32 ha.1 ha.2
  refine pure_wc ?_
  refine wsr ?_
  refine xa rfl rfl rfl rfl ?_
  refine X_endS ?_
  try dsimp only [St.put, szA, List.length, Nat.reduceAdd]
  refine wsr ?_
  refine xm rfl rfl rfl rfl ?_
  refine X_op' rfl (A_callV rfl rfl rfl rfl (.cons (V_t rfl) (K_t rfl) .nil) (c112 (by assumption) (by assumption))) ?_
  refine xa rfl rfl rfl rfl ?_
  refine X_endS ?_
  try dsimp only [St.put, szA, List.length, Nat.reduceAdd]
  refine W_seq ?_
  refine wsr ?_
  refine xm rfl rfl rfl rfl ?_
  refine X_op' rfl (A_lenT rfl rfl rfl rfl rfl rfl rfl) ?_
  refine X_op' rfl (A_int rfl rfl rfl ⟨by decide, by decide⟩ rfl) ?_
  refine X_endS ?_
  try dsimp only [St.put, szA, List.length, Nat.reduceAdd]
  refine W_condB rfl (fun hb1 => ?_) (fun hb1 => ?_)
  ·have khb1 := hb1; (try simp only [kb] at khb1)
   refine wsr ?_
   refine xa rfl rfl rfl rfl ?_
   refine X_endS ?_
   try dsimp only [St.put, szA, List.length, Nat.reduceAdd]
   refine W_ret ?_
   refine Q_seqX ?_
   rw [show bitsN l = 0 from if_pos (by omega)]
   exact end_R rfl (.t rfl .nil)
  ·have khb1 := hb1; (try simp only [kb] at khb1)
   refine W_skip ?_
   refine Q_seq ?_
   refine wsr ?_
   refine xm rfl rfl rfl rfl ?_
   refine X_op' rfl (A_lenT rfl rfl rfl rfl rfl rfl rfl) ?_
   refine X_op' rfl (A_int rfl rfl rfl ⟨by decide, by decide⟩ (subI (by omega))) ?_
   refine X_op' rfl (A_int rfl rfl rfl ⟨by decide, by decide⟩ (mulI (by omega))) ?_
   refine xm rfl rfl rfl rfl ?_
   refine xm rfl rfl rfl rfl ?_
   refine X_op' rfl (A_lenT rfl rfl rfl rfl rfl rfl rfl) ?_
   refine X_op' rfl (A_int rfl rfl rfl ⟨by decide, by decide⟩ (subI (by omega))) ?_
   refine X_op' rfl (A_ixA 0 rfl rfl rfl rfl rfl rfl rfl (by omega) (by omega) rfl rfl) ?_
   refine X_op' rfl (A_ld rfl rfl rfl (ld_ip1 rfl rfl rfl)) ?_
   refine X_op' rfl (A_callV rfl rfl rfl rfl (.cons (V_t rfl) (K_t rfl) .nil) (c122 (by omega) (by omega))) ?_
   refine X_op' rfl (A_int rfl rfl rfl ⟨by decide, by decide⟩ (addI (by omega))) ?_
   refine xa rfl rfl rfl rfl ?_
   refine X_endS ?_
   try dsimp only [St.put, szA, List.length, Nat.reduceAdd]
   refine W_ret ?_
   have hr : (Ret.ts [.v (.int .i64 (bitsN l))]) = .ts [.v (.int .i64 (32 * (((cn (tr l)).length : Int) - 1) + (Lib.bitLen ((tr l).getD (((cn (tr l)).length : Int) - 1).toNat 0).toNat : Int)))] := by
     have e : (((cn (tr l)).length : Int) - 1).toNat = (tr l).length - 1 := by omega
     rw [e, e1]
     unfold bitsN
     rw [if_neg (by omega)]
   rw [hr]
   exact end_R rfl (.t rfl .nil)
def g94 : List T → Option Ret := g1 fun l => some (.ts [.v (.int .i64 (bitsN l))])
theorem ok94 {sp : Nat → Option Spec} (hS : ∀ f s, sp f = some s → SpecOk Tryz.prog f s) (hr : ∀ ts r, g94 ts = some r → ts.length = 1 ∧ pureRun ty sp keep94 4398046511104 false Tryz.f94.results (Tryz.f94.body.getD .skip) ts = some r) : SpecOk Tryz.prog 94 (viewSpec g94) := by
  refine SpecOk.view (pure_ok mixed ty_ok hS Tryz.func94 rfl (by kernel_rfl) (enters_of Tryz.func94 (by kernel_rfl) rfl) keep94 (fun _ => 4398046511104) false 1 (by decide)) fun ts r h => ?_
  rw [if_pos (hr ts r h).1]
  exact (hr ts r h).2
theorem c94 {l : List Int} (h : U32 l) (hl : l.length ≤ 1099511627776) : g94 [tn l] = some (.ts [.v (.int .i64 (bitsN l))]) := g1_eq h hl
theorem s94 : SpecOk Tryz.prog 94 (viewSpec g94) := ok94 hN4 fun ts r h => by
  obtain ⟨l, rfl, h1, h2, h3⟩ := g1_some h
  exact ⟨rfl, (run94 l h1 h2 _ _ rfl).trans h3⟩

def keep161 : Nat → List Nat := fun _ => [0, 1, 2, 7, 8, 15, 16, 17]
def st161 (u v : List Int) (lo n : Nat) (q c b i : Int) : St := { tm := [(0, .ms 0 1 lo (n + 1)), (1, .ms 1 1 0 n), (2, .t (.v (.int .u64 q))), (7, .t (.v (.int .u64 c))), (8, .t (.v (.int .u64 b))), (15, .ms 1 1 0 n), (16, .t (.v (.int .i64 (n : Int)))), (17, .t (.v (.int .i64 i)))], mm := [(0, some ⟨61, 1, cn u⟩), (1, some ⟨61, 1, cn v⟩)], nx := 2 }
set_option maxHeartbeats 8000000 in
theorem run161 {sp : Nat → Option Spec} (H w0 Tl v : List Int) (n : Nat) (q : Int) (ia ib : Nat) (hab : ia ≠ ib) (m : Nat → Option O) (hma : m ia = some ⟨61, 1, cn (H ++ w0 ++ Tl)⟩) (hmb : m ib = some ⟨61, 1, cn v⟩) (hw0 : w0.length = n + 1) (hn : n ≤ v.length) (hnl : n ≤ 1099511627776) (uw0 : U32 w0) (uv : U32 v) (hq : 0 ≤ q ∧ q < 4294967296) (fuel : Nat) (hf : 1099511627776 < fuel) (c : Code) (hc : Tryz.f161.body = some c) :
    mutRun ty sp keep161 fuel Tryz.f161.results c [.ms ia 1 H.length (n + 1), .ms ib 1 0 n, .t (.v (.int .u64 q))] m = some (.ts [.v (.bool (decide (nv w0 < q * nv (v.take n))))], [(ia, some ⟨61, 1, cn (H ++ dig (n + 1) ((nv w0 - q * nv (v.take n)) % P (n + 1)) ++ Tl)⟩), (ib, some ⟨61, 1, cn v⟩)]) := by
  injection hc with hc
  subst hc
  have hL : dedup [] (A.ids.idsL [A.ms ia 1 H.length (n + 1), .ms ib 1 0 n, .t (.v (.int .u64 q))]) = [ia, ib] := by
    simp [A.ids.idsL, A.ids, dedup, Ne.symm hab]
  have hst : mutStart [A.ms ia 1 H.length (n + 1), .ms ib 1 0 n, .t (.v (.int .u64 q))] m = { tm := [(0, .ms 0 1 H.length (n + 1)), (1, .ms 1 1 0 n), (2, .t (.v (.int .u64 q)))], mm := [(0, some ⟨61, 1, cn (H ++ w0 ++ Tl)⟩), (1, some ⟨61, 1, cn v⟩)], nx := 2 } := by
    simp only [mutStart, hL]
    simp [A.ren, List.idxOf_cons, hma, hmb, hab, (show (ia == ib) = false from beq_false_of_ne hab)]
  refine mut_wc (L := [ia, ib]) hL (by simp [hma, hmb]) hst ?_
  refine wsr ?_
  refine xa rfl rfl rfl rfl ?_
  refine X_endS ?_
  try dsimp only [St.put, szA, List.length, Nat.reduceAdd]
  refine wsr ?_
  refine xa rfl rfl rfl rfl ?_
  refine xa rfl rfl rfl rfl ?_
  refine X_endS ?_
  try dsimp only [St.put, szA, List.length, Nat.reduceAdd]
  refine W_seq ?_
  refine wsr ?_
  refine X_op' rfl (A_mvM (.inl rfl) rfl) ?_
  refine X_op' rfl (A_lenM rfl rfl rfl rfl rfl rfl rfl) ?_
  refine xm rfl rfl rfl rfl ?_
  refine X_endS ?_
  try dsimp only [St.put, szA, List.length, Nat.reduceAdd]
  refine W_blk ?_
  refine W_loop (fun nn σ => ∃ (i : Nat) (w : List Int) (c b : Int), i ≤ n ∧ w.length = n + 1 ∧ U32 w ∧ 0 ≤ c ∧ c < 4294967296 ∧ (b = 0 ∨ b = 1) ∧ nv (w.take i) - P i * (c + b) = nv (w0.take i) - q * nv (v.take i) ∧ (∀ t, i ≤ t → w.getD t 0 = w0.getD t 0) ∧ σ = st161 (H ++ w ++ Tl) v H.length n q c b i ∧ nn = n - i) (n) ?_ ⟨0, w0, 0, 0, Nat.zero_le _, hw0, uw0, Int.le_refl _, by decide, .inl rfl, by simp [nv_nil], fun _ _ => rfl, by kernel_rfl, rfl⟩ (by omega)
  rintro nn _ ⟨i, w, c, b, hi, hw, uw, hc0, hc1, hb, hs, hrest, rfl, hnn⟩
  have ei : ((i : Int)).toNat = i := by omega
  have hd : (v.getD (0 + ((i : Int)).toNat) 0) = v.getD i 0 := by rw [ei, Nat.zero_add]
  have hdr := U32_getD uv (0 + ((i : Int)).toNat)
  have hqd := mul_bound hq hdr
  have ez := cn_length v
  have hxr : i < n → 0 ≤ ((H ++ w ++ Tl).getD (H.length + ((i : Int)).toNat) 0) ∧ ((H ++ w ++ Tl).getD (H.length + ((i : Int)).toNat) 0) < 4294967296 := fun h => by rw [ei, win_get H w Tl i (by omega)]; exact U32_getD uw i
  refine wsr ?_
  refine X_op' rfl (A_int rfl rfl rfl ⟨by decide, by decide⟩ rfl) ?_
  refine X_endS ?_
  try dsimp only [St.put, szA, List.length, Nat.reduceAdd]
  refine W_seq ?_
  refine W_condB rfl (fun hb1 => ?_) (fun hb1 => ?_)
  ·have khb1 := hb1; (try simp only [kb] at khb1)
   refine W_skip ?_
   refine Q_seq ?_
   refine W_seq ?_
   refine W_blk ?_
   refine wsr ?_
   have hxr := hxr (by omega)
   have hx : ((H ++ w ++ Tl).getD (H.length + ((i : Int)).toNat) 0) = w.getD i 0 := by rw [ei, win_get H w Tl i (by omega)]
   have hwd : w0.getD i 0 = w.getD i 0 := (hrest i (Nat.le_refl _)).symm
   refine xm rfl rfl rfl rfl ?_
   refine X_op' rfl (A_ixO rfl rfl rfl rfl rfl rfl rfl (by omega) (by omega)) ?_
   refine X_op' rfl (A_ld rfl rfl rfl (ld_row 0 rfl (by omega) rfl rfl rfl)) ?_
   refine xa rfl rfl rfl rfl ?_
   refine xa rfl rfl rfl rfl ?_
   refine X_endS ?_
   try dsimp only [St.put, szA, List.length, Nat.reduceAdd]
   refine wsr ?_
   refine xm rfl rfl rfl rfl ?_
   refine xm rfl rfl rfl rfl ?_
   refine X_op' rfl (A_conv rfl rfl rfl rfl rfl (wU (by omega) (by omega))) ?_
   refine X_op' rfl (A_int rfl rfl rfl ⟨by decide, by decide⟩ (mulU ⟨hqd.1, by omega⟩)) ?_
   refine xm rfl rfl rfl rfl ?_
   refine X_op' rfl (A_int rfl rfl rfl ⟨by decide, by decide⟩ (addU (by omega))) ?_
   refine xa rfl rfl rfl rfl ?_
   refine X_endS ?_
   try dsimp only [St.put, szA, List.length, Nat.reduceAdd]
   refine wsr ?_
   refine xm rfl rfl rfl rfl ?_
   refine X_op' rfl (A_sh rfl rfl rfl shr32) ?_
   refine xa rfl rfl rfl rfl ?_
   refine X_endS ?_
   try dsimp only [St.put, szA, List.length, Nat.reduceAdd]
   refine wsr ?_
   refine X_op' rfl (A_mvM (.inl rfl) rfl) ?_
   refine xm rfl rfl rfl rfl ?_
   refine X_op' rfl (A_ixO rfl rfl rfl rfl rfl rfl rfl (by omega) (by omega)) ?_
   refine X_op' rfl (A_ld rfl rfl rfl (ld_row 0 rfl (by rw [win_len]; omega) rfl rfl rfl)) ?_
   refine X_op' rfl (A_conv rfl rfl rfl rfl rfl (wU (by omega) (by omega))) ?_
   refine xm rfl rfl rfl rfl ?_
   refine X_op' rfl (A_conv rfl rfl rfl rfl rfl (wSm _)) ?_
   refine X_op' rfl (A_conv rfl rfl rfl rfl rfl (wU (by omega) (by omega))) ?_
   refine X_op' rfl (A_int rfl rfl rfl ⟨by decide, by decide⟩ (subUm _ _)) ?_
   refine xm rfl rfl rfl rfl ?_
   refine X_op' rfl (A_int rfl rfl rfl ⟨by decide, by decide⟩ (subUm _ _)) ?_
   refine xa rfl rfl rfl rfl ?_
   refine X_endS ?_
   try dsimp only [St.put, szA, List.length, Nat.reduceAdd]
   refine wsr ?_
   refine X_op' rfl (A_mvM (.inl rfl) rfl) ?_
   refine xm rfl rfl rfl rfl ?_
   refine xm rfl rfl rfl rfl ?_
   refine X_op' rfl (A_conv rfl rfl rfl rfl rfl (wSm _)) ?_
   refine X_op' rfl (A_ixO rfl rfl rfl rfl rfl rfl rfl (by omega) (by omega)) ?_
   refine X_op' rfl (A_stR 0 rfl rfl rfl (V_t rfl) (K_t rfl) rfl rfl (by rw [win_len]; omega) rfl rfl rfl rfl rfl rfl) ?_
   refine X_endS ?_
   try dsimp only [St.put, szA, List.length, Nat.reduceAdd]
   refine W_reg ?_
   refine xm rfl rfl rfl rfl ?_
   refine X_op' rfl (A_sh rfl rfl rfl shr63) ?_
   refine xa rfl rfl rfl rfl ?_
   refine X_end ?_
   try dsimp only [St.put, szA, List.length, Nat.reduceAdd]
   refine Q_blkN ?_
   refine Q_seq ?_
   refine W_reg ?_
   refine X_op' rfl (A_int rfl rfl rfl ⟨by decide, by decide⟩ (addI (by omega))) ?_
   refine xm rfl rfl rfl rfl ?_
   refine X_end ?_
   try dsimp only [St.put, szA, List.length, Nat.reduceAdd]
   have hsm := sm_step (w := w) (w0 := w0) (v := v) (i := i) (q := q) (c := c) (b := b) (x := ((H ++ w ++ Tl).getD (H.length + ((i : Int)).toNat) 0)) (d := (v.getD (0 + ((i : Int)).toNat) 0)) (p := (q * (v.getD (0 + ((i : Int)).toNat) 0) + c)) (t := (((((H ++ w ++ Tl).getD (H.length + ((i : Int)).toNat) 0) - (q * (v.getD (0 + ((i : Int)).toNat) 0) + c) % 4294967296) % 18446744073709551616 - b) % 18446744073709551616)) (by omega) hs hx (by rw [hx, hwd]) hd rfl hxr hb rfl
   refine ⟨n - (i + 1), by omega, i + 1, w.set i ((((((H ++ w ++ Tl).getD (H.length + ((i : Int)).toNat) 0) - (q * (v.getD (0 + ((i : Int)).toNat) 0) + c) % 4294967296) % 18446744073709551616 - b) % 18446744073709551616) % 4294967296), (q * (v.getD (0 + ((i : Int)).toNat) 0) + c) / 4294967296, (((((H ++ w ++ Tl).getD (H.length + ((i : Int)).toNat) 0) - (q * (v.getD (0 + ((i : Int)).toNat) 0) + c) % 4294967296) % 18446744073709551616 - b) % 18446744073709551616) / 9223372036854775808, by omega, by rw [List.length_set]; exact hw, U32_set uw _ (by omega) (by omega), by omega, by omega, hsm.2, hsm.1, ?_, Eq.trans (b := st161 ((H ++ w ++ Tl).set (H.length + ((i : Int)).toNat) ((((((H ++ w ++ Tl).getD (H.length + ((i : Int)).toNat) 0) - (q * (v.getD (0 + ((i : Int)).toNat) 0) + c) % 4294967296) % 18446744073709551616 - b) % 18446744073709551616) % 4294967296)) v H.length n q ((q * (v.getD (0 + ((i : Int)).toNat) 0) + c) / 4294967296) ((((((H ++ w ++ Tl).getD (H.length + ((i : Int)).toNat) 0) - (q * (v.getD (0 + ((i : Int)).toNat) 0) + c) % 4294967296) % 18446744073709551616 - b) % 18446744073709551616) / 9223372036854775808) ((i : Int) + 1)) (by kernel_rfl) ?_, rfl⟩
   · intro t ht
     rw [NumA.getD_set_ne _ _ _ _ (by omega)]
     exact hrest t (by omega)
   · have := win_set H w Tl i (by omega) ((((((H ++ w ++ Tl).getD (H.length + ((i : Int)).toNat) 0) - (q * (v.getD (0 + ((i : Int)).toNat) 0) + c) % 4294967296) % 18446744073709551616 - b) % 18446744073709551616) % 4294967296)
     rw [show ((H ++ w ++ Tl).set (H.length + ((i : Int)).toNat) ((((((H ++ w ++ Tl).getD (H.length + ((i : Int)).toNat) 0) - (q * (v.getD (0 + ((i : Int)).toNat) 0) + c) % 4294967296) % 18446744073709551616 - b) % 18446744073709551616) % 4294967296)) = H ++ w.set i ((((((H ++ w ++ Tl).getD (H.length + ((i : Int)).toNat) 0) - (q * (v.getD (0 + ((i : Int)).toNat) 0) + c) % 4294967296) % 18446744073709551616 - b) % 18446744073709551616) % 4294967296) ++ Tl by rw [ei]; rw [ei] at this; exact this]
     rfl
  ·have khb1 := hb1; (try simp only [kb] at khb1)
   refine W_exit ?_
   refine Q_seqX ?_
   refine Q_rndX ?_
   refine Q_blkE ?_
   refine Q_seq ?_
   refine wsr ?_
   refine X_op' rfl (A_mvM (.inl rfl) rfl) ?_
   refine X_op' rfl (A_lenM rfl rfl rfl rfl rfl rfl rfl) ?_
   refine xa rfl rfl rfl rfl ?_
   refine X_endS ?_
   try dsimp only [St.put, szA, List.length, Nat.reduceAdd]
   refine wsr ?_
   have hi2 : i = n := by omega
   subst hi2
   have hx2 : (H ++ w ++ Tl).getD (H.length + ((i : Int)).toNat) 0 = w.getD i 0 := by rw [ei]; exact win_get H w Tl i (by omega)
   have hxt := U32_getD uw i
   rw [← hx2] at hxt
   refine X_op' rfl (A_mvM (.inl rfl) rfl) ?_
   refine xm rfl rfl rfl rfl ?_
   refine X_op' rfl (A_ixO rfl rfl rfl rfl rfl rfl rfl (by omega) (by omega)) ?_
   refine X_op' rfl (A_ld rfl rfl rfl (ld_row 0 rfl (by rw [win_len]; omega) rfl rfl rfl)) ?_
   refine X_op' rfl (A_conv rfl rfl rfl rfl rfl (wU (by omega) (by omega))) ?_
   refine xm rfl rfl rfl rfl ?_
   refine X_op' rfl (A_int rfl rfl rfl ⟨by decide, by decide⟩ (subUm _ _)) ?_
   refine xm rfl rfl rfl rfl ?_
   refine X_op' rfl (A_int rfl rfl rfl ⟨by decide, by decide⟩ (subUm _ _)) ?_
   refine xa rfl rfl rfl rfl ?_
   refine X_endS ?_
   try dsimp only [St.put, szA, List.length, Nat.reduceAdd]
   refine wsr ?_
   refine X_op' rfl (A_mvM (.inl rfl) rfl) ?_
   refine xm rfl rfl rfl rfl ?_
   refine xm rfl rfl rfl rfl ?_
   refine X_op' rfl (A_conv rfl rfl rfl rfl rfl (wSm _)) ?_
   refine X_op' rfl (A_ixO rfl rfl rfl rfl rfl rfl rfl (by omega) (by omega)) ?_
   refine X_op' rfl (A_stR 0 rfl rfl rfl (V_t rfl) (K_t rfl) rfl rfl (by rw [win_len]; omega) rfl rfl rfl rfl rfl rfl) ?_
   refine X_endS ?_
   try dsimp only [St.put, szA, List.length, Nat.reduceAdd]
   refine wsr ?_
   refine xm rfl rfl rfl rfl ?_
   refine X_op' rfl (A_sh rfl rfl rfl shr63) ?_
   refine X_op' rfl (A_int rfl rfl rfl ⟨by decide, by decide⟩ rfl) ?_
   refine xa rfl rfl rfl rfl ?_
   refine X_endS ?_
   try dsimp only [St.put, szA, List.length, Nat.reduceAdd]
   refine W_ret ?_
   have hwi : w0.getD i 0 = w.getD i 0 := (hrest i (Nat.le_refl _)).symm
   have hfin := sm_end (w := w) (w0 := w0) (v := v) (n := i) (q := q) (c := c) (b := b) (t := (((((H ++ w ++ Tl).getD (H.length + ((i : Int)).toNat) 0) - c) % 18446744073709551616 - b) % 18446744073709551616)) hw hw0 uw hs hwi ⟨hc0, hc1⟩ hb (by rw [hx2])
   have hr : (Ret.ts [.v (.bool (decide (nv w0 < q * nv (v.take i))))]) = .ts [.v (.bool ((((((H ++ w ++ Tl).getD (H.length + ((i : Int)).toNat) 0) - c) % 18446744073709551616 - b) % 18446744073709551616) / 9223372036854775808 != 0))] := by rw [hfin.2]
   have hu : H ++ dig (i + 1) ((nv w0 - q * nv (v.take i)) % P (i + 1)) ++ Tl = (H ++ w ++ Tl).set (H.length + ((i : Int)).toNat) ((((((H ++ w ++ Tl).getD (H.length + ((i : Int)).toNat) 0) - c) % 18446744073709551616 - b) % 18446744073709551616) % 4294967296) := by
     rw [← hfin.1]
     have := win_set H w Tl i (by omega) ((((((H ++ w ++ Tl).getD (H.length + ((i : Int)).toNat) 0) - c) % 18446744073709551616 - b) % 18446744073709551616) % 4294967296)
     rw [← this]
     congr 2
   rw [hr, hu]
   exact ⟨_, .inl rfl, ret_of rfl (.t rfl .nil), rfl, by kernel_rfl⟩
def keep162 : Nat → List Nat := fun _ => [0, 1, 4, 8, 9, 10]
def st162 (u v : List Int) (lo n : Nat) (c i : Int) : St := { tm := [(0, .ms 0 1 lo (n + 1)), (1, .ms 1 1 0 n), (4, .t (.v (.int .u64 c))), (8, .ms 1 1 0 n), (9, .t (.v (.int .i64 (n : Int)))), (10, .t (.v (.int .i64 i)))], mm := [(0, some ⟨61, 1, cn u⟩), (1, some ⟨61, 1, cn v⟩)], nx := 2 }
set_option maxHeartbeats 8000000 in
theorem run162 {sp : Nat → Option Spec} (H w0 Tl v : List Int) (n : Nat) (ia ib : Nat) (hab : ia ≠ ib) (m : Nat → Option O) (hma : m ia = some ⟨61, 1, cn (H ++ w0 ++ Tl)⟩) (hmb : m ib = some ⟨61, 1, cn v⟩) (hw0 : w0.length = n + 1) (hn : n ≤ v.length) (hnl : n ≤ 1099511627776) (uw0 : U32 w0) (uv : U32 v) (fuel : Nat) (hf : 1099511627776 < fuel) (c : Code) (hc : Tryz.f162.body = some c) :
    mutRun ty sp keep162 fuel Tryz.f162.results c [.ms ia 1 H.length (n + 1), .ms ib 1 0 n] m = some (.ts [], [(ia, some ⟨61, 1, cn (H ++ dig (n + 1) ((nv w0 + nv (v.take n)) % P (n + 1)) ++ Tl)⟩), (ib, some ⟨61, 1, cn v⟩)]) := by
  injection hc with hc
  subst hc
  have hL : dedup [] (A.ids.idsL [A.ms ia 1 H.length (n + 1), .ms ib 1 0 n]) = [ia, ib] := by
    simp [A.ids.idsL, A.ids, dedup, Ne.symm hab]
  have hst : mutStart [A.ms ia 1 H.length (n + 1), .ms ib 1 0 n] m = { tm := [(0, .ms 0 1 H.length (n + 1)), (1, .ms 1 1 0 n)], mm := [(0, some ⟨61, 1, cn (H ++ w0 ++ Tl)⟩), (1, some ⟨61, 1, cn v⟩)], nx := 2 } := by
    simp only [mutStart, hL]
    simp [A.ren, List.idxOf_cons, hma, hmb, hab, (show (ia == ib) = false from beq_false_of_ne hab)]
  refine mut_wc (L := [ia, ib]) hL (by simp [hma, hmb]) hst ?_
  refine wsr ?_
  refine xa rfl rfl rfl rfl ?_
  refine X_endS ?_
  try dsimp only [St.put, szA, List.length, Nat.reduceAdd]
  refine W_seq ?_
  refine wsr ?_
  refine X_op' rfl (A_mvM (.inl rfl) rfl) ?_
  refine X_op' rfl (A_lenM rfl rfl rfl rfl rfl rfl rfl) ?_
  refine xm rfl rfl rfl rfl ?_
  refine X_endS ?_
  try dsimp only [St.put, szA, List.length, Nat.reduceAdd]
  refine W_blk ?_
  refine W_loop (fun nn σ => ∃ (i : Nat) (w : List Int) (c : Int), i ≤ n ∧ w.length = n + 1 ∧ U32 w ∧ 0 ≤ c ∧ c < 4294967296 ∧ nv (w.take i) + P i * c = nv (w0.take i) + nv (v.take i) ∧ (∀ t, i ≤ t → w.getD t 0 = w0.getD t 0) ∧ σ = st162 (H ++ w ++ Tl) v H.length n c i ∧ nn = n - i) (n) ?_ ⟨0, w0, 0, Nat.zero_le _, hw0, uw0, Int.le_refl _, by decide, by simp [nv_nil], fun _ _ => rfl, by kernel_rfl, rfl⟩ (by omega)
  rintro nn _ ⟨i, w, c, hi, hw, uw, hc0, hc1, hs, hrest, rfl, hnn⟩
  have ei : ((i : Int)).toNat = i := by omega
  have hd : (v.getD (0 + ((i : Int)).toNat) 0) = v.getD i 0 := by rw [ei, Nat.zero_add]
  have hdr := U32_getD uv (0 + ((i : Int)).toNat)
  have ez := cn_length v
  have hxr : i < n → 0 ≤ ((H ++ w ++ Tl).getD (H.length + ((i : Int)).toNat) 0) ∧ ((H ++ w ++ Tl).getD (H.length + ((i : Int)).toNat) 0) < 4294967296 := fun h => by rw [ei, win_get H w Tl i (by omega)]; exact U32_getD uw i
  refine wsr ?_
  refine X_op' rfl (A_int rfl rfl rfl ⟨by decide, by decide⟩ rfl) ?_
  refine X_endS ?_
  try dsimp only [St.put, szA, List.length, Nat.reduceAdd]
  refine W_seq ?_
  refine W_condB rfl (fun hb1 => ?_) (fun hb1 => ?_)
  ·have khb1 := hb1; (try simp only [kb] at khb1)
   refine W_skip ?_
   refine Q_seq ?_
   refine W_seq ?_
   refine W_blk ?_
   refine wsr ?_
   have hxr := hxr (by omega)
   have hx : ((H ++ w ++ Tl).getD (H.length + ((i : Int)).toNat) 0) = w.getD i 0 := by rw [ei, win_get H w Tl i (by omega)]
   have hwd : w0.getD i 0 = w.getD i 0 := (hrest i (Nat.le_refl _)).symm
   refine xm rfl rfl rfl rfl ?_
   refine X_op' rfl (A_ixO rfl rfl rfl rfl rfl rfl rfl (by omega) (by omega)) ?_
   refine X_op' rfl (A_ld rfl rfl rfl (ld_row 0 rfl (by omega) rfl rfl rfl)) ?_
   refine xa rfl rfl rfl rfl ?_
   refine xa rfl rfl rfl rfl ?_
   refine X_endS ?_
   try dsimp only [St.put, szA, List.length, Nat.reduceAdd]
   refine wsr ?_
   refine X_op' rfl (A_mvM (.inl rfl) rfl) ?_
   refine xm rfl rfl rfl rfl ?_
   refine X_op' rfl (A_ixO rfl rfl rfl rfl rfl rfl rfl (by omega) (by omega)) ?_
   refine X_op' rfl (A_ld rfl rfl rfl (ld_row 0 rfl (by rw [win_len]; omega) rfl rfl rfl)) ?_
   refine X_op' rfl (A_conv rfl rfl rfl rfl rfl (wU (by omega) (by omega))) ?_
   refine xm rfl rfl rfl rfl ?_
   refine X_op' rfl (A_conv rfl rfl rfl rfl rfl (wU (by omega) (by omega))) ?_
   refine X_op' rfl (A_int rfl rfl rfl ⟨by decide, by decide⟩ (addU (by omega))) ?_
   refine xm rfl rfl rfl rfl ?_
   refine X_op' rfl (A_int rfl rfl rfl ⟨by decide, by decide⟩ (addU (by omega))) ?_
   refine xa rfl rfl rfl rfl ?_
   refine X_endS ?_
   try dsimp only [St.put, szA, List.length, Nat.reduceAdd]
   refine wsr ?_
   refine X_op' rfl (A_mvM (.inl rfl) rfl) ?_
   refine xm rfl rfl rfl rfl ?_
   refine xm rfl rfl rfl rfl ?_
   refine X_op' rfl (A_conv rfl rfl rfl rfl rfl (wSm _)) ?_
   refine X_op' rfl (A_ixO rfl rfl rfl rfl rfl rfl rfl (by omega) (by omega)) ?_
   refine X_op' rfl (A_stR 0 rfl rfl rfl (V_t rfl) (K_t rfl) rfl rfl (by rw [win_len]; omega) rfl rfl rfl rfl rfl rfl) ?_
   refine X_endS ?_
   try dsimp only [St.put, szA, List.length, Nat.reduceAdd]
   refine W_reg ?_
   refine xm rfl rfl rfl rfl ?_
   refine X_op' rfl (A_sh rfl rfl rfl shr32) ?_
   refine xa rfl rfl rfl rfl ?_
   refine X_end ?_
   try dsimp only [St.put, szA, List.length, Nat.reduceAdd]
   refine Q_blkN ?_
   refine Q_seq ?_
   refine W_reg ?_
   refine X_op' rfl (A_int rfl rfl rfl ⟨by decide, by decide⟩ (addI (by omega))) ?_
   refine xm rfl rfl rfl rfl ?_
   refine X_end ?_
   try dsimp only [St.put, szA, List.length, Nat.reduceAdd]
   have hst := rs_step (w := w) (w0 := w0) (v := v) (i := i) (c := c) (s := (((H ++ w ++ Tl).getD (H.length + ((i : Int)).toNat) 0) + (v.getD (0 + ((i : Int)).toNat) 0) + c)) (by omega) hs hwd (by rw [hx, hd])
   refine ⟨n - (i + 1), by omega, i + 1, w.set i ((((H ++ w ++ Tl).getD (H.length + ((i : Int)).toNat) 0) + (v.getD (0 + ((i : Int)).toNat) 0) + c) % 4294967296), (((H ++ w ++ Tl).getD (H.length + ((i : Int)).toNat) 0) + (v.getD (0 + ((i : Int)).toNat) 0) + c) / 4294967296, by omega, by rw [List.length_set]; exact hw, U32_set uw _ (by omega) (by omega), by omega, by omega, hst, ?_, Eq.trans (b := st162 ((H ++ w ++ Tl).set (H.length + ((i : Int)).toNat) ((((H ++ w ++ Tl).getD (H.length + ((i : Int)).toNat) 0) + (v.getD (0 + ((i : Int)).toNat) 0) + c) % 4294967296)) v H.length n ((((H ++ w ++ Tl).getD (H.length + ((i : Int)).toNat) 0) + (v.getD (0 + ((i : Int)).toNat) 0) + c) / 4294967296) ((i : Int) + 1)) (by kernel_rfl) ?_, rfl⟩
   · intro t ht
     rw [NumA.getD_set_ne _ _ _ _ (by omega)]
     exact hrest t (by omega)
   · have := win_set H w Tl i (by omega) ((((H ++ w ++ Tl).getD (H.length + ((i : Int)).toNat) 0) + (v.getD (0 + ((i : Int)).toNat) 0) + c) % 4294967296)
     rw [show ((H ++ w ++ Tl).set (H.length + ((i : Int)).toNat) ((((H ++ w ++ Tl).getD (H.length + ((i : Int)).toNat) 0) + (v.getD (0 + ((i : Int)).toNat) 0) + c) % 4294967296)) = H ++ w.set i ((((H ++ w ++ Tl).getD (H.length + ((i : Int)).toNat) 0) + (v.getD (0 + ((i : Int)).toNat) 0) + c) % 4294967296) ++ Tl by rw [ei]; rw [ei] at this; exact this]
     rfl
  ·have khb1 := hb1; (try simp only [kb] at khb1)
   refine W_exit ?_
   refine Q_seqX ?_
   refine Q_rndX ?_
   refine Q_blkE ?_
   refine Q_seq ?_
   refine W_reg ?_
   have hi2 : i = n := by omega
   subst hi2
   have hx2 : (H ++ w ++ Tl).getD (H.length + ((i : Int)).toNat) 0 = w.getD i 0 := by rw [ei]; exact win_get H w Tl i (by omega)
   have hxt := U32_getD uw i
   rw [← hx2] at hxt
   refine X_op' rfl (A_mvM (.inl rfl) rfl) ?_
   refine X_op' rfl (A_mvM (.inl rfl) rfl) ?_
   refine X_op' rfl (A_lenM rfl rfl rfl rfl rfl rfl rfl) ?_
   refine X_op' rfl (A_ixO rfl rfl rfl rfl rfl rfl rfl (by omega) (by omega)) ?_
   refine X_op' rfl (A_ld rfl rfl rfl (ld_row 0 rfl (by rw [win_len]; omega) rfl rfl rfl)) ?_
   refine xm rfl rfl rfl rfl ?_
   refine X_op' rfl (A_conv rfl rfl rfl rfl rfl (wSm _)) ?_
   refine X_op' rfl (A_int rfl rfl rfl ⟨by decide, by decide⟩ (addSm _ _)) ?_
   refine X_op' rfl (A_ixO rfl rfl rfl rfl rfl rfl rfl (by omega) (by omega)) ?_
   refine X_op' rfl (A_stR 0 rfl rfl rfl (V_t rfl) (K_t rfl) rfl rfl (by rw [win_len]; omega) rfl rfl rfl rfl rfl rfl) ?_
   refine X_end ?_
   try dsimp only [St.put, szA, List.length, Nat.reduceAdd]
   have hwi : w0.getD i 0 = w.getD i 0 := (hrest i (Nat.le_refl _)).symm
   have hfin := rs_end (w := w) (w0 := w0) (v := v) (n := i) (c := c) hw hw0 uw hs hwi ⟨hc0, hc1⟩
   have hu : H ++ dig (i + 1) ((nv w0 + nv (v.take i)) % P (i + 1)) ++ Tl = (H ++ w ++ Tl).set (H.length + ((i : Int)).toNat) ((((H ++ w ++ Tl).getD (H.length + ((i : Int)).toNat) 0) + c % 4294967296) % 4294967296) := by
     rw [← hfin, hx2, show c % 4294967296 = c by omega, ← win_set H w Tl i (by omega)]
     congr 2
   rw [hu]
   exact ⟨_, .inr rfl, ret_of rfl .nil, rfl, by kernel_rfl⟩
end Go.Ev.S
/- The package natural: the estimate of a digit. -/
set_option linter.unusedVariables false
set_option linter.unusedSimpArgs false
set_option maxRecDepth 100000
namespace Go.Ev.S
open Go Go.Ev Go.Proofs NumA

theorem pure_wcE {β : Type} {Bd : β → Prop} {R : β → Ret} {tt : Nat → Option TE} {sp : Nat → Option Spec} {keep : Nat → List Nat} {fuel : Nat} {own : Bool} {res : Array ResultVar} {c : Code} {ts : List T} (h : WC tt sp 0 keep fuel c 0 { tm := ts.zipIdx.map fun p => (p.2, .t p.1), mm := [], nx := 0 } (fun q => ∃ g, Bd g ∧ EndQ tt own res (R g) q)) : ∃ g, Bd g ∧ pureRun tt sp keep fuel own res c ts = some (R g) := by
  obtain ⟨g, h1, h2⟩ := h.out
  exact ⟨g, h1, pure_wc ⟨h2⟩⟩
def keep160 : Nat → List Nat := fun _ => [0, 5, 6, 7, 9, 10]
def st160 (u v : List Int) (v1 v2 g r : Int) : St := { tm := [(0, .t (tn u)), (5, .t (.v (.int .i64 ((cn v).length : Int)))), (6, .t (.v (.int .u64 v1))), (7, .t (.v (.int .u64 v2))), (9, .t (.v (.int .u64 g))), (10, .t (.v (.int .u64 r)))], mm := [], nx := 0 }
theorem nv_top2 (u : List Int) (k : Nat) (h : u.length = k + 2) : nv u = (u.getD (k + 1) 0 * 4294967296 + u.getD k 0) * P k + nv (u.take k) := by
  have h1 := nv_take_succ' u (k + 1)
  have h2 := nv_take_succ' u k
  rw [List.take_of_length_le (by omega)] at h1
  rw [h1, h2, P_succ, Int.add_mul, Int.mul_comm (4294967296 * P k), Int.mul_assoc, Int.mul_comm (u.getD k 0)]
  omega
theorem nv_top3 (u : List Int) (k : Nat) (h : u.length = k + 3) : nv u = ((u.getD (k + 2) 0 * 4294967296 + u.getD (k + 1) 0) * 4294967296 + u.getD k 0) * P k + nv (u.take k) := by
  have h1 := nv_take_succ' u (k + 2)
  have h2 := nv_top2 (u.take (k + 2)) k (by rw [List.length_take]; omega)
  rw [List.take_of_length_le (by omega)] at h1
  have e1 : (u.take (k + 2)).getD (k + 1) 0 = u.getD (k + 1) 0 := by simp [List.getD_eq_getElem?_getD, List.getElem?_take]
  have e2 : (u.take (k + 2)).getD k 0 = u.getD k 0 := by simp [List.getD_eq_getElem?_getD, List.getElem?_take]
  have e3 : (u.take (k + 2)).take k = u.take k := by rw [List.take_take, Nat.min_eq_left (by omega)]
  rw [e1, e2, e3] at h2
  rw [h1, h2, P_succ, P_succ]
  grind
theorem num_lt {H num u2 ul v1 v2 vl : Int} (hH : 0 < H) (hu2 : 0 ≤ u2) (hul : 0 ≤ ul) (hv2 : v2 < 4294967296) (hvl : vl < H) (h : (num * 4294967296 + u2) * H + ul < 4294967296 * ((v1 * 4294967296 + v2) * H + vl)) : num < (v1 + 1) * 4294967296 := by
  rcases Int.lt_or_le num ((v1 + 1) * 4294967296) with h1 | h1
  · exact h1
  · exfalso
    have h2 : (v1 + 1) * 4294967296 * 4294967296 * H ≤ (num * 4294967296 + u2) * H := Int.mul_le_mul_of_nonneg_right (by omega) (by omega)
    have h3 : (v1 * 4294967296 + v2 + 1) * H ≤ ((v1 + 1) * 4294967296) * H := Int.mul_le_mul_of_nonneg_right (by omega) (by omega)
    grind
set_option maxHeartbeats 8000000 in
theorem run160 {sp : Nat → Option Spec} (u v : List Int) (k : Nat) (hu : U32 u) (hv : U32 v) (hul : u.length = k + 3) (hvl : v.length = k + 2) (hk : k ≤ 1099511627776) (hn : 2147483648 ≤ v.getD (k + 1) 0) (hlt : nv u < 4294967296 * nv v) (fuel : Nat) (hf : 4294967296 < fuel) (c : Code) (hc : Tryz.f160.body = some c) :
    ∃ g : Int, (0 ≤ g ∧ g < 4294967296 ∧ nv u < (g + 1) * nv v ∧ (g - 1) * nv v ≤ nv u) ∧ pureRun ty sp keep160 fuel false Tryz.f160.results c [tn u, tn v] = some (.ts [.v (.int .u64 g)]) := by
  injection hc with hc
  subst hc
  have e1 := cn_length u
  have e2 := cn_length v
  have tu := nv_top3 u k hul
  have tv := nv_top2 v k hvl
  have hv1 := U32_getD hv (((cn v).length : Int) - 1).toNat
  have hv2 := U32_getD hv (((cn v).length : Int) - 2).toNat
  have hu0 := U32_getD hu ((cn v).length : Int).toNat
  have hu1 := U32_getD hu (((cn v).length : Int) - 1).toNat
  have hu2 := U32_getD hu (((cn v).length : Int) - 2).toNat
  have i0 : ((cn v).length : Int).toNat = k + 2 := by omega
  have i1 : (((cn v).length : Int) - 1).toNat = k + 1 := by omega
  have i2 : (((cn v).length : Int) - 2).toNat = k := by omega
  have hul0 := nv_nonneg (U32_take hu k)
  have hul1 := nv_lt (U32_take hu k)
  have hvl0 := nv_nonneg (U32_take hv k)
  have hvl1 := nv_lt (U32_take hv k)
  rw [List.length_take, Nat.min_eq_left (by omega)] at hul1 hvl1
  have hH := P_pos k
  have hVn : 0 ≤ nv v := nv_nonneg hv
  have hv1' : 2147483648 ≤ v.getD (((cn v).length : Int) - 1).toNat 0 := by rw [i1]; exact hn
  have tu' : nv u = ((u.getD ((cn v).length : Int).toNat 0 * 4294967296 + u.getD (((cn v).length : Int) - 1).toNat 0) * 4294967296 + (u.getD (((cn v).length : Int) - 2).toNat 0)) * P k + nv (u.take k) := by rw [i0, i1, i2]; exact tu
  have tv' : nv v = ((v.getD (((cn v).length : Int) - 1).toNat 0) * 4294967296 + (v.getD (((cn v).length : Int) - 2).toNat 0)) * P k + nv (v.take k) := by rw [i1, i2]; exact tv
  have hnum : (u.getD ((cn v).length : Int).toNat 0 * 4294967296 + u.getD (((cn v).length : Int) - 1).toNat 0) < ((v.getD (((cn v).length : Int) - 1).toNat 0) + 1) * 4294967296 := num_lt hH hu2.1 hul0 hv2.2 hvl1 (by rw [← tu', ← tv']; exact hlt)
  have m0 : 0 ≤ (u.getD ((cn v).length : Int).toNat 0 * 4294967296 + u.getD (((cn v).length : Int) - 1).toNat 0) % (v.getD (((cn v).length : Int) - 1).toNat 0) := Int.emod_nonneg _ (by omega)
  have m1 : (u.getD ((cn v).length : Int).toNat 0 * 4294967296 + u.getD (((cn v).length : Int) - 1).toNat 0) % (v.getD (((cn v).length : Int) - 1).toNat 0) < (v.getD (((cn v).length : Int) - 1).toNat 0) := Int.emod_lt_of_pos _ (by omega)
  have m2 : 0 ≤ (u.getD ((cn v).length : Int).toNat 0 * 4294967296 + u.getD (((cn v).length : Int) - 1).toNat 0) / (v.getD (((cn v).length : Int) - 1).toNat 0) := Int.ediv_nonneg (by omega) (by omega)
  have m3 : (u.getD ((cn v).length : Int).toNat 0 * 4294967296 + u.getD (((cn v).length : Int) - 1).toNat 0) / (v.getD (((cn v).length : Int) - 1).toNat 0) ≤ (u.getD ((cn v).length : Int).toNat 0 * 4294967296 + u.getD (((cn v).length : Int) - 1).toNat 0) := Int.ediv_le_self _ (by omega)
  have m4 : (u.getD ((cn v).length : Int).toNat 0 * 4294967296 + u.getD (((cn v).length : Int) - 1).toNat 0) / (v.getD (((cn v).length : Int) - 1).toNat 0) * (v.getD (((cn v).length : Int) - 1).toNat 0) + (u.getD ((cn v).length : Int).toNat 0 * 4294967296 + u.getD (((cn v).length : Int) - 1).toNat 0) % (v.getD (((cn v).length : Int) - 1).toNat 0) = (u.getD ((cn v).length : Int).toNat 0 * 4294967296 + u.getD (((cn v).length : Int) - 1).toNat 0) := Int.ediv_mul_add_emod _ _
  refine pure_wcE (R := fun g => .ts [.v (.int .u64 g)]) ?_
  refine wsr ?_
  refine xa rfl rfl rfl rfl ?_
  refine X_endS ?_
  try dsimp only [St.put, szA, List.length, Nat.reduceAdd]
  refine wsr ?_
  refine xm rfl rfl rfl rfl ?_
  refine X_op' rfl (A_lenT rfl rfl rfl rfl rfl rfl rfl) ?_
  refine xa rfl rfl rfl rfl ?_
  refine X_endS ?_
  try dsimp only [St.put, szA, List.length, Nat.reduceAdd]
  refine wsr ?_
  refine xm rfl rfl rfl rfl ?_
  refine xm rfl rfl rfl rfl ?_
  refine X_op' rfl (A_int rfl rfl rfl ⟨by decide, by decide⟩ (subI (by omega))) ?_
  refine X_op' rfl (A_ixA 0 rfl rfl rfl rfl rfl rfl rfl (by omega) (by omega) rfl rfl) ?_
  refine X_op' rfl (A_ld rfl rfl rfl (ld_ip1 rfl rfl rfl)) ?_
  refine X_op' rfl (A_conv rfl rfl rfl rfl rfl (wU (by omega) (by omega))) ?_
  refine xm rfl rfl rfl rfl ?_
  refine xm rfl rfl rfl rfl ?_
  refine X_op' rfl (A_int rfl rfl rfl ⟨by decide, by decide⟩ (subI (by omega))) ?_
  refine X_op' rfl (A_ixA 0 rfl rfl rfl rfl rfl rfl rfl (by omega) (by omega) rfl rfl) ?_
  refine X_op' rfl (A_ld rfl rfl rfl (ld_ip1 rfl rfl rfl)) ?_
  refine X_op' rfl (A_conv rfl rfl rfl rfl rfl (wU (by omega) (by omega))) ?_
  refine xa rfl rfl rfl rfl ?_
  refine xa rfl rfl rfl rfl ?_
  refine X_endDS (by kernel_rfl) (by kernel_rfl) ?_
  try dsimp only [St.put, szA, List.length, Nat.reduceAdd]
  refine wsr ?_
  refine xm rfl rfl rfl rfl ?_
  refine xm rfl rfl rfl rfl ?_
  refine X_op' rfl (A_ixA 0 rfl rfl rfl rfl rfl rfl rfl (by omega) (by omega) rfl rfl) ?_
  refine X_op' rfl (A_ld rfl rfl rfl (ld_ip1 rfl rfl rfl)) ?_
  refine X_op' rfl (A_conv rfl rfl rfl rfl rfl (wU (by omega) (by omega))) ?_
  refine X_op' rfl (A_sh rfl rfl rfl (shl32 hu0)) ?_
  refine xm rfl rfl rfl rfl ?_
  refine xm rfl rfl rfl rfl ?_
  refine X_op' rfl (A_int rfl rfl rfl ⟨by decide, by decide⟩ (subI (by omega))) ?_
  refine X_op' rfl (A_ixA 0 rfl rfl rfl rfl rfl rfl rfl (by omega) (by omega) rfl rfl) ?_
  refine X_op' rfl (A_ld rfl rfl rfl (ld_ip1 rfl rfl rfl)) ?_
  refine X_op' rfl (A_conv rfl rfl rfl rfl rfl (wU (by omega) (by omega))) ?_
  refine X_op' rfl (A_int rfl rfl rfl ⟨by decide, by decide⟩ (or32 hu0 hu1)) ?_
  refine xa rfl rfl rfl rfl ?_
  refine X_endDS (by kernel_rfl) (by kernel_rfl) ?_
  try dsimp only [St.put, szA, List.length, Nat.reduceAdd]
  refine wsr ?_
  refine xm rfl rfl rfl rfl ?_
  refine xm rfl rfl rfl rfl ?_
  refine X_op' rfl (A_int rfl rfl rfl ⟨by decide, by decide⟩ (quoU (by omega) (by omega) (by omega))) ?_
  refine xm rfl rfl rfl rfl ?_
  refine xm rfl rfl rfl rfl ?_
  refine X_op' rfl (A_int rfl rfl rfl ⟨by decide, by decide⟩ (remU (by omega) (by omega))) ?_
  refine xa rfl rfl rfl rfl ?_
  refine xa rfl rfl rfl rfl ?_
  refine X_endDS (by kernel_rfl) (by kernel_rfl) ?_
  try dsimp only [St.put, szA, List.length, Nat.reduceAdd]
  refine W_seq ?_
  refine W_blk ?_
  refine W_loop (fun nn σ => ∃ (g r : Int), 0 ≤ g ∧ g < 18446744073709551616 ∧ 0 ≤ r ∧ r < 4294967296 ∧ g * (v.getD (((cn v).length : Int) - 1).toNat 0) + r = (u.getD ((cn v).length : Int).toNat 0 * 4294967296 + u.getD (((cn v).length : Int) - 1).toNat 0) ∧ nv u < (g + 1) * nv v ∧ σ = st160 u v (v.getD (((cn v).length : Int) - 1).toNat 0) (v.getD (((cn v).length : Int) - 2).toNat 0) g r ∧ nn = (4294967296 - r).toNat) ((4294967296 - (u.getD ((cn v).length : Int).toNat 0 * 4294967296 + u.getD (((cn v).length : Int) - 1).toNat 0) % (v.getD (((cn v).length : Int) - 1).toNat 0)).toNat) ?_ ?_ ?_
  rotate_left
  · exact ⟨(u.getD ((cn v).length : Int).toNat 0 * 4294967296 + u.getD (((cn v).length : Int) - 1).toNat 0) / (v.getD (((cn v).length : Int) - 1).toNat 0), (u.getD ((cn v).length : Int).toNat 0 * 4294967296 + u.getD (((cn v).length : Int) - 1).toNat 0) % (v.getD (((cn v).length : Int) - 1).toNat 0), m2, by omega, m0, by omega, m4, (by rw [tu', tv']; exact NumK.guess_init hH hv2.1 hvl0 hu2.2 hul1 m2 m1 m4), by kernel_rfl, rfl⟩
  · omega
  rintro nn _ ⟨g, r, hg0, hg64, hr0, hr1, hgr, hUg, rfl, hnn⟩
  have hpos : (4294967296 ≤ g ∨ r * 4294967296 + (u.getD (((cn v).length : Int) - 2).toNat 0) < g * (v.getD (((cn v).length : Int) - 2).toNat 0)) → 1 ≤ g := by
    rintro (h | h)
    · omega
    · rcases Int.lt_or_le 0 g with h1 | h1
      · omega
      · have : g = 0 := by omega
        rw [this, Int.zero_mul] at h; omega
  refine W_seq ?_
  refine wsr ?_
  refine xm rfl rfl rfl rfl ?_
  refine X_op' rfl (A_sh rfl rfl rfl shr32) ?_
  refine X_op' rfl (A_int rfl rfl rfl ⟨by decide, by decide⟩ rfl) ?_
  refine xm rfl rfl rfl rfl ?_
  refine X_both (d := 47) rfl (fun hb1 => ?_) (fun hb1 => ?_)
  ·have khb1 := hb1; (try simp only [kb] at khb1)
   refine X_no1 rfl rfl rfl hb1 ?_
   refine X_no1 rfl rfl rfl hb1 ?_
   have hgv := fun (h : g < 4294967296) => mul_bound ⟨hg0, h⟩ hv2
   refine X_no1 rfl rfl rfl hb1 ?_
   refine X_no1 rfl rfl rfl hb1 ?_
   refine X_no1 rfl rfl rfl hb1 ?_
   refine X_no1 rfl rfl rfl hb1 ?_
   refine X_no1 rfl rfl rfl hb1 ?_
   refine X_no1 rfl rfl rfl hb1 ?_
   refine X_no1 rfl rfl rfl hb1 ?_
   refine X_no1 rfl rfl rfl hb1 ?_
   refine X_no1 rfl rfl rfl hb1 ?_
   refine X_no1 rfl rfl rfl hb1 ?_
   refine X_no1 rfl rfl rfl hb1 ?_
   refine X_op' rfl (A_pickT rfl rfl hb1 rfl) ?_
   refine X_endS ?_
   try dsimp only [St.put, szA, List.length, Nat.reduceAdd]
   refine W_condT rfl rfl ?_
   refine W_skip ?_
   refine Q_seq ?_
   refine W_blk ?_
   refine wsr ?_
   have hg1 : 1 ≤ g := hpos (by first | (left; omega) | (right; omega))
   refine xm rfl rfl rfl rfl ?_
   refine X_op' rfl (A_int rfl rfl rfl ⟨by decide, by decide⟩ (subU (by omega))) ?_
   refine xa rfl rfl rfl rfl ?_
   refine X_endS ?_
   try dsimp only [St.put, szA, List.length, Nat.reduceAdd]
   refine wsr ?_
   refine xm rfl rfl rfl rfl ?_
   refine xm rfl rfl rfl rfl ?_
   refine X_op' rfl (A_int rfl rfl rfl ⟨by decide, by decide⟩ (addU (by omega))) ?_
   refine xa rfl rfl rfl rfl ?_
   refine X_endS ?_
   try dsimp only [St.put, szA, List.length, Nat.reduceAdd]
   refine wsr ?_
   refine xm rfl rfl rfl rfl ?_
   refine X_op' rfl (A_sh rfl rfl rfl shr32) ?_
   refine X_op' rfl (A_int rfl rfl rfl ⟨by decide, by decide⟩ rfl) ?_
   refine X_endS ?_
   try dsimp only [St.put, szA, List.length, Nat.reduceAdd]
   refine W_condB rfl (fun hb2 => ?_) (fun hb2 => ?_)
   ·have khb2 := hb2; (try simp only [kb] at khb2)
    refine W_exit ?_
    refine Q_blkX (by decide) ?_
    refine Q_rndX ?_
    refine Q_blkE ?_
    refine Q_seq ?_
    refine wsr ?_
    refine xm rfl rfl rfl rfl ?_
    refine xa rfl rfl rfl rfl ?_
    refine X_endS ?_
    try dsimp only [St.put, szA, List.length, Nat.reduceAdd]
    refine W_ret ?_
    have hU2 : nv u < (g - 1 + 1) * nv v := NumK.guess_big hVn hlt (by omega)
    have hgr2 : (g - 1) * (v.getD (((cn v).length : Int) - 1).toNat 0) + (r + (v.getD (((cn v).length : Int) - 1).toNat 0)) = (u.getD ((cn v).length : Int).toNat 0 * 4294967296 + u.getD (((cn v).length : Int) - 1).toNat 0) := by rw [← hgr, Int.sub_mul]; omega
    have hbk := NumK.guess_break (g := g - 1) (by omega) (by omega) hv2.2 hv2.1 hu2.1 hgr2 hnum (by omega)
    exact ⟨g - 1, ⟨by omega, hbk.1, hU2, (by rw [tu', tv']; exact NumK.guess_exit hH hvl1 hvl0 hul0 (by omega) hbk.1 (by omega) hv2.1 hgr2 hbk.2)⟩, end_R rfl (.t rfl .nil)⟩
   ·have khb2 := hb2; (try simp only [kb] at khb2)
    refine W_skip ?_
    refine Q_blkN ?_
    have hU2 : nv u < (g - 1 + 1) * nv v := NumK.guess_big hVn hlt (by omega)
    have hgr2 : (g - 1) * (v.getD (((cn v).length : Int) - 1).toNat 0) + (r + (v.getD (((cn v).length : Int) - 1).toNat 0)) = (u.getD ((cn v).length : Int).toNat 0 * 4294967296 + u.getD (((cn v).length : Int) - 1).toNat 0) := by rw [← hgr, Int.sub_mul]; omega
    exact ⟨(4294967296 - (r + (v.getD (((cn v).length : Int) - 1).toNat 0))).toNat, by omega, g - 1, r + (v.getD (((cn v).length : Int) - 1).toNat 0), by omega, by omega, by omega, by omega, hgr2, hU2, by kernel_rfl, rfl⟩
  ·have khb1 := hb1; (try simp only [kb] at khb1)
   refine X_yes' rfl rfl rfl hb1 (A_mvT (.inl rfl) rfl rfl) ?_
   refine X_yes' rfl rfl rfl hb1 (A_mvT (.inl rfl) rfl rfl) ?_
   have hgv := fun (h : g < 4294967296) => mul_bound ⟨hg0, h⟩ hv2
   refine X_yes' rfl rfl rfl hb1 (A_int rfl rfl rfl ⟨by decide, by decide⟩ (mulU ⟨(hgv (by omega)).1, by have := hgv (by omega); omega⟩)) ?_
   refine X_yes' rfl rfl rfl hb1 (A_mvT (.inl rfl) rfl rfl) ?_
   refine X_yes' rfl rfl rfl hb1 (A_sh rfl rfl rfl (shl32 (by omega))) ?_
   refine X_yes' rfl rfl rfl hb1 (A_mvT (.inl rfl) rfl rfl) ?_
   refine X_yes' rfl rfl rfl hb1 (A_mvT (.inl rfl) rfl rfl) ?_
   refine X_yes' rfl rfl rfl hb1 (A_int rfl rfl rfl ⟨by decide, by decide⟩ (subI (by omega))) ?_
   refine X_yes' rfl rfl rfl hb1 (A_ixA 0 rfl rfl rfl rfl rfl rfl rfl (by omega) (by omega) rfl rfl) ?_
   refine X_yes' rfl rfl rfl hb1 (A_ld rfl rfl rfl (ld_ip1 rfl rfl rfl)) ?_
   refine X_yes' rfl rfl rfl hb1 (A_conv rfl rfl rfl rfl rfl (wU (by omega) (by omega))) ?_
   refine X_yes' rfl rfl rfl hb1 (A_int rfl rfl rfl ⟨by decide, by decide⟩ (or32 ⟨hr0, hr1⟩ hu2)) ?_
   refine X_yes' rfl rfl rfl hb1 (A_int rfl rfl rfl ⟨by decide, by decide⟩ rfl) ?_
   refine X_op' rfl (A_pickF rfl rfl hb1 rfl) ?_
   refine X_endS ?_
   try dsimp only [St.put, szA, List.length, Nat.reduceAdd]
   refine W_condB rfl (fun hb3 => ?_) (fun hb3 => ?_)
   ·have khb3 := hb3; (try simp only [kb] at khb3)
    refine W_skip ?_
    refine Q_seq ?_
    refine W_blk ?_
    refine wsr ?_
    have hg1 : 1 ≤ g := hpos (by first | (left; omega) | (right; omega))
    refine xm rfl rfl rfl rfl ?_
    refine X_op' rfl (A_int rfl rfl rfl ⟨by decide, by decide⟩ (subU (by omega))) ?_
    refine xa rfl rfl rfl rfl ?_
    refine X_endS ?_
    try dsimp only [St.put, szA, List.length, Nat.reduceAdd]
    refine wsr ?_
    refine xm rfl rfl rfl rfl ?_
    refine xm rfl rfl rfl rfl ?_
    refine X_op' rfl (A_int rfl rfl rfl ⟨by decide, by decide⟩ (addU (by omega))) ?_
    refine xa rfl rfl rfl rfl ?_
    refine X_endS ?_
    try dsimp only [St.put, szA, List.length, Nat.reduceAdd]
    refine wsr ?_
    refine xm rfl rfl rfl rfl ?_
    refine X_op' rfl (A_sh rfl rfl rfl shr32) ?_
    refine X_op' rfl (A_int rfl rfl rfl ⟨by decide, by decide⟩ rfl) ?_
    refine X_endS ?_
    try dsimp only [St.put, szA, List.length, Nat.reduceAdd]
    refine W_condB rfl (fun hb4 => ?_) (fun hb4 => ?_)
    ·have khb4 := hb4; (try simp only [kb] at khb4)
     refine W_exit ?_
     refine Q_blkX (by decide) ?_
     refine Q_rndX ?_
     refine Q_blkE ?_
     refine Q_seq ?_
     refine wsr ?_
     refine xm rfl rfl rfl rfl ?_
     refine xa rfl rfl rfl rfl ?_
     refine X_endS ?_
     try dsimp only [St.put, szA, List.length, Nat.reduceAdd]
     refine W_ret ?_
     have hU2 : nv u < (g - 1 + 1) * nv v := by rw [tu', tv']; exact NumK.guess_step hH hvl0 hul1 hg0 hgr (by omega)
     have hgr2 : (g - 1) * (v.getD (((cn v).length : Int) - 1).toNat 0) + (r + (v.getD (((cn v).length : Int) - 1).toNat 0)) = (u.getD ((cn v).length : Int).toNat 0 * 4294967296 + u.getD (((cn v).length : Int) - 1).toNat 0) := by rw [← hgr, Int.sub_mul]; omega
     have hbk := NumK.guess_break (g := g - 1) (by omega) (by omega) hv2.2 hv2.1 hu2.1 hgr2 hnum (by omega)
     exact ⟨g - 1, ⟨by omega, hbk.1, hU2, (by rw [tu', tv']; exact NumK.guess_exit hH hvl1 hvl0 hul0 (by omega) hbk.1 (by omega) hv2.1 hgr2 hbk.2)⟩, end_R rfl (.t rfl .nil)⟩
    ·have khb4 := hb4; (try simp only [kb] at khb4)
     refine W_skip ?_
     refine Q_blkN ?_
     have hU2 : nv u < (g - 1 + 1) * nv v := by rw [tu', tv']; exact NumK.guess_step hH hvl0 hul1 hg0 hgr (by omega)
     have hgr2 : (g - 1) * (v.getD (((cn v).length : Int) - 1).toNat 0) + (r + (v.getD (((cn v).length : Int) - 1).toNat 0)) = (u.getD ((cn v).length : Int).toNat 0 * 4294967296 + u.getD (((cn v).length : Int) - 1).toNat 0) := by rw [← hgr, Int.sub_mul]; omega
     exact ⟨(4294967296 - (r + (v.getD (((cn v).length : Int) - 1).toNat 0))).toNat, by omega, g - 1, r + (v.getD (((cn v).length : Int) - 1).toNat 0), by omega, by omega, by omega, by omega, hgr2, hU2, by kernel_rfl, rfl⟩
   ·have khb3 := hb3; (try simp only [kb] at khb3)
    refine W_exit ?_
    refine Q_seqX ?_
    refine Q_rndX ?_
    refine Q_blkE ?_
    refine Q_seq ?_
    refine wsr ?_
    refine xm rfl rfl rfl rfl ?_
    refine xa rfl rfl rfl rfl ?_
    refine X_endS ?_
    try dsimp only [St.put, szA, List.length, Nat.reduceAdd]
    refine W_ret ?_
    exact ⟨g, ⟨hg0, by omega, hUg, (by rw [tu', tv']; exact NumK.guess_exit hH hvl1 hvl0 hul0 hg0 (by omega) (by omega) hv2.1 hgr (by omega))⟩, end_R rfl (.t rfl .nil)⟩
noncomputable def g160 : List T → Option Ret := fun ts => if ts.length = 2 then pureRun ty noneS keep160 4398046511104 false Tryz.f160.results (Tryz.f160.body.getD .skip) ts else none
theorem s160 : SpecOk Tryz.prog 160 (viewSpec g160) := pure_ok mixed ty_ok none_ok Tryz.func160 rfl (by kernel_rfl) (enters_of Tryz.func160 (by kernel_rfl) rfl) keep160 (fun _ => 4398046511104) false 2 (by decide)
theorem c160 {u v : List Int} {k : Nat} (hu : U32 u) (hv : U32 v) (hul : u.length = k + 3) (hvl : v.length = k + 2) (hk : k ≤ 1099511627776) (hn : 2147483648 ≤ v.getD (k + 1) 0) (hlt : nv u < 4294967296 * nv v) :
    ∃ g : Int, (0 ≤ g ∧ g < 4294967296 ∧ nv u < (g + 1) * nv v ∧ (g - 1) * nv v ≤ nv u) ∧ g160 [tn u, tn v] = some (.ts [.v (.int .u64 g)]) :=
  run160 u v k hu hv hul hvl hk hn hlt _ (by omega) _ rfl
def decO : Option O → Option (List Int)
  | some ⟨61, 1, rows⟩ => rows.mapM unlim
  | _ => none
theorem decO_some {o : Option O} {l : List Int} (h : decO o = some l) : o = some ⟨61, 1, cn l⟩ ∧ U32 l := by
  unfold decO at h
  split at h
  · obtain ⟨rfl, h2⟩ := unlims_some h; exact ⟨rfl, h2⟩
  · cases h
theorem decO_eq {l : List Int} (h : U32 l) : decO (some ⟨61, 1, cn l⟩) = some l := unlims_cn l h
theorem window (u : List Int) (lo n : Nat) : u = u.take lo ++ (u.drop lo).take (n + 1) ++ u.drop (lo + (n + 1)) := by
  rw [List.append_assoc, ← List.drop_drop, List.take_append_drop, List.take_append_drop]
/-- What natural.subtract does. -/
noncomputable def m161 : Spec := fun args m =>
  match args with
  | [.ms ia 1 lo la, .ms ib 1 0 n, .t (.v (.int .u64 q))] =>
    match decO (m ia), decO (m ib) with
    | some u, some v =>
      if ia ≠ ib ∧ la = n + 1 ∧ lo + (n + 1) ≤ u.length ∧ n ≤ v.length ∧ n ≤ 1099511627776 ∧ 0 ≤ q ∧ q < 4294967296 then
        some (.ts [.v (.bool (decide (nv ((u.drop lo).take (n + 1)) < q * nv (v.take n))))], [(ia, some ⟨61, 1, cn (u.take lo ++ dig (n + 1) ((nv ((u.drop lo).take (n + 1)) - q * nv (v.take n)) % P (n + 1)) ++ u.drop (lo + (n + 1)))⟩), (ib, some ⟨61, 1, cn v⟩)])
      else none
    | _, _ => none
  | _ => none
theorem s161 : SpecOk Tryz.prog 161 m161 := by
  refine SpecOk.less (mut_ok mixed ty_ok (none_ok (P := Tryz.prog)) Tryz.func161 rfl (by kernel_rfl) (enters_of Tryz.func161 (by kernel_rfl) rfl) keep161 4398046511104 3 (by decide)) fun args m q h => ?_
  unfold m161 at h
  split at h
  · rename_i ia lo la ib n q'
    split at h
    · rename_i u v hu hv
      obtain ⟨hma, uu⟩ := decO_some hu
      obtain ⟨hmb, uv⟩ := decO_some hv
      split at h
      · rename_i hc
        obtain ⟨h1, rfl, h3, h4, h5, h6⟩ := hc
        have hlo : (u.take lo).length = lo := by rw [List.length_take]; omega
        have hr := run161 (sp := noneS) (u.take lo) ((u.drop lo).take (n + 1)) (u.drop (lo + (n + 1))) v n q' ia ib h1 m (by rw [← window]; exact hma) hmb (by rw [List.length_take, List.length_drop]; omega) h4 h5 (U32_take (U32_drop uu lo) _) uv h6 4398046511104 (by omega) _ rfl
        rw [hlo] at hr
        exact (if_pos (by rfl)).trans (hr.trans h)
      · cases h
    · cases h
  · cases h
/-- What natural.restore does. -/
noncomputable def m162 : Spec := fun args m =>
  match args with
  | [.ms ia 1 lo la, .ms ib 1 0 n] =>
    match decO (m ia), decO (m ib) with
    | some u, some v =>
      if ia ≠ ib ∧ la = n + 1 ∧ lo + (n + 1) ≤ u.length ∧ n ≤ v.length ∧ n ≤ 1099511627776 then
        some (.ts [], [(ia, some ⟨61, 1, cn (u.take lo ++ dig (n + 1) ((nv ((u.drop lo).take (n + 1)) + nv (v.take n)) % P (n + 1)) ++ u.drop (lo + (n + 1)))⟩), (ib, some ⟨61, 1, cn v⟩)])
      else none
    | _, _ => none
  | _ => none
theorem s162 : SpecOk Tryz.prog 162 m162 := by
  refine SpecOk.less (mut_ok mixed ty_ok (none_ok (P := Tryz.prog)) Tryz.func162 rfl (by kernel_rfl) (enters_of Tryz.func162 (by kernel_rfl) rfl) keep162 4398046511104 2 (by decide)) fun args m q h => ?_
  unfold m162 at h
  split at h
  · rename_i ia lo la ib n
    split at h
    · rename_i u v hu hv
      obtain ⟨hma, uu⟩ := decO_some hu
      obtain ⟨hmb, uv⟩ := decO_some hv
      split at h
      · rename_i hc
        obtain ⟨h1, rfl, h3, h4, h5⟩ := hc
        have hlo : (u.take lo).length = lo := by rw [List.length_take]; omega
        have hr := run162 (sp := noneS) (u.take lo) ((u.drop lo).take (n + 1)) (u.drop (lo + (n + 1))) v n ia ib h1 m (by rw [← window]; exact hma) hmb (by rw [List.length_take, List.length_drop]; omega) h4 h5 (U32_take (U32_drop uu lo) _) uv 4398046511104 (by omega) _ rfl
        rw [hlo] at hr
        exact (if_pos (by rfl)).trans (hr.trans h)
      · cases h
    · cases h
  · cases h

end Go.Ev.S
/- Plain numbers: what the long division needs. -/
set_option linter.unusedVariables false
namespace Go.Ev.S
open NumA Go Go.Ev
theorem high_zero {u : List Int} (hU : U32 u) (n : Nat) (h : nv u < P n) : nv (u.drop n) = 0 ∧ nv (u.take n) = nv u := by
  rcases Nat.lt_or_ge u.length n with hn | hn
  · exact ⟨nv_drop_all u n (by omega), nv_take_all u n (by omega)⟩
  · have h1 := nv_split u n hn
    have h2 := nv_nonneg (U32_take hU n)
    have h3 := nv_nonneg (U32_drop hU n)
    have hP := P_pos n
    have h4 : nv (u.drop n) = 0 := by
      rcases Int.lt_or_le 0 (nv (u.drop n)) with h5 | h5
      · exfalso
        have : P n * 1 ≤ P n * nv (u.drop n) := Int.mul_le_mul_of_nonneg_left (by omega) (by omega)
        omega
      · omega
    refine ⟨h4, ?_⟩
    rw [h4, Int.mul_zero, Int.add_zero] at h1
    exact h1.symm
/-- A window that is written anew. -/
def rew (u : List Int) (j n : Nat) (x : Int) : List Int := u.take j ++ dig (n + 1) x ++ u.drop (j + (n + 1))
theorem rew_length {u : List Int} {j n : Nat} {x : Int} (h : j + (n + 1) ≤ u.length) : (rew u j n x).length = u.length := by
  simp only [rew, List.length_append, dig_length, List.length_take, List.length_drop]; omega
theorem rew_U32 {u : List Int} (hU : U32 u) (j n : Nat) (x : Int) : U32 (rew u j n x) :=
  U32_append.2 ⟨U32_append.2 ⟨U32_take hU _, dig_U32 _ _⟩, U32_drop hU _⟩
theorem rew_take {u : List Int} {j n : Nat} {x : Int} (h : j + (n + 1) ≤ u.length) : (rew u j n x).take j = u.take j := by
  unfold rew
  rw [List.append_assoc, List.take_append_of_le_length (by rw [List.length_take]; omega), List.take_take, Nat.min_self]
theorem rew_drop {u : List Int} {j n : Nat} {x : Int} (h : j + (n + 1) ≤ u.length) : (rew u j n x).drop j = dig (n + 1) x ++ u.drop (j + (n + 1)) := by
  unfold rew
  rw [List.append_assoc, List.drop_append_of_le_length (by rw [List.length_take]; omega), List.drop_eq_nil_of_le (by rw [List.length_take]; omega), List.nil_append]
theorem rew_win {u : List Int} {j n : Nat} {x : Int} (h : j + (n + 1) ≤ u.length) : ((rew u j n x).drop j).take (n + 1) = dig (n + 1) x := by
  rw [rew_drop h, List.take_append_of_le_length (by rw [dig_length]; omega), List.take_of_length_le (by rw [dig_length]; omega)]
theorem rew_high {u : List Int} {j n : Nat} {x : Int} (h : j + (n + 1) ≤ u.length) : (rew u j n x).drop (j + (n + 1)) = u.drop (j + (n + 1)) := by
  rw [← List.drop_drop, rew_drop h, List.drop_append_of_le_length (by rw [dig_length]; omega), List.drop_eq_nil_of_le (by rw [dig_length]; omega), List.nil_append]
theorem rew_rew {u : List Int} {j n : Nat} {x y : Int} (h : j + (n + 1) ≤ u.length) : rew (rew u j n x) j n y = rew u j n y := by
  rw [rew, rew_take h, rew_high h]; rfl
theorem rew_nv {u : List Int} {j n : Nat} {x : Int} (h : j + (n + 1) ≤ u.length) (hx0 : 0 ≤ x) (hx1 : x < P (n + 1)) (hz : nv (u.drop (j + (n + 1))) = 0) :
    nv ((rew u j n x).drop j) = x ∧ nv (rew u j n x) = nv (u.take j) + P j * x := by
  have h1 : nv ((rew u j n x).drop j) = x := by
    rw [rew_drop h, nv_append, nv_dig _ _ hx0 hx1, hz, Int.mul_zero, Int.add_zero]
  refine ⟨h1, ?_⟩
  rw [nv_split (rew u j n x) j (by rw [rew_length h]; omega), h1, rew_take h]
/-- What is known of the window at place j. -/
theorem win_facts {u : List Int} {j n : Nat} {V : Int} (hU : U32 u) (h : j + (n + 1) ≤ u.length) (hV : V < P n) (hd : nv (u.drop (j + 1)) < V) :
    nv (u.drop (j + (n + 1))) = 0 ∧ nv ((u.drop j).take (n + 1)) = nv (u.drop j) ∧ nv (u.drop j) < 4294967296 * V ∧ 0 ≤ nv (u.drop j) := by
  have h1 := high_zero (U32_drop hU (j + 1)) n (by omega)
  have h2 := nv_drop_succ u j (by omega)
  have h3 := U32_getD hU j
  have h4 := nv_nonneg (U32_drop hU (j + 1))
  have h0 : nv (u.drop j) < P (n + 1) := by rw [P_succ]; omega
  have h5 := high_zero (U32_drop hU j) (n + 1) h0
  rw [List.drop_drop] at h5
  exact ⟨h5.1, h5.2, by omega, by omega⟩
/-- One digit. -/
theorem long_digit {u q : List Int} {j n : Nat} {V A g R : Int} (hU : U32 u) (h : j + (n + 1) ≤ u.length) (hV : V < P n) (hd : nv (u.drop (j + 1)) < V) (hq : j < q.length)
    (hinv : nv u + V * (P (j + 1) * nv (q.drop (j + 1))) = A) (hR : R = nv (u.drop j) - g * V) (hR0 : 0 ≤ R) (hR1 : R < V) :
    nv (rew u j n R) + V * (P j * nv ((q.set j g).drop j)) = A ∧ nv ((rew u j n R).drop j) < V := by
  obtain ⟨w1, w2, w3, w4⟩ := win_facts hU h hV hd
  obtain ⟨r1, r2⟩ := rew_nv (x := R) h hR0 (by rw [P_succ]; omega) w1
  refine ⟨?_, by rw [r1]; exact hR1⟩
  have h1 := nv_split u j (by omega)
  rw [r2, nv_drop_succ (q.set j g) j (by rw [List.length_set]; exact hq), NumA.getD_set_self _ _ _ hq, List.drop_set_of_lt (by omega), ← hinv, h1, hR, P_succ]
  grind
theorem rest_bound {W g V : Int} (h1 : W < (g + 1) * V) (h2 : (g - 1) * V ≤ W) : (¬ W < g * V → 0 ≤ W - g * V ∧ W - g * V < V) ∧ (W < g * V → 0 ≤ W - (g - 1) * V ∧ W - (g - 1) * V < V) := by
  rw [Int.add_mul] at h1
  rw [Int.sub_mul] at h2
  refine ⟨fun h => ⟨by omega, by omega⟩, fun h => ?_⟩
  rw [Int.sub_mul]
  omega
theorem sub_mod {W g V Q : Int} (h : 0 ≤ W - g * V ∧ W - g * V < Q) : (W - g * V) % Q = W - g * V := Int.emod_eq_of_lt h.1 h.2
theorem back_mod {W g V Q : Int} (h : 0 ≤ W - (g - 1) * V ∧ W - (g - 1) * V < Q) : ((W - g * V) % Q + V) % Q = W - (g - 1) * V := by
  rw [Int.emod_add_emod, show W - g * V + V = W - (g - 1) * V by rw [Int.sub_mul]; omega, Int.emod_eq_of_lt h.1 h.2]
theorem long_sub {u v : List Int} {j n : Nat} {V g : Int} (hv : nv (v.take n) = V) (hw : nv ((u.drop j).take (n + 1)) = nv (u.drop j)) (hV : V < P n) (h : 0 ≤ nv (u.drop j) - g * V ∧ nv (u.drop j) - g * V < V) :
    rew u j n ((nv ((u.drop j).take (n + 1)) - g * nv (v.take n)) % P (n + 1)) = rew u j n (nv (u.drop j) - g * V) := by
  rw [hv, hw, sub_mod ⟨h.1, by have := P_pos n; rw [P_succ]; omega⟩]
theorem long_back {u v : List Int} {j n : Nat} {V g : Int} (hj : j + (n + 1) ≤ u.length) (hv : nv (v.take n) = V) (hw : nv ((u.drop j).take (n + 1)) = nv (u.drop j)) (hV : V < P n) (h : 0 ≤ nv (u.drop j) - (g - 1) * V ∧ nv (u.drop j) - (g - 1) * V < V) {x : Int} (hx : x = (nv ((u.drop j).take (n + 1)) - g * nv (v.take n)) % P (n + 1)) :
    rew (rew u j n x) j n ((nv (((rew u j n x).drop j).take (n + 1)) + nv (v.take n)) % P (n + 1)) = rew u j n (nv (u.drop j) - (g - 1) * V) := by
  rw [rew_rew hj, rew_win hj]
  have hP := P_pos (n + 1)
  rw [hv, hw] at hx
  have h1 : nv (dig (n + 1) x) = x := nv_dig _ _ (by rw [hx]; exact Int.emod_nonneg _ (by omega)) (by rw [hx]; exact Int.emod_lt_of_pos _ hP)
  rw [h1, hv, hx, back_mod ⟨h.1, by have := P_pos n; rw [P_succ]; omega⟩]
/-- The end. -/
theorem long_end {a b S V A r Q : Int} (hb : 0 < b) (hS : 0 < S) (hV : V = b * S) (hA : A = a * S) (h : r + V * Q = A) (h0 : 0 ≤ r) (h1 : r < V) : Q = a / b ∧ r / S = a % b := by
  have hVp : 0 < V := by rw [hV]; exact Int.mul_pos hb hS
  have e1 : A / V = Q := by
    rw [← h, Int.add_mul_ediv_left _ _ (by omega), Int.ediv_eq_zero_of_lt h0 h1, Int.zero_add]
  have e2 : A / V = a / b := by rw [hA, hV]; exact Int.mul_ediv_mul_of_pos_left _ _ hS
  have e3 : r = a % b * S := by
    have := Int.emod_add_mul_ediv a b
    rw [hA, hV, ← e1, e2] at h
    have h9 : a * S = a % b * S + b * S * (a / b) := by
      rw [Int.mul_assoc, Int.mul_comm S, ← Int.mul_assoc, ← Int.add_mul, this]
    omega
  exact ⟨by omega, by rw [e3, Int.mul_ediv_cancel _ (by omega)]⟩
/-- How far the divisor is shifted. -/
theorem shift_facts {b : List Int} {n : Nat} (hU : U32 b) (hn : b.length = n + 1) (hl : b.getD n 0 ≠ 0) {s : Nat} (hs : s = 32 - Lib.bitLen (b.getD n 0).toNat) :
    s < 32 ∧ 32 - (Lib.bitLen (b.getD n 0).toNat : Int) = (s : Int) ∧ nv b * 2 ^ s < P (n + 1) ∧ 2147483648 * P n ≤ nv b * 2 ^ s ∧ 0 < nv b := by
  have hx := U32_getD hU n
  generalize hxe : b.getD n 0 = x at hx hs hl ⊢
  obtain ⟨k, rfl⟩ := Int.eq_ofNat_of_zero_le hx.1
  rw [Int.toNat_natCast] at hs ⊢
  have hb := Lib.bitLenAux_bounds 64 k (by omega) (by omega)
  have hb2 := Lib.bitLen_le k 32 (by omega) (by omega)
  change 1 ≤ Lib.bitLen k ∧ 2 ^ (Lib.bitLen k - 1) ≤ k ∧ k < 2 ^ Lib.bitLen k at hb
  generalize hL : Lib.bitLen k = L at *
  obtain ⟨c1, c2, c3⟩ := hb
  have e := nv_take_succ' b n
  rw [List.take_of_length_le (by omega), hxe] at e
  have t0 := nv_nonneg (U32_take hU n)
  have t1 := nv_lt (U32_take hU n)
  rw [List.length_take, Nat.min_eq_left (by omega)] at t1
  have hP := P_pos n
  have p1 : (2 : Nat) ^ L * 2 ^ s = 4294967296 := by rw [hs, ← Nat.pow_add, show L + (32 - L) = 32 by omega]
  have p2 : (2 : Nat) ^ (L - 1) * 2 ^ s = 2147483648 := by rw [hs, ← Nat.pow_add, show L - 1 + (32 - L) = 31 by omega]
  have q0 : (0 : Int) < 2 ^ s := pow_pos' s
  have e2 : ((2 : Int) ^ s) = ((2 ^ s : Nat) : Int) := by rw [Int.natCast_pow]; rfl
  have f1 : (k + 1) * 2 ^ s ≤ 4294967296 := by rw [← p1]; exact Nat.mul_le_mul_right _ (by omega)
  have f2 : 2147483648 ≤ k * 2 ^ s := by rw [← p2]; exact Nat.mul_le_mul_right _ (by omega)
  have g1 : ((k : Int) + 1) * 2 ^ s ≤ 4294967296 := by
    rw [e2, show ((k : Int) + 1) = ((k + 1 : Nat) : Int) by omega, ← Int.natCast_mul]; exact Int.ofNat_le.2 f1
  have g2 : 2147483648 ≤ (k : Int) * 2 ^ s := by
    rw [e2, ← Int.natCast_mul]; exact Int.ofNat_le.2 f2
  have pk : P n * 1 ≤ P n * (k : Int) := Int.mul_le_mul_of_nonneg_left (by omega) (by omega)
  refine ⟨by omega, by omega, ?_, ?_, by omega⟩
  · have h1 : nv b < P n * (k + 1) := by rw [Int.mul_add]; omega
    have h2 : nv b * 2 ^ s < P n * (k + 1) * 2 ^ s := Int.mul_lt_mul_of_pos_right h1 q0
    have h3 : P n * ((k + 1) * 2 ^ s) ≤ P n * 4294967296 := Int.mul_le_mul_of_nonneg_left g1 (by omega)
    rw [P_succ]
    rw [Int.mul_assoc] at h2
    omega
  · have h1 : P n * k ≤ nv b := by omega
    have h2 : P n * k * 2 ^ s ≤ nv b * 2 ^ s := Int.mul_le_mul_of_nonneg_right h1 (by omega)
    have h3 : P n * 2147483648 ≤ P n * (k * 2 ^ s) := Int.mul_le_mul_of_nonneg_left g2 (by omega)
    rw [Int.mul_assoc] at h2
    omega
theorem top_digit {V : Int} {k : Nat} (h0 : 2147483648 * P k ≤ V) (h1 : V < P (k + 1)) {l : List Int} (hU : U32 l) (hl : l.length = k + 1) (hv : nv l = V) : 2147483648 ≤ l.getD k 0 := by
  have e := nv_take_succ' l k
  rw [List.take_of_length_le (by omega), hv] at e
  have t1 := nv_lt (U32_take hU k)
  rw [List.length_take, Nat.min_eq_left (by omega)] at t1
  have hP := P_pos k
  rcases Int.lt_or_le (l.getD k 0) 2147483648 with h | h
  · exfalso
    have : P k * l.getD k 0 ≤ P k * 2147483647 := Int.mul_le_mul_of_nonneg_left (by omega) (by omega)
    omega
  · exact h
/-- The first window: the topmost limbs are less than the divisor. -/
theorem first_win {a : List Int} {n s : Nat} {V : Int} (hU : U32 a) (hn : n + 1 ≤ a.length) (hs : s < 32) (hV : 2147483648 * P n ≤ V) :
    nv ((dig (a.length + 1) (nv a * 2 ^ s)).drop (a.length - (n + 1) + 1)) < V := by
  have q0 : (0 : Int) < 2 ^ s := pow_pos' s
  have h0 := nv_nonneg hU
  have h1 := nv_lt hU
  have q1 : (2 : Int) ^ s ≤ 2147483648 := by
    have h9 : (2 : Nat) ^ s ≤ 2147483648 := (Nat.pow_le_pow_right (by omega) (show s ≤ 31 by omega) : (2 : Nat) ^ s ≤ 2 ^ 31)
    rw [show ((2 : Int) ^ s) = ((2 ^ s : Nat) : Int) by rw [Int.natCast_pow]; rfl]
    exact Int.ofNat_le.2 h9
  have q2 : nv a * 2 ^ s < P a.length * 2147483648 := by
    have b1 : nv a * 2 ^ s ≤ nv a * 2147483648 := Int.mul_le_mul_of_nonneg_left q1 h0
    have b2 : nv a * 2147483648 < P a.length * 2147483648 := Int.mul_lt_mul_of_pos_right h1 (by omega)
    omega
  have hx0 : 0 ≤ nv a * 2 ^ s := Int.mul_nonneg h0 (by omega)
  have hP := P_pos a.length
  have hv : nv (dig (a.length + 1) (nv a * 2 ^ s)) = nv a * 2 ^ s := nv_dig _ _ hx0 (by rw [P_succ]; omega)
  generalize hL : dig (a.length + 1) (nv a * 2 ^ s) = L at *
  have hUL : U32 L := by rw [← hL]; exact dig_U32 _ _
  have hlen : L.length = a.length + 1 := by rw [← hL]; exact dig_length _ _
  have hm : a.length - (n + 1) + 1 = a.length - n := by omega
  rw [hm]
  have e := nv_split L (a.length - n) (by omega)
  have e0 := nv_nonneg (U32_take hUL (a.length - n))
  have hP2 := P_pos (a.length - n)
  have e3 : P a.length = P (a.length - n) * P n := by rw [← P_add, show a.length - n + n = a.length by omega]
  rcases Int.lt_or_le (nv (L.drop (a.length - n))) V with h | h
  · exact h
  · exfalso
    have b1 : P (a.length - n) * (2147483648 * P n) ≤ P (a.length - n) * nv (L.drop (a.length - n)) := Int.mul_le_mul_of_nonneg_left (by omega) (by omega)
    have b2 : P (a.length - n) * (2147483648 * P n) = P a.length * 2147483648 := by rw [e3]; grind
    omega
end Go.Ev.S
/- The package integer: walks. -/
set_option linter.unusedVariables false
set_option linter.unusedSimpArgs false
set_option maxRecDepth 100000
namespace Go.Ev.S
open Go Go.Ev Go.Proofs NumA
/-- An Integer: its sign and its limbs. -/
abbrev tz (b : Bool) (l : List Int) : T := .agg [.v (.bool b), tn l]
def keep104 : Nat → List Nat := fun _ => []
set_option maxHeartbeats 4000000 in
theorem run104 {sp : Nat → Option Spec} (b : Bool) (l : List Int) (fuel : Nat) (c : Code) (hc : Tryz.f104.body = some c) :
    pureRun ty sp keep104 fuel false Tryz.f104.results c [.v (.bool b), tn l] = some (.ts [tz (b && decide (0 < l.length)) l]) := by
  injection hc with hc
  subst hc
  have e1 := cn_length l
  refine pure_wc ?_
  refine wsr ?_
  refine X_op' rfl (A_alloc rfl rfl) ?_
  refine X_endS ?_
  try dsimp only [St.put, szA, List.length, Nat.reduceAdd]
  refine wsr ?_
  refine xm rfl rfl rfl rfl ?_
  refine xm rfl rfl rfl rfl ?_
  refine X_both (d := 6) rfl (fun hb1 => ?_) (fun hb1 => ?_)
  ·have khb1 := hb1; (try simp only [kb] at khb1)
   refine X_yes' rfl rfl rfl hb1 (A_mvT (.inl rfl) rfl rfl) ?_
   refine X_yes' rfl rfl rfl hb1 (A_lenT rfl rfl rfl rfl rfl rfl rfl) ?_
   refine X_yes' rfl rfl rfl hb1 (A_int rfl rfl rfl ⟨by decide, by decide⟩ rfl) ?_
   refine X_op' rfl (A_pickT rfl rfl hb1 rfl) ?_
   refine xm rfl rfl rfl rfl ?_
   refine X_op' rfl (A_build rfl rfl rfl (.cons (V_t rfl) (K_t rfl) (.cons (V_t rfl) (K_t rfl) .nil)) rfl rfl rfl) ?_
   refine X_op' rfl (A_stV rfl rfl rfl (V_t rfl) (K_t rfl) rfl rfl rfl rfl rfl rfl rfl) ?_
   refine X_endS ?_
   try dsimp only [St.put, szA, List.length, Nat.reduceAdd]
   refine W_ret ?_
   have hr : (b && decide (0 < l.length)) = decide (((cn l).length : Int) > 0) := by rw [hb1, Bool.true_and]; congr 1; rw [e1]; simp
   rw [hr]
   exact end_R rfl (.c rfl (ld_mp rfl rfl rfl rfl rfl rfl) .nil)
  ·have khb1 := hb1; (try simp only [kb] at khb1)
   refine X_no1 rfl rfl rfl hb1 ?_
   refine X_no1 rfl rfl rfl hb1 ?_
   refine X_no1 rfl rfl rfl hb1 ?_
   refine X_op' rfl (A_pickF rfl rfl hb1 rfl) ?_
   refine xm rfl rfl rfl rfl ?_
   refine X_op' rfl (A_build rfl rfl rfl (.cons (V_t rfl) (K_t rfl) (.cons (V_t rfl) (K_t rfl) .nil)) rfl rfl rfl) ?_
   refine X_op' rfl (A_stV rfl rfl rfl (V_t rfl) (K_t rfl) rfl rfl rfl rfl rfl rfl rfl) ?_
   refine X_endS ?_
   try dsimp only [St.put, szA, List.length, Nat.reduceAdd]
   refine W_ret ?_
   have hr : (b && decide (0 < l.length)) = false := by rw [hb1, Bool.false_and]
   rw [hr]
   exact end_R rfl (.c rfl (ld_mp rfl rfl rfl rfl rfl rfl) .nil)
def decB : T → Option Bool
  | .v (.bool b) => some b
  | _ => none
theorem decB_some {t : T} {b : Bool} (h : decB t = some b) : t = .v (.bool b) := by
  unfold decB at h
  split at h
  · simp only [Option.some.injEq] at h; subst h; rfl
  · cases h

def g104 : List T → Option Ret := fun ts => match ts with | [t, u] => (match decB t, decN u with | some b, some l => some (.ts [tz (b && decide (0 < l.length)) l]) | _, _ => none) | _ => none
theorem ok104 {sp : Nat → Option Spec} (hS : ∀ f s, sp f = some s → SpecOk Tryz.prog f s) (hr : ∀ ts r, g104 ts = some r → ts.length = 2 ∧ pureRun ty sp keep104 4398046511104 false Tryz.f104.results (Tryz.f104.body.getD .skip) ts = some r) : SpecOk Tryz.prog 104 (viewSpec g104) := by
  refine SpecOk.view (pure_ok mixed ty_ok hS Tryz.func104 rfl (by kernel_rfl) (enters_of Tryz.func104 (by kernel_rfl) rfl) keep104 (fun _ => 4398046511104) false 2 (by decide)) fun ts r h => ?_
  rw [if_pos (hr ts r h).1]
  exact (hr ts r h).2
theorem c104 {b : Bool} {l : List Int} (h : U32 l) (hl : l.length ≤ 1099511627776) : g104 [.v (.bool b), tn l] = some (.ts [tz (b && decide (0 < l.length)) l]) := by
  simp only [g104, decB, decN_tn h hl]
theorem s104 : SpecOk Tryz.prog 104 (viewSpec g104) := ok104 none_ok fun ts r h => by
  unfold g104 at h
  split at h
  · split at h
    · rename_i b l hb hl
      obtain rfl := decB_some hb
      obtain ⟨rfl, _, _⟩ := decN_some hl
      exact ⟨rfl, (run104 b l _ _ rfl).trans h⟩
    · cases h
  · cases h
abbrev spI1 : Nat → Option Spec := more 104 (viewSpec g104) spN3
theorem hI1 : ∀ f s, spI1 f = some s → SpecOk Tryz.prog f s := more_ok s104 hN3
/-- The value of an Integer. -/
def ivI (b : Bool) (l : List Int) : Int := if b = true then - nv l else nv l
def te (z : Int) : T := tz (decide (z < 0)) (en (if z < 0 then -z else z))
theorem with_te {b : Bool} {m : Int} (hm : 0 ≤ m) : tz (b && decide (0 < (en m).length)) (en m) = te (if b = true then -m else m) := by
  rcases Int.lt_or_le 0 m with h | h
  · have hp : 0 < (en m).length := by
      rcases Nat.eq_zero_or_pos (en m).length with h0 | h0
      · have := nv_en hm
        rw [List.eq_nil_of_length_eq_zero h0, nv_nil] at this
        omega
      · exact h0
    cases b with
    | true =>
      simp only [Bool.true_and, if_true, te]
      rw [decide_eq_true hp, decide_eq_true (by omega), if_pos (by omega), Int.neg_neg]
    | false =>
      simp only [Bool.false_and, Bool.false_eq_true, if_false, te]
      rw [decide_eq_false (by omega), if_neg (by omega)]
  · have : m = 0 := by omega
    subst this
    cases b <;> simp [te, en_zero]
def keep70 : Nat → List Nat := fun _ => []
abbrev spI2 : Nat → Option Spec := more 105 (viewSpec g105) spI1
theorem hI2 : ∀ f s, spI2 f = some s → SpecOk Tryz.prog f s := more_ok s105 hI1
set_option maxHeartbeats 4000000 in
theorem run70 (b : Bool) (l : List Int) (hl : U32 l) (hll : l.length ≤ 1099511627776) (fuel : Nat) (c : Code) (hc : Tryz.f70.body = some c) :
    pureRun ty spI2 keep70 fuel false Tryz.f70.results c [tz b l] = some (.ts [te (- ivI b l)]) := by
  injection hc with hc
  subst hc
  have htl := tr_length l
  have hU := U32_tr hl
  refine pure_wc ?_
  refine wsr ?_
  refine X_op' rfl (A_box rfl rfl (V_t rfl) (K_t rfl) rfl rfl rfl) ?_
  refine X_op' rfl (A_alloc rfl rfl) ?_
  refine X_endS ?_
  try dsimp only [St.put, szA, List.length, Nat.reduceAdd]
  refine wsr ?_
  refine X_op' rfl (A_faM rfl rfl rfl rfl rfl) ?_
  refine X_op' rfl (A_ld rfl rfl rfl (ld_fd1 rfl rfl rfl rfl rfl rfl rfl)) ?_
  refine X_op' rfl (A_not rfl rfl) ?_
  refine X_op' rfl (A_faM rfl rfl rfl rfl rfl) ?_
  refine X_op' rfl (A_ld rfl rfl rfl (ld_fd1 rfl rfl rfl rfl rfl rfl rfl)) ?_
  refine X_op' rfl (A_callV rfl rfl rfl rfl (.cons (V_t rfl) (K_t rfl) .nil) (c105 (by assumption) (by assumption))) ?_
  refine X_op' rfl (A_callV rfl rfl rfl rfl (.cons (V_t rfl) (K_t rfl) (.cons (V_t rfl) (K_t rfl) .nil)) (c104 (by assumption) (by omega))) ?_
  refine X_op' rfl (A_stV rfl rfl rfl (V_t rfl) (K_t rfl) rfl rfl rfl rfl rfl rfl rfl) ?_
  refine X_endDS (by kernel_rfl) (by kernel_rfl) ?_
  try dsimp only [St.put, szA, List.length, Nat.reduceAdd]
  refine W_ret ?_
  have hr : te (- ivI b l) = tz (!b && decide (0 < (tr l).length)) (tr l) := by
    rw [tr_eq_en hl, with_te (nv_nonneg hl)]
    congr 1
    unfold ivI
    cases b <;> simp
  rw [hr]
  exact end_R rfl (.c rfl (ld_mp rfl rfl rfl rfl rfl rfl) .nil)
def decZ : T → Option (Bool × List Int)
  | .agg [.v (.bool b), t] => match decN t with
    | some l => some (b, l)
    | none => none
  | _ => none
theorem decZ_some {t : T} {b : Bool} {l : List Int} (h : decZ t = some (b, l)) : t = tz b l ∧ U32 l ∧ l.length ≤ 1099511627776 := by
  unfold decZ at h
  split at h
  · split at h
    · rename_i l' hl
      simp only [Option.some.injEq, Prod.mk.injEq] at h
      obtain ⟨rfl, rfl⟩ := h
      obtain ⟨rfl, h1, h2⟩ := decN_some hl
      exact ⟨rfl, h1, h2⟩
    · cases h
  · cases h
theorem decZ_eq {b : Bool} {l : List Int} (h : U32 l) (hl : l.length ≤ 1099511627776) : decZ (tz b l) = some (b, l) := by
  simp only [decZ, decN_tn h hl]

def g70 : List T → Option Ret := fun ts => match ts with | [t] => (match decZ t with | some (b, l) => some (.ts [te (- ivI b l)]) | none => none) | _ => none
theorem ok70 {sp : Nat → Option Spec} (hS : ∀ f s, sp f = some s → SpecOk Tryz.prog f s) (hr : ∀ ts r, g70 ts = some r → ts.length = 1 ∧ pureRun ty sp keep70 4398046511104 false Tryz.f70.results (Tryz.f70.body.getD .skip) ts = some r) : SpecOk Tryz.prog 70 (viewSpec g70) := by
  refine SpecOk.view (pure_ok mixed ty_ok hS Tryz.func70 rfl (by kernel_rfl) (enters_of Tryz.func70 (by kernel_rfl) rfl) keep70 (fun _ => 4398046511104) false 1 (by decide)) fun ts r h => ?_
  rw [if_pos (hr ts r h).1]
  exact (hr ts r h).2
theorem c70 {b : Bool} {l : List Int} (h : U32 l) (hl : l.length ≤ 1099511627776) : g70 [tz b l] = some (.ts [te (- ivI b l)]) := by
  simp only [g70, decZ_eq h hl]
theorem s70 : SpecOk Tryz.prog 70 (viewSpec g70) := ok70 hI2 fun ts r h => by
  unfold g70 at h
  split at h
  · split at h
    · rename_i b l hz
      obtain ⟨rfl, h1, h2⟩ := decZ_some hz
      exact ⟨rfl, (run70 b l h1 h2 _ _ rfl).trans h⟩
    · cases h
  · cases h

abbrev spI3 : Nat → Option Spec := more 98 (viewSpec g98) spI2
theorem hI3 : ∀ f s, spI3 f = some s → SpecOk Tryz.prog f s := more_ok s98 hI2
def keep82 : Nat → List Nat := fun _ => []
set_option maxHeartbeats 4000000 in
theorem run82 (b d : Bool) (l k : List Int) (hl : U32 l) (hll : l.length ≤ 274877906944) (hk : U32 k) (hkl : k.length ≤ 274877906944) (fuel : Nat) (c : Code) (hc : Tryz.f82.body = some c) :
    pureRun ty spI3 keep82 fuel false Tryz.f82.results c [tz b l, tz d k] = some (.ts [te (ivI b l * ivI d k)]) := by
  injection hc with hc
  subst hc
  have hm : 0 ≤ nv l * nv k := Int.mul_nonneg (nv_nonneg hl) (nv_nonneg hk)
  have hlt : nv l * nv k < P (l.length + k.length) := by
    rw [P_add]
    exact Int.lt_of_le_of_lt (Int.mul_le_mul_of_nonneg_left (Int.le_of_lt (nv_lt hk)) (nv_nonneg hl)) (Int.mul_lt_mul_of_pos_right (nv_lt hl) (P_pos _))
  have hle := en_length hlt
  have hU := U32_en (nv l * nv k)
  refine pure_wc ?_
  refine wsr ?_
  refine X_op' rfl (A_box rfl rfl (V_t rfl) (K_t rfl) rfl rfl rfl) ?_
  refine X_op' rfl (A_box rfl rfl (V_t rfl) (K_t rfl) rfl rfl rfl) ?_
  refine X_op' rfl (A_alloc rfl rfl) ?_
  refine X_endS ?_
  try dsimp only [St.put, szA, List.length, Nat.reduceAdd]
  refine wsr ?_
  refine X_op' rfl (A_faM rfl rfl rfl rfl rfl) ?_
  refine X_op' rfl (A_ld rfl rfl rfl (ld_fd1 rfl rfl rfl rfl rfl rfl rfl)) ?_
  refine X_op' rfl (A_faM rfl rfl rfl rfl rfl) ?_
  refine X_op' rfl (A_ld rfl rfl rfl (ld_fd1 rfl rfl rfl rfl rfl rfl rfl)) ?_
  refine X_op' rfl (A_bne rfl rfl rfl rfl rfl) ?_
  refine X_op' rfl (A_faM rfl rfl rfl rfl rfl) ?_
  refine X_op' rfl (A_ld rfl rfl rfl (ld_fd1 rfl rfl rfl rfl rfl rfl rfl)) ?_
  refine X_op' rfl (A_faM rfl rfl rfl rfl rfl) ?_
  refine X_op' rfl (A_ld rfl rfl rfl (ld_fd1 rfl rfl rfl rfl rfl rfl rfl)) ?_
  refine X_op' rfl (A_callV rfl rfl rfl rfl (.cons (V_t rfl) (K_t rfl) (.cons (V_t rfl) (K_t rfl) .nil)) (c98 hl (by omega) hk (by omega))) ?_
  refine X_op' rfl (A_callV rfl rfl rfl rfl (.cons (V_t rfl) (K_t rfl) (.cons (V_t rfl) (K_t rfl) .nil)) (c104 hU (by omega))) ?_
  refine X_op' rfl (A_stV rfl rfl rfl (V_t rfl) (K_t rfl) rfl rfl rfl rfl rfl rfl rfl) ?_
  refine X_endDS (by kernel_rfl) (by kernel_rfl) ?_
  try dsimp only [St.put, szA, List.length, Nat.reduceAdd]
  refine W_ret ?_
  have hr : te (ivI b l * ivI d k) = tz ((b != d) && decide (0 < (en (nv l * nv k)).length)) (en (nv l * nv k)) := by
    rw [with_te hm]
    congr 1
    unfold ivI
    cases b <;> cases d <;> simp [Int.neg_mul, Int.mul_neg]
  rw [hr]
  exact end_R rfl (.c rfl (ld_mp rfl rfl rfl rfl rfl rfl) .nil)
def gzz (B : Nat) (f : Bool → List Int → Bool → List Int → Ret) : List T → Option Ret
  | [t, u] => match decZ t, decZ u with
    | some (b, l), some (d, k) => if l.length ≤ B ∧ k.length ≤ B then some (f b l d k) else none
    | _, _ => none
  | _ => none
theorem gzz_some {B : Nat} {f : Bool → List Int → Bool → List Int → Ret} {ts : List T} {r : Ret} (h : gzz B f ts = some r) : ∃ b l d k, ts = [tz b l, tz d k] ∧ U32 l ∧ U32 k ∧ l.length ≤ B ∧ k.length ≤ B ∧ r = f b l d k := by
  unfold gzz at h
  split at h
  · split at h
    · rename_i b l d k hz hz'
      obtain ⟨rfl, h1, _⟩ := decZ_some hz
      obtain ⟨rfl, h2, _⟩ := decZ_some hz'
      split at h
      · rename_i hb
        simp only [Option.some.injEq] at h
        exact ⟨b, l, d, k, rfl, h1, h2, hb.1, hb.2, h.symm⟩
      · cases h
    · cases h
  · cases h
theorem gzz_eq {B : Nat} (hB : B ≤ 1099511627776) {f : Bool → List Int → Bool → List Int → Ret} {b d : Bool} {l k : List Int} (h : U32 l) (hl : l.length ≤ B) (h' : U32 k) (hk : k.length ≤ B) : gzz B f [tz b l, tz d k] = some (f b l d k) := by
  simp only [gzz, decZ_eq h (Nat.le_trans hl hB), decZ_eq h' (Nat.le_trans hk hB), if_pos (And.intro hl hk)]

def g82 : List T → Option Ret := gzz 274877906944 fun b l d k => .ts [te (ivI b l * ivI d k)]
theorem ok82 {sp : Nat → Option Spec} (hS : ∀ f s, sp f = some s → SpecOk Tryz.prog f s) (hr : ∀ ts r, g82 ts = some r → ts.length = 2 ∧ pureRun ty sp keep82 4398046511104 false Tryz.f82.results (Tryz.f82.body.getD .skip) ts = some r) : SpecOk Tryz.prog 82 (viewSpec g82) := by
  refine SpecOk.view (pure_ok mixed ty_ok hS Tryz.func82 rfl (by kernel_rfl) (enters_of Tryz.func82 (by kernel_rfl) rfl) keep82 (fun _ => 4398046511104) false 2 (by decide)) fun ts r h => ?_
  rw [if_pos (hr ts r h).1]
  exact (hr ts r h).2
theorem c82 {b d : Bool} {l k : List Int} (h : U32 l) (hl : l.length ≤ 274877906944) (h' : U32 k) (hk : k.length ≤ 274877906944) : g82 [tz b l, tz d k] = some (.ts [te (ivI b l * ivI d k)]) := gzz_eq (by omega) h hl h' hk
theorem s82 : SpecOk Tryz.prog 82 (viewSpec g82) := ok82 hI3 fun ts r h => by
  obtain ⟨b, l, d, k, rfl, h1, h2, h3, h4, rfl⟩ := gzz_some h
  exact ⟨rfl, run82 b d l k h1 h3 h2 h4 _ _ rfl⟩

def keep135 : Nat → List Nat := fun _ => []
set_option maxHeartbeats 4000000 in
theorem run135 (b : Bool) (l : List Int) (hl : U32 l) (hll : l.length ≤ 1099511627776) (fuel : Nat) (c : Code) (hc : Tryz.f135.body = some c) :
    pureRun ty spI2 keep135 fuel false Tryz.f135.results c [tz b l] = some (.ts [te (ivI b l)]) := by
  injection hc with hc
  subst hc
  have htl := tr_length l
  have hU := U32_tr hl
  refine pure_wc ?_
  refine wsr ?_
  refine X_op' rfl (A_box rfl rfl (V_t rfl) (K_t rfl) rfl rfl rfl) ?_
  refine X_op' rfl (A_alloc rfl rfl) ?_
  refine X_endS ?_
  try dsimp only [St.put, szA, List.length, Nat.reduceAdd]
  refine wsr ?_
  refine X_op' rfl (A_faM rfl rfl rfl rfl rfl) ?_
  refine X_op' rfl (A_ld rfl rfl rfl (ld_fd1 rfl rfl rfl rfl rfl rfl rfl)) ?_
  refine X_op' rfl (A_faM rfl rfl rfl rfl rfl) ?_
  refine X_op' rfl (A_ld rfl rfl rfl (ld_fd1 rfl rfl rfl rfl rfl rfl rfl)) ?_
  refine X_op' rfl (A_callV rfl rfl rfl rfl (.cons (V_t rfl) (K_t rfl) .nil) (c105 (by assumption) (by assumption))) ?_
  refine X_op' rfl (A_callV rfl rfl rfl rfl (.cons (V_t rfl) (K_t rfl) (.cons (V_t rfl) (K_t rfl) .nil)) (c104 (by assumption) (by omega))) ?_
  refine X_op' rfl (A_stV rfl rfl rfl (V_t rfl) (K_t rfl) rfl rfl rfl rfl rfl rfl rfl) ?_
  refine X_endDS (by kernel_rfl) (by kernel_rfl) ?_
  try dsimp only [St.put, szA, List.length, Nat.reduceAdd]
  refine W_ret ?_
  have hr : te (ivI b l) = tz (b && decide (0 < (tr l).length)) (tr l) := by
    rw [tr_eq_en hl, with_te (nv_nonneg hl)]
    rfl
  rw [hr]
  exact end_R rfl (.c rfl (ld_mp rfl rfl rfl rfl rfl rfl) .nil)
def g135 : List T → Option Ret := fun ts => match ts with | [t] => (match decZ t with | some (b, l) => some (.ts [te (ivI b l)]) | none => none) | _ => none
theorem ok135 {sp : Nat → Option Spec} (hS : ∀ f s, sp f = some s → SpecOk Tryz.prog f s) (hr : ∀ ts r, g135 ts = some r → ts.length = 1 ∧ pureRun ty sp keep135 4398046511104 false Tryz.f135.results (Tryz.f135.body.getD .skip) ts = some r) : SpecOk Tryz.prog 135 (viewSpec g135) := by
  refine SpecOk.view (pure_ok mixed ty_ok hS Tryz.func135 rfl (by kernel_rfl) (enters_of Tryz.func135 (by kernel_rfl) rfl) keep135 (fun _ => 4398046511104) false 1 (by decide)) fun ts r h => ?_
  rw [if_pos (hr ts r h).1]
  exact (hr ts r h).2
theorem c135 {b : Bool} {l : List Int} (h : U32 l) (hl : l.length ≤ 1099511627776) : g135 [tz b l] = some (.ts [te (ivI b l)]) := by
  simp only [g135, decZ_eq h hl]
theorem s135 : SpecOk Tryz.prog 135 (viewSpec g135) := ok135 hI2 fun ts r h => by
  unfold g135 at h
  split at h
  · split at h
    · rename_i b l hz
      obtain ⟨rfl, h1, h2⟩ := decZ_some hz
      exact ⟨rfl, (run135 b l h1 h2 _ _ rfl).trans h⟩
    · cases h
  · cases h

end Go.Ev.S
/- The package natural: the long division. -/
set_option linter.unusedVariables false
set_option linter.unusedSimpArgs false
set_option maxRecDepth 100000
namespace Go.Ev.S
open Go Go.Ev Go.Proofs NumA

theorem V_wc {ev : Operand → A} {m : Nat → Option O} {x : Operand} {id lo len : Nat} {u : List Int} (h : ev x = .ms id 1 lo len) (hm : m id = some ⟨61, 1, cn u⟩) (hl : lo + len ≤ u.length) : viewT m (ev x) = some (tn ((u.drop lo).take len)) := by
  rw [V_w h hm rfl (by simp only [cn_length]; exact hl)]
  simp only [tn, cn, List.map_drop, List.map_take]
theorem c161 {m : Nat → Option O} {ia ib lo n : Nat} {q : Int} {u v : List Int} (hma : m ia = some ⟨61, 1, cn u⟩) (hmb : m ib = some ⟨61, 1, cn v⟩) (uu : U32 u) (uv : U32 v) (h1 : ia ≠ ib) (h2 : lo + (n + 1) ≤ u.length) (h3 : n ≤ v.length) (h4 : n ≤ 1099511627776) (h5 : 0 ≤ q ∧ q < 4294967296) :
    m161 [.ms ia 1 lo (n + 1), .ms ib 1 0 n, .t (.v (.int .u64 q))] m = some (.ts [.v (.bool (decide (nv ((u.drop lo).take (n + 1)) < q * nv (v.take n))))], [(ia, some ⟨61, 1, cn (rew u lo n ((nv ((u.drop lo).take (n + 1)) - q * nv (v.take n)) % P (n + 1)))⟩), (ib, some ⟨61, 1, cn v⟩)]) := by
  simp only [m161, hma, hmb, decO_eq uu, decO_eq uv]
  rw [if_pos ⟨h1, trivial, h2, h3, h4, h5⟩]
  rfl
theorem c162 {m : Nat → Option O} {ia ib lo n : Nat} {u v : List Int} (hma : m ia = some ⟨61, 1, cn u⟩) (hmb : m ib = some ⟨61, 1, cn v⟩) (uu : U32 u) (uv : U32 v) (h1 : ia ≠ ib) (h2 : lo + (n + 1) ≤ u.length) (h3 : n ≤ v.length) (h4 : n ≤ 1099511627776) :
    m162 [.ms ia 1 lo (n + 1), .ms ib 1 0 n] m = some (.ts [], [(ia, some ⟨61, 1, cn (rew u lo n ((nv ((u.drop lo).take (n + 1)) + nv (v.take n)) % P (n + 1)))⟩), (ib, some ⟨61, 1, cn v⟩)]) := by
  simp only [m162, hma, hmb, decO_eq uu, decO_eq uv]
  rw [if_pos ⟨h1, trivial, h2, h3, h4⟩]
  rfl
theorem c159 {l : List Int} {s : Nat} (h : U32 l) (hl : l.length ≤ 1099511627775) (hs : s < 32) : g159 [tn l, .v (.int .u64 (s : Int))] = some (.own 61 1 (cn (dig (l.length + 1) (nv l * 2 ^ s)))) := gls_eq h (by omega) hl hs
theorem c163 {l : List Int} {s : Nat} (h : U32 l) (hl : l.length ≤ 1099511627776) (hs : s < 32) : g163 [tn l, .v (.int .u64 (s : Int))] = some (.ts [tn (en (nv l / 2 ^ s))]) := gls_eq h hl hl hs
noncomputable abbrev spN5 : Nat → Option Spec := more 158 (viewSpec g158) (more 159 (viewSpec g159) (more 160 (viewSpec g160) (more 161 m161 (more 162 m162 (more 163 (viewSpec g163) spN4)))))
theorem hN5 : ∀ f s, spN5 f = some s → SpecOk Tryz.prog f s := more_ok s158 (more_ok s159 (more_ok s160 (more_ok s161 (more_ok s162 (more_ok s163 hN4)))))
def keep147 : Nat → List Nat := fun _ => [4, 6, 7, 8, 9, 10, 38, 39]
def st147 (q v u : List Int) (dg n s lu : Nat) (i : Int) : St := { tm := [(4, .ms 0 1 0 dg), (6, .t (.v (.int .i64 (n : Int)))), (7, .t (.v (.int .u64 (s : Int)))), (8, .ms 1 1 0 n), (9, .ms 2 1 0 lu), (10, .t (.v (.int .i64 (dg : Int)))), (38, .t (.v (.int .i64 (dg : Int)))), (39, .t (.v (.int .i64 i)))], mm := [(0, some ⟨61, 1, cn q⟩), (1, some ⟨61, 1, cn v⟩), (2, some ⟨61, 1, cn u⟩)], nx := 3 }
set_option maxHeartbeats 8000000 in
theorem run147 (a b : List Int) (ha : U32 a) (hal : a.length ≤ 1099511627775) (hb : U32 b) (k : Nat) (hbl : b.length = k + 2) (htop : b.getD (k + 1) 0 ≠ 0) (hle : b.length ≤ a.length) (fuel : Nat) (hf : 1099511627776 < fuel) (c : Code) (hc : Tryz.f147.body = some c) :
    pureRun ty spN5 keep147 fuel false Tryz.f147.results c [tn a, tn b] = some (.ts [tn (en (nv a / nv b)), tn (en (nv a % nv b))]) := by
  injection hc with hc
  subst hc
  have e1 := cn_length a
  have e2 := cn_length b
  have e2k : (cn b).length = k + 2 := by omega
  have hbe : (((k + 2 : Nat) : Int) - 1).toNat = k + 1 := by omega
  obtain ⟨s, hse⟩ : ∃ s : Nat, s = 32 - Lib.bitLen (b.getD (k + 1) 0).toNat := ⟨_, rfl⟩
  obtain ⟨hs, hsv, hV1, hV0, hbp⟩ := shift_facts hb hbl htop hse
  have hx := U32_getD hb (((k + 2 : Nat) : Int) - 1).toNat
  have hsw : IntKind.u64.wrap (32 - (Lib.bitLen (b.getD (((k + 2 : Nat) : Int) - 1).toNat 0).toNat : Int)) = (s : Int) := by
    rw [hbe, hsv, wU (by omega) (by omega)]
  obtain ⟨V, hVe⟩ : ∃ V : Int, V = nv b * 2 ^ s := ⟨_, rfl⟩
  rw [← hVe] at hV1 hV0
  have hVp : 0 < V := by rw [hVe]; exact Int.mul_pos hbp (pow_pos' s)
  have hdg : ((a.length : Int) - ((k + 2 : Nat) : Int) + 1) = ((a.length - (k + 2) + 1 : Nat) : Int) := by omega
  obtain ⟨v, hv⟩ : ∃ v : List Int, v = dig (b.length + 1) (nv b * 2 ^ s) := ⟨_, rfl⟩
  have uv : U32 v := by rw [hv]; exact dig_U32 _ _
  have hvl : v.length = b.length + 1 := by rw [hv]; exact dig_length _ _
  have hvn : nv v = V := by rw [hv, hVe]; exact nv_dig _ _ (by omega) (by rw [hbl, P_succ]; rw [show k + 1 + 1 = k + 2 from rfl] at hV1; have := P_pos (k + 2); omega)
  have hvt : nv (v.take (k + 2)) = V := by rw [(high_zero uv (k + 2) (by rw [hvn]; exact hV1)).2, hvn]
  have hvt' : nv ((v.drop 0).take (k + 2)) = V := hvt
  have uvt : U32 ((v.drop 0).take (k + 2)) := U32_take uv _
  have lvt : ((v.drop 0).take (k + 2)).length = k + 2 := by rw [List.drop_zero, List.length_take]; omega
  have tvt : 2147483648 ≤ ((v.drop 0).take (k + 2)).getD (k + 1) 0 := top_digit hV0 hV1 uvt lvt hvt'
  obtain ⟨u0, hu0⟩ : ∃ u0 : List Int, u0 = dig (a.length + 1) (nv a * 2 ^ s) := ⟨_, rfl⟩
  have uu0 : U32 u0 := by rw [hu0]; exact dig_U32 _ _
  have lu0 : u0.length = a.length + 1 := by rw [hu0]; exact dig_length _ _
  have ha0 := nv_nonneg ha
  have hun : nv u0 = nv a * 2 ^ s := by
    rw [hu0]
    refine nv_dig _ _ (Int.mul_nonneg ha0 (by have := pow_pos' s; omega)) ?_
    have h1 := nv_lt ha
    have h2 : nv a * 2 ^ s < P a.length * 2 ^ s := Int.mul_lt_mul_of_pos_right h1 (pow_pos' s)
    have h3 : P a.length * 2 ^ s ≤ P a.length * 4294967296 := Int.mul_le_mul_of_nonneg_left (by have := pow_split hs; have h4 := pow_pos' (32 - s); have h5 := pow_pos' s; have h6 : 1 * (2 : Int) ^ s ≤ 2 ^ (32 - s) * 2 ^ s := Int.mul_le_mul_of_nonneg_right (by omega) (by omega); omega) (by have := P_pos a.length; omega)
    rw [P_succ]; omega
  have hfw : nv (u0.drop (a.length - (k + 2) + 1)) < V := by
    rw [hu0]; exact first_win ha (by omega) hs hV0
  have evl : (cn v).length = k + 3 := by rw [cn_length]; omega
  have eul : (cn u0).length = a.length + 1 := by rw [cn_length]; omega
  refine pure_wc ?_
  refine wsr ?_
  refine X_op' rfl (A_mv0 (.inr rfl) rfl rfl rfl rfl) ?_
  refine X_op' rfl (A_mv0 (.inr rfl) rfl rfl rfl rfl) ?_
  refine X_endS ?_
  try dsimp only [St.put, szA, List.length, Nat.reduceAdd]
  refine wsr ?_
  refine xm rfl rfl rfl rfl ?_
  refine X_op' rfl (A_lenT rfl rfl rfl rfl rfl rfl rfl) ?_
  rw [e2k]
  refine xa rfl rfl rfl rfl ?_
  refine X_endS ?_
  try dsimp only [St.put, szA, List.length, Nat.reduceAdd]
  refine wsr ?_
  refine xm rfl rfl rfl rfl ?_
  refine xm rfl rfl rfl rfl ?_
  refine X_op' rfl (A_int rfl rfl rfl ⟨by decide, by decide⟩ (subI (by omega))) ?_
  refine X_op' rfl (A_ixA 0 rfl rfl rfl rfl rfl rfl rfl (by omega) (by omega) rfl rfl) ?_
  refine X_op' rfl (A_ld rfl rfl rfl (ld_ip1 rfl rfl rfl)) ?_
  refine X_op' rfl (A_callV rfl rfl rfl rfl (.cons (V_t rfl) (K_t rfl) .nil) (c158 hx.1 hx.2)) ?_
  refine X_op' rfl (A_conv rfl rfl rfl rfl rfl hsw) ?_
  refine xa rfl rfl rfl rfl ?_
  refine X_endS ?_
  try dsimp only [St.put, szA, List.length, Nat.reduceAdd]
  refine wsr ?_
  refine xm rfl rfl rfl rfl ?_
  refine xm rfl rfl rfl rfl ?_
  refine X_op' rfl (A_callO rfl rfl rfl rfl (.cons (V_t rfl) (K_t rfl) (.cons (V_t rfl) (K_t rfl) .nil)) (c159 (by assumption) (by omega) hs)) ?_
  rw [← hv]
  refine xm rfl rfl rfl rfl ?_
  refine X_op' rfl (A_slM rfl rfl rfl rfl rfl rfl rfl rfl (by omega) (by omega) (by omega) (by omega)) ?_
  refine X_op' rfl (A_mvM (.inr rfl) rfl) ?_
  refine X_endS ?_
  try dsimp only [St.put, szA, List.length, Nat.reduceAdd]
  refine wsr ?_
  refine xm rfl rfl rfl rfl ?_
  refine xm rfl rfl rfl rfl ?_
  refine X_op' rfl (A_callO rfl rfl rfl rfl (.cons (V_t rfl) (K_t rfl) (.cons (V_t rfl) (K_t rfl) .nil)) (c159 (by assumption) (by omega) hs)) ?_
  rw [← hu0]
  refine X_op' rfl (A_mvM (.inr rfl) rfl) ?_
  refine X_endS ?_
  try dsimp only [St.put, szA, List.length, Nat.reduceAdd]
  refine wsr ?_
  refine xm rfl rfl rfl rfl ?_
  refine X_op' rfl (A_lenT rfl rfl rfl rfl rfl rfl rfl) ?_
  rw [e1]
  refine xm rfl rfl rfl rfl ?_
  refine X_op' rfl (A_int rfl rfl rfl ⟨by decide, by decide⟩ (subI (by omega))) ?_
  refine X_op' rfl (A_int rfl rfl rfl ⟨by decide, by decide⟩ (addI (by omega))) ?_
  rw [hdg]
  refine xa rfl rfl rfl rfl ?_
  refine X_endS ?_
  try dsimp only [St.put, szA, List.length, Nat.reduceAdd]
  refine wsr ?_
  refine xm rfl rfl rfl rfl ?_
  refine X_op' rfl (A_make (j := a.length - (k + 2) + 1) rfl rfl rfl rfl rfl rfl (by omega) (by first | omega | (simp only [intE, slE, boolE, integerE, rationalE]; omega)) (by omega)) ?_
  refine X_op' rfl (A_mvM (.inr rfl) rfl) ?_
  refine X_endS ?_
  try dsimp only [St.put, szA, List.length, Nat.reduceAdd]
  refine W_seq ?_
  refine wsr ?_
  refine xm rfl rfl rfl rfl ?_
  refine xm rfl rfl rfl rfl ?_
  refine X_endS ?_
  try dsimp only [St.put, szA, List.length, Nat.reduceAdd]
  refine W_blk ?_
  refine W_loop (fun nn σ => ∃ (i : Nat) (u q : List Int), i ≤ a.length - (k + 2) + 1 ∧ u.length = a.length + 1 ∧ U32 u ∧ q.length = a.length - (k + 2) + 1 ∧ U32 q ∧ nv u + V * (P (a.length - (k + 2) + 1 - i) * nv (q.drop (a.length - (k + 2) + 1 - i))) = nv a * 2 ^ s ∧ nv (u.drop (a.length - (k + 2) + 1 - i)) < V ∧ σ = st147 q v u (a.length - (k + 2) + 1) (k + 2) s (cn u0).length i ∧ nn = a.length - (k + 2) + 1 - i) (a.length - (k + 2) + 1) ?_ ?_ (by omega)
  rotate_left
  · exact ⟨0, u0, List.replicate (a.length - (k + 2) + 1) 0, Nat.zero_le _, lu0, uu0, List.length_replicate, U32_rep _, (by rw [Nat.sub_zero, List.drop_eq_nil_of_le (by rw [List.length_replicate]; omega), nv_nil, Int.mul_zero, Int.mul_zero, Int.add_zero]; exact hun), (by rw [Nat.sub_zero]; exact hfw), Eq.trans (b := st147 (List.replicate (a.length - (k + 2) + 1) 0) v u0 (a.length - (k + 2) + 1) (k + 2) s (cn u0).length 0) (by simp only [st147, cn, List.map_replicate]; kernel_rfl) rfl, rfl⟩
  rintro nn _ ⟨i, u, q, hi, lu, uu, lq, uq, hinv, hhi, rfl, hnn⟩
  have eq := cn_length q
  refine wsr ?_
  refine X_op' rfl (A_int rfl rfl rfl ⟨by decide, by decide⟩ rfl) ?_
  refine X_endS ?_
  try dsimp only [St.put, szA, List.length, Nat.reduceAdd]
  refine W_seq ?_
  refine W_condB rfl (fun hb1 => ?_) (fun hb1 => ?_)
  ·have khb1 := hb1; (try simp only [kb] at khb1)
   refine W_skip ?_
   refine Q_seq ?_
   refine W_seq ?_
   refine W_blk ?_
   refine wsr ?_
   refine xm rfl rfl rfl rfl ?_
   refine xa rfl rfl rfl rfl ?_
   refine X_endS ?_
   try dsimp only [St.put, szA, List.length, Nat.reduceAdd]
   refine wsr ?_
   obtain ⟨j, hj⟩ : ∃ j : Nat, j + 1 + i = (a.length - (k + 2) + 1) := ⟨(a.length - (k + 2) + 1) - 1 - i, by omega⟩
   have hjv : (((a.length - (k + 2) + 1) : Nat) : Int) - 1 - (i : Int) = (j : Int) := by omega
   have hjl : j + (k + 2 + 1) ≤ u.length := by omega
   rw [show (a.length - (k + 2) + 1) - i = j + 1 by omega] at hinv hhi
   obtain ⟨w1, w2, w3, w4⟩ := win_facts uu hjl hV1 hhi
   obtain ⟨g, ⟨hg0, hg1, hg2, hg3⟩, hge⟩ := c160 (u := (u.drop j).take (k + 2 + 1)) (v := (v.drop 0).take (k + 2)) (k := k) (U32_take (U32_drop uu _) _) uvt (by rw [List.length_take, List.length_drop]; omega) lvt (by omega) tvt (by rw [w2, hvt']; exact w3)
   rw [hvt', w2] at hg2 hg3
   refine xm rfl rfl rfl rfl ?_
   refine X_op' rfl (A_int rfl rfl rfl ⟨by decide, by decide⟩ (subI (by omega))) ?_
   refine xm rfl rfl rfl rfl ?_
   refine X_op' rfl (A_int rfl rfl rfl ⟨by decide, by decide⟩ (subI (by omega))) ?_
   rw [hjv]
   refine xa rfl rfl rfl rfl ?_
   refine X_endS ?_
   try dsimp only [St.put, szA, List.length, Nat.reduceAdd]
   refine wsr ?_
   refine X_op' rfl (A_mvM (.inl rfl) rfl) ?_
   refine xm rfl rfl rfl rfl ?_
   refine xm rfl rfl rfl rfl ?_
   refine xm rfl rfl rfl rfl ?_
   refine X_op' rfl (A_int rfl rfl rfl ⟨by decide, by decide⟩ (addI (by omega))) ?_
   refine X_op' rfl (A_int rfl rfl rfl ⟨by decide, by decide⟩ (addI (by omega))) ?_
   refine X_op' rfl (A_slW (lo2 := j) (len2 := k + 2 + 1) rfl rfl rfl rfl rfl rfl rfl rfl (by omega) (by omega) (by omega) (by omega) (by omega) (by omega)) ?_
   refine X_op' rfl (A_mvM (.inl rfl) rfl) ?_
   refine X_op' rfl (A_callV rfl rfl rfl rfl (.cons (V_wc rfl rfl (by omega)) (K_m rfl) (.cons (V_wc rfl rfl (by omega)) (K_m rfl) .nil)) hge) ?_
   refine xa rfl rfl rfl rfl ?_
   refine X_endS ?_
   try dsimp only [St.put, szA, List.length, Nat.reduceAdd]
   refine W_seq ?_
   refine wsr ?_
   refine X_op' rfl (A_mvM (.inl rfl) rfl) ?_
   refine xm rfl rfl rfl rfl ?_
   refine xm rfl rfl rfl rfl ?_
   refine xm rfl rfl rfl rfl ?_
   refine X_op' rfl (A_int rfl rfl rfl ⟨by decide, by decide⟩ (addI (by omega))) ?_
   refine X_op' rfl (A_int rfl rfl rfl ⟨by decide, by decide⟩ (addI (by omega))) ?_
   refine X_op' rfl (A_slW (lo2 := j) (len2 := k + 2 + 1) rfl rfl rfl rfl rfl rfl rfl rfl (by omega) (by omega) (by omega) (by omega) (by omega) (by omega)) ?_
   refine X_op' rfl (A_mvM (.inl rfl) rfl) ?_
   refine xm rfl rfl rfl rfl ?_
   refine X_op' rfl (A_callM [.ms 2 1 j (k + 2 + 1), .ms 1 1 0 (k + 2), .t (.v (.int .u64 g))] rfl rfl rfl rfl (c161 rfl rfl uu uv (by decide) (by omega) (by omega) (by omega) ⟨hg0, hg1⟩)) ?_
   refine X_endS ?_
   try dsimp only [St.put, szA, List.length, Nat.reduceAdd]
   refine W_condB rfl (fun hb2 => ?_) (fun hb2 => ?_)
   ·have khb2 := hb2; (try simp only [kb] at khb2)
    refine wsr ?_
    have hWlt : nv (u.drop j) < g * V := by rw [← w2, ← hvt]; exact khb2
    have hgp : 1 ≤ g := by
      rcases Int.lt_or_le 0 g with h | h
      · omega
      · have h0 : g = 0 := by omega
        rw [h0, Int.zero_mul] at hWlt; omega
    refine xm rfl rfl rfl rfl ?_
    refine X_op' rfl (A_int rfl rfl rfl ⟨by decide, by decide⟩ (subU (by omega))) ?_
    refine xa rfl rfl rfl rfl ?_
    refine X_endS ?_
    try dsimp only [St.put, szA, List.length, Nat.reduceAdd]
    refine W_reg ?_
    refine X_op' rfl (A_mvM (.inl rfl) rfl) ?_
    refine xm rfl rfl rfl rfl ?_
    refine xm rfl rfl rfl rfl ?_
    refine xm rfl rfl rfl rfl ?_
    refine X_op' rfl (A_int rfl rfl rfl ⟨by decide, by decide⟩ (addI (by omega))) ?_
    refine X_op' rfl (A_int rfl rfl rfl ⟨by decide, by decide⟩ (addI (by omega))) ?_
    refine X_op' rfl (A_slW (lo2 := j) (len2 := k + 2 + 1) rfl rfl rfl rfl rfl rfl rfl rfl (by omega) (by omega) (by omega) (by omega) (by omega) (by omega)) ?_
    refine X_op' rfl (A_mvM (.inl rfl) rfl) ?_
    refine X_op' rfl (A_callM [.ms 2 1 j (k + 2 + 1), .ms 1 1 0 (k + 2)] rfl rfl rfl rfl (c162 rfl rfl (rew_U32 uu _ _ _) uv (by decide) (by rw [rew_length hjl]; exact hjl) (by omega) (by omega))) ?_
    refine X_endS ?_
    try dsimp only [St.put, szA, List.length, Nat.reduceAdd]
    refine W_reg ?_
    refine X_op' rfl (A_mvM (.inl rfl) rfl) ?_
    refine xm rfl rfl rfl rfl ?_
    refine xm rfl rfl rfl rfl ?_
    refine X_op' rfl (A_conv rfl rfl rfl rfl rfl (wSm _)) ?_
    refine X_op' rfl (A_ixO rfl rfl rfl rfl rfl rfl rfl (by omega) (by omega)) ?_
    refine X_op' rfl (A_stR 0 rfl rfl rfl (V_t rfl) (K_t rfl) rfl rfl (by first | omega | (simp only [List.length_set]; omega)) rfl rfl rfl rfl rfl rfl) ?_
    refine X_end ?_
    try dsimp only [St.put, szA, List.length, Nat.reduceAdd]
    refine Q_blkN ?_
    refine Q_seq ?_
    refine W_reg ?_
    refine X_op' rfl (A_int rfl rfl rfl ⟨by decide, by decide⟩ (addI (by omega))) ?_
    refine xm rfl rfl rfl rfl ?_
    refine X_end ?_
    try dsimp only [St.put, szA, List.length, Nat.reduceAdd]
    have hrb := (rest_bound hg2 hg3).2 hWlt
    have hQ : q.set (0 + ((j : Int)).toNat) ((g - 1) % 4294967296) = q.set j (g - 1) := by
      rw [show 0 + ((j : Int)).toNat = j by omega, show (g - 1) % 4294967296 = (g - 1) by omega]
    have hU := long_back hjl hvt w2 hV1 hrb rfl
    have hdig := long_digit (q := q) (g := (g - 1)) uu hjl hV1 hhi (by omega) hinv rfl hrb.1 hrb.2
    refine ⟨(a.length - (k + 2) + 1) - (i + 1), by omega, i + 1, rew u j (k + 2) (nv (u.drop j) - (g - 1) * V), q.set j (g - 1), by omega, by rw [rew_length hjl]; exact lu, rew_U32 uu _ _ _, by rw [List.length_set]; exact lq, U32_set uq _ (by omega) (by omega), ?_, ?_, Eq.trans (b := st147 (q.set (0 + ((j : Int)).toNat) ((g - 1) % 4294967296)) v (rew (rew u j (k + 2) ((nv ((u.drop j).take (k + 2 + 1)) - g * nv (v.take (k + 2))) % P (k + 2 + 1))) j (k + 2) ((nv (((rew u j (k + 2) ((nv ((u.drop j).take (k + 2 + 1)) - g * nv (v.take (k + 2))) % P (k + 2 + 1))).drop j).take (k + 2 + 1)) + nv (v.take (k + 2))) % P (k + 2 + 1))) (a.length - (k + 2) + 1) (k + 2) s (cn u0).length ((i : Int) + 1)) (by kernel_rfl) (by rw [hQ, hU]; rfl), rfl⟩
    · rw [show (a.length - (k + 2) + 1) - (i + 1) = j by omega]; exact hdig.1
    · rw [show (a.length - (k + 2) + 1) - (i + 1) = j by omega]; exact hdig.2
   ·have khb2 := hb2; (try simp only [kb] at khb2)
    refine W_skip ?_
    refine Q_seq ?_
    refine W_reg ?_
    refine X_op' rfl (A_mvM (.inl rfl) rfl) ?_
    refine xm rfl rfl rfl rfl ?_
    refine xm rfl rfl rfl rfl ?_
    refine X_op' rfl (A_conv rfl rfl rfl rfl rfl (wSm _)) ?_
    refine X_op' rfl (A_ixO rfl rfl rfl rfl rfl rfl rfl (by omega) (by omega)) ?_
    refine X_op' rfl (A_stR 0 rfl rfl rfl (V_t rfl) (K_t rfl) rfl rfl (by first | omega | (simp only [List.length_set]; omega)) rfl rfl rfl rfl rfl rfl) ?_
    refine X_end ?_
    try dsimp only [St.put, szA, List.length, Nat.reduceAdd]
    refine Q_blkN ?_
    refine Q_seq ?_
    refine W_reg ?_
    refine X_op' rfl (A_int rfl rfl rfl ⟨by decide, by decide⟩ (addI (by omega))) ?_
    refine xm rfl rfl rfl rfl ?_
    refine X_end ?_
    try dsimp only [St.put, szA, List.length, Nat.reduceAdd]
    have hWlt : ¬ nv (u.drop j) < g * V := by rw [← w2, ← hvt]; omega
    have hrb := (rest_bound hg2 hg3).1 hWlt
    have hQ : q.set (0 + ((j : Int)).toNat) (g % 4294967296) = q.set j g := by
      rw [show 0 + ((j : Int)).toNat = j by omega, show g % 4294967296 = g by omega]
    have hU := long_sub hvt w2 hV1 hrb
    have hdig := long_digit (q := q) (g := g) uu hjl hV1 hhi (by omega) hinv rfl hrb.1 hrb.2
    refine ⟨(a.length - (k + 2) + 1) - (i + 1), by omega, i + 1, rew u j (k + 2) (nv (u.drop j) - g * V), q.set j g, by omega, by rw [rew_length hjl]; exact lu, rew_U32 uu _ _ _, by rw [List.length_set]; exact lq, U32_set uq _ (by omega) (by omega), ?_, ?_, Eq.trans (b := st147 (q.set (0 + ((j : Int)).toNat) (g % 4294967296)) v (rew u j (k + 2) ((nv ((u.drop j).take (k + 2 + 1)) - g * nv (v.take (k + 2))) % P (k + 2 + 1))) (a.length - (k + 2) + 1) (k + 2) s (cn u0).length ((i : Int) + 1)) (by kernel_rfl) (by rw [hQ, hU]; rfl), rfl⟩
    · rw [show (a.length - (k + 2) + 1) - (i + 1) = j by omega]; exact hdig.1
    · rw [show (a.length - (k + 2) + 1) - (i + 1) = j by omega]; exact hdig.2
  ·have khb1 := hb1; (try simp only [kb] at khb1)
   refine W_exit ?_
   refine Q_seqX ?_
   refine Q_rndX ?_
   refine Q_blkE ?_
   refine Q_seq ?_
   refine wsr ?_
   have hi2 : i = (a.length - (k + 2) + 1) := by omega
   rw [show (a.length - (k + 2) + 1) - i = 0 by omega, List.drop_zero, P_zero, Int.one_mul] at hinv
   rw [show (a.length - (k + 2) + 1) - i = 0 by omega, List.drop_zero] at hhi
   have hend := long_end (a := nv a) (b := nv b) hbp (pow_pos' s) hVe rfl hinv (nv_nonneg uu) hhi
   have hut := (high_zero uu (k + 2) (by have := hV1; rw [show k + 1 + 1 = k + 2 from rfl] at this; omega)).2
   have hU0 : U32 ((u.drop 0).take (k + 2)) := U32_take uu _
   have hUt := U32_tr hU0
   have htl := tr_length ((u.drop 0).take (k + 2))
   rw [List.length_take, List.length_drop] at htl
   refine X_op' rfl (A_mvM (.inl rfl) rfl) ?_
   refine X_op' rfl (A_callV rfl rfl rfl rfl (.cons (V_m rfl rfl rfl (by rw [cn_length, lq])) (K_m rfl) .nil) (c112 uq (by omega))) ?_
   refine X_op' rfl (A_mvM (.inl rfl) rfl) ?_
   refine xm rfl rfl rfl rfl ?_
   refine X_op' rfl (A_slW (lo2 := 0) (len2 := k + 2) rfl rfl rfl rfl rfl rfl rfl rfl (by omega) (by omega) (by omega) (by omega) (by omega) (by omega)) ?_
   refine X_op' rfl (A_callV rfl rfl rfl rfl (.cons (V_wc rfl rfl (by omega)) (K_m rfl) .nil) (c112 hU0 (by rw [List.length_take, List.length_drop]; omega))) ?_
   refine xm rfl rfl rfl rfl ?_
   refine X_op' rfl (A_callV rfl rfl rfl rfl (.cons (V_t rfl) (K_t rfl) (.cons (V_t rfl) (K_t rfl) .nil)) (c163 (by assumption) (by omega) hs)) ?_
   refine xa rfl rfl rfl rfl ?_
   refine xa rfl rfl rfl rfl ?_
   refine X_endDS (by kernel_rfl) (by kernel_rfl) ?_
   try dsimp only [St.put, szA, List.length, Nat.reduceAdd]
   refine W_ret ?_
   have hv1 : nv (tr ((u.drop 0).take (k + 2))) = nv u := by rw [nv_tr]; exact hut
   have hr : (Ret.ts [tn (en (nv a / nv b)), tn (en (nv a % nv b))]) = .ts [tn (tr q), tn (en (nv (tr ((u.drop 0).take (k + 2))) / 2 ^ s))] := by
     rw [hv1, tr_eq_en uq, hend.1, hend.2]
   rw [hr]
   exact end_R rfl (.t rfl (.t rfl .nil))
def g147 : List T → Option Ret := g2 fun l k => if 2 ≤ k.length ∧ k.getD (k.length - 1) 0 ≠ 0 ∧ k.length ≤ l.length ∧ l.length ≤ 1099511627775 then some (.ts [tn (en (nv l / nv k)), tn (en (nv l % nv k))]) else none
theorem ok147 {sp : Nat → Option Spec} (hS : ∀ f s, sp f = some s → SpecOk Tryz.prog f s) (hr : ∀ ts r, g147 ts = some r → ts.length = 2 ∧ pureRun ty sp keep147 4398046511104 false Tryz.f147.results (Tryz.f147.body.getD .skip) ts = some r) : SpecOk Tryz.prog 147 (viewSpec g147) := by
  refine SpecOk.view (pure_ok mixed ty_ok hS Tryz.func147 rfl (by kernel_rfl) (enters_of Tryz.func147 (by kernel_rfl) rfl) keep147 (fun _ => 4398046511104) false 2 (by decide)) fun ts r h => ?_
  rw [if_pos (hr ts r h).1]
  exact (hr ts r h).2
theorem c147 {l k : List Int} (h : U32 l) (hl : l.length ≤ 1099511627775) (h' : U32 k) (h1 : 2 ≤ k.length) (h2 : k.getD (k.length - 1) 0 ≠ 0) (h3 : k.length ≤ l.length) : g147 [tn l, tn k] = some (.ts [tn (en (nv l / nv k)), tn (en (nv l % nv k))]) := by
  rw [g147, g2_eq h (by omega) h' (by omega), if_pos ⟨h1, h2, h3, hl⟩]
theorem s147 : SpecOk Tryz.prog 147 (viewSpec g147) := ok147 hN5 fun ts r h => by
  obtain ⟨l, k, rfl, h1, h2, h3, h4, h5⟩ := g2_some h
  split at h5
  · rename_i hc
    exact ⟨rfl, (run147 l k h1 hc.2.2.2 h3 (k.length - 2) (by omega) (by rw [show k.length - 2 + 1 = k.length - 1 by omega]; exact hc.2.1) hc.2.2.1 _ (by omega) _ rfl).trans h5⟩
  · cases h5

end Go.Ev.S
/- The package natural: division, the greatest common divisor. -/
set_option linter.unusedVariables false
set_option linter.unusedSimpArgs false
set_option maxRecDepth 100000
namespace Go.Ev.S
open Go Go.Ev Go.Proofs NumA

theorem cmpI_neg_iff {x y : Int} : cmpI x y < 0 ↔ x < y := by
  unfold cmpI; split
  · simp; assumption
  · split <;> simp <;> omega
def divR (l k : List Int) : Ret := if nv k = 0 then .ts [tn [], tn [], .v (.bool false)] else .ts [tn (en (nv l / nv k)), tn (en (nv l % nv k)), .v (.bool true)]
noncomputable abbrev spN6 : Nat → Option Spec := more 147 (viewSpec g147) (more 146 (viewSpec g146) (more 108 (viewSpec g108) (more 84 (viewSpec g84) spN3)))
theorem hN6 : ∀ f s, spN6 f = some s → SpecOk Tryz.prog f s := more_ok s147 (more_ok s146 (more_ok s108 (more_ok s84 hN3)))
theorem nv_nil_tr {l : List Int} (hU : U32 l) (h : nv l = 0) : (tr l).length = 0 := by rw [tr_zero hU h]; rfl
theorem tr_tr_last {k : List Int} (hk : U32 k) (h : 0 < (tr k).length) : (tr k).getD ((tr k).length - 1) 0 ≠ 0 :=
  NumA.tr_last (l := tr k) (by rw [tr_eq_en hk, tr_en]) (List.length_pos_iff.1 h)
theorem en_len0 {y : Int} (h : y = 0) : (en y).length = 0 := by rw [h, en_zero]; rfl
theorem one_limb {l : List Int} (hU : U32 l) (h : l.length = 1) : nv l = l.getD 0 0 := by
  match l, h with
  | [x], _ => simp [nv]
def keep109 : Nat → List Nat := fun _ => []
set_option maxHeartbeats 8000000 in
theorem run109 (l k : List Int) (hl : U32 l) (hll : l.length ≤ 1099511627775) (hk : U32 k) (hkl : k.length ≤ 1099511627775) (fuel : Nat) (c : Code) (hc : Tryz.f109.body = some c) :
    pureRun ty spN6 keep109 fuel false Tryz.f109.results c [tn l, tn k] = some (divR l k) := by
  injection hc with hc
  subst hc
  have e1 := cn_length (tr l)
  have e2 := cn_length (tr k)
  have b1 := tr_length l
  have b2 := tr_length k
  have u1 := U32_tr hl
  have u2 := U32_tr hk
  have v1 := nv_tr l
  have v2 := nv_tr k
  have p1 := nv_nonneg hl
  have p2 := nv_nonneg hk
  have hx := U32_getD u2 (0 : Int).toNat
  refine pure_wc ?_
  refine wsr ?_
  refine X_op' rfl (A_mv0 (.inr rfl) rfl rfl rfl rfl) ?_
  refine X_op' rfl (A_mv0 (.inr rfl) rfl rfl rfl rfl) ?_
  refine xa rfl rfl rfl rfl ?_
  refine X_endS ?_
  try dsimp only [St.put, szA, List.length, Nat.reduceAdd]
  refine wsr ?_
  refine xm rfl rfl rfl rfl ?_
  refine X_op' rfl (A_callV rfl rfl rfl rfl (.cons (V_t rfl) (K_t rfl) .nil) (c112 (by first | assumption | omega) (by first | assumption | omega))) ?_
  refine xm rfl rfl rfl rfl ?_
  refine X_op' rfl (A_callV rfl rfl rfl rfl (.cons (V_t rfl) (K_t rfl) .nil) (c112 (by first | assumption | omega) (by first | assumption | omega))) ?_
  refine xa rfl rfl rfl rfl ?_
  refine xa rfl rfl rfl rfl ?_
  refine X_endS ?_
  try dsimp only [St.put, szA, List.length, Nat.reduceAdd]
  refine W_seq ?_
  refine W_blk ?_
  refine wsr ?_
  refine xm rfl rfl rfl rfl ?_
  refine X_op' rfl (A_lenT rfl rfl rfl rfl rfl rfl rfl) ?_
  refine X_op' rfl (A_int rfl rfl rfl ⟨by decide, by decide⟩ rfl) ?_
  refine xa rfl rfl rfl rfl ?_
  refine X_endS ?_
  try dsimp only [St.put, szA, List.length, Nat.reduceAdd]
  refine W_condB rfl (fun hb1 => ?_) (fun hb1 => ?_)
  ·have khb1 := hb1; (try simp only [kb] at khb1)
   refine wsr ?_
   refine X_op' rfl (A_mv0 (.inr rfl) rfl rfl rfl rfl) ?_
   refine X_op' rfl (A_mv0 (.inr rfl) rfl rfl rfl rfl) ?_
   refine xa rfl rfl rfl rfl ?_
   refine X_endS ?_
   try dsimp only [St.put, szA, List.length, Nat.reduceAdd]
   refine W_ret ?_
   refine Q_blkR ?_
   refine Q_seqX ?_
   have hk0 : nv k = 0 := nv_tr_nil (by omega)
   rw [show divR l k = .ts [tn [], tn [], .v (.bool false)] from if_pos hk0]
   exact end_R rfl (.n rfl (.n rfl (.t rfl .nil)))
  ·have khb1 := hb1; (try simp only [kb] at khb1)
   refine wsr ?_
   refine xm rfl rfl rfl rfl ?_
   refine xm rfl rfl rfl rfl ?_
   refine X_op' rfl (A_callV rfl rfl rfl rfl (.cons (V_t rfl) (K_t rfl) (.cons (V_t rfl) (K_t rfl) .nil)) (c102 (by first | assumption | omega) (by first | assumption | omega) (by first | assumption | omega) (by first | assumption | omega))) ?_
   
   refine X_op' rfl (A_int rfl rfl rfl ⟨by decide, by decide⟩ rfl) ?_
   refine xa rfl rfl rfl rfl ?_
   refine X_endS ?_
   try dsimp only [St.put, szA, List.length, Nat.reduceAdd]
   refine W_condB rfl (fun hb2 => ?_) (fun hb2 => ?_)
   ·have khb2 := hb2; (try simp only [kb] at khb2)
    refine wsr ?_
    refine xm rfl rfl rfl rfl ?_
    refine X_op' rfl (A_callV rfl rfl rfl rfl (.cons (V_t rfl) (K_t rfl) .nil) (c105 (by first | assumption | omega) (by first | assumption | omega))) ?_
    refine X_op' rfl (A_mv0 (.inr rfl) rfl rfl rfl rfl) ?_
    refine xa rfl rfl rfl rfl ?_
    refine xa rfl rfl rfl rfl ?_
    refine X_endS ?_
    try dsimp only [St.put, szA, List.length, Nat.reduceAdd]
    refine W_ret ?_
    refine Q_blkR ?_
    refine Q_seqX ?_
    have hlt := cmpI_neg_iff.1 khb2
    have hr : divR l k = .ts [tn [], tn (tr (tr l)), .v (.bool true)] := by
      rw [divR, if_neg (by omega), Int.ediv_eq_zero_of_lt p1 (by omega), Int.emod_eq_of_lt p1 (by omega), en_zero, tr_eq_en u1, v1]
    rw [hr]
    exact end_R rfl (.n rfl (.t rfl (.t rfl .nil)))
   ·have khb2 := hb2; (try simp only [kb] at khb2)
    refine wsr ?_
    refine xm rfl rfl rfl rfl ?_
    refine X_op' rfl (A_lenT rfl rfl rfl rfl rfl rfl rfl) ?_
    refine X_op' rfl (A_int rfl rfl rfl ⟨by decide, by decide⟩ rfl) ?_
    refine xa rfl rfl rfl rfl ?_
    refine X_endS ?_
    try dsimp only [St.put, szA, List.length, Nat.reduceAdd]
    refine W_condB rfl (fun hb3 => ?_) (fun hb3 => ?_)
    ·have khb3 := hb3; (try simp only [kb] at khb3)
     refine wsr ?_
     refine xm rfl rfl rfl rfl ?_
     refine xm rfl rfl rfl rfl ?_
     refine X_op' rfl (A_ixA 0 rfl rfl rfl rfl rfl rfl rfl (by omega) (by omega) rfl rfl) ?_
     refine X_op' rfl (A_ld rfl rfl rfl (ld_ip1 rfl rfl rfl)) ?_
     have hk1 : nv k = (tr k).getD (0 : Int).toNat 0 := by rw [← v2]; exact one_limb u2 (by omega)
     have hkp : nv k ≠ 0 := fun h => by have := nv_nil_tr hk h; omega
     have hx1 : 0 < (tr k).getD (0 : Int).toNat 0 := by omega
     refine X_op' rfl (A_callV rfl rfl rfl rfl (.cons (V_t rfl) (K_t rfl) (.cons (V_t rfl) (K_t rfl) .nil)) (c146 u1 (by omega) hx1 hx.2)) ?_
     refine X_op' rfl (A_mvU (.inl rfl) rfl) ?_
     refine X_op' rfl (A_ext rfl rfl rfl) ?_
     refine X_op' rfl (A_ext rfl rfl rfl) ?_
     refine xa rfl rfl rfl rfl ?_
     refine xa rfl rfl rfl rfl ?_
     refine X_endS ?_
     try dsimp only [St.put, szA, List.length, Nat.reduceAdd]
     refine wsr ?_
     refine xm rfl rfl rfl rfl ?_
     refine xm rfl rfl rfl rfl ?_
     refine X_op' rfl (A_conv rfl rfl rfl rfl rfl (wU (Int.emod_nonneg _ (by omega)) (by have hm1 : nv (tr l) % (tr k).getD (0 : Int).toNat 0 < (tr k).getD (0 : Int).toNat 0 := Int.emod_lt_of_pos _ (by omega); omega))) ?_
     have hm0 : 0 ≤ nv (tr l) % (tr k).getD (0 : Int).toNat 0 := Int.emod_nonneg _ (by omega)
     have hm1 : nv (tr l) % (tr k).getD (0 : Int).toNat 0 < (tr k).getD (0 : Int).toNat 0 := Int.emod_lt_of_pos _ (by omega)
     refine X_op' rfl (A_callV rfl rfl rfl rfl (.cons (V_t rfl) (K_t rfl) .nil) (c108 hm0 (by omega))) ?_
     refine xa rfl rfl rfl rfl ?_
     refine xa rfl rfl rfl rfl ?_
     refine xa rfl rfl rfl rfl ?_
     refine X_endS ?_
     try dsimp only [St.put, szA, List.length, Nat.reduceAdd]
     refine W_ret ?_
     refine Q_blkR ?_
     refine Q_seqX ?_
     have hr : divR l k = .ts [tn (en (nv (tr l) / (tr k).getD (0 : Int).toNat 0)), tn (en (nv (tr l) % (tr k).getD (0 : Int).toNat 0)), .v (.bool true)] := by
       rw [divR, if_neg hkp, v1, hk1]
     rw [hr]
     exact end_R rfl (.t rfl (.t rfl (.t rfl .nil)))
    ·have khb3 := hb3; (try simp only [kb] at khb3)
     refine W_skip ?_
     refine Q_blkN ?_
     refine Q_seq ?_
     refine wsr ?_
     have hkp : nv k ≠ 0 := fun h => by have := nv_nil_tr hk h; omega
     have hge : nv k ≤ nv l := by rw [← v1, ← v2]; exact Int.not_lt.1 fun h => absurd (cmpI_neg_iff.2 h) (by omega)
     have hlast : (tr k).getD ((tr k).length - 1) 0 ≠ 0 := tr_tr_last hk (by omega)
     refine xm rfl rfl rfl rfl ?_
     refine xm rfl rfl rfl rfl ?_
     refine X_op' rfl (A_callV rfl rfl rfl rfl (.cons (V_t rfl) (K_t rfl) (.cons (V_t rfl) (K_t rfl) .nil)) (c147 u1 (by omega) u2 (by omega) hlast (tr_len_le hl hk (by omega)))) ?_
     refine X_op' rfl (A_mvU (.inl rfl) rfl) ?_
     refine X_op' rfl (A_ext rfl rfl rfl) ?_
     refine X_op' rfl (A_ext rfl rfl rfl) ?_
     refine xa rfl rfl rfl rfl ?_
     refine xa rfl rfl rfl rfl ?_
     refine X_endS ?_
     try dsimp only [St.put, szA, List.length, Nat.reduceAdd]
     refine wsr ?_
     refine xm rfl rfl rfl rfl ?_
     refine xm rfl rfl rfl rfl ?_
     refine xa rfl rfl rfl rfl ?_
     refine xa rfl rfl rfl rfl ?_
     refine xa rfl rfl rfl rfl ?_
     refine X_endS ?_
     try dsimp only [St.put, szA, List.length, Nat.reduceAdd]
     refine W_ret ?_
     have hr : divR l k = .ts [tn (en (nv (tr l) / nv (tr k))), tn (en (nv (tr l) % nv (tr k))), .v (.bool true)] := by
       rw [divR, if_neg hkp, v1, v2]
     rw [hr]
     exact end_R rfl (.t rfl (.t rfl (.t rfl .nil)))
def g109 : List T → Option Ret := g2 fun l k => if l.length ≤ 1099511627775 ∧ k.length ≤ 1099511627775 then some (divR l k) else none
theorem ok109 {sp : Nat → Option Spec} (hS : ∀ f s, sp f = some s → SpecOk Tryz.prog f s) (hr : ∀ ts r, g109 ts = some r → ts.length = 2 ∧ pureRun ty sp keep109 4398046511104 false Tryz.f109.results (Tryz.f109.body.getD .skip) ts = some r) : SpecOk Tryz.prog 109 (viewSpec g109) := by
  refine SpecOk.view (pure_ok mixed ty_ok hS Tryz.func109 rfl (by kernel_rfl) (enters_of Tryz.func109 (by kernel_rfl) rfl) keep109 (fun _ => 4398046511104) false 2 (by decide)) fun ts r h => ?_
  rw [if_pos (hr ts r h).1]
  exact (hr ts r h).2
theorem c109 {l k : List Int} (h : U32 l) (hl : l.length ≤ 1099511627775) (h' : U32 k) (hk : k.length ≤ 1099511627775) : g109 [tn l, tn k] = some (divR l k) := by
  rw [g109, g2_eq h (by omega) h' (by omega), if_pos ⟨hl, hk⟩]
theorem c109' {l k : List Int} (h : U32 l) (hl : l.length ≤ 1099511627775) (h' : U32 k) (hk : k.length ≤ 1099511627775) (h0 : nv k ≠ 0) : g109 [tn l, tn k] = some (.ts [tn (en (nv l / nv k)), tn (en (nv l % nv k)), .v (.bool true)]) := by
  rw [c109 h hl h' hk, divR, if_neg h0]
theorem s109 : SpecOk Tryz.prog 109 (viewSpec g109) := ok109 hN6 fun ts r h => by
  obtain ⟨l, k, rfl, h1, h2, h3, h4, h5⟩ := g2_some h
  split at h5
  · rename_i hc
    exact ⟨rfl, (run109 l k h1 hc.1 h3 hc.2 _ _ rfl).trans h5⟩
  · cases h5
noncomputable abbrev spN7 : Nat → Option Spec := more 109 (viewSpec g109) spN6
theorem hN7 : ∀ f s, spN7 f = some s → SpecOk Tryz.prog f s := more_ok s109 hN6
def igcd (x y : Int) : Int := (Nat.gcd x.toNat y.toNat : Int)
theorem igcd_zero (x : Int) (h : 0 ≤ x) : igcd x 0 = x := by simp only [igcd, Int.toNat_zero, Nat.gcd_zero_right]; omega
theorem igcd_step {x y : Int} (hx : 0 ≤ x) (hy : 0 ≤ y) : igcd y (x % y) = igcd x y := by
  unfold igcd
  rw [Int.toNat_emod hx hy, Nat.gcd_comm, Nat.gcd_rec y.toNat x.toNat |>.symm, Nat.gcd_comm]
theorem igcd_nonneg (x y : Int) : 0 ≤ igcd x y := by unfold igcd; omega
def keep136 : Nat → List Nat := fun b => if b = 0 then [0, 1] else [8, 10]
def st136 (x y : Int) : St := { tm := [(0, .t (tn (en x))), (1, .t (tn (en y)))], mm := [], nx := 0 }
def sv136 (x y : Int) : St := { tm := [(8, .t (.v (.int .u64 x))), (10, .t (.v (.int .u64 y)))], mm := [], nx := 0 }
theorem en_len_P {x : Int} (n : Nat) : (en x).length ≤ n ↔ x < P n := by
  constructor
  · intro h
    rcases Int.lt_or_le x 0 with h0 | h0
    · have := P_pos n; omega
    · have h1 := nv_lt (U32_en x)
      rw [nv_en h0] at h1
      have := P_le h
      omega
  · exact en_length
set_option maxHeartbeats 8000000 in
theorem run136 (l k : List Int) (hl : U32 l) (hll : l.length ≤ 1099511627775) (hk : U32 k) (hkl : k.length ≤ 1099511627775) (fuel : Nat) (hf : (nv k).toNat + 18446744073709551616 < fuel) (c : Code) (hc : Tryz.f136.body = some c) :
    pureRun ty spN7 keep136 fuel false Tryz.f136.results c [tn l, tn k] = some (.ts [tn (en (igcd (nv l) (nv k)))]) := by
  injection hc with hc
  subst hc
  have el : tr l = en (nv l) := tr_eq_en hl
  have ek : tr k = en (nv k) := tr_eq_en hk
  have b1 := tr_length l
  have b2 := tr_length k
  have p1 := nv_nonneg hl
  have p2 := nv_nonneg hk
  refine pure_wc ?_
  refine wsr ?_
  refine X_op' rfl (A_mv0 (.inr rfl) rfl rfl rfl rfl) ?_
  refine X_endS ?_
  try dsimp only [St.put, szA, List.length, Nat.reduceAdd]
  refine wsr ?_
  refine xm rfl rfl rfl rfl ?_
  refine X_op' rfl (A_callV rfl rfl rfl rfl (.cons (V_t rfl) (K_t rfl) .nil) (c105 (by first | assumption | omega) (by first | assumption | omega))) ?_
  refine xm rfl rfl rfl rfl ?_
  refine X_op' rfl (A_callV rfl rfl rfl rfl (.cons (V_t rfl) (K_t rfl) .nil) (c105 (by first | assumption | omega) (by first | assumption | omega))) ?_
  refine xa rfl rfl rfl rfl ?_
  refine xa rfl rfl rfl rfl ?_
  refine X_endS ?_
  try dsimp only [St.put, szA, List.length, Nat.reduceAdd]
  refine W_seq ?_
  refine W_blk ?_
  refine W_loop (fun nn σ => ∃ x y : Int, 0 ≤ x ∧ 0 ≤ y ∧ (en x).length ≤ 1099511627775 ∧ (en y).length ≤ 1099511627775 ∧ igcd x y = igcd (nv l) (nv k) ∧ σ = st136 x y ∧ nn = y.toNat) ((nv k).toNat) ?_ ?_ (by omega)
  rotate_left
  · exact ⟨nv l, nv k, p1, p2, (by rw [← el]; omega), (by rw [← ek]; omega), rfl, Eq.trans (b := { tm := [(0, .t (tn (tr l))), (1, .t (tn (tr k)))], mm := [], nx := 0 }) (by kernel_rfl) (by rw [el, ek]; rfl), rfl⟩
  rintro nn _ ⟨x, y, hx0, hy0, lx, ly, hg, rfl, hnn⟩
  have e1 := cn_length (en x)
  have e2 := cn_length (en y)
  have ux := U32_en x
  have uy := U32_en y
  have vx := nv_en hx0
  have vy := nv_en hy0
  refine W_seq ?_
  refine wsr ?_
  refine xm rfl rfl rfl rfl ?_
  refine X_op' rfl (A_lenT rfl rfl rfl rfl rfl rfl rfl) ?_
  refine X_op' rfl (A_int rfl rfl rfl ⟨by decide, by decide⟩ rfl) ?_
  refine xm rfl rfl rfl rfl ?_
  refine X_both (d := 19) rfl (fun hb1 => ?_) (fun hb1 => ?_)
  ·have khb1 := hb1; (try simp only [kb] at khb1)
   refine X_no1 rfl rfl rfl hb1 ?_
   refine X_no1 rfl rfl rfl hb1 ?_
   refine X_no1 rfl rfl rfl hb1 ?_
   refine X_no1 rfl rfl rfl hb1 ?_
   refine X_no2 rfl rfl rfl ?_
   refine X_no2 rfl rfl rfl ?_
   refine X_no2 rfl rfl rfl ?_
   refine X_no1 rfl rfl rfl hb1 ?_
   refine X_op' rfl (A_pickT rfl rfl hb1 rfl) ?_
   refine X_endS ?_
   try dsimp only [St.put, szA, List.length, Nat.reduceAdd]
   refine W_condT rfl rfl ?_
   refine W_skip ?_
   refine Q_seq ?_
   refine W_blk ?_
   refine wsr ?_
   refine xm rfl rfl rfl rfl ?_
   refine xm rfl rfl rfl rfl ?_
   have hyp : 0 < y := by
     rcases Int.lt_or_le 0 y with h | h
     · exact h
     · exfalso
       have : y = 0 := by omega
       have := en_len0 this
       omega
   refine X_op' rfl (A_callV rfl rfl rfl rfl (.cons (V_t rfl) (K_t rfl) (.cons (V_t rfl) (K_t rfl) .nil)) ((c109' ux (by omega) uy (by omega) (by omega)).trans (by rw [vx, vy]))) ?_
   refine X_op' rfl (A_mvU (.inl rfl) rfl) ?_
   refine X_op' rfl (A_ext rfl rfl rfl) ?_
   refine X_op' rfl (A_ext rfl rfl rfl) ?_
   refine X_op' rfl (A_ext rfl rfl rfl) ?_
   refine xa rfl rfl rfl rfl ?_
   refine xa rfl rfl rfl rfl ?_
   refine xa rfl rfl rfl rfl ?_
   refine X_endS ?_
   try dsimp only [St.put, szA, List.length, Nat.reduceAdd]
   refine W_reg ?_
   refine xm rfl rfl rfl rfl ?_
   refine xm rfl rfl rfl rfl ?_
   refine xa rfl rfl rfl rfl ?_
   refine xa rfl rfl rfl rfl ?_
   refine X_end ?_
   try dsimp only [St.put, szA, List.length, Nat.reduceAdd]
   refine Q_blkN ?_
   have hm0 : 0 ≤ x % y := Int.emod_nonneg _ (by omega)
   have hm1 : x % y < y := Int.emod_lt_of_pos _ (by omega)
   exact ⟨(x % y).toNat, by omega, y, x % y, hy0, hm0, ly, (by rw [en_len_P] at ly ⊢; omega), (by rw [igcd_step hx0 hy0]; exact hg), by kernel_rfl, rfl⟩
  ·have khb1 := hb1; (try simp only [kb] at khb1)
   refine X_yes' rfl rfl rfl hb1 (A_mvT (.inl rfl) rfl rfl) ?_
   refine X_yes' rfl rfl rfl hb1 (A_lenT rfl rfl rfl rfl rfl rfl rfl) ?_
   refine X_yes' rfl rfl rfl hb1 (A_int rfl rfl rfl ⟨by decide, by decide⟩ rfl) ?_
   refine X_yes' rfl rfl rfl hb1 (A_mvT (.inl rfl) rfl rfl) ?_
   refine X_both (d := 23) rfl (fun hb3 => ?_) (fun hb3 => ?_)
   ·have khb3 := hb3; (try simp only [kb] at khb3)
    refine X_yes' rfl rfl rfl hb3 (A_mvT (.inl rfl) rfl rfl) ?_
    refine X_yes' rfl rfl rfl hb3 (A_lenT rfl rfl rfl rfl rfl rfl rfl) ?_
    refine X_yes' rfl rfl rfl hb3 (A_int rfl rfl rfl ⟨by decide, by decide⟩ rfl) ?_
    refine X_yes' rfl rfl rfl hb1 (A_pickT rfl rfl hb3 rfl) ?_
    refine X_op' rfl (A_pickF rfl rfl hb1 rfl) ?_
    refine X_endS ?_
    try dsimp only [St.put, szA, List.length, Nat.reduceAdd]
    refine W_condB rfl (fun hb4 => ?_) (fun hb4 => ?_)
    ·have khb4 := hb4; (try simp only [kb] at khb4)
     refine W_skip ?_
     refine Q_seq ?_
     refine W_blk ?_
     refine wsr ?_
     refine xm rfl rfl rfl rfl ?_
     refine xm rfl rfl rfl rfl ?_
     have hyp : 0 < y := by
       rcases Int.lt_or_le 0 y with h | h
       · exact h
       · exfalso
         have : y = 0 := by omega
         have := en_len0 this
         omega
     refine X_op' rfl (A_callV rfl rfl rfl rfl (.cons (V_t rfl) (K_t rfl) (.cons (V_t rfl) (K_t rfl) .nil)) ((c109' ux (by omega) uy (by omega) (by omega)).trans (by rw [vx, vy]))) ?_
     refine X_op' rfl (A_mvU (.inl rfl) rfl) ?_
     refine X_op' rfl (A_ext rfl rfl rfl) ?_
     refine X_op' rfl (A_ext rfl rfl rfl) ?_
     refine X_op' rfl (A_ext rfl rfl rfl) ?_
     refine xa rfl rfl rfl rfl ?_
     refine xa rfl rfl rfl rfl ?_
     refine xa rfl rfl rfl rfl ?_
     refine X_endS ?_
     try dsimp only [St.put, szA, List.length, Nat.reduceAdd]
     refine W_reg ?_
     refine xm rfl rfl rfl rfl ?_
     refine xm rfl rfl rfl rfl ?_
     refine xa rfl rfl rfl rfl ?_
     refine xa rfl rfl rfl rfl ?_
     refine X_end ?_
     try dsimp only [St.put, szA, List.length, Nat.reduceAdd]
     refine Q_blkN ?_
     have hm0 : 0 ≤ x % y := Int.emod_nonneg _ (by omega)
     have hm1 : x % y < y := Int.emod_lt_of_pos _ (by omega)
     exact ⟨(x % y).toNat, by omega, y, x % y, hy0, hm0, ly, (by rw [en_len_P] at ly ⊢; omega), (by rw [igcd_step hx0 hy0]; exact hg), by kernel_rfl, rfl⟩
    ·have khb4 := hb4; (try simp only [kb] at khb4)
     refine W_exit ?_
     refine Q_seqX ?_
     refine Q_rndX ?_
     refine Q_blkE ?_
     refine Q_seq ?_
     refine W_seq ?_
     refine wsr ?_
     refine xm rfl rfl rfl rfl ?_
     refine X_op' rfl (A_lenT rfl rfl rfl rfl rfl rfl rfl) ?_
     refine X_op' rfl (A_int rfl rfl rfl ⟨by decide, by decide⟩ rfl) ?_
     refine X_endS ?_
     try dsimp only [St.put, szA, List.length, Nat.reduceAdd]
     refine W_condB rfl (fun hb6 => ?_) (fun hb6 => ?_)
     ·have khb6 := hb6; (try simp only [kb] at khb6)
      refine wsr ?_
      refine xm rfl rfl rfl rfl ?_
      refine xa rfl rfl rfl rfl ?_
      refine X_endS ?_
      try dsimp only [St.put, szA, List.length, Nat.reduceAdd]
      refine W_ret ?_
      refine Q_seqX ?_
      have hy1 : y = 0 := by first | omega | exact (en_nil_of_length hy0).1 (by omega)
      have hr : igcd (nv l) (nv k) = x := by rw [← hg, hy1, igcd_zero x hx0]
      rw [hr]
      exact end_R rfl (.t rfl .nil)
     ·have khb6 := hb6; (try simp only [kb] at khb6)
      refine W_skip ?_
      refine Q_seq ?_
      refine wsr ?_
      have hny : ¬ y = 0 := fun h => by have := en_len0 h; omega
      have q2 : y < 18446744073709551616 := by have h := (en_len_P 2).1 (show (en y).length ≤ 2 by omega); rw [P2] at h; exact h
      have q1 : x < 18446744073709551616 := by have h := (en_len_P 2).1 (show (en x).length ≤ 2 by omega); rw [P2] at h; exact h
      refine xm rfl rfl rfl rfl ?_
      refine X_op' rfl (A_callV rfl rfl rfl rfl (.cons (V_t rfl) (K_t rfl) .nil) ((c84 ux (by omega)).trans (by rw [u64R, vx, if_pos q1]))) ?_
      refine X_op' rfl (A_mvU (.inl rfl) rfl) ?_
      refine X_op' rfl (A_ext rfl rfl rfl) ?_
      refine X_op' rfl (A_ext rfl rfl rfl) ?_
      refine xa rfl rfl rfl rfl ?_
      refine xa rfl rfl rfl rfl ?_
      refine X_endS ?_
      try dsimp only [St.put, szA, List.length, Nat.reduceAdd]
      refine wsr ?_
      refine xm rfl rfl rfl rfl ?_
      refine X_op' rfl (A_callV rfl rfl rfl rfl (.cons (V_t rfl) (K_t rfl) .nil) ((c84 uy (by omega)).trans (by rw [u64R, vy, if_pos q2]))) ?_
      refine X_op' rfl (A_mvU (.inl rfl) rfl) ?_
      refine X_op' rfl (A_ext rfl rfl rfl) ?_
      refine X_op' rfl (A_ext rfl rfl rfl) ?_
      refine xa rfl rfl rfl rfl ?_
      refine xa rfl rfl rfl rfl ?_
      refine X_endS ?_
      try dsimp only [St.put, szA, List.length, Nat.reduceAdd]
      refine W_seq ?_
      refine W_blk ?_
      refine W_loop (fun nn σ => ∃ x y : Int, 0 ≤ x ∧ 0 ≤ y ∧ x < 18446744073709551616 ∧ y < 18446744073709551616 ∧ igcd x y = igcd (nv l) (nv k) ∧ σ = sv136 x y ∧ nn = y.toNat) (y.toNat) ?_ ?_ (by omega)
      rotate_left
      · exact ⟨x, y, hx0, hy0, q1, q2, hg, by kernel_rfl, rfl⟩
      clear hnn
      rintro nn _ ⟨x, y, hx0, hy0, q1, q2, hg, rfl, hnn⟩
      refine W_seq ?_
      refine wsr ?_
      refine xm rfl rfl rfl rfl ?_
      refine X_op' rfl (A_int rfl rfl rfl ⟨by decide, by decide⟩ rfl) ?_
      refine X_endS ?_
      try dsimp only [St.put, szA, List.length, Nat.reduceAdd]
      refine W_condB rfl (fun hb9 => ?_) (fun hb9 => ?_)
      ·have khb9 := hb9; (try simp only [kb] at khb9)
       refine W_skip ?_
       refine Q_seq ?_
       refine W_blk ?_
       refine W_reg ?_
       refine xm rfl rfl rfl rfl ?_
       refine xm rfl rfl rfl rfl ?_
       refine xm rfl rfl rfl rfl ?_
       refine X_op' rfl (A_int rfl rfl rfl ⟨by decide, by decide⟩ (remU hx0 (by omega))) ?_
       refine xa rfl rfl rfl rfl ?_
       refine xa rfl rfl rfl rfl ?_
       refine X_endD (by kernel_rfl) (by kernel_rfl) ?_
       try dsimp only [St.put, szA, List.length, Nat.reduceAdd]
       refine Q_blkN ?_
       have hm0 : 0 ≤ x % y := Int.emod_nonneg _ (by omega)
       have hm1 : x % y < y := Int.emod_lt_of_pos _ (by omega)
       exact ⟨(x % y).toNat, by omega, y, x % y, hy0, hm0, q2, (by omega), (by rw [igcd_step hx0 hy0]; exact hg), by kernel_rfl, rfl⟩
      ·have khb9 := hb9; (try simp only [kb] at khb9)
       refine W_exit ?_
       refine Q_seqX ?_
       refine Q_rndX ?_
       refine Q_blkE ?_
       refine Q_seq ?_
       refine wsr ?_
       refine xm rfl rfl rfl rfl ?_
       refine X_op' rfl (A_callV rfl rfl rfl rfl (.cons (V_t rfl) (K_t rfl) .nil) (c108 hx0 q1)) ?_
       refine xa rfl rfl rfl rfl ?_
       refine X_endS ?_
       try dsimp only [St.put, szA, List.length, Nat.reduceAdd]
       refine W_ret ?_
       have hy1 : y = 0 := by first | omega | exact (en_nil_of_length hy0).1 (by omega)
       have hr : igcd (nv l) (nv k) = x := by rw [← hg, hy1, igcd_zero x hx0]
       rw [hr]
       exact end_R rfl (.t rfl .nil)
   ·have khb3 := hb3; (try simp only [kb] at khb3)
    refine X_no1 rfl rfl rfl hb3 ?_
    refine X_no1 rfl rfl rfl hb3 ?_
    refine X_no1 rfl rfl rfl hb3 ?_
    refine X_yes' rfl rfl rfl hb1 (A_pickF rfl rfl hb3 rfl) ?_
    refine X_op' rfl (A_pickF rfl rfl hb1 rfl) ?_
    refine X_endS ?_
    try dsimp only [St.put, szA, List.length, Nat.reduceAdd]
    refine W_condF rfl rfl ?_
    refine W_exit ?_
    refine Q_seqX ?_
    refine Q_rndX ?_
    refine Q_blkE ?_
    refine Q_seq ?_
    refine W_seq ?_
    refine wsr ?_
    refine xm rfl rfl rfl rfl ?_
    refine X_op' rfl (A_lenT rfl rfl rfl rfl rfl rfl rfl) ?_
    refine X_op' rfl (A_int rfl rfl rfl ⟨by decide, by decide⟩ rfl) ?_
    refine X_endS ?_
    try dsimp only [St.put, szA, List.length, Nat.reduceAdd]
    refine W_condB rfl (fun hb10 => ?_) (fun hb10 => ?_)
    ·have khb10 := hb10; (try simp only [kb] at khb10)
     refine wsr ?_
     refine xm rfl rfl rfl rfl ?_
     refine xa rfl rfl rfl rfl ?_
     refine X_endS ?_
     try dsimp only [St.put, szA, List.length, Nat.reduceAdd]
     refine W_ret ?_
     refine Q_seqX ?_
     have hy1 : y = 0 := by first | omega | exact (en_nil_of_length hy0).1 (by omega)
     have hr : igcd (nv l) (nv k) = x := by rw [← hg, hy1, igcd_zero x hx0]
     rw [hr]
     exact end_R rfl (.t rfl .nil)
    ·have khb10 := hb10; (try simp only [kb] at khb10)
     refine W_skip ?_
     refine Q_seq ?_
     refine wsr ?_
     have hny : ¬ y = 0 := fun h => by have := en_len0 h; omega
     have q2 : y < 18446744073709551616 := by have h := (en_len_P 2).1 (show (en y).length ≤ 2 by omega); rw [P2] at h; exact h
     have q1 : x < 18446744073709551616 := by have h := (en_len_P 2).1 (show (en x).length ≤ 2 by omega); rw [P2] at h; exact h
     refine xm rfl rfl rfl rfl ?_
     refine X_op' rfl (A_callV rfl rfl rfl rfl (.cons (V_t rfl) (K_t rfl) .nil) ((c84 ux (by omega)).trans (by rw [u64R, vx, if_pos q1]))) ?_
     refine X_op' rfl (A_mvU (.inl rfl) rfl) ?_
     refine X_op' rfl (A_ext rfl rfl rfl) ?_
     refine X_op' rfl (A_ext rfl rfl rfl) ?_
     refine xa rfl rfl rfl rfl ?_
     refine xa rfl rfl rfl rfl ?_
     refine X_endS ?_
     try dsimp only [St.put, szA, List.length, Nat.reduceAdd]
     refine wsr ?_
     refine xm rfl rfl rfl rfl ?_
     refine X_op' rfl (A_callV rfl rfl rfl rfl (.cons (V_t rfl) (K_t rfl) .nil) ((c84 uy (by omega)).trans (by rw [u64R, vy, if_pos q2]))) ?_
     refine X_op' rfl (A_mvU (.inl rfl) rfl) ?_
     refine X_op' rfl (A_ext rfl rfl rfl) ?_
     refine X_op' rfl (A_ext rfl rfl rfl) ?_
     refine xa rfl rfl rfl rfl ?_
     refine xa rfl rfl rfl rfl ?_
     refine X_endS ?_
     try dsimp only [St.put, szA, List.length, Nat.reduceAdd]
     refine W_seq ?_
     refine W_blk ?_
     refine W_loop (fun nn σ => ∃ x y : Int, 0 ≤ x ∧ 0 ≤ y ∧ x < 18446744073709551616 ∧ y < 18446744073709551616 ∧ igcd x y = igcd (nv l) (nv k) ∧ σ = sv136 x y ∧ nn = y.toNat) (y.toNat) ?_ ?_ (by omega)
     rotate_left
     · exact ⟨x, y, hx0, hy0, q1, q2, hg, by kernel_rfl, rfl⟩
     clear hnn
     rintro nn _ ⟨x, y, hx0, hy0, q1, q2, hg, rfl, hnn⟩
     refine W_seq ?_
     refine wsr ?_
     refine xm rfl rfl rfl rfl ?_
     refine X_op' rfl (A_int rfl rfl rfl ⟨by decide, by decide⟩ rfl) ?_
     refine X_endS ?_
     try dsimp only [St.put, szA, List.length, Nat.reduceAdd]
     refine W_condB rfl (fun hb13 => ?_) (fun hb13 => ?_)
     ·have khb13 := hb13; (try simp only [kb] at khb13)
      refine W_skip ?_
      refine Q_seq ?_
      refine W_blk ?_
      refine W_reg ?_
      refine xm rfl rfl rfl rfl ?_
      refine xm rfl rfl rfl rfl ?_
      refine xm rfl rfl rfl rfl ?_
      refine X_op' rfl (A_int rfl rfl rfl ⟨by decide, by decide⟩ (remU hx0 (by omega))) ?_
      refine xa rfl rfl rfl rfl ?_
      refine xa rfl rfl rfl rfl ?_
      refine X_endD (by kernel_rfl) (by kernel_rfl) ?_
      try dsimp only [St.put, szA, List.length, Nat.reduceAdd]
      refine Q_blkN ?_
      have hm0 : 0 ≤ x % y := Int.emod_nonneg _ (by omega)
      have hm1 : x % y < y := Int.emod_lt_of_pos _ (by omega)
      exact ⟨(x % y).toNat, by omega, y, x % y, hy0, hm0, q2, (by omega), (by rw [igcd_step hx0 hy0]; exact hg), by kernel_rfl, rfl⟩
     ·have khb13 := hb13; (try simp only [kb] at khb13)
      refine W_exit ?_
      refine Q_seqX ?_
      refine Q_rndX ?_
      refine Q_blkE ?_
      refine Q_seq ?_
      refine wsr ?_
      refine xm rfl rfl rfl rfl ?_
      refine X_op' rfl (A_callV rfl rfl rfl rfl (.cons (V_t rfl) (K_t rfl) .nil) (c108 hx0 q1)) ?_
      refine xa rfl rfl rfl rfl ?_
      refine X_endS ?_
      try dsimp only [St.put, szA, List.length, Nat.reduceAdd]
      refine W_ret ?_
      have hy1 : y = 0 := by first | omega | exact (en_nil_of_length hy0).1 (by omega)
      have hr : igcd (nv l) (nv k) = x := by rw [← hg, hy1, igcd_zero x hx0]
      rw [hr]
      exact end_R rfl (.t rfl .nil)
noncomputable def fu136 : List T → Nat := fun ts => match ts with | [_, t] => (match decN t with | some k => (nv k).toNat | none => 0) + 18446744073709551617 | _ => 0
noncomputable def g136 : List T → Option Ret := fun ts => if ts.length = 2 then pureRun ty spN7 keep136 (fu136 ts) false Tryz.f136.results (Tryz.f136.body.getD .skip) ts else none
theorem s136 : SpecOk Tryz.prog 136 (viewSpec g136) := pure_ok mixed ty_ok hN7 Tryz.func136 rfl (by kernel_rfl) (enters_of Tryz.func136 (by kernel_rfl) rfl) keep136 fu136 false 2 (by decide)
theorem c136 {l k : List Int} (h : U32 l) (hl : l.length ≤ 1099511627775) (h' : U32 k) (hk : k.length ≤ 1099511627775) : g136 [tn l, tn k] = some (.ts [tn (en (igcd (nv l) (nv k)))]) :=
  (if_pos rfl).trans (run136 l k h hl h' hk _ (by simp only [fu136, decN_tn h' (show k.length ≤ 1099511627776 by omega)]; exact Nat.add_lt_add_left (by decide) _) _ rfl)

end Go.Ev.S
