/- Texts of this claim, joined by program: part 4. -/
import Derived.Test.YtlnddlmppngegaaGreatYc
/- The package integer: the other walks. -/
set_option linter.unusedVariables false
set_option linter.unusedSimpArgs false
set_option maxRecDepth 100000
namespace Go.Ev.S
open Go Go.Ev Go.Proofs NumA
theorem bits_zero {l : List Int} (h : U32 l) : (bitsN l == 0) = decide (nv l = 0) := by
  unfold bitsN
  split
  · rename_i h0
    rw [nv_tr_nil h0]; rfl
  · rename_i h0
    have h1 : nv l ≠ 0 := fun e => h0 (nv_nil_tr h e)
    have h2 := Lib.bitLenAux_bounds 64 ((tr l).getD ((tr l).length - 1) 0).toNat
    have h3 := U32_getD (U32_tr h) ((tr l).length - 1)
    have h4 := tr_tr_last h (by omega)
    have h5 := (h2 (by omega) (by omega)).1
    change 1 ≤ Lib.bitLen _ at h5
    rw [decide_eq_false h1]
    simp only [beq_eq_false_iff_ne, ne_eq]
    omega
/-- The sign of a number. -/
def sgI (x : Int) : Int := if x = 0 then 0 else if x < 0 then -1 else 1
theorem ivI_zero {b : Bool} {l : List Int} : ivI b l = 0 ↔ nv l = 0 := by unfold ivI; split <;> omega
theorem ivI_abs {b : Bool} {l : List Int} (h : U32 l) : (ivI b l < 0 ↔ b = true ∧ nv l ≠ 0) := by
  have := nv_nonneg h
  unfold ivI; cases b <;> simp <;> omega
theorem u64R_eq (l : List Int) : u64R l = .ts [.v (.int .u64 (if nv l < 18446744073709551616 then nv l else 0)), .v (.bool (decide (nv l < 18446744073709551616)))] := by
  unfold u64R; split <;> rename_i h
  · simp only [h, if_true, decide_true]
  · simp only [h, if_false, decide_false]
theorem subR_eq (l k : List Int) : subR l k = .ts [tn (if nv k ≤ nv l then en (nv l - nv k) else []), .v (.bool (decide (nv k ≤ nv l)))] := by
  unfold subR; split <;> rename_i h
  · simp only [h, if_true, decide_true]
  · simp only [h, if_false, decide_false]
theorem ivI_neg {b : Bool} {l : List Int} (h : U32 l) (h0 : ivI b l < 0) : ivI b l = - nv l := by
  have := nv_nonneg h
  unfold ivI at h0 ⊢; split <;> rename_i hb
  · rfl
  · rw [if_neg hb] at h0; omega
theorem ivI_nn {b : Bool} {l : List Int} (h : U32 l) (h0 : 0 ≤ ivI b l) : ivI b l = nv l := by
  have := nv_nonneg h
  unfold ivI at h0 ⊢; split <;> rename_i hb
  · rw [if_pos hb] at h0; omega
  · rfl
theorem ivI_or (b : Bool) (l : List Int) : ivI b l = - nv l ∨ ivI b l = nv l := by unfold ivI; split <;> simp
theorem sg_lt {x y : Int} (h : sgI x < sgI y) : x < y := by
  unfold sgI at h
  split at h <;> (try split at h) <;> (try split at h) <;> (try split at h) <;> omega
theorem sg_neg {x : Int} : sgI x < 0 ↔ x < 0 := by
  unfold sgI; split
  · omega
  · split <;> omega
theorem sg_eq_nn {x y : Int} (h : sgI x = sgI y) (h0 : ¬ x < 0) : 0 ≤ x ∧ 0 ≤ y := by
  unfold sgI at h
  split at h <;> (try split at h) <;> (try split at h) <;> (try split at h) <;> omega
theorem sg_eq_neg {x y : Int} (h : sgI x = sgI y) (h0 : x < 0) : y < 0 := by
  unfold sgI at h
  split at h <;> (try split at h) <;> (try split at h) <;> (try split at h) <;> omega
theorem cmp_neg_neg (x y : Int) : cmpI (-x) (-y) = cmpI y x := by
  unfold cmpI; split <;> split <;> (try split) <;> (try split) <;> omega
theorem lt_P {l : List Int} (h : U32 l) {n : Nat} (hn : l.length ≤ n) : nv l < P n := Int.lt_of_lt_of_le (nv_lt h) (P_le hn)
theorem add_len {x y : Int} {n : Nat} (hx : x < P n) (hy : y < P n) : (en (x + y)).length ≤ n + 1 := en_length (by rw [P_succ]; have := P_pos n; omega)
theorem le_len {x y : Int} {n : Nat} (hx : x ≤ y) (hy : y < P n) : (en x).length ≤ n := en_length (by omega)
theorem te_pos {m : Int} (hm : 0 ≤ m) (b : Bool) : tz (b && decide (0 < (en m).length)) (en m) = te (if b = true then -m else m) := with_te hm

def keep134 : Nat → List Nat := fun _ => []
noncomputable def sp134 : Nat → Option Spec := (more 94 (viewSpec g94) noneS)
theorem hs134 : ∀ f s, sp134 f = some s → SpecOk Tryz.prog f s := (more_ok s94 none_ok)
noncomputable def fu134 : List T → Nat := fun _ => 4398046511104
noncomputable def g134 : List T → Option Ret := fun ts => if ts.length = 1 then pureRun ty sp134 keep134 (fu134 ts) false Tryz.f134.results (Tryz.f134.body.getD .skip) ts else none
theorem s134 : SpecOk Tryz.prog 134 (viewSpec g134) := pure_ok mixed ty_ok hs134 Tryz.func134 rfl (by kernel_rfl) (enters_of Tryz.func134 (by kernel_rfl) rfl) keep134 fu134 false 1 (by decide)
set_option maxHeartbeats 4000000 in
theorem c134 {b : Bool} {l : List Int} (h : U32 l) (hl : l.length ≤ 1099511627775) : g134 [tz b l] = some (.ts [.v (.bool (decide (nv l = 0)))]) := by
  have run : ∀ (fuel : Nat) (hf : 1099511627776 < fuel) (c : Code) (hc : Tryz.f134.body = some c), pureRun ty sp134 keep134 fuel false Tryz.f134.results c [tz b l] = some (.ts [.v (.bool (decide (nv l = 0)))]) := by
   intro fuel hf c hc
   injection hc with hc
   subst hc
   rw [← bits_zero h]
   refine pure_wc ?_
   refine wsr ?_
   refine X_op' rfl (A_box rfl rfl (V_t rfl) (K_t rfl) rfl rfl rfl) ?_
   refine xa rfl rfl rfl rfl ?_
   refine X_endS ?_
   try dsimp only [St.put, szA, List.length, Nat.reduceAdd]
   refine wsr ?_
   refine X_op' rfl (A_faM rfl rfl rfl rfl rfl) ?_
   refine X_op' rfl (A_ld rfl rfl rfl (ld_fd1 rfl rfl rfl rfl rfl rfl rfl)) ?_
   refine X_op' rfl (A_callV rfl rfl rfl rfl (.cons (V_t rfl) (K_t rfl) .nil) (c94 h (by omega))) ?_
   refine X_op' rfl (A_int rfl rfl rfl ⟨by decide, by decide⟩ rfl) ?_
   refine xa rfl rfl rfl rfl ?_
   refine X_endS ?_
   try dsimp only [St.put, szA, List.length, Nat.reduceAdd]
   refine W_ret ?_
   exact end_R rfl (.t rfl .nil)
  exact (if_pos rfl).trans (run _ (by simp only [fu134]; omega) _ rfl)
def keep95 : Nat → List Nat := fun _ => []
noncomputable def sp95 : Nat → Option Spec := (more 134 (viewSpec g134) noneS)
theorem hs95 : ∀ f s, sp95 f = some s → SpecOk Tryz.prog f s := (more_ok s134 none_ok)
noncomputable def fu95 : List T → Nat := fun _ => 4398046511104
noncomputable def g95 : List T → Option Ret := fun ts => if ts.length = 1 then pureRun ty sp95 keep95 (fu95 ts) false Tryz.f95.results (Tryz.f95.body.getD .skip) ts else none
theorem s95 : SpecOk Tryz.prog 95 (viewSpec g95) := pure_ok mixed ty_ok hs95 Tryz.func95 rfl (by kernel_rfl) (enters_of Tryz.func95 (by kernel_rfl) rfl) keep95 fu95 false 1 (by decide)
set_option maxHeartbeats 4000000 in
theorem c95 {b : Bool} {l : List Int} (h : U32 l) (hl : l.length ≤ 1099511627775) : g95 [tz b l] = some (.ts [.v (.int .i64 (sgI (ivI b l)))]) := by
  have run : ∀ (fuel : Nat) (hf : 1099511627776 < fuel) (c : Code) (hc : Tryz.f95.body = some c), pureRun ty sp95 keep95 fuel false Tryz.f95.results c [tz b l] = some (.ts [.v (.int .i64 (sgI (ivI b l)))]) := by
   intro fuel hf c hc
   injection hc with hc
   subst hc
   refine pure_wc ?_
   refine wsr ?_
   refine X_op' rfl (A_box rfl rfl (V_t rfl) (K_t rfl) rfl rfl rfl) ?_
   refine xa rfl rfl rfl rfl ?_
   refine X_endS ?_
   try dsimp only [St.put, szA, List.length, Nat.reduceAdd]
   refine W_seq ?_
   refine W_blk ?_
   refine wsr ?_
   refine X_op' rfl (A_ld rfl rfl rfl (ld_mp rfl rfl rfl rfl rfl rfl)) ?_
   refine X_op' rfl (A_callV rfl rfl rfl rfl (.cons (V_t rfl) (K_t rfl) .nil) (c134 (by assumption) (by omega))) ?_
   refine xa rfl rfl rfl rfl ?_
   refine X_endS ?_
   try dsimp only [St.put, szA, List.length, Nat.reduceAdd]
   refine W_condB rfl (fun hb1 => ?_) (fun hb1 => ?_)
   ·have khb1 := hb1; (try simp only [kb] at khb1)
    refine wsr ?_
    refine xa rfl rfl rfl rfl ?_
    refine X_endS ?_
    try dsimp only [St.put, szA, List.length, Nat.reduceAdd]
    refine W_ret ?_
    refine Q_blkR ?_
    refine Q_seqX ?_
    rw [show sgI (ivI b l) = 0 from if_pos (ivI_zero.2 khb1)]
    exact end_R rfl (.t rfl .nil)
   ·have khb1 := hb1; (try simp only [kb] at khb1)
    refine wsr ?_
    refine X_op' rfl (A_faM rfl rfl rfl rfl rfl) ?_
    refine X_op' rfl (A_ld rfl rfl rfl (ld_fd1 rfl rfl rfl rfl rfl rfl rfl)) ?_
    refine xa rfl rfl rfl rfl ?_
    refine X_endS ?_
    try dsimp only [St.put, szA, List.length, Nat.reduceAdd]
    refine W_condB rfl (fun hb2 => ?_) (fun hb2 => ?_)
    ·have khb2 := hb2; (try simp only [kb] at khb2)
     refine wsr ?_
     refine xa rfl rfl rfl rfl ?_
     refine X_endS ?_
     try dsimp only [St.put, szA, List.length, Nat.reduceAdd]
     refine W_ret ?_
     refine Q_blkR ?_
     refine Q_seqX ?_
     rw [show sgI (ivI b l) = -1 by rw [sgI, if_neg (fun e => khb1 (ivI_zero.1 e)), if_pos ((ivI_abs h).2 ⟨khb2, khb1⟩)]]
     exact end_R rfl (.t rfl .nil)
    ·have khb2 := hb2; (try simp only [kb] at khb2)
     refine W_skip ?_
     refine Q_blkN ?_
     refine Q_seq ?_
     refine wsr ?_
     refine xa rfl rfl rfl rfl ?_
     refine X_endS ?_
     try dsimp only [St.put, szA, List.length, Nat.reduceAdd]
     refine W_ret ?_
     rw [show sgI (ivI b l) = 1 by rw [sgI, if_neg (fun e => khb1 (ivI_zero.1 e)), if_neg (fun e => by rw [((ivI_abs h).1 e).1] at khb2; cases khb2)]]
     exact end_R rfl (.t rfl .nil)
  exact (if_pos rfl).trans (run _ (by simp only [fu95]; omega) _ rfl)
def keep81 : Nat → List Nat := fun _ => []
noncomputable def sp81 : Nat → Option Spec := (more 95 (viewSpec g95) (more 102 (viewSpec g102) noneS))
theorem hs81 : ∀ f s, sp81 f = some s → SpecOk Tryz.prog f s := (more_ok s95 (more_ok s102 none_ok))
noncomputable def fu81 : List T → Nat := fun _ => 4398046511104
noncomputable def g81 : List T → Option Ret := fun ts => if ts.length = 2 then pureRun ty sp81 keep81 (fu81 ts) false Tryz.f81.results (Tryz.f81.body.getD .skip) ts else none
theorem s81 : SpecOk Tryz.prog 81 (viewSpec g81) := pure_ok mixed ty_ok hs81 Tryz.func81 rfl (by kernel_rfl) (enters_of Tryz.func81 (by kernel_rfl) rfl) keep81 fu81 false 2 (by decide)
set_option maxHeartbeats 4000000 in
theorem c81 {b d : Bool} {l k : List Int} (h : U32 l) (hl : l.length ≤ 1099511627775)(h' : U32 k) (hk : k.length ≤ 1099511627775) : g81 [tz b l, tz d k] = some (.ts [.v (.int .i64 (cmpI (ivI b l) (ivI d k)))]) := by
  have run : ∀ (fuel : Nat) (hf : 1099511627776 < fuel) (c : Code) (hc : Tryz.f81.body = some c), pureRun ty sp81 keep81 fuel false Tryz.f81.results c [tz b l, tz d k] = some (.ts [.v (.int .i64 (cmpI (ivI b l) (ivI d k)))]) := by
   intro fuel hf c hc
   injection hc with hc
   subst hc
   refine pure_wc ?_
   refine wsr ?_
   refine X_op' rfl (A_box rfl rfl (V_t rfl) (K_t rfl) rfl rfl rfl) ?_
   refine X_op' rfl (A_box rfl rfl (V_t rfl) (K_t rfl) rfl rfl rfl) ?_
   refine xa rfl rfl rfl rfl ?_
   refine X_endS ?_
   try dsimp only [St.put, szA, List.length, Nat.reduceAdd]
   refine wsr ?_
   refine X_op' rfl (A_ld rfl rfl rfl (ld_mp rfl rfl rfl rfl rfl rfl)) ?_
   refine X_op' rfl (A_callV rfl rfl rfl rfl (.cons (V_t rfl) (K_t rfl) .nil) (c95 (by assumption) (by omega))) ?_
   refine X_op' rfl (A_ld rfl rfl rfl (ld_mp rfl rfl rfl rfl rfl rfl)) ?_
   refine X_op' rfl (A_callV rfl rfl rfl rfl (.cons (V_t rfl) (K_t rfl) .nil) (c95 (by assumption) (by omega))) ?_
   refine xa rfl rfl rfl rfl ?_
   refine xa rfl rfl rfl rfl ?_
   refine X_endDS (by kernel_rfl) (by kernel_rfl) ?_
   try dsimp only [St.put, szA, List.length, Nat.reduceAdd]
   refine W_seq ?_
   refine W_blk ?_
   refine wsr ?_
   refine xm rfl rfl rfl rfl ?_
   refine xm rfl rfl rfl rfl ?_
   refine X_op' rfl (A_int rfl rfl rfl ⟨by decide, by decide⟩ rfl) ?_
   refine xa rfl rfl rfl rfl ?_
   refine X_endS ?_
   try dsimp only [St.put, szA, List.length, Nat.reduceAdd]
   refine W_condB rfl (fun hb1 => ?_) (fun hb1 => ?_)
   ·have khb1 := hb1; (try simp only [kb] at khb1)
    refine wsr ?_
    refine xa rfl rfl rfl rfl ?_
    refine X_endS ?_
    try dsimp only [St.put, szA, List.length, Nat.reduceAdd]
    refine W_ret ?_
    refine Q_blkR ?_
    refine Q_seqX ?_
    rw [cmp_lt (sg_lt khb1)]
    exact end_R rfl (.t rfl .nil)
   ·have khb1 := hb1; (try simp only [kb] at khb1)
    refine wsr ?_
    refine xm rfl rfl rfl rfl ?_
    refine xm rfl rfl rfl rfl ?_
    refine X_op' rfl (A_int rfl rfl rfl ⟨by decide, by decide⟩ rfl) ?_
    refine xa rfl rfl rfl rfl ?_
    refine X_endS ?_
    try dsimp only [St.put, szA, List.length, Nat.reduceAdd]
    refine W_condB rfl (fun hb2 => ?_) (fun hb2 => ?_)
    ·have khb2 := hb2; (try simp only [kb] at khb2)
     refine wsr ?_
     refine xa rfl rfl rfl rfl ?_
     refine X_endS ?_
     try dsimp only [St.put, szA, List.length, Nat.reduceAdd]
     refine W_ret ?_
     refine Q_blkR ?_
     refine Q_seqX ?_
     rw [cmp_gt (sg_lt khb2)]
     exact end_R rfl (.t rfl .nil)
    ·have khb2 := hb2; (try simp only [kb] at khb2)
     refine wsr ?_
     refine xm rfl rfl rfl rfl ?_
     refine X_op' rfl (A_int rfl rfl rfl ⟨by decide, by decide⟩ rfl) ?_
     refine xa rfl rfl rfl rfl ?_
     refine X_endS ?_
     try dsimp only [St.put, szA, List.length, Nat.reduceAdd]
     refine W_condB rfl (fun hb3 => ?_) (fun hb3 => ?_)
     ·have khb3 := hb3; (try simp only [kb] at khb3)
      refine wsr ?_
      refine X_op' rfl (A_faM rfl rfl rfl rfl rfl) ?_
      refine X_op' rfl (A_ld rfl rfl rfl (ld_fd1 rfl rfl rfl rfl rfl rfl rfl)) ?_
      refine X_op' rfl (A_faM rfl rfl rfl rfl rfl) ?_
      refine X_op' rfl (A_ld rfl rfl rfl (ld_fd1 rfl rfl rfl rfl rfl rfl rfl)) ?_
      refine X_op' rfl (A_callV rfl rfl rfl rfl (.cons (V_t rfl) (K_t rfl) (.cons (V_t rfl) (K_t rfl) .nil)) (c102 (by assumption) (by omega) (by assumption) (by omega))) ?_
      refine xa rfl rfl rfl rfl ?_
      refine X_endS ?_
      try dsimp only [St.put, szA, List.length, Nat.reduceAdd]
      refine W_ret ?_
      refine Q_blkR ?_
      refine Q_seqX ?_
      have h1 := sg_neg.1 khb3
      have h2 := sg_eq_neg (Int.le_antisymm khb2 khb1) h1
      rw [ivI_neg h h1, ivI_neg h' h2, cmp_neg_neg]
      exact end_R rfl (.t rfl .nil)
     ·have khb3 := hb3; (try simp only [kb] at khb3)
      refine W_skip ?_
      refine Q_blkN ?_
      refine Q_seq ?_
      refine wsr ?_
      refine X_op' rfl (A_faM rfl rfl rfl rfl rfl) ?_
      refine X_op' rfl (A_ld rfl rfl rfl (ld_fd1 rfl rfl rfl rfl rfl rfl rfl)) ?_
      refine X_op' rfl (A_faM rfl rfl rfl rfl rfl) ?_
      refine X_op' rfl (A_ld rfl rfl rfl (ld_fd1 rfl rfl rfl rfl rfl rfl rfl)) ?_
      refine X_op' rfl (A_callV rfl rfl rfl rfl (.cons (V_t rfl) (K_t rfl) (.cons (V_t rfl) (K_t rfl) .nil)) (c102 (by assumption) (by omega) (by assumption) (by omega))) ?_
      refine xa rfl rfl rfl rfl ?_
      refine X_endS ?_
      try dsimp only [St.put, szA, List.length, Nat.reduceAdd]
      refine W_ret ?_
      have h2 := sg_eq_nn (Int.le_antisymm khb2 khb1) (fun e => absurd (sg_neg.2 e) (by omega))
      rw [ivI_nn h h2.1, ivI_nn h' h2.2]
      exact end_R rfl (.t rfl .nil)
  exact (if_pos rfl).trans (run _ (by simp only [fu81]; omega) _ rfl)
def keep103 : Nat → List Nat := fun _ => []
noncomputable def sp103 : Nat → Option Spec := (more 110 (viewSpec g110) (more 104 (viewSpec g104) (more 111 (viewSpec g111) noneS)))
theorem hs103 : ∀ f s, sp103 f = some s → SpecOk Tryz.prog f s := (more_ok s110 (more_ok s104 (more_ok s111 none_ok)))
noncomputable def fu103 : List T → Nat := fun _ => 4398046511104
noncomputable def g103 : List T → Option Ret := fun ts => if ts.length = 2 then pureRun ty sp103 keep103 (fu103 ts) false Tryz.f103.results (Tryz.f103.body.getD .skip) ts else none
theorem s103 : SpecOk Tryz.prog 103 (viewSpec g103) := pure_ok mixed ty_ok hs103 Tryz.func103 rfl (by kernel_rfl) (enters_of Tryz.func103 (by kernel_rfl) rfl) keep103 fu103 false 2 (by decide)
set_option maxHeartbeats 4000000 in
theorem c103 {b d : Bool} {l k : List Int} (h : U32 l) (hl : l.length ≤ 1099511627774)(h' : U32 k) (hk : k.length ≤ 1099511627774) : g103 [tz b l, tz d k] = some (.ts [te (ivI b l + ivI d k)]) := by
  have run : ∀ (fuel : Nat) (hf : 1099511627776 < fuel) (c : Code) (hc : Tryz.f103.body = some c), pureRun ty sp103 keep103 fuel false Tryz.f103.results c [tz b l, tz d k] = some (.ts [te (ivI b l + ivI d k)]) := by
   intro fuel hf c hc
   injection hc with hc
   subst hc
   have p1 := nv_nonneg h
   have p2 := nv_nonneg h'
   have q1 := lt_P h (n := l.length) (by omega)
   have q2 := lt_P h' (n := k.length) (by omega)
   have hA := add_len (lt_P h (Nat.le_max_left l.length k.length)) (lt_P h' (Nat.le_max_right l.length k.length))
   have hA2 : (en (nv l + nv k)).length ≤ 1099511627775 := by omega
   have hS : ∀ {l k : List Int}, U32 l → U32 k → U32 (if nv k ≤ nv l then en (nv l - nv k) else []) ∧ (if nv k ≤ nv l then en (nv l - nv k) else []).length ≤ l.length := fun {l k} h h' => by
     have p2 := nv_nonneg h'
     have q1 := lt_P h (n := l.length) (by omega)
     split
     · exact ⟨U32_en _, en_length (by omega)⟩
     · exact ⟨U32_nil, by simp⟩
   have hS1 := hS h h'
   have hS2 := hS h' h
   refine pure_wc ?_
   refine wsr ?_
   refine X_op' rfl (A_box rfl rfl (V_t rfl) (K_t rfl) rfl rfl rfl) ?_
   refine X_op' rfl (A_box rfl rfl (V_t rfl) (K_t rfl) rfl rfl rfl) ?_
   refine X_op' rfl (A_alloc rfl rfl) ?_
   refine X_endS ?_
   try dsimp only [St.put, szA, List.length, Nat.reduceAdd]
   refine W_seq ?_
   refine wsr ?_
   refine X_op' rfl (A_faM rfl rfl rfl rfl rfl) ?_
   refine X_op' rfl (A_ld rfl rfl rfl (ld_fd1 rfl rfl rfl rfl rfl rfl rfl)) ?_
   refine X_op' rfl (A_faM rfl rfl rfl rfl rfl) ?_
   refine X_op' rfl (A_ld rfl rfl rfl (ld_fd1 rfl rfl rfl rfl rfl rfl rfl)) ?_
   refine X_op' rfl (A_beq rfl rfl rfl rfl rfl) ?_
   refine X_endS ?_
   try dsimp only [St.put, szA, List.length, Nat.reduceAdd]
   refine W_condB rfl (fun hb3 => ?_) (fun hb3 => ?_)
   ·have khb3 := hb3; (try simp only [kb] at khb3)
    refine wsr ?_
    refine X_op' rfl (A_faM rfl rfl rfl rfl rfl) ?_
    refine X_op' rfl (A_ld rfl rfl rfl (ld_fd1 rfl rfl rfl rfl rfl rfl rfl)) ?_
    refine X_op' rfl (A_faM rfl rfl rfl rfl rfl) ?_
    refine X_op' rfl (A_ld rfl rfl rfl (ld_fd1 rfl rfl rfl rfl rfl rfl rfl)) ?_
    refine X_op' rfl (A_faM rfl rfl rfl rfl rfl) ?_
    refine X_op' rfl (A_ld rfl rfl rfl (ld_fd1 rfl rfl rfl rfl rfl rfl rfl)) ?_
    refine X_op' rfl (A_callV rfl rfl rfl rfl (.cons (V_t rfl) (K_t rfl) (.cons (V_t rfl) (K_t rfl) .nil)) (c110 (by assumption) (by omega) (by assumption) (by omega))) ?_
    refine X_op' rfl (A_callV rfl rfl rfl rfl (.cons (V_t rfl) (K_t rfl) (.cons (V_t rfl) (K_t rfl) .nil)) (c104 (U32_en _) (by omega))) ?_
    refine X_op' rfl (A_stV rfl rfl rfl (V_t rfl) (K_t rfl) rfl rfl rfl rfl rfl rfl rfl) ?_
    refine X_endDS (by kernel_rfl) (by kernel_rfl) ?_
    try dsimp only [St.put, szA, List.length, Nat.reduceAdd]
    refine W_ret ?_
    refine Q_seqX ?_
    have hr : te (ivI b l + ivI d k) = tz (b && decide (0 < (en (nv l + nv k)).length)) (en (nv l + nv k)) := by
      rw [with_te (by omega), ← khb3]
      congr 1
      unfold ivI
      split <;> omega
    rw [hr]
    exact end_R rfl (.c rfl (ld_mp rfl rfl rfl rfl rfl rfl) .nil)
   ·have khb3 := hb3; (try simp only [kb] at khb3)
    refine W_skip ?_
    refine Q_seq ?_
    refine W_seq ?_
    refine wsr ?_
    refine X_op' rfl (A_faM rfl rfl rfl rfl rfl) ?_
    refine X_op' rfl (A_ld rfl rfl rfl (ld_fd1 rfl rfl rfl rfl rfl rfl rfl)) ?_
    refine X_op' rfl (A_faM rfl rfl rfl rfl rfl) ?_
    refine X_op' rfl (A_ld rfl rfl rfl (ld_fd1 rfl rfl rfl rfl rfl rfl rfl)) ?_
    refine X_op' rfl (A_callV rfl rfl rfl rfl (.cons (V_t rfl) (K_t rfl) (.cons (V_t rfl) (K_t rfl) .nil)) ((c111 (by assumption) (by omega) (by assumption) (by omega)).trans (congrArg some (subR_eq _ _)))) ?_
    refine X_op' rfl (A_mvU (.inl rfl) rfl) ?_
    refine X_op' rfl (A_ext rfl rfl rfl) ?_
    refine X_op' rfl (A_ext rfl rfl rfl) ?_
    refine xa rfl rfl rfl rfl ?_
    refine xa rfl rfl rfl rfl ?_
    refine X_endS ?_
    try dsimp only [St.put, szA, List.length, Nat.reduceAdd]
    refine wsr ?_
    refine xm rfl rfl rfl rfl ?_
    refine X_endS ?_
    try dsimp only [St.put, szA, List.length, Nat.reduceAdd]
    refine W_condB rfl (fun hb5 => ?_) (fun hb5 => ?_)
    ·have khb5 := hb5; (try simp only [kb] at khb5)
     refine wsr ?_
     refine X_op' rfl (A_faM rfl rfl rfl rfl rfl) ?_
     refine X_op' rfl (A_ld rfl rfl rfl (ld_fd1 rfl rfl rfl rfl rfl rfl rfl)) ?_
     refine xm rfl rfl rfl rfl ?_
     refine X_op' rfl (A_callV rfl rfl rfl rfl (.cons (V_t rfl) (K_t rfl) (.cons (V_t rfl) (K_t rfl) .nil)) (c104 hS1.1 (by omega))) ?_
     refine X_op' rfl (A_stV rfl rfl rfl (V_t rfl) (K_t rfl) rfl rfl rfl rfl rfl rfl rfl) ?_
     refine X_endS ?_
     try dsimp only [St.put, szA, List.length, Nat.reduceAdd]
     refine W_ret ?_
     refine Q_seqX ?_
     have hr : te (ivI b l + ivI d k) = tz (b && decide (0 < (if nv k ≤ nv l then en (nv l - nv k) else []).length)) (if nv k ≤ nv l then en (nv l - nv k) else []) := by
       rw [if_pos khb5, with_te (by omega)]
       congr 1
       unfold ivI
       cases b <;> cases d <;> simp at khb3 ⊢ <;> omega
     rw [hr]
     exact end_R rfl (.c rfl (ld_mp rfl rfl rfl rfl rfl rfl) .nil)
    ·have khb5 := hb5; (try simp only [kb] at khb5)
     refine W_skip ?_
     refine Q_seq ?_
     refine wsr ?_
     refine X_op' rfl (A_faM rfl rfl rfl rfl rfl) ?_
     refine X_op' rfl (A_ld rfl rfl rfl (ld_fd1 rfl rfl rfl rfl rfl rfl rfl)) ?_
     refine X_op' rfl (A_faM rfl rfl rfl rfl rfl) ?_
     refine X_op' rfl (A_ld rfl rfl rfl (ld_fd1 rfl rfl rfl rfl rfl rfl rfl)) ?_
     refine X_op' rfl (A_callV rfl rfl rfl rfl (.cons (V_t rfl) (K_t rfl) (.cons (V_t rfl) (K_t rfl) .nil)) ((c111 (by assumption) (by omega) (by assumption) (by omega)).trans (congrArg some (subR_eq _ _)))) ?_
     refine X_op' rfl (A_mvU (.inl rfl) rfl) ?_
     refine X_op' rfl (A_ext rfl rfl rfl) ?_
     refine X_op' rfl (A_ext rfl rfl rfl) ?_
     refine xa rfl rfl rfl rfl ?_
     refine xa rfl rfl rfl rfl ?_
     refine X_endS ?_
     try dsimp only [St.put, szA, List.length, Nat.reduceAdd]
     refine wsr ?_
     refine X_op' rfl (A_faM rfl rfl rfl rfl rfl) ?_
     refine X_op' rfl (A_ld rfl rfl rfl (ld_fd1 rfl rfl rfl rfl rfl rfl rfl)) ?_
     refine xm rfl rfl rfl rfl ?_
     refine X_op' rfl (A_callV rfl rfl rfl rfl (.cons (V_t rfl) (K_t rfl) (.cons (V_t rfl) (K_t rfl) .nil)) (c104 hS2.1 (by omega))) ?_
     refine X_op' rfl (A_stV rfl rfl rfl (V_t rfl) (K_t rfl) rfl rfl rfl rfl rfl rfl rfl) ?_
     refine X_endS ?_
     try dsimp only [St.put, szA, List.length, Nat.reduceAdd]
     refine W_ret ?_
     have hr : te (ivI b l + ivI d k) = tz (d && decide (0 < (if nv l ≤ nv k then en (nv k - nv l) else []).length)) (if nv l ≤ nv k then en (nv k - nv l) else []) := by
       rw [if_pos (by omega), with_te (by omega)]
       congr 1
       unfold ivI
       cases b <;> cases d <;> simp at khb3 ⊢ <;> omega
     rw [hr]
     exact end_R rfl (.c rfl (ld_mp rfl rfl rfl rfl rfl rfl) .nil)
  exact (if_pos rfl).trans (run _ (by simp only [fu103]; omega) _ rfl)
def keep78 : Nat → List Nat := fun _ => []
noncomputable def sp78 : Nat → Option Spec := (more 108 (viewSpec g108) (more 104 (viewSpec g104) noneS))
theorem hs78 : ∀ f s, sp78 f = some s → SpecOk Tryz.prog f s := (more_ok s108 (more_ok s104 none_ok))
noncomputable def fu78 : List T → Nat := fun _ => 4398046511104
noncomputable def g78 : List T → Option Ret := fun ts => if ts.length = 1 then pureRun ty sp78 keep78 (fu78 ts) false Tryz.f78.results (Tryz.f78.body.getD .skip) ts else none
theorem s78 : SpecOk Tryz.prog 78 (viewSpec g78) := pure_ok mixed ty_ok hs78 Tryz.func78 rfl (by kernel_rfl) (enters_of Tryz.func78 (by kernel_rfl) rfl) keep78 fu78 false 1 (by decide)
set_option maxHeartbeats 4000000 in
theorem c78 {v : Int} (h0 : -9223372036854775808 ≤ v) (h1 : v < 9223372036854775808) : g78 [.v (.int .i64 v)] = some (.ts [te v]) := by
  have run : ∀ (fuel : Nat) (hf : 1099511627776 < fuel) (c : Code) (hc : Tryz.f78.body = some c), pureRun ty sp78 keep78 fuel false Tryz.f78.results c [.v (.int .i64 v)] = some (.ts [te v]) := by
   intro fuel hf c hc
   injection hc with hc
   subst hc
   refine pure_wc ?_
   refine wsr ?_
   refine X_op' rfl (A_alloc rfl rfl) ?_
   refine X_endS ?_
   try dsimp only [St.put, szA, List.length, Nat.reduceAdd]
   refine W_seq ?_
   refine wsr ?_
   refine xm rfl rfl rfl rfl ?_
   refine X_op' rfl (A_int rfl rfl rfl ⟨by decide, by decide⟩ rfl) ?_
   refine X_endS ?_
   try dsimp only [St.put, szA, List.length, Nat.reduceAdd]
   refine W_condB rfl (fun hb1 => ?_) (fun hb1 => ?_)
   ·have khb1 := hb1; (try simp only [kb] at khb1)
    refine wsr ?_
    refine xm rfl rfl rfl rfl ?_
    refine X_op' rfl (A_int rfl rfl rfl ⟨by decide, by decide⟩ (addI (by omega))) ?_
    refine X_op' rfl (A_neg rfl rfl) ?_
    refine X_op' rfl (A_conv rfl rfl rfl rfl rfl (show IntKind.u64.wrap (IntKind.i64.wrap (0 - (v + 1))) = -(v + 1) by rw [wI (by omega) (by omega), wU (by omega) (by omega)]; omega)) ?_
    refine X_op' rfl (A_int rfl rfl rfl ⟨by decide, by decide⟩ (addU (by omega))) ?_
    refine X_op' rfl (A_callV rfl rfl rfl rfl (.cons (V_t rfl) (K_t rfl) .nil) (c108 (by omega) (by omega))) ?_
    refine X_op' rfl (A_callV rfl rfl rfl rfl (.cons (V_t rfl) (K_t rfl) (.cons (V_t rfl) (K_t rfl) .nil)) (c104 (U32_en _) (by have := en_length (z := -(v + 1) + 1) (k := 2) (by rw [P2]; omega); omega))) ?_
    refine X_op' rfl (A_stV rfl rfl rfl (V_t rfl) (K_t rfl) rfl rfl rfl rfl rfl rfl rfl) ?_
    refine X_endS ?_
    try dsimp only [St.put, szA, List.length, Nat.reduceAdd]
    refine W_ret ?_
    refine Q_seqX ?_
    have hr : te v = tz (true && decide (0 < (en (-(v + 1) + 1)).length)) (en (-(v + 1) + 1)) := by
      rw [with_te (by omega)]
      congr 1
      rw [if_pos rfl]
      omega
    rw [hr]
    exact end_R rfl (.c rfl (ld_mp rfl rfl rfl rfl rfl rfl) .nil)
   ·have khb1 := hb1; (try simp only [kb] at khb1)
    refine W_skip ?_
    refine Q_seq ?_
    refine wsr ?_
    refine xm rfl rfl rfl rfl ?_
    refine X_op' rfl (A_conv rfl rfl rfl rfl rfl (wU (by omega) (by omega))) ?_
    refine X_op' rfl (A_callV rfl rfl rfl rfl (.cons (V_t rfl) (K_t rfl) .nil) (c108 (by omega) (by omega))) ?_
    refine X_op' rfl (A_callV rfl rfl rfl rfl (.cons (V_t rfl) (K_t rfl) (.cons (V_t rfl) (K_t rfl) .nil)) (c104 (U32_en _) (by have := en_length (z := v) (k := 2) (by rw [P2]; omega); omega))) ?_
    refine X_op' rfl (A_stV rfl rfl rfl (V_t rfl) (K_t rfl) rfl rfl rfl rfl rfl rfl rfl) ?_
    refine X_endS ?_
    try dsimp only [St.put, szA, List.length, Nat.reduceAdd]
    refine W_ret ?_
    have hr : te v = tz (false && decide (0 < (en v).length)) (en v) := by
      rw [with_te (by omega)]
      rfl
    rw [hr]
    exact end_R rfl (.c rfl (ld_mp rfl rfl rfl rfl rfl rfl) .nil)
  exact (if_pos rfl).trans (run _ (by simp only [fu78]; omega) _ rfl)
def valR (x : Int) : Ret := if -9223372036854775808 ≤ x ∧ x < 9223372036854775808 then .ts [.v (.int .i64 x), .v (.bool true)] else .ts [.v (.int .i64 0), .v (.bool false)]
theorem valR_yes {x y : Int} (h : -9223372036854775808 ≤ x ∧ x < 9223372036854775808) (hy : x = y) : valR x = .ts [.v (.int .i64 y), .v (.bool true)] := by rw [valR, if_pos h, hy]
theorem valR_no {x : Int} (h : ¬ (-9223372036854775808 ≤ x ∧ x < 9223372036854775808)) : valR x = .ts [.v (.int .i64 0), .v (.bool false)] := if_neg h
theorem u64_ex {l : List Int} (h : U32 l) (hl : l.length ≤ 1099511627775) : ∃ v ok, g84 [tn l] = some (.ts [.v (.int .u64 v), .v (.bool ok)]) ∧ (ok = true → v = nv l ∧ nv l < 18446744073709551616) ∧ (ok = false → 18446744073709551616 ≤ nv l) ∧ 0 ≤ v ∧ v < 18446744073709551616 := by
  have := nv_nonneg h
  by_cases hv : nv l < 18446744073709551616
  · exact ⟨nv l, true, (c84 h (by omega)).trans (by rw [u64R, if_pos hv]), fun _ => ⟨rfl, hv⟩, (fun e => by cases e), this, hv⟩
  · exact ⟨0, false, (c84 h (by omega)).trans (by rw [u64R, if_neg hv]), (fun e => by cases e), fun _ => by omega, by omega, by omega⟩
theorem ediv_pos {a k : Int} (ha : 0 ≤ a) (hk : 0 < k) (hm : 0 < a % k) : (-a) / k = -(a / k + 1) ∧ (-a) % k = k - a % k := by
  have h1 := Int.emod_lt_of_pos a hk
  have h2 := Int.emod_add_mul_ediv a k
  refine (Int.ediv_emod_unique hk).2 ⟨?_, by omega, by omega⟩
  rw [Int.mul_neg, Int.mul_add]
  omega
theorem ediv_zero' {a k : Int} (hk : 0 < k) (hm : a % k = 0) : (-a) / k = -(a / k) ∧ (-a) % k = 0 := by
  have h2 := Int.emod_add_mul_ediv a k
  refine (Int.ediv_emod_unique hk).2 ⟨?_, by omega, by omega⟩
  rw [Int.mul_neg]
  omega
theorem ivI_div {b d : Bool} {l k : List Int} (h : U32 l) (h' : U32 k) (h0 : nv k ≠ 0) :
    (b = true ∧ 0 < nv l % nv k → ivI b l / ivI d k = (if (b != d) = true then -(nv l / nv k + 1) else nv l / nv k + 1) ∧ ivI b l % ivI d k = nv k - nv l % nv k) ∧
    (¬ (b = true ∧ 0 < nv l % nv k) → ivI b l / ivI d k = (if (b != d) = true then -(nv l / nv k) else nv l / nv k) ∧ ivI b l % ivI d k = nv l % nv k) := by
  have p1 := nv_nonneg h
  have p2 := nv_nonneg h'
  have hk : 0 < nv k := by omega
  have m0 := Int.emod_nonneg (nv l) h0
  constructor
  · rintro ⟨rfl, hm⟩
    obtain ⟨e1, e2⟩ := ediv_pos p1 hk hm
    cases d
    · exact ⟨by simp [ivI, e1], by simp [ivI, e2]⟩
    · refine ⟨?_, ?_⟩
      · simp only [ivI, if_true, Int.ediv_neg, e1]; simp
      · simp only [ivI, if_true, Int.emod_neg, e2]
  · intro hn
    cases b
    · cases d
      · exact ⟨by simp [ivI], by simp [ivI]⟩
      · exact ⟨by simp [ivI], by simp [ivI, Int.emod_neg]⟩
    · have hm : nv l % nv k = 0 := by
        rcases Int.lt_or_le 0 (nv l % nv k) with h9 | h9
        · exact absurd ⟨rfl, h9⟩ hn
        · omega
      obtain ⟨e1, e2⟩ := ediv_zero' hk hm
      cases d
      · exact ⟨by simp [ivI, e1], by simp [ivI, e2, hm]⟩
      · refine ⟨?_, ?_⟩
        · simp only [ivI, if_true, Int.ediv_neg, e1]; simp
        · simp only [ivI, if_true, Int.emod_neg, e2, hm]
theorem te_zero : te 0 = tz false [] := by simp [te, en_zero]
end Go.Ev.S
/- The package rational: walks. -/
set_option linter.unusedVariables false
set_option linter.unusedSimpArgs false
set_option maxRecDepth 100000
namespace Go.Ev.S
open Go Go.Ev Go.Proofs NumA
/-- A Rat: sign, magnitude, denominator. -/
abbrev tq (b : Bool) (l k : List Int) : T := .agg [.v (.bool b), tn l, tn k]
/-- The canonical one. -/
abbrev tc (q : Rat) : T := tq (decide (q.num < 0)) (en (q.num.natAbs : Int)) (en (q.den : Int))
theorem te_eq (z : Int) : te z = tz (decide (z < 0)) (en (z.natAbs : Int)) := by
  unfold te
  congr 1
  split <;> congr 1 <;> omega
theorem ivI_iv (b : Bool) (l : List Int) : ivI b l = iv b l := rfl
theorem iv_te (z : Int) : ivI (decide (z < 0)) (en (if z < 0 then -z else z)) = z := by
  unfold ivI
  by_cases h : z < 0
  · simp only [h, decide_true, if_true]; rw [nv_en (by omega)]; omega
  · simp only [h, decide_false, if_false, Bool.false_eq_true]; rw [nv_en (by omega)]
theorem te_len {z : Int} {n : Nat} (h : (z.natAbs : Int) < P n) : (en (if z < 0 then -z else z)).length ≤ n := en_length (by split <;> omega)
theorem nv_teL (z : Int) : nv (en (if z < 0 then -z else z)) = (z.natAbs : Int) := by
  rw [nv_en (by split <;> omega)]; split <;> omega
theorem iv_lt_P {b : Bool} {l : List Int} (h : U32 l) {n : Nat} (hn : l.length ≤ n) : ((ivI b l).natAbs : Int) < P n := by
  rw [ivI_iv, iv_natAbs h]; exact lt_P h hn
/-- A raw Rat that is small enough. -/
structure Rw (n : Nat) (b : Bool) (l k : List Int) : Prop where
  ul : U32 l
  uk : U32 k
  ll : l.length ≤ n
  lk : k.length ≤ n
theorem Rw.le {m n : Nat} {b : Bool} {l k : List Int} (h : Rw m b l k) (hmn : m ≤ n) : Rw n b l k := ⟨h.ul, h.uk, Nat.le_trans h.ll hmn, Nat.le_trans h.lk hmn⟩
theorem Rw.can {n : Nat} {q : Rat} (h : Fit n q) : Rw n (decide (q.num < 0)) (en (q.num.natAbs : Int)) (en (q.den : Int)) := ⟨U32_en _, U32_en _, en_length h.1, en_length h.2⟩
theorem Rw.fit {n : Nat} {b : Bool} {l k : List Int} (h : Rw n b l k) (hn : 0 < n) : Fit n (rv b l k) := rv_fit h.ul h.uk h.ll h.lk hn
/-- What parts hands back. -/
def pB (b : Bool) (k : List Int) : Bool := if nv k = 0 then false else b
def pL (l k : List Int) : List Int := if nv k = 0 then [] else l
def pK (k : List Int) : List Int := if nv k = 0 then en 1 else k
theorem en1 : en 1 = [1] := by
  have := en_step 1 0 (by omega) (by omega) (by omega) (.inl (by omega))
  simpa [en_zero] using this
theorem Rw.parts {n : Nat} {b : Bool} {l k : List Int} (h : Rw n b l k) (hn : 0 < n) : U32 (pL l k) ∧ U32 (pK k) ∧ (pL l k).length ≤ n ∧ (pK k).length ≤ n ∧ 0 < nv (pK k) ∧ rv b l k = Rat.divInt (ivI (pB b k) (pL l k)) (nv (pK k)) := by
  have := nv_nonneg h.uk
  unfold pL pK pB rv
  by_cases h0 : nv k = 0
  · simp only [h0, if_true, Rat.divInt_zero]
    refine ⟨U32_nil, U32_en _, by simp, by rw [en1]; simp only [List.length_cons, List.length_nil]; omega, by rw [nv_en (by omega)]; omega, ?_⟩
    simp [ivI, nv]
  · simp only [h0, if_false]
    exact ⟨h.ul, h.uk, h.ll, h.lk, by omega, rfl⟩
theorem bits_one {l : List Int} (h : U32 l) : (bitsN l == 1) = decide (nv l = 1) := by
  have hn := nv_nonneg h
  by_cases h1 : nv l = 1
  · rw [decide_eq_true h1]
    have e : tr l = [1] := by rw [tr_eq_en h, h1, en1]
    unfold bitsN
    rw [e]
    decide
  · rw [decide_eq_false h1]
    simp only [beq_eq_false_iff_ne, ne_eq]
    unfold bitsN
    split
    · omega
    · rename_i h0
      intro he
      have h2 := Lib.bitLenAux_bounds 64 ((tr l).getD ((tr l).length - 1) 0).toNat
      have h3 := U32_getD (U32_tr h) ((tr l).length - 1)
      have h4 := tr_tr_last h (by omega)
      obtain ⟨g1, g2, g3⟩ := h2 (by omega) (by omega)
      change 1 ≤ Lib.bitLen _ at g1
      change _ < 2 ^ Lib.bitLen _ at g3
      have hl : (tr l).length = 1 := by omega
      have hb : Lib.bitLen ((tr l).getD ((tr l).length - 1) 0).toNat = 1 := by omega
      rw [hb] at g3
      have hv := one_limb (U32_tr h) hl
      rw [nv_tr] at hv
      rw [hl] at g3 h4 h3
      simp only [Nat.sub_self] at g3 h4 h3
      omega
/-- A quotient in lowest terms. -/
theorem low_terms {x d : Int} (hd : 0 < d) : (decide ((Rat.divInt x d).num < 0) = decide (x < 0)) ∧ (((Rat.divInt x d).num.natAbs : Int) = (x.natAbs : Int) / igcd (x.natAbs : Int) d) ∧ (((Rat.divInt x d).den : Int) = d / igcd (x.natAbs : Int) d) := by
  have hg : igcd (x.natAbs : Int) d = ((x.gcd d : Nat) : Int) := by
    unfold igcd Int.gcd
    congr 2
    omega
  refine ⟨?_, ?_, ?_⟩
  · rw [decide_eq_decide]; exact div_num_neg x d hd
  · rw [div_num_natAbs x d hd, hg]; rfl
  · rw [div_den x d hd, hg]
    have : (d.toNat : Int) = d := by omega
    rw [Int.natCast_ediv, this]
theorem igcd_pos {x d : Int} (hd : 0 < d) : 0 < igcd x d := by
  unfold igcd
  have : 0 < Nat.gcd x.toNat d.toNat := Nat.gcd_pos_of_pos_right _ (by omega)
  omega

def keep79 : Nat → List Nat := fun _ => []
noncomputable def sp79 : Nat → Option Spec := (more 108 (viewSpec g108) noneS)
theorem hs79 : ∀ f s, sp79 f = some s → SpecOk Tryz.prog f s := (more_ok s108 none_ok)
noncomputable def fu79 : List T → Nat := fun _ => 4398046511104
noncomputable def g79 : List T → Option Ret := fun ts => if ts.length = 0 then pureRun ty sp79 keep79 (fu79 ts) false Tryz.f79.results (Tryz.f79.body.getD .skip) ts else none
theorem s79 : SpecOk Tryz.prog 79 (viewSpec g79) := pure_ok mixed ty_ok hs79 Tryz.func79 rfl (by kernel_rfl) (enters_of Tryz.func79 (by kernel_rfl) rfl) keep79 fu79 false 0 (by decide)
set_option maxHeartbeats 4000000 in
theorem c79  : g79 [] = some (.ts [tn (en 1)]) := by
  have run : ∀ (fuel : Nat) (hf : 1099511627776 < fuel) (c : Code) (hc : Tryz.f79.body = some c), pureRun ty sp79 keep79 fuel false Tryz.f79.results c [] = some (.ts [tn (en 1)]) := by
   intro fuel hf c hc
   injection hc with hc
   subst hc
   refine pure_wc ?_
   refine wsr ?_
   refine X_op' rfl (A_mv0 (.inr rfl) rfl rfl rfl rfl) ?_
   refine X_endS ?_
   try dsimp only [St.put, szA, List.length, Nat.reduceAdd]
   refine wsr ?_
   refine X_op' rfl (A_callV rfl rfl rfl rfl (.cons (V_t rfl) (K_t rfl) .nil) (c108 (by omega) (by omega))) ?_
   refine xa rfl rfl rfl rfl ?_
   refine X_endS ?_
   try dsimp only [St.put, szA, List.length, Nat.reduceAdd]
   refine W_ret ?_
   exact end_R rfl (.t rfl .nil)
  exact (if_pos rfl).trans (run _ (by simp only [fu79]; omega) _ rfl)
def keep137 : Nat → List Nat := fun _ => []
noncomputable def sp137 : Nat → Option Spec := (more 94 (viewSpec g94) noneS)
theorem hs137 : ∀ f s, sp137 f = some s → SpecOk Tryz.prog f s := (more_ok s94 none_ok)
noncomputable def fu137 : List T → Nat := fun _ => 4398046511104
noncomputable def g137 : List T → Option Ret := fun ts => if ts.length = 1 then pureRun ty sp137 keep137 (fu137 ts) false Tryz.f137.results (Tryz.f137.body.getD .skip) ts else none
theorem s137 : SpecOk Tryz.prog 137 (viewSpec g137) := pure_ok mixed ty_ok hs137 Tryz.func137 rfl (by kernel_rfl) (enters_of Tryz.func137 (by kernel_rfl) rfl) keep137 fu137 false 1 (by decide)
set_option maxHeartbeats 4000000 in
theorem c137 {l : List Int} (h : U32 l) (hl : l.length ≤ 1099511627775) : g137 [tn l] = some (.ts [.v (.bool (decide (nv l = 1)))]) := by
  have run : ∀ (fuel : Nat) (hf : 1099511627776 < fuel) (c : Code) (hc : Tryz.f137.body = some c), pureRun ty sp137 keep137 fuel false Tryz.f137.results c [tn l] = some (.ts [.v (.bool (decide (nv l = 1)))]) := by
   intro fuel hf c hc
   injection hc with hc
   subst hc
   rw [← bits_one h]
   refine pure_wc ?_
   refine wsr ?_
   refine xa rfl rfl rfl rfl ?_
   refine X_endS ?_
   try dsimp only [St.put, szA, List.length, Nat.reduceAdd]
   refine wsr ?_
   refine xm rfl rfl rfl rfl ?_
   refine X_op' rfl (A_callV rfl rfl rfl rfl (.cons (V_t rfl) (K_t rfl) .nil) (c94 h (by omega))) ?_
   refine X_op' rfl (A_int rfl rfl rfl ⟨by decide, by decide⟩ rfl) ?_
   refine xa rfl rfl rfl rfl ?_
   refine X_endS ?_
   try dsimp only [St.put, szA, List.length, Nat.reduceAdd]
   refine W_ret ?_
   exact end_R rfl (.t rfl .nil)
  exact (if_pos rfl).trans (run _ (by simp only [fu137]; omega) _ rfl)
def keep44 : Nat → List Nat := fun _ => []
noncomputable def sp44 : Nat → Option Spec := (more 78 (viewSpec g78) (more 79 (viewSpec g79) noneS))
theorem hs44 : ∀ f s, sp44 f = some s → SpecOk Tryz.prog f s := (more_ok s78 (more_ok s79 none_ok))
noncomputable def fu44 : List T → Nat := fun _ => 4398046511104
noncomputable def g44 : List T → Option Ret := fun ts => if ts.length = 1 then pureRun ty sp44 keep44 (fu44 ts) false Tryz.f44.results (Tryz.f44.body.getD .skip) ts else none
theorem s44 : SpecOk Tryz.prog 44 (viewSpec g44) := pure_ok mixed ty_ok hs44 Tryz.func44 rfl (by kernel_rfl) (enters_of Tryz.func44 (by kernel_rfl) rfl) keep44 fu44 false 1 (by decide)
set_option maxHeartbeats 4000000 in
theorem c44 {v : Int} (h0 : -9223372036854775808 ≤ v) (h1 : v < 9223372036854775808) : g44 [.v (.int .i64 v)] = some (.ts [tc (v : Rat)]) := by
  have run : ∀ (fuel : Nat) (hf : 1099511627776 < fuel) (c : Code) (hc : Tryz.f44.body = some c), pureRun ty sp44 keep44 fuel false Tryz.f44.results c [.v (.int .i64 v)] = some (.ts [tc (v : Rat)]) := by
   intro fuel hf c hc
   injection hc with hc
   subst hc
   have hr : tc (v : Rat) = tq (decide (v < 0)) (en (if v < 0 then -v else v)) (en 1) := by
     unfold tc
     rw [Rat.num_intCast, Rat.den_intCast]
     congr 3
     split <;> congr 1 <;> omega
   rw [hr]
   refine pure_wc ?_
   refine wsr ?_
   refine X_op' rfl (A_alloc rfl rfl) ?_
   refine X_endS ?_
   try dsimp only [St.put, szA, List.length, Nat.reduceAdd]
   refine wsr ?_
   refine xm rfl rfl rfl rfl ?_
   refine X_op' rfl (A_callV rfl rfl rfl rfl (.cons (V_t rfl) (K_t rfl) .nil) (c78 (by omega) (by omega))) ?_
   refine X_op' rfl (A_callV rfl rfl rfl rfl .nil c79) ?_
   refine X_op' rfl (A_build rfl rfl rfl (.cons (V_t rfl) (K_t rfl) (.cons (V_t rfl) (K_t rfl) .nil)) rfl rfl rfl) ?_
   refine X_op' rfl (A_stV rfl rfl rfl (V_t rfl) (K_t rfl) rfl rfl rfl rfl rfl rfl rfl) ?_
   refine X_endS ?_
   try dsimp only [St.put, szA, List.length, Nat.reduceAdd]
   refine W_ret ?_
   exact end_R rfl (.c rfl (ld_mp rfl rfl rfl rfl rfl rfl) .nil)
  exact (if_pos rfl).trans (run _ (by simp only [fu44]; omega) _ rfl)
def keep80 : Nat → List Nat := fun _ => []
noncomputable def sp80 : Nat → Option Spec := (more 94 (viewSpec g94) (more 78 (viewSpec g78) noneS))
theorem hs80 : ∀ f s, sp80 f = some s → SpecOk Tryz.prog f s := (more_ok s94 (more_ok s78 none_ok))
noncomputable def fu80 : List T → Nat := fun _ => 4398046511104
noncomputable def g80 : List T → Option Ret := fun ts => if ts.length = 1 then pureRun ty sp80 keep80 (fu80 ts) false Tryz.f80.results (Tryz.f80.body.getD .skip) ts else none
theorem s80 : SpecOk Tryz.prog 80 (viewSpec g80) := pure_ok mixed ty_ok hs80 Tryz.func80 rfl (by kernel_rfl) (enters_of Tryz.func80 (by kernel_rfl) rfl) keep80 fu80 false 1 (by decide)
set_option maxHeartbeats 4000000 in
theorem c80 {b : Bool} {l k : List Int} (w : Rw 1099511627775 b l k) : g80 [tq b l k] = some (.ts [tz (pB b k) (pL l k), tz false (pK k)]) := by
  have run : ∀ (fuel : Nat) (hf : 1099511627776 < fuel) (c : Code) (hc : Tryz.f80.body = some c), pureRun ty sp80 keep80 fuel false Tryz.f80.results c [tq b l k] = some (.ts [tz (pB b k) (pL l k), tz false (pK k)]) := by
   intro fuel hf c hc
   injection hc with hc
   subst hc
   have h := w.uk
   have hl := w.lk
   refine pure_wc ?_
   refine wsr ?_
   refine X_op' rfl (A_box rfl rfl (V_t rfl) (K_t rfl) rfl rfl rfl) ?_
   refine X_op' rfl (A_alloc rfl rfl) ?_
   refine X_op' rfl (A_alloc rfl rfl) ?_
   refine X_endS ?_
   try dsimp only [St.put, szA, List.length, Nat.reduceAdd]
   refine W_seq ?_
   refine wsr ?_
   refine X_op' rfl (A_faM rfl rfl rfl rfl rfl) ?_
   refine X_op' rfl (A_ld rfl rfl rfl (ld_fd1 rfl rfl rfl rfl rfl rfl rfl)) ?_
   refine X_op' rfl (A_callV rfl rfl rfl rfl (.cons (V_t rfl) (K_t rfl) .nil) (c94 h (by omega))) ?_
   refine X_op' rfl (A_int rfl rfl rfl ⟨by decide, by decide⟩ rfl) ?_
   rw [bits_zero h]
   refine X_endS ?_
   try dsimp only [St.put, szA, List.length, Nat.reduceAdd]
   refine W_condB rfl (fun hb1 => ?_) (fun hb1 => ?_)
   ·have khb1 := hb1; (try simp only [kb] at khb1)
    refine wsr ?_
    refine X_op' rfl (A_build rfl rfl rfl .nil rfl rfl rfl) ?_
    refine X_op' rfl (A_callV rfl rfl rfl rfl (.cons (V_t rfl) (K_t rfl) .nil) (c78 (by omega) (by omega))) ?_
    refine X_op' rfl (A_stV rfl rfl rfl (V_t rfl) (K_t rfl) rfl rfl rfl rfl rfl rfl rfl) ?_
    refine X_op' rfl (A_stV rfl rfl rfl (V_t rfl) (K_t rfl) rfl rfl rfl rfl rfl rfl rfl) ?_
    refine X_endS ?_
    try dsimp only [St.put, szA, List.length, Nat.reduceAdd]
    refine W_ret ?_
    refine Q_seqX ?_
    have e : (Ret.ts [tz (pB b k) (pL l k), tz false (pK k)]) = .ts [tz false [], te 1] := by
      unfold pB pL pK; rw [if_pos khb1, if_pos khb1, if_pos khb1]; rfl
    rw [e]
    exact end_R rfl (.c rfl (ld_mp rfl rfl rfl rfl rfl rfl) (.c rfl (ld_mp rfl rfl rfl rfl rfl rfl) .nil))
   ·have khb1 := hb1; (try simp only [kb] at khb1)
    refine W_skip ?_
    refine Q_seq ?_
    refine wsr ?_
    refine X_op' rfl (A_faM rfl rfl rfl rfl rfl) ?_
    refine X_op' rfl (A_ld rfl rfl rfl (ld_fd2 rfl rfl rfl rfl rfl rfl rfl rfl)) ?_
    refine X_op' rfl (A_faM rfl rfl rfl rfl rfl) ?_
    refine X_op' rfl (A_ld rfl rfl rfl (ld_fd1 rfl rfl rfl rfl rfl rfl rfl)) ?_
    refine X_op' rfl (A_build rfl rfl rfl (.cons (V_t rfl) (K_t rfl) .nil) rfl rfl rfl) ?_
    refine X_op' rfl (A_stV rfl rfl rfl (V_t rfl) (K_t rfl) rfl rfl rfl rfl rfl rfl rfl) ?_
    refine X_op' rfl (A_stV rfl rfl rfl (V_t rfl) (K_t rfl) rfl rfl rfl rfl rfl rfl rfl) ?_
    refine X_endDS (by kernel_rfl) (by kernel_rfl) ?_
    try dsimp only [St.put, szA, List.length, Nat.reduceAdd]
    refine W_ret ?_
    have e : (Ret.ts [tz (pB b k) (pL l k), tz false (pK k)]) = .ts [tz b l, tz false k] := by
      unfold pB pL pK; rw [if_neg khb1, if_neg khb1, if_neg khb1]
    rw [e]
    exact end_R rfl (.c rfl (ld_mp rfl rfl rfl rfl rfl rfl) (.c rfl (ld_mp rfl rfl rfl rfl rfl rfl) .nil))
  exact (if_pos rfl).trans (run _ (by simp only [fu80]; omega) _ rfl)
theorem igcd_le {x d : Int} (hd : 0 < d) : igcd x d ≤ d := by
  unfold igcd
  have : Nat.gcd x.toNat d.toNat ≤ d.toNat := Nat.gcd_le_right _ (by omega)
  omega
theorem iv_can (q : Rat) : ivI (decide (q.num < 0)) (en (q.num.natAbs : Int)) = q.num := by rw [ivI_iv]; exact iv_en _
theorem c82r {b : Bool} {l k : List Int} (h : U32 l) (hl : l.length ≤ 274877906944) (h' : U32 k) (hk : k.length ≤ 274877906944) : g82 [tz b l, tz false k] = some (.ts [te (ivI b l * nv k)]) := c82 h hl h' hk
def sgQ (q : Rat) : Int := sgI q.num
def cmpQ (p q : Rat) : Int := if p < q then -1 else if p = q then 0 else 1
theorem cmpQ_div {a b c d : Int} (hb : 0 < b) (hd : 0 < d) : cmpQ (Rat.divInt a b) (Rat.divInt c d) = cmpI (a * d) (c * b) := by
  unfold cmpQ cmpI
  simp only [div_lt a b c d hb hd, div_eq a b c d hb hd]
theorem sgQ_div {a b : Int} (hb : 0 < b) : sgQ (Rat.divInt a b) = sgI a := by
  have h1 := div_num_neg a b hb
  have h2 := div_num_neg (-a) b hb
  rw [← Rat.neg_divInt, Rat.neg_num] at h2
  unfold sgQ sgI
  split <;> split <;> (try split) <;> (try split) <;> omega
theorem tc_neg (q : Rat) : tc (-q) = tq (decide (-q.num < 0)) (en (if -q.num < 0 then - -q.num else -q.num)) (en (q.den : Int)) := by
  unfold tc
  rw [Rat.neg_num, Rat.neg_den]
  congr 3
  split <;> congr 1 <;> omega
def keep97 : Nat → List Nat := fun _ => []
noncomputable def sp97 : Nat → Option Spec := (more 135 (viewSpec g135) (more 79 (viewSpec g79) (more 136 (viewSpec g136) (more 137 (viewSpec g137) (more 109 (viewSpec g109) (more 105 (viewSpec g105) noneS))))))
theorem hs97 : ∀ f s, sp97 f = some s → SpecOk Tryz.prog f s := (more_ok s135 (more_ok s79 (more_ok s136 (more_ok s137 (more_ok s109 (more_ok s105 none_ok))))))
noncomputable def fu97 : List T → Nat := fun _ => 4398046511104
noncomputable def g97 : List T → Option Ret := fun ts => if ts.length = 2 then pureRun ty sp97 keep97 (fu97 ts) false Tryz.f97.results (Tryz.f97.body.getD .skip) ts else none
theorem s97 : SpecOk Tryz.prog 97 (viewSpec g97) := pure_ok mixed ty_ok hs97 Tryz.func97 rfl (by kernel_rfl) (enters_of Tryz.func97 (by kernel_rfl) rfl) keep97 fu97 false 2 (by decide)
set_option maxHeartbeats 4000000 in
theorem c97 {b : Bool} {l k : List Int} (h : U32 l) (hl : l.length ≤ 1099511627774)(h' : U32 k) (hk : k.length ≤ 1099511627774) (h0 : 0 < nv k) : g97 [tz b l, tn k] = some (.ts [tc (Rat.divInt (ivI b l) (nv k))]) := by
  have run : ∀ (fuel : Nat) (hf : 1099511627776 < fuel) (c : Code) (hc : Tryz.f97.body = some c), pureRun ty sp97 keep97 fuel false Tryz.f97.results c [tz b l, tn k] = some (.ts [tc (Rat.divInt (ivI b l) (nv k))]) := by
   intro fuel hf c hc
   injection hc with hc
   subst hc
   obtain ⟨L1, L2, L3⟩ := low_terms (x := ivI b l) h0
   obtain ⟨G, hG⟩ : ∃ G : Int, G = igcd ((ivI b l).natAbs : Int) (nv k) := ⟨_, rfl⟩
   have hGp : 0 < G := by rw [hG]; exact igcd_pos h0
   have hGl : G ≤ nv k := by rw [hG]; exact igcd_le h0
   have hkP := lt_P h' (Nat.le_refl _)
   have lz : (en (if (ivI b l) < 0 then -(ivI b l) else (ivI b l))).length ≤ l.length := te_len (iv_lt_P h (Nat.le_refl _))
   have lG : (en G).length ≤ k.length := en_length (by omega)
   have lk2 : (en (nv k / G)).length ≤ k.length := en_length (by have := Int.ediv_le_self G (Int.le_of_lt h0); omega)
   have ecn := cn_length (en (if (ivI b l) < 0 then -(ivI b l) else (ivI b l)))
   refine pure_wc ?_
   refine wsr ?_
   refine X_op' rfl (A_box rfl rfl (V_t rfl) (K_t rfl) rfl rfl rfl) ?_
   refine X_op' rfl (A_alloc rfl rfl) ?_
   refine X_endS ?_
   try dsimp only [St.put, szA, List.length, Nat.reduceAdd]
   refine wsr ?_
   refine X_op' rfl (A_ld rfl rfl rfl (ld_mp rfl rfl rfl rfl rfl rfl)) ?_
   refine X_op' rfl (A_callV rfl rfl rfl rfl (.cons (V_t rfl) (K_t rfl) .nil) (c135 (by assumption) (by omega))) ?_
   refine X_op' rfl (A_stV rfl rfl rfl (V_t rfl) (K_t rfl) rfl rfl rfl rfl rfl rfl rfl) ?_
   refine X_endS ?_
   try dsimp only [St.put, szA, List.length, Nat.reduceAdd]
   refine W_seq ?_
   refine wsr ?_
   refine X_op' rfl (A_faM rfl rfl rfl rfl rfl) ?_
   refine X_op' rfl (A_ld rfl rfl rfl (ld_fd1 rfl rfl rfl rfl rfl rfl rfl)) ?_
   refine X_op' rfl (A_lenT rfl rfl rfl rfl rfl rfl rfl) ?_
   refine X_op' rfl (A_int rfl rfl rfl ⟨by decide, by decide⟩ rfl) ?_
   refine X_endS ?_
   try dsimp only [St.put, szA, List.length, Nat.reduceAdd]
   refine W_condB rfl (fun hb1 => ?_) (fun hb1 => ?_)
   ·have khb1 := hb1; (try simp only [kb] at khb1)
    refine wsr ?_
    refine X_op' rfl (A_ld rfl rfl rfl (ld_mp rfl rfl rfl rfl rfl rfl)) ?_
    refine X_op' rfl (A_callV rfl rfl rfl rfl .nil c79) ?_
    refine X_op' rfl (A_build rfl rfl rfl (.cons (V_t rfl) (K_t rfl) (.cons (V_t rfl) (K_t rfl) .nil)) rfl rfl rfl) ?_
    refine X_op' rfl (A_stV rfl rfl rfl (V_t rfl) (K_t rfl) rfl rfl rfl rfl rfl rfl rfl) ?_
    refine X_endDS (by kernel_rfl) (by kernel_rfl) ?_
    try dsimp only [St.put, szA, List.length, Nat.reduceAdd]
    refine W_ret ?_
    refine Q_seqX ?_
    have hr : tc (Rat.divInt (ivI b l) (nv k)) = tq (decide ((ivI b l) < 0)) (en (if (ivI b l) < 0 then -(ivI b l) else (ivI b l))) (en 1) := by
      unfold tc
      rw [L1, L2, L3]
      have hx0 : (ivI b l).natAbs = 0 := by
        have h9 := nv_teL (ivI b l)
        rw [(show (en (if (ivI b l) < 0 then -(ivI b l) else (ivI b l))) = [] from List.eq_nil_of_length_eq_zero (by omega)), nv_nil] at h9
        omega
      have hG0 : G = nv k := by rw [hG, hx0]; unfold igcd; simp only [Int.natCast_zero, Int.toNat_zero, Nat.gcd_zero_left]; omega
      rw [← hG, hG0, Int.ediv_self (by omega), hx0]
      congr 3
      rw [show (if (ivI b l) < 0 then -(ivI b l) else (ivI b l)) = 0 by split <;> omega]
      simp
    rw [hr]
    exact end_R rfl (.c rfl (ld_mp rfl rfl rfl rfl rfl rfl) .nil)
   ·have khb1 := hb1; (try simp only [kb] at khb1)
    refine W_skip ?_
    refine Q_seq ?_
    refine wsr ?_
    refine X_op' rfl (A_faM rfl rfl rfl rfl rfl) ?_
    refine X_op' rfl (A_ld rfl rfl rfl (ld_fd1 rfl rfl rfl rfl rfl rfl rfl)) ?_
    refine xm rfl rfl rfl rfl ?_
    refine X_op' rfl (A_callV rfl rfl rfl rfl (.cons (V_t rfl) (K_t rfl) (.cons (V_t rfl) (K_t rfl) .nil)) ((c136 (U32_en _) (by omega) h' (by omega)).trans ((show some (Ret.ts [tn (en (igcd (nv (en (if (ivI b l) < 0 then -(ivI b l) else (ivI b l)))) (nv k)))]) = some (Ret.ts [tn (en G)]) by simp only [nv_teL, nv_en (Int.le_of_lt hGp), ← hG])))) ?_
    refine xa rfl rfl rfl rfl ?_
    refine X_endS ?_
    try dsimp only [St.put, szA, List.length, Nat.reduceAdd]
    refine W_seq ?_
    refine wsr ?_
    refine xm rfl rfl rfl rfl ?_
    refine X_op' rfl (A_callV rfl rfl rfl rfl (.cons (V_t rfl) (K_t rfl) .nil) ((c137 (U32_en _) (by omega)).trans (show some (Ret.ts [.v (.bool (decide (nv (en G) = 1)))]) = some (Ret.ts [.v (.bool (decide (G = 1)))]) by rw [nv_en (Int.le_of_lt hGp)]))) ?_
    refine X_op' rfl (A_not rfl rfl) ?_
    refine X_endS ?_
    try dsimp only [St.put, szA, List.length, Nat.reduceAdd]
    refine W_condB rfl (fun hb3 => ?_) (fun hb3 => ?_)
    ·have khb3 := hb3; (try simp only [kb] at khb3)
     refine wsr ?_
     refine X_op' rfl (A_faM rfl rfl rfl rfl rfl) ?_
     refine X_op' rfl (A_ld rfl rfl rfl (ld_fd1 rfl rfl rfl rfl rfl rfl rfl)) ?_
     refine xm rfl rfl rfl rfl ?_
     refine X_op' rfl (A_callV rfl rfl rfl rfl (.cons (V_t rfl) (K_t rfl) (.cons (V_t rfl) (K_t rfl) .nil)) ((c109' (U32_en _) (by omega) (U32_en _) (by omega) (by rw [nv_en (Int.le_of_lt hGp)]; omega)).trans ((show some (Ret.ts [tn (en (nv (en (if (ivI b l) < 0 then -(ivI b l) else (ivI b l))) / nv (en G))), tn (en (nv (en (if (ivI b l) < 0 then -(ivI b l) else (ivI b l))) % nv (en G))), .v (.bool true)]) = some (Ret.ts [tn (en (((ivI b l).natAbs : Int) / G)), tn (en (((ivI b l).natAbs : Int) % G)), .v (.bool true)]) by simp only [nv_teL, nv_en (Int.le_of_lt hGp), ← hG])))) ?_
     refine X_op' rfl (A_mvU (.inl rfl) rfl) ?_
     refine X_op' rfl (A_ext rfl rfl rfl) ?_
     refine X_op' rfl (A_ext rfl rfl rfl) ?_
     refine X_op' rfl (A_ext rfl rfl rfl) ?_
     refine X_op' rfl (A_faM rfl rfl rfl rfl rfl) ?_
     refine X_op' rfl (A_stF rfl rfl rfl (V_t rfl) (K_t rfl) rfl rfl rfl rfl (Nat.le_of_ble_eq_true rfl) rfl rfl) ?_
     refine X_endS ?_
     try dsimp only [St.put, szA, List.length, Nat.reduceAdd]
     refine W_reg ?_
     refine xm rfl rfl rfl rfl ?_
     refine xm rfl rfl rfl rfl ?_
     refine X_op' rfl (A_callV rfl rfl rfl rfl (.cons (V_t rfl) (K_t rfl) (.cons (V_t rfl) (K_t rfl) .nil)) ((c109' h' (by omega) (U32_en _) (by omega) (by rw [nv_en (Int.le_of_lt hGp)]; omega)).trans ((show some (Ret.ts [tn (en (nv k / nv (en G))), tn (en (nv k % nv (en G))), .v (.bool true)]) = some (Ret.ts [tn (en (nv k / G)), tn (en (nv k % G)), .v (.bool true)]) by simp only [nv_teL, nv_en (Int.le_of_lt hGp), ← hG])))) ?_
     refine X_op' rfl (A_mvU (.inl rfl) rfl) ?_
     refine X_op' rfl (A_ext rfl rfl rfl) ?_
     refine X_op' rfl (A_ext rfl rfl rfl) ?_
     refine X_op' rfl (A_ext rfl rfl rfl) ?_
     refine xa rfl rfl rfl rfl ?_
     refine X_endS ?_
     try dsimp only [St.put, szA, List.length, Nat.reduceAdd]
     refine wsr ?_
     refine X_op' rfl (A_ld rfl rfl rfl (ld_mp rfl rfl rfl rfl rfl rfl)) ?_
     refine xm rfl rfl rfl rfl ?_
     refine X_op' rfl (A_callV rfl rfl rfl rfl (.cons (V_t rfl) (K_t rfl) .nil) (c105 (by first | assumption | exact U32_en _) (by omega))) ?_
     refine X_op' rfl (A_build rfl rfl rfl (.cons (V_t rfl) (K_t rfl) (.cons (V_t rfl) (K_t rfl) .nil)) rfl rfl rfl) ?_
     refine X_op' rfl (A_stV rfl rfl rfl (V_t rfl) (K_t rfl) rfl rfl rfl rfl rfl rfl rfl) ?_
     refine X_endDS (by kernel_rfl) (by kernel_rfl) ?_
     try dsimp only [St.put, szA, List.length, Nat.reduceAdd]
     refine W_ret ?_
     have hr : tc (Rat.divInt (ivI b l) (nv k)) = tq (decide ((ivI b l) < 0)) (en (((ivI b l).natAbs : Int) / G)) (tr (en (nv k / G))) := by
       unfold tc
       rw [L1, L2, L3]
       rw [← hG, tr_en]
     rw [hr]
     exact end_R rfl (.c rfl (ld_mp rfl rfl rfl rfl rfl rfl) .nil)
    ·have khb3 := hb3; (try simp only [kb] at khb3)
     refine W_skip ?_
     refine Q_seq ?_
     refine wsr ?_
     refine X_op' rfl (A_ld rfl rfl rfl (ld_mp rfl rfl rfl rfl rfl rfl)) ?_
     refine xm rfl rfl rfl rfl ?_
     refine X_op' rfl (A_callV rfl rfl rfl rfl (.cons (V_t rfl) (K_t rfl) .nil) (c105 (by first | assumption | exact U32_en _) (by omega))) ?_
     refine X_op' rfl (A_build rfl rfl rfl (.cons (V_t rfl) (K_t rfl) (.cons (V_t rfl) (K_t rfl) .nil)) rfl rfl rfl) ?_
     refine X_op' rfl (A_stV rfl rfl rfl (V_t rfl) (K_t rfl) rfl rfl rfl rfl rfl rfl rfl) ?_
     refine X_endDS (by kernel_rfl) (by kernel_rfl) ?_
     try dsimp only [St.put, szA, List.length, Nat.reduceAdd]
     refine W_ret ?_
     have hr : tc (Rat.divInt (ivI b l) (nv k)) = tq (decide ((ivI b l) < 0)) (en (if (ivI b l) < 0 then -(ivI b l) else (ivI b l))) (tr k) := by
       unfold tc
       rw [L1, L2, L3]
       rw [← hG, khb3, Int.ediv_one, Int.ediv_one, tr_eq_en h']
       congr 3
       congr 1
       split <;> omega
     rw [hr]
     exact end_R rfl (.c rfl (ld_mp rfl rfl rfl rfl rfl rfl) .nil)
  exact (if_pos rfl).trans (run _ (by simp only [fu97]; omega) _ rfl)
def keep69 : Nat → List Nat := fun _ => []
noncomputable def sp69 : Nat → Option Spec := (more 94 (viewSpec g94) (more 44 (viewSpec g44) (more 97 (viewSpec g97) noneS)))
theorem hs69 : ∀ f s, sp69 f = some s → SpecOk Tryz.prog f s := (more_ok s94 (more_ok s44 (more_ok s97 none_ok)))
noncomputable def fu69 : List T → Nat := fun _ => 4398046511104
noncomputable def g69 : List T → Option Ret := fun ts => if ts.length = 1 then pureRun ty sp69 keep69 (fu69 ts) false Tryz.f69.results (Tryz.f69.body.getD .skip) ts else none
theorem s69 : SpecOk Tryz.prog 69 (viewSpec g69) := pure_ok mixed ty_ok hs69 Tryz.func69 rfl (by kernel_rfl) (enters_of Tryz.func69 (by kernel_rfl) rfl) keep69 fu69 false 1 (by decide)
set_option maxHeartbeats 4000000 in
theorem c69 {b : Bool} {l k : List Int} (w : Rw 1099511627774 b l k) : g69 [tq b l k] = some (.ts [tc (rv b l k)]) := by
  have run : ∀ (fuel : Nat) (hf : 1099511627776 < fuel) (c : Code) (hc : Tryz.f69.body = some c), pureRun ty sp69 keep69 fuel false Tryz.f69.results c [tq b l k] = some (.ts [tc (rv b l k)]) := by
   intro fuel hf c hc
   injection hc with hc
   subst hc
   refine pure_wc ?_
   refine wsr ?_
   refine X_op' rfl (A_box rfl rfl (V_t rfl) (K_t rfl) rfl rfl rfl) ?_
   refine X_op' rfl (A_alloc rfl rfl) ?_
   refine X_endS ?_
   try dsimp only [St.put, szA, List.length, Nat.reduceAdd]
   refine W_seq ?_
   refine wsr ?_
   refine X_op' rfl (A_faM rfl rfl rfl rfl rfl) ?_
   refine X_op' rfl (A_ld rfl rfl rfl (ld_fd1 rfl rfl rfl rfl rfl rfl rfl)) ?_
   refine X_op' rfl (A_callV rfl rfl rfl rfl (.cons (V_t rfl) (K_t rfl) .nil) (c94 w.uk (by have := w.lk; omega))) ?_
   refine X_op' rfl (A_int rfl rfl rfl ⟨by decide, by decide⟩ rfl) ?_
   rw [bits_zero w.uk]
   refine X_endS ?_
   try dsimp only [St.put, szA, List.length, Nat.reduceAdd]
   refine W_condB rfl (fun hb1 => ?_) (fun hb1 => ?_)
   ·have khb1 := hb1; (try simp only [kb] at khb1)
    refine wsr ?_
    refine X_op' rfl (A_callV rfl rfl rfl rfl (.cons (V_t rfl) (K_t rfl) .nil) (c44 (by omega) (by omega))) ?_
    refine X_op' rfl (A_stV rfl rfl rfl (V_t rfl) (K_t rfl) rfl rfl rfl rfl rfl rfl rfl) ?_
    refine X_endS ?_
    try dsimp only [St.put, szA, List.length, Nat.reduceAdd]
    refine W_ret ?_
    refine Q_seqX ?_
    have hr : tc (rv b l k) = tc (((0 : Int)) : Rat) := by unfold rv; rw [khb1, Rat.divInt_zero]; rfl
    rw [hr]
    exact end_R rfl (.c rfl (ld_mp rfl rfl rfl rfl rfl rfl) .nil)
   ·have khb1 := hb1; (try simp only [kb] at khb1)
    refine W_skip ?_
    refine Q_seq ?_
    refine wsr ?_
    refine X_op' rfl (A_faM rfl rfl rfl rfl rfl) ?_
    refine X_op' rfl (A_ld rfl rfl rfl (ld_fd2 rfl rfl rfl rfl rfl rfl rfl rfl)) ?_
    refine X_op' rfl (A_faM rfl rfl rfl rfl rfl) ?_
    refine X_op' rfl (A_ld rfl rfl rfl (ld_fd1 rfl rfl rfl rfl rfl rfl rfl)) ?_
    refine X_op' rfl (A_callV rfl rfl rfl rfl (.cons (V_t rfl) (K_t rfl) (.cons (V_t rfl) (K_t rfl) .nil)) (c97 w.ul (by have := w.ll; omega) w.uk (by have := w.lk; omega) (by have := nv_nonneg w.uk; omega))) ?_
    refine X_op' rfl (A_stV rfl rfl rfl (V_t rfl) (K_t rfl) rfl rfl rfl rfl rfl rfl rfl) ?_
    refine X_endS ?_
    try dsimp only [St.put, szA, List.length, Nat.reduceAdd]
    refine W_ret ?_
    rw [show tc (rv b l k) = tc (Rat.divInt (ivI b l) (nv k)) from rfl]
    exact end_R rfl (.c rfl (ld_mp rfl rfl rfl rfl rfl rfl) .nil)
  exact (if_pos rfl).trans (run _ (by simp only [fu69]; omega) _ rfl)
def keep45 : Nat → List Nat := fun _ => []
noncomputable def sp45 : Nat → Option Spec := (more 80 (viewSpec g80) (more 82 (viewSpec g82) (more 81 (viewSpec g81) noneS)))
theorem hs45 : ∀ f s, sp45 f = some s → SpecOk Tryz.prog f s := (more_ok s80 (more_ok s82 (more_ok s81 none_ok)))
noncomputable def fu45 : List T → Nat := fun _ => 4398046511104
noncomputable def g45 : List T → Option Ret := fun ts => if ts.length = 2 then pureRun ty sp45 keep45 (fu45 ts) false Tryz.f45.results (Tryz.f45.body.getD .skip) ts else none
theorem s45 : SpecOk Tryz.prog 45 (viewSpec g45) := pure_ok mixed ty_ok hs45 Tryz.func45 rfl (by kernel_rfl) (enters_of Tryz.func45 (by kernel_rfl) rfl) keep45 fu45 false 2 (by decide)
set_option maxHeartbeats 4000000 in
theorem c45 {n : Nat} {b : Bool} {l k : List Int} {d : Bool} {u v : List Int} (w1 : Rw n b l k) (w2 : Rw n d u v) (hn0 : 0 < n) (hn : n ≤ 1073741824) : g45 [tq b l k, tq d u v] = some (.ts [.v (.int .i64 (cmpQ (rv b l k) (rv d u v)))]) := by
  have run : ∀ (fuel : Nat) (hf : 1099511627776 < fuel) (c : Code) (hc : Tryz.f45.body = some c), pureRun ty sp45 keep45 fuel false Tryz.f45.results c [tq b l k, tq d u v] = some (.ts [.v (.int .i64 (cmpQ (rv b l k) (rv d u v)))]) := by
   intro fuel hf c hc
   injection hc with hc
   subst hc
   obtain ⟨a1, a2, a3, a4, a5, a6⟩ := w1.parts hn0
   obtain ⟨b1, b2, b3, b4, b5, b6⟩ := w2.parts hn0
   rw [a6, b6]
   have q1 : (en (if (ivI (pB b k) (pL l k)) * (nv (pK v)) < 0 then -((ivI (pB b k) (pL l k)) * (nv (pK v))) else (ivI (pB b k) (pL l k)) * (nv (pK v)))).length ≤ n + n := te_len (natAbs_mul_lt (iv_lt_P a1 a3) (by have := lt_P b2 b4; omega))
   have q2 : (en (if (ivI (pB d v) (pL u v)) * (nv (pK k)) < 0 then -((ivI (pB d v) (pL u v)) * (nv (pK k))) else (ivI (pB d v) (pL u v)) * (nv (pK k)))).length ≤ n + n := te_len (natAbs_mul_lt (iv_lt_P b1 b3) (by have := lt_P a2 a4; omega))
   refine pure_wc ?_
   refine wsr ?_
   refine X_op' rfl (A_box rfl rfl (V_t rfl) (K_t rfl) rfl rfl rfl) ?_
   refine X_op' rfl (A_box rfl rfl (V_t rfl) (K_t rfl) rfl rfl rfl) ?_
   refine xa rfl rfl rfl rfl ?_
   refine X_endS ?_
   try dsimp only [St.put, szA, List.length, Nat.reduceAdd]
   refine wsr ?_
   refine X_op' rfl (A_ld rfl rfl rfl (ld_mp rfl rfl rfl rfl rfl rfl)) ?_
   refine X_op' rfl (A_callV rfl rfl rfl rfl (.cons (V_t rfl) (K_t rfl) .nil) (c80 (w1.le (by omega)))) ?_
   refine X_op' rfl (A_mvU (.inl rfl) rfl) ?_
   refine X_op' rfl (A_ext rfl rfl rfl) ?_
   refine X_op' rfl (A_ext rfl rfl rfl) ?_
   refine X_op' rfl (A_alloc rfl rfl) ?_
   refine X_op' rfl (A_alloc rfl rfl) ?_
   refine X_op' rfl (A_stV rfl rfl rfl (V_t rfl) (K_t rfl) rfl rfl rfl rfl rfl rfl rfl) ?_
   refine X_op' rfl (A_stV rfl rfl rfl (V_t rfl) (K_t rfl) rfl rfl rfl rfl rfl rfl rfl) ?_
   refine X_endS ?_
   try dsimp only [St.put, szA, List.length, Nat.reduceAdd]
   refine wsr ?_
   refine X_op' rfl (A_ld rfl rfl rfl (ld_mp rfl rfl rfl rfl rfl rfl)) ?_
   refine X_op' rfl (A_callV rfl rfl rfl rfl (.cons (V_t rfl) (K_t rfl) .nil) (c80 (w2.le (by omega)))) ?_
   refine X_op' rfl (A_mvU (.inl rfl) rfl) ?_
   refine X_op' rfl (A_ext rfl rfl rfl) ?_
   refine X_op' rfl (A_ext rfl rfl rfl) ?_
   refine X_op' rfl (A_alloc rfl rfl) ?_
   refine X_op' rfl (A_alloc rfl rfl) ?_
   refine X_op' rfl (A_stV rfl rfl rfl (V_t rfl) (K_t rfl) rfl rfl rfl rfl rfl rfl rfl) ?_
   refine X_op' rfl (A_stV rfl rfl rfl (V_t rfl) (K_t rfl) rfl rfl rfl rfl rfl rfl rfl) ?_
   refine X_endS ?_
   try dsimp only [St.put, szA, List.length, Nat.reduceAdd]
   refine wsr ?_
   refine X_op' rfl (A_ld rfl rfl rfl (ld_mp rfl rfl rfl rfl rfl rfl)) ?_
   refine X_op' rfl (A_ld rfl rfl rfl (ld_mp rfl rfl rfl rfl rfl rfl)) ?_
   refine X_op' rfl (A_callV rfl rfl rfl rfl (.cons (V_t rfl) (K_t rfl) (.cons (V_t rfl) (K_t rfl) .nil)) (c82r a1 (by omega) b2 (by omega))) ?_
   refine X_op' rfl (A_ld rfl rfl rfl (ld_mp rfl rfl rfl rfl rfl rfl)) ?_
   refine X_op' rfl (A_ld rfl rfl rfl (ld_mp rfl rfl rfl rfl rfl rfl)) ?_
   refine X_op' rfl (A_callV rfl rfl rfl rfl (.cons (V_t rfl) (K_t rfl) (.cons (V_t rfl) (K_t rfl) .nil)) (c82r b1 (by omega) a2 (by omega))) ?_
   refine X_op' rfl (A_callV rfl rfl rfl rfl (.cons (V_t rfl) (K_t rfl) (.cons (V_t rfl) (K_t rfl) .nil)) ((c81 (U32_en _) (by omega) (U32_en _) (by omega)).trans (show some (Ret.ts [.v (.int .i64 (cmpI (ivI (decide ((ivI (pB b k) (pL l k)) * (nv (pK v)) < 0)) (en (if (ivI (pB b k) (pL l k)) * (nv (pK v)) < 0 then -((ivI (pB b k) (pL l k)) * (nv (pK v))) else (ivI (pB b k) (pL l k)) * (nv (pK v))))) (ivI (decide ((ivI (pB d v) (pL u v)) * (nv (pK k)) < 0)) (en (if (ivI (pB d v) (pL u v)) * (nv (pK k)) < 0 then -((ivI (pB d v) (pL u v)) * (nv (pK k))) else (ivI (pB d v) (pL u v)) * (nv (pK k)))))))]) = some (Ret.ts [.v (.int .i64 (cmpI ((ivI (pB b k) (pL l k)) * (nv (pK v))) ((ivI (pB d v) (pL u v)) * (nv (pK k)))))]) by rw [iv_te, iv_te]))) ?_
   refine xa rfl rfl rfl rfl ?_
   refine X_endDS (by kernel_rfl) (by kernel_rfl) ?_
   try dsimp only [St.put, szA, List.length, Nat.reduceAdd]
   refine W_ret ?_
   rw [cmpQ_div a5 b5]
   exact end_R rfl (.t rfl .nil)
  exact (if_pos rfl).trans (run _ (by simp only [fu45]; omega) _ rfl)
def keep36 : Nat → List Nat := fun _ => []
noncomputable def sp36 : Nat → Option Spec := (more 69 (viewSpec g69) (more 70 (viewSpec g70) noneS))
theorem hs36 : ∀ f s, sp36 f = some s → SpecOk Tryz.prog f s := (more_ok s69 (more_ok s70 none_ok))
noncomputable def fu36 : List T → Nat := fun _ => 4398046511104
noncomputable def g36 : List T → Option Ret := fun ts => if ts.length = 1 then pureRun ty sp36 keep36 (fu36 ts) false Tryz.f36.results (Tryz.f36.body.getD .skip) ts else none
theorem s36 : SpecOk Tryz.prog 36 (viewSpec g36) := pure_ok mixed ty_ok hs36 Tryz.func36 rfl (by kernel_rfl) (enters_of Tryz.func36 (by kernel_rfl) rfl) keep36 fu36 false 1 (by decide)
set_option maxHeartbeats 4000000 in
theorem c36 {n : Nat} {b : Bool} {l k : List Int} (w0 : Rw n b l k) (hn0 : 0 < n) (hn : n ≤ 1099511627774) : g36 [tq b l k] = some (.ts [tc (-(rv b l k))]) := by
  have run : ∀ (fuel : Nat) (hf : 1099511627776 < fuel) (c : Code) (hc : Tryz.f36.body = some c), pureRun ty sp36 keep36 fuel false Tryz.f36.results c [tq b l k] = some (.ts [tc (-(rv b l k))]) := by
   intro fuel hf c hc
   injection hc with hc
   subst hc
   have w := w0.le hn
   have f := Rw.can (w0.fit hn0)
   have f1 := f.ll
   refine pure_wc ?_
   refine wsr ?_
   refine X_op' rfl (A_box rfl rfl (V_t rfl) (K_t rfl) rfl rfl rfl) ?_
   refine X_op' rfl (A_alloc rfl rfl) ?_
   refine X_endS ?_
   try dsimp only [St.put, szA, List.length, Nat.reduceAdd]
   refine wsr ?_
   refine X_op' rfl (A_ld rfl rfl rfl (ld_mp rfl rfl rfl rfl rfl rfl)) ?_
   refine X_op' rfl (A_callV rfl rfl rfl rfl (.cons (V_t rfl) (K_t rfl) .nil) (c69 w)) ?_
   refine X_op' rfl (A_alloc rfl rfl) ?_
   refine X_op' rfl (A_stV rfl rfl rfl (V_t rfl) (K_t rfl) rfl rfl rfl rfl rfl rfl rfl) ?_
   refine X_endS ?_
   try dsimp only [St.put, szA, List.length, Nat.reduceAdd]
   refine wsr ?_
   refine X_op' rfl (A_faM rfl rfl rfl rfl rfl) ?_
   refine X_op' rfl (A_ld rfl rfl rfl (ld_fd2 rfl rfl rfl rfl rfl rfl rfl rfl)) ?_
   refine X_op' rfl (A_callV rfl rfl rfl rfl (.cons (V_t rfl) (K_t rfl) .nil) ((c70 (U32_en _) (by omega)).trans (show some (Ret.ts [te (- ivI (decide ((rv b l k).num < 0)) (en ((rv b l k).num.natAbs : Int)))]) = some (Ret.ts [te (-(rv b l k).num)]) by rw [iv_can]))) ?_
   refine X_op' rfl (A_faM rfl rfl rfl rfl rfl) ?_
   refine X_op' rfl (A_stF rfl rfl rfl (V_t rfl) (K_t rfl) rfl rfl rfl rfl (Nat.le_of_ble_eq_true rfl) rfl rfl) ?_
   refine X_endS ?_
   try dsimp only [St.put, szA, List.length, Nat.reduceAdd]
   refine wsr ?_
   refine X_op' rfl (A_ld rfl rfl rfl (ld_mp rfl rfl rfl rfl rfl rfl)) ?_
   refine X_op' rfl (A_stV rfl rfl rfl (V_t rfl) (K_t rfl) rfl rfl rfl rfl rfl rfl rfl) ?_
   refine X_endS ?_
   try dsimp only [St.put, szA, List.length, Nat.reduceAdd]
   refine W_ret ?_
   rw [tc_neg]
   exact end_R rfl (.c rfl (ld_mp rfl rfl rfl rfl rfl rfl) .nil)
  exact (if_pos rfl).trans (run _ (by simp only [fu36]; omega) _ rfl)
theorem divInt_add_same (a b c : Int) (h : c ≠ 0) : Rat.divInt a c + Rat.divInt b c = Rat.divInt (a + b) c := by
  simp only [Rat.divInt_eq_div, Rat.intCast_add]
  grind
def keep68 : Nat → List Nat := fun _ => []
noncomputable def sp68 : Nat → Option Spec := (more 80 (viewSpec g80) (more 102 (viewSpec g102) (more 103 (viewSpec g103) (more 97 (viewSpec g97) (more 82 (viewSpec g82) (more 98 (viewSpec g98) noneS))))))
theorem hs68 : ∀ f s, sp68 f = some s → SpecOk Tryz.prog f s := (more_ok s80 (more_ok s102 (more_ok s103 (more_ok s97 (more_ok s82 (more_ok s98 none_ok))))))
noncomputable def fu68 : List T → Nat := fun _ => 4398046511104
noncomputable def g68 : List T → Option Ret := fun ts => if ts.length = 2 then pureRun ty sp68 keep68 (fu68 ts) false Tryz.f68.results (Tryz.f68.body.getD .skip) ts else none
theorem s68 : SpecOk Tryz.prog 68 (viewSpec g68) := pure_ok mixed ty_ok hs68 Tryz.func68 rfl (by kernel_rfl) (enters_of Tryz.func68 (by kernel_rfl) rfl) keep68 fu68 false 2 (by decide)
set_option maxHeartbeats 8000000 in
theorem c68 {n : Nat} {b : Bool} {l k : List Int} {d : Bool} {u v : List Int} (w1 : Rw n b l k) (w2 : Rw n d u v) (hn0 : 0 < n) (hn : n ≤ 1073741824) : g68 [tq b l k, tq d u v] = some (.ts [tc (rv b l k + rv d u v)]) := by
  have run : ∀ (fuel : Nat) (hf : 1099511627776 < fuel) (c : Code) (hc : Tryz.f68.body = some c), pureRun ty sp68 keep68 fuel false Tryz.f68.results c [tq b l k, tq d u v] = some (.ts [tc (rv b l k + rv d u v)]) := by
   intro fuel hf c hc
   injection hc with hc
   subst hc
   obtain ⟨a1, a2, a3, a4, a5, a6⟩ := w1.parts hn0
   obtain ⟨b1, b2, b3, b4, b5, b6⟩ := w2.parts hn0
   rw [a6, b6]
   have q1 : (en (if (ivI (pB b k) (pL l k)) * (nv (pK v)) < 0 then -((ivI (pB b k) (pL l k)) * (nv (pK v))) else (ivI (pB b k) (pL l k)) * (nv (pK v)))).length ≤ n + n := te_len (natAbs_mul_lt (iv_lt_P a1 a3) (by have := lt_P b2 b4; omega))
   have q2 : (en (if (ivI (pB d v) (pL u v)) * (nv (pK k)) < 0 then -((ivI (pB d v) (pL u v)) * (nv (pK k))) else (ivI (pB d v) (pL u v)) * (nv (pK k)))).length ≤ n + n := te_len (natAbs_mul_lt (iv_lt_P b1 b3) (by have := lt_P a2 a4; omega))
   have hkk : 0 < (nv (pK k)) * (nv (pK v)) := Int.mul_pos a5 b5
   have hkk0 : 0 ≤ (nv (pK k)) * (nv (pK v)) := Int.le_of_lt hkk
   have q3 : (en ((nv (pK k)) * (nv (pK v)))).length ≤ n + n := en_length (mul_lt_P (by omega) (by omega) (lt_P a2 a4) (lt_P b2 b4))
   have i1 := iv_lt_P (b := pB b k) a1 a3
   have i2 := iv_lt_P (b := pB d v) b1 b3
   have t2 := @two_P n
   have t3 := @two_P (n + n)
   have q4 : (en (if ((ivI (pB b k) (pL l k)) + (ivI (pB d v) (pL u v))) < 0 then -((ivI (pB b k) (pL l k)) + (ivI (pB d v) (pL u v))) else ((ivI (pB b k) (pL l k)) + (ivI (pB d v) (pL u v))))).length ≤ n + 1 := te_len (by have := Int.natAbs_add_le (ivI (pB b k) (pL l k)) (ivI (pB d v) (pL u v)); omega)
   have i3 := natAbs_mul_lt i1 (show (((nv (pK v))).natAbs : Int) < P n by have := lt_P b2 b4; omega)
   have i4 := natAbs_mul_lt i2 (show (((nv (pK k))).natAbs : Int) < P n by have := lt_P a2 a4; omega)
   have q5 : (en (if ((ivI (pB b k) (pL l k)) * (nv (pK v)) + (ivI (pB d v) (pL u v)) * (nv (pK k))) < 0 then -((ivI (pB b k) (pL l k)) * (nv (pK v)) + (ivI (pB d v) (pL u v)) * (nv (pK k))) else ((ivI (pB b k) (pL l k)) * (nv (pK v)) + (ivI (pB d v) (pL u v)) * (nv (pK k))))).length ≤ n + n + 1 := te_len (by have := Int.natAbs_add_le ((ivI (pB b k) (pL l k)) * (nv (pK v))) ((ivI (pB d v) (pL u v)) * (nv (pK k))); omega)
   refine pure_wc ?_
   refine wsr ?_
   refine X_op' rfl (A_box rfl rfl (V_t rfl) (K_t rfl) rfl rfl rfl) ?_
   refine X_op' rfl (A_box rfl rfl (V_t rfl) (K_t rfl) rfl rfl rfl) ?_
   refine X_op' rfl (A_alloc rfl rfl) ?_
   refine X_endS ?_
   try dsimp only [St.put, szA, List.length, Nat.reduceAdd]
   refine wsr ?_
   refine X_op' rfl (A_ld rfl rfl rfl (ld_mp rfl rfl rfl rfl rfl rfl)) ?_
   refine X_op' rfl (A_callV rfl rfl rfl rfl (.cons (V_t rfl) (K_t rfl) .nil) (c80 (w1.le (by omega)))) ?_
   refine X_op' rfl (A_mvU (.inl rfl) rfl) ?_
   refine X_op' rfl (A_ext rfl rfl rfl) ?_
   refine X_op' rfl (A_ext rfl rfl rfl) ?_
   refine X_op' rfl (A_alloc rfl rfl) ?_
   refine X_op' rfl (A_alloc rfl rfl) ?_
   refine X_op' rfl (A_stV rfl rfl rfl (V_t rfl) (K_t rfl) rfl rfl rfl rfl rfl rfl rfl) ?_
   refine X_op' rfl (A_stV rfl rfl rfl (V_t rfl) (K_t rfl) rfl rfl rfl rfl rfl rfl rfl) ?_
   refine X_endS ?_
   try dsimp only [St.put, szA, List.length, Nat.reduceAdd]
   refine wsr ?_
   refine X_op' rfl (A_ld rfl rfl rfl (ld_mp rfl rfl rfl rfl rfl rfl)) ?_
   refine X_op' rfl (A_callV rfl rfl rfl rfl (.cons (V_t rfl) (K_t rfl) .nil) (c80 (w2.le (by omega)))) ?_
   refine X_op' rfl (A_mvU (.inl rfl) rfl) ?_
   refine X_op' rfl (A_ext rfl rfl rfl) ?_
   refine X_op' rfl (A_ext rfl rfl rfl) ?_
   refine X_op' rfl (A_alloc rfl rfl) ?_
   refine X_op' rfl (A_alloc rfl rfl) ?_
   refine X_op' rfl (A_stV rfl rfl rfl (V_t rfl) (K_t rfl) rfl rfl rfl rfl rfl rfl rfl) ?_
   refine X_op' rfl (A_stV rfl rfl rfl (V_t rfl) (K_t rfl) rfl rfl rfl rfl rfl rfl rfl) ?_
   refine X_endS ?_
   try dsimp only [St.put, szA, List.length, Nat.reduceAdd]
   refine W_seq ?_
   refine wsr ?_
   refine X_op' rfl (A_faM rfl rfl rfl rfl rfl) ?_
   refine X_op' rfl (A_ld rfl rfl rfl (ld_fd1 rfl rfl rfl rfl rfl rfl rfl)) ?_
   refine X_op' rfl (A_faM rfl rfl rfl rfl rfl) ?_
   refine X_op' rfl (A_ld rfl rfl rfl (ld_fd1 rfl rfl rfl rfl rfl rfl rfl)) ?_
   refine X_op' rfl (A_callV rfl rfl rfl rfl (.cons (V_t rfl) (K_t rfl) (.cons (V_t rfl) (K_t rfl) .nil)) (c102 a2 (by omega) b2 (by omega))) ?_
   refine X_op' rfl (A_int rfl rfl rfl ⟨by decide, by decide⟩ rfl) ?_
   refine X_endS ?_
   try dsimp only [St.put, szA, List.length, Nat.reduceAdd]
   refine W_condB rfl (fun hb1 => ?_) (fun hb1 => ?_)
   ·have khb1 := hb1; (try simp only [kb] at khb1)
    refine wsr ?_
    refine X_op' rfl (A_ld rfl rfl rfl (ld_mp rfl rfl rfl rfl rfl rfl)) ?_
    refine X_op' rfl (A_ld rfl rfl rfl (ld_mp rfl rfl rfl rfl rfl rfl)) ?_
    refine X_op' rfl (A_callV rfl rfl rfl rfl (.cons (V_t rfl) (K_t rfl) (.cons (V_t rfl) (K_t rfl) .nil)) (c103 a1 (by omega) b1 (by omega))) ?_
    refine X_op' rfl (A_faM rfl rfl rfl rfl rfl) ?_
    refine X_op' rfl (A_ld rfl rfl rfl (ld_fd1 rfl rfl rfl rfl rfl rfl rfl)) ?_
    refine X_op' rfl (A_callV rfl rfl rfl rfl (.cons (V_t rfl) (K_t rfl) (.cons (V_t rfl) (K_t rfl) .nil)) ((c97 (U32_en _) (by omega) a2 (by omega) a5).trans (show some (Ret.ts [tc (Rat.divInt (ivI (decide (((ivI (pB b k) (pL l k)) + (ivI (pB d v) (pL u v))) < 0)) (en (if ((ivI (pB b k) (pL l k)) + (ivI (pB d v) (pL u v))) < 0 then -((ivI (pB b k) (pL l k)) + (ivI (pB d v) (pL u v))) else ((ivI (pB b k) (pL l k)) + (ivI (pB d v) (pL u v)))))) (nv (pK k)))]) = some (Ret.ts [tc (Rat.divInt ((ivI (pB b k) (pL l k)) + (ivI (pB d v) (pL u v))) (nv (pK k)))]) by rw [iv_te]))) ?_
    refine X_op' rfl (A_stV rfl rfl rfl (V_t rfl) (K_t rfl) rfl rfl rfl rfl rfl rfl rfl) ?_
    refine X_endDS (by kernel_rfl) (by kernel_rfl) ?_
    try dsimp only [St.put, szA, List.length, Nat.reduceAdd]
    refine W_ret ?_
    refine Q_seqX ?_
    have heq : nv (pK k) = nv (pK v) := by
      rcases Int.lt_trichotomy (nv (pK k)) (nv (pK v)) with e | e | e
      · rw [cmp_lt e] at khb1; omega
      · exact e
      · rw [cmp_gt e] at khb1; omega
    have hr : Rat.divInt (ivI (pB b k) (pL l k)) (nv (pK k)) + Rat.divInt (ivI (pB d v) (pL u v)) (nv (pK v)) = Rat.divInt ((ivI (pB b k) (pL l k)) + (ivI (pB d v) (pL u v))) (nv (pK k)) := by
      rw [← heq]; exact divInt_add_same _ _ _ (by omega)
    rw [hr]
    exact end_R rfl (.c rfl (ld_mp rfl rfl rfl rfl rfl rfl) .nil)
   ·have khb1 := hb1; (try simp only [kb] at khb1)
    refine W_skip ?_
    refine Q_seq ?_
    refine wsr ?_
    refine X_op' rfl (A_ld rfl rfl rfl (ld_mp rfl rfl rfl rfl rfl rfl)) ?_
    refine X_op' rfl (A_ld rfl rfl rfl (ld_mp rfl rfl rfl rfl rfl rfl)) ?_
    refine X_op' rfl (A_callV rfl rfl rfl rfl (.cons (V_t rfl) (K_t rfl) (.cons (V_t rfl) (K_t rfl) .nil)) (c82r a1 (by omega) b2 (by omega))) ?_
    refine X_op' rfl (A_ld rfl rfl rfl (ld_mp rfl rfl rfl rfl rfl rfl)) ?_
    refine X_op' rfl (A_ld rfl rfl rfl (ld_mp rfl rfl rfl rfl rfl rfl)) ?_
    refine X_op' rfl (A_callV rfl rfl rfl rfl (.cons (V_t rfl) (K_t rfl) (.cons (V_t rfl) (K_t rfl) .nil)) (c82r b1 (by omega) a2 (by omega))) ?_
    refine X_op' rfl (A_callV rfl rfl rfl rfl (.cons (V_t rfl) (K_t rfl) (.cons (V_t rfl) (K_t rfl) .nil)) ((c103 (U32_en _) (by omega) (U32_en _) (by omega)).trans (show some (Ret.ts [te (ivI (decide (((ivI (pB b k) (pL l k)) * (nv (pK v))) < 0)) (en (if ((ivI (pB b k) (pL l k)) * (nv (pK v))) < 0 then -((ivI (pB b k) (pL l k)) * (nv (pK v))) else ((ivI (pB b k) (pL l k)) * (nv (pK v))))) + ivI (decide (((ivI (pB d v) (pL u v)) * (nv (pK k))) < 0)) (en (if ((ivI (pB d v) (pL u v)) * (nv (pK k))) < 0 then -((ivI (pB d v) (pL u v)) * (nv (pK k))) else ((ivI (pB d v) (pL u v)) * (nv (pK k))))))]) = some (Ret.ts [te ((ivI (pB b k) (pL l k)) * (nv (pK v)) + (ivI (pB d v) (pL u v)) * (nv (pK k)))]) by rw [iv_te, iv_te]))) ?_
    refine X_op' rfl (A_faM rfl rfl rfl rfl rfl) ?_
    refine X_op' rfl (A_ld rfl rfl rfl (ld_fd1 rfl rfl rfl rfl rfl rfl rfl)) ?_
    refine X_op' rfl (A_faM rfl rfl rfl rfl rfl) ?_
    refine X_op' rfl (A_ld rfl rfl rfl (ld_fd1 rfl rfl rfl rfl rfl rfl rfl)) ?_
    refine X_op' rfl (A_callV rfl rfl rfl rfl (.cons (V_t rfl) (K_t rfl) (.cons (V_t rfl) (K_t rfl) .nil)) (c98 a2 (by omega) b2 (by omega))) ?_
    refine X_op' rfl (A_callV rfl rfl rfl rfl (.cons (V_t rfl) (K_t rfl) (.cons (V_t rfl) (K_t rfl) .nil)) ((c97 (U32_en _) (by omega) (U32_en _) (by omega) (by rw [nv_en hkk0]; exact hkk)).trans (show some (Ret.ts [tc (Rat.divInt (ivI (decide (((ivI (pB b k) (pL l k)) * (nv (pK v)) + (ivI (pB d v) (pL u v)) * (nv (pK k))) < 0)) (en (if ((ivI (pB b k) (pL l k)) * (nv (pK v)) + (ivI (pB d v) (pL u v)) * (nv (pK k))) < 0 then -((ivI (pB b k) (pL l k)) * (nv (pK v)) + (ivI (pB d v) (pL u v)) * (nv (pK k))) else ((ivI (pB b k) (pL l k)) * (nv (pK v)) + (ivI (pB d v) (pL u v)) * (nv (pK k)))))) (nv (en ((nv (pK k)) * (nv (pK v))))))]) = some (Ret.ts [tc (Rat.divInt ((ivI (pB b k) (pL l k)) * (nv (pK v)) + (ivI (pB d v) (pL u v)) * (nv (pK k))) ((nv (pK k)) * (nv (pK v))))]) by rw [iv_te, nv_en hkk0]))) ?_
    refine X_op' rfl (A_stV rfl rfl rfl (V_t rfl) (K_t rfl) rfl rfl rfl rfl rfl rfl rfl) ?_
    refine X_endDS (by kernel_rfl) (by kernel_rfl) ?_
    try dsimp only [St.put, szA, List.length, Nat.reduceAdd]
    refine W_ret ?_
    rw [Rat.divInt_add_divInt _ _ (by omega) (by omega)]
    exact end_R rfl (.c rfl (ld_mp rfl rfl rfl rfl rfl rfl) .nil)
  exact (if_pos rfl).trans (run _ (by simp only [fu68]; omega) _ rfl)
end Go.Ev.S
/- The package rational: more walks. -/
set_option linter.unusedVariables false
set_option linter.unusedSimpArgs false
set_option maxRecDepth 100000
namespace Go.Ev.S
open Go Go.Ev Go.Proofs NumA
theorem rv_not (b : Bool) (l k : List Int) : rv (!b) l k = - rv b l k := by
  unfold rv iv
  cases b
  · simp [Rat.neg_divInt]
  · simp [← Rat.neg_divInt]
theorem Rw.not {n : Nat} {b : Bool} {l k : List Int} (h : Rw n b l k) : Rw n (!b) l k := ⟨h.ul, h.uk, h.ll, h.lk⟩

def keep61 : Nat → List Nat := fun _ => []
noncomputable def sp61 : Nat → Option Spec := (more 80 (viewSpec g80) (more 82 (viewSpec g82) (more 98 (viewSpec g98) (more 97 (viewSpec g97) noneS))))
theorem hs61 : ∀ f s, sp61 f = some s → SpecOk Tryz.prog f s := (more_ok s80 (more_ok s82 (more_ok s98 (more_ok s97 none_ok))))
noncomputable def fu61 : List T → Nat := fun _ => 4398046511104
noncomputable def g61 : List T → Option Ret := fun ts => if ts.length = 2 then pureRun ty sp61 keep61 (fu61 ts) false Tryz.f61.results (Tryz.f61.body.getD .skip) ts else none
theorem s61 : SpecOk Tryz.prog 61 (viewSpec g61) := pure_ok mixed ty_ok hs61 Tryz.func61 rfl (by kernel_rfl) (enters_of Tryz.func61 (by kernel_rfl) rfl) keep61 fu61 false 2 (by decide)
set_option maxHeartbeats 4000000 in
theorem c61 {n : Nat} {b : Bool} {l k : List Int} {d : Bool} {u v : List Int} (w1 : Rw n b l k) (w2 : Rw n d u v) (hn0 : 0 < n) (hn : n ≤ 1073741824) : g61 [tq b l k, tq d u v] = some (.ts [tc (rv b l k * rv d u v)]) := by
  have run : ∀ (fuel : Nat) (hf : 1099511627776 < fuel) (c : Code) (hc : Tryz.f61.body = some c), pureRun ty sp61 keep61 fuel false Tryz.f61.results c [tq b l k, tq d u v] = some (.ts [tc (rv b l k * rv d u v)]) := by
   intro fuel hf c hc
   injection hc with hc
   subst hc
   obtain ⟨a1, a2, a3, a4, a5, a6⟩ := w1.parts hn0
   obtain ⟨b1, b2, b3, b4, b5, b6⟩ := w2.parts hn0
   rw [a6, b6]
   have hkk : 0 < (nv (pK k)) * (nv (pK v)) := Int.mul_pos a5 b5
   have hkk0 : 0 ≤ (nv (pK k)) * (nv (pK v)) := Int.le_of_lt hkk
   have q3 : (en ((nv (pK k)) * (nv (pK v)))).length ≤ n + n := en_length (mul_lt_P (by omega) (by omega) (lt_P a2 a4) (lt_P b2 b4))
   have i1 := iv_lt_P (b := pB b k) a1 a3
   have i2 := iv_lt_P (b := pB d v) b1 b3
   have q5 : (en (if ((ivI (pB b k) (pL l k)) * (ivI (pB d v) (pL u v))) < 0 then -((ivI (pB b k) (pL l k)) * (ivI (pB d v) (pL u v))) else ((ivI (pB b k) (pL l k)) * (ivI (pB d v) (pL u v))))).length ≤ n + n := te_len (natAbs_mul_lt i1 i2)
   refine pure_wc ?_
   refine wsr ?_
   refine X_op' rfl (A_box rfl rfl (V_t rfl) (K_t rfl) rfl rfl rfl) ?_
   refine X_op' rfl (A_box rfl rfl (V_t rfl) (K_t rfl) rfl rfl rfl) ?_
   refine X_op' rfl (A_alloc rfl rfl) ?_
   refine X_endS ?_
   try dsimp only [St.put, szA, List.length, Nat.reduceAdd]
   refine wsr ?_
   refine X_op' rfl (A_ld rfl rfl rfl (ld_mp rfl rfl rfl rfl rfl rfl)) ?_
   refine X_op' rfl (A_callV rfl rfl rfl rfl (.cons (V_t rfl) (K_t rfl) .nil) (c80 (w1.le (by omega)))) ?_
   refine X_op' rfl (A_mvU (.inl rfl) rfl) ?_
   refine X_op' rfl (A_ext rfl rfl rfl) ?_
   refine X_op' rfl (A_ext rfl rfl rfl) ?_
   refine X_op' rfl (A_alloc rfl rfl) ?_
   refine X_op' rfl (A_alloc rfl rfl) ?_
   refine X_op' rfl (A_stV rfl rfl rfl (V_t rfl) (K_t rfl) rfl rfl rfl rfl rfl rfl rfl) ?_
   refine X_op' rfl (A_stV rfl rfl rfl (V_t rfl) (K_t rfl) rfl rfl rfl rfl rfl rfl rfl) ?_
   refine X_endS ?_
   try dsimp only [St.put, szA, List.length, Nat.reduceAdd]
   refine wsr ?_
   refine X_op' rfl (A_ld rfl rfl rfl (ld_mp rfl rfl rfl rfl rfl rfl)) ?_
   refine X_op' rfl (A_callV rfl rfl rfl rfl (.cons (V_t rfl) (K_t rfl) .nil) (c80 (w2.le (by omega)))) ?_
   refine X_op' rfl (A_mvU (.inl rfl) rfl) ?_
   refine X_op' rfl (A_ext rfl rfl rfl) ?_
   refine X_op' rfl (A_ext rfl rfl rfl) ?_
   refine X_op' rfl (A_alloc rfl rfl) ?_
   refine X_op' rfl (A_alloc rfl rfl) ?_
   refine X_op' rfl (A_stV rfl rfl rfl (V_t rfl) (K_t rfl) rfl rfl rfl rfl rfl rfl rfl) ?_
   refine X_op' rfl (A_stV rfl rfl rfl (V_t rfl) (K_t rfl) rfl rfl rfl rfl rfl rfl rfl) ?_
   refine X_endS ?_
   try dsimp only [St.put, szA, List.length, Nat.reduceAdd]
   refine wsr ?_
   refine X_op' rfl (A_ld rfl rfl rfl (ld_mp rfl rfl rfl rfl rfl rfl)) ?_
   refine X_op' rfl (A_ld rfl rfl rfl (ld_mp rfl rfl rfl rfl rfl rfl)) ?_
   refine X_op' rfl (A_callV rfl rfl rfl rfl (.cons (V_t rfl) (K_t rfl) (.cons (V_t rfl) (K_t rfl) .nil)) (c82 a1 (by omega) b1 (by omega))) ?_
   refine X_op' rfl (A_faM rfl rfl rfl rfl rfl) ?_
   refine X_op' rfl (A_ld rfl rfl rfl (ld_fd1 rfl rfl rfl rfl rfl rfl rfl)) ?_
   refine X_op' rfl (A_faM rfl rfl rfl rfl rfl) ?_
   refine X_op' rfl (A_ld rfl rfl rfl (ld_fd1 rfl rfl rfl rfl rfl rfl rfl)) ?_
   refine X_op' rfl (A_callV rfl rfl rfl rfl (.cons (V_t rfl) (K_t rfl) (.cons (V_t rfl) (K_t rfl) .nil)) (c98 a2 (by omega) b2 (by omega))) ?_
   refine X_op' rfl (A_callV rfl rfl rfl rfl (.cons (V_t rfl) (K_t rfl) (.cons (V_t rfl) (K_t rfl) .nil)) ((c97 (U32_en _) (by omega) (U32_en _) (by omega) (by rw [nv_en hkk0]; exact hkk)).trans (show some (Ret.ts [tc (Rat.divInt (ivI (decide (((ivI (pB b k) (pL l k)) * (ivI (pB d v) (pL u v))) < 0)) (en (if ((ivI (pB b k) (pL l k)) * (ivI (pB d v) (pL u v))) < 0 then -((ivI (pB b k) (pL l k)) * (ivI (pB d v) (pL u v))) else ((ivI (pB b k) (pL l k)) * (ivI (pB d v) (pL u v)))))) (nv (en ((nv (pK k)) * (nv (pK v))))))]) = some (Ret.ts [tc (Rat.divInt ((ivI (pB b k) (pL l k)) * (ivI (pB d v) (pL u v))) ((nv (pK k)) * (nv (pK v))))]) by rw [iv_te, nv_en hkk0]))) ?_
   refine X_op' rfl (A_stV rfl rfl rfl (V_t rfl) (K_t rfl) rfl rfl rfl rfl rfl rfl rfl) ?_
   refine X_endDS (by kernel_rfl) (by kernel_rfl) ?_
   try dsimp only [St.put, szA, List.length, Nat.reduceAdd]
   refine W_ret ?_
   rw [Rat.divInt_mul_divInt]
   exact end_R rfl (.c rfl (ld_mp rfl rfl rfl rfl rfl rfl) .nil)
  exact (if_pos rfl).trans (run _ (by simp only [fu61]; omega) _ rfl)
def newR (p q : Int) : Ret := if q = 0 then .ts [tq false [] [], .v (.bool false)] else .ts [tc (Rat.divInt p q), .v (.bool true)]
theorem newR_pos {p q : Int} (h : q ≠ 0) : newR p q = .ts [tc (Rat.divInt p q), .v (.bool true)] := if_neg h
theorem sgI_zero {x : Int} : sgI x = 0 ↔ x = 0 := by
  unfold sgI; split
  · simp [*]
  · split <;> simp <;> omega
theorem divInt_flip (p q : Int) : Rat.divInt (-p) (-q) = Rat.divInt p q := Rat.neg_divInt_neg p q
def divQ (p q : Rat) : Ret := if q = 0 then .ts [tq false [] [], .v (.bool false)] else .ts [tc (p / q), .v (.bool true)]
theorem divInt_div (a b c d : Int) (hb : b ≠ 0) (hd : d ≠ 0) : Rat.divInt a b / Rat.divInt c d = Rat.divInt (a * d) (b * c) := by
  simp only [Rat.divInt_eq_div, Rat.intCast_mul]
  by_cases hc : c = 0
  · subst hc; simp [Rat.div_def]
  · grind
theorem divInt_zero_iff {c d : Int} (hd : d ≠ 0) : Rat.divInt c d = 0 ↔ c = 0 := by
  rw [← Rat.zero_divInt 1, Rat.divInt_eq_divInt_iff hd (by omega)]
  simp
theorem c82l {d : Bool} {l k : List Int} (h : U32 l) (hl : l.length ≤ 274877906944) (h' : U32 k) (hk : k.length ≤ 274877906944) : g82 [tz false l, tz d k] = some (.ts [te (nv l * ivI d k)]) := c82 h hl h' hk
/-- Lists of raw Rats. -/
structure Rr where
  b : Bool
  l : List Int
  k : List Int
  deriving Inhabited
abbrev Rr.t (r : Rr) : T := tq r.b r.l r.k
abbrev Rr.v (r : Rr) : Rat := rv r.b r.l r.k
abbrev Rr.ok (n : Nat) (r : Rr) : Prop := Rw n r.b r.l r.k
def r0 : Rr := ⟨false, [], []⟩
theorem r0_ok (n : Nat) : r0.ok n := ⟨U32_nil, U32_nil, by simp [r0], by simp [r0]⟩
/-- The canonical Rat. -/
def rc (q : Rat) : Rr := ⟨decide (q.num < 0), en (q.num.natAbs : Int), en (q.den : Int)⟩
theorem rc_t (q : Rat) : (rc q).t = tc q := rfl
theorem rc_v (q : Rat) : (rc q).v = q := rv_en q
theorem tc_v (q : Rat) : rv (decide (q.num < 0)) (en (q.num.natAbs : Int)) (en (q.den : Int)) = q := rv_en q
abbrev tl (xs : List Rr) : T := .sl 3 (xs.map Rr.t)
def qsum : List Rat → Rat
  | [] => 0
  | x :: l => x + qsum l
theorem qsum_append (a b : List Rat) : qsum (a ++ b) = qsum a + qsum b := by
  induction a with
  | nil => simp [qsum, Rat.zero_add]
  | cons x a ih => simp only [List.cons_append, qsum, ih, Rat.add_assoc]
theorem getD_ok {xs : List Rr} {n : Nat} (h : ∀ x ∈ xs, x.ok n) (i : Nat) : (xs.getD i r0).ok n := by
  rw [List.getD_eq_getElem?_getD]
  by_cases hi : i < xs.length
  · rw [List.getElem?_eq_getElem hi]; exact h _ (List.getElem_mem hi)
  · rw [List.getElem?_eq_none (by omega)]; exact r0_ok n
theorem take_succ_r (xs : List Rr) (i : Nat) (h : i < xs.length) : xs.take (i + 1) = xs.take i ++ [xs.getD i r0] := by
  rw [List.take_succ_eq_append_getElem h, List.getD_eq_getElem?_getD, List.getElem?_eq_getElem h]; rfl
theorem fit_zero {n : Nat} (hn : 0 < n) : Fit n 0 := by
  have := @fit_int n 0 (by have := P_pos n; simpa using this) hn
  simpa using this
theorem fit_sum {n : Nat} (hn : 0 < n) : ∀ {xs : List Rr}, (∀ x ∈ xs, x.ok n) → Fit (xs.length * (n + 1) + 1) (qsum (xs.map Rr.v))
  | [], h => by simp only [List.map_nil, qsum, List.length_nil, Nat.zero_mul, Nat.zero_add]; exact fit_zero (by omega)
  | x :: xs, h => by
    simp only [List.map_cons, qsum, List.length_cons, Nat.add_mul, Nat.one_mul]
    exact (fit_add ((h x (by simp)).fit hn) (fit_sum hn fun y hy => h y (by simp [hy]))).le (by omega)
def st46 (xs : List Rr) (s : Rat) (i : Int) : St := { tm := [(2, .mp 0 3 0 0), (3, .mp 1 3 0 0), (7, .t (tl xs)), (8, .t (.v (.int .i64 (xs.length : Int)))), (9, .t (.v (.int .i64 i)))], mm := [(0, some ⟨30, 3, [tq false [] []]⟩), (1, some ⟨30, 3, [tc s]⟩)], nx := 2 }
end Go.Ev.S
/- The reference of the natural numbers: walks. -/
set_option linter.unusedVariables false
set_option linter.unusedSimpArgs false
set_option maxRecDepth 100000
namespace Go.Ev.S
open Go Go.Ev Go.Proofs NumA
theorem one_sl (l : List Int) (a b : Nat) : (((cn l).take a).drop b).all (fun t => t.cells.all T.one) = true := by
  rw [← List.map_take, ← List.map_drop]; exact one_cn _
theorem tr_idx_last {l : List Int} {j : Nat} (hj : 0 < j) (hm : (tr l).length ≤ j) (h : l.getD ((j : Int) - 1).toNat 0 = 0) : (tr l).length ≤ j - 1 := by
  rcases Nat.lt_or_ge (j - 1) (tr l).length with h1 | h1
  · exfalso
    have := Go.Ev.S.tr_last l (by omega)
    rw [show (tr l).length - 1 = j - 1 by omega] at this
    exact this (by rw [show ((j : Int) - 1).toNat = j - 1 by omega] at h; exact h)
  · exact h1
theorem tr_idx_end {l : List Int} {j : Nat} (hm : (tr l).length ≤ j) (h : 0 < j → l.getD ((j : Int) - 1).toNat 0 ≠ 0) : j = (tr l).length := by
  rcases Nat.lt_or_ge (tr l).length j with h1 | h1
  · exfalso
    have := tr_zeros l (j - 1) (by omega)
    exact h (by omega) (by rw [show ((j : Int) - 1).toNat = j - 1 by omega]; exact this)
  · omega
def st90 (l : List Int) (n : Int) : St := { tm := [(0, .t (tn l)), (3, .t (.v (.int .i64 n)))], mm := [], nx := 0 }
def keep90 : Nat → List Nat := fun _ => [0, 3]
noncomputable def sp90 : Nat → Option Spec := noneS
theorem hs90 : ∀ f s, sp90 f = some s → SpecOk Tryz.prog f s := none_ok
noncomputable def fu90 : List T → Nat := fun _ => 4398046511104
noncomputable def g90 : List T → Option Ret := fun ts => if ts.length = 1 then pureRun ty sp90 keep90 (fu90 ts) false Tryz.f90.results (Tryz.f90.body.getD .skip) ts else none
theorem s90 : SpecOk Tryz.prog 90 (viewSpec g90) := pure_ok mixed ty_ok hs90 Tryz.func90 rfl (by kernel_rfl) (enters_of Tryz.func90 (by kernel_rfl) rfl) keep90 fu90 false 1 (by decide)
set_option maxHeartbeats 4000000 in
theorem c90 {l : List Int} (h : U32 l) (hl : l.length ≤ 1099511627776) : g90 [tn l] = some (.ts [tn (tr l)]) := by
  have run : ∀ (fuel : Nat) (hf : 1099511627776 < fuel) (c : Code) (hc : Tryz.f90.body = some c), pureRun ty sp90 keep90 fuel false Tryz.f90.results c [tn l] = some (.ts [tn (tr l)]) := by
   intro fuel hf c hc
   injection hc with hc
   subst hc
   have hcl := cn_length l
   refine pure_wc ?_
   refine wsr ?_
   refine X_op' rfl (A_mv0 (.inr rfl) rfl rfl rfl rfl) ?_
   refine X_endS ?_
   try dsimp only [St.put, szA, List.length, Nat.reduceAdd]
   refine wsr ?_
   refine xm rfl rfl rfl rfl ?_
   refine X_op' rfl (A_lenT rfl rfl rfl rfl rfl rfl rfl) ?_
   refine xa rfl rfl rfl rfl ?_
   refine X_endS ?_
   try dsimp only [St.put, szA, List.length, Nat.reduceAdd]
   refine W_seq ?_
   refine W_blk ?_
   refine W_loop (fun n σ => ∃ j : Nat, j ≤ l.length ∧ (tr l).length ≤ j ∧ σ = st90 l j ∧ n = j) (l.length) ?_ ⟨l.length, Nat.le_refl _, tr_length l, (by rw [← cn_length l]; rfl), rfl⟩ (by omega)
   rintro n _ ⟨j, hj, hm, rfl, hn⟩
   refine W_seq ?_
   refine wsr ?_
   refine xm rfl rfl rfl rfl ?_
   refine X_op' rfl (A_int rfl rfl rfl ⟨by decide, by decide⟩ rfl) ?_
   refine xm rfl rfl rfl rfl ?_
   refine X_both (d := 8) rfl (fun hb1 => ?_) (fun hb1 => ?_)
   ·have khb1 := hb1; (try simp only [kb] at khb1)
    refine X_yes' rfl rfl rfl hb1 (A_mvT (.inl rfl) rfl rfl) ?_
    refine X_yes' rfl rfl rfl hb1 (A_mvT (.inl rfl) rfl rfl) ?_
    refine X_yes' rfl rfl rfl hb1 (A_int rfl rfl rfl ⟨by decide, by decide⟩ (subI (by omega))) ?_
    refine X_yes' rfl rfl rfl hb1 (A_ixA 0 rfl rfl rfl rfl rfl rfl rfl (by omega) (by omega) rfl rfl) ?_
    refine X_yes' rfl rfl rfl hb1 (A_ld rfl rfl rfl (ld_ip1 rfl rfl rfl)) ?_
    refine X_yes' rfl rfl rfl hb1 (A_int rfl rfl rfl ⟨by decide, by decide⟩ rfl) ?_
    refine X_op' rfl (A_pickT rfl rfl hb1 rfl) ?_
    refine X_endS ?_
    try dsimp only [St.put, szA, List.length, Nat.reduceAdd]
    refine W_condB rfl (fun hb2 => ?_) (fun hb2 => ?_)
    ·have khb2 := hb2; (try simp only [kb] at khb2)
     refine W_skip ?_
     refine Q_seq ?_
     refine W_blk ?_
     refine W_reg ?_
     refine xm rfl rfl rfl rfl ?_
     refine X_op' rfl (A_int rfl rfl rfl ⟨by decide, by decide⟩ (subI (by omega))) ?_
     refine xa rfl rfl rfl rfl ?_
     refine X_end ?_
     try dsimp only [St.put, szA, List.length, Nat.reduceAdd]
     refine Q_blkN ?_
     exact ⟨j - 1, by omega, j - 1, by omega, tr_idx_last (by omega) hm khb2, (by rw [show ((j - 1 : Nat) : Int) = (j : Int) - 1 by omega]; rfl), rfl⟩
    ·have khb2 := hb2; (try simp only [kb] at khb2)
     refine W_exit ?_
     refine Q_seqX ?_
     refine Q_rndX ?_
     refine Q_blkE ?_
     refine Q_seq ?_
     refine wsr ?_
     refine X_op' rfl (A_bs rfl rfl rfl rfl rfl .nil rfl rfl (by decide)) ?_
     refine xm rfl rfl rfl rfl ?_
     refine xm rfl rfl rfl rfl ?_
     refine X_op' rfl (A_slT rfl rfl rfl rfl rfl rfl rfl rfl (by omega) (by omega) (by omega)) ?_
     have hlen : (List.drop (0 : Int).toNat (List.take (j : Int).toNat (cn l))).length ≤ l.length := by rw [List.length_drop, List.length_take, cn_length]; omega
     have hlz : ([] : List T).length = 0 := rfl
     refine X_op' rfl (A_apO rfl rfl rfl rfl rfl rfl rfl (V_t rfl) rfl rfl (one_sl _ _ _) rfl rfl rfl rfl rfl rfl (by omega) (by first | omega | (simp only [intE, slE, boolE, integerE, rationalE]; omega))) ?_
     refine X_op' rfl (A_mvM (.inr rfl) rfl) ?_
     refine X_endS ?_
     try dsimp only [St.put, szA, List.length, Nat.reduceAdd]
     refine W_ret ?_
     have hj2 : j = (tr l).length := tr_idx_end hm (fun hp => by first | (exfalso; omega) | exact khb2)
     have hr : (Ret.ts [tn (tr l)]) = .ts [.sl 1 ([] ++ List.drop (0 : Int).toNat (List.take (j : Int).toNat (cn l)))] := by
       simp only [List.nil_append, Int.toNat_natCast, hj2, Int.toNat_zero, List.drop_zero]
       rw [cn, ← List.map_take, ← tr_take]
     rw [hr]
     exact end_R rfl (.m rfl rfl (by simp only [List.nil_append, List.length_nil, Nat.zero_add]) .nil)
   ·have khb1 := hb1; (try simp only [kb] at khb1)
    refine X_no1 rfl rfl rfl hb1 ?_
    refine X_no1 rfl rfl rfl hb1 ?_
    refine X_no1 rfl rfl rfl hb1 ?_
    refine X_no1 rfl rfl rfl hb1 ?_
    refine X_no1 rfl rfl rfl hb1 ?_
    refine X_no1 rfl rfl rfl hb1 ?_
    refine X_op' rfl (A_pickF rfl rfl hb1 rfl) ?_
    refine X_endS ?_
    try dsimp only [St.put, szA, List.length, Nat.reduceAdd]
    refine W_condF rfl rfl ?_
    refine W_exit ?_
    refine Q_seqX ?_
    refine Q_rndX ?_
    refine Q_blkE ?_
    refine Q_seq ?_
    refine wsr ?_
    refine X_op' rfl (A_bs rfl rfl rfl rfl rfl .nil rfl rfl (by decide)) ?_
    refine xm rfl rfl rfl rfl ?_
    refine xm rfl rfl rfl rfl ?_
    refine X_op' rfl (A_slT rfl rfl rfl rfl rfl rfl rfl rfl (by omega) (by omega) (by omega)) ?_
    have hlen : (List.drop (0 : Int).toNat (List.take (j : Int).toNat (cn l))).length ≤ l.length := by rw [List.length_drop, List.length_take, cn_length]; omega
    have hlz : ([] : List T).length = 0 := rfl
    refine X_op' rfl (A_apO rfl rfl rfl rfl rfl rfl rfl (V_t rfl) rfl rfl (one_sl _ _ _) rfl rfl rfl rfl rfl rfl (by omega) (by first | omega | (simp only [intE, slE, boolE, integerE, rationalE]; omega))) ?_
    refine X_op' rfl (A_mvM (.inr rfl) rfl) ?_
    refine X_endS ?_
    try dsimp only [St.put, szA, List.length, Nat.reduceAdd]
    refine W_ret ?_
    have hj2 : j = (tr l).length := tr_idx_end hm (fun hp => by first | (exfalso; omega) | exact khb2)
    have hr : (Ret.ts [tn (tr l)]) = .ts [.sl 1 ([] ++ List.drop (0 : Int).toNat (List.take (j : Int).toNat (cn l)))] := by
      simp only [List.nil_append, Int.toNat_natCast, hj2, Int.toNat_zero, List.drop_zero]
      rw [cn, ← List.map_take, ← tr_take]
    rw [hr]
    exact end_R rfl (.m rfl rfl (by simp only [List.nil_append, List.length_nil, Nat.zero_add]) .nil)
  exact (if_pos rfl).trans (run _ (by simp only [fu90]; omega) _ rfl)
def st71 (l k : List Int) (i : Int) : St := { tm := [(0, .t (tn l)), (1, .t (tn k)), (5, .t (.v (.int .i64 i)))], mm := [], nx := 0 }
theorem take_eq_step {l k : List Int} {i : Nat} (h : l.take i = k.take i) (h1 : i < l.length) (h2 : i < k.length) (he : l.getD i 0 = k.getD i 0) : l.take (i + 1) = k.take (i + 1) := by
  rw [take_succ_getD l i h1, take_succ_getD k i h2, h, he]
def keep71 : Nat → List Nat := fun _ => [0, 1, 5]
noncomputable def sp71 : Nat → Option Spec := noneS
theorem hs71 : ∀ f s, sp71 f = some s → SpecOk Tryz.prog f s := none_ok
noncomputable def fu71 : List T → Nat := fun _ => 4398046511104
noncomputable def g71 : List T → Option Ret := fun ts => if ts.length = 2 then pureRun ty sp71 keep71 (fu71 ts) false Tryz.f71.results (Tryz.f71.body.getD .skip) ts else none
theorem s71 : SpecOk Tryz.prog 71 (viewSpec g71) := pure_ok mixed ty_ok hs71 Tryz.func71 rfl (by kernel_rfl) (enters_of Tryz.func71 (by kernel_rfl) rfl) keep71 fu71 false 2 (by decide)
set_option maxHeartbeats 4000000 in
theorem c71 {l k : List Int} (hl : l.length ≤ 1099511627776) (hk : k.length ≤ 1099511627776) : g71 [tn l, tn k] = some (.ts [.v (.bool (decide (l = k)))]) := by
  have run : ∀ (fuel : Nat) (hf : 1099511627776 < fuel) (c : Code) (hc : Tryz.f71.body = some c), pureRun ty sp71 keep71 fuel false Tryz.f71.results c [tn l, tn k] = some (.ts [.v (.bool (decide (l = k)))]) := by
   intro fuel hf c hc
   injection hc with hc
   subst hc
   have e1 := cn_length l
   have e2 := cn_length k
   refine pure_wc ?_
   refine wsr ?_
   refine xa rfl rfl rfl rfl ?_
   refine X_endS ?_
   try dsimp only [St.put, szA, List.length, Nat.reduceAdd]
   refine W_seq ?_
   refine wsr ?_
   refine xm rfl rfl rfl rfl ?_
   refine X_op' rfl (A_lenT rfl rfl rfl rfl rfl rfl rfl) ?_
   refine xm rfl rfl rfl rfl ?_
   refine X_op' rfl (A_lenT rfl rfl rfl rfl rfl rfl rfl) ?_
   refine X_op' rfl (A_int rfl rfl rfl ⟨by decide, by decide⟩ rfl) ?_
   refine X_endS ?_
   try dsimp only [St.put, szA, List.length, Nat.reduceAdd]
   refine W_condB rfl (fun hb1 => ?_) (fun hb1 => ?_)
   ·have khb1 := hb1; (try simp only [kb] at khb1)
    refine wsr ?_
    refine xa rfl rfl rfl rfl ?_
    refine X_endS ?_
    try dsimp only [St.put, szA, List.length, Nat.reduceAdd]
    refine W_ret ?_
    refine Q_seqX ?_
    rw [show decide (l = k) = false from decide_eq_false (fun e => khb1 (by rw [e]))]
    exact end_R rfl (.t rfl .nil)
   ·have khb1 := hb1; (try simp only [kb] at khb1)
    refine W_skip ?_
    refine Q_seq ?_
    refine W_seq ?_
    refine wsr ?_
    refine xa rfl rfl rfl rfl ?_
    refine X_endS ?_
    try dsimp only [St.put, szA, List.length, Nat.reduceAdd]
    refine W_blk ?_
    refine W_loop (fun n σ => ∃ i : Nat, i ≤ l.length ∧ l.take i = k.take i ∧ σ = st71 l k i ∧ n = l.length - i) (l.length) ?_ ⟨0, Nat.zero_le _, rfl, by kernel_rfl, rfl⟩ (by omega)
    rintro n _ ⟨i, hi, ht, rfl, hn⟩
    refine W_seq ?_
    refine wsr ?_
    refine xm rfl rfl rfl rfl ?_
    refine xm rfl rfl rfl rfl ?_
    refine X_op' rfl (A_lenT rfl rfl rfl rfl rfl rfl rfl) ?_
    refine X_op' rfl (A_int rfl rfl rfl ⟨by decide, by decide⟩ rfl) ?_
    refine X_endS ?_
    try dsimp only [St.put, szA, List.length, Nat.reduceAdd]
    refine W_condB rfl (fun hb2 => ?_) (fun hb2 => ?_)
    ·have khb2 := hb2; (try simp only [kb] at khb2)
     refine W_skip ?_
     refine Q_seq ?_
     refine W_seq ?_
     refine W_blk ?_
     refine wsr ?_
     refine xm rfl rfl rfl rfl ?_
     refine xm rfl rfl rfl rfl ?_
     refine X_op' rfl (A_ixA 0 rfl rfl rfl rfl rfl rfl rfl (by omega) (by omega) rfl rfl) ?_
     refine X_op' rfl (A_ld rfl rfl rfl (ld_ip1 rfl rfl rfl)) ?_
     refine xm rfl rfl rfl rfl ?_
     refine xm rfl rfl rfl rfl ?_
     refine X_op' rfl (A_ixA 0 rfl rfl rfl rfl rfl rfl rfl (by omega) (by omega) rfl rfl) ?_
     refine X_op' rfl (A_ld rfl rfl rfl (ld_ip1 rfl rfl rfl)) ?_
     refine X_op' rfl (A_int rfl rfl rfl ⟨by decide, by decide⟩ rfl) ?_
     refine X_endDS (by kernel_rfl) (by kernel_rfl) ?_
     try dsimp only [St.put, szA, List.length, Nat.reduceAdd]
     refine W_condB rfl (fun hb3 => ?_) (fun hb3 => ?_)
     ·have khb3 := hb3; (try simp only [kb] at khb3)
      refine wsr ?_
      refine xa rfl rfl rfl rfl ?_
      refine X_endS ?_
      try dsimp only [St.put, szA, List.length, Nat.reduceAdd]
      refine W_ret ?_
      refine Q_blkR ?_
      refine Q_seqX ?_
      refine Q_rndR ?_
      refine Q_blkR ?_
      refine Q_seqX ?_
      rw [show decide (l = k) = false from decide_eq_false (fun e => khb3 (by rw [e]))]
      exact end_R rfl (.t rfl .nil)
     ·have khb3 := hb3; (try simp only [kb] at khb3)
      refine W_skip ?_
      refine Q_blkN ?_
      refine Q_seq ?_
      refine W_reg ?_
      refine xm rfl rfl rfl rfl ?_
      refine X_op' rfl (A_int rfl rfl rfl ⟨by decide, by decide⟩ (addI (by omega))) ?_
      refine xa rfl rfl rfl rfl ?_
      refine X_end ?_
      try dsimp only [St.put, szA, List.length, Nat.reduceAdd]
      exact ⟨l.length - (i + 1), by omega, i + 1, by omega, take_eq_step ht (by omega) (by omega) (by rw [Int.toNat_natCast] at khb3; exact khb3), Eq.trans (b := st71 l k ((i : Int) + 1)) (by kernel_rfl) rfl, rfl⟩
    ·have khb2 := hb2; (try simp only [kb] at khb2)
     refine W_exit ?_
     refine Q_seqX ?_
     refine Q_rndX ?_
     refine Q_blkE ?_
     refine Q_seq ?_
     refine wsr ?_
     refine xa rfl rfl rfl rfl ?_
     refine X_endS ?_
     try dsimp only [St.put, szA, List.length, Nat.reduceAdd]
     refine W_ret ?_
     rw [show decide (l = k) = true from decide_eq_true (by rw [List.take_of_length_le (by omega), List.take_of_length_le (by omega)] at ht; exact ht)]
     exact end_R rfl (.t rfl .nil)
  exact (if_pos rfl).trans (run _ (by simp only [fu71]; omega) _ rfl)
def keep77 : Nat → List Nat := fun _ => []
noncomputable def sp77 : Nat → Option Spec := (more 90 (viewSpec g90) noneS)
theorem hs77 : ∀ f s, sp77 f = some s → SpecOk Tryz.prog f s := (more_ok s90 none_ok)
noncomputable def fu77 : List T → Nat := fun _ => 4398046511104
noncomputable def g77 : List T → Option Ret := fun ts => if ts.length = 1 then pureRun ty sp77 keep77 (fu77 ts) false Tryz.f77.results (Tryz.f77.body.getD .skip) ts else none
theorem s77 : SpecOk Tryz.prog 77 (viewSpec g77) := pure_ok mixed ty_ok hs77 Tryz.func77 rfl (by kernel_rfl) (enters_of Tryz.func77 (by kernel_rfl) rfl) keep77 fu77 false 1 (by decide)
set_option maxHeartbeats 4000000 in
theorem c77 {x : Int} (h0 : 0 ≤ x) (h1 : x < 18446744073709551616) : g77 [.v (.int .u64 x)] = some (.ts [tn (en x)]) := by
  have run : ∀ (fuel : Nat) (hf : 1099511627776 < fuel) (c : Code) (hc : Tryz.f77.body = some c), pureRun ty sp77 keep77 fuel false Tryz.f77.results c [.v (.int .u64 x)] = some (.ts [tn (en x)]) := by
   intro fuel hf c hc
   injection hc with hc
   subst hc
   have hU : U32 [x % 4294967296, x / 4294967296 % 4294967296] := U32_cons.2 ⟨by omega, U32_cons.2 ⟨by omega, U32_nil⟩⟩
   refine pure_wc ?_
   refine wsr ?_
   refine X_op' rfl (A_mv0 (.inr rfl) rfl rfl rfl rfl) ?_
   refine X_endS ?_
   try dsimp only [St.put, szA, List.length, Nat.reduceAdd]
   refine wsr ?_
   refine xm rfl rfl rfl rfl ?_
   refine X_op' rfl (A_conv rfl rfl rfl rfl rfl (wSm _)) ?_
   refine xm rfl rfl rfl rfl ?_
   refine X_op' rfl (A_sh rfl rfl rfl shr32) ?_
   refine X_op' rfl (A_conv rfl rfl rfl rfl rfl (wSm _)) ?_
   refine X_op' rfl (A_bs rfl rfl rfl rfl rfl (.cons (V_t rfl) (K_t rfl) (.cons (V_t rfl) (K_t rfl) .nil)) rfl rfl (by decide)) ?_
   refine X_op' rfl (A_callV rfl rfl rfl rfl (.cons (V_m rfl rfl rfl rfl) (K_m rfl) .nil) (c90 (l := [x % 4294967296, x / 4294967296 % 4294967296]) hU (by simp))) ?_
   refine xa rfl rfl rfl rfl ?_
   refine X_endS ?_
   try dsimp only [St.put, szA, List.length, Nat.reduceAdd]
   refine W_ret ?_
   have key : tr [x % 4294967296, x / 4294967296 % 4294967296] = en x := by
     rw [tr_eq_en hU, nv_pair]; congr 1; omega
   rw [← key]
   exact end_R rfl (.t rfl .nil)
  exact (if_pos rfl).trans (run _ (by simp only [fu77]; omega) _ rfl)
def st56 (l : List Int) (v n : Int) : St := { tm := [(0, .t (tn l)), (4, .t (.v (.int .u64 v))), (5, .t (.v (.int .i64 n)))], mm := [], nx := 0 }
def keep56 : Nat → List Nat := fun _ => [0, 4, 5]
noncomputable def sp56 : Nat → Option Spec := (more 90 (viewSpec g90) noneS)
theorem hs56 : ∀ f s, sp56 f = some s → SpecOk Tryz.prog f s := (more_ok s90 none_ok)
noncomputable def fu56 : List T → Nat := fun _ => 4398046511104
noncomputable def g56 : List T → Option Ret := fun ts => if ts.length = 1 then pureRun ty sp56 keep56 (fu56 ts) false Tryz.f56.results (Tryz.f56.body.getD .skip) ts else none
theorem s56 : SpecOk Tryz.prog 56 (viewSpec g56) := pure_ok mixed ty_ok hs56 Tryz.func56 rfl (by kernel_rfl) (enters_of Tryz.func56 (by kernel_rfl) rfl) keep56 fu56 false 1 (by decide)
set_option maxHeartbeats 4000000 in
theorem c56 {l : List Int} (h : U32 l) (hl : l.length ≤ 1099511627776) : g56 [tn l] = some (u64R l) := by
  have run : ∀ (fuel : Nat) (hf : 1099511627776 < fuel) (c : Code) (hc : Tryz.f56.body = some c), pureRun ty sp56 keep56 fuel false Tryz.f56.results c [tn l] = some (u64R l) := by
   intro fuel hf c hc
   injection hc with hc
   subst hc
   have e1 := cn_length (tr l)
   have b1 := tr_length l
   have u1 := U32_tr h
   have v1 := nv_tr l
   have ht := tr_two h
   refine pure_wc ?_
   refine wsr ?_
   refine xa rfl rfl rfl rfl ?_
   refine xa rfl rfl rfl rfl ?_
   refine X_endS ?_
   try dsimp only [St.put, szA, List.length, Nat.reduceAdd]
   refine wsr ?_
   refine xm rfl rfl rfl rfl ?_
   refine X_op' rfl (A_callV rfl rfl rfl rfl (.cons (V_t rfl) (K_t rfl) .nil) (c90 h hl)) ?_
   refine xa rfl rfl rfl rfl ?_
   refine X_endS ?_
   try dsimp only [St.put, szA, List.length, Nat.reduceAdd]
   refine W_seq ?_
   refine wsr ?_
   refine xm rfl rfl rfl rfl ?_
   refine X_op' rfl (A_lenT rfl rfl rfl rfl rfl rfl rfl) ?_
   refine X_op' rfl (A_int rfl rfl rfl ⟨by decide, by decide⟩ rfl) ?_
   refine X_endS ?_
   try dsimp only [St.put, szA, List.length, Nat.reduceAdd]
   refine W_condB rfl (fun hb1 => ?_) (fun hb1 => ?_)
   ·have khb1 := hb1; (try simp only [kb] at khb1)
    refine wsr ?_
    refine xa rfl rfl rfl rfl ?_
    refine xa rfl rfl rfl rfl ?_
    refine X_endS ?_
    try dsimp only [St.put, szA, List.length, Nat.reduceAdd]
    refine W_ret ?_
    refine Q_seqX ?_
    have hr : u64R l = .ts [.v (.int .u64 0), .v (.bool false)] := if_neg (by omega)
    rw [hr]
    exact end_R rfl (.t rfl (.t rfl .nil))
   ·have khb1 := hb1; (try simp only [kb] at khb1)
    refine W_skip ?_
    refine Q_seq ?_
    refine wsr ?_
    refine xa rfl rfl rfl rfl ?_
    refine X_endS ?_
    try dsimp only [St.put, szA, List.length, Nat.reduceAdd]
    refine W_seq ?_
    refine wsr ?_
    refine xm rfl rfl rfl rfl ?_
    refine X_op' rfl (A_lenT rfl rfl rfl rfl rfl rfl rfl) ?_
    refine X_op' rfl (A_int rfl rfl rfl ⟨by decide, by decide⟩ (subI (by omega))) ?_
    refine xa rfl rfl rfl rfl ?_
    refine X_endS ?_
    try dsimp only [St.put, szA, List.length, Nat.reduceAdd]
    refine W_blk ?_
    refine W_loop (fun n σ => ∃ j : Nat, j ≤ (tr l).length ∧ σ = st56 (tr l) (nv ((tr l).drop j)) ((j : Int) - 1) ∧ n = j) ((tr l).length) ?_ ⟨(tr l).length, Nat.le_refl _, Eq.trans (b := st56 (tr l) 0 (((cn (tr l)).length : Int) - 1)) (by kernel_rfl) (by rw [List.drop_length, nv_nil, e1]), rfl⟩ (by omega)
    rintro n _ ⟨j, hj, rfl, hn⟩
    have ha := U32_getD u1 (((j : Int) - 1)).toNat
    refine W_seq ?_
    refine wsr ?_
    refine xm rfl rfl rfl rfl ?_
    refine X_op' rfl (A_int rfl rfl rfl ⟨by decide, by decide⟩ rfl) ?_
    refine X_endS ?_
    try dsimp only [St.put, szA, List.length, Nat.reduceAdd]
    refine W_condB rfl (fun hb2 => ?_) (fun hb2 => ?_)
    ·have khb2 := hb2; (try simp only [kb] at khb2)
     refine W_skip ?_
     refine Q_seq ?_
     refine W_seq ?_
     refine W_blk ?_
     refine W_reg ?_
     refine xm rfl rfl rfl rfl ?_
     refine X_op' rfl (A_sh rfl rfl rfl (shl32 (drop_small u1 j (by omega) (by omega)))) ?_
     refine xm rfl rfl rfl rfl ?_
     refine xm rfl rfl rfl rfl ?_
     refine X_op' rfl (A_ixA 0 rfl rfl rfl rfl rfl rfl rfl (by omega) (by omega) rfl rfl) ?_
     refine X_op' rfl (A_ld rfl rfl rfl (ld_ip1 rfl rfl rfl)) ?_
     refine X_op' rfl (A_conv rfl rfl rfl rfl rfl (wU (by omega) (by omega))) ?_
     refine X_op' rfl (A_int rfl rfl rfl ⟨by decide, by decide⟩ (or32 (drop_small u1 j (by omega) (by omega)) ha)) ?_
     refine xa rfl rfl rfl rfl ?_
     refine X_end ?_
     try dsimp only [St.put, szA, List.length, Nat.reduceAdd]
     refine Q_blkN ?_
     refine Q_seq ?_
     refine W_reg ?_
     refine xm rfl rfl rfl rfl ?_
     refine X_op' rfl (A_int rfl rfl rfl ⟨by decide, by decide⟩ (subI (by omega))) ?_
     refine xa rfl rfl rfl rfl ?_
     refine X_end ?_
     try dsimp only [St.put, szA, List.length, Nat.reduceAdd]
     have ej : ((j : Int) - 1).toNat = j - 1 := by omega
     have hv : (nv ((tr l).drop j) * 4294967296 + (tr l).getD ((j : Int) - 1).toNat 0) = nv ((tr l).drop (j - 1)) := by
       rw [ej, nv_drop_succ _ (j - 1) (by omega), show j - 1 + 1 = j by omega]; omega
     refine ⟨j - 1, by omega, j - 1, by omega, Eq.trans (b := st56 (tr l) (nv ((tr l).drop j) * 4294967296 + (tr l).getD ((j : Int) - 1).toNat 0) ((j : Int) - 1 - 1)) (by kernel_rfl) (by rw [hv, show (j : Int) - 1 - 1 = ((j - 1 : Nat) : Int) - 1 by omega]), rfl⟩
    ·have khb2 := hb2; (try simp only [kb] at khb2)
     refine W_exit ?_
     refine Q_seqX ?_
     refine Q_rndX ?_
     refine Q_blkE ?_
     refine Q_seq ?_
     refine wsr ?_
     refine xm rfl rfl rfl rfl ?_
     refine xa rfl rfl rfl rfl ?_
     refine xa rfl rfl rfl rfl ?_
     refine X_endS ?_
     try dsimp only [St.put, szA, List.length, Nat.reduceAdd]
     refine W_ret ?_
     have hj0 : j = 0 := by omega
     subst hj0
     have hr : u64R l = .ts [.v (.int .u64 (nv l)), .v (.bool true)] := if_pos (by omega)
     rw [hr, ← v1]
     exact end_R rfl (.t rfl (.t rfl .nil))
  exact (if_pos rfl).trans (run _ (by simp only [fu56]; omega) _ rfl)
def st107 (a b : List Int) (n : Int) : St := { tm := [(0, .t (tn a)), (1, .t (tn b)), (5, .t (.v (.int .i64 n)))], mm := [], nx := 0 }
def keep107 : Nat → List Nat := fun _ => [0, 1, 5]
noncomputable def sp107 : Nat → Option Spec := (more 90 (viewSpec g90) noneS)
theorem hs107 : ∀ f s, sp107 f = some s → SpecOk Tryz.prog f s := (more_ok s90 none_ok)
noncomputable def fu107 : List T → Nat := fun _ => 4398046511104
noncomputable def g107 : List T → Option Ret := fun ts => if ts.length = 2 then pureRun ty sp107 keep107 (fu107 ts) false Tryz.f107.results (Tryz.f107.body.getD .skip) ts else none
theorem s107 : SpecOk Tryz.prog 107 (viewSpec g107) := pure_ok mixed ty_ok hs107 Tryz.func107 rfl (by kernel_rfl) (enters_of Tryz.func107 (by kernel_rfl) rfl) keep107 fu107 false 2 (by decide)
set_option maxHeartbeats 4000000 in
theorem c107 {l k : List Int} (h : U32 l) (hl : l.length ≤ 1099511627776) (h' : U32 k) (hk : k.length ≤ 1099511627776) : g107 [tn l, tn k] = some (.ts [.v (.int .i64 (cmpI (nv l) (nv k)))]) := by
  have run : ∀ (fuel : Nat) (hf : 1099511627776 < fuel) (c : Code) (hc : Tryz.f107.body = some c), pureRun ty sp107 keep107 fuel false Tryz.f107.results c [tn l, tn k] = some (.ts [.v (.int .i64 (cmpI (nv l) (nv k)))]) := by
   intro fuel hf c hc
   injection hc with hc
   subst hc
   have e1 := cn_length (tr l)
   have e2 := cn_length (tr k)
   have b1 := tr_length l
   have b2 := tr_length k
   have u1 := U32_tr h
   have u2 := U32_tr h'
   have v1 := nv_tr l
   have v2 := nv_tr k
   refine pure_wc ?_
   refine wsr ?_
   refine xa rfl rfl rfl rfl ?_
   refine X_endS ?_
   try dsimp only [St.put, szA, List.length, Nat.reduceAdd]
   refine wsr ?_
   refine xm rfl rfl rfl rfl ?_
   refine X_op' rfl (A_callV rfl rfl rfl rfl (.cons (V_t rfl) (K_t rfl) .nil) (c90 h hl)) ?_
   refine xm rfl rfl rfl rfl ?_
   refine X_op' rfl (A_callV rfl rfl rfl rfl (.cons (V_t rfl) (K_t rfl) .nil) (c90 h' hk)) ?_
   refine xa rfl rfl rfl rfl ?_
   refine xa rfl rfl rfl rfl ?_
   refine X_endS ?_
   try dsimp only [St.put, szA, List.length, Nat.reduceAdd]
   refine W_seq ?_
   refine wsr ?_
   refine xm rfl rfl rfl rfl ?_
   refine X_op' rfl (A_lenT rfl rfl rfl rfl rfl rfl rfl) ?_
   refine xm rfl rfl rfl rfl ?_
   refine X_op' rfl (A_lenT rfl rfl rfl rfl rfl rfl rfl) ?_
   refine X_op' rfl (A_int rfl rfl rfl ⟨by decide, by decide⟩ rfl) ?_
   refine X_endS ?_
   try dsimp only [St.put, szA, List.length, Nat.reduceAdd]
   refine W_condB rfl (fun hb1 => ?_) (fun hb1 => ?_)
   ·have khb1 := hb1; (try simp only [kb] at khb1)
    refine W_seq ?_
    refine wsr ?_
    refine xm rfl rfl rfl rfl ?_
    refine X_op' rfl (A_lenT rfl rfl rfl rfl rfl rfl rfl) ?_
    refine xm rfl rfl rfl rfl ?_
    refine X_op' rfl (A_lenT rfl rfl rfl rfl rfl rfl rfl) ?_
    refine X_op' rfl (A_int rfl rfl rfl ⟨by decide, by decide⟩ rfl) ?_
    refine X_endS ?_
    try dsimp only [St.put, szA, List.length, Nat.reduceAdd]
    refine W_condB rfl (fun hb2 => ?_) (fun hb2 => ?_)
    ·have khb2 := hb2; (try simp only [kb] at khb2)
     refine wsr ?_
     refine xa rfl rfl rfl rfl ?_
     refine X_endS ?_
     try dsimp only [St.put, szA, List.length, Nat.reduceAdd]
     refine W_ret ?_
     refine Q_seqX ?_
     refine Q_seqX ?_
     rw [cmp_lt (tr_len_lt h h' (by omega))]
     exact end_R rfl (.t rfl .nil)
    ·have khb2 := hb2; (try simp only [kb] at khb2)
     refine W_skip ?_
     refine Q_seq ?_
     refine wsr ?_
     refine xa rfl rfl rfl rfl ?_
     refine X_endS ?_
     try dsimp only [St.put, szA, List.length, Nat.reduceAdd]
     refine W_ret ?_
     refine Q_seqX ?_
     rw [cmp_gt (tr_len_lt h' h (by omega))]
     exact end_R rfl (.t rfl .nil)
   ·have khb1 := hb1; (try simp only [kb] at khb1)
    refine W_skip ?_
    refine Q_seq ?_
    refine W_seq ?_
    refine wsr ?_
    refine xm rfl rfl rfl rfl ?_
    refine X_op' rfl (A_lenT rfl rfl rfl rfl rfl rfl rfl) ?_
    refine X_op' rfl (A_int rfl rfl rfl ⟨by decide, by decide⟩ (subI (by omega))) ?_
    refine xa rfl rfl rfl rfl ?_
    refine X_endS ?_
    try dsimp only [St.put, szA, List.length, Nat.reduceAdd]
    refine W_blk ?_
    refine W_loop (fun n σ => ∃ j : Nat, j ≤ (tr l).length ∧ (tr l).drop j = (tr k).drop j ∧ σ = st107 (tr l) (tr k) ((j : Int) - 1) ∧ n = j) ((tr l).length) ?_ ⟨(tr l).length, Nat.le_refl _, (by rw [List.drop_length, List.drop_eq_nil_of_le (by omega)]), (by rw [← e1]; rfl), rfl⟩ (by omega)
    rintro n _ ⟨j, hj, hd, rfl, hn⟩
    refine W_seq ?_
    refine wsr ?_
    refine xm rfl rfl rfl rfl ?_
    refine X_op' rfl (A_int rfl rfl rfl ⟨by decide, by decide⟩ rfl) ?_
    refine X_endS ?_
    try dsimp only [St.put, szA, List.length, Nat.reduceAdd]
    refine W_condB rfl (fun hb3 => ?_) (fun hb3 => ?_)
    ·have khb3 := hb3; (try simp only [kb] at khb3)
     refine W_skip ?_
     refine Q_seq ?_
     refine W_seq ?_
     refine W_blk ?_
     refine W_seq ?_
     refine wsr ?_
     refine xm rfl rfl rfl rfl ?_
     refine xm rfl rfl rfl rfl ?_
     refine X_op' rfl (A_ixA 0 rfl rfl rfl rfl rfl rfl rfl (by omega) (by omega) rfl rfl) ?_
     refine X_op' rfl (A_ld rfl rfl rfl (ld_ip1 rfl rfl rfl)) ?_
     refine xm rfl rfl rfl rfl ?_
     refine xm rfl rfl rfl rfl ?_
     refine X_op' rfl (A_ixA 0 rfl rfl rfl rfl rfl rfl rfl (by omega) (by omega) rfl rfl) ?_
     refine X_op' rfl (A_ld rfl rfl rfl (ld_ip1 rfl rfl rfl)) ?_
     refine X_op' rfl (A_int rfl rfl rfl ⟨by decide, by decide⟩ rfl) ?_
     refine X_endDS (by kernel_rfl) (by kernel_rfl) ?_
     try dsimp only [St.put, szA, List.length, Nat.reduceAdd]
     refine W_condB rfl (fun hb4 => ?_) (fun hb4 => ?_)
     ·have khb4 := hb4; (try simp only [kb] at khb4)
      refine wsr ?_
      refine xa rfl rfl rfl rfl ?_
      refine X_endS ?_
      try dsimp only [St.put, szA, List.length, Nat.reduceAdd]
      refine W_ret ?_
      refine Q_seqX ?_
      refine Q_blkR ?_
      refine Q_seqX ?_
      refine Q_rndR ?_
      refine Q_blkR ?_
      refine Q_seqX ?_
      have hlen : (tr l).length = (tr k).length := by omega
      have e : ((j : Int) - 1).toNat = j - 1 := by omega
      rw [e] at khb4
      have hd' : (tr l).drop (j - 1 + 1) = (tr k).drop (j - 1 + 1) := by rw [show j - 1 + 1 = j by omega]; exact hd
      have := nv_lt_at u1 u2 (j - 1) hlen (by omega) hd' khb4
      rw [cmp_lt (by omega)]
      exact end_R rfl (.t rfl .nil)
     ·have khb4 := hb4; (try simp only [kb] at khb4)
      refine W_skip ?_
      refine Q_seq ?_
      refine wsr ?_
      refine xm rfl rfl rfl rfl ?_
      refine xm rfl rfl rfl rfl ?_
      refine X_op' rfl (A_ixA 0 rfl rfl rfl rfl rfl rfl rfl (by omega) (by omega) rfl rfl) ?_
      refine X_op' rfl (A_ld rfl rfl rfl (ld_ip1 rfl rfl rfl)) ?_
      refine xm rfl rfl rfl rfl ?_
      refine xm rfl rfl rfl rfl ?_
      refine X_op' rfl (A_ixA 0 rfl rfl rfl rfl rfl rfl rfl (by omega) (by omega) rfl rfl) ?_
      refine X_op' rfl (A_ld rfl rfl rfl (ld_ip1 rfl rfl rfl)) ?_
      refine X_op' rfl (A_int rfl rfl rfl ⟨by decide, by decide⟩ rfl) ?_
      refine X_endDS (by kernel_rfl) (by kernel_rfl) ?_
      try dsimp only [St.put, szA, List.length, Nat.reduceAdd]
      refine W_condB rfl (fun hb5 => ?_) (fun hb5 => ?_)
      ·have khb5 := hb5; (try simp only [kb] at khb5)
       refine wsr ?_
       refine xa rfl rfl rfl rfl ?_
       refine X_endS ?_
       try dsimp only [St.put, szA, List.length, Nat.reduceAdd]
       refine W_ret ?_
       refine Q_blkR ?_
       refine Q_seqX ?_
       refine Q_rndR ?_
       refine Q_blkR ?_
       refine Q_seqX ?_
       have hlen : (tr l).length = (tr k).length := by omega
       have e : ((j : Int) - 1).toNat = j - 1 := by omega
       rw [e] at khb4 khb5
       have hd' : (tr k).drop (j - 1 + 1) = (tr l).drop (j - 1 + 1) := by rw [show j - 1 + 1 = j by omega]; exact hd.symm
       have := nv_lt_at u2 u1 (j - 1) hlen.symm (by omega) hd' (by omega)
       rw [cmp_gt (by omega)]
       exact end_R rfl (.t rfl .nil)
      ·have khb5 := hb5; (try simp only [kb] at khb5)
       refine W_skip ?_
       refine Q_blkN ?_
       refine Q_seq ?_
       refine W_reg ?_
       refine xm rfl rfl rfl rfl ?_
       refine X_op' rfl (A_int rfl rfl rfl ⟨by decide, by decide⟩ (subI (by omega))) ?_
       refine xa rfl rfl rfl rfl ?_
       refine X_end ?_
       try dsimp only [St.put, szA, List.length, Nat.reduceAdd]
       have hlen : (tr l).length = (tr k).length := by omega
       have e : ((j : Int) - 1).toNat = j - 1 := by omega
       rw [e] at khb4 khb5
       have hd' : (tr l).drop (j - 1 + 1) = (tr k).drop (j - 1 + 1) := by rw [show j - 1 + 1 = j by omega]; exact hd
       exact ⟨j - 1, by omega, j - 1, by omega, drop_step (by omega) (by omega) hd' (by omega), (by rw [show ((j - 1 : Nat) : Int) - 1 = (j : Int) - 1 - 1 by omega]; rfl), rfl⟩
    ·have khb3 := hb3; (try simp only [kb] at khb3)
     refine W_exit ?_
     refine Q_seqX ?_
     refine Q_rndX ?_
     refine Q_blkE ?_
     refine Q_seq ?_
     refine wsr ?_
     refine xa rfl rfl rfl rfl ?_
     refine X_endS ?_
     try dsimp only [St.put, szA, List.length, Nat.reduceAdd]
     refine W_ret ?_
     have hj0 : j = 0 := by omega
     subst hj0
     rw [List.drop_zero, List.drop_zero] at hd
     rw [cmp_eq (by rw [← v1, ← v2, hd])]
     exact end_R rfl (.t rfl .nil)
  exact (if_pos rfl).trans (run _ (by simp only [fu107]; omega) _ rfl)
end Go.Ev.S
/- The reference of the natural numbers: sums, products. -/
set_option linter.unusedVariables false
set_option linter.unusedSimpArgs false
set_option maxRecDepth 100000
namespace Go.Ev.S
open Go Go.Ev Go.Proofs NumA
def st74 (a b z : List Int) (ll : Nat) (c i : Int) : St := { tm := [(0, .t (tn a)), (1, .t (tn b)), (5, .ms 0 1 0 ll), (6, .t (.v (.int .u64 c))), (7, .t (.v (.int .i64 i)))], mm := [(0, some ⟨61, 1, cn z⟩)], nx := 1 }
theorem carry_out {z l k : List Int} {n : Nat} {c : Int} (hU : U32 z) (hl : U32 l) (hk : U32 k) (h : nv z + P (n + 1) * c = nv l + nv k) (hc : c = 0 ∨ c = 1) (h1 : l.length ≤ n) (h2 : k.length ≤ n) : c = 0 := by
  rcases hc with h0 | h0
  · exact h0
  · exfalso
    have := nv_nonneg hU
    have a1 := lt_P hl h1
    have a2 := lt_P hk h2
    rw [h0, P_succ] at h
    have := P_pos n
    omega
def keep74 : Nat → List Nat := fun _ => [0, 1, 5, 6, 7]
noncomputable def sp74 : Nat → Option Spec := (more 90 (viewSpec g90) noneS)
theorem hs74 : ∀ f s, sp74 f = some s → SpecOk Tryz.prog f s := (more_ok s90 none_ok)
noncomputable def fu74 : List T → Nat := fun _ => 4398046511104
noncomputable def g74 : List T → Option Ret := fun ts => if ts.length = 2 then pureRun ty sp74 keep74 (fu74 ts) false Tryz.f74.results (Tryz.f74.body.getD .skip) ts else none
theorem s74 : SpecOk Tryz.prog 74 (viewSpec g74) := pure_ok mixed ty_ok hs74 Tryz.func74 rfl (by kernel_rfl) (enters_of Tryz.func74 (by kernel_rfl) rfl) keep74 fu74 false 2 (by decide)
set_option maxHeartbeats 4000000 in
theorem c74 {l k : List Int} (h : U32 l) (hl : l.length ≤ 1099511627774) (h' : U32 k) (hk : k.length ≤ 1099511627774) : g74 [tn l, tn k] = some (.ts [tn (en (nv l + nv k))]) := by
  have run : ∀ (fuel : Nat) (hf : 1099511627776 < fuel) (c : Code) (hc : Tryz.f74.body = some c), pureRun ty sp74 keep74 fuel false Tryz.f74.results c [tn l, tn k] = some (.ts [tn (en (nv l + nv k))]) := by
   intro fuel hf c hc
   injection hc with hc
   subst hc
   have e1 := cn_length l
   have e2 := cn_length k
   refine pure_wc ?_
   refine wsr ?_
   refine X_op' rfl (A_mv0 (.inr rfl) rfl rfl rfl rfl) ?_
   refine X_endS ?_
   try dsimp only [St.put, szA, List.length, Nat.reduceAdd]
   refine wsr ?_
   refine xm rfl rfl rfl rfl ?_
   refine X_op' rfl (A_lenT rfl rfl rfl rfl rfl rfl rfl) ?_
   refine xm rfl rfl rfl rfl ?_
   refine X_op' rfl (A_lenT rfl rfl rfl rfl rfl rfl rfl) ?_
   refine X_op' rfl (A_max rfl rfl rfl rfl rfl (show _ = (((max l.length k.length) : Nat) : Int) by split <;> omega)) ?_
   refine X_op' rfl (A_int rfl rfl rfl ⟨by decide, by decide⟩ (addI (by omega))) ?_
   refine X_op' rfl (A_make (j := (max l.length k.length) + 1) rfl rfl rfl rfl rfl rfl (by omega) (by first | omega | (simp only [intE, slE, boolE, integerE, rationalE]; omega)) (by omega)) ?_
   refine X_op' rfl (A_mvM (.inr rfl) rfl) ?_
   refine X_endS ?_
   try dsimp only [St.put, szA, List.length, Nat.reduceAdd]
   refine wsr ?_
   refine xa rfl rfl rfl rfl ?_
   refine X_endS ?_
   try dsimp only [St.put, szA, List.length, Nat.reduceAdd]
   refine W_seq ?_
   refine wsr ?_
   refine xa rfl rfl rfl rfl ?_
   refine X_endS ?_
   try dsimp only [St.put, szA, List.length, Nat.reduceAdd]
   refine W_blk ?_
   refine W_loop (fun n σ => ∃ (i : Nat) (z : List Int) (c : Int), i ≤ (max l.length k.length) + 1 ∧ z.length = (max l.length k.length) + 1 ∧ U32 z ∧ (c = 0 ∨ c = 1) ∧ nv (z.take i) + P i * c = nv (l.take i) + nv (k.take i) ∧ σ = st74 l k z ((max l.length k.length) + 1) c i ∧ n = (max l.length k.length) + 1 - i) ((max l.length k.length) + 1) ?_ ⟨0, List.replicate ((max l.length k.length) + 1) 0, 0, Nat.zero_le _, List.length_replicate, U32_rep _, .inl rfl, rfl, (by simp only [st74, cn, List.map_replicate]; rfl), rfl⟩ (by omega)
   rintro n _ ⟨i, z, c, hi, hz, uz, hc, hs, rfl, hn⟩
   have ha := U32_getD h ((i : Int)).toNat
   have hb := U32_getD h' ((i : Int)).toNat
   have ei : ((i : Int)).toNat = i := by omega
   have ez := cn_length z
   refine W_seq ?_
   refine wsr ?_
   refine xm rfl rfl rfl rfl ?_
   refine X_op' rfl (A_mvM (.inl rfl) rfl) ?_
   refine X_op' rfl (A_lenM rfl rfl rfl rfl rfl rfl rfl) ?_
   
   refine X_op' rfl (A_int rfl rfl rfl ⟨by decide, by decide⟩ rfl) ?_
   refine X_endS ?_
   try dsimp only [St.put, szA, List.length, Nat.reduceAdd]
   refine W_condB rfl (fun hb1 => ?_) (fun hb1 => ?_)
   ·have khb1 := hb1; (try simp only [kb] at khb1)
    refine W_skip ?_
    refine Q_seq ?_
    refine W_seq ?_
    refine W_blk ?_
    refine W_seq ?_
    refine wsr ?_
    refine xm rfl rfl rfl rfl ?_
    refine xm rfl rfl rfl rfl ?_
    refine X_op' rfl (A_lenT rfl rfl rfl rfl rfl rfl rfl) ?_
    refine X_op' rfl (A_int rfl rfl rfl ⟨by decide, by decide⟩ rfl) ?_
    refine X_endS ?_
    try dsimp only [St.put, szA, List.length, Nat.reduceAdd]
    refine W_condB rfl (fun hb2 => ?_) (fun hb2 => ?_)
    ·have khb2 := hb2; (try simp only [kb] at khb2)
     refine W_reg ?_
     refine xm rfl rfl rfl rfl ?_
     refine xm rfl rfl rfl rfl ?_
     refine xm rfl rfl rfl rfl ?_
     refine X_op' rfl (A_ixA 0 rfl rfl rfl rfl rfl rfl rfl (by omega) (by omega) rfl rfl) ?_
     refine X_op' rfl (A_ld rfl rfl rfl (ld_ip1 rfl rfl rfl)) ?_
     refine X_op' rfl (A_conv rfl rfl rfl rfl rfl (wU (by omega) (by omega))) ?_
     refine X_op' rfl (A_int rfl rfl rfl ⟨by decide, by decide⟩ (addU (by omega))) ?_
     refine xa rfl rfl rfl rfl ?_
     refine X_endS ?_
     try dsimp only [St.put, szA, List.length, Nat.reduceAdd]
     refine W_seq ?_
     refine wsr ?_
     refine xm rfl rfl rfl rfl ?_
     refine xm rfl rfl rfl rfl ?_
     refine X_op' rfl (A_lenT rfl rfl rfl rfl rfl rfl rfl) ?_
     refine X_op' rfl (A_int rfl rfl rfl ⟨by decide, by decide⟩ rfl) ?_
     refine X_endS ?_
     try dsimp only [St.put, szA, List.length, Nat.reduceAdd]
     refine W_condB rfl (fun hb3 => ?_) (fun hb3 => ?_)
     ·have khb3 := hb3; (try simp only [kb] at khb3)
      refine W_reg ?_
      refine xm rfl rfl rfl rfl ?_
      refine xm rfl rfl rfl rfl ?_
      refine xm rfl rfl rfl rfl ?_
      refine X_op' rfl (A_ixA 0 rfl rfl rfl rfl rfl rfl rfl (by omega) (by omega) rfl rfl) ?_
      refine X_op' rfl (A_ld rfl rfl rfl (ld_ip1 rfl rfl rfl)) ?_
      refine X_op' rfl (A_conv rfl rfl rfl rfl rfl (wU (by omega) (by omega))) ?_
      refine X_op' rfl (A_int rfl rfl rfl ⟨by decide, by decide⟩ (addU (by omega))) ?_
      refine xa rfl rfl rfl rfl ?_
      refine X_endS ?_
      try dsimp only [St.put, szA, List.length, Nat.reduceAdd]
      refine wsr ?_
      refine X_op' rfl (A_mvM (.inl rfl) rfl) ?_
      refine xm rfl rfl rfl rfl ?_
      refine xm rfl rfl rfl rfl ?_
      refine X_op' rfl (A_conv rfl rfl rfl rfl rfl (wSm _)) ?_
      refine X_op' rfl (A_ixO rfl rfl rfl rfl rfl rfl rfl (by omega) (by omega)) ?_
      refine X_op' rfl (A_stR 0 rfl rfl rfl (V_t rfl) (K_t rfl) rfl rfl (by first | omega | (simp only [List.length_set]; omega)) rfl rfl rfl rfl rfl rfl) ?_
      refine X_endS ?_
      try dsimp only [St.put, szA, List.length, Nat.reduceAdd]
      refine W_reg ?_
      refine xm rfl rfl rfl rfl ?_
      refine X_op' rfl (A_sh rfl rfl rfl shr32) ?_
      refine xa rfl rfl rfl rfl ?_
      refine X_end ?_
      try dsimp only [St.put, szA, List.length, Nat.reduceAdd]
      refine Q_blkN ?_
      refine Q_seq ?_
      refine W_reg ?_
      refine xm rfl rfl rfl rfl ?_
      refine X_op' rfl (A_int rfl rfl rfl ⟨by decide, by decide⟩ (addI (by omega))) ?_
      refine xa rfl rfl rfl rfl ?_
      refine X_end ?_
      try dsimp only [St.put, szA, List.length, Nat.reduceAdd]
      refine ⟨(max l.length k.length) + 1 - (i + 1), by omega, i + 1, z.set (0 + ((i : Int)).toNat) (((c + l.getD ((i : Int)).toNat 0) + k.getD ((i : Int)).toNat 0) % 4294967296), ((c + l.getD ((i : Int)).toNat 0) + k.getD ((i : Int)).toNat 0) / 4294967296, by omega, by rw [List.length_set]; exact hz, U32_set uz _ (by omega) (by omega), by omega, ?_, Eq.trans (b := st74 l k (z.set (0 + ((i : Int)).toNat) (((c + l.getD ((i : Int)).toNat 0) + k.getD ((i : Int)).toNat 0) % 4294967296)) ((max l.length k.length) + 1) (((c + l.getD ((i : Int)).toNat 0) + k.getD ((i : Int)).toNat 0) / 4294967296) ((i : Int) + 1)) (by kernel_rfl) rfl, rfl⟩
      rw [Nat.zero_add, ei]
      refine add_step (by omega) hs ?_
      
      
      omega
     ·have khb3 := hb3; (try simp only [kb] at khb3)
      refine W_skip ?_
      refine Q_seq ?_
      refine wsr ?_
      refine X_op' rfl (A_mvM (.inl rfl) rfl) ?_
      refine xm rfl rfl rfl rfl ?_
      refine xm rfl rfl rfl rfl ?_
      refine X_op' rfl (A_conv rfl rfl rfl rfl rfl (wSm _)) ?_
      refine X_op' rfl (A_ixO rfl rfl rfl rfl rfl rfl rfl (by omega) (by omega)) ?_
      refine X_op' rfl (A_stR 0 rfl rfl rfl (V_t rfl) (K_t rfl) rfl rfl (by first | omega | (simp only [List.length_set]; omega)) rfl rfl rfl rfl rfl rfl) ?_
      refine X_endS ?_
      try dsimp only [St.put, szA, List.length, Nat.reduceAdd]
      refine W_reg ?_
      refine xm rfl rfl rfl rfl ?_
      refine X_op' rfl (A_sh rfl rfl rfl shr32) ?_
      refine xa rfl rfl rfl rfl ?_
      refine X_end ?_
      try dsimp only [St.put, szA, List.length, Nat.reduceAdd]
      refine Q_blkN ?_
      refine Q_seq ?_
      refine W_reg ?_
      refine xm rfl rfl rfl rfl ?_
      refine X_op' rfl (A_int rfl rfl rfl ⟨by decide, by decide⟩ (addI (by omega))) ?_
      refine xa rfl rfl rfl rfl ?_
      refine X_end ?_
      try dsimp only [St.put, szA, List.length, Nat.reduceAdd]
      refine ⟨(max l.length k.length) + 1 - (i + 1), by omega, i + 1, z.set (0 + ((i : Int)).toNat) ((c + l.getD ((i : Int)).toNat 0) % 4294967296), (c + l.getD ((i : Int)).toNat 0) / 4294967296, by omega, by rw [List.length_set]; exact hz, U32_set uz _ (by omega) (by omega), by omega, ?_, Eq.trans (b := st74 l k (z.set (0 + ((i : Int)).toNat) ((c + l.getD ((i : Int)).toNat 0) % 4294967296)) ((max l.length k.length) + 1) ((c + l.getD ((i : Int)).toNat 0) / 4294967296) ((i : Int) + 1)) (by kernel_rfl) rfl, rfl⟩
      rw [Nat.zero_add, ei]
      refine add_step (by omega) hs ?_
      
      have gb := getD_out k i (by omega)
      omega
    ·have khb2 := hb2; (try simp only [kb] at khb2)
     refine W_skip ?_
     refine Q_seq ?_
     refine W_seq ?_
     refine wsr ?_
     refine xm rfl rfl rfl rfl ?_
     refine xm rfl rfl rfl rfl ?_
     refine X_op' rfl (A_lenT rfl rfl rfl rfl rfl rfl rfl) ?_
     refine X_op' rfl (A_int rfl rfl rfl ⟨by decide, by decide⟩ rfl) ?_
     refine X_endS ?_
     try dsimp only [St.put, szA, List.length, Nat.reduceAdd]
     refine W_condB rfl (fun hb4 => ?_) (fun hb4 => ?_)
     ·have khb4 := hb4; (try simp only [kb] at khb4)
      refine W_reg ?_
      refine xm rfl rfl rfl rfl ?_
      refine xm rfl rfl rfl rfl ?_
      refine xm rfl rfl rfl rfl ?_
      refine X_op' rfl (A_ixA 0 rfl rfl rfl rfl rfl rfl rfl (by omega) (by omega) rfl rfl) ?_
      refine X_op' rfl (A_ld rfl rfl rfl (ld_ip1 rfl rfl rfl)) ?_
      refine X_op' rfl (A_conv rfl rfl rfl rfl rfl (wU (by omega) (by omega))) ?_
      refine X_op' rfl (A_int rfl rfl rfl ⟨by decide, by decide⟩ (addU (by omega))) ?_
      refine xa rfl rfl rfl rfl ?_
      refine X_endS ?_
      try dsimp only [St.put, szA, List.length, Nat.reduceAdd]
      refine wsr ?_
      refine X_op' rfl (A_mvM (.inl rfl) rfl) ?_
      refine xm rfl rfl rfl rfl ?_
      refine xm rfl rfl rfl rfl ?_
      refine X_op' rfl (A_conv rfl rfl rfl rfl rfl (wSm _)) ?_
      refine X_op' rfl (A_ixO rfl rfl rfl rfl rfl rfl rfl (by omega) (by omega)) ?_
      refine X_op' rfl (A_stR 0 rfl rfl rfl (V_t rfl) (K_t rfl) rfl rfl (by first | omega | (simp only [List.length_set]; omega)) rfl rfl rfl rfl rfl rfl) ?_
      refine X_endS ?_
      try dsimp only [St.put, szA, List.length, Nat.reduceAdd]
      refine W_reg ?_
      refine xm rfl rfl rfl rfl ?_
      refine X_op' rfl (A_sh rfl rfl rfl shr32) ?_
      refine xa rfl rfl rfl rfl ?_
      refine X_end ?_
      try dsimp only [St.put, szA, List.length, Nat.reduceAdd]
      refine Q_blkN ?_
      refine Q_seq ?_
      refine W_reg ?_
      refine xm rfl rfl rfl rfl ?_
      refine X_op' rfl (A_int rfl rfl rfl ⟨by decide, by decide⟩ (addI (by omega))) ?_
      refine xa rfl rfl rfl rfl ?_
      refine X_end ?_
      try dsimp only [St.put, szA, List.length, Nat.reduceAdd]
      refine ⟨(max l.length k.length) + 1 - (i + 1), by omega, i + 1, z.set (0 + ((i : Int)).toNat) ((c + k.getD ((i : Int)).toNat 0) % 4294967296), (c + k.getD ((i : Int)).toNat 0) / 4294967296, by omega, by rw [List.length_set]; exact hz, U32_set uz _ (by omega) (by omega), by omega, ?_, Eq.trans (b := st74 l k (z.set (0 + ((i : Int)).toNat) ((c + k.getD ((i : Int)).toNat 0) % 4294967296)) ((max l.length k.length) + 1) ((c + k.getD ((i : Int)).toNat 0) / 4294967296) ((i : Int) + 1)) (by kernel_rfl) rfl, rfl⟩
      rw [Nat.zero_add, ei]
      refine add_step (by omega) hs ?_
      have ga := getD_out l i (by omega)
      
      omega
     ·have khb4 := hb4; (try simp only [kb] at khb4)
      refine W_skip ?_
      refine Q_seq ?_
      refine wsr ?_
      refine X_op' rfl (A_mvM (.inl rfl) rfl) ?_
      refine xm rfl rfl rfl rfl ?_
      refine xm rfl rfl rfl rfl ?_
      refine X_op' rfl (A_conv rfl rfl rfl rfl rfl (wSm _)) ?_
      refine X_op' rfl (A_ixO rfl rfl rfl rfl rfl rfl rfl (by omega) (by omega)) ?_
      refine X_op' rfl (A_stR 0 rfl rfl rfl (V_t rfl) (K_t rfl) rfl rfl (by first | omega | (simp only [List.length_set]; omega)) rfl rfl rfl rfl rfl rfl) ?_
      refine X_endS ?_
      try dsimp only [St.put, szA, List.length, Nat.reduceAdd]
      refine W_reg ?_
      refine xm rfl rfl rfl rfl ?_
      refine X_op' rfl (A_sh rfl rfl rfl shr32) ?_
      refine xa rfl rfl rfl rfl ?_
      refine X_end ?_
      try dsimp only [St.put, szA, List.length, Nat.reduceAdd]
      refine Q_blkN ?_
      refine Q_seq ?_
      refine W_reg ?_
      refine xm rfl rfl rfl rfl ?_
      refine X_op' rfl (A_int rfl rfl rfl ⟨by decide, by decide⟩ (addI (by omega))) ?_
      refine xa rfl rfl rfl rfl ?_
      refine X_end ?_
      try dsimp only [St.put, szA, List.length, Nat.reduceAdd]
      refine ⟨(max l.length k.length) + 1 - (i + 1), by omega, i + 1, z.set (0 + ((i : Int)).toNat) (c % 4294967296), c / 4294967296, by omega, by rw [List.length_set]; exact hz, U32_set uz _ (by omega) (by omega), by omega, ?_, Eq.trans (b := st74 l k (z.set (0 + ((i : Int)).toNat) (c % 4294967296)) ((max l.length k.length) + 1) (c / 4294967296) ((i : Int) + 1)) (by kernel_rfl) rfl, rfl⟩
      rw [Nat.zero_add, ei]
      refine add_step (by omega) hs ?_
      have ga := getD_out l i (by omega)
      have gb := getD_out k i (by omega)
      omega
   ·have khb1 := hb1; (try simp only [kb] at khb1)
    refine W_exit ?_
    refine Q_seqX ?_
    refine Q_rndX ?_
    refine Q_blkE ?_
    refine Q_seq ?_
    refine wsr ?_
    refine X_op' rfl (A_mvM (.inl rfl) rfl) ?_
    refine X_op' rfl (A_callV rfl rfl rfl rfl (.cons (V_m rfl rfl rfl (by rw [cn_length]; exact hz)) (K_m rfl) .nil) (c90 uz (by omega))) ?_
    refine xa rfl rfl rfl rfl ?_
    refine X_endS ?_
    try dsimp only [St.put, szA, List.length, Nat.reduceAdd]
    refine W_ret ?_
    have hi2 : i = (max l.length k.length) + 1 := by omega
    rw [hi2, List.take_of_length_le (by omega), List.take_of_length_le (by omega), List.take_of_length_le (by omega)] at hs
    have hc0 := carry_out uz h h' hs hc (by omega) (by omega)
    have key : tr z = en (nv l + nv k) := by rw [tr_eq_en uz, ← hs, hc0, Int.mul_zero, Int.add_zero]
    rw [← key]
    exact end_R rfl (.t rfl .nil)
  exact (if_pos rfl).trans (run _ (by simp only [fu74]; omega) _ rfl)
def st75 (a b z : List Int) (c i : Int) : St := { tm := [(0, .t (tn a)), (1, .t (tn b)), (6, .ms 0 1 0 (cn a).length), (7, .t (.v (.int .u64 c))), (8, .t (.v (.int .i64 i)))], mm := [(0, some ⟨61, 1, cn z⟩)], nx := 1 }
def keep75 : Nat → List Nat := fun _ => [0, 1, 6, 7, 8]
noncomputable def sp75 : Nat → Option Spec := (more 107 (viewSpec g107) (more 90 (viewSpec g90) noneS))
theorem hs75 : ∀ f s, sp75 f = some s → SpecOk Tryz.prog f s := (more_ok s107 (more_ok s90 none_ok))
noncomputable def fu75 : List T → Nat := fun _ => 4398046511104
noncomputable def g75 : List T → Option Ret := fun ts => if ts.length = 2 then pureRun ty sp75 keep75 (fu75 ts) false Tryz.f75.results (Tryz.f75.body.getD .skip) ts else none
theorem s75 : SpecOk Tryz.prog 75 (viewSpec g75) := pure_ok mixed ty_ok hs75 Tryz.func75 rfl (by kernel_rfl) (enters_of Tryz.func75 (by kernel_rfl) rfl) keep75 fu75 false 2 (by decide)
set_option maxHeartbeats 4000000 in
theorem c75 {l k : List Int} (h : U32 l) (hl : l.length ≤ 1099511627776) (h' : U32 k) (hk : k.length ≤ 1099511627776) : g75 [tn l, tn k] = some (subR l k) := by
  have run : ∀ (fuel : Nat) (hf : 1099511627776 < fuel) (c : Code) (hc : Tryz.f75.body = some c), pureRun ty sp75 keep75 fuel false Tryz.f75.results c [tn l, tn k] = some (subR l k) := by
   intro fuel hf c hc
   injection hc with hc
   subst hc
   have e1 := cn_length (tr l)
   have e2 := cn_length (tr k)
   have b1 := tr_length l
   have b2 := tr_length k
   have u1 := U32_tr h
   have u2 := U32_tr h'
   have v1 := nv_tr l
   have v2 := nv_tr k
   refine pure_wc ?_
   refine wsr ?_
   refine X_op' rfl (A_mv0 (.inr rfl) rfl rfl rfl rfl) ?_
   refine xa rfl rfl rfl rfl ?_
   refine X_endS ?_
   try dsimp only [St.put, szA, List.length, Nat.reduceAdd]
   refine W_seq ?_
   refine wsr ?_
   refine xm rfl rfl rfl rfl ?_
   refine xm rfl rfl rfl rfl ?_
   refine X_op' rfl (A_callV rfl rfl rfl rfl (.cons (V_t rfl) (K_t rfl) (.cons (V_t rfl) (K_t rfl) .nil)) (c107 h hl h' hk)) ?_
   refine X_op' rfl (A_int rfl rfl rfl ⟨by decide, by decide⟩ rfl) ?_
   refine X_endS ?_
   try dsimp only [St.put, szA, List.length, Nat.reduceAdd]
   refine W_condB rfl (fun hb1 => ?_) (fun hb1 => ?_)
   ·have khb1 := hb1; (try simp only [kb] at khb1)
    refine wsr ?_
    refine X_op' rfl (A_mv0 (.inr rfl) rfl rfl rfl rfl) ?_
    refine xa rfl rfl rfl rfl ?_
    refine X_endS ?_
    try dsimp only [St.put, szA, List.length, Nat.reduceAdd]
    refine W_ret ?_
    refine Q_seqX ?_
    have hlt := cmp_neg khb1
    have hr : subR l k = .ts [tn [], .v (.bool false)] := if_neg (by omega)
    rw [hr]
    exact end_R rfl (.n rfl (.t rfl .nil))
   ·have khb1 := hb1; (try simp only [kb] at khb1)
    refine W_skip ?_
    refine Q_seq ?_
    refine wsr ?_
    refine xm rfl rfl rfl rfl ?_
    refine X_op' rfl (A_callV rfl rfl rfl rfl (.cons (V_t rfl) (K_t rfl) .nil) (c90 h hl)) ?_
    refine xm rfl rfl rfl rfl ?_
    refine X_op' rfl (A_callV rfl rfl rfl rfl (.cons (V_t rfl) (K_t rfl) .nil) (c90 h' hk)) ?_
    refine xa rfl rfl rfl rfl ?_
    refine xa rfl rfl rfl rfl ?_
    refine X_endS ?_
    try dsimp only [St.put, szA, List.length, Nat.reduceAdd]
    refine wsr ?_
    refine xm rfl rfl rfl rfl ?_
    refine X_op' rfl (A_lenT rfl rfl rfl rfl rfl rfl rfl) ?_
    refine X_op' rfl (A_make (j := (cn (tr l)).length) rfl rfl rfl rfl rfl rfl (by omega) (by first | omega | (simp only [intE, slE, boolE, integerE, rationalE]; omega)) (by omega)) ?_
    refine X_op' rfl (A_mvM (.inr rfl) rfl) ?_
    refine X_endS ?_
    try dsimp only [St.put, szA, List.length, Nat.reduceAdd]
    refine wsr ?_
    refine xa rfl rfl rfl rfl ?_
    refine X_endS ?_
    try dsimp only [St.put, szA, List.length, Nat.reduceAdd]
    refine W_seq ?_
    refine wsr ?_
    refine xa rfl rfl rfl rfl ?_
    refine X_endS ?_
    try dsimp only [St.put, szA, List.length, Nat.reduceAdd]
    refine W_blk ?_
    refine W_loop (fun n σ => ∃ (i : Nat) (z : List Int) (c : Int), i ≤ (tr l).length ∧ z.length = (tr l).length ∧ U32 z ∧ (c = 0 ∨ c = 1) ∧ nv (z.take i) - P i * c = nv ((tr l).take i) - nv ((tr k).take i) ∧ σ = st75 (tr l) (tr k) z c i ∧ n = (tr l).length - i) ((tr l).length) ?_ ⟨0, List.replicate (cn (tr l)).length 0, 0, Nat.zero_le _, (by rw [List.length_replicate]; exact e1), U32_rep _, .inl rfl, rfl, (by simp only [st75, cn, List.map_replicate]; rfl), rfl⟩ (by omega)
    rintro n _ ⟨i, z, c, hi, hz, uz, hc, hs, rfl, hn⟩
    have ha := U32_getD u1 ((i : Int)).toNat
    have hb := U32_getD u2 ((i : Int)).toNat
    have ei : ((i : Int)).toNat = i := by omega
    have ez := cn_length z
    refine W_seq ?_
    refine wsr ?_
    refine xm rfl rfl rfl rfl ?_
    refine xm rfl rfl rfl rfl ?_
    refine X_op' rfl (A_lenT rfl rfl rfl rfl rfl rfl rfl) ?_
    refine X_op' rfl (A_int rfl rfl rfl ⟨by decide, by decide⟩ rfl) ?_
    refine X_endS ?_
    try dsimp only [St.put, szA, List.length, Nat.reduceAdd]
    refine W_condB rfl (fun hb2 => ?_) (fun hb2 => ?_)
    ·have khb2 := hb2; (try simp only [kb] at khb2)
     refine W_skip ?_
     refine Q_seq ?_
     refine W_seq ?_
     refine W_blk ?_
     refine wsr ?_
     refine xm rfl rfl rfl rfl ?_
     refine xa rfl rfl rfl rfl ?_
     refine X_endS ?_
     try dsimp only [St.put, szA, List.length, Nat.reduceAdd]
     refine W_seq ?_
     refine wsr ?_
     refine xm rfl rfl rfl rfl ?_
     refine xm rfl rfl rfl rfl ?_
     refine X_op' rfl (A_lenT rfl rfl rfl rfl rfl rfl rfl) ?_
     refine X_op' rfl (A_int rfl rfl rfl ⟨by decide, by decide⟩ rfl) ?_
     refine X_endS ?_
     try dsimp only [St.put, szA, List.length, Nat.reduceAdd]
     refine W_condB rfl (fun hb3 => ?_) (fun hb3 => ?_)
     ·have khb3 := hb3; (try simp only [kb] at khb3)
      refine W_reg ?_
      refine xm rfl rfl rfl rfl ?_
      refine xm rfl rfl rfl rfl ?_
      refine xm rfl rfl rfl rfl ?_
      refine X_op' rfl (A_ixA 0 rfl rfl rfl rfl rfl rfl rfl (by omega) (by omega) rfl rfl) ?_
      refine X_op' rfl (A_ld rfl rfl rfl (ld_ip1 rfl rfl rfl)) ?_
      refine X_op' rfl (A_conv rfl rfl rfl rfl rfl (wU (by omega) (by omega))) ?_
      refine X_op' rfl (A_int rfl rfl rfl ⟨by decide, by decide⟩ (addU (by omega))) ?_
      refine xa rfl rfl rfl rfl ?_
      refine X_endS ?_
      try dsimp only [St.put, szA, List.length, Nat.reduceAdd]
      refine wsr ?_
      refine xm rfl rfl rfl rfl ?_
      refine xm rfl rfl rfl rfl ?_
      refine X_op' rfl (A_ixA 0 rfl rfl rfl rfl rfl rfl rfl (by omega) (by omega) rfl rfl) ?_
      refine X_op' rfl (A_ld rfl rfl rfl (ld_ip1 rfl rfl rfl)) ?_
      refine X_op' rfl (A_conv rfl rfl rfl rfl rfl (wU (by omega) (by omega))) ?_
      refine xa rfl rfl rfl rfl ?_
      refine X_endS ?_
      try dsimp only [St.put, szA, List.length, Nat.reduceAdd]
      refine wsr ?_
      refine xa rfl rfl rfl rfl ?_
      refine X_endS ?_
      try dsimp only [St.put, szA, List.length, Nat.reduceAdd]
      refine W_seq ?_
      refine wsr ?_
      refine xm rfl rfl rfl rfl ?_
      refine xm rfl rfl rfl rfl ?_
      refine X_op' rfl (A_int rfl rfl rfl ⟨by decide, by decide⟩ rfl) ?_
      refine X_endS ?_
      try dsimp only [St.put, szA, List.length, Nat.reduceAdd]
      refine W_condB rfl (fun hb4 => ?_) (fun hb4 => ?_)
      ·have khb4 := hb4; (try simp only [kb] at khb4)
       refine wsr ?_
       refine xm rfl rfl rfl rfl ?_
       refine X_op' rfl (A_int rfl rfl rfl ⟨by decide, by decide⟩ (addU (by omega))) ?_
       refine xa rfl rfl rfl rfl ?_
       refine X_endS ?_
       try dsimp only [St.put, szA, List.length, Nat.reduceAdd]
       refine W_reg ?_
       refine xa rfl rfl rfl rfl ?_
       refine X_endS ?_
       try dsimp only [St.put, szA, List.length, Nat.reduceAdd]
       refine W_reg ?_
       refine X_op' rfl (A_mvM (.inl rfl) rfl) ?_
       refine xm rfl rfl rfl rfl ?_
       refine xm rfl rfl rfl rfl ?_
       refine xm rfl rfl rfl rfl ?_
       refine X_op' rfl (A_int rfl rfl rfl ⟨by decide, by decide⟩ (subU (by omega))) ?_
       refine X_op' rfl (A_conv rfl rfl rfl rfl rfl (wSm _)) ?_
       refine X_op' rfl (A_ixO rfl rfl rfl rfl rfl rfl rfl (by omega) (by omega)) ?_
       refine X_op' rfl (A_stR 0 rfl rfl rfl (V_t rfl) (K_t rfl) rfl rfl (by first | omega | (simp only [List.length_set]; omega)) rfl rfl rfl rfl rfl rfl) ?_
       refine X_end ?_
       try dsimp only [St.put, szA, List.length, Nat.reduceAdd]
       refine Q_blkN ?_
       refine Q_seq ?_
       refine W_reg ?_
       refine xm rfl rfl rfl rfl ?_
       refine X_op' rfl (A_int rfl rfl rfl ⟨by decide, by decide⟩ (addI (by omega))) ?_
       refine xa rfl rfl rfl rfl ?_
       refine X_end ?_
       try dsimp only [St.put, szA, List.length, Nat.reduceAdd]
       refine ⟨(tr l).length - (i + 1), by omega, i + 1, z.set (0 + ((i : Int)).toNat) ((((tr l).getD ((i : Int)).toNat 0 + 4294967296) - (c + (tr k).getD ((i : Int)).toNat 0)) % 4294967296), 1, by omega, by rw [List.length_set]; exact hz, U32_set uz _ (by omega) (by omega), by omega, ?_, Eq.trans (b := st75 (tr l) (tr k) (z.set (0 + ((i : Int)).toNat) ((((tr l).getD ((i : Int)).toNat 0 + 4294967296) - (c + (tr k).getD ((i : Int)).toNat 0)) % 4294967296)) 1 ((i : Int) + 1)) (by kernel_rfl) rfl, rfl⟩
       rw [Nat.zero_add, show (((tr l).getD ((i : Int)).toNat 0 + 4294967296) - (c + (tr k).getD ((i : Int)).toNat 0)) % 4294967296 = (((tr l).getD ((i : Int)).toNat 0 + 4294967296) - (c + (tr k).getD ((i : Int)).toNat 0)) by omega]
       rw [ei] at ha hb ⊢
       exact sub_step (by omega) hs (by first | omega | (have := getD_out (tr k) i (by omega); omega))
      ·have khb4 := hb4; (try simp only [kb] at khb4)
       refine W_skip ?_
       refine Q_seq ?_
       refine W_reg ?_
       refine X_op' rfl (A_mvM (.inl rfl) rfl) ?_
       refine xm rfl rfl rfl rfl ?_
       refine xm rfl rfl rfl rfl ?_
       refine xm rfl rfl rfl rfl ?_
       refine X_op' rfl (A_int rfl rfl rfl ⟨by decide, by decide⟩ (subU (by omega))) ?_
       refine X_op' rfl (A_conv rfl rfl rfl rfl rfl (wSm _)) ?_
       refine X_op' rfl (A_ixO rfl rfl rfl rfl rfl rfl rfl (by omega) (by omega)) ?_
       refine X_op' rfl (A_stR 0 rfl rfl rfl (V_t rfl) (K_t rfl) rfl rfl (by first | omega | (simp only [List.length_set]; omega)) rfl rfl rfl rfl rfl rfl) ?_
       refine X_end ?_
       try dsimp only [St.put, szA, List.length, Nat.reduceAdd]
       refine Q_blkN ?_
       refine Q_seq ?_
       refine W_reg ?_
       refine xm rfl rfl rfl rfl ?_
       refine X_op' rfl (A_int rfl rfl rfl ⟨by decide, by decide⟩ (addI (by omega))) ?_
       refine xa rfl rfl rfl rfl ?_
       refine X_end ?_
       try dsimp only [St.put, szA, List.length, Nat.reduceAdd]
       refine ⟨(tr l).length - (i + 1), by omega, i + 1, z.set (0 + ((i : Int)).toNat) (((tr l).getD ((i : Int)).toNat 0 - (c + (tr k).getD ((i : Int)).toNat 0)) % 4294967296), 0, by omega, by rw [List.length_set]; exact hz, U32_set uz _ (by omega) (by omega), by omega, ?_, Eq.trans (b := st75 (tr l) (tr k) (z.set (0 + ((i : Int)).toNat) (((tr l).getD ((i : Int)).toNat 0 - (c + (tr k).getD ((i : Int)).toNat 0)) % 4294967296)) 0 ((i : Int) + 1)) (by kernel_rfl) rfl, rfl⟩
       rw [Nat.zero_add, show ((tr l).getD ((i : Int)).toNat 0 - (c + (tr k).getD ((i : Int)).toNat 0)) % 4294967296 = ((tr l).getD ((i : Int)).toNat 0 - (c + (tr k).getD ((i : Int)).toNat 0)) by omega]
       rw [ei] at ha hb ⊢
       exact sub_step (by omega) hs (by first | omega | (have := getD_out (tr k) i (by omega); omega))
     ·have khb3 := hb3; (try simp only [kb] at khb3)
      refine W_skip ?_
      refine Q_seq ?_
      refine wsr ?_
      refine xm rfl rfl rfl rfl ?_
      refine xm rfl rfl rfl rfl ?_
      refine X_op' rfl (A_ixA 0 rfl rfl rfl rfl rfl rfl rfl (by omega) (by omega) rfl rfl) ?_
      refine X_op' rfl (A_ld rfl rfl rfl (ld_ip1 rfl rfl rfl)) ?_
      refine X_op' rfl (A_conv rfl rfl rfl rfl rfl (wU (by omega) (by omega))) ?_
      refine xa rfl rfl rfl rfl ?_
      refine X_endS ?_
      try dsimp only [St.put, szA, List.length, Nat.reduceAdd]
      refine wsr ?_
      refine xa rfl rfl rfl rfl ?_
      refine X_endS ?_
      try dsimp only [St.put, szA, List.length, Nat.reduceAdd]
      refine W_seq ?_
      refine wsr ?_
      refine xm rfl rfl rfl rfl ?_
      refine xm rfl rfl rfl rfl ?_
      refine X_op' rfl (A_int rfl rfl rfl ⟨by decide, by decide⟩ rfl) ?_
      refine X_endS ?_
      try dsimp only [St.put, szA, List.length, Nat.reduceAdd]
      refine W_condB rfl (fun hb5 => ?_) (fun hb5 => ?_)
      ·have khb5 := hb5; (try simp only [kb] at khb5)
       refine wsr ?_
       refine xm rfl rfl rfl rfl ?_
       refine X_op' rfl (A_int rfl rfl rfl ⟨by decide, by decide⟩ (addU (by omega))) ?_
       refine xa rfl rfl rfl rfl ?_
       refine X_endS ?_
       try dsimp only [St.put, szA, List.length, Nat.reduceAdd]
       refine W_reg ?_
       refine xa rfl rfl rfl rfl ?_
       refine X_endS ?_
       try dsimp only [St.put, szA, List.length, Nat.reduceAdd]
       refine W_reg ?_
       refine X_op' rfl (A_mvM (.inl rfl) rfl) ?_
       refine xm rfl rfl rfl rfl ?_
       refine xm rfl rfl rfl rfl ?_
       refine xm rfl rfl rfl rfl ?_
       refine X_op' rfl (A_int rfl rfl rfl ⟨by decide, by decide⟩ (subU (by omega))) ?_
       refine X_op' rfl (A_conv rfl rfl rfl rfl rfl (wSm _)) ?_
       refine X_op' rfl (A_ixO rfl rfl rfl rfl rfl rfl rfl (by omega) (by omega)) ?_
       refine X_op' rfl (A_stR 0 rfl rfl rfl (V_t rfl) (K_t rfl) rfl rfl (by first | omega | (simp only [List.length_set]; omega)) rfl rfl rfl rfl rfl rfl) ?_
       refine X_end ?_
       try dsimp only [St.put, szA, List.length, Nat.reduceAdd]
       refine Q_blkN ?_
       refine Q_seq ?_
       refine W_reg ?_
       refine xm rfl rfl rfl rfl ?_
       refine X_op' rfl (A_int rfl rfl rfl ⟨by decide, by decide⟩ (addI (by omega))) ?_
       refine xa rfl rfl rfl rfl ?_
       refine X_end ?_
       try dsimp only [St.put, szA, List.length, Nat.reduceAdd]
       refine ⟨(tr l).length - (i + 1), by omega, i + 1, z.set (0 + ((i : Int)).toNat) ((((tr l).getD ((i : Int)).toNat 0 + 4294967296) - c) % 4294967296), 1, by omega, by rw [List.length_set]; exact hz, U32_set uz _ (by omega) (by omega), by omega, ?_, Eq.trans (b := st75 (tr l) (tr k) (z.set (0 + ((i : Int)).toNat) ((((tr l).getD ((i : Int)).toNat 0 + 4294967296) - c) % 4294967296)) 1 ((i : Int) + 1)) (by kernel_rfl) rfl, rfl⟩
       rw [Nat.zero_add, show (((tr l).getD ((i : Int)).toNat 0 + 4294967296) - c) % 4294967296 = (((tr l).getD ((i : Int)).toNat 0 + 4294967296) - c) by omega]
       rw [ei] at ha hb ⊢
       exact sub_step (by omega) hs (by first | omega | (have := getD_out (tr k) i (by omega); omega))
      ·have khb5 := hb5; (try simp only [kb] at khb5)
       refine W_skip ?_
       refine Q_seq ?_
       refine W_reg ?_
       refine X_op' rfl (A_mvM (.inl rfl) rfl) ?_
       refine xm rfl rfl rfl rfl ?_
       refine xm rfl rfl rfl rfl ?_
       refine xm rfl rfl rfl rfl ?_
       refine X_op' rfl (A_int rfl rfl rfl ⟨by decide, by decide⟩ (subU (by omega))) ?_
       refine X_op' rfl (A_conv rfl rfl rfl rfl rfl (wSm _)) ?_
       refine X_op' rfl (A_ixO rfl rfl rfl rfl rfl rfl rfl (by omega) (by omega)) ?_
       refine X_op' rfl (A_stR 0 rfl rfl rfl (V_t rfl) (K_t rfl) rfl rfl (by first | omega | (simp only [List.length_set]; omega)) rfl rfl rfl rfl rfl rfl) ?_
       refine X_end ?_
       try dsimp only [St.put, szA, List.length, Nat.reduceAdd]
       refine Q_blkN ?_
       refine Q_seq ?_
       refine W_reg ?_
       refine xm rfl rfl rfl rfl ?_
       refine X_op' rfl (A_int rfl rfl rfl ⟨by decide, by decide⟩ (addI (by omega))) ?_
       refine xa rfl rfl rfl rfl ?_
       refine X_end ?_
       try dsimp only [St.put, szA, List.length, Nat.reduceAdd]
       refine ⟨(tr l).length - (i + 1), by omega, i + 1, z.set (0 + ((i : Int)).toNat) (((tr l).getD ((i : Int)).toNat 0 - c) % 4294967296), 0, by omega, by rw [List.length_set]; exact hz, U32_set uz _ (by omega) (by omega), by omega, ?_, Eq.trans (b := st75 (tr l) (tr k) (z.set (0 + ((i : Int)).toNat) (((tr l).getD ((i : Int)).toNat 0 - c) % 4294967296)) 0 ((i : Int) + 1)) (by kernel_rfl) rfl, rfl⟩
       rw [Nat.zero_add, show ((tr l).getD ((i : Int)).toNat 0 - c) % 4294967296 = ((tr l).getD ((i : Int)).toNat 0 - c) by omega]
       rw [ei] at ha hb ⊢
       exact sub_step (by omega) hs (by first | omega | (have := getD_out (tr k) i (by omega); omega))
    ·have khb2 := hb2; (try simp only [kb] at khb2)
     refine W_exit ?_
     refine Q_seqX ?_
     refine Q_rndX ?_
     refine Q_blkE ?_
     refine Q_seq ?_
     refine wsr ?_
     refine X_op' rfl (A_mvM (.inl rfl) rfl) ?_
     refine X_op' rfl (A_callV rfl rfl rfl rfl (.cons (V_m rfl rfl rfl (by rw [cn_length, hz]; exact e1.symm)) (K_m rfl) .nil) (c90 uz (by omega))) ?_
     refine xa rfl rfl rfl rfl ?_
     refine xa rfl rfl rfl rfl ?_
     refine X_endS ?_
     try dsimp only [St.put, szA, List.length, Nat.reduceAdd]
     refine W_ret ?_
     have hi2 : i = (tr l).length := by omega
     have hle : nv k ≤ nv l := cmp_nneg khb1
     have hbl := tr_len_le h h' hle
     have hs2 : nv z - P z.length * c = nv l - nv k := by
       rw [hi2, List.take_of_length_le (by omega), List.take_length, List.take_of_length_le (by omega), v1, v2] at hs
       rw [hz]; exact hs
     have hc0 := borrow_out uz hs2 (by omega) hc
     have key : tr z = en (nv l - nv k) := by rw [tr_eq_en uz, ← hs2, hc0, Int.mul_zero, Int.sub_zero]
     have hr : subR l k = .ts [tn (en (nv l - nv k)), .v (.bool true)] := if_pos hle
     rw [hr, ← key]
     exact end_R rfl (.t rfl (.t rfl .nil))
  exact (if_pos rfl).trans (run _ (by simp only [fu75]; omega) _ rfl)
def st76 (a b z : List Int) (i : Int) : St := { tm := [(0, .t (tn a)), (1, .t (tn b)), (5, .ms 0 1 0 (a.length + b.length)), (6, .t (.v (.int .i64 i)))], mm := [(0, some ⟨61, 1, cn z⟩)], nx := 1 }
def st76b (a b z : List Int) (c i j : Int) : St := { tm := [(0, .t (tn a)), (1, .t (tn b)), (5, .ms 0 1 0 (a.length + b.length)), (6, .t (.v (.int .i64 i))), (7, .t (.v (.int .u64 c))), (8, .t (.v (.int .i64 j)))], mm := [(0, some ⟨61, 1, cn z⟩)], nx := 1 }
def keep76 : Nat → List Nat := fun b => if b = 0 then [0, 1, 5, 6] else [0, 1, 5, 6, 7, 8]
noncomputable def sp76 : Nat → Option Spec := (more 90 (viewSpec g90) noneS)
theorem hs76 : ∀ f s, sp76 f = some s → SpecOk Tryz.prog f s := (more_ok s90 none_ok)
noncomputable def fu76 : List T → Nat := fun _ => 4398046511104
noncomputable def g76 : List T → Option Ret := fun ts => if ts.length = 2 then pureRun ty sp76 keep76 (fu76 ts) false Tryz.f76.results (Tryz.f76.body.getD .skip) ts else none
theorem s76 : SpecOk Tryz.prog 76 (viewSpec g76) := pure_ok mixed ty_ok hs76 Tryz.func76 rfl (by kernel_rfl) (enters_of Tryz.func76 (by kernel_rfl) rfl) keep76 fu76 false 2 (by decide)
set_option maxHeartbeats 4000000 in
theorem c76 {l k : List Int} (h : U32 l) (hl : l.length ≤ 274877906944) (h' : U32 k) (hk : k.length ≤ 274877906944) : g76 [tn l, tn k] = some (.ts [tn (en (nv l * nv k))]) := by
  have run : ∀ (fuel : Nat) (hf : 1099511627776 < fuel) (c : Code) (hc : Tryz.f76.body = some c), pureRun ty sp76 keep76 fuel false Tryz.f76.results c [tn l, tn k] = some (.ts [tn (en (nv l * nv k))]) := by
   intro fuel hf c hc
   injection hc with hc
   subst hc
   have e1 := cn_length l
   have e2 := cn_length k
   refine pure_wc ?_
   refine wsr ?_
   refine X_op' rfl (A_mv0 (.inr rfl) rfl rfl rfl rfl) ?_
   refine X_endS ?_
   try dsimp only [St.put, szA, List.length, Nat.reduceAdd]
   refine wsr ?_
   refine xm rfl rfl rfl rfl ?_
   refine X_op' rfl (A_lenT rfl rfl rfl rfl rfl rfl rfl) ?_
   refine xm rfl rfl rfl rfl ?_
   refine X_op' rfl (A_lenT rfl rfl rfl rfl rfl rfl rfl) ?_
   refine X_op' rfl (A_int rfl rfl rfl ⟨by decide, by decide⟩ (addI (by omega))) ?_
   refine X_op' rfl (A_make (j := l.length + k.length) rfl rfl rfl rfl rfl rfl (by omega) (by first | omega | (simp only [intE, slE, boolE, integerE, rationalE]; omega)) (by omega)) ?_
   refine X_op' rfl (A_mvM (.inr rfl) rfl) ?_
   refine X_endS ?_
   try dsimp only [St.put, szA, List.length, Nat.reduceAdd]
   refine W_seq ?_
   refine wsr ?_
   refine xa rfl rfl rfl rfl ?_
   refine X_endS ?_
   try dsimp only [St.put, szA, List.length, Nat.reduceAdd]
   refine W_blk ?_
   refine W_loop (fun n σ => ∃ (i : Nat) (z : List Int), i ≤ l.length ∧ z.length = l.length + k.length ∧ U32 z ∧ nv z = nv (l.take i) * nv k ∧ (∀ t, i + k.length ≤ t → z.getD t 0 = 0) ∧ σ = st76 l k z i ∧ n = l.length - i) (l.length) ?_ ⟨0, List.replicate (l.length + k.length) 0, Nat.zero_le _, List.length_replicate, U32_rep _, (by rw [nv_replicate, List.take_zero, nv_nil, Int.zero_mul]), (by intro t _; simp [List.getD_eq_getElem?_getD, List.getElem?_replicate]; split <;> rfl), (by simp only [st76, cn, List.map_replicate]; rfl), rfl⟩ (by omega)
   rintro n _ ⟨i, z0, hi, hz0, uz0, hs0, hzz0, rfl, hn⟩
   have ha := U32_getD h ((i : Int)).toNat
   have ei : ((i : Int)).toNat = i := by omega
   have ez := cn_length z0
   refine W_seq ?_
   refine wsr ?_
   refine xm rfl rfl rfl rfl ?_
   refine xm rfl rfl rfl rfl ?_
   refine X_op' rfl (A_lenT rfl rfl rfl rfl rfl rfl rfl) ?_
   refine X_op' rfl (A_int rfl rfl rfl ⟨by decide, by decide⟩ rfl) ?_
   refine X_endS ?_
   try dsimp only [St.put, szA, List.length, Nat.reduceAdd]
   refine W_condB rfl (fun hb1 => ?_) (fun hb1 => ?_)
   ·have khb1 := hb1; (try simp only [kb] at khb1)
    refine W_skip ?_
    refine Q_seq ?_
    refine W_seq ?_
    refine W_blk ?_
    refine wsr ?_
    refine xa rfl rfl rfl rfl ?_
    refine X_endS ?_
    try dsimp only [St.put, szA, List.length, Nat.reduceAdd]
    refine W_seq ?_
    refine wsr ?_
    refine xa rfl rfl rfl rfl ?_
    refine X_endS ?_
    try dsimp only [St.put, szA, List.length, Nat.reduceAdd]
    refine W_blk ?_
    refine W_loop (fun n σ => ∃ (j : Nat) (z : List Int) (c : Int), j ≤ k.length ∧ z.length = l.length + k.length ∧ U32 z ∧ 0 ≤ c ∧ c < 4294967296 ∧ nv z + P (i + j) * c = nv (l.take i) * nv k + P i * ((l.getD ((i : Int)).toNat 0) * nv (k.take j)) ∧ (∀ t, i + k.length ≤ t → z.getD t 0 = 0) ∧ σ = st76b l k z c i j ∧ n = k.length - j) (k.length) ?_ ⟨0, z0, 0, Nat.zero_le _, hz0, uz0, Int.le_refl _, (by decide), (by rw [Int.mul_zero, Int.add_zero, List.take_zero, nv_nil, Int.mul_zero, Int.mul_zero, Int.add_zero]; exact hs0), hzz0, (by kernel_rfl), rfl⟩ (by omega)
    rintro n2 _ ⟨j, z, c, hj, hz, uz, hc1, hc2, hs, h0, rfl, hn2⟩
    have hb := U32_getD h' ((j : Int)).toNat
    have ej : ((j : Int)).toNat = j := by omega
    have eij : 0 + ((i : Int) + (j : Int)).toNat = i + j := by omega
    have hzz := U32_getD uz (0 + ((i : Int) + (j : Int)).toNat)
    have ez2 := cn_length z
    have hab := mul_bound ha hb
    refine W_seq ?_
    refine wsr ?_
    refine xm rfl rfl rfl rfl ?_
    refine xm rfl rfl rfl rfl ?_
    refine X_op' rfl (A_lenT rfl rfl rfl rfl rfl rfl rfl) ?_
    refine X_op' rfl (A_int rfl rfl rfl ⟨by decide, by decide⟩ rfl) ?_
    refine X_endS ?_
    try dsimp only [St.put, szA, List.length, Nat.reduceAdd]
    refine W_condB rfl (fun hb2 => ?_) (fun hb2 => ?_)
    ·have khb2 := hb2; (try simp only [kb] at khb2)
     refine W_skip ?_
     refine Q_seq ?_
     refine W_seq ?_
     refine W_blk ?_
     refine wsr ?_
     refine xm rfl rfl rfl rfl ?_
     refine X_op' rfl (A_mvM (.inl rfl) rfl) ?_
     refine xm rfl rfl rfl rfl ?_
     refine xm rfl rfl rfl rfl ?_
     refine X_op' rfl (A_int rfl rfl rfl ⟨by decide, by decide⟩ (addI (by omega))) ?_
     refine X_op' rfl (A_ixO rfl rfl rfl rfl rfl rfl rfl (by omega) (by omega)) ?_
     refine X_op' rfl (A_ld rfl rfl rfl (ld_row 0 rfl (by first | omega | (simp only [List.length_set]; omega)) rfl rfl rfl)) ?_
     refine X_op' rfl (A_conv rfl rfl rfl rfl rfl (wU (by omega) (by omega))) ?_
     refine xm rfl rfl rfl rfl ?_
     refine xm rfl rfl rfl rfl ?_
     refine X_op' rfl (A_ixA 0 rfl rfl rfl rfl rfl rfl rfl (by omega) (by omega) rfl rfl) ?_
     refine X_op' rfl (A_ld rfl rfl rfl (ld_ip1 rfl rfl rfl)) ?_
     refine X_op' rfl (A_conv rfl rfl rfl rfl rfl (wU (by omega) (by omega))) ?_
     refine xm rfl rfl rfl rfl ?_
     refine xm rfl rfl rfl rfl ?_
     refine X_op' rfl (A_ixA 0 rfl rfl rfl rfl rfl rfl rfl (by omega) (by omega) rfl rfl) ?_
     refine X_op' rfl (A_ld rfl rfl rfl (ld_ip1 rfl rfl rfl)) ?_
     refine X_op' rfl (A_conv rfl rfl rfl rfl rfl (wU (by omega) (by omega))) ?_
     refine X_op' rfl (A_int rfl rfl rfl ⟨by decide, by decide⟩ (mulU (by omega))) ?_
     refine X_op' rfl (A_int rfl rfl rfl ⟨by decide, by decide⟩ (addU (by omega))) ?_
     refine X_op' rfl (A_int rfl rfl rfl ⟨by decide, by decide⟩ (addU (by omega))) ?_
     refine xa rfl rfl rfl rfl ?_
     refine X_endDS (by kernel_rfl) (by kernel_rfl) ?_
     try dsimp only [St.put, szA, List.length, Nat.reduceAdd]
     refine wsr ?_
     refine X_op' rfl (A_mvM (.inl rfl) rfl) ?_
     refine xm rfl rfl rfl rfl ?_
     refine xm rfl rfl rfl rfl ?_
     refine X_op' rfl (A_int rfl rfl rfl ⟨by decide, by decide⟩ (addI (by omega))) ?_
     refine xm rfl rfl rfl rfl ?_
     refine X_op' rfl (A_conv rfl rfl rfl rfl rfl (wSm _)) ?_
     refine X_op' rfl (A_ixO rfl rfl rfl rfl rfl rfl rfl (by omega) (by omega)) ?_
     refine X_op' rfl (A_stR 0 rfl rfl rfl (V_t rfl) (K_t rfl) rfl rfl (by first | omega | (simp only [List.length_set]; omega)) rfl rfl rfl rfl rfl rfl) ?_
     refine X_endS ?_
     try dsimp only [St.put, szA, List.length, Nat.reduceAdd]
     refine W_reg ?_
     refine xm rfl rfl rfl rfl ?_
     refine X_op' rfl (A_sh rfl rfl rfl shr32) ?_
     refine xa rfl rfl rfl rfl ?_
     refine X_end ?_
     try dsimp only [St.put, szA, List.length, Nat.reduceAdd]
     refine Q_blkN ?_
     refine Q_seq ?_
     refine W_reg ?_
     refine xm rfl rfl rfl rfl ?_
     refine X_op' rfl (A_int rfl rfl rfl ⟨by decide, by decide⟩ (addI (by omega))) ?_
     refine xa rfl rfl rfl rfl ?_
     refine X_end ?_
     try dsimp only [St.put, szA, List.length, Nat.reduceAdd]
     refine ⟨k.length - (j + 1), by omega, j + 1, z.set (0 + ((i : Int) + (j : Int)).toNat) ((c + ((z.getD (0 + ((i : Int) + (j : Int)).toNat) 0) + (l.getD ((i : Int)).toNat 0) * (k.getD ((j : Int)).toNat 0))) % 4294967296), (c + ((z.getD (0 + ((i : Int) + (j : Int)).toNat) 0) + (l.getD ((i : Int)).toNat 0) * (k.getD ((j : Int)).toNat 0))) / 4294967296, by omega, by rw [List.length_set]; exact hz, U32_set uz _ (by omega) (by omega), by omega, by omega, ?_, ?_, Eq.trans (b := st76b l k (z.set (0 + ((i : Int) + (j : Int)).toNat) ((c + ((z.getD (0 + ((i : Int) + (j : Int)).toNat) 0) + (l.getD ((i : Int)).toNat 0) * (k.getD ((j : Int)).toNat 0))) % 4294967296)) ((c + ((z.getD (0 + ((i : Int) + (j : Int)).toNat) 0) + (l.getD ((i : Int)).toNat 0) * (k.getD ((j : Int)).toNat 0))) / 4294967296) (i : Int) ((j : Int) + 1)) (by kernel_rfl) rfl, rfl⟩
     · rw [eij]
       rw [ei] at *
       rw [ej] at *
       rw [eij] at *
       exact mul_step (by omega) hs (by omega)
     · intro t ht
       rw [eij, NumA.getD_set_ne _ _ _ _ (by omega)]
       exact h0 t ht
    ·have khb2 := hb2; (try simp only [kb] at khb2)
     refine W_exit ?_
     refine Q_seqX ?_
     refine Q_rndX ?_
     refine Q_blkE ?_
     refine Q_seq ?_
     refine W_reg ?_
     refine X_op' rfl (A_mvM (.inl rfl) rfl) ?_
     refine xm rfl rfl rfl rfl ?_
     refine xm rfl rfl rfl rfl ?_
     refine X_op' rfl (A_lenT rfl rfl rfl rfl rfl rfl rfl) ?_
     refine X_op' rfl (A_int rfl rfl rfl ⟨by decide, by decide⟩ (addI (by omega))) ?_
     refine xm rfl rfl rfl rfl ?_
     refine X_op' rfl (A_conv rfl rfl rfl rfl rfl (wSm _)) ?_
     refine X_op' rfl (A_ixO rfl rfl rfl rfl rfl rfl rfl (by omega) (by omega)) ?_
     refine X_op' rfl (A_stR 0 rfl rfl rfl (V_t rfl) (K_t rfl) rfl rfl (by first | omega | (simp only [List.length_set]; omega)) rfl rfl rfl rfl rfl rfl) ?_
     refine X_end ?_
     try dsimp only [St.put, szA, List.length, Nat.reduceAdd]
     refine Q_blkN ?_
     refine Q_seq ?_
     refine W_reg ?_
     refine xm rfl rfl rfl rfl ?_
     refine X_op' rfl (A_int rfl rfl rfl ⟨by decide, by decide⟩ (addI (by omega))) ?_
     refine xa rfl rfl rfl rfl ?_
     refine X_end ?_
     try dsimp only [St.put, szA, List.length, Nat.reduceAdd]
     refine ⟨l.length - (i + 1), by omega, i + 1, z.set (0 + ((i : Int) + ((cn k).length : Int)).toNat) (c % 4294967296), by omega, by rw [List.length_set]; exact hz, U32_set uz _ (by omega) (by omega), ?_, ?_, Eq.trans (b := st76 l k (z.set (0 + ((i : Int) + ((cn k).length : Int)).toNat) (c % 4294967296)) ((i : Int) + 1)) (by kernel_rfl) rfl, rfl⟩
     · rw [show 0 + ((i : Int) + ((cn k).length : Int)).toNat = i + k.length by omega, show c % 4294967296 = c by omega]
       rw [show j = k.length by omega] at hs
       rw [ei] at hs
       exact mul_end (by omega) hs (h0 _ (by omega))
     · intro t ht
       rw [show 0 + ((i : Int) + ((cn k).length : Int)).toNat = i + k.length by omega, NumA.getD_set_ne _ _ _ _ (by omega)]
       exact h0 t (by omega)
   ·have khb1 := hb1; (try simp only [kb] at khb1)
    refine W_exit ?_
    refine Q_seqX ?_
    refine Q_rndX ?_
    refine Q_blkE ?_
    refine Q_seq ?_
    refine wsr ?_
    refine X_op' rfl (A_mvM (.inl rfl) rfl) ?_
    refine X_op' rfl (A_callV rfl rfl rfl rfl (.cons (V_m rfl rfl rfl (by rw [cn_length]; exact hz0)) (K_m rfl) .nil) (c90 uz0 (by omega))) ?_
    refine xa rfl rfl rfl rfl ?_
    refine X_endS ?_
    try dsimp only [St.put, szA, List.length, Nat.reduceAdd]
    refine W_ret ?_
    have key : tr z0 = en (nv l * nv k) := by
      rw [tr_eq_en uz0, hs0, List.take_of_length_le (by omega)]
    rw [← key]
    exact end_R rfl (.t rfl .nil)
  exact (if_pos rfl).trans (run _ (by simp only [fu76]; omega) _ rfl)
end Go.Ev.S
/- Binary digits of limb lists. -/
set_option linter.unusedVariables false
set_option maxRecDepth 100000
namespace Go.Ev.S
open NumA Go Go.Ev
theorem P_two (k : Nat) : P k = 2 ^ (32 * k) := by
  unfold P
  rw [Int.pow_mul]
  rfl
theorem drop_div {l : List Int} (h : U32 l) (k : Nat) (hk : k ≤ l.length) : nv l / P k = nv (l.drop k) := by
  have h1 := nv_split l k hk
  have h2 := nv_nonneg (U32_take h k)
  have h3 := nv_lt (U32_take h k)
  rw [List.length_take, Nat.min_eq_left hk] at h3
  have hP := P_pos k
  rw [h1, Int.add_mul_ediv_left _ _ (by omega), Int.ediv_eq_zero_of_lt h2 h3, Int.zero_add]
theorem pow_at (i : Nat) : (2 : Int) ^ i = P (i / 32) * 2 ^ (i % 32) := by
  rw [P_two, ← Int.pow_add]
  congr 1
  omega
theorem div_at (x : Int) (hx : 0 ≤ x) (i : Nat) : x / 2 ^ i = x / P (i / 32) / 2 ^ (i % 32) := by
  rw [pow_at i, Int.ediv_ediv_of_nonneg (by have := P_pos (i / 32); omega)]
theorem bit_digit {l : List Int} (h : U32 l) {i : Nat} (hi : i / 32 < l.length) : l.getD (i / 32) 0 / 2 ^ (i % 32) % 2 = nv l / 2 ^ i % 2 := by
  rw [div_at _ (nv_nonneg h), drop_div h _ (by omega), nv_drop_succ l _ hi]
  have hp := pow_pos' (i % 32)
  have e : (4294967296 : Int) * nv (l.drop (i / 32 + 1)) = 2 ^ (i % 32) * (2 * (2 ^ (31 - i % 32) * nv (l.drop (i / 32 + 1)))) := by
    have h1 : (2 : Int) ^ (i % 32) * (2 * 2 ^ (31 - i % 32)) = 4294967296 := by
      rw [← Int.pow_succ', ← Int.pow_add, show i % 32 + (31 - i % 32 + 1) = 32 by omega]; rfl
    rw [← h1]
    grind
  rw [e, Int.add_mul_ediv_left _ _ (by omega)]
  omega
theorem bit_out {l : List Int} (h : U32 l) {i : Nat} (hi : l.length ≤ i / 32) : nv l / 2 ^ i % 2 = 0 := by
  have h1 := lt_P h hi
  have h2 := nv_nonneg h
  rw [div_at _ h2, Int.ediv_eq_zero_of_lt h2 h1, Int.zero_ediv]
  rfl
theorem bit_le (x : Int) (i : Nat) : x / 2 ^ i % 2 = 0 ∨ x / 2 ^ i % 2 = 1 := by omega
theorem half_bit {x : Int} (hx : 0 ≤ x) (m : Nat) : x / 2 ^ m = 2 * (x / 2 ^ (m + 1)) + x / 2 ^ m % 2 := by
  have : x / 2 ^ (m + 1) = x / 2 ^ m / 2 := by
    rw [Int.pow_succ, Int.ediv_ediv_of_nonneg (by have := pow_pos' m; omega)]
  rw [this]
  omega
theorem bits_step {A1 D b : Int} (hD : 0 < D) (hb : b = 0 ∨ b = 1) (hA : 0 ≤ A1) :
    (2 * (A1 % D) + b < D → (2 * A1 + b) / D = 2 * (A1 / D) ∧ (2 * A1 + b) % D = 2 * (A1 % D) + b) ∧
    (D ≤ 2 * (A1 % D) + b → (2 * A1 + b) / D = 2 * (A1 / D) + 1 ∧ (2 * A1 + b) % D = 2 * (A1 % D) + b - D) := by
  have h1 := Int.emod_add_mul_ediv A1 D
  have h2 := Int.emod_nonneg A1 (show D ≠ 0 by omega)
  have h3 := Int.emod_lt_of_pos A1 hD
  constructor
  · intro h
    refine (Int.ediv_emod_unique hD).2 ⟨?_, by omega, h⟩
    grind
  · intro h
    refine (Int.ediv_emod_unique hD).2 ⟨?_, by omega, by omega⟩
    grind
theorem shlS1 {s : Nat} {k : IntKind} (hs : s < 32) : binV .shl (.int .u32 1) (.int k (s : Int)) = some (.int .u32 (2 ^ s)) := by
  have h1 : min s 32 = s := by omega
  simp only [binV, if_neg (show ¬ ((s : Int) < 0) by omega), Int.toNat_natCast, IntKind.bits, h1, Int.one_mul]
  have h2 := pow_split hs
  have h3 := pow_pos' s
  have h4 := pow_pos' (32 - s)
  have h5 : (2 : Int) ^ s < 4294967296 := by
    have h6 : (2 : Int) ^ (32 - s) = 2 * 2 ^ (31 - s) := by rw [← Int.pow_succ', show 31 - s + 1 = 32 - s by omega]
    have h7 := pow_pos' (31 - s)
    have h8 : 2 * (2 : Int) ^ s ≤ 2 ^ (32 - s) * 2 ^ s := Int.mul_le_mul_of_nonneg_right (by omega) (by omega)
    omega
  rw [wS (by omega) h5]
theorem orS {a : Int} {s : Nat} (hs : s < 32) (h0 : 0 ≤ a) (h1 : a < 4294967296) (h2 : a % 2 ^ (s + 1) = 0) : intBin .or .u32 a (2 ^ s) = some (.int .u32 (a + 2 ^ s)) ∧ a + 2 ^ s < 4294967296 := by
  obtain ⟨x, rfl⟩ := Int.eq_ofNat_of_zero_le h0
  have e : ((2 : Int) ^ s) = ((2 ^ s : Nat) : Int) := by rw [Int.natCast_pow]; rfl
  have e1 : ((2 : Int) ^ (s + 1)) = ((2 ^ (s + 1) : Nat) : Int) := by rw [Int.natCast_pow]; rfl
  rw [e1] at h2
  have hm : x % 2 ^ (s + 1) = 0 := by omega
  obtain ⟨q, hq⟩ : ∃ q, x = 2 ^ (s + 1) * q := ⟨x / 2 ^ (s + 1), by have := Nat.div_add_mod x (2 ^ (s + 1)); omega⟩
  have p0 : 2 ^ s < 2 ^ (s + 1) := by rw [Nat.pow_succ]; have := Nat.two_pow_pos s; omega
  have p1 : 2 ^ (s + 1) * 2 ^ (31 - s) = 4294967296 := by rw [← Nat.pow_add, show s + 1 + (31 - s) = 32 by omega]
  have hq1 : q < 2 ^ (31 - s) := by
    rcases Nat.lt_or_ge q (2 ^ (31 - s)) with h | h
    · exact h
    · exfalso
      have := Nat.mul_le_mul_left (2 ^ (s + 1)) h
      omega
  have hlt : x + 2 ^ (s + 1) ≤ 4294967296 := by
    have := Nat.mul_le_mul_left (2 ^ (s + 1)) (show q + 1 ≤ 2 ^ (31 - s) by omega)
    rw [Nat.mul_add, Nat.mul_one] at this
    omega
  have hor : x ||| 2 ^ s = x + 2 ^ s := by rw [hq]; exact (Nat.two_pow_add_eq_or_of_lt p0 q).symm
  rw [e]
  refine ⟨?_, by omega⟩
  simp only [intBin]
  have h3 : (BitVec.ofInt 32 (x : Int) ||| BitVec.ofInt 32 ((2 ^ s : Nat) : Int)).toNat = x + 2 ^ s := by
    rw [BitVec.ofInt_natCast, BitVec.ofInt_natCast, BitVec.toNat_or, BitVec.toNat_ofNat, BitVec.toNat_ofNat, Nat.mod_eq_of_lt (by omega), Nat.mod_eq_of_lt (by omega), hor]
  show some (Value.int .u32 (IntKind.u32.wrap ((BitVec.ofInt 32 (x : Int) ||| BitVec.ofInt 32 ((2 ^ s : Nat) : Int)).toNat))) = _
  rw [h3, wS (by omega) (by omega)]
  congr 2
/-- The limb at a place below which all digits are 0. -/
theorem limb_mod {z : List Int} (h : U32 z) {m : Nat} (hm : m / 32 < z.length) {Q : Int} (hz : nv z = 2 ^ (m + 1) * Q) : z.getD (m / 32) 0 % 2 ^ (m % 32 + 1) = 0 := by
  have h1 := drop_div h (m / 32) (by omega)
  have hP := P_pos (m / 32)
  have e : (2 : Int) ^ (m + 1) = P (m / 32) * 2 ^ (m % 32 + 1) := by
    rw [Int.pow_succ, pow_at m, Int.pow_succ, Int.mul_assoc]
  rw [hz, e, Int.mul_assoc, Int.mul_ediv_cancel_left _ (by omega), nv_drop_succ z _ hm] at h1
  have e2 : (4294967296 : Int) = 2 ^ (m % 32 + 1) * 2 ^ (31 - m % 32) := by
    rw [← Int.pow_add, show m % 32 + 1 + (31 - m % 32) = 32 by omega]; rfl
  have h3 : z.getD (m / 32) 0 = 2 ^ (m % 32 + 1) * (Q - 2 ^ (31 - m % 32) * nv (z.drop (m / 32 + 1))) := by
    rw [Int.mul_sub, h1]
    have : (4294967296 : Int) * nv (z.drop (m / 32 + 1)) = 2 ^ (m % 32 + 1) * (2 ^ (31 - m % 32) * nv (z.drop (m / 32 + 1))) := by rw [← Int.mul_assoc, ← e2]
    omega
  rw [h3, Int.mul_emod_right]
theorem set_bit {z : List Int} {m : Nat} (hm : m / 32 < z.length) : nv (z.set (m / 32) (z.getD (m / 32) 0 + 2 ^ (m % 32))) = nv z + 2 ^ m := by
  rw [nv_set z _ _ hm, pow_at m]
  congr 2
  omega
theorem bitsN_bounds {l : List Int} (h : U32 l) : 0 ≤ bitsN l ∧ bitsN l ≤ 32 * ((tr l).length : Int) ∧ nv l < 2 ^ (bitsN l).toNat := by
  unfold bitsN
  split
  · rename_i h0
    rw [nv_tr_nil h0]
    refine ⟨by omega, by omega, by decide⟩
  · rename_i h0
    obtain ⟨k, hk⟩ : ∃ k, (tr l).length = k + 1 := ⟨(tr l).length - 1, by omega⟩
    have u := U32_tr h
    have h3 := U32_getD u k
    have h4 := Lib.bitLen_le ((tr l).getD k 0).toNat 32 (by omega) (by omega)
    have h5 := tr_tr_last h (by omega)
    rw [hk, Nat.add_sub_cancel] at h5 ⊢
    have h6 := (Lib.bitLenAux_bounds 64 ((tr l).getD k 0).toNat (by omega) (by omega)).2.2
    change _ < 2 ^ Lib.bitLen _ at h6
    refine ⟨by omega, by omega, ?_⟩
    have e : (32 * (((k + 1 : Nat) : Int) - 1) + (Lib.bitLen ((tr l).getD k 0).toNat : Int)).toNat = 32 * k + Lib.bitLen ((tr l).getD k 0).toNat := by omega
    rw [e, Int.pow_add, ← P_two, ← nv_tr]
    have e2 := nv_take_succ' (tr l) k
    rw [List.take_of_length_le (by omega)] at e2
    have t1 := nv_lt (U32_take u k)
    rw [List.length_take, Nat.min_eq_left (by omega)] at t1
    generalize Lib.bitLen ((tr l).getD k 0).toNat = L at *
    have e3 : ((2 : Int) ^ L) = ((2 ^ L : Nat) : Int) := by rw [Int.natCast_pow]; rfl
    have h7 : (tr l).getD k 0 + 1 ≤ 2 ^ L := by rw [e3]; omega
    have hP := P_pos k
    have h8 : P k * ((tr l).getD k 0 + 1) ≤ P k * 2 ^ L := Int.mul_le_mul_of_nonneg_left h7 (by omega)
    rw [Int.mul_add] at h8
    omega
theorem shrS1 {a : Int} {k : IntKind} : binV .shr (.int .u32 a) (.int k 1) = some (.int .u32 (a / 2)) := by
  have := @shrS a 1 k (by omega)
  simpa using this
theorem bl_half {v : Int} (h0 : 0 < v) (h1 : v < 4294967296) : (Lib.bitLen v.toNat : Int) = 1 + (Lib.bitLen (v / 2).toNat : Int) := by
  have := Lib.bitLen_half v.toNat (by omega) (by omega)
  rw [this, show (v / 2).toNat = v.toNat / 2 by omega]
  omega
theorem bl_zero : Lib.bitLen (0 : Int).toNat = 0 := by decide
end Go.Ev.S
/- The reference of the natural numbers: binary digits, division. -/
set_option linter.unusedVariables false
set_option linter.unusedSimpArgs false
set_option maxRecDepth 100000
namespace Go.Ev.S
open Go Go.Ev Go.Proofs NumA
def st132 (l : List Int) (n v : Int) : St := { tm := [(3, .t (.v (.int .i64 n))), (4, .t (.v (.int .u32 v)))], mm := [], nx := 0 }
def keep132 : Nat → List Nat := fun _ => [3, 4]
noncomputable def sp132 : Nat → Option Spec := (more 90 (viewSpec g90) noneS)
theorem hs132 : ∀ f s, sp132 f = some s → SpecOk Tryz.prog f s := (more_ok s90 none_ok)
noncomputable def fu132 : List T → Nat := fun _ => 4398046511104
noncomputable def g132 : List T → Option Ret := fun ts => if ts.length = 1 then pureRun ty sp132 keep132 (fu132 ts) false Tryz.f132.results (Tryz.f132.body.getD .skip) ts else none
theorem s132 : SpecOk Tryz.prog 132 (viewSpec g132) := pure_ok mixed ty_ok hs132 Tryz.func132 rfl (by kernel_rfl) (enters_of Tryz.func132 (by kernel_rfl) rfl) keep132 fu132 false 1 (by decide)
set_option maxHeartbeats 4000000 in
theorem c132 {l : List Int} (h : U32 l) (hl : l.length ≤ 1099511627776) : g132 [tn l] = some (.ts [.v (.int .i64 (bitsN l))]) := by
  have run : ∀ (fuel : Nat) (hf : 1099511627776 < fuel) (c : Code) (hc : Tryz.f132.body = some c), pureRun ty sp132 keep132 fuel false Tryz.f132.results c [tn l] = some (.ts [.v (.int .i64 (bitsN l))]) := by
   intro fuel hf c hc
   injection hc with hc
   subst hc
   have e1 := cn_length (tr l)
   have b1 := tr_length l
   have u1 := U32_tr h
   have hbb := bitsN_bounds h
   refine pure_wc ?_
   refine wsr ?_
   refine xa rfl rfl rfl rfl ?_
   refine X_endS ?_
   try dsimp only [St.put, szA, List.length, Nat.reduceAdd]
   refine wsr ?_
   refine xm rfl rfl rfl rfl ?_
   refine X_op' rfl (A_callV rfl rfl rfl rfl (.cons (V_t rfl) (K_t rfl) .nil) (c90 (by assumption) (by omega))) ?_
   refine xa rfl rfl rfl rfl ?_
   refine X_endS ?_
   try dsimp only [St.put, szA, List.length, Nat.reduceAdd]
   refine W_seq ?_
   refine wsr ?_
   refine xm rfl rfl rfl rfl ?_
   refine X_op' rfl (A_lenT rfl rfl rfl rfl rfl rfl rfl) ?_
   refine X_op' rfl (A_int rfl rfl rfl ⟨by decide, by decide⟩ rfl) ?_
   refine X_endS ?_
   try dsimp only [St.put, szA, List.length, Nat.reduceAdd]
   refine W_condB rfl (fun hb1 => ?_) (fun hb1 => ?_)
   ·have khb1 := hb1; (try simp only [kb] at khb1)
    refine wsr ?_
    refine xa rfl rfl rfl rfl ?_
    refine X_endS ?_
    try dsimp only [St.put, szA, List.length, Nat.reduceAdd]
    refine W_ret ?_
    refine Q_seqX ?_
    rw [show bitsN l = 0 from if_pos (by omega)]
    exact end_R rfl (.t rfl .nil)
   ·have khb1 := hb1; (try simp only [kb] at khb1)
    refine W_skip ?_
    refine Q_seq ?_
    refine wsr ?_
    refine xm rfl rfl rfl rfl ?_
    refine X_op' rfl (A_lenT rfl rfl rfl rfl rfl rfl rfl) ?_
    refine X_op' rfl (A_int rfl rfl rfl ⟨by decide, by decide⟩ (subI (by omega))) ?_
    refine X_op' rfl (A_int rfl rfl rfl ⟨by decide, by decide⟩ (mulI (by omega))) ?_
    refine xa rfl rfl rfl rfl ?_
    refine X_endS ?_
    try dsimp only [St.put, szA, List.length, Nat.reduceAdd]
    refine W_seq ?_
    refine wsr ?_
    refine xm rfl rfl rfl rfl ?_
    refine xm rfl rfl rfl rfl ?_
    refine X_op' rfl (A_lenT rfl rfl rfl rfl rfl rfl rfl) ?_
    refine X_op' rfl (A_int rfl rfl rfl ⟨by decide, by decide⟩ (subI (by omega))) ?_
    refine X_op' rfl (A_ixA 0 rfl rfl rfl rfl rfl rfl rfl (by omega) (by omega) rfl rfl) ?_
    refine X_op' rfl (A_ld rfl rfl rfl (ld_ip1 rfl rfl rfl)) ?_
    refine xa rfl rfl rfl rfl ?_
    refine X_endS ?_
    try dsimp only [St.put, szA, List.length, Nat.reduceAdd]
    refine W_blk ?_
    refine W_loop (fun nn σ => ∃ n v : Int, 0 ≤ v ∧ v < 4294967296 ∧ 0 ≤ n ∧ n + (Lib.bitLen v.toNat : Int) = bitsN l ∧ σ = st132 l n v ∧ nn = v.toNat) (((tr l).getD (((cn (tr l)).length : Int) - 1).toNat 0).toNat) ?_ ?_ ?_
    rotate_left
    · refine ⟨32 * (((cn (tr l)).length : Int) - 1), (tr l).getD (((cn (tr l)).length : Int) - 1).toNat 0, (U32_getD u1 _).1, (U32_getD u1 _).2, by omega, ?_, by kernel_rfl, rfl⟩
      rw [show (((cn (tr l)).length : Int) - 1).toNat = (tr l).length - 1 by omega]
      unfold bitsN
      rw [if_neg (by omega), e1]
    · have := (U32_getD u1 (((cn (tr l)).length : Int) - 1).toNat).2
      omega
    rintro nn _ ⟨n, v, hv0, hv1, hn0, hs, rfl, hnn⟩
    have hbl0 := bl32 hv0 hv1
    refine W_seq ?_
    refine wsr ?_
    refine xm rfl rfl rfl rfl ?_
    refine X_op' rfl (A_int rfl rfl rfl ⟨by decide, by decide⟩ rfl) ?_
    refine X_endS ?_
    try dsimp only [St.put, szA, List.length, Nat.reduceAdd]
    refine W_condB rfl (fun hb2 => ?_) (fun hb2 => ?_)
    ·have khb2 := hb2; (try simp only [kb] at khb2)
     refine W_skip ?_
     refine Q_seq ?_
     refine W_seq ?_
     refine W_blk ?_
     refine W_reg ?_
     refine xm rfl rfl rfl rfl ?_
     refine X_op' rfl (A_int rfl rfl rfl ⟨by decide, by decide⟩ (addI (by omega))) ?_
     refine xa rfl rfl rfl rfl ?_
     refine X_end ?_
     try dsimp only [St.put, szA, List.length, Nat.reduceAdd]
     refine Q_blkN ?_
     refine Q_seq ?_
     refine W_reg ?_
     refine xm rfl rfl rfl rfl ?_
     refine X_op' rfl (A_sh rfl rfl rfl shrS1) ?_
     refine xa rfl rfl rfl rfl ?_
     refine X_end ?_
     try dsimp only [St.put, szA, List.length, Nat.reduceAdd]
     have hbl := bl_half (v := v) (by omega) hv1
     exact ⟨(v / 2).toNat, by omega, n + 1, v / 2, by omega, by omega, by omega, by omega, by kernel_rfl, rfl⟩
    ·have khb2 := hb2; (try simp only [kb] at khb2)
     refine W_exit ?_
     refine Q_seqX ?_
     refine Q_rndX ?_
     refine Q_blkE ?_
     refine Q_seq ?_
     refine wsr ?_
     refine xm rfl rfl rfl rfl ?_
     refine xa rfl rfl rfl rfl ?_
     refine X_endS ?_
     try dsimp only [St.put, szA, List.length, Nat.reduceAdd]
     refine W_ret ?_
     have hv2 : v = 0 := by omega
     rw [hv2, bl_zero] at hs
     rw [show bitsN l = n by omega]
     exact end_R rfl (.t rfl .nil)
  exact (if_pos rfl).trans (run _ (by simp only [fu132]; omega) _ rfl)
def keep133 : Nat → List Nat := fun _ => []
noncomputable def sp133 : Nat → Option Spec := noneS
theorem hs133 : ∀ f s, sp133 f = some s → SpecOk Tryz.prog f s := none_ok
noncomputable def fu133 : List T → Nat := fun _ => 4398046511104
noncomputable def g133 : List T → Option Ret := fun ts => if ts.length = 2 then pureRun ty sp133 keep133 (fu133 ts) false Tryz.f133.results (Tryz.f133.body.getD .skip) ts else none
theorem s133 : SpecOk Tryz.prog 133 (viewSpec g133) := pure_ok mixed ty_ok hs133 Tryz.func133 rfl (by kernel_rfl) (enters_of Tryz.func133 (by kernel_rfl) rfl) keep133 fu133 false 2 (by decide)
set_option maxHeartbeats 4000000 in
theorem c133 {l : List Int} (h : U32 l) (hl : l.length ≤ 1099511627776) (i : Nat) (hi : i < 4611686018427387904) : g133 [tn l, .v (.int .i64 (i : Int))] = some (.ts [.v (.int .u32 (nv l / 2 ^ i % 2))]) := by
  have run : ∀ (fuel : Nat) (hf : 1099511627776 < fuel) (c : Code) (hc : Tryz.f133.body = some c), pureRun ty sp133 keep133 fuel false Tryz.f133.results c [tn l, .v (.int .i64 (i : Int))] = some (.ts [.v (.int .u32 (nv l / 2 ^ i % 2))]) := by
   intro fuel hf c hc
   injection hc with hc
   subst hc
   have e1 := cn_length l
   refine pure_wc ?_
   refine wsr ?_
   refine xa rfl rfl rfl rfl ?_
   refine X_endS ?_
   try dsimp only [St.put, szA, List.length, Nat.reduceAdd]
   refine W_seq ?_
   refine wsr ?_
   refine xm rfl rfl rfl rfl ?_
   refine X_op' rfl (A_int rfl rfl rfl ⟨by decide, by decide⟩ (quoI (by omega) (by omega) (by omega))) ?_
   refine xm rfl rfl rfl rfl ?_
   refine X_op' rfl (A_lenT rfl rfl rfl rfl rfl rfl rfl) ?_
   refine X_op' rfl (A_int rfl rfl rfl ⟨by decide, by decide⟩ rfl) ?_
   refine X_endS ?_
   try dsimp only [St.put, szA, List.length, Nat.reduceAdd]
   refine W_condB rfl (fun hb1 => ?_) (fun hb1 => ?_)
   ·have khb1 := hb1; (try simp only [kb] at khb1)
    refine wsr ?_
    refine xa rfl rfl rfl rfl ?_
    refine X_endS ?_
    try dsimp only [St.put, szA, List.length, Nat.reduceAdd]
    refine W_ret ?_
    refine Q_seqX ?_
    rw [bit_out h (i := i) (by omega)]
    exact end_R rfl (.t rfl .nil)
   ·have khb1 := hb1; (try simp only [kb] at khb1)
    refine W_skip ?_
    refine Q_seq ?_
    refine wsr ?_
    refine xm rfl rfl rfl rfl ?_
    refine xm rfl rfl rfl rfl ?_
    refine X_op' rfl (A_int rfl rfl rfl ⟨by decide, by decide⟩ (quoI (by omega) (by omega) (by omega))) ?_
    refine X_op' rfl (A_ixA 0 rfl rfl rfl rfl rfl rfl rfl (by omega) (by omega) rfl rfl) ?_
    refine X_op' rfl (A_ld rfl rfl rfl (ld_ip1 rfl rfl rfl)) ?_
    refine xm rfl rfl rfl rfl ?_
    refine X_op' rfl (A_int rfl rfl rfl ⟨by decide, by decide⟩ (remI (by omega) (by omega))) ?_
    refine X_op' rfl (A_conv rfl rfl rfl rfl rfl (show IntKind.u64.wrap ((i : Int) % 32) = ((i % 32 : Nat) : Int) by rw [wU (by omega) (by omega)]; omega)) ?_
    have hdg := U32_getD h ((i : Int) / 32).toNat
    have hq0 : 0 ≤ l.getD ((i : Int) / 32).toNat 0 / 2 ^ (i % 32) := Int.ediv_nonneg hdg.1 (by have := pow_pos' (i % 32); omega)
    have hq1 : l.getD ((i : Int) / 32).toNat 0 / 2 ^ (i % 32) ≤ l.getD ((i : Int) / 32).toNat 0 := Int.ediv_le_self _ hdg.1
    refine X_op' rfl (A_sh rfl rfl rfl (shrS (s := i % 32) (by omega))) ?_
    refine X_op' rfl (A_int rfl rfl rfl ⟨by decide, by decide⟩ (andS1 hq0 (by omega))) ?_
    refine xa rfl rfl rfl rfl ?_
    refine X_endS ?_
    try dsimp only [St.put, szA, List.length, Nat.reduceAdd]
    refine W_ret ?_
    rw [← bit_digit h (i := i) (by omega), show i / 32 = ((i : Int) / 32).toNat by omega]
    exact end_R rfl (.t rfl .nil)
  exact (if_pos rfl).trans (run _ (by simp only [fu133]; omega) _ rfl)
def st91 (a d z : List Int) (x : A) (j : Int) : St := { tm := [(0, .t (tn a)), (1, .t (tn d)), (4, .ms 0 1 0 (cn a).length), (5, x), (11, .t (.v (.int .i64 j)))], mm := [(0, some ⟨61, 1, cn z⟩)], nx := 1 }
theorem u56_ex {l : List Int} (h : U32 l) (hl : l.length ≤ 1099511627776) : ∃ v ok, g56 [tn l] = some (.ts [.v (.int .u64 v), .v (.bool ok)]) ∧ (ok = true → v = nv l ∧ nv l < 18446744073709551616) ∧ (ok = false → 18446744073709551616 ≤ nv l) ∧ 0 ≤ v ∧ v < 18446744073709551616 := by
  have := nv_nonneg h
  by_cases hv : nv l < 18446744073709551616
  · exact ⟨nv l, true, (c56 h (by omega)).trans (by rw [u64R, if_pos hv]), fun _ => ⟨rfl, hv⟩, (fun e => by cases e), this, hv⟩
  · exact ⟨0, false, (c56 h (by omega)).trans (by rw [u64R, if_neg hv]), (fun e => by cases e), fun _ => by omega, by omega, by omega⟩
def keep91 : Nat → List Nat := fun _ => [0, 1, 4, 5, 11]
noncomputable def sp91 : Nat → Option Spec := (more 90 (viewSpec g90) (more 56 (viewSpec g56) (more 77 (viewSpec g77) (more 132 (viewSpec g132) (more 74 (viewSpec g74) (more 133 (viewSpec g133) (more 75 (viewSpec g75) noneS)))))))
theorem hs91 : ∀ f s, sp91 f = some s → SpecOk Tryz.prog f s := (more_ok s90 (more_ok s56 (more_ok s77 (more_ok s132 (more_ok s74 (more_ok s133 (more_ok s75 none_ok)))))))
noncomputable def fu91 : List T → Nat := fun _ => 4398046511104
noncomputable def g91 : List T → Option Ret := fun ts => if ts.length = 2 then pureRun ty sp91 keep91 (fu91 ts) false Tryz.f91.results (Tryz.f91.body.getD .skip) ts else none
theorem s91 : SpecOk Tryz.prog 91 (viewSpec g91) := pure_ok mixed ty_ok hs91 Tryz.func91 rfl (by kernel_rfl) (enters_of Tryz.func91 (by kernel_rfl) rfl) keep91 fu91 false 2 (by decide)
set_option maxHeartbeats 16000000 in
theorem c91 {l k : List Int} (h : U32 l) (hl : l.length ≤ 17179869184) (h' : U32 k) (hk : k.length ≤ 17179869184) : g91 [tn l, tn k] = some (divR l k) := by
  have run : ∀ (fuel : Nat) (hf : 1099511627776 < fuel) (c : Code) (hc : Tryz.f91.body = some c), pureRun ty sp91 keep91 fuel false Tryz.f91.results c [tn l, tn k] = some (divR l k) := by
   intro fuel hf c hc
   injection hc with hc
   subst hc
   have e1 := cn_length l
   have e2 := cn_length (tr k)
   have b1 := tr_length k
   have bl := tr_length l
   have u2 := U32_tr h'
   have e2v := nv_tr k
   have p1 := nv_nonneg h
   have p2 := nv_nonneg h'
   have tk := lt_P h' (Nat.le_refl _)
   have hbb := bitsN_bounds h
   refine pure_wc ?_
   refine wsr ?_
   refine X_op' rfl (A_mv0 (.inr rfl) rfl rfl rfl rfl) ?_
   refine X_op' rfl (A_mv0 (.inr rfl) rfl rfl rfl rfl) ?_
   refine xa rfl rfl rfl rfl ?_
   refine X_endS ?_
   try dsimp only [St.put, szA, List.length, Nat.reduceAdd]
   refine wsr ?_
   refine xm rfl rfl rfl rfl ?_
   refine X_op' rfl (A_callV rfl rfl rfl rfl (.cons (V_t rfl) (K_t rfl) .nil) (c90 (by assumption) (by omega))) ?_
   refine xa rfl rfl rfl rfl ?_
   refine X_endS ?_
   try dsimp only [St.put, szA, List.length, Nat.reduceAdd]
   refine W_seq ?_
   refine wsr ?_
   refine xm rfl rfl rfl rfl ?_
   refine X_op' rfl (A_lenT rfl rfl rfl rfl rfl rfl rfl) ?_
   refine X_op' rfl (A_int rfl rfl rfl ⟨by decide, by decide⟩ rfl) ?_
   refine X_endS ?_
   try dsimp only [St.put, szA, List.length, Nat.reduceAdd]
   refine W_condB rfl (fun hb1 => ?_) (fun hb1 => ?_)
   ·have khb1 := hb1; (try simp only [kb] at khb1)
    refine wsr ?_
    refine X_op' rfl (A_mv0 (.inr rfl) rfl rfl rfl rfl) ?_
    refine X_op' rfl (A_mv0 (.inr rfl) rfl rfl rfl rfl) ?_
    refine xa rfl rfl rfl rfl ?_
    refine X_endS ?_
    try dsimp only [St.put, szA, List.length, Nat.reduceAdd]
    refine W_ret ?_
    refine Q_seqX ?_
    have hk0 : nv k = 0 := nv_tr_nil (by omega)
    rw [show divR l k = .ts [tn [], tn [], .v (.bool false)] from if_pos hk0]
    exact end_R rfl (.n rfl (.n rfl (.t rfl .nil)))
   ·have khb1 := hb1; (try simp only [kb] at khb1)
    refine W_skip ?_
    refine Q_seq ?_
    refine wsr ?_
    have hkz : nv k ≠ 0 := fun e => by have := nv_nil_tr h' e; omega
    have hkp : 0 < nv k := by omega
    obtain ⟨v1, k1, hU1, f1, g1, a1, a2⟩ := u56_ex h (by omega)
    obtain ⟨v2, k2, hU2, f2, g2, a3, a4⟩ := u56_ex u2 (by omega)
    refine xm rfl rfl rfl rfl ?_
    refine X_op' rfl (A_callV rfl rfl rfl rfl (.cons (V_t rfl) (K_t rfl) .nil) hU1) ?_
    refine X_op' rfl (A_mvU (.inl rfl) rfl) ?_
    refine X_op' rfl (A_ext rfl rfl rfl) ?_
    refine X_op' rfl (A_ext rfl rfl rfl) ?_
    refine xa rfl rfl rfl rfl ?_
    refine xa rfl rfl rfl rfl ?_
    refine X_endS ?_
    try dsimp only [St.put, szA, List.length, Nat.reduceAdd]
    refine W_seq ?_
    refine wsr ?_
    refine xm rfl rfl rfl rfl ?_
    refine X_op' rfl (A_callV rfl rfl rfl rfl (.cons (V_t rfl) (K_t rfl) .nil) hU2) ?_
    refine X_op' rfl (A_mvU (.inl rfl) rfl) ?_
    refine X_op' rfl (A_ext rfl rfl rfl) ?_
    refine X_op' rfl (A_ext rfl rfl rfl) ?_
    refine xa rfl rfl rfl rfl ?_
    refine xa rfl rfl rfl rfl ?_
    refine X_endS ?_
    try dsimp only [St.put, szA, List.length, Nat.reduceAdd]
    refine wsr ?_
    refine xm rfl rfl rfl rfl ?_
    refine xm rfl rfl rfl rfl ?_
    refine X_both (d := 30) rfl (fun hb2 => ?_) (fun hb2 => ?_)
    ·have khb2 := hb2; (try simp only [kb] at khb2)
     refine X_yes' rfl rfl rfl hb2 (A_mvT (.inl rfl) rfl rfl) ?_
     refine X_op' rfl (A_pickT rfl rfl hb2 rfl) ?_
     refine X_endS ?_
     try dsimp only [St.put, szA, List.length, Nat.reduceAdd]
     refine W_condB rfl (fun hb3 => ?_) (fun hb3 => ?_)
     ·have khb3 := hb3; (try simp only [kb] at khb3)
      refine wsr ?_
      have z1 := f1 khb2
      have z2 := f2 khb3
      have q0 : 0 ≤ v1 / v2 := Int.ediv_nonneg a1 a3
      have q1 : v1 / v2 ≤ v1 := Int.ediv_le_self _ a1
      have m0 : 0 ≤ v1 % v2 := Int.emod_nonneg _ (by omega)
      have m1 : v1 % v2 < v2 := Int.emod_lt_of_pos _ (by omega)
      refine xm rfl rfl rfl rfl ?_
      refine xm rfl rfl rfl rfl ?_
      refine X_op' rfl (A_int rfl rfl rfl ⟨by decide, by decide⟩ (quoU a1 a2 (by omega))) ?_
      refine X_op' rfl (A_callV rfl rfl rfl rfl (.cons (V_t rfl) (K_t rfl) .nil) (c77 (by omega) (by omega))) ?_
      refine xm rfl rfl rfl rfl ?_
      refine xm rfl rfl rfl rfl ?_
      refine X_op' rfl (A_int rfl rfl rfl ⟨by decide, by decide⟩ (remU a1 (by omega))) ?_
      refine X_op' rfl (A_callV rfl rfl rfl rfl (.cons (V_t rfl) (K_t rfl) .nil) (c77 (by omega) (by omega))) ?_
      refine xa rfl rfl rfl rfl ?_
      refine xa rfl rfl rfl rfl ?_
      refine xa rfl rfl rfl rfl ?_
      refine X_endDS (by kernel_rfl) (by kernel_rfl) ?_
      try dsimp only [St.put, szA, List.length, Nat.reduceAdd]
      refine W_ret ?_
      refine Q_seqX ?_
      rw [show divR l k = .ts [tn (en (v1 / v2)), tn (en (v1 % v2)), .v (.bool true)] by rw [divR, if_neg hkz, z1.1, z2.1, e2v]]
      exact end_R rfl (.t rfl (.t rfl (.t rfl .nil)))
     ·have khb3 := hb3; (try simp only [kb] at khb3)
      refine W_skip ?_
      refine Q_seq ?_
      refine wsr ?_
      refine xm rfl rfl rfl rfl ?_
      refine X_op' rfl (A_lenT rfl rfl rfl rfl rfl rfl rfl) ?_
      refine X_op' rfl (A_make (j := (cn l).length) rfl rfl rfl rfl rfl rfl (by omega) (by first | omega | (simp only [intE, slE, boolE, integerE, rationalE]; omega)) (by omega)) ?_
      refine X_op' rfl (A_mvM (.inr rfl) rfl) ?_
      refine X_endS ?_
      try dsimp only [St.put, szA, List.length, Nat.reduceAdd]
      refine W_seq ?_
      refine wsr ?_
      refine xm rfl rfl rfl rfl ?_
      refine X_op' rfl (A_callV rfl rfl rfl rfl (.cons (V_t rfl) (K_t rfl) .nil) (c132 h (by omega))) ?_
      refine X_op' rfl (A_int rfl rfl rfl ⟨by decide, by decide⟩ (subI (by omega))) ?_
      refine xa rfl rfl rfl rfl ?_
      refine X_endS ?_
      try dsimp only [St.put, szA, List.length, Nat.reduceAdd]
      refine W_blk ?_
      refine W_loop (fun nn σ => ∃ (j : Nat) (z : List Int), j ≤ (bitsN l).toNat ∧ z.length = l.length ∧ U32 z ∧ nv z = 2 ^ j * (nv l / 2 ^ j / nv k) ∧ nn = j ∧ (nv l / 2 ^ j % nv k = 0 ∧ σ = st91 l (tr k) z (.nil 1) ((j : Int) - 1) ∨ σ = st91 l (tr k) z (.t (tn (en (nv l / 2 ^ j % nv k)))) ((j : Int) - 1))) ((bitsN l).toNat) ?_ ?_ (by omega)
      rotate_left
      · refine ⟨(bitsN l).toNat, List.replicate (cn l).length 0, Nat.le_refl _, (by rw [List.length_replicate, e1]), U32_rep _, ?_, rfl, .inl ⟨?_, Eq.trans (b := st91 l (tr k) (List.replicate (cn l).length 0) (.nil 1) (bitsN l - 1)) (by simp only [st91, cn, List.map_replicate]; kernel_rfl) (by rw [show (((bitsN l).toNat : Nat) : Int) = bitsN l by omega])⟩⟩
        · rw [nv_replicate, Int.ediv_eq_zero_of_lt p1 hbb.2.2, Int.zero_ediv, Int.mul_zero]
        · rw [Int.ediv_eq_zero_of_lt p1 hbb.2.2, Int.zero_emod]
      rintro nn _ ⟨j, z, hj, hz, uz, hQ, hnn, ⟨hR0, rfl⟩ | rfl⟩
      ·have ez := cn_length z
       refine W_seq ?_
       refine wsr ?_
       refine xm rfl rfl rfl rfl ?_
       refine X_op' rfl (A_int rfl rfl rfl ⟨by decide, by decide⟩ rfl) ?_
       refine X_endS ?_
       try dsimp only [St.put, szA, List.length, Nat.reduceAdd]
       refine W_condB rfl (fun hb4 => ?_) (fun hb4 => ?_)
       ·have khb4 := hb4; (try simp only [kb] at khb4)
        refine W_skip ?_
        refine Q_seq ?_
        refine W_seq ?_
        refine W_blk ?_
        refine wsr ?_
        obtain ⟨m, rfl⟩ : ∃ m, j = m + 1 := ⟨j - 1, by omega⟩
        rw [show (((m + 1 : Nat) : Int) - 1) = (m : Int) by omega]
        have hA1 : 0 ≤ nv l / 2 ^ (m + 1) := Int.ediv_nonneg p1 (by have := pow_pos' (m + 1); omega)
        have hA0 := half_bit p1 m
        have hr0 := Int.emod_nonneg (nv l / 2 ^ (m + 1)) (show nv k ≠ 0 by omega)
        have hr1 := Int.emod_lt_of_pos (nv l / 2 ^ (m + 1)) hkp
        have lr : (en (nv l / 2 ^ (m + 1) % nv k)).length ≤ k.length := en_length (by omega)
        have lr2 : (en (2 * (nv l / 2 ^ (m + 1) % nv k))).length ≤ k.length + 1 := en_length (by rw [P_succ]; omega)
        have lr3 : (en (2 * (nv l / 2 ^ (m + 1) % nv k) + 1)).length ≤ k.length + 1 := en_length (by rw [P_succ]; omega)
        have hbit := bit_le (nv l) m
        obtain ⟨bv, hbv⟩ : ∃ bv : Int, bv = nv l / 2 ^ m % 2 := ⟨_, rfl⟩
        rw [← hbv] at hA0 hbit
        have hzk : m / 32 < z.length := by omega
        refine X_op' rfl (A_mvN (.inl rfl) rfl) ?_
        refine X_op' rfl (A_mvN (.inl rfl) rfl) ?_
        refine X_op' rfl (A_callV rfl rfl rfl rfl (.cons (V_n rfl) (K_n rfl) (.cons (V_n rfl) (K_n rfl) .nil)) ((c74 (l := []) (k := []) U32_nil (by simp) U32_nil (by simp)).trans (show some (Ret.ts [tn (en (nv [] + nv []))]) = some (Ret.ts [tn (en (2 * (nv l / 2 ^ (m + 1) % nv k)))]) by rw [hR0]; rfl))) ?_
        refine xa rfl rfl rfl rfl ?_
        refine X_endS ?_
        try dsimp only [St.put, szA, List.length, Nat.reduceAdd]
        refine W_seq ?_
        refine wsr ?_
        refine xm rfl rfl rfl rfl ?_
        refine xm rfl rfl rfl rfl ?_
        refine X_op' rfl (A_callV rfl rfl rfl rfl (.cons (V_t rfl) (K_t rfl) (.cons (V_t rfl) (K_t rfl) .nil)) ((c133 h (by omega) m (by omega)).trans (show some (Ret.ts [.v (.int .u32 (nv l / 2 ^ m % 2))]) = some (Ret.ts [.v (.int .u32 bv)]) by rw [hbv]))) ?_
        
        refine X_op' rfl (A_int rfl rfl rfl ⟨by decide, by decide⟩ rfl) ?_
        refine X_endS ?_
        try dsimp only [St.put, szA, List.length, Nat.reduceAdd]
        refine W_condB rfl (fun hb5 => ?_) (fun hb5 => ?_)
        ·have khb5 := hb5; (try simp only [kb] at khb5)
         refine W_reg ?_
         refine xm rfl rfl rfl rfl ?_
         refine X_op' rfl (A_bs rfl rfl rfl rfl rfl (.cons (V_t rfl) (K_t rfl) .nil) rfl rfl (by decide)) ?_
         refine X_op' rfl (A_callV rfl rfl rfl rfl (.cons (V_t rfl) (K_t rfl) (.cons (V_m rfl rfl rfl rfl) (K_m rfl) .nil)) ((c74 (k := [1]) (U32_en _) (by omega) (U32_cons.2 ⟨by omega, U32_nil⟩) (by simp)).trans (show some (Ret.ts [tn (en (nv (en (2 * (nv l / 2 ^ (m + 1) % nv k))) + nv [1]))]) = some (Ret.ts [tn (en (2 * (nv l / 2 ^ (m + 1) % nv k) + 1))]) by rw [nv_en (by omega)]; rfl))) ?_
         refine xa rfl rfl rfl rfl ?_
         refine X_endS ?_
         try dsimp only [St.put, szA, List.length, Nat.reduceAdd]
         refine wsr ?_
         refine xm rfl rfl rfl rfl ?_
         refine xm rfl rfl rfl rfl ?_
         refine X_op' rfl (A_callV rfl rfl rfl rfl (.cons (V_t rfl) (K_t rfl) (.cons (V_t rfl) (K_t rfl) .nil)) ((c75 (U32_en _) (by omega) u2 (by omega)).trans (show some (subR (en (2 * (nv l / 2 ^ (m + 1) % nv k) + 1)) (tr k)) = some (Ret.ts [tn (if nv k ≤ (2 * (nv l / 2 ^ (m + 1) % nv k) + 1) then en ((2 * (nv l / 2 ^ (m + 1) % nv k) + 1) - nv k) else []), .v (.bool (decide (nv k ≤ (2 * (nv l / 2 ^ (m + 1) % nv k) + 1))))]) by rw [subR_eq, nv_en (by omega), e2v]))) ?_
         refine X_op' rfl (A_mvU (.inl rfl) rfl) ?_
         refine X_op' rfl (A_ext rfl rfl rfl) ?_
         refine X_op' rfl (A_ext rfl rfl rfl) ?_
         refine xa rfl rfl rfl rfl ?_
         refine xa rfl rfl rfl rfl ?_
         refine X_endS ?_
         try dsimp only [St.put, szA, List.length, Nat.reduceAdd]
         refine wsr ?_
         refine xm rfl rfl rfl rfl ?_
         refine X_endS ?_
         try dsimp only [St.put, szA, List.length, Nat.reduceAdd]
         refine W_condB rfl (fun hb6 => ?_) (fun hb6 => ?_)
         ·have khb6 := hb6; (try simp only [kb] at khb6)
          refine wsr ?_
          refine xm rfl rfl rfl rfl ?_
          refine xa rfl rfl rfl rfl ?_
          refine X_endS ?_
          try dsimp only [St.put, szA, List.length, Nat.reduceAdd]
          refine W_reg ?_
          refine X_op' rfl (A_mvM (.inl rfl) rfl) ?_
          refine xm rfl rfl rfl rfl ?_
          refine X_op' rfl (A_int rfl rfl rfl ⟨by decide, by decide⟩ (quoI (by omega) (by omega) (by omega))) ?_
          refine X_op' rfl (A_ixO rfl rfl rfl rfl rfl rfl rfl (by omega) (by omega)) ?_
          refine X_op' rfl (A_ld rfl rfl rfl (ld_row 0 rfl (by first | omega | (simp only [List.length_set]; omega)) rfl rfl rfl)) ?_
          refine xm rfl rfl rfl rfl ?_
          refine X_op' rfl (A_int rfl rfl rfl ⟨by decide, by decide⟩ (remI (by omega) (by omega))) ?_
          refine X_op' rfl (A_conv rfl rfl rfl rfl rfl (show IntKind.u64.wrap ((m : Int) % 32) = ((m % 32 : Nat) : Int) by rw [wU (by omega) (by omega)]; omega)) ?_
          refine X_op' rfl (A_sh rfl rfl rfl (shlS1 (by omega))) ?_
          have hzm := limb_mod uz hzk hQ
          have hzd := U32_getD uz (m / 32)
          obtain ⟨hor, hlt⟩ := orS (s := m % 32) (by omega) hzd.1 hzd.2 hzm
          rw [show m / 32 = 0 + ((m : Int) / 32).toNat by omega] at hor
          refine X_op' rfl (A_int rfl rfl rfl ⟨by decide, by decide⟩ hor) ?_
          refine X_op' rfl (A_ixO rfl rfl rfl rfl rfl rfl rfl (by omega) (by omega)) ?_
          refine X_op' rfl (A_stR 0 rfl rfl rfl (V_t rfl) (K_t rfl) rfl rfl (by first | omega | (simp only [List.length_set]; omega)) rfl rfl rfl rfl rfl rfl) ?_
          refine X_end ?_
          try dsimp only [St.put, szA, List.length, Nat.reduceAdd]
          refine Q_blkN ?_
          refine Q_seq ?_
          refine W_reg ?_
          refine xm rfl rfl rfl rfl ?_
          refine X_op' rfl (A_int rfl rfl rfl ⟨by decide, by decide⟩ (subI (by omega))) ?_
          refine xa rfl rfl rfl rfl ?_
          refine X_end ?_
          try dsimp only [St.put, szA, List.length, Nat.reduceAdd]
          have hst := (bits_step (A1 := nv l / 2 ^ (m + 1)) (b := 1) hkp (by omega) hA1).2 (by omega)
          
          have hA9 : nv l / 2 ^ m = 2 * (nv l / 2 ^ (m + 1)) + 1 := by omega
          rw [← hA9] at hst
          have hze : (z.set (0 + ((m : Int) / 32).toNat) (z.getD (0 + ((m : Int) / 32).toNat) 0 + 2 ^ (m % 32))) = z.set (m / 32) (z.getD (m / 32) 0 + 2 ^ (m % 32)) := by rw [show 0 + ((m : Int) / 32).toNat = m / 32 by omega]
          refine ⟨m, by omega, m, z.set (m / 32) (z.getD (m / 32) 0 + 2 ^ (m % 32)), by omega, by rw [List.length_set]; exact hz, U32_set uz _ (by have := pow_pos' (m % 32); have := U32_getD uz (m / 32); omega) hlt, ?_, rfl, .inr (Eq.trans (b := st91 l (tr k) (z.set (0 + ((m : Int) / 32).toNat) (z.getD (0 + ((m : Int) / 32).toNat) 0 + 2 ^ (m % 32))) (.t (tn (if nv k ≤ (2 * (nv l / 2 ^ (m + 1) % nv k) + 1) then en ((2 * (nv l / 2 ^ (m + 1) % nv k) + 1) - nv k) else []))) ((m : Int) - 1)) (by kernel_rfl) (by rw [(if_pos (by omega) : (if nv k ≤ (2 * (nv l / 2 ^ (m + 1) % nv k) + 1) then en ((2 * (nv l / 2 ^ (m + 1) % nv k) + 1) - nv k) else []) = en ((2 * (nv l / 2 ^ (m + 1) % nv k) + 1) - nv k)), hze, hst.2]))⟩
          rw [set_bit hzk, hQ, hst.1, Int.pow_succ]
          grind
         ·have khb6 := hb6; (try simp only [kb] at khb6)
          refine W_skip ?_
          refine Q_blkN ?_
          refine Q_seq ?_
          refine W_reg ?_
          refine xm rfl rfl rfl rfl ?_
          refine X_op' rfl (A_int rfl rfl rfl ⟨by decide, by decide⟩ (subI (by omega))) ?_
          refine xa rfl rfl rfl rfl ?_
          refine X_end ?_
          try dsimp only [St.put, szA, List.length, Nat.reduceAdd]
          have hst := (bits_step (A1 := nv l / 2 ^ (m + 1)) (b := 1) hkp (by omega) hA1).1 (by omega)
          
          have hA9 : nv l / 2 ^ m = 2 * (nv l / 2 ^ (m + 1)) + 1 := by omega
          rw [← hA9] at hst
          refine ⟨m, by omega, m, z, by omega, hz, uz, ?_, rfl, .inr (Eq.trans (b := st91 l (tr k) z (.t (tn (en (2 * (nv l / 2 ^ (m + 1) % nv k) + 1)))) ((m : Int) - 1)) (by kernel_rfl) (by rw [hst.2]))⟩
          rw [hQ, hst.1, Int.pow_succ]
          grind
        ·have khb5 := hb5; (try simp only [kb] at khb5)
         refine W_skip ?_
         refine Q_seq ?_
         refine wsr ?_
         refine xm rfl rfl rfl rfl ?_
         refine xm rfl rfl rfl rfl ?_
         refine X_op' rfl (A_callV rfl rfl rfl rfl (.cons (V_t rfl) (K_t rfl) (.cons (V_t rfl) (K_t rfl) .nil)) ((c75 (U32_en _) (by omega) u2 (by omega)).trans (show some (subR (en (2 * (nv l / 2 ^ (m + 1) % nv k))) (tr k)) = some (Ret.ts [tn (if nv k ≤ (2 * (nv l / 2 ^ (m + 1) % nv k)) then en ((2 * (nv l / 2 ^ (m + 1) % nv k)) - nv k) else []), .v (.bool (decide (nv k ≤ (2 * (nv l / 2 ^ (m + 1) % nv k)))))]) by rw [subR_eq, nv_en (by omega), e2v]))) ?_
         refine X_op' rfl (A_mvU (.inl rfl) rfl) ?_
         refine X_op' rfl (A_ext rfl rfl rfl) ?_
         refine X_op' rfl (A_ext rfl rfl rfl) ?_
         refine xa rfl rfl rfl rfl ?_
         refine xa rfl rfl rfl rfl ?_
         refine X_endS ?_
         try dsimp only [St.put, szA, List.length, Nat.reduceAdd]
         refine wsr ?_
         refine xm rfl rfl rfl rfl ?_
         refine X_endS ?_
         try dsimp only [St.put, szA, List.length, Nat.reduceAdd]
         refine W_condB rfl (fun hb7 => ?_) (fun hb7 => ?_)
         ·have khb7 := hb7; (try simp only [kb] at khb7)
          refine wsr ?_
          refine xm rfl rfl rfl rfl ?_
          refine xa rfl rfl rfl rfl ?_
          refine X_endS ?_
          try dsimp only [St.put, szA, List.length, Nat.reduceAdd]
          refine W_reg ?_
          refine X_op' rfl (A_mvM (.inl rfl) rfl) ?_
          refine xm rfl rfl rfl rfl ?_
          refine X_op' rfl (A_int rfl rfl rfl ⟨by decide, by decide⟩ (quoI (by omega) (by omega) (by omega))) ?_
          refine X_op' rfl (A_ixO rfl rfl rfl rfl rfl rfl rfl (by omega) (by omega)) ?_
          refine X_op' rfl (A_ld rfl rfl rfl (ld_row 0 rfl (by first | omega | (simp only [List.length_set]; omega)) rfl rfl rfl)) ?_
          refine xm rfl rfl rfl rfl ?_
          refine X_op' rfl (A_int rfl rfl rfl ⟨by decide, by decide⟩ (remI (by omega) (by omega))) ?_
          refine X_op' rfl (A_conv rfl rfl rfl rfl rfl (show IntKind.u64.wrap ((m : Int) % 32) = ((m % 32 : Nat) : Int) by rw [wU (by omega) (by omega)]; omega)) ?_
          refine X_op' rfl (A_sh rfl rfl rfl (shlS1 (by omega))) ?_
          have hzm := limb_mod uz hzk hQ
          have hzd := U32_getD uz (m / 32)
          obtain ⟨hor, hlt⟩ := orS (s := m % 32) (by omega) hzd.1 hzd.2 hzm
          rw [show m / 32 = 0 + ((m : Int) / 32).toNat by omega] at hor
          refine X_op' rfl (A_int rfl rfl rfl ⟨by decide, by decide⟩ hor) ?_
          refine X_op' rfl (A_ixO rfl rfl rfl rfl rfl rfl rfl (by omega) (by omega)) ?_
          refine X_op' rfl (A_stR 0 rfl rfl rfl (V_t rfl) (K_t rfl) rfl rfl (by first | omega | (simp only [List.length_set]; omega)) rfl rfl rfl rfl rfl rfl) ?_
          refine X_end ?_
          try dsimp only [St.put, szA, List.length, Nat.reduceAdd]
          refine Q_blkN ?_
          refine Q_seq ?_
          refine W_reg ?_
          refine xm rfl rfl rfl rfl ?_
          refine X_op' rfl (A_int rfl rfl rfl ⟨by decide, by decide⟩ (subI (by omega))) ?_
          refine xa rfl rfl rfl rfl ?_
          refine X_end ?_
          try dsimp only [St.put, szA, List.length, Nat.reduceAdd]
          have hst := (bits_step (A1 := nv l / 2 ^ (m + 1)) (b := 0) hkp (by omega) hA1).2 (by omega)
          simp only [Int.add_zero] at hst
          have hA9 : nv l / 2 ^ m = 2 * (nv l / 2 ^ (m + 1)) := by omega
          rw [← hA9] at hst
          have hze : (z.set (0 + ((m : Int) / 32).toNat) (z.getD (0 + ((m : Int) / 32).toNat) 0 + 2 ^ (m % 32))) = z.set (m / 32) (z.getD (m / 32) 0 + 2 ^ (m % 32)) := by rw [show 0 + ((m : Int) / 32).toNat = m / 32 by omega]
          refine ⟨m, by omega, m, z.set (m / 32) (z.getD (m / 32) 0 + 2 ^ (m % 32)), by omega, by rw [List.length_set]; exact hz, U32_set uz _ (by have := pow_pos' (m % 32); have := U32_getD uz (m / 32); omega) hlt, ?_, rfl, .inr (Eq.trans (b := st91 l (tr k) (z.set (0 + ((m : Int) / 32).toNat) (z.getD (0 + ((m : Int) / 32).toNat) 0 + 2 ^ (m % 32))) (.t (tn (if nv k ≤ (2 * (nv l / 2 ^ (m + 1) % nv k)) then en ((2 * (nv l / 2 ^ (m + 1) % nv k)) - nv k) else []))) ((m : Int) - 1)) (by kernel_rfl) (by rw [(if_pos (by omega) : (if nv k ≤ (2 * (nv l / 2 ^ (m + 1) % nv k)) then en ((2 * (nv l / 2 ^ (m + 1) % nv k)) - nv k) else []) = en ((2 * (nv l / 2 ^ (m + 1) % nv k)) - nv k)), hze, hst.2]))⟩
          rw [set_bit hzk, hQ, hst.1, Int.pow_succ]
          grind
         ·have khb7 := hb7; (try simp only [kb] at khb7)
          refine W_skip ?_
          refine Q_blkN ?_
          refine Q_seq ?_
          refine W_reg ?_
          refine xm rfl rfl rfl rfl ?_
          refine X_op' rfl (A_int rfl rfl rfl ⟨by decide, by decide⟩ (subI (by omega))) ?_
          refine xa rfl rfl rfl rfl ?_
          refine X_end ?_
          try dsimp only [St.put, szA, List.length, Nat.reduceAdd]
          have hst := (bits_step (A1 := nv l / 2 ^ (m + 1)) (b := 0) hkp (by omega) hA1).1 (by omega)
          simp only [Int.add_zero] at hst
          have hA9 : nv l / 2 ^ m = 2 * (nv l / 2 ^ (m + 1)) := by omega
          rw [← hA9] at hst
          refine ⟨m, by omega, m, z, by omega, hz, uz, ?_, rfl, .inr (Eq.trans (b := st91 l (tr k) z (.t (tn (en (2 * (nv l / 2 ^ (m + 1) % nv k))))) ((m : Int) - 1)) (by kernel_rfl) (by rw [hst.2]))⟩
          rw [hQ, hst.1, Int.pow_succ]
          grind
       ·have khb4 := hb4; (try simp only [kb] at khb4)
        refine W_exit ?_
        refine Q_seqX ?_
        refine Q_rndX ?_
        refine Q_blkE ?_
        refine Q_seq ?_
        refine wsr ?_
        have hj0 : j = 0 := by omega
        subst hj0
        refine X_op' rfl (A_mvM (.inl rfl) rfl) ?_
        refine X_op' rfl (A_callV rfl rfl rfl rfl (.cons (V_m rfl rfl rfl (by rw [cn_length, hz]; exact e1.symm)) (K_m rfl) .nil) (c90 uz (by omega))) ?_
        refine X_op' rfl (A_mvN (.inl rfl) rfl) ?_
        refine X_op' rfl (A_callV rfl rfl rfl rfl (.cons (V_n rfl) (K_n rfl) .nil) (c90 (l := []) U32_nil (by simp))) ?_
        refine xa rfl rfl rfl rfl ?_
        refine xa rfl rfl rfl rfl ?_
        refine xa rfl rfl rfl rfl ?_
        refine X_endS ?_
        try dsimp only [St.put, szA, List.length, Nat.reduceAdd]
        refine W_ret ?_
        rw [Int.pow_zero, Int.one_mul, Int.ediv_one] at hQ
        rw [Int.pow_zero, Int.ediv_one] at hR0
        have hr : divR l k = .ts [tn (tr z), tn (tr []), .v (.bool true)] := by
          rw [divR, if_neg hkz, tr_eq_en uz, hQ, hR0, en_zero]; rfl
        rw [hr]
        exact end_R rfl (.t rfl (.t rfl (.t rfl .nil)))
      ·have ez := cn_length z
       refine W_seq ?_
       refine wsr ?_
       refine xm rfl rfl rfl rfl ?_
       refine X_op' rfl (A_int rfl rfl rfl ⟨by decide, by decide⟩ rfl) ?_
       refine X_endS ?_
       try dsimp only [St.put, szA, List.length, Nat.reduceAdd]
       refine W_condB rfl (fun hb8 => ?_) (fun hb8 => ?_)
       ·have khb8 := hb8; (try simp only [kb] at khb8)
        refine W_skip ?_
        refine Q_seq ?_
        refine W_seq ?_
        refine W_blk ?_
        refine wsr ?_
        obtain ⟨m, rfl⟩ : ∃ m, j = m + 1 := ⟨j - 1, by omega⟩
        rw [show (((m + 1 : Nat) : Int) - 1) = (m : Int) by omega]
        have hA1 : 0 ≤ nv l / 2 ^ (m + 1) := Int.ediv_nonneg p1 (by have := pow_pos' (m + 1); omega)
        have hA0 := half_bit p1 m
        have hr0 := Int.emod_nonneg (nv l / 2 ^ (m + 1)) (show nv k ≠ 0 by omega)
        have hr1 := Int.emod_lt_of_pos (nv l / 2 ^ (m + 1)) hkp
        have lr : (en (nv l / 2 ^ (m + 1) % nv k)).length ≤ k.length := en_length (by omega)
        have lr2 : (en (2 * (nv l / 2 ^ (m + 1) % nv k))).length ≤ k.length + 1 := en_length (by rw [P_succ]; omega)
        have lr3 : (en (2 * (nv l / 2 ^ (m + 1) % nv k) + 1)).length ≤ k.length + 1 := en_length (by rw [P_succ]; omega)
        have hbit := bit_le (nv l) m
        obtain ⟨bv, hbv⟩ : ∃ bv : Int, bv = nv l / 2 ^ m % 2 := ⟨_, rfl⟩
        rw [← hbv] at hA0 hbit
        have hzk : m / 32 < z.length := by omega
        refine xm rfl rfl rfl rfl ?_
        refine xm rfl rfl rfl rfl ?_
        refine X_op' rfl (A_callV rfl rfl rfl rfl (.cons (V_t rfl) (K_t rfl) (.cons (V_t rfl) (K_t rfl) .nil)) ((c74 (U32_en _) (by omega) (U32_en _) (by omega)).trans (show some (Ret.ts [tn (en (nv (en (nv l / 2 ^ (m + 1) % nv k)) + nv (en (nv l / 2 ^ (m + 1) % nv k))))]) = some (Ret.ts [tn (en (2 * (nv l / 2 ^ (m + 1) % nv k)))]) by rw [nv_en hr0, show (nv l / 2 ^ (m + 1) % nv k) + (nv l / 2 ^ (m + 1) % nv k) = 2 * (nv l / 2 ^ (m + 1) % nv k) by omega]))) ?_
        refine xa rfl rfl rfl rfl ?_
        refine X_endS ?_
        try dsimp only [St.put, szA, List.length, Nat.reduceAdd]
        refine W_seq ?_
        refine wsr ?_
        refine xm rfl rfl rfl rfl ?_
        refine xm rfl rfl rfl rfl ?_
        refine X_op' rfl (A_callV rfl rfl rfl rfl (.cons (V_t rfl) (K_t rfl) (.cons (V_t rfl) (K_t rfl) .nil)) ((c133 h (by omega) m (by omega)).trans (show some (Ret.ts [.v (.int .u32 (nv l / 2 ^ m % 2))]) = some (Ret.ts [.v (.int .u32 bv)]) by rw [hbv]))) ?_
        
        refine X_op' rfl (A_int rfl rfl rfl ⟨by decide, by decide⟩ rfl) ?_
        refine X_endS ?_
        try dsimp only [St.put, szA, List.length, Nat.reduceAdd]
        refine W_condB rfl (fun hb9 => ?_) (fun hb9 => ?_)
        ·have khb9 := hb9; (try simp only [kb] at khb9)
         refine W_reg ?_
         refine xm rfl rfl rfl rfl ?_
         refine X_op' rfl (A_bs rfl rfl rfl rfl rfl (.cons (V_t rfl) (K_t rfl) .nil) rfl rfl (by decide)) ?_
         refine X_op' rfl (A_callV rfl rfl rfl rfl (.cons (V_t rfl) (K_t rfl) (.cons (V_m rfl rfl rfl rfl) (K_m rfl) .nil)) ((c74 (k := [1]) (U32_en _) (by omega) (U32_cons.2 ⟨by omega, U32_nil⟩) (by simp)).trans (show some (Ret.ts [tn (en (nv (en (2 * (nv l / 2 ^ (m + 1) % nv k))) + nv [1]))]) = some (Ret.ts [tn (en (2 * (nv l / 2 ^ (m + 1) % nv k) + 1))]) by rw [nv_en (by omega)]; rfl))) ?_
         refine xa rfl rfl rfl rfl ?_
         refine X_endS ?_
         try dsimp only [St.put, szA, List.length, Nat.reduceAdd]
         refine wsr ?_
         refine xm rfl rfl rfl rfl ?_
         refine xm rfl rfl rfl rfl ?_
         refine X_op' rfl (A_callV rfl rfl rfl rfl (.cons (V_t rfl) (K_t rfl) (.cons (V_t rfl) (K_t rfl) .nil)) ((c75 (U32_en _) (by omega) u2 (by omega)).trans (show some (subR (en (2 * (nv l / 2 ^ (m + 1) % nv k) + 1)) (tr k)) = some (Ret.ts [tn (if nv k ≤ (2 * (nv l / 2 ^ (m + 1) % nv k) + 1) then en ((2 * (nv l / 2 ^ (m + 1) % nv k) + 1) - nv k) else []), .v (.bool (decide (nv k ≤ (2 * (nv l / 2 ^ (m + 1) % nv k) + 1))))]) by rw [subR_eq, nv_en (by omega), e2v]))) ?_
         refine X_op' rfl (A_mvU (.inl rfl) rfl) ?_
         refine X_op' rfl (A_ext rfl rfl rfl) ?_
         refine X_op' rfl (A_ext rfl rfl rfl) ?_
         refine xa rfl rfl rfl rfl ?_
         refine xa rfl rfl rfl rfl ?_
         refine X_endS ?_
         try dsimp only [St.put, szA, List.length, Nat.reduceAdd]
         refine wsr ?_
         refine xm rfl rfl rfl rfl ?_
         refine X_endS ?_
         try dsimp only [St.put, szA, List.length, Nat.reduceAdd]
         refine W_condB rfl (fun hb10 => ?_) (fun hb10 => ?_)
         ·have khb10 := hb10; (try simp only [kb] at khb10)
          refine wsr ?_
          refine xm rfl rfl rfl rfl ?_
          refine xa rfl rfl rfl rfl ?_
          refine X_endS ?_
          try dsimp only [St.put, szA, List.length, Nat.reduceAdd]
          refine W_reg ?_
          refine X_op' rfl (A_mvM (.inl rfl) rfl) ?_
          refine xm rfl rfl rfl rfl ?_
          refine X_op' rfl (A_int rfl rfl rfl ⟨by decide, by decide⟩ (quoI (by omega) (by omega) (by omega))) ?_
          refine X_op' rfl (A_ixO rfl rfl rfl rfl rfl rfl rfl (by omega) (by omega)) ?_
          refine X_op' rfl (A_ld rfl rfl rfl (ld_row 0 rfl (by first | omega | (simp only [List.length_set]; omega)) rfl rfl rfl)) ?_
          refine xm rfl rfl rfl rfl ?_
          refine X_op' rfl (A_int rfl rfl rfl ⟨by decide, by decide⟩ (remI (by omega) (by omega))) ?_
          refine X_op' rfl (A_conv rfl rfl rfl rfl rfl (show IntKind.u64.wrap ((m : Int) % 32) = ((m % 32 : Nat) : Int) by rw [wU (by omega) (by omega)]; omega)) ?_
          refine X_op' rfl (A_sh rfl rfl rfl (shlS1 (by omega))) ?_
          have hzm := limb_mod uz hzk hQ
          have hzd := U32_getD uz (m / 32)
          obtain ⟨hor, hlt⟩ := orS (s := m % 32) (by omega) hzd.1 hzd.2 hzm
          rw [show m / 32 = 0 + ((m : Int) / 32).toNat by omega] at hor
          refine X_op' rfl (A_int rfl rfl rfl ⟨by decide, by decide⟩ hor) ?_
          refine X_op' rfl (A_ixO rfl rfl rfl rfl rfl rfl rfl (by omega) (by omega)) ?_
          refine X_op' rfl (A_stR 0 rfl rfl rfl (V_t rfl) (K_t rfl) rfl rfl (by first | omega | (simp only [List.length_set]; omega)) rfl rfl rfl rfl rfl rfl) ?_
          refine X_end ?_
          try dsimp only [St.put, szA, List.length, Nat.reduceAdd]
          refine Q_blkN ?_
          refine Q_seq ?_
          refine W_reg ?_
          refine xm rfl rfl rfl rfl ?_
          refine X_op' rfl (A_int rfl rfl rfl ⟨by decide, by decide⟩ (subI (by omega))) ?_
          refine xa rfl rfl rfl rfl ?_
          refine X_end ?_
          try dsimp only [St.put, szA, List.length, Nat.reduceAdd]
          have hst := (bits_step (A1 := nv l / 2 ^ (m + 1)) (b := 1) hkp (by omega) hA1).2 (by omega)
          
          have hA9 : nv l / 2 ^ m = 2 * (nv l / 2 ^ (m + 1)) + 1 := by omega
          rw [← hA9] at hst
          have hze : (z.set (0 + ((m : Int) / 32).toNat) (z.getD (0 + ((m : Int) / 32).toNat) 0 + 2 ^ (m % 32))) = z.set (m / 32) (z.getD (m / 32) 0 + 2 ^ (m % 32)) := by rw [show 0 + ((m : Int) / 32).toNat = m / 32 by omega]
          refine ⟨m, by omega, m, z.set (m / 32) (z.getD (m / 32) 0 + 2 ^ (m % 32)), by omega, by rw [List.length_set]; exact hz, U32_set uz _ (by have := pow_pos' (m % 32); have := U32_getD uz (m / 32); omega) hlt, ?_, rfl, .inr (Eq.trans (b := st91 l (tr k) (z.set (0 + ((m : Int) / 32).toNat) (z.getD (0 + ((m : Int) / 32).toNat) 0 + 2 ^ (m % 32))) (.t (tn (if nv k ≤ (2 * (nv l / 2 ^ (m + 1) % nv k) + 1) then en ((2 * (nv l / 2 ^ (m + 1) % nv k) + 1) - nv k) else []))) ((m : Int) - 1)) (by kernel_rfl) (by rw [(if_pos (by omega) : (if nv k ≤ (2 * (nv l / 2 ^ (m + 1) % nv k) + 1) then en ((2 * (nv l / 2 ^ (m + 1) % nv k) + 1) - nv k) else []) = en ((2 * (nv l / 2 ^ (m + 1) % nv k) + 1) - nv k)), hze, hst.2]))⟩
          rw [set_bit hzk, hQ, hst.1, Int.pow_succ]
          grind
         ·have khb10 := hb10; (try simp only [kb] at khb10)
          refine W_skip ?_
          refine Q_blkN ?_
          refine Q_seq ?_
          refine W_reg ?_
          refine xm rfl rfl rfl rfl ?_
          refine X_op' rfl (A_int rfl rfl rfl ⟨by decide, by decide⟩ (subI (by omega))) ?_
          refine xa rfl rfl rfl rfl ?_
          refine X_end ?_
          try dsimp only [St.put, szA, List.length, Nat.reduceAdd]
          have hst := (bits_step (A1 := nv l / 2 ^ (m + 1)) (b := 1) hkp (by omega) hA1).1 (by omega)
          
          have hA9 : nv l / 2 ^ m = 2 * (nv l / 2 ^ (m + 1)) + 1 := by omega
          rw [← hA9] at hst
          refine ⟨m, by omega, m, z, by omega, hz, uz, ?_, rfl, .inr (Eq.trans (b := st91 l (tr k) z (.t (tn (en (2 * (nv l / 2 ^ (m + 1) % nv k) + 1)))) ((m : Int) - 1)) (by kernel_rfl) (by rw [hst.2]))⟩
          rw [hQ, hst.1, Int.pow_succ]
          grind
        ·have khb9 := hb9; (try simp only [kb] at khb9)
         refine W_skip ?_
         refine Q_seq ?_
         refine wsr ?_
         refine xm rfl rfl rfl rfl ?_
         refine xm rfl rfl rfl rfl ?_
         refine X_op' rfl (A_callV rfl rfl rfl rfl (.cons (V_t rfl) (K_t rfl) (.cons (V_t rfl) (K_t rfl) .nil)) ((c75 (U32_en _) (by omega) u2 (by omega)).trans (show some (subR (en (2 * (nv l / 2 ^ (m + 1) % nv k))) (tr k)) = some (Ret.ts [tn (if nv k ≤ (2 * (nv l / 2 ^ (m + 1) % nv k)) then en ((2 * (nv l / 2 ^ (m + 1) % nv k)) - nv k) else []), .v (.bool (decide (nv k ≤ (2 * (nv l / 2 ^ (m + 1) % nv k)))))]) by rw [subR_eq, nv_en (by omega), e2v]))) ?_
         refine X_op' rfl (A_mvU (.inl rfl) rfl) ?_
         refine X_op' rfl (A_ext rfl rfl rfl) ?_
         refine X_op' rfl (A_ext rfl rfl rfl) ?_
         refine xa rfl rfl rfl rfl ?_
         refine xa rfl rfl rfl rfl ?_
         refine X_endS ?_
         try dsimp only [St.put, szA, List.length, Nat.reduceAdd]
         refine wsr ?_
         refine xm rfl rfl rfl rfl ?_
         refine X_endS ?_
         try dsimp only [St.put, szA, List.length, Nat.reduceAdd]
         refine W_condB rfl (fun hb11 => ?_) (fun hb11 => ?_)
         ·have khb11 := hb11; (try simp only [kb] at khb11)
          refine wsr ?_
          refine xm rfl rfl rfl rfl ?_
          refine xa rfl rfl rfl rfl ?_
          refine X_endS ?_
          try dsimp only [St.put, szA, List.length, Nat.reduceAdd]
          refine W_reg ?_
          refine X_op' rfl (A_mvM (.inl rfl) rfl) ?_
          refine xm rfl rfl rfl rfl ?_
          refine X_op' rfl (A_int rfl rfl rfl ⟨by decide, by decide⟩ (quoI (by omega) (by omega) (by omega))) ?_
          refine X_op' rfl (A_ixO rfl rfl rfl rfl rfl rfl rfl (by omega) (by omega)) ?_
          refine X_op' rfl (A_ld rfl rfl rfl (ld_row 0 rfl (by first | omega | (simp only [List.length_set]; omega)) rfl rfl rfl)) ?_
          refine xm rfl rfl rfl rfl ?_
          refine X_op' rfl (A_int rfl rfl rfl ⟨by decide, by decide⟩ (remI (by omega) (by omega))) ?_
          refine X_op' rfl (A_conv rfl rfl rfl rfl rfl (show IntKind.u64.wrap ((m : Int) % 32) = ((m % 32 : Nat) : Int) by rw [wU (by omega) (by omega)]; omega)) ?_
          refine X_op' rfl (A_sh rfl rfl rfl (shlS1 (by omega))) ?_
          have hzm := limb_mod uz hzk hQ
          have hzd := U32_getD uz (m / 32)
          obtain ⟨hor, hlt⟩ := orS (s := m % 32) (by omega) hzd.1 hzd.2 hzm
          rw [show m / 32 = 0 + ((m : Int) / 32).toNat by omega] at hor
          refine X_op' rfl (A_int rfl rfl rfl ⟨by decide, by decide⟩ hor) ?_
          refine X_op' rfl (A_ixO rfl rfl rfl rfl rfl rfl rfl (by omega) (by omega)) ?_
          refine X_op' rfl (A_stR 0 rfl rfl rfl (V_t rfl) (K_t rfl) rfl rfl (by first | omega | (simp only [List.length_set]; omega)) rfl rfl rfl rfl rfl rfl) ?_
          refine X_end ?_
          try dsimp only [St.put, szA, List.length, Nat.reduceAdd]
          refine Q_blkN ?_
          refine Q_seq ?_
          refine W_reg ?_
          refine xm rfl rfl rfl rfl ?_
          refine X_op' rfl (A_int rfl rfl rfl ⟨by decide, by decide⟩ (subI (by omega))) ?_
          refine xa rfl rfl rfl rfl ?_
          refine X_end ?_
          try dsimp only [St.put, szA, List.length, Nat.reduceAdd]
          have hst := (bits_step (A1 := nv l / 2 ^ (m + 1)) (b := 0) hkp (by omega) hA1).2 (by omega)
          simp only [Int.add_zero] at hst
          have hA9 : nv l / 2 ^ m = 2 * (nv l / 2 ^ (m + 1)) := by omega
          rw [← hA9] at hst
          have hze : (z.set (0 + ((m : Int) / 32).toNat) (z.getD (0 + ((m : Int) / 32).toNat) 0 + 2 ^ (m % 32))) = z.set (m / 32) (z.getD (m / 32) 0 + 2 ^ (m % 32)) := by rw [show 0 + ((m : Int) / 32).toNat = m / 32 by omega]
          refine ⟨m, by omega, m, z.set (m / 32) (z.getD (m / 32) 0 + 2 ^ (m % 32)), by omega, by rw [List.length_set]; exact hz, U32_set uz _ (by have := pow_pos' (m % 32); have := U32_getD uz (m / 32); omega) hlt, ?_, rfl, .inr (Eq.trans (b := st91 l (tr k) (z.set (0 + ((m : Int) / 32).toNat) (z.getD (0 + ((m : Int) / 32).toNat) 0 + 2 ^ (m % 32))) (.t (tn (if nv k ≤ (2 * (nv l / 2 ^ (m + 1) % nv k)) then en ((2 * (nv l / 2 ^ (m + 1) % nv k)) - nv k) else []))) ((m : Int) - 1)) (by kernel_rfl) (by rw [(if_pos (by omega) : (if nv k ≤ (2 * (nv l / 2 ^ (m + 1) % nv k)) then en ((2 * (nv l / 2 ^ (m + 1) % nv k)) - nv k) else []) = en ((2 * (nv l / 2 ^ (m + 1) % nv k)) - nv k)), hze, hst.2]))⟩
          rw [set_bit hzk, hQ, hst.1, Int.pow_succ]
          grind
         ·have khb11 := hb11; (try simp only [kb] at khb11)
          refine W_skip ?_
          refine Q_blkN ?_
          refine Q_seq ?_
          refine W_reg ?_
          refine xm rfl rfl rfl rfl ?_
          refine X_op' rfl (A_int rfl rfl rfl ⟨by decide, by decide⟩ (subI (by omega))) ?_
          refine xa rfl rfl rfl rfl ?_
          refine X_end ?_
          try dsimp only [St.put, szA, List.length, Nat.reduceAdd]
          have hst := (bits_step (A1 := nv l / 2 ^ (m + 1)) (b := 0) hkp (by omega) hA1).1 (by omega)
          simp only [Int.add_zero] at hst
          have hA9 : nv l / 2 ^ m = 2 * (nv l / 2 ^ (m + 1)) := by omega
          rw [← hA9] at hst
          refine ⟨m, by omega, m, z, by omega, hz, uz, ?_, rfl, .inr (Eq.trans (b := st91 l (tr k) z (.t (tn (en (2 * (nv l / 2 ^ (m + 1) % nv k))))) ((m : Int) - 1)) (by kernel_rfl) (by rw [hst.2]))⟩
          rw [hQ, hst.1, Int.pow_succ]
          grind
       ·have khb8 := hb8; (try simp only [kb] at khb8)
        refine W_exit ?_
        refine Q_seqX ?_
        refine Q_rndX ?_
        refine Q_blkE ?_
        refine Q_seq ?_
        refine wsr ?_
        have hj0 : j = 0 := by omega
        subst hj0
        refine X_op' rfl (A_mvM (.inl rfl) rfl) ?_
        refine X_op' rfl (A_callV rfl rfl rfl rfl (.cons (V_m rfl rfl rfl (by rw [cn_length, hz]; exact e1.symm)) (K_m rfl) .nil) (c90 uz (by omega))) ?_
        refine xm rfl rfl rfl rfl ?_
        refine X_op' rfl (A_callV rfl rfl rfl rfl (.cons (V_t rfl) (K_t rfl) .nil) (c90 (U32_en _) (by have := en_length (z := nv l / 2 ^ 0 % nv k) (k := k.length) (by have := Int.emod_lt_of_pos (nv l / 2 ^ 0) hkp; omega); omega))) ?_
        refine xa rfl rfl rfl rfl ?_
        refine xa rfl rfl rfl rfl ?_
        refine xa rfl rfl rfl rfl ?_
        refine X_endS ?_
        try dsimp only [St.put, szA, List.length, Nat.reduceAdd]
        refine W_ret ?_
        rw [Int.pow_zero, Int.one_mul, Int.ediv_one] at hQ
        skip
        have hr : divR l k = .ts [tn (tr z), tn (tr (en (nv l / 2 ^ 0 % nv k))), .v (.bool true)] := by
          rw [divR, if_neg hkz, tr_eq_en uz, hQ, tr_en, Int.pow_zero, Int.ediv_one]
        rw [hr]
        exact end_R rfl (.t rfl (.t rfl (.t rfl .nil)))
    ·have khb2 := hb2; (try simp only [kb] at khb2)
     refine X_no1 rfl rfl rfl hb2 ?_
     refine X_op' rfl (A_pickF rfl rfl hb2 rfl) ?_
     refine X_endS ?_
     try dsimp only [St.put, szA, List.length, Nat.reduceAdd]
     refine W_condF rfl rfl ?_
     refine W_skip ?_
     refine Q_seq ?_
     refine wsr ?_
     refine xm rfl rfl rfl rfl ?_
     refine X_op' rfl (A_lenT rfl rfl rfl rfl rfl rfl rfl) ?_
     refine X_op' rfl (A_make (j := (cn l).length) rfl rfl rfl rfl rfl rfl (by omega) (by first | omega | (simp only [intE, slE, boolE, integerE, rationalE]; omega)) (by omega)) ?_
     refine X_op' rfl (A_mvM (.inr rfl) rfl) ?_
     refine X_endS ?_
     try dsimp only [St.put, szA, List.length, Nat.reduceAdd]
     refine W_seq ?_
     refine wsr ?_
     refine xm rfl rfl rfl rfl ?_
     refine X_op' rfl (A_callV rfl rfl rfl rfl (.cons (V_t rfl) (K_t rfl) .nil) (c132 h (by omega))) ?_
     refine X_op' rfl (A_int rfl rfl rfl ⟨by decide, by decide⟩ (subI (by omega))) ?_
     refine xa rfl rfl rfl rfl ?_
     refine X_endS ?_
     try dsimp only [St.put, szA, List.length, Nat.reduceAdd]
     refine W_blk ?_
     refine W_loop (fun nn σ => ∃ (j : Nat) (z : List Int), j ≤ (bitsN l).toNat ∧ z.length = l.length ∧ U32 z ∧ nv z = 2 ^ j * (nv l / 2 ^ j / nv k) ∧ nn = j ∧ (nv l / 2 ^ j % nv k = 0 ∧ σ = st91 l (tr k) z (.nil 1) ((j : Int) - 1) ∨ σ = st91 l (tr k) z (.t (tn (en (nv l / 2 ^ j % nv k)))) ((j : Int) - 1))) ((bitsN l).toNat) ?_ ?_ (by omega)
     rotate_left
     · refine ⟨(bitsN l).toNat, List.replicate (cn l).length 0, Nat.le_refl _, (by rw [List.length_replicate, e1]), U32_rep _, ?_, rfl, .inl ⟨?_, Eq.trans (b := st91 l (tr k) (List.replicate (cn l).length 0) (.nil 1) (bitsN l - 1)) (by simp only [st91, cn, List.map_replicate]; kernel_rfl) (by rw [show (((bitsN l).toNat : Nat) : Int) = bitsN l by omega])⟩⟩
       · rw [nv_replicate, Int.ediv_eq_zero_of_lt p1 hbb.2.2, Int.zero_ediv, Int.mul_zero]
       · rw [Int.ediv_eq_zero_of_lt p1 hbb.2.2, Int.zero_emod]
     rintro nn _ ⟨j, z, hj, hz, uz, hQ, hnn, ⟨hR0, rfl⟩ | rfl⟩
     ·have ez := cn_length z
      refine W_seq ?_
      refine wsr ?_
      refine xm rfl rfl rfl rfl ?_
      refine X_op' rfl (A_int rfl rfl rfl ⟨by decide, by decide⟩ rfl) ?_
      refine X_endS ?_
      try dsimp only [St.put, szA, List.length, Nat.reduceAdd]
      refine W_condB rfl (fun hb12 => ?_) (fun hb12 => ?_)
      ·have khb12 := hb12; (try simp only [kb] at khb12)
       refine W_skip ?_
       refine Q_seq ?_
       refine W_seq ?_
       refine W_blk ?_
       refine wsr ?_
       obtain ⟨m, rfl⟩ : ∃ m, j = m + 1 := ⟨j - 1, by omega⟩
       rw [show (((m + 1 : Nat) : Int) - 1) = (m : Int) by omega]
       have hA1 : 0 ≤ nv l / 2 ^ (m + 1) := Int.ediv_nonneg p1 (by have := pow_pos' (m + 1); omega)
       have hA0 := half_bit p1 m
       have hr0 := Int.emod_nonneg (nv l / 2 ^ (m + 1)) (show nv k ≠ 0 by omega)
       have hr1 := Int.emod_lt_of_pos (nv l / 2 ^ (m + 1)) hkp
       have lr : (en (nv l / 2 ^ (m + 1) % nv k)).length ≤ k.length := en_length (by omega)
       have lr2 : (en (2 * (nv l / 2 ^ (m + 1) % nv k))).length ≤ k.length + 1 := en_length (by rw [P_succ]; omega)
       have lr3 : (en (2 * (nv l / 2 ^ (m + 1) % nv k) + 1)).length ≤ k.length + 1 := en_length (by rw [P_succ]; omega)
       have hbit := bit_le (nv l) m
       obtain ⟨bv, hbv⟩ : ∃ bv : Int, bv = nv l / 2 ^ m % 2 := ⟨_, rfl⟩
       rw [← hbv] at hA0 hbit
       have hzk : m / 32 < z.length := by omega
       refine X_op' rfl (A_mvN (.inl rfl) rfl) ?_
       refine X_op' rfl (A_mvN (.inl rfl) rfl) ?_
       refine X_op' rfl (A_callV rfl rfl rfl rfl (.cons (V_n rfl) (K_n rfl) (.cons (V_n rfl) (K_n rfl) .nil)) ((c74 (l := []) (k := []) U32_nil (by simp) U32_nil (by simp)).trans (show some (Ret.ts [tn (en (nv [] + nv []))]) = some (Ret.ts [tn (en (2 * (nv l / 2 ^ (m + 1) % nv k)))]) by rw [hR0]; rfl))) ?_
       refine xa rfl rfl rfl rfl ?_
       refine X_endS ?_
       try dsimp only [St.put, szA, List.length, Nat.reduceAdd]
       refine W_seq ?_
       refine wsr ?_
       refine xm rfl rfl rfl rfl ?_
       refine xm rfl rfl rfl rfl ?_
       refine X_op' rfl (A_callV rfl rfl rfl rfl (.cons (V_t rfl) (K_t rfl) (.cons (V_t rfl) (K_t rfl) .nil)) ((c133 h (by omega) m (by omega)).trans (show some (Ret.ts [.v (.int .u32 (nv l / 2 ^ m % 2))]) = some (Ret.ts [.v (.int .u32 bv)]) by rw [hbv]))) ?_
       
       refine X_op' rfl (A_int rfl rfl rfl ⟨by decide, by decide⟩ rfl) ?_
       refine X_endS ?_
       try dsimp only [St.put, szA, List.length, Nat.reduceAdd]
       refine W_condB rfl (fun hb13 => ?_) (fun hb13 => ?_)
       ·have khb13 := hb13; (try simp only [kb] at khb13)
        refine W_reg ?_
        refine xm rfl rfl rfl rfl ?_
        refine X_op' rfl (A_bs rfl rfl rfl rfl rfl (.cons (V_t rfl) (K_t rfl) .nil) rfl rfl (by decide)) ?_
        refine X_op' rfl (A_callV rfl rfl rfl rfl (.cons (V_t rfl) (K_t rfl) (.cons (V_m rfl rfl rfl rfl) (K_m rfl) .nil)) ((c74 (k := [1]) (U32_en _) (by omega) (U32_cons.2 ⟨by omega, U32_nil⟩) (by simp)).trans (show some (Ret.ts [tn (en (nv (en (2 * (nv l / 2 ^ (m + 1) % nv k))) + nv [1]))]) = some (Ret.ts [tn (en (2 * (nv l / 2 ^ (m + 1) % nv k) + 1))]) by rw [nv_en (by omega)]; rfl))) ?_
        refine xa rfl rfl rfl rfl ?_
        refine X_endS ?_
        try dsimp only [St.put, szA, List.length, Nat.reduceAdd]
        refine wsr ?_
        refine xm rfl rfl rfl rfl ?_
        refine xm rfl rfl rfl rfl ?_
        refine X_op' rfl (A_callV rfl rfl rfl rfl (.cons (V_t rfl) (K_t rfl) (.cons (V_t rfl) (K_t rfl) .nil)) ((c75 (U32_en _) (by omega) u2 (by omega)).trans (show some (subR (en (2 * (nv l / 2 ^ (m + 1) % nv k) + 1)) (tr k)) = some (Ret.ts [tn (if nv k ≤ (2 * (nv l / 2 ^ (m + 1) % nv k) + 1) then en ((2 * (nv l / 2 ^ (m + 1) % nv k) + 1) - nv k) else []), .v (.bool (decide (nv k ≤ (2 * (nv l / 2 ^ (m + 1) % nv k) + 1))))]) by rw [subR_eq, nv_en (by omega), e2v]))) ?_
        refine X_op' rfl (A_mvU (.inl rfl) rfl) ?_
        refine X_op' rfl (A_ext rfl rfl rfl) ?_
        refine X_op' rfl (A_ext rfl rfl rfl) ?_
        refine xa rfl rfl rfl rfl ?_
        refine xa rfl rfl rfl rfl ?_
        refine X_endS ?_
        try dsimp only [St.put, szA, List.length, Nat.reduceAdd]
        refine wsr ?_
        refine xm rfl rfl rfl rfl ?_
        refine X_endS ?_
        try dsimp only [St.put, szA, List.length, Nat.reduceAdd]
        refine W_condB rfl (fun hb14 => ?_) (fun hb14 => ?_)
        ·have khb14 := hb14; (try simp only [kb] at khb14)
         refine wsr ?_
         refine xm rfl rfl rfl rfl ?_
         refine xa rfl rfl rfl rfl ?_
         refine X_endS ?_
         try dsimp only [St.put, szA, List.length, Nat.reduceAdd]
         refine W_reg ?_
         refine X_op' rfl (A_mvM (.inl rfl) rfl) ?_
         refine xm rfl rfl rfl rfl ?_
         refine X_op' rfl (A_int rfl rfl rfl ⟨by decide, by decide⟩ (quoI (by omega) (by omega) (by omega))) ?_
         refine X_op' rfl (A_ixO rfl rfl rfl rfl rfl rfl rfl (by omega) (by omega)) ?_
         refine X_op' rfl (A_ld rfl rfl rfl (ld_row 0 rfl (by first | omega | (simp only [List.length_set]; omega)) rfl rfl rfl)) ?_
         refine xm rfl rfl rfl rfl ?_
         refine X_op' rfl (A_int rfl rfl rfl ⟨by decide, by decide⟩ (remI (by omega) (by omega))) ?_
         refine X_op' rfl (A_conv rfl rfl rfl rfl rfl (show IntKind.u64.wrap ((m : Int) % 32) = ((m % 32 : Nat) : Int) by rw [wU (by omega) (by omega)]; omega)) ?_
         refine X_op' rfl (A_sh rfl rfl rfl (shlS1 (by omega))) ?_
         have hzm := limb_mod uz hzk hQ
         have hzd := U32_getD uz (m / 32)
         obtain ⟨hor, hlt⟩ := orS (s := m % 32) (by omega) hzd.1 hzd.2 hzm
         rw [show m / 32 = 0 + ((m : Int) / 32).toNat by omega] at hor
         refine X_op' rfl (A_int rfl rfl rfl ⟨by decide, by decide⟩ hor) ?_
         refine X_op' rfl (A_ixO rfl rfl rfl rfl rfl rfl rfl (by omega) (by omega)) ?_
         refine X_op' rfl (A_stR 0 rfl rfl rfl (V_t rfl) (K_t rfl) rfl rfl (by first | omega | (simp only [List.length_set]; omega)) rfl rfl rfl rfl rfl rfl) ?_
         refine X_end ?_
         try dsimp only [St.put, szA, List.length, Nat.reduceAdd]
         refine Q_blkN ?_
         refine Q_seq ?_
         refine W_reg ?_
         refine xm rfl rfl rfl rfl ?_
         refine X_op' rfl (A_int rfl rfl rfl ⟨by decide, by decide⟩ (subI (by omega))) ?_
         refine xa rfl rfl rfl rfl ?_
         refine X_end ?_
         try dsimp only [St.put, szA, List.length, Nat.reduceAdd]
         have hst := (bits_step (A1 := nv l / 2 ^ (m + 1)) (b := 1) hkp (by omega) hA1).2 (by omega)
         
         have hA9 : nv l / 2 ^ m = 2 * (nv l / 2 ^ (m + 1)) + 1 := by omega
         rw [← hA9] at hst
         have hze : (z.set (0 + ((m : Int) / 32).toNat) (z.getD (0 + ((m : Int) / 32).toNat) 0 + 2 ^ (m % 32))) = z.set (m / 32) (z.getD (m / 32) 0 + 2 ^ (m % 32)) := by rw [show 0 + ((m : Int) / 32).toNat = m / 32 by omega]
         refine ⟨m, by omega, m, z.set (m / 32) (z.getD (m / 32) 0 + 2 ^ (m % 32)), by omega, by rw [List.length_set]; exact hz, U32_set uz _ (by have := pow_pos' (m % 32); have := U32_getD uz (m / 32); omega) hlt, ?_, rfl, .inr (Eq.trans (b := st91 l (tr k) (z.set (0 + ((m : Int) / 32).toNat) (z.getD (0 + ((m : Int) / 32).toNat) 0 + 2 ^ (m % 32))) (.t (tn (if nv k ≤ (2 * (nv l / 2 ^ (m + 1) % nv k) + 1) then en ((2 * (nv l / 2 ^ (m + 1) % nv k) + 1) - nv k) else []))) ((m : Int) - 1)) (by kernel_rfl) (by rw [(if_pos (by omega) : (if nv k ≤ (2 * (nv l / 2 ^ (m + 1) % nv k) + 1) then en ((2 * (nv l / 2 ^ (m + 1) % nv k) + 1) - nv k) else []) = en ((2 * (nv l / 2 ^ (m + 1) % nv k) + 1) - nv k)), hze, hst.2]))⟩
         rw [set_bit hzk, hQ, hst.1, Int.pow_succ]
         grind
        ·have khb14 := hb14; (try simp only [kb] at khb14)
         refine W_skip ?_
         refine Q_blkN ?_
         refine Q_seq ?_
         refine W_reg ?_
         refine xm rfl rfl rfl rfl ?_
         refine X_op' rfl (A_int rfl rfl rfl ⟨by decide, by decide⟩ (subI (by omega))) ?_
         refine xa rfl rfl rfl rfl ?_
         refine X_end ?_
         try dsimp only [St.put, szA, List.length, Nat.reduceAdd]
         have hst := (bits_step (A1 := nv l / 2 ^ (m + 1)) (b := 1) hkp (by omega) hA1).1 (by omega)
         
         have hA9 : nv l / 2 ^ m = 2 * (nv l / 2 ^ (m + 1)) + 1 := by omega
         rw [← hA9] at hst
         refine ⟨m, by omega, m, z, by omega, hz, uz, ?_, rfl, .inr (Eq.trans (b := st91 l (tr k) z (.t (tn (en (2 * (nv l / 2 ^ (m + 1) % nv k) + 1)))) ((m : Int) - 1)) (by kernel_rfl) (by rw [hst.2]))⟩
         rw [hQ, hst.1, Int.pow_succ]
         grind
       ·have khb13 := hb13; (try simp only [kb] at khb13)
        refine W_skip ?_
        refine Q_seq ?_
        refine wsr ?_
        refine xm rfl rfl rfl rfl ?_
        refine xm rfl rfl rfl rfl ?_
        refine X_op' rfl (A_callV rfl rfl rfl rfl (.cons (V_t rfl) (K_t rfl) (.cons (V_t rfl) (K_t rfl) .nil)) ((c75 (U32_en _) (by omega) u2 (by omega)).trans (show some (subR (en (2 * (nv l / 2 ^ (m + 1) % nv k))) (tr k)) = some (Ret.ts [tn (if nv k ≤ (2 * (nv l / 2 ^ (m + 1) % nv k)) then en ((2 * (nv l / 2 ^ (m + 1) % nv k)) - nv k) else []), .v (.bool (decide (nv k ≤ (2 * (nv l / 2 ^ (m + 1) % nv k)))))]) by rw [subR_eq, nv_en (by omega), e2v]))) ?_
        refine X_op' rfl (A_mvU (.inl rfl) rfl) ?_
        refine X_op' rfl (A_ext rfl rfl rfl) ?_
        refine X_op' rfl (A_ext rfl rfl rfl) ?_
        refine xa rfl rfl rfl rfl ?_
        refine xa rfl rfl rfl rfl ?_
        refine X_endS ?_
        try dsimp only [St.put, szA, List.length, Nat.reduceAdd]
        refine wsr ?_
        refine xm rfl rfl rfl rfl ?_
        refine X_endS ?_
        try dsimp only [St.put, szA, List.length, Nat.reduceAdd]
        refine W_condB rfl (fun hb15 => ?_) (fun hb15 => ?_)
        ·have khb15 := hb15; (try simp only [kb] at khb15)
         refine wsr ?_
         refine xm rfl rfl rfl rfl ?_
         refine xa rfl rfl rfl rfl ?_
         refine X_endS ?_
         try dsimp only [St.put, szA, List.length, Nat.reduceAdd]
         refine W_reg ?_
         refine X_op' rfl (A_mvM (.inl rfl) rfl) ?_
         refine xm rfl rfl rfl rfl ?_
         refine X_op' rfl (A_int rfl rfl rfl ⟨by decide, by decide⟩ (quoI (by omega) (by omega) (by omega))) ?_
         refine X_op' rfl (A_ixO rfl rfl rfl rfl rfl rfl rfl (by omega) (by omega)) ?_
         refine X_op' rfl (A_ld rfl rfl rfl (ld_row 0 rfl (by first | omega | (simp only [List.length_set]; omega)) rfl rfl rfl)) ?_
         refine xm rfl rfl rfl rfl ?_
         refine X_op' rfl (A_int rfl rfl rfl ⟨by decide, by decide⟩ (remI (by omega) (by omega))) ?_
         refine X_op' rfl (A_conv rfl rfl rfl rfl rfl (show IntKind.u64.wrap ((m : Int) % 32) = ((m % 32 : Nat) : Int) by rw [wU (by omega) (by omega)]; omega)) ?_
         refine X_op' rfl (A_sh rfl rfl rfl (shlS1 (by omega))) ?_
         have hzm := limb_mod uz hzk hQ
         have hzd := U32_getD uz (m / 32)
         obtain ⟨hor, hlt⟩ := orS (s := m % 32) (by omega) hzd.1 hzd.2 hzm
         rw [show m / 32 = 0 + ((m : Int) / 32).toNat by omega] at hor
         refine X_op' rfl (A_int rfl rfl rfl ⟨by decide, by decide⟩ hor) ?_
         refine X_op' rfl (A_ixO rfl rfl rfl rfl rfl rfl rfl (by omega) (by omega)) ?_
         refine X_op' rfl (A_stR 0 rfl rfl rfl (V_t rfl) (K_t rfl) rfl rfl (by first | omega | (simp only [List.length_set]; omega)) rfl rfl rfl rfl rfl rfl) ?_
         refine X_end ?_
         try dsimp only [St.put, szA, List.length, Nat.reduceAdd]
         refine Q_blkN ?_
         refine Q_seq ?_
         refine W_reg ?_
         refine xm rfl rfl rfl rfl ?_
         refine X_op' rfl (A_int rfl rfl rfl ⟨by decide, by decide⟩ (subI (by omega))) ?_
         refine xa rfl rfl rfl rfl ?_
         refine X_end ?_
         try dsimp only [St.put, szA, List.length, Nat.reduceAdd]
         have hst := (bits_step (A1 := nv l / 2 ^ (m + 1)) (b := 0) hkp (by omega) hA1).2 (by omega)
         simp only [Int.add_zero] at hst
         have hA9 : nv l / 2 ^ m = 2 * (nv l / 2 ^ (m + 1)) := by omega
         rw [← hA9] at hst
         have hze : (z.set (0 + ((m : Int) / 32).toNat) (z.getD (0 + ((m : Int) / 32).toNat) 0 + 2 ^ (m % 32))) = z.set (m / 32) (z.getD (m / 32) 0 + 2 ^ (m % 32)) := by rw [show 0 + ((m : Int) / 32).toNat = m / 32 by omega]
         refine ⟨m, by omega, m, z.set (m / 32) (z.getD (m / 32) 0 + 2 ^ (m % 32)), by omega, by rw [List.length_set]; exact hz, U32_set uz _ (by have := pow_pos' (m % 32); have := U32_getD uz (m / 32); omega) hlt, ?_, rfl, .inr (Eq.trans (b := st91 l (tr k) (z.set (0 + ((m : Int) / 32).toNat) (z.getD (0 + ((m : Int) / 32).toNat) 0 + 2 ^ (m % 32))) (.t (tn (if nv k ≤ (2 * (nv l / 2 ^ (m + 1) % nv k)) then en ((2 * (nv l / 2 ^ (m + 1) % nv k)) - nv k) else []))) ((m : Int) - 1)) (by kernel_rfl) (by rw [(if_pos (by omega) : (if nv k ≤ (2 * (nv l / 2 ^ (m + 1) % nv k)) then en ((2 * (nv l / 2 ^ (m + 1) % nv k)) - nv k) else []) = en ((2 * (nv l / 2 ^ (m + 1) % nv k)) - nv k)), hze, hst.2]))⟩
         rw [set_bit hzk, hQ, hst.1, Int.pow_succ]
         grind
        ·have khb15 := hb15; (try simp only [kb] at khb15)
         refine W_skip ?_
         refine Q_blkN ?_
         refine Q_seq ?_
         refine W_reg ?_
         refine xm rfl rfl rfl rfl ?_
         refine X_op' rfl (A_int rfl rfl rfl ⟨by decide, by decide⟩ (subI (by omega))) ?_
         refine xa rfl rfl rfl rfl ?_
         refine X_end ?_
         try dsimp only [St.put, szA, List.length, Nat.reduceAdd]
         have hst := (bits_step (A1 := nv l / 2 ^ (m + 1)) (b := 0) hkp (by omega) hA1).1 (by omega)
         simp only [Int.add_zero] at hst
         have hA9 : nv l / 2 ^ m = 2 * (nv l / 2 ^ (m + 1)) := by omega
         rw [← hA9] at hst
         refine ⟨m, by omega, m, z, by omega, hz, uz, ?_, rfl, .inr (Eq.trans (b := st91 l (tr k) z (.t (tn (en (2 * (nv l / 2 ^ (m + 1) % nv k))))) ((m : Int) - 1)) (by kernel_rfl) (by rw [hst.2]))⟩
         rw [hQ, hst.1, Int.pow_succ]
         grind
      ·have khb12 := hb12; (try simp only [kb] at khb12)
       refine W_exit ?_
       refine Q_seqX ?_
       refine Q_rndX ?_
       refine Q_blkE ?_
       refine Q_seq ?_
       refine wsr ?_
       have hj0 : j = 0 := by omega
       subst hj0
       refine X_op' rfl (A_mvM (.inl rfl) rfl) ?_
       refine X_op' rfl (A_callV rfl rfl rfl rfl (.cons (V_m rfl rfl rfl (by rw [cn_length, hz]; exact e1.symm)) (K_m rfl) .nil) (c90 uz (by omega))) ?_
       refine X_op' rfl (A_mvN (.inl rfl) rfl) ?_
       refine X_op' rfl (A_callV rfl rfl rfl rfl (.cons (V_n rfl) (K_n rfl) .nil) (c90 (l := []) U32_nil (by simp))) ?_
       refine xa rfl rfl rfl rfl ?_
       refine xa rfl rfl rfl rfl ?_
       refine xa rfl rfl rfl rfl ?_
       refine X_endS ?_
       try dsimp only [St.put, szA, List.length, Nat.reduceAdd]
       refine W_ret ?_
       rw [Int.pow_zero, Int.one_mul, Int.ediv_one] at hQ
       rw [Int.pow_zero, Int.ediv_one] at hR0
       have hr : divR l k = .ts [tn (tr z), tn (tr []), .v (.bool true)] := by
         rw [divR, if_neg hkz, tr_eq_en uz, hQ, hR0, en_zero]; rfl
       rw [hr]
       exact end_R rfl (.t rfl (.t rfl (.t rfl .nil)))
     ·have ez := cn_length z
      refine W_seq ?_
      refine wsr ?_
      refine xm rfl rfl rfl rfl ?_
      refine X_op' rfl (A_int rfl rfl rfl ⟨by decide, by decide⟩ rfl) ?_
      refine X_endS ?_
      try dsimp only [St.put, szA, List.length, Nat.reduceAdd]
      refine W_condB rfl (fun hb16 => ?_) (fun hb16 => ?_)
      ·have khb16 := hb16; (try simp only [kb] at khb16)
       refine W_skip ?_
       refine Q_seq ?_
       refine W_seq ?_
       refine W_blk ?_
       refine wsr ?_
       obtain ⟨m, rfl⟩ : ∃ m, j = m + 1 := ⟨j - 1, by omega⟩
       rw [show (((m + 1 : Nat) : Int) - 1) = (m : Int) by omega]
       have hA1 : 0 ≤ nv l / 2 ^ (m + 1) := Int.ediv_nonneg p1 (by have := pow_pos' (m + 1); omega)
       have hA0 := half_bit p1 m
       have hr0 := Int.emod_nonneg (nv l / 2 ^ (m + 1)) (show nv k ≠ 0 by omega)
       have hr1 := Int.emod_lt_of_pos (nv l / 2 ^ (m + 1)) hkp
       have lr : (en (nv l / 2 ^ (m + 1) % nv k)).length ≤ k.length := en_length (by omega)
       have lr2 : (en (2 * (nv l / 2 ^ (m + 1) % nv k))).length ≤ k.length + 1 := en_length (by rw [P_succ]; omega)
       have lr3 : (en (2 * (nv l / 2 ^ (m + 1) % nv k) + 1)).length ≤ k.length + 1 := en_length (by rw [P_succ]; omega)
       have hbit := bit_le (nv l) m
       obtain ⟨bv, hbv⟩ : ∃ bv : Int, bv = nv l / 2 ^ m % 2 := ⟨_, rfl⟩
       rw [← hbv] at hA0 hbit
       have hzk : m / 32 < z.length := by omega
       refine xm rfl rfl rfl rfl ?_
       refine xm rfl rfl rfl rfl ?_
       refine X_op' rfl (A_callV rfl rfl rfl rfl (.cons (V_t rfl) (K_t rfl) (.cons (V_t rfl) (K_t rfl) .nil)) ((c74 (U32_en _) (by omega) (U32_en _) (by omega)).trans (show some (Ret.ts [tn (en (nv (en (nv l / 2 ^ (m + 1) % nv k)) + nv (en (nv l / 2 ^ (m + 1) % nv k))))]) = some (Ret.ts [tn (en (2 * (nv l / 2 ^ (m + 1) % nv k)))]) by rw [nv_en hr0, show (nv l / 2 ^ (m + 1) % nv k) + (nv l / 2 ^ (m + 1) % nv k) = 2 * (nv l / 2 ^ (m + 1) % nv k) by omega]))) ?_
       refine xa rfl rfl rfl rfl ?_
       refine X_endS ?_
       try dsimp only [St.put, szA, List.length, Nat.reduceAdd]
       refine W_seq ?_
       refine wsr ?_
       refine xm rfl rfl rfl rfl ?_
       refine xm rfl rfl rfl rfl ?_
       refine X_op' rfl (A_callV rfl rfl rfl rfl (.cons (V_t rfl) (K_t rfl) (.cons (V_t rfl) (K_t rfl) .nil)) ((c133 h (by omega) m (by omega)).trans (show some (Ret.ts [.v (.int .u32 (nv l / 2 ^ m % 2))]) = some (Ret.ts [.v (.int .u32 bv)]) by rw [hbv]))) ?_
       
       refine X_op' rfl (A_int rfl rfl rfl ⟨by decide, by decide⟩ rfl) ?_
       refine X_endS ?_
       try dsimp only [St.put, szA, List.length, Nat.reduceAdd]
       refine W_condB rfl (fun hb17 => ?_) (fun hb17 => ?_)
       ·have khb17 := hb17; (try simp only [kb] at khb17)
        refine W_reg ?_
        refine xm rfl rfl rfl rfl ?_
        refine X_op' rfl (A_bs rfl rfl rfl rfl rfl (.cons (V_t rfl) (K_t rfl) .nil) rfl rfl (by decide)) ?_
        refine X_op' rfl (A_callV rfl rfl rfl rfl (.cons (V_t rfl) (K_t rfl) (.cons (V_m rfl rfl rfl rfl) (K_m rfl) .nil)) ((c74 (k := [1]) (U32_en _) (by omega) (U32_cons.2 ⟨by omega, U32_nil⟩) (by simp)).trans (show some (Ret.ts [tn (en (nv (en (2 * (nv l / 2 ^ (m + 1) % nv k))) + nv [1]))]) = some (Ret.ts [tn (en (2 * (nv l / 2 ^ (m + 1) % nv k) + 1))]) by rw [nv_en (by omega)]; rfl))) ?_
        refine xa rfl rfl rfl rfl ?_
        refine X_endS ?_
        try dsimp only [St.put, szA, List.length, Nat.reduceAdd]
        refine wsr ?_
        refine xm rfl rfl rfl rfl ?_
        refine xm rfl rfl rfl rfl ?_
        refine X_op' rfl (A_callV rfl rfl rfl rfl (.cons (V_t rfl) (K_t rfl) (.cons (V_t rfl) (K_t rfl) .nil)) ((c75 (U32_en _) (by omega) u2 (by omega)).trans (show some (subR (en (2 * (nv l / 2 ^ (m + 1) % nv k) + 1)) (tr k)) = some (Ret.ts [tn (if nv k ≤ (2 * (nv l / 2 ^ (m + 1) % nv k) + 1) then en ((2 * (nv l / 2 ^ (m + 1) % nv k) + 1) - nv k) else []), .v (.bool (decide (nv k ≤ (2 * (nv l / 2 ^ (m + 1) % nv k) + 1))))]) by rw [subR_eq, nv_en (by omega), e2v]))) ?_
        refine X_op' rfl (A_mvU (.inl rfl) rfl) ?_
        refine X_op' rfl (A_ext rfl rfl rfl) ?_
        refine X_op' rfl (A_ext rfl rfl rfl) ?_
        refine xa rfl rfl rfl rfl ?_
        refine xa rfl rfl rfl rfl ?_
        refine X_endS ?_
        try dsimp only [St.put, szA, List.length, Nat.reduceAdd]
        refine wsr ?_
        refine xm rfl rfl rfl rfl ?_
        refine X_endS ?_
        try dsimp only [St.put, szA, List.length, Nat.reduceAdd]
        refine W_condB rfl (fun hb18 => ?_) (fun hb18 => ?_)
        ·have khb18 := hb18; (try simp only [kb] at khb18)
         refine wsr ?_
         refine xm rfl rfl rfl rfl ?_
         refine xa rfl rfl rfl rfl ?_
         refine X_endS ?_
         try dsimp only [St.put, szA, List.length, Nat.reduceAdd]
         refine W_reg ?_
         refine X_op' rfl (A_mvM (.inl rfl) rfl) ?_
         refine xm rfl rfl rfl rfl ?_
         refine X_op' rfl (A_int rfl rfl rfl ⟨by decide, by decide⟩ (quoI (by omega) (by omega) (by omega))) ?_
         refine X_op' rfl (A_ixO rfl rfl rfl rfl rfl rfl rfl (by omega) (by omega)) ?_
         refine X_op' rfl (A_ld rfl rfl rfl (ld_row 0 rfl (by first | omega | (simp only [List.length_set]; omega)) rfl rfl rfl)) ?_
         refine xm rfl rfl rfl rfl ?_
         refine X_op' rfl (A_int rfl rfl rfl ⟨by decide, by decide⟩ (remI (by omega) (by omega))) ?_
         refine X_op' rfl (A_conv rfl rfl rfl rfl rfl (show IntKind.u64.wrap ((m : Int) % 32) = ((m % 32 : Nat) : Int) by rw [wU (by omega) (by omega)]; omega)) ?_
         refine X_op' rfl (A_sh rfl rfl rfl (shlS1 (by omega))) ?_
         have hzm := limb_mod uz hzk hQ
         have hzd := U32_getD uz (m / 32)
         obtain ⟨hor, hlt⟩ := orS (s := m % 32) (by omega) hzd.1 hzd.2 hzm
         rw [show m / 32 = 0 + ((m : Int) / 32).toNat by omega] at hor
         refine X_op' rfl (A_int rfl rfl rfl ⟨by decide, by decide⟩ hor) ?_
         refine X_op' rfl (A_ixO rfl rfl rfl rfl rfl rfl rfl (by omega) (by omega)) ?_
         refine X_op' rfl (A_stR 0 rfl rfl rfl (V_t rfl) (K_t rfl) rfl rfl (by first | omega | (simp only [List.length_set]; omega)) rfl rfl rfl rfl rfl rfl) ?_
         refine X_end ?_
         try dsimp only [St.put, szA, List.length, Nat.reduceAdd]
         refine Q_blkN ?_
         refine Q_seq ?_
         refine W_reg ?_
         refine xm rfl rfl rfl rfl ?_
         refine X_op' rfl (A_int rfl rfl rfl ⟨by decide, by decide⟩ (subI (by omega))) ?_
         refine xa rfl rfl rfl rfl ?_
         refine X_end ?_
         try dsimp only [St.put, szA, List.length, Nat.reduceAdd]
         have hst := (bits_step (A1 := nv l / 2 ^ (m + 1)) (b := 1) hkp (by omega) hA1).2 (by omega)
         
         have hA9 : nv l / 2 ^ m = 2 * (nv l / 2 ^ (m + 1)) + 1 := by omega
         rw [← hA9] at hst
         have hze : (z.set (0 + ((m : Int) / 32).toNat) (z.getD (0 + ((m : Int) / 32).toNat) 0 + 2 ^ (m % 32))) = z.set (m / 32) (z.getD (m / 32) 0 + 2 ^ (m % 32)) := by rw [show 0 + ((m : Int) / 32).toNat = m / 32 by omega]
         refine ⟨m, by omega, m, z.set (m / 32) (z.getD (m / 32) 0 + 2 ^ (m % 32)), by omega, by rw [List.length_set]; exact hz, U32_set uz _ (by have := pow_pos' (m % 32); have := U32_getD uz (m / 32); omega) hlt, ?_, rfl, .inr (Eq.trans (b := st91 l (tr k) (z.set (0 + ((m : Int) / 32).toNat) (z.getD (0 + ((m : Int) / 32).toNat) 0 + 2 ^ (m % 32))) (.t (tn (if nv k ≤ (2 * (nv l / 2 ^ (m + 1) % nv k) + 1) then en ((2 * (nv l / 2 ^ (m + 1) % nv k) + 1) - nv k) else []))) ((m : Int) - 1)) (by kernel_rfl) (by rw [(if_pos (by omega) : (if nv k ≤ (2 * (nv l / 2 ^ (m + 1) % nv k) + 1) then en ((2 * (nv l / 2 ^ (m + 1) % nv k) + 1) - nv k) else []) = en ((2 * (nv l / 2 ^ (m + 1) % nv k) + 1) - nv k)), hze, hst.2]))⟩
         rw [set_bit hzk, hQ, hst.1, Int.pow_succ]
         grind
        ·have khb18 := hb18; (try simp only [kb] at khb18)
         refine W_skip ?_
         refine Q_blkN ?_
         refine Q_seq ?_
         refine W_reg ?_
         refine xm rfl rfl rfl rfl ?_
         refine X_op' rfl (A_int rfl rfl rfl ⟨by decide, by decide⟩ (subI (by omega))) ?_
         refine xa rfl rfl rfl rfl ?_
         refine X_end ?_
         try dsimp only [St.put, szA, List.length, Nat.reduceAdd]
         have hst := (bits_step (A1 := nv l / 2 ^ (m + 1)) (b := 1) hkp (by omega) hA1).1 (by omega)
         
         have hA9 : nv l / 2 ^ m = 2 * (nv l / 2 ^ (m + 1)) + 1 := by omega
         rw [← hA9] at hst
         refine ⟨m, by omega, m, z, by omega, hz, uz, ?_, rfl, .inr (Eq.trans (b := st91 l (tr k) z (.t (tn (en (2 * (nv l / 2 ^ (m + 1) % nv k) + 1)))) ((m : Int) - 1)) (by kernel_rfl) (by rw [hst.2]))⟩
         rw [hQ, hst.1, Int.pow_succ]
         grind
       ·have khb17 := hb17; (try simp only [kb] at khb17)
        refine W_skip ?_
        refine Q_seq ?_
        refine wsr ?_
        refine xm rfl rfl rfl rfl ?_
        refine xm rfl rfl rfl rfl ?_
        refine X_op' rfl (A_callV rfl rfl rfl rfl (.cons (V_t rfl) (K_t rfl) (.cons (V_t rfl) (K_t rfl) .nil)) ((c75 (U32_en _) (by omega) u2 (by omega)).trans (show some (subR (en (2 * (nv l / 2 ^ (m + 1) % nv k))) (tr k)) = some (Ret.ts [tn (if nv k ≤ (2 * (nv l / 2 ^ (m + 1) % nv k)) then en ((2 * (nv l / 2 ^ (m + 1) % nv k)) - nv k) else []), .v (.bool (decide (nv k ≤ (2 * (nv l / 2 ^ (m + 1) % nv k)))))]) by rw [subR_eq, nv_en (by omega), e2v]))) ?_
        refine X_op' rfl (A_mvU (.inl rfl) rfl) ?_
        refine X_op' rfl (A_ext rfl rfl rfl) ?_
        refine X_op' rfl (A_ext rfl rfl rfl) ?_
        refine xa rfl rfl rfl rfl ?_
        refine xa rfl rfl rfl rfl ?_
        refine X_endS ?_
        try dsimp only [St.put, szA, List.length, Nat.reduceAdd]
        refine wsr ?_
        refine xm rfl rfl rfl rfl ?_
        refine X_endS ?_
        try dsimp only [St.put, szA, List.length, Nat.reduceAdd]
        refine W_condB rfl (fun hb19 => ?_) (fun hb19 => ?_)
        ·have khb19 := hb19; (try simp only [kb] at khb19)
         refine wsr ?_
         refine xm rfl rfl rfl rfl ?_
         refine xa rfl rfl rfl rfl ?_
         refine X_endS ?_
         try dsimp only [St.put, szA, List.length, Nat.reduceAdd]
         refine W_reg ?_
         refine X_op' rfl (A_mvM (.inl rfl) rfl) ?_
         refine xm rfl rfl rfl rfl ?_
         refine X_op' rfl (A_int rfl rfl rfl ⟨by decide, by decide⟩ (quoI (by omega) (by omega) (by omega))) ?_
         refine X_op' rfl (A_ixO rfl rfl rfl rfl rfl rfl rfl (by omega) (by omega)) ?_
         refine X_op' rfl (A_ld rfl rfl rfl (ld_row 0 rfl (by first | omega | (simp only [List.length_set]; omega)) rfl rfl rfl)) ?_
         refine xm rfl rfl rfl rfl ?_
         refine X_op' rfl (A_int rfl rfl rfl ⟨by decide, by decide⟩ (remI (by omega) (by omega))) ?_
         refine X_op' rfl (A_conv rfl rfl rfl rfl rfl (show IntKind.u64.wrap ((m : Int) % 32) = ((m % 32 : Nat) : Int) by rw [wU (by omega) (by omega)]; omega)) ?_
         refine X_op' rfl (A_sh rfl rfl rfl (shlS1 (by omega))) ?_
         have hzm := limb_mod uz hzk hQ
         have hzd := U32_getD uz (m / 32)
         obtain ⟨hor, hlt⟩ := orS (s := m % 32) (by omega) hzd.1 hzd.2 hzm
         rw [show m / 32 = 0 + ((m : Int) / 32).toNat by omega] at hor
         refine X_op' rfl (A_int rfl rfl rfl ⟨by decide, by decide⟩ hor) ?_
         refine X_op' rfl (A_ixO rfl rfl rfl rfl rfl rfl rfl (by omega) (by omega)) ?_
         refine X_op' rfl (A_stR 0 rfl rfl rfl (V_t rfl) (K_t rfl) rfl rfl (by first | omega | (simp only [List.length_set]; omega)) rfl rfl rfl rfl rfl rfl) ?_
         refine X_end ?_
         try dsimp only [St.put, szA, List.length, Nat.reduceAdd]
         refine Q_blkN ?_
         refine Q_seq ?_
         refine W_reg ?_
         refine xm rfl rfl rfl rfl ?_
         refine X_op' rfl (A_int rfl rfl rfl ⟨by decide, by decide⟩ (subI (by omega))) ?_
         refine xa rfl rfl rfl rfl ?_
         refine X_end ?_
         try dsimp only [St.put, szA, List.length, Nat.reduceAdd]
         have hst := (bits_step (A1 := nv l / 2 ^ (m + 1)) (b := 0) hkp (by omega) hA1).2 (by omega)
         simp only [Int.add_zero] at hst
         have hA9 : nv l / 2 ^ m = 2 * (nv l / 2 ^ (m + 1)) := by omega
         rw [← hA9] at hst
         have hze : (z.set (0 + ((m : Int) / 32).toNat) (z.getD (0 + ((m : Int) / 32).toNat) 0 + 2 ^ (m % 32))) = z.set (m / 32) (z.getD (m / 32) 0 + 2 ^ (m % 32)) := by rw [show 0 + ((m : Int) / 32).toNat = m / 32 by omega]
         refine ⟨m, by omega, m, z.set (m / 32) (z.getD (m / 32) 0 + 2 ^ (m % 32)), by omega, by rw [List.length_set]; exact hz, U32_set uz _ (by have := pow_pos' (m % 32); have := U32_getD uz (m / 32); omega) hlt, ?_, rfl, .inr (Eq.trans (b := st91 l (tr k) (z.set (0 + ((m : Int) / 32).toNat) (z.getD (0 + ((m : Int) / 32).toNat) 0 + 2 ^ (m % 32))) (.t (tn (if nv k ≤ (2 * (nv l / 2 ^ (m + 1) % nv k)) then en ((2 * (nv l / 2 ^ (m + 1) % nv k)) - nv k) else []))) ((m : Int) - 1)) (by kernel_rfl) (by rw [(if_pos (by omega) : (if nv k ≤ (2 * (nv l / 2 ^ (m + 1) % nv k)) then en ((2 * (nv l / 2 ^ (m + 1) % nv k)) - nv k) else []) = en ((2 * (nv l / 2 ^ (m + 1) % nv k)) - nv k)), hze, hst.2]))⟩
         rw [set_bit hzk, hQ, hst.1, Int.pow_succ]
         grind
        ·have khb19 := hb19; (try simp only [kb] at khb19)
         refine W_skip ?_
         refine Q_blkN ?_
         refine Q_seq ?_
         refine W_reg ?_
         refine xm rfl rfl rfl rfl ?_
         refine X_op' rfl (A_int rfl rfl rfl ⟨by decide, by decide⟩ (subI (by omega))) ?_
         refine xa rfl rfl rfl rfl ?_
         refine X_end ?_
         try dsimp only [St.put, szA, List.length, Nat.reduceAdd]
         have hst := (bits_step (A1 := nv l / 2 ^ (m + 1)) (b := 0) hkp (by omega) hA1).1 (by omega)
         simp only [Int.add_zero] at hst
         have hA9 : nv l / 2 ^ m = 2 * (nv l / 2 ^ (m + 1)) := by omega
         rw [← hA9] at hst
         refine ⟨m, by omega, m, z, by omega, hz, uz, ?_, rfl, .inr (Eq.trans (b := st91 l (tr k) z (.t (tn (en (2 * (nv l / 2 ^ (m + 1) % nv k))))) ((m : Int) - 1)) (by kernel_rfl) (by rw [hst.2]))⟩
         rw [hQ, hst.1, Int.pow_succ]
         grind
      ·have khb16 := hb16; (try simp only [kb] at khb16)
       refine W_exit ?_
       refine Q_seqX ?_
       refine Q_rndX ?_
       refine Q_blkE ?_
       refine Q_seq ?_
       refine wsr ?_
       have hj0 : j = 0 := by omega
       subst hj0
       refine X_op' rfl (A_mvM (.inl rfl) rfl) ?_
       refine X_op' rfl (A_callV rfl rfl rfl rfl (.cons (V_m rfl rfl rfl (by rw [cn_length, hz]; exact e1.symm)) (K_m rfl) .nil) (c90 uz (by omega))) ?_
       refine xm rfl rfl rfl rfl ?_
       refine X_op' rfl (A_callV rfl rfl rfl rfl (.cons (V_t rfl) (K_t rfl) .nil) (c90 (U32_en _) (by have := en_length (z := nv l / 2 ^ 0 % nv k) (k := k.length) (by have := Int.emod_lt_of_pos (nv l / 2 ^ 0) hkp; omega); omega))) ?_
       refine xa rfl rfl rfl rfl ?_
       refine xa rfl rfl rfl rfl ?_
       refine xa rfl rfl rfl rfl ?_
       refine X_endS ?_
       try dsimp only [St.put, szA, List.length, Nat.reduceAdd]
       refine W_ret ?_
       rw [Int.pow_zero, Int.one_mul, Int.ediv_one] at hQ
       skip
       have hr : divR l k = .ts [tn (tr z), tn (tr (en (nv l / 2 ^ 0 % nv k))), .v (.bool true)] := by
         rw [divR, if_neg hkz, tr_eq_en uz, hQ, tr_en, Int.pow_zero, Int.ediv_one]
       rw [hr]
       exact end_R rfl (.t rfl (.t rfl (.t rfl .nil)))
  exact (if_pos rfl).trans (run _ (by simp only [fu91]; omega) _ rfl)
theorem c91' {l k : List Int} (h : U32 l) (hl : l.length ≤ 17179869184) (h' : U32 k) (hk : k.length ≤ 17179869184) (h0 : nv k ≠ 0) : g91 [tn l, tn k] = some (.ts [tn (en (nv l / nv k)), tn (en (nv l % nv k)), .v (.bool true)]) := by
  rw [c91 h hl h' hk, divR, if_neg h0]
def st106 (x y : Int) : St := { tm := [(0, .t (tn (en x))), (1, .t (tn (en y)))], mm := [], nx := 0 }
def keep106 : Nat → List Nat := fun _ => [0, 1]
noncomputable def sp106 : Nat → Option Spec := (more 90 (viewSpec g90) (more 91 (viewSpec g91) noneS))
theorem hs106 : ∀ f s, sp106 f = some s → SpecOk Tryz.prog f s := (more_ok s90 (more_ok s91 none_ok))
noncomputable def fu106 : List T → Nat := fun ts => match ts with | [_, t] => (match decN t with | some k => (nv k).toNat | none => 0) + 18446744073709551617 | _ => 0
noncomputable def g106 : List T → Option Ret := fun ts => if ts.length = 2 then pureRun ty sp106 keep106 (fu106 ts) false Tryz.f106.results (Tryz.f106.body.getD .skip) ts else none
theorem s106 : SpecOk Tryz.prog 106 (viewSpec g106) := pure_ok mixed ty_ok hs106 Tryz.func106 rfl (by kernel_rfl) (enters_of Tryz.func106 (by kernel_rfl) rfl) keep106 fu106 false 2 (by decide)
set_option maxHeartbeats 4000000 in
theorem c106 {l k : List Int} (h : U32 l) (hl : l.length ≤ 17179869184) (h' : U32 k) (hk : k.length ≤ 17179869184) : g106 [tn l, tn k] = some (.ts [tn (en (igcd (nv l) (nv k)))]) := by
  have run : ∀ (fuel : Nat) (hf : (nv k).toNat + 18446744073709551616 < fuel) (c : Code) (hc : Tryz.f106.body = some c), pureRun ty sp106 keep106 fuel false Tryz.f106.results c [tn l, tn k] = some (.ts [tn (en (igcd (nv l) (nv k)))]) := by
   intro fuel hf c hc
   injection hc with hc
   subst hc
   have el : tr l = en (nv l) := tr_eq_en h
   have ek : tr k = en (nv k) := tr_eq_en h'
   have b1 := tr_length l
   have b2 := tr_length k
   have p1 := nv_nonneg h
   have p2 := nv_nonneg h'
   refine pure_wc ?_
   refine wsr ?_
   refine X_op' rfl (A_mv0 (.inr rfl) rfl rfl rfl rfl) ?_
   refine X_endS ?_
   try dsimp only [St.put, szA, List.length, Nat.reduceAdd]
   refine wsr ?_
   refine xm rfl rfl rfl rfl ?_
   refine X_op' rfl (A_callV rfl rfl rfl rfl (.cons (V_t rfl) (K_t rfl) .nil) (c90 h (by omega))) ?_
   refine xm rfl rfl rfl rfl ?_
   refine X_op' rfl (A_callV rfl rfl rfl rfl (.cons (V_t rfl) (K_t rfl) .nil) (c90 h' (by omega))) ?_
   refine xa rfl rfl rfl rfl ?_
   refine xa rfl rfl rfl rfl ?_
   refine X_endS ?_
   try dsimp only [St.put, szA, List.length, Nat.reduceAdd]
   refine W_seq ?_
   refine W_blk ?_
   refine W_loop (fun nn σ => ∃ x y : Int, 0 ≤ x ∧ 0 ≤ y ∧ (en x).length ≤ 17179869184 ∧ (en y).length ≤ 17179869184 ∧ igcd x y = igcd (nv l) (nv k) ∧ σ = st106 x y ∧ nn = y.toNat) ((nv k).toNat) ?_ ?_ (by omega)
   rotate_left
   · exact ⟨nv l, nv k, p1, p2, (by rw [← el]; omega), (by rw [← ek]; omega), rfl, Eq.trans (b := { tm := [(0, .t (tn (tr l))), (1, .t (tn (tr k)))], mm := [], nx := 0 }) (by kernel_rfl) (by rw [el, ek]; rfl), rfl⟩
   rintro nn _ ⟨x, y, hx0, hy0, lx, ly, hg, rfl, hnn⟩
   have e1 := cn_length (en x)
   have e2 := cn_length (en y)
   have ux := U32_en x
   have uy := U32_en y
   have vx := nv_en hx0
   have vy := nv_en hy0
   refine W_seq ?_
   refine wsr ?_
   refine xm rfl rfl rfl rfl ?_
   refine X_op' rfl (A_lenT rfl rfl rfl rfl rfl rfl rfl) ?_
   refine X_op' rfl (A_int rfl rfl rfl ⟨by decide, by decide⟩ rfl) ?_
   refine X_endS ?_
   try dsimp only [St.put, szA, List.length, Nat.reduceAdd]
   refine W_condB rfl (fun hb1 => ?_) (fun hb1 => ?_)
   ·have khb1 := hb1; (try simp only [kb] at khb1)
    refine W_skip ?_
    refine Q_seq ?_
    refine W_blk ?_
    refine wsr ?_
    refine xm rfl rfl rfl rfl ?_
    refine xm rfl rfl rfl rfl ?_
    have hyp : 0 < y := by
      rcases Int.lt_or_le 0 y with h | h
      · exact h
      · exfalso
        have : y = 0 := by omega
        have := en_len0 this
        omega
    refine X_op' rfl (A_callV rfl rfl rfl rfl (.cons (V_t rfl) (K_t rfl) (.cons (V_t rfl) (K_t rfl) .nil)) ((c91' ux (by omega) uy (by omega) (by omega)).trans (show some (Ret.ts [tn (en (nv (en x) / nv (en y))), tn (en (nv (en x) % nv (en y))), .v (.bool true)]) = some (Ret.ts [tn (en (x / y)), tn (en (x % y)), .v (.bool true)]) by rw [vx, vy]))) ?_
    refine X_op' rfl (A_mvU (.inl rfl) rfl) ?_
    refine X_op' rfl (A_ext rfl rfl rfl) ?_
    refine X_op' rfl (A_ext rfl rfl rfl) ?_
    refine X_op' rfl (A_ext rfl rfl rfl) ?_
    refine xa rfl rfl rfl rfl ?_
    refine xa rfl rfl rfl rfl ?_
    refine xa rfl rfl rfl rfl ?_
    refine X_endS ?_
    try dsimp only [St.put, szA, List.length, Nat.reduceAdd]
    refine W_reg ?_
    refine xm rfl rfl rfl rfl ?_
    refine xm rfl rfl rfl rfl ?_
    refine xa rfl rfl rfl rfl ?_
    refine xa rfl rfl rfl rfl ?_
    refine X_end ?_
    try dsimp only [St.put, szA, List.length, Nat.reduceAdd]
    refine Q_blkN ?_
    have hm0 : 0 ≤ x % y := Int.emod_nonneg _ (by omega)
    have hm1 : x % y < y := Int.emod_lt_of_pos _ (by omega)
    exact ⟨(x % y).toNat, by omega, y, x % y, hy0, hm0, ly, (by rw [en_len_P] at ly ⊢; omega), (by rw [igcd_step hx0 hy0]; exact hg), by kernel_rfl, rfl⟩
   ·have khb1 := hb1; (try simp only [kb] at khb1)
    refine W_exit ?_
    refine Q_seqX ?_
    refine Q_rndX ?_
    refine Q_blkE ?_
    refine Q_seq ?_
    refine wsr ?_
    refine xm rfl rfl rfl rfl ?_
    refine xa rfl rfl rfl rfl ?_
    refine X_endS ?_
    try dsimp only [St.put, szA, List.length, Nat.reduceAdd]
    refine W_ret ?_
    have hy1 : y = 0 := (en_nil_of_length hy0).1 (by omega)
    have hr : igcd (nv l) (nv k) = x := by rw [← hg, hy1, igcd_zero x hx0]
    rw [hr]
    exact end_R rfl (.t rfl .nil)
  exact (if_pos rfl).trans (run _ (by simp only [fu106, decN_tn h' (show k.length ≤ 1099511627776 by omega)]; exact Nat.add_lt_add_left (by decide) _) _ rfl)
end Go.Ev.S
